import PyProof.Rows.All
import Wide.All
import OpenK.AllK
import Wide.FinOn
import HandS.ForMost
import HandS.Wide
import HandS.IsInst
import HandS.Conv
import HandS.Exc
import HandS.WordsExc
import HandS.Slots
import HandS.HeadHook4
import HandS.Lambda
import HandS.TupAny
import HandS.Style
import KE.SortData
import HandS.SetFor
import HandS.Strs
import HandS.SortInts
import HandS.Rev
import HandS.AnyAll
import HandS.GenOver
import HandS.Iter
import HandS.IterVal
import PyProof.CodeObjX
import KE.KDictIter
import HandS.HeadWalk
import HandS.Head2
import HandS.RaiseMore
import PyProof.Rows.NestShow
import HandS.TupMul
import HandS.Zip
import HandS.Star
import KE.GoesMore
import PyProof.NeKinds
import PyProof.NeData
import HandS.DictEq
import KE.GoesEnumKw
import KE.KTurns
import HandS.TryOnly
import HandS.ExcOwn
import PySem.Challenge.RW_fewnames_k36_whole_barred_numbers_and_pa
set_option Elab.async false
set_option linter.all false
set_option maxRecDepth 100000
set_option maxHeartbeats 0
/-! A layer of values as data: what an expression, a statement, a def computes, as plain functions over trees. -/
namespace M
open PySem PySem.Spec PyProof.Rows L2
/-- the tables of code objects that stand -/
class Tabs where
  T : List Addr
  /-- those of defs that make lambdas, with their codes' name -/
  L : List (Addr × Str) := []

/-! ### data -/
inductive D where
  | non | bl (b : Bool) | int (i : Int) | str (x : Str) | tup (xs : List D) | lst (xs : List D) | scr (ns : List Int) | con (v : V) | dic (ks ds : List D) | ins (c : Str) (fs : List D)

mutual
def Rep (K : PySem.W.Frag) (G : Hp) : D → V → Prop
  | .non, v => v = .non
  | .bl b, v => v = .bl b
  | .int i, v => v = .int i
  | .str x, v => v = .str x
  | .con u, v => v = u
  | .tup ds, v => ∃ a vs, v = .ref a ∧ SqT K G a vs ∧ Reps K G ds vs
  | .lst ds, v => ∃ a vs, v = .ref a ∧ G a = some (.lst vs) ∧ Reps K G ds vs
  | .scr ns, v => ∃ a, v = .ref a ∧ SqL K G a (ns.map V.int)
  | .dic ks ds, v => ∃ (a : Addr) (us : List Key) (vs : List V), v = .ref a ∧ us.length = vs.length ∧ G a = some (.dK (us.zip vs)) ∧ Reps K G ks (us.map kV) ∧ Reps K G ds vs
  | .ins c fs, v => ∃ a dx vs, v = .ref a ∧ G a = some (SlX.SlO a (He.ga K c) dx (vs.map some)) ∧ G dx = some (.xd []) ∧ Reps K G fs vs
def Reps (K : PySem.W.Frag) (G : Hp) : List D → List V → Prop
  | [], vs => vs = []
  | d :: ds, vs => ∃ v r, vs = v :: r ∧ Rep K G d v ∧ Reps K G ds r
end

theorem Rd.mono {H H' : Hp} {a : Addr} {u : HO} (s : Same H H') (h : Rd H a u) : Rd H' a u := by
  rcases h with h | ⟨o, h⟩
  · exact .inl (s _ _ h)
  · exact .inr ⟨o, s _ _ h⟩
theorem SqL.mono {K : PySem.W.Frag} {H H' : Hp} {a : Addr} {xs : List V} (s : Same H H') (h : SqL K H a xs) : SqL K H' a xs := h.imp (Rd.mono s) id
theorem SqT.mono {K : PySem.W.Frag} {H H' : Hp} {a : Addr} {xs : List V} (s : Same H H') (h : SqT K H a xs) : SqT K H' a xs := h.imp (Rd.mono s) id
mutual
theorem Rep.mono {K : PySem.W.Frag} {G G' : Hp} (s : Same G G') : ∀ (d : D) (v : V), Rep K G d v → Rep K G' d v
  | .non, v, h => by simpa only [Rep] using h
  | .bl b, v, h => by simpa only [Rep] using h
  | .int i, v, h => by simpa only [Rep] using h
  | .str x, v, h => by simpa only [Rep] using h
  | .con u, v, h => by simpa only [Rep] using h
  | .tup ds, v, h => by
    simp only [Rep] at h ⊢
    obtain ⟨a, vs, e, q, r⟩ := h
    exact ⟨a, vs, e, SqT.mono s q, Reps.mono s ds vs r⟩
  | .lst ds, v, h => by
    simp only [Rep] at h ⊢
    obtain ⟨a, vs, e, q, r⟩ := h
    exact ⟨a, vs, e, s _ _ q, Reps.mono s ds vs r⟩
  | .scr ns, v, h => by
    simp only [Rep] at h ⊢
    obtain ⟨a, e, q⟩ := h
    exact ⟨a, e, SqL.mono s q⟩
  | .dic ks ds, v, h => by
    simp only [Rep] at h ⊢
    obtain ⟨a, us, vs, e, l, q, r1, r2⟩ := h
    exact ⟨a, us, vs, e, l, s _ _ q, Reps.mono s ks _ r1, Reps.mono s ds _ r2⟩
  | .ins c fs, v, h => by
    simp only [Rep] at h ⊢
    obtain ⟨a, dx, vs, e, q1, q2, r⟩ := h
    exact ⟨a, dx, vs, e, s _ _ q1, s _ _ q2, Reps.mono s fs _ r⟩
theorem Reps.mono {K : PySem.W.Frag} {G G' : Hp} (s : Same G G') : ∀ (ds : List D) (vs : List V), Reps K G ds vs → Reps K G' ds vs
  | [], vs, h => by simpa only [Reps] using h
  | d :: ds, vs, h => by
    simp only [Reps] at h ⊢
    obtain ⟨v, r, e, h1, h2⟩ := h
    exact ⟨v, r, e, Rep.mono s d v h1, Reps.mono s ds r h2⟩
end
theorem Reps.length {K : PySem.W.Frag} {G : Hp} : ∀ {ds : List D} {vs : List V}, Reps K G ds vs → vs.length = ds.length
  | [], vs, h => by simp only [Reps] at h; subst h; rfl
  | d :: ds, vs, h => by
    simp only [Reps] at h
    obtain ⟨v, r, rfl, _, h2⟩ := h
    rw [List.length_cons, List.length_cons, Reps.length h2]
theorem Reps.nil {K : PySem.W.Frag} {G : Hp} : Reps K G [] [] := by simp only [Reps]
theorem Reps.cons {K : PySem.W.Frag} {G : Hp} {d : D} {v : V} {ds : List D} {vs : List V} (h : Rep K G d v) (t : Reps K G ds vs) : Reps K G (d :: ds) (v :: vs) := by
  simp only [Reps]; exact ⟨v, vs, rfl, h, t⟩
theorem Reps.append {K : PySem.W.Frag} {G : Hp} : ∀ {ds es : List D} {vs us : List V}, Reps K G ds vs → Reps K G es us → Reps K G (ds ++ es) (vs ++ us)
  | [], es, vs, us, h, t => by simp only [Reps] at h; subst h; exact t
  | d :: ds, es, vs, us, h, t => by
    simp only [Reps] at h
    obtain ⟨v, r, rfl, h1, h2⟩ := h
    exact Reps.cons h1 (Reps.append h2 t)
theorem Reps.get {K : PySem.W.Frag} {G : Hp} : ∀ {ds : List D} {vs : List V} {i : Nat} {d : D}, Reps K G ds vs → ds[i]? = some d → ∃ v, vs[i]? = some v ∧ Rep K G d v
  | [], vs, i, d, h, e => by simp at e
  | c :: ds, vs, 0, d, h, e => by
    simp only [Reps] at h
    obtain ⟨v, r, rfl, h1, h2⟩ := h
    simp at e; subst e
    exact ⟨v, rfl, h1⟩
  | c :: ds, vs, i + 1, d, h, e => by
    simp only [Reps] at h
    obtain ⟨v, r, rfl, h1, h2⟩ := h
    simp at e
    obtain ⟨u, e1, e2⟩ := Reps.get h2 e
    exact ⟨u, by simpa using e1, e2⟩
theorem Reps.getV {K : PySem.W.Frag} {G : Hp} : ∀ {ds : List D} {vs : List V} {i : Nat} {v : V}, Reps K G ds vs → vs[i]? = some v → ∃ d, ds[i]? = some d ∧ Rep K G d v
  | [], vs, i, v, h, e => by simp only [Reps] at h; subst h; simp at e
  | c :: ds, vs, 0, v, h, e => by
    simp only [Reps] at h
    obtain ⟨u, r, rfl, h1, h2⟩ := h
    simp at e; subst e
    exact ⟨c, rfl, h1⟩
  | c :: ds, vs, i + 1, v, h, e => by
    simp only [Reps] at h
    obtain ⟨u, r, rfl, h1, h2⟩ := h
    simp at e
    obtain ⟨u, e1, e2⟩ := Reps.getV h2 e
    exact ⟨u, by simpa using e1, e2⟩
theorem Reps.take {K : PySem.W.Frag} {G : Hp} : ∀ {ds : List D} {vs : List V} (n : Nat), Reps K G ds vs → Reps K G (ds.take n) (vs.take n)
  | ds, vs, 0, h => by simp only [List.take_zero]; exact Reps.nil
  | [], vs, n + 1, h => by simp only [Reps] at h; subst h; exact Reps.nil
  | d :: ds, vs, n + 1, h => by
    simp only [Reps] at h
    obtain ⟨v, r, rfl, h1, h2⟩ := h
    exact Reps.cons h1 (Reps.take n h2)
theorem Reps.drop {K : PySem.W.Frag} {G : Hp} : ∀ {ds : List D} {vs : List V} (n : Nat), Reps K G ds vs → Reps K G (ds.drop n) (vs.drop n)
  | ds, vs, 0, h => h
  | [], vs, n + 1, h => by simp only [Reps] at h; subst h; exact Reps.nil
  | d :: ds, vs, n + 1, h => by
    simp only [Reps] at h
    obtain ⟨v, r, rfl, h1, h2⟩ := h
    exact Reps.drop n h2
theorem Reps.set {K : PySem.W.Frag} {G : Hp} : ∀ {ds : List D} {vs : List V} {d : D} {v : V} (i : Nat), Rep K G d v → Reps K G ds vs → Reps K G (ds.set i d) (vs.set i v)
  | [], vs, d, v, i, r, h => by simp only [Reps] at h; subst h; exact Reps.nil
  | c :: ds, vs, d, v, 0, r, h => by
    simp only [Reps] at h
    obtain ⟨u, t, rfl, h1, h2⟩ := h
    exact Reps.cons r h2
  | c :: ds, vs, d, v, i + 1, r, h => by
    simp only [Reps] at h
    obtain ⟨u, t, rfl, h1, h2⟩ := h
    exact Reps.cons h1 (Reps.set i r h2)
theorem Reps.reverse {K : PySem.W.Frag} {G : Hp} : ∀ {ds : List D} {vs : List V}, Reps K G ds vs → Reps K G ds.reverse vs.reverse
  | [], vs, h => by simp only [Reps] at h; subst h; exact Reps.nil
  | d :: ds, vs, h => by
    simp only [Reps] at h
    obtain ⟨v, r, rfl, h1, h2⟩ := h
    rw [List.reverse_cons, List.reverse_cons]
    exact Reps.append (Reps.reverse h2) (Reps.cons h1 Reps.nil)
theorem Reps.ints {K : PySem.W.Frag} {G : Hp} : ∀ {ns : List Int} {vs : List V}, Reps K G (ns.map D.int) vs → vs = ns.map V.int
  | [], vs, h => by simp only [List.map_nil, Reps] at h; exact h
  | n :: ns, vs, h => by
    simp only [List.map_cons, Reps, Rep] at h
    obtain ⟨v, r, rfl, rfl, h2⟩ := h
    rw [Reps.ints h2, List.map_cons]
theorem Reps.of_ints {K : PySem.W.Frag} {G : Hp} : ∀ (ns : List Int), Reps K G (ns.map D.int) (ns.map V.int)
  | [] => Reps.nil
  | n :: ns => Reps.cons (by simp only [Rep]) (Reps.of_ints ns)

/-! ### the names' values as data -/
/-- a name holds data, or a list of its own, which no other holds (io: one that was handed in and is handed back; such a name is never bound anew) -/
inductive Sl where
  | dat (d : D) | own (io : Bool) (ds : List D)
abbrev Rho := List (Option Sl)
def SlRep (K : PySem.W.Frag) (G H : Hp) : Option Sl → Option V → Prop
  | none, _ => True
  | some (.dat d), o => ∃ v, o = some v ∧ Rep K G d v
  | some (.own _ ds), o => ∃ a vs, o = some (.ref a) ∧ H a = some (.lst vs) ∧ G a = none ∧ Reps K G ds vs
def OwnAt (σ : L2.St) (ρ : Rho) (a : Addr) : Prop := ∃ (i : Nat) (io : Bool) (ds : List D), ρ[i]? = some (some (.own io ds)) ∧ σ[i]? = some (some (.ref a))
/-- .. one that was not handed in -/
def OwnN (σ : L2.St) (ρ : Rho) (a : Addr) : Prop := ∃ (i : Nat) (ds : List D), ρ[i]? = some (some (.own false ds)) ∧ σ[i]? = some (some (.ref a))
def isTb : HO → Bool | .tbl _ => true | _ => false
section
variable [Tabs]
/-- a table: as it was, or grown -/
def Grow (H H' : Hp) : Prop := ∀ a ps, H a = some (.tbl ps) → ∃ qs, H' a = some (.tbl qs) ∧ (TriplesOk ps.toList → TriplesOk qs.toList) ∧ ∀ q, (a, q) ∈ Tabs.L → LamX.TabS H a q → LamX.TabS H' a q
theorem codeO_lst {c : Addr} {q : Str} (us : List V) : LamX.CodeO c q ≠ .lst us := fun z => by
  unfold LamX.CodeO at z
  cases z
theorem tabS_to {H H' : Hp} {a : Addr} {q : Str} (t : LamX.TabS H a q) (e1 : ∀ ps, H a = some (.tbl ps) → H' a = some (.tbl ps)) (e2 : ∀ c, H c = some (LamX.CodeO c q) → H' c = some (LamX.CodeO c q)) : LamX.TabS H' a q := by
  obtain ⟨ps, h1, h2, h3⟩ := t
  refine ⟨ps, e1 ps h1, h2, fun pos cv hc => ?_⟩
  obtain ⟨c, e3, e4⟩ := h3 pos cv hc
  exact ⟨c, e3, e2 c e4⟩
theorem Grow.refl (H : Hp) : Grow H H := fun _ ps h => ⟨ps, h, id, fun _ _ z => z⟩
theorem Grow.trans {H H1 H2 : Hp} (a : Grow H H1) (b : Grow H1 H2) : Grow H H2 := fun x ps h => by
  obtain ⟨qs, h1, f, f'⟩ := a x ps h
  obtain ⟨rs, h2, g, g'⟩ := b x qs h1
  exact ⟨rs, h2, fun z => g (f z), fun q m z => g' q m (f' q m z)⟩
structure SR (K : PySem.W.Frag) (G H : Hp) (σ : L2.St) (ρ : Rho) : Prop where
  tab : ∀ P ∈ Tabs.T, (∃ ps, H P = some (.tbl ps) ∧ TriplesOk ps.toList) ∧ G P = none
  lam : ∀ p ∈ Tabs.L, LamX.TabS H p.1 p.2
  len : ρ.length = σ.length
  sub : Same G H
  slot : ∀ (i : Nat) (s : Option Sl) (o : Option V), ρ[i]? = some s → σ[i]? = some o → SlRep K G H s o
  inj : ∀ (i j : Nat) (io jo : Bool) (ds es : List D) (a : Addr), ρ[i]? = some (some (.own io ds)) → ρ[j]? = some (some (.own jo es)) → σ[i]? = some (some (.ref a)) → σ[j]? = some (some (.ref a)) → i = j
/-- a step: what is seen grows, what is not one's own is kept -/
structure Stp (σ : L2.St) (ρ : Rho) (G H : Hp) (σ' : L2.St) (ρ' : Rho) (G' H' : Hp) : Prop where
  sub : Same G G'
  new : ∀ a, H a ≠ none → ¬ OwnAt σ ρ a → G' a = G a
  keep : ∀ a o, H a = some o → ¬ OwnAt σ ρ a → isTb o = false → H' a = some o
  grow : Grow H H'
  dom : ∀ a, H a ≠ none → H' a ≠ none
  own : ∀ a, OwnAt σ' ρ' a → OwnAt σ ρ a ∨ H a = none
  ownN : ∀ a, OwnN σ' ρ' a → OwnN σ ρ a ∨ H a = none
  stay : ∀ (i : Nat) (ds : List D), ρ[i]? = some (some (.own true ds)) → σ'[i]? = σ[i]? ∧ ∃ es, ρ'[i]? = some (some (.own true es))
theorem Stp.refl (σ : L2.St) (ρ : Rho) (G H : Hp) : Stp σ ρ G H σ ρ G H := ⟨fun _ _ h => h, fun _ _ _ => rfl, fun _ _ h _ _ => h, Grow.refl _, fun _ h => h, fun _ h => .inl h, fun _ h => .inl h, fun _ ds h => ⟨rfl, ds, h⟩⟩
theorem Stp.trans {σ σ1 σ2 : L2.St} {ρ ρ1 ρ2 : Rho} {G H G1 H1 G2 H2 : Hp} (a : Stp σ ρ G H σ1 ρ1 G1 H1) (b : Stp σ1 ρ1 G1 H1 σ2 ρ2 G2 H2) : Stp σ ρ G H σ2 ρ2 G2 H2 where
  sub := fun x o h => b.sub x o (a.sub x o h)
  new := fun x h n => by
    rw [b.new x (a.dom x h) fun z => (a.own x z).elim n h, a.new x h n]
  keep := fun x o h n t => b.keep x o (a.keep x o h n t) (fun z => (a.own x z).elim n fun e => by rw [e] at h; cases h) t
  grow := a.grow.trans b.grow
  dom := fun x h => b.dom x (a.dom x h)
  own := fun x h => by
    rcases b.own x h with z | z
    · exact a.own x z
    · right
      cases q : H x with
      | none => rfl
      | some o => exact absurd z (a.dom x (by rw [q]; exact fun z => by cases z))
  ownN := fun x h => by
    rcases b.ownN x h with z | z
    · exact a.ownN x z
    · right
      cases q : H x with
      | none => rfl
      | some o => exact absurd z (a.dom x (by rw [q]; exact fun z => by cases z))
  stay := fun i ds h => by
    obtain ⟨e1, es, h1⟩ := a.stay i ds h
    obtain ⟨e2, fs, h2⟩ := b.stay i es h1
    exact ⟨e2.trans e1, fs, h2⟩
/-- a step that changes nothing that stood -/
structure PStp (G H G' H' : Hp) : Prop where
  sub : Same G G'
  new : ∀ a, H a ≠ none → G' a = G a
  keep : ∀ a o, H a = some o → isTb o = false → H' a = some o
  grow : Grow H H'
  le : Same G' H'
theorem PStp.refl {G H : Hp} (h : Same G H) : PStp G H G H := ⟨fun _ _ h => h, fun _ _ => rfl, fun _ _ h _ => h, Grow.refl _, h⟩
theorem PStp.dom {G H G' H' : Hp} (h : PStp G H G' H') {a : Addr} (n : H a ≠ none) : H' a ≠ none := by
  cases q : H a with
  | none => exact absurd q n
  | some o =>
    cases t : isTb o with
    | false => rw [h.keep a o q t]; exact fun z => by cases z
    | true =>
      cases o with
      | tbl ps => obtain ⟨qs, e, _⟩ := h.grow a ps q; rw [e]; exact fun z => by cases z
      | _ => cases t
theorem PStp.trans {G H G1 H1 G2 H2 : Hp} (a : PStp G H G1 H1) (b : PStp G1 H1 G2 H2) : PStp G H G2 H2 where
  sub := fun x o h => b.sub x o (a.sub x o h)
  new := fun x h => by rw [b.new x (a.dom h), a.new x h]
  keep := fun x o h t => b.keep x o (a.keep x o h t) t
  grow := a.grow.trans b.grow
  le := b.le
theorem same_upd {H : Hp} {p : Addr} {o : HO} (h : H p = none) : Same H (upd H p o) := fun b x e => by
  rw [upd_ne (ne_of_none e h)]; exact e
/-- a new object, seen -/
theorem PStp.laid {G H : Hp} {p : Addr} {o : HO} (h : Same G H) (n : H p = none) : PStp G H (upd G p o) (upd H p o) where
  sub := same_upd (h.free n)
  new := fun a ha => upd_ne fun e => ha (by rw [e]; exact n)
  keep := fun a x e _ => same_upd n a x e
  grow := fun a ps e => ⟨ps, same_upd n a _ e, id, fun q _ z => z.ext fun b x e => same_upd n b x e⟩
  le := fun a x e => by
    by_cases z : a = p
    · subst z; rw [upd_same] at e ⊢; exact e
    · rw [upd_ne z] at e ⊢; exact h a x e
theorem PStp.stp {σ : L2.St} {ρ : Rho} {G H G' H' : Hp} (h : PStp G H G' H') : Stp σ ρ G H σ ρ G' H' where
  sub := h.sub
  new := fun a ha _ => h.new a ha
  keep := fun a o e _ t => h.keep a o e t
  grow := h.grow
  dom := fun a ha => h.dom ha
  own := fun _ z => .inl z
  ownN := fun _ z => .inl z
  stay := fun _ ds h => ⟨rfl, ds, h⟩
theorem SlRep.pure {K : PySem.W.Frag} {G H G' H' : Hp} (h : PStp G H G' H') {s : Option Sl} {o : Option V} (r : SlRep K G H s o) : SlRep K G' H' s o := by
  match s, r with
  | none, _ => trivial
  | some (.dat d), ⟨v, e, r⟩ => exact ⟨v, e, Rep.mono h.sub _ _ r⟩
  | some (.own _ ds), ⟨a, vs, e, e2, e3, r⟩ => exact ⟨a, vs, e, h.keep _ _ e2 rfl, (h.new a (by rw [e2]; exact fun z => by cases z)).trans e3, Reps.mono h.sub _ _ r⟩
end
/-! ### values made plain: the same, for the evaluation's sake -/
def frcI {α : Type} (i : Int) (k : Int → α) : α := match i with
  | .ofNat 0 => k (.ofNat 0)
  | .ofNat (n + 1) => k (.ofNat (n + 1))
  | .negSucc 0 => k (.negSucc 0)
  | .negSucc (n + 1) => k (.negSucc (n + 1))
theorem frcI_eq {α : Type} (i : Int) (k : Int → α) : frcI i k = k i := by
  rcases i with (_ | n) | (_ | n) <;> rfl
mutual
def frc {α : Type} : D → (D → α) → α
  | .int i, k => frcI i fun j => k (.int j)
  | .bl b, k => (match b with | true => k (.bl true) | false => k (.bl false))
  | .tup ds, k => frcM ds fun es => k (.tup es)
  | .lst ds, k => frcM ds fun es => k (.lst es)
  | .dic ks ds, k => frcM ks fun es => frcM ds fun fs => k (.dic es fs)
  | .ins c ds, k => frcM ds fun es => k (.ins c es)
  | d, k => k d
def frcM {α : Type} : List D → (List D → α) → α
  | [], k => k []
  | d :: ds, k => frc d fun e => frcM ds fun es => k (e :: es)
end
mutual
theorem frc_eq {α : Type} : ∀ (d : D) (k : D → α), frc d k = k d
  | .int i, k => by simp only [frc, frcI_eq]
  | .bl b, k => by cases b <;> simp only [frc]
  | .tup ds, k => by simp only [frc]; exact frcM_eq ds _
  | .lst ds, k => by simp only [frc]; exact frcM_eq ds _
  | .non, k => by simp only [frc]
  | .str _, k => by simp only [frc]
  | .scr _, k => by simp only [frc]
  | .con _, k => by simp only [frc]
  | .dic ks ds, k => by simp only [frc]; rw [frcM_eq ks, frcM_eq ds]
  | .ins c ds, k => by simp only [frc]; exact frcM_eq ds _
theorem frcM_eq {α : Type} : ∀ (ds : List D) (k : List D → α), frcM ds k = k ds
  | [], k => by simp only [frcM]
  | d :: ds, k => by simp only [frcM]; rw [frc_eq d, frcM_eq ds]
end
/-- a list's spine -/
def frcL {α β : Type} : List β → (List β → α) → α
  | [], k => k []
  | d :: ds, k => frcL ds fun es => k (d :: es)
theorem frcL_eq {α β : Type} : ∀ (ds : List β) (k : List β → α), frcL ds k = k ds
  | [], k => rfl
  | d :: ds, k => by unfold frcL; rw [frcL_eq ds]
def frcS {α : Type} : Sl → (Sl → α) → α
  | .dat d, k => k (.dat d)
  | .own io ds, k => frcL ds fun es => k (.own io es)
theorem frcS_eq {α : Type} : ∀ (s : Sl) (k : Sl → α), frcS s k = k s
  | .dat d, k => rfl
  | .own io ds, k => frcL_eq ds (fun es => k (.own io es))
/-- .. to the ground -/
def frcT {α : Type} : Sl → (Sl → α) → α
  | .dat d, k => frc d fun e => k (.dat e)
  | .own io ds, k => frcM ds fun es => k (.own io es)
theorem frcT_eq {α : Type} : ∀ (s : Sl) (k : Sl → α), frcT s k = k s
  | .dat d, k => frc_eq d (fun e => k (.dat e))
  | .own io ds, k => frcM_eq ds (fun es => k (.own io es))
def frcA {α : Type} : List Sl → (List Sl → α) → α
  | [], k => k []
  | s :: r, k => frcT s fun t => frcA r fun r' => k (t :: r')
theorem frcA_eq {α : Type} : ∀ (s : List Sl) (k : List Sl → α), frcA s k = k s
  | [], k => rfl
  | s :: r, k => by unfold frcA; rw [frcT_eq, frcA_eq r]
def nrmR {α : Type} : Rho → (Rho → α) → α
  | [], k => k []
  | none :: r, k => nrmR r fun r' => k (none :: r')
  | some s :: r, k => frcS s fun t => nrmR r fun r' => k (some t :: r')
theorem nrmR_eq {α : Type} : ∀ (ρ : Rho) (k : Rho → α), nrmR ρ k = k ρ
  | [], k => rfl
  | none :: r, k => by unfold nrmR; rw [nrmR_eq r]
  | some s :: r, k => by unfold nrmR; rw [frcS_eq, nrmR_eq r]

variable [Tabs]
theorem SR.tabs' {K : PySem.W.Frag} {G H G' H' : Hp} {σ : L2.St} {ρ : Rho} (I : SR K G H σ ρ) (g : Grow H H') (n : ∀ P, H P ≠ none → (∃ ps, H P = some (.tbl ps)) → G' P = G P) : ∀ P ∈ Tabs.T, (∃ ps, H' P = some (.tbl ps) ∧ TriplesOk ps.toList) ∧ G' P = none := fun P hP => by
  obtain ⟨⟨ps, e, t⟩, e2⟩ := I.tab P hP
  obtain ⟨qs, e3, f, _⟩ := g P ps e
  exact ⟨⟨qs, e3, f t⟩, (n P (by rw [e]; exact fun z => by cases z) ⟨ps, e⟩).trans e2⟩
theorem SR.lam' {K : PySem.W.Frag} {G H H' : Hp} {σ : L2.St} {ρ : Rho} (I : SR K G H σ ρ) (g : Grow H H') : ∀ p ∈ Tabs.L, LamX.TabS H' p.1 p.2 := fun p hp => by
  have z := I.lam p hp
  obtain ⟨ps, e, _⟩ := id z
  obtain ⟨_, _, _, f⟩ := g p.1 ps e
  exact f p.2 hp z
theorem SR.pure {K : PySem.W.Frag} {G H G' H' : Hp} {σ : L2.St} {ρ : Rho} (I : SR K G H σ ρ) (h : PStp G H G' H') : SR K G' H' σ ρ :=
  ⟨I.tabs' h.grow fun P z _ => h.new P z, I.lam' h.grow, I.len, h.le, fun i s o e1 e2 => SlRep.pure h (I.slot i s o e1 e2), I.inj⟩

/-! ### what code computes -/
/-- an exception: its class's name, what it keeps -/
inductive Exn where
  | mk (cls : Str) (arg : Option D)
inductive Rz (α : Type) where
  | ok (a : α) | ex (x : Exn) (ρ : Rho) | no
def Rz.bind {α β : Type} (m : Rz α) (k : α → Rz β) : Rz β := match m with | .ok a => k a | .ex x ρ => .ex x ρ | .no => .no
abbrev FE := Rho → Rz (D × Rho)
abbrev FA := Rho → Rz (List D × Rho)
abbrev FT := Rho → Rz (Bool × Rho)
def ofO (o : Option D) (ρ : Rho) : Rz (D × Rho) := match o with | some d => frc d fun d => .ok (d, ρ) | none => .no
/-- the wish about exceptions -/
abbrev WD (K : PySem.W.Frag) := Exn → Rho → L2.St → Hp → Hp → WX
/-- an expression's reading -/
def rd (K : PySem.W.Frag) (f : FE) : TE := fun σ H Q => ∃ ρ G, SR K G H σ ρ ∧ match f ρ with
  | .ok (d, ρ') => ∀ v H' G', Stp σ ρ G H σ ρ' G' H' → SR K G' H' σ ρ' → Rep K G' d v → Q v H'
  | .ex _ _ => False
  | .no => False
def rdA (K : PySem.W.Frag) (f : FA) : TA := fun σ H Q => ∃ ρ G, SR K G H σ ρ ∧ match f ρ with
  | .ok (ds, ρ') => ∀ vs H' G', Stp σ ρ G H σ ρ' G' H' → SR K G' H' σ ρ' → Reps K G' ds vs → Q vs H'
  | .ex _ _ => False
  | .no => False
def rdT (K : PySem.W.Frag) (f : FT) : TT := fun σ H Q => ∃ ρ G, SR K G H σ ρ ∧ match f ρ with
  | .ok (b, ρ') => ∀ H' G', Stp σ ρ G H σ ρ' G' H' → SR K G' H' σ ρ' → Q b H'
  | .ex _ _ => False
  | .no => False
end M

namespace M
open PySem PySem.Spec L2
variable [Tabs]

/-! ### readings, step by step -/
def rdK (K : PySem.W.Frag) (f : FE) (σ : L2.St) (ρ : Rho) (G H : Hp) (Q : VK) : Prop := match f ρ with
  | .ok (d, ρ') => ∀ v H' G', Stp σ ρ G H σ ρ' G' H' → SR K G' H' σ ρ' → Rep K G' d v → Q v H'
  | .ex _ _ => False
  | .no => False
def rdAK (K : PySem.W.Frag) (f : FA) (σ : L2.St) (ρ : Rho) (G H : Hp) (Q : List V → Hp → Prop) : Prop := match f ρ with
  | .ok (ds, ρ') => ∀ vs H' G', Stp σ ρ G H σ ρ' G' H' → SR K G' H' σ ρ' → Reps K G' ds vs → Q vs H'
  | .ex _ _ => False
  | .no => False
def rdTK (K : PySem.W.Frag) (f : FT) (σ : L2.St) (ρ : Rho) (G H : Hp) (Q : Bool → Hp → Prop) : Prop := match f ρ with
  | .ok (b, ρ') => ∀ H' G', Stp σ ρ G H σ ρ' G' H' → SR K G' H' σ ρ' → Q b H'
  | .ex _ _ => False
  | .no => False
def bnd (fa : FE) (k : D → FE) : FE := fun ρ => (fa ρ).bind fun p => k p.1 p.2
def bndA (fa : FA) (k : List D → FE) : FE := fun ρ => (fa ρ).bind fun p => k p.1 p.2
def bndT (fa : FT) (k : Bool → FE) : FE := fun ρ => (fa ρ).bind fun p => k p.1 p.2
def bnd_T (fa : FE) (k : D → FT) : FT := fun ρ => (fa ρ).bind fun p => k p.1 p.2
def bndT_T (fa : FT) (k : Bool → FT) : FT := fun ρ => (fa ρ).bind fun p => k p.1 p.2

section
variable {K : PySem.W.Frag} {σ : L2.St} {ρ : Rho} {G H : Hp}
theorem rdK_mono {f : FE} {Q Q' : VK} (h : rdK K f σ ρ G H Q) (hq : ∀ v H', Q v H' → Q' v H') : rdK K f σ ρ G H Q' := by
  unfold rdK at h ⊢
  split <;> rename_i e <;> rw [e] at h
  · exact fun v H' G' a b c => hq _ _ (h v H' G' a b c)
  · exact h
  · exact h
theorem rdAK_mono {f : FA} {Q Q' : List V → Hp → Prop} (h : rdAK K f σ ρ G H Q) (hq : ∀ v H', Q v H' → Q' v H') : rdAK K f σ ρ G H Q' := by
  unfold rdAK at h ⊢
  split <;> rename_i e <;> rw [e] at h
  · exact fun v H' G' a b c => hq _ _ (h v H' G' a b c)
  · exact h
  · exact h
theorem rdTK_mono {f : FT} {Q Q' : Bool → Hp → Prop} (h : rdTK K f σ ρ G H Q) (hq : ∀ v H', Q v H' → Q' v H') : rdTK K f σ ρ G H Q' := by
  unfold rdTK at h ⊢
  split <;> rename_i e <;> rw [e] at h
  · exact fun H' G' a b => hq _ _ (h H' G' a b)
  · exact h
  · exact h
theorem rdK_bnd {fa : FE} {k : D → FE} {Q : VK} (h : rdK K (bnd fa k) σ ρ G H Q) :
    rdK K fa σ ρ G H fun v H1 => ∃ d ρ1 G1, Stp σ ρ G H σ ρ1 G1 H1 ∧ SR K G1 H1 σ ρ1 ∧ Rep K G1 d v ∧ rdK K (k d) σ ρ1 G1 H1 Q := by
  unfold rdK at h ⊢
  unfold bnd at h
  cases e : fa ρ with
  | ok p =>
    obtain ⟨d, ρ1⟩ := p
    rw [e] at h
    dsimp only [Rz.bind] at h ⊢
    intro v H1 G1 a b c
    refine ⟨d, ρ1, G1, a, b, c, ?_⟩
    cases e2 : k d ρ1 with
    | ok p2 =>
      obtain ⟨d2, ρ2⟩ := p2
      rw [e2] at h
      dsimp only at h ⊢
      exact fun u H2 G2 a2 b2 c2 => h u H2 G2 (a.trans a2) b2 c2
    | ex _ _ => rw [e2] at h; exact h
    | no => rw [e2] at h; exact h
  | ex _ _ => rw [e] at h; exact h
  | no => rw [e] at h; exact h
theorem rdK_bndT {fa : FT} {k : Bool → FE} {Q : VK} (h : rdK K (bndT fa k) σ ρ G H Q) :
    rdTK K fa σ ρ G H fun b H1 => ∃ ρ1 G1, Stp σ ρ G H σ ρ1 G1 H1 ∧ SR K G1 H1 σ ρ1 ∧ rdK K (k b) σ ρ1 G1 H1 Q := by
  unfold rdK at h
  unfold rdTK
  unfold bndT at h
  cases e : fa ρ with
  | ok p =>
    obtain ⟨d, ρ1⟩ := p
    rw [e] at h
    dsimp only [Rz.bind] at h ⊢
    intro H1 G1 a b
    refine ⟨ρ1, G1, a, b, ?_⟩
    unfold rdK
    cases e2 : k d ρ1 with
    | ok p2 =>
      obtain ⟨d2, ρ2⟩ := p2
      rw [e2] at h
      dsimp only at h ⊢
      exact fun u H2 G2 a2 b2 c2 => h u H2 G2 (a.trans a2) b2 c2
    | ex _ _ => rw [e2] at h; exact h
    | no => rw [e2] at h; exact h
  | ex _ _ => rw [e] at h; exact h
  | no => rw [e] at h; exact h
theorem rdK_bndA {fa : FA} {k : List D → FE} {Q : VK} (h : rdK K (bndA fa k) σ ρ G H Q) :
    rdAK K fa σ ρ G H fun vs H1 => ∃ ds ρ1 G1, Stp σ ρ G H σ ρ1 G1 H1 ∧ SR K G1 H1 σ ρ1 ∧ Reps K G1 ds vs ∧ rdK K (k ds) σ ρ1 G1 H1 Q := by
  unfold rdK at h
  unfold rdAK
  unfold bndA at h
  cases e : fa ρ with
  | ok p =>
    obtain ⟨d, ρ1⟩ := p
    rw [e] at h
    dsimp only [Rz.bind] at h ⊢
    intro vs H1 G1 a b c
    refine ⟨d, ρ1, G1, a, b, c, ?_⟩
    unfold rdK
    cases e2 : k d ρ1 with
    | ok p2 =>
      obtain ⟨d2, ρ2⟩ := p2
      rw [e2] at h
      dsimp only at h ⊢
      exact fun u H2 G2 a2 b2 c2 => h u H2 G2 (a.trans a2) b2 c2
    | ex _ _ => rw [e2] at h; exact h
    | no => rw [e2] at h; exact h
  | ex _ _ => rw [e] at h; exact h
  | no => rw [e] at h; exact h
theorem rdTK_bnd {fa : FE} {k : D → FT} {Q : Bool → Hp → Prop} (h : rdTK K (bnd_T fa k) σ ρ G H Q) :
    rdK K fa σ ρ G H fun v H1 => ∃ d ρ1 G1, Stp σ ρ G H σ ρ1 G1 H1 ∧ SR K G1 H1 σ ρ1 ∧ Rep K G1 d v ∧ rdTK K (k d) σ ρ1 G1 H1 Q := by
  unfold rdTK at h
  unfold rdK
  unfold bnd_T at h
  cases e : fa ρ with
  | ok p =>
    obtain ⟨d, ρ1⟩ := p
    rw [e] at h
    dsimp only [Rz.bind] at h ⊢
    intro v H1 G1 a b c
    refine ⟨d, ρ1, G1, a, b, c, ?_⟩
    unfold rdTK
    cases e2 : k d ρ1 with
    | ok p2 =>
      obtain ⟨d2, ρ2⟩ := p2
      rw [e2] at h
      dsimp only at h ⊢
      exact fun H2 G2 a2 b2 => h H2 G2 (a.trans a2) b2
    | ex _ _ => rw [e2] at h; exact h
    | no => rw [e2] at h; exact h
  | ex _ _ => rw [e] at h; exact h
  | no => rw [e] at h; exact h
theorem rdTK_bndT {fa : FT} {k : Bool → FT} {Q : Bool → Hp → Prop} (h : rdTK K (bndT_T fa k) σ ρ G H Q) :
    rdTK K fa σ ρ G H fun b H1 => ∃ ρ1 G1, Stp σ ρ G H σ ρ1 G1 H1 ∧ SR K G1 H1 σ ρ1 ∧ rdTK K (k b) σ ρ1 G1 H1 Q := by
  unfold rdTK at h
  unfold rdTK
  unfold bndT_T at h
  cases e : fa ρ with
  | ok p =>
    obtain ⟨d, ρ1⟩ := p
    rw [e] at h
    dsimp only [Rz.bind] at h ⊢
    intro H1 G1 a b
    refine ⟨ρ1, G1, a, b, ?_⟩
    cases e2 : k d ρ1 with
    | ok p2 =>
      obtain ⟨d2, ρ2⟩ := p2
      rw [e2] at h
      dsimp only at h ⊢
      exact fun H2 G2 a2 b2 => h H2 G2 (a.trans a2) b2
    | ex _ _ => rw [e2] at h; exact h
    | no => rw [e2] at h; exact h
  | ex _ _ => rw [e] at h; exact h
  | no => rw [e] at h; exact h
theorem rd_of {f : FE} {Q : VK} (I : SR K G H σ ρ) (h : rdK K f σ ρ G H Q) : rd K f σ H Q := ⟨ρ, G, I, h⟩
theorem rdA_of {f : FA} {Q : List V → Hp → Prop} (I : SR K G H σ ρ) (h : rdAK K f σ ρ G H Q) : rdA K f σ H Q := ⟨ρ, G, I, h⟩
theorem rdT_of {f : FT} {Q : Bool → Hp → Prop} (I : SR K G H σ ρ) (h : rdTK K f σ ρ G H Q) : rdT K f σ H Q := ⟨ρ, G, I, h⟩
/-- an operation's end -/
theorem rdK_ofO {o : Option D} {Q : VK} (h : rdK K (fun ρ => ofO o ρ) σ ρ G H Q) (I : SR K G H σ ρ) :
    ∃ d, o = some d ∧ ∀ v H' G', PStp G H G' H' → Rep K G' d v → Q v H' := by
  unfold rdK ofO at h
  cases o with
  | none => exact False.elim h
  | some d =>
    dsimp only at h
    rw [frc_eq] at h
    exact ⟨d, rfl, fun v H' G' p r => h v H' G' p.stp (I.pure p) r⟩
end

section
variable {X : Cx}
theorem pe_imp {e : Expr} {t t' : TE} (h : PE X e t) (hi : ∀ σ H Q, t' σ H Q → t σ H Q) : PE X e t' := ⟨fun pins s σ H Q I q => h.run pins s σ H Q I (hi σ H Q q)⟩
theorem pt_imp {e : Expr} {t t' : TT} (h : PT X e t) (hi : ∀ σ H Q, t' σ H Q → t σ H Q) : PT X e t' := ⟨fun pins s σ H Q I q => h.run pins s σ H Q I (hi σ H Q q)⟩
theorem pw_imp {e : Expr} {t t' : TT} (h : PW X e t) (hi : ∀ σ H Q, t' σ H Q → t σ H Q) : PW X e t' := ⟨fun wh pins s σ H Q I q => h.run wh pins s σ H Q I (hi σ H Q q)⟩
theorem pa_imp {e : List Expr} {t t' : TA} (h : PA X e t) (hi : ∀ σ H Q, t' σ H Q → t σ H Q) : PA X e t' := ⟨fun pos pins s σ H Q I q => h.run pos pins s σ H Q I (hi σ H Q q)⟩
theorem ps_imp {e : Stmt} {t t' : TS} (h : PS X e t) (hi : ∀ D σ H, t' D σ H → t D σ H) : PS X e t' := ⟨fun pins s σ H D I q => h.run pins s σ H D I (hi D σ H q)⟩
theorem pss_imp {e : List Stmt} {t t' : TS} (h : PSs X e t) (hi : ∀ D σ H, t' D σ H → t D σ H) : PSs X e t' := ⟨fun pins s σ H D I q => h.run pins s σ H D I (hi D σ H q)⟩
end

/-! ### expressions -/
def eV (i : Nat) : FE := fun ρ => match ρ[i]? with | some (some (.dat d)) => .ok (d, ρ) | _ => .no
def eC (d : D) : FE := fun ρ => .ok (d, ρ)
def e1 (op : D → Option D) (fa : FE) : FE := bnd fa fun x => fun ρ => ofO (op x) ρ
def e2 (op : D → D → Option D) (fa fb : FE) : FE := bnd fa fun x => bnd fb fun y => fun ρ => ofO (op x y) ρ
/-- what an operator's rule asks is met by its function over data -/
def OpD (K : PySem.W.Frag) (r : R2) (op : D → D → Option D) : Prop := ∀ (G H : Hp) (d1 d2 d : D) (v1 v2 : V) (Q : VK), Same G H → Rep K G d1 v1 → Rep K G d2 v2 → op d1 d2 = some d → (∀ v H' G', PStp G H G' H' → Rep K G' d v → Q v H') → r v1 v2 H Q
def UnD (K : PySem.W.Frag) (r : V → Hp → VK → Prop) (op : D → Option D) : Prop := ∀ (G H : Hp) (d1 d : D) (v1 : V) (Q : VK), Same G H → Rep K G d1 v1 → op d1 = some d → (∀ v H' G', PStp G H G' H' → Rep K G' d v → Q v H') → r v1 H Q
def CallD (K : PySem.W.Frag) (r : List V → Hp → VK → Prop) (op : List D → Option D) : Prop := ∀ (G H : Hp) (ds : List D) (d : D) (vs : List V) (Q : VK), Same G H → Reps K G ds vs → op ds = some d → (∀ v H' G', PStp G H G' H' → Rep K G' d v → Q v H') → r vs H Q
section
variable {X : Cx} {a b c : Expr} {fa fb fc : FE} {pos : Pos}
theorem de_var (i : Nat) {x : Str} {pos : Pos} (hN : X.N[i]? = some x := by rfl) (hv : Vis X.env.scope x := by first | exact Or.inl rfl | exact Or.inr (Or.inl rfl) | exact Or.inr (Or.inr rfl)) (hd : (x == ("__debug__" : Str)) = false := by decide)
    (hcd : (x == ("__classdict__" : Str)) = false := by decide) : PE X (.Name x pos) (rd X.K (eV i)) := by
  refine pe_imp (pe_var (i := i) hN hv hd hcd) fun σ H Q ⟨ρ, G, I, h⟩ => ?_
  unfold eV at h
  split at h <;> rename_i e
  · split at e <;> rename_i e3
    · cases e
      have hl : i < σ.length := by
        rw [← I.len]
        exact (List.getElem?_eq_some_iff.mp e3).1
      obtain ⟨v, e2, r⟩ := I.slot i _ _ e3 (List.getElem?_eq_getElem hl)
      exact ⟨v, by rw [List.getElem?_eq_getElem hl, e2], h v H G (Stp.refl _ _ _ _) I r⟩
    · cases e
  · exact h.elim
  · exact h.elim
theorem rd_con {d : D} {v : V} (hr : ∀ G, Rep X.K G d v) (σ : L2.St) (H : Hp) (Q : VK) (h : rd X.K (eC d) σ H Q) : Q v H := by
  obtain ⟨ρ, G, I, h⟩ := h
  exact h v H G (Stp.refl _ _ _ _) I (hr G)
theorem de_int {i j pos} : PE X (.Constant (.int i) j pos) (rd X.K (eC (.int i))) := pe_imp pe_int (rd_con fun G => by simp only [Rep])
theorem de_bl {i j pos} : PE X (.Constant (.bool i) j pos) (rd X.K (eC (.bl i))) := pe_imp pe_bl (rd_con fun G => by simp only [Rep])
theorem de_non {j pos} : PE X (.Constant .none j pos) (rd X.K (eC .non)) := pe_imp pe_non (rd_con fun G => by simp only [Rep])
theorem de_str {i j pos} : PE X (.Constant (.str i) j pos) (rd X.K (eC (.str i))) := pe_imp pe_str (rd_con fun G => by simp only [Rep])
/-- a module's constant -/
theorem de_glob {x : Str} {d : D} {v : V} {u : Value} {pos : Pos} (hg : Gl X x) (hm : X.mg x = some u) (r : RelV v u) (hr : ∀ G, Rep X.K G d v) (hd : (x == ("__debug__" : Str)) = false := by decide) : PE X (.Name x pos) (rd X.K (eC d)) :=
  pe_imp (pe_glob hg hm r hd) (rd_con hr)
/-- a built-in's name as a value -/
theorem de_bltn {x : Str} {v : V} {u : Value} {pos : Pos} (hg : Gl X x) (hm : X.mg x = none) (hv : bootBuiltins x = some u) (r : RelV v u) (hn : x ≠ "__name__" := by decide) (hd : (x == ("__debug__" : Str)) = false := by decide) : PE X (.Name x pos) (rd X.K (eC (.con v))) :=
  pe_imp (pe_bltn hg hm hv r hn hd) (rd_con fun G => by simp only [Rep])

theorem rd_2 {op : D → D → Option D} {r : R2} (hd : OpD X.K r op) (σ : L2.St) (H : Hp) (Q : VK) (h : rd X.K (e2 op fa fb) σ H Q) : tOp r (rd X.K fa) (rd X.K fb) σ H Q := by
  obtain ⟨ρ, G, I, h⟩ := h
  refine rd_of I (rdK_mono (rdK_bnd h) fun v H1 ⟨d1, ρ1, G1, s1, I1, r1, h1⟩ => ?_)
  refine rd_of I1 (rdK_mono (rdK_bnd h1) fun u H2 ⟨d2, ρ2, G2, s2, I2, r2, h2⟩ => ?_)
  obtain ⟨d, e, q⟩ := rdK_ofO h2 I2
  exact hd G2 H2 d1 d2 d v u Q I2.sub (Rep.mono s2.sub _ _ r1) r2 e q
theorem rd_1 {op : D → Option D} {r : V → Hp → VK → Prop} (hd : UnD X.K r op) (σ : L2.St) (H : Hp) (Q : VK) (h : rd X.K (e1 op fa) σ H Q) : tUn r (rd X.K fa) σ H Q := by
  obtain ⟨ρ, G, I, h⟩ := h
  refine rd_of I (rdK_mono (rdK_bnd h) fun v H1 ⟨d1, ρ1, G1, s1, I1, r1, h1⟩ => ?_)
  obtain ⟨d, e, q⟩ := rdK_ofO h1 I1
  exact hd G1 H1 d1 d v Q I1.sub r1 e q
theorem de_op {o : Operator} {op : D → D → Option D} {r : R2} (ho : OpR X (binaryOp o) r) (hd : OpD X.K r op) (ha : PE X a (rd X.K fa)) (hb : PE X b (rd X.K fb)) : PE X (.BinOp a o b pos) (rd X.K (e2 op fa fb)) := pe_imp (pe_op ho ha hb) (rd_2 hd)
theorem de_un {o : UnaryOp} {op : D → Option D} {r : V → Hp → VK → Prop} (ho : UnR X (unaryOp o) r) (hd : UnD X.K r op) (ha : PE X a (rd X.K fa)) : PE X (.UnaryOp o a pos) (rd X.K (e1 op fa)) := pe_imp (pe_un ho ha) (rd_1 hd)
theorem de_cmp {o : CmpOp} {op : D → D → Option D} {r : R2} (ho : OpR X (compareOp o) r) (hd : OpD X.K r op) (ha : PE X a (rd X.K fa)) (hb : PE X b (rd X.K fb)) (hm : behindInMarks o b = false) : PE X (.Compare a [o] [b] pos) (rd X.K (e2 op fa fb)) :=
  pe_imp (pe_cmpR ho ha hb hm) (rd_2 hd)

/-! tests -/
/-- a value that is a truth -/
def tB (f : FE) : FT := bnd_T f fun d => fun ρ => match d with | .bl b => .ok (b, ρ) | _ => .no
theorem rd_B {f : FE} (σ : L2.St) (H : Hp) (Q : Bool → Hp → Prop) (h : rdT X.K (M.tB f) σ H Q) : rd X.K f σ H fun x H1 => ∃ c, x = .bl c ∧ Q c H1 := by
  obtain ⟨ρ, G, I, h⟩ := h
  refine rd_of I (rdK_mono (rdTK_bnd h) fun v H1 ⟨d1, ρ1, G1, s1, I1, r1, h1⟩ => ?_)
  unfold rdTK at h1
  cases d1 with
  | bl b =>
    simp only [Rep] at r1
    subst r1
    exact ⟨b, rfl, h1 H1 G1 (Stp.refl _ _ _ _) I1⟩
  | _ => exact h1.elim
theorem dt_cmp {o : CmpOp} {op : D → D → Option D} {r : R2} (ho : OpR X (compareOp o) r) (hd : OpD X.K r op) (ha : PE X a (rd X.K fa)) (hb : PE X b (rd X.K fb)) (hm : behindInMarks o b = false) : PT X (.Compare a [o] [b] pos) (rdT X.K (M.tB (e2 op fa fb))) :=
  pt_imp (pt_cmpR ho ha hb hm) fun σ H Q h => rd_2 hd _ _ _ (rd_B _ _ _ h)
/-- a value's truth -/
def trD : D → Option Bool
  | .non => some false
  | .bl b => some b
  | .int i => some (i != 0)
  | .str x => if x.length ≤ sizeLine then some ((x.length : Int) != 0) else none
  | .tup ds => some (!ds.isEmpty)
  | .lst ds => some (!ds.isEmpty)
  | .scr _ => none
  | .con _ => none
  | .dic _ _ => none
  | .ins _ _ => none
def tTr (f : FE) : FT := bnd_T f fun d => fun ρ => match trD d with | some b => .ok (b, ρ) | none => .no
theorem isEmpty_reps {K : PySem.W.Frag} {G : Hp} {ds : List D} {vs : List V} (r : Reps K G ds vs) : vs.isEmpty = ds.isEmpty := by
  have h := r.length
  cases ds <;> cases vs <;> simp_all
theorem truV_of {K : PySem.W.Frag} {G H : Hp} {d : D} {v : V} {b : Bool} (s : Same G H) (r : Rep K G d v) (e : trD d = some b) : TruV K v H b := by
  cases d with
  | non => simp only [Rep] at r; subst r; cases e; rfl
  | bl b => simp only [Rep] at r; subst r; cases e; rfl
  | int i => simp only [Rep] at r; subst r; cases e; rfl
  | str x =>
    simp only [Rep] at r; subst r
    simp only [trD] at e
    split at e
    · cases e; rename_i h; exact ⟨h, rfl⟩
    · cases e
  | tup ds =>
    simp only [Rep] at r
    obtain ⟨a, vs, rfl, q, r⟩ := r
    cases e
    exact .inr (.inl ⟨vs, SqT.mono s q, by rw [isEmpty_reps r]⟩)
  | lst ds =>
    simp only [Rep] at r
    obtain ⟨a, vs, rfl, q, r⟩ := r
    cases e
    exact .inl ⟨vs, SqL.of (s _ _ q), by rw [isEmpty_reps r]⟩
  | scr _ => cases e
  | con _ => cases e
  | dic _ _ => cases e
  | ins _ _ => cases e
theorem rd_Tr {f : FE} (σ : L2.St) (H : Hp) (Q : Bool → Hp → Prop) (h : rdT X.K (tTr f) σ H Q) : rd X.K f σ H fun x H1 => ∃ k, TruV X.K x H1 k ∧ Q k H1 := by
  obtain ⟨ρ, G, I, h⟩ := h
  refine rd_of I (rdK_mono (rdTK_bnd h) fun v H1 ⟨d1, ρ1, G1, s1, I1, r1, h1⟩ => ?_)
  unfold rdTK at h1
  cases e : trD d1 with
  | none => rw [e] at h1; exact h1.elim
  | some b =>
    rw [e] at h1
    exact ⟨b, truV_of I1.sub r1 e, h1 H1 G1 (Stp.refl _ _ _ _) I1⟩
theorem dt_truth (ha : PE X a (rd X.K fa)) (he : ∀ whole, isTrue a X.env whole = (do let v ← whole; standAt a.pos; holding [v] (truthy v)) := by intro _; rfl) : PT X a (rdT X.K (tTr fa)) :=
  pt_imp (pt_truth ha he) rd_Tr
def tAndD (a b : FT) : FT := bndT_T a fun x => if x = true then b else fun ρ => .ok (false, ρ)
def tOrD (a b : FT) : FT := bndT_T a fun x => if x = true then fun ρ => .ok (true, ρ) else b
def tNotD (a : FT) : FT := bndT_T a fun x => fun ρ => .ok (!x, ρ)
variable {ta tb : FT} {rest : List Expr}
theorem dt_not (ha : PT X a (rdT X.K ta)) : PT X (.UnaryOp .Not a pos) (rdT X.K (tNotD ta)) := by
  refine pt_imp (pt_not ha) fun σ H Q ⟨ρ, G, I, h⟩ => ?_
  refine rdT_of I (rdTK_mono (rdTK_bndT h) fun b H1 ⟨ρ1, G1, s1, I1, h1⟩ => ?_)
  exact h1 H1 G1 (Stp.refl _ _ _ _) I1
theorem dw_and1 (ha : PT X a (rdT X.K ta)) : PW X (.BoolOp .And [a] pos) (rdT X.K ta) := pw_and1 ha
theorem dw_or1 (ha : PT X a (rdT X.K ta)) : PW X (.BoolOp .Or [a] pos) (rdT X.K ta) := pw_or1 ha
theorem dw_and (ha : PT X a (rdT X.K ta)) (hb : PW X (.BoolOp .And (b :: rest) pos) (rdT X.K tb)) : PW X (.BoolOp .And (a :: b :: rest) pos) (rdT X.K (tAndD ta tb)) := by
  refine pw_imp (pw_and ha hb) fun σ H Q ⟨ρ, G, I, h⟩ => ?_
  refine rdT_of I (rdTK_mono (rdTK_bndT h) fun b H1 ⟨ρ1, G1, s1, I1, h1⟩ => ?_)
  cases b with
  | true => exact rdT_of I1 h1
  | false => exact h1 H1 G1 (Stp.refl _ _ _ _) I1
theorem dw_or (ha : PT X a (rdT X.K ta)) (hb : PW X (.BoolOp .Or (b :: rest) pos) (rdT X.K tb)) : PW X (.BoolOp .Or (a :: b :: rest) pos) (rdT X.K (tOrD ta tb)) := by
  refine pw_imp (pw_or ha hb) fun σ H Q ⟨ρ, G, I, h⟩ => ?_
  refine rdT_of I (rdTK_mono (rdTK_bndT h) fun b H1 ⟨ρ1, G1, s1, I1, h1⟩ => ?_)
  cases b with
  | false => exact rdT_of I1 h1
  | true => exact h1 H1 G1 (Stp.refl _ _ _ _) I1
/-! .. as values, all but the last truths -/
def eAnd (a b : FE) : FE := bnd a fun x => match x with | .bl true => b | .bl false => eC (.bl false) | _ => fun _ => .no
def eOr (a b : FE) : FE := bnd a fun x => match x with | .bl false => b | .bl true => eC (.bl true) | _ => fun _ => .no
def eNot (a : FE) : FE := e1 (fun x => match x with | .bl b => some (.bl (!b)) | _ => none) a
def eIf (t : FT) (a b : FE) : FE := bndT t fun x => if x = true then a else b
theorem de_one {op} (ha : PE X a (rd X.K fa)) : PE X (.BoolOp op [a] pos) (rd X.K fa) := pe_one ha
theorem de_and (ha : PE X a (rd X.K fa)) (hb : PE X (.BoolOp .And (b :: rest) pos) (rd X.K fb)) : PE X (.BoolOp .And (a :: b :: rest) pos) (rd X.K (eAnd fa fb)) := by
  refine pe_imp (pe_and ha hb) fun σ H Q ⟨ρ, G, I, h⟩ => ?_
  refine rd_of I (rdK_mono (rdK_bnd h) fun v H1 ⟨d, ρ1, G1, s1, I1, r1, h1⟩ => ?_)
  cases d with
  | bl c =>
    simp only [Rep] at r1
    subst r1
    refine ⟨c, rfl, ?_⟩
    cases c with
    | true => exact rd_of I1 h1
    | false => exact h1 _ H1 G1 (Stp.refl _ _ _ _) I1 (by simp only [Rep])
  | _ => exact False.elim h1
theorem de_or (ha : PE X a (rd X.K fa)) (hb : PE X (.BoolOp .Or (b :: rest) pos) (rd X.K fb)) : PE X (.BoolOp .Or (a :: b :: rest) pos) (rd X.K (eOr fa fb)) := by
  refine pe_imp (pe_or ha hb) fun σ H Q ⟨ρ, G, I, h⟩ => ?_
  refine rd_of I (rdK_mono (rdK_bnd h) fun v H1 ⟨d, ρ1, G1, s1, I1, r1, h1⟩ => ?_)
  cases d with
  | bl c =>
    simp only [Rep] at r1
    subst r1
    refine ⟨c, rfl, ?_⟩
    cases c with
    | false => exact rd_of I1 h1
    | true => exact h1 _ H1 G1 (Stp.refl _ _ _ _) I1 (by simp only [Rep])
  | _ => exact False.elim h1
theorem de_not (ha : PE X a (rd X.K fa)) : PE X (.UnaryOp .Not a pos) (rd X.K (eNot fa)) := by
  refine pe_imp (pe_not ha) fun σ H Q ⟨ρ, G, I, h⟩ => ?_
  unfold eNot e1 at h
  refine rd_of I (rdK_mono (rdK_bnd h) fun v H1 ⟨d, ρ1, G1, s1, I1, r1, h1⟩ => ?_)
  obtain ⟨d', e, q⟩ := rdK_ofO h1 I1
  cases d with
  | bl c =>
    simp only [Rep] at r1
    subst r1
    cases e
    exact ⟨c, rfl, q _ H1 G1 (PStp.refl I1.sub) (by simp only [Rep])⟩
  | _ => cases e
theorem de_if (hc : PT X c (rdT X.K ta)) (ha : PE X a (rd X.K fa)) (hb : PE X b (rd X.K fb)) : PE X (.IfExp c a b pos) (rd X.K (eIf ta fa fb)) := by
  refine pe_imp (pe_ifExp hc ha hb) fun σ H Q ⟨ρ, G, I, h⟩ => ?_
  refine rdT_of I (rdTK_mono (rdK_bndT h) fun b H1 ⟨ρ1, G1, s1, I1, h1⟩ => ?_)
  cases b with
  | true => exact rd_of I1 h1
  | false => exact rd_of I1 h1
/-- a op b op' c -/
def eCh (op op' : D → D → Option D) (fa fb fc : FE) : FE := bnd fa fun x => bnd fb fun y => match op x y with
  | some (.bl true) => bnd fc fun z => fun ρ => ofO (op' y z) ρ
  | some (.bl false) => eC (.bl false)
  | _ => fun _ => .no
theorem rd_ch {op op' : D → D → Option D} {r r' : R2} (hd : OpD X.K r op) (hd' : OpD X.K r' op') (σ : L2.St) (H : Hp) (Q : VK) (h : rd X.K (eCh op op' fa fb fc) σ H Q) : tChain r r' (rd X.K fa) (rd X.K fb) (rd X.K fc) σ H Q := by
  obtain ⟨ρ, G, I, h⟩ := h
  refine rd_of I (rdK_mono (rdK_bnd h) fun v H1 ⟨d1, ρ1, G1, s1, I1, r1, h1⟩ => ?_)
  refine rd_of I1 (rdK_mono (rdK_bnd h1) fun u H2 ⟨d2, ρ2, G2, s2, I2, r2, h2⟩ => ?_)
  cases e : op d1 d2 with
  | none => rw [e] at h2; exact False.elim h2
  | some z =>
    cases z with
    | bl k =>
      refine hd G2 H2 d1 d2 (.bl k) v u _ I2.sub (Rep.mono s2.sub _ _ r1) r2 e fun z H3 G3 p rz => ?_
      simp only [Rep] at rz
      subst rz
      refine ⟨k, rfl, ?_⟩
      have I3 := I2.pure p
      rw [e] at h2
      cases k with
      | true =>
        refine rd_of I3 ?_
        have h3 : rdK X.K (bnd fc fun z => fun ρ => ofO (op' d2 z) ρ) σ ρ2 G3 H3 Q := by
          dsimp only at h2
          unfold rdK at h2 ⊢
          split <;> rename_i e4 <;> rw [e4] at h2
          · exact fun v H' G' a b c => h2 v H' G' (p.stp.trans a) b c
          · exact h2
          · exact h2
        refine rdK_mono (rdK_bnd h3) fun w' H4 ⟨d3, ρ3, G4, s4, I4, r4, h4⟩ => ?_
        obtain ⟨d, e5, q⟩ := rdK_ofO h4 I4
        exact hd' G4 H4 d2 d3 d u w' Q I4.sub (Rep.mono s4.sub _ _ (Rep.mono p.sub _ _ r2)) r4 e5 q
      | false => exact h2 _ H3 G3 p.stp I3 (by simp only [Rep])
    | _ => rw [e] at h2; exact False.elim h2
theorem de_chain {o o' : CmpOp} {op op' : D → D → Option D} {r r' : R2} (ho : OpR X (compareOp o) r) (hd : OpD X.K r op) (ho' : OpR X (compareOp o') r') (hd' : OpD X.K r' op') (ha : PE X a (rd X.K fa)) (hb : PE X b (rd X.K fb)) (hc : PE X c (rd X.K fc))
    (hm : lastMarks [o, o'] [b, c] = false := by with_unfolding_all rfl) : PE X (.Compare a [o, o'] [b, c] pos) (rd X.K (eCh op op' fa fb fc)) := pe_imp (pe_chain ho ho' ha hb hc hm) (rd_ch hd hd')
theorem dt_chain {o o' : CmpOp} {op op' : D → D → Option D} {r r' : R2} (ho : OpR X (compareOp o) r) (hd : OpD X.K r op) (ho' : OpR X (compareOp o') r') (hd' : OpD X.K r' op') (ha : PE X a (rd X.K fa)) (hb : PE X b (rd X.K fb)) (hc : PE X c (rd X.K fc))
    (hm : lastMarks [o, o'] [b, c] = false := by with_unfolding_all rfl) : PT X (.Compare a [o, o'] [b, c] pos) (rdT X.K (M.tB (eCh op op' fa fb fc))) := pt_imp (pt_chain ho ho' ha hb hc hm) fun σ H Q h => rd_ch hd hd' _ _ _ (rd_B _ _ _ h)

/-! arguments, displays -/
def aNil : FA := fun ρ => .ok ([], ρ)
def aCons (fa : FE) (fr : FA) : FA := fun ρ => (fa ρ).bind fun p => (fr p.2).bind fun q => .ok (p.1 :: q.1, q.2)
variable {es : List Expr} {fs : FA}
theorem da_nil : PA X [] (rdA X.K aNil) := by
  refine pa_imp pa_nil fun σ H Q ⟨ρ, G, I, h⟩ => ?_
  exact h [] H G (Stp.refl _ _ _ _) I Reps.nil
theorem da_cons (ha : PE X a (rd X.K fa)) (hr : PA X es (rdA X.K fs)) (hs : starEach (a :: es) X.env = (false, eval a X.env) :: starEach es X.env := by rfl) : PA X (a :: es) (rdA X.K (aCons fa fs)) := by
  refine pa_imp (pa_cons ha hr hs) fun σ H Q ⟨ρ, G, I, h⟩ => ?_
  unfold aCons at h
  refine rd_of I ?_
  unfold rdK
  cases e : fa ρ with
  | ok p =>
    obtain ⟨d, ρ1⟩ := p
    rw [e] at h
    dsimp only [Rz.bind] at h ⊢
    intro v H1 G1 s1 I1 r1
    refine rdA_of I1 ?_
    unfold rdAK
    cases e2 : fs ρ1 with
    | ok q =>
      obtain ⟨ds, ρ2⟩ := q
      rw [e2] at h
      dsimp only at h ⊢
      intro vs H2 G2 s2 I2 r2
      exact h (v :: vs) H2 G2 (s1.trans s2) I2 (Reps.cons (Rep.mono s2.sub _ _ r1) r2)
    | ex _ _ => rw [e2] at h; exact h
    | no => rw [e2] at h; exact h
  | ex _ _ => rw [e] at h; exact h
  | no => rw [e] at h; exact h
def eTup (f : FA) : FE := bndA f fun ds => fun ρ => if ds.length ≤ sizeLine then .ok (.tup ds, ρ) else .no
def eLst (f : FA) : FE := bndA f fun ds => fun ρ => if ds.length ≤ sizeLine then .ok (.lst ds, ρ) else .no
theorem Rep.tup_new {K : PySem.W.Frag} {G : Hp} {p : Addr} {ds : List D} {vs : List V} (n : G p = none) (r : Reps K G ds vs) : Rep K (upd G p (.tup vs)) (.tup ds) (.ref p) := by
  simp only [Rep]
  exact ⟨p, vs, rfl, SqT.of upd_same, Reps.mono (same_upd n) _ _ r⟩
theorem Rep.lst_new {K : PySem.W.Frag} {G : Hp} {p : Addr} {ds : List D} {vs : List V} (n : G p = none) (r : Reps K G ds vs) : Rep K (upd G p (.lst vs)) (.lst ds) (.ref p) := by
  simp only [Rep]
  exact ⟨p, vs, rfl, upd_same, Reps.mono (same_upd n) _ _ r⟩
theorem de_tup {x1} (h : PA X es (rdA X.K fs)) : PE X (.Tuple es x1 pos) (rd X.K (eTup fs)) := by
  refine pe_imp (pe_tup h) fun σ H Q ⟨ρ, G, I, h⟩ => ?_
  refine rdA_of I (rdAK_mono (rdK_bndA h) fun vs H1 ⟨ds, ρ1, G1, s1, I1, r1, h1⟩ => ?_)
  unfold rdK at h1
  by_cases z : ds.length ≤ sizeLine
  · simp only [if_pos z] at h1
    refine ⟨by rw [r1.length]; exact z, fun p hp => ?_⟩
    have P := PStp.laid (o := .tup vs) I1.sub hp
    exact h1 _ _ _ P.stp (I1.pure P) (Rep.tup_new (I1.sub.free hp) r1)
  · simp only [if_neg z] at h1
theorem de_lst (h : PA X es (rdA X.K fs)) : PE X (.List es pos) (rd X.K (eLst fs)) := by
  refine pe_imp (pe_lst h) fun σ H Q ⟨ρ, G, I, h⟩ => ?_
  refine rdA_of I (rdAK_mono (rdK_bndA h) fun vs H1 ⟨ds, ρ1, G1, s1, I1, r1, h1⟩ => ?_)
  unfold rdK at h1
  by_cases z : ds.length ≤ sizeLine
  · simp only [if_pos z] at h1
    refine ⟨by rw [r1.length]; exact z, fun p hp => ?_⟩
    have P := PStp.laid (o := .lst vs) I1.sub hp
    exact h1 _ _ _ P.stp (I1.pure P) (Rep.lst_new (I1.sub.free hp) r1)
  · simp only [if_neg z] at h1
/-! built-ins by name -/
def eB (op : List D → Option D) (f : FA) : FE := bndA f fun ds => fun ρ => ofO (op ds) ρ
theorem rd_Bi {op : List D → Option D} {r : List V → Hp → VK → Prop} (hd : CallD X.K r op) (σ : L2.St) (H : Hp) (Q : VK) (h : rd X.K (eB op fs) σ H Q) : tCB r (rdA X.K fs) σ H Q := by
  obtain ⟨ρ, G, I, h⟩ := h
  refine rdA_of I (rdAK_mono (rdK_bndA h) fun vs H1 ⟨ds, ρ1, G1, s1, I1, r1, h1⟩ => ?_)
  obtain ⟨d, e, q⟩ := rdK_ofO h1 I1
  exact hd G1 H1 ds d vs Q I1.sub r1 e q
variable {x : Str} {p : Pos} {id T : String}
theorem de_callB {op : List D → Option D} {r : List V → Hp → VK → Prop} (hc : CallR X (.builtin id) r) (hd : CallD X.K r op) (hg : Gl X x) (hm : X.mg x = none) (hv : bootBuiltins x = some (.builtin id)) (ha : PA X (a :: es) (rdA X.K fs)) (hn : x ≠ "__name__" := by decide) (hdb : (x == ("__debug__" : Str)) = false := by decide)
    (he : starEach (a :: es) X.env = (false, eval a X.env) :: starEach es X.env := by rfl) (hpl : (backTo pos (starEach es X.env)).any (·.1) = false := by rfl) : PE X (.Call (.Name x p) (a :: es) [] pos) (rd X.K (eB op fs)) :=
  pe_imp (pe_callB hc hg hm hv ha hn hdb he hpl) (rd_Bi hd)
theorem de_callTy {op : List D → Option D} {r : List V → Hp → VK → Prop} (hc : CallR X (.type T) r) (hd : CallD X.K r op) (hg : Gl X x) (hm : X.mg x = none) (hv : bootBuiltins x = some (.type T)) (ha : PA X (a :: es) (rdA X.K fs)) (hn : x ≠ "__name__" := by decide) (hdb : (x == ("__debug__" : Str)) = false := by decide)
    (he : starEach (a :: es) X.env = (false, eval a X.env) :: starEach es X.env := by rfl) (hpl : (backTo pos (starEach es X.env)).any (·.1) = false := by rfl) : PE X (.Call (.Name x p) (a :: es) [] pos) (rd X.K (eB op fs)) :=
  pe_imp (pe_callTy hc hg hm hv ha hn hdb he hpl) (rd_Bi hd)
end
end M

namespace M
open PySem PySem.Spec L2
/-- quick tests of order -/
def iLt : Int → Int → Bool
  | .ofNat m, .ofNat n => Nat.blt m n
  | .ofNat _, .negSucc _ => false
  | .negSucc _, .ofNat _ => true
  | .negSucc m, .negSucc n => Nat.blt n m
theorem blt_dec (m n : Nat) : Nat.blt m n = decide (m < n) := by
  rw [Bool.eq_iff_iff, decide_eq_true_eq]
  unfold Nat.blt
  rw [Nat.ble_eq]
  exact Iff.rfl
theorem iLt_eq : ∀ i j : Int, iLt i j = decide (i < j)
  | .ofNat m, .ofNat n => by
    show Nat.blt m n = _
    rw [blt_dec, Bool.eq_iff_iff, decide_eq_true_eq, decide_eq_true_eq]
    exact Int.ofNat_lt.symm
  | .ofNat m, .negSucc n => by
    have : ¬ ((Int.ofNat m) < .negSucc n) := by have := Int.negSucc_lt_zero n; have := Int.natCast_nonneg m; show ¬ ((m : Int) < _); omega
    rw [decide_eq_false this]; rfl
  | .negSucc m, .ofNat n => by
    have : (Int.negSucc m) < .ofNat n := by have := Int.negSucc_lt_zero m; have := Int.natCast_nonneg n; show _ < (n : Int); omega
    rw [decide_eq_true this]; rfl
  | .negSucc m, .negSucc n => by
    show Nat.blt n m = _
    rw [blt_dec, Bool.eq_iff_iff, decide_eq_true_eq, decide_eq_true_eq]
    constructor
    · intro h; rw [Int.negSucc_eq, Int.negSucc_eq]; omega
    · intro h; rw [Int.negSucc_eq, Int.negSucc_eq] at h; omega
theorem not_iLt (i j : Int) : (!iLt i j) = decide (j ≤ i) := by
  rw [iLt_eq, Bool.eq_iff_iff, Bool.not_eq_true', decide_eq_false_iff_not, decide_eq_true_eq]
  omega
def small (i : Int) : Bool := iLt (-18446744073709551616) i && iLt i 18446744073709551616
theorem small_of {i : Int} (h : small i = true) : -(2 ^ 64) < i ∧ i < 2 ^ 64 := by
  unfold small at h
  rw [iLt_eq, iLt_eq, Bool.and_eq_true, decide_eq_true_eq, decide_eq_true_eq] at h
  omega
theorem small_iff {i : Int} : small i = true ↔ -(2 ^ 64) < i ∧ i < 2 ^ 64 := by
  refine ⟨small_of, fun h => ?_⟩
  unfold small
  rw [iLt_eq, iLt_eq, Bool.and_eq_true, decide_eq_true_eq, decide_eq_true_eq]
  omega
variable [Tabs]

/-! ### data as the library's plain data -/
mutual
def pd : D → PyData
  | .non => .none
  | .bl b => .bool b
  | .int i => .int i
  | .str x => .str x
  | .tup ds => .tuple (pds ds)
  | .lst ds => .list (pds ds)
  | .scr _ => .dict []
  | .con _ => .dict []
  | .dic ks ds => .dict ((pds ks).zip (pds ds))
  | .ins _ _ => .dict []
def pds : List D → List PyData
  | [] => []
  | d :: ds => pd d :: pds ds
end
/- nothing in it that is no plain data -/
mutual
def plain : D → Bool
  | .tup ds => plains ds
  | .lst ds => plains ds
  | .scr _ => false
  | .con _ => false
  | .dic _ _ => false
  | .ins _ _ => false
  | _ => true
def plains : List D → Bool
  | [] => true
  | d :: ds => plain d && plains ds
end
mutual
theorem dp_of {K : PySem.W.Frag} {H : Hp} : ∀ (d : D) (v : V), Rep K H d v → plain d = true → Dp K H v (pd d)
  | .non, v, h, _ => by simp only [Rep] at h; subst h; exact .non
  | .bl b, v, h, _ => by simp only [Rep] at h; subst h; exact .bl b
  | .int i, v, h, _ => by simp only [Rep] at h; subst h; exact .int i
  | .str x, v, h, _ => by simp only [Rep] at h; subst h; exact .str x
  | .tup ds, v, h, p => by
    simp only [Rep] at h
    obtain ⟨a, vs, rfl, q, r⟩ := h
    simp only [pd]
    simp only [plain] at p
    exact .tup q (dps_of ds vs r p)
  | .lst ds, v, h, p => by
    simp only [Rep] at h
    obtain ⟨a, vs, rfl, q, r⟩ := h
    simp only [pd]
    simp only [plain] at p
    exact .lst (SqL.of q) (dps_of ds vs r p)
  | .scr _, v, h, p => by simp [plain] at p
  | .con _, v, h, p => by simp [plain] at p
  | .dic _ _, v, h, p => by simp [plain] at p
  | .ins _ _, v, h, p => by simp [plain] at p
theorem dps_of {K : PySem.W.Frag} {H : Hp} : ∀ (ds : List D) (vs : List V), Reps K H ds vs → plains ds = true → DpAll K H vs (pds ds)
  | [], vs, h, _ => by simp only [Reps] at h; subst h; exact .nil
  | d :: ds, vs, h, p => by
    simp only [Reps] at h
    obtain ⟨v, r, rfl, h1, h2⟩ := h
    simp only [plains, Bool.and_eq_true] at p
    simp only [pds]
    exact .cons (dp_of d v h1 p.1) (dps_of ds r h2 p.2)
end
/-- == of data -/
def deq (d e : D) : Option Bool := if plain d = true ∧ plain e = true ∧ SeqAt.shaped (pd d) = true ∧ SeqAt.shaped (pd e) = true then some (PyData.eqv (pd d) (pd e)) else none
def eqD (d e : D) : Option D := (deq d e).map D.bl
def neD (d e : D) : Option D := (deq d e).map fun b => D.bl (!b)
section
variable {K : PySem.W.Frag}
theorem rep_bl {G : Hp} (b : Bool) : Rep K G (.bl b) (.bl b) := by simp only [Rep]
theorem rep_int {G : Hp} (b : Int) : Rep K G (.int b) (.int b) := by simp only [Rep]
theorem rep_str {G : Hp} (b : Str) : Rep K G (.str b) (.str b) := by simp only [Rep]
theorem rep_non {G : Hp} : Rep K G .non .non := by simp only [Rep]
theorem deq_of {G H : Hp} {d e : D} {v u : V} {b : Bool} (s : Same G H) (r1 : Rep K G d v) (r2 : Rep K G e u) (h : deq d e = some b) :
    ∃ x y, Dp K H v x ∧ Dp K H u y ∧ SeqAt.shaped x = true ∧ SeqAt.shaped y = true ∧ PyData.eqv x y = b := by
  unfold deq at h
  split at h
  · rename_i c
    cases h
    exact ⟨pd d, pd e, dp_of d v (Rep.mono s _ _ r1) c.1, dp_of e u (Rep.mono s _ _ r2) c.2.1, c.2.2.1, c.2.2.2, rfl⟩
  · cases h
theorem od_eq : OpD K (rEqD K) eqD := by
  intro G H d1 d2 d v1 v2 Q s r1 r2 e q
  unfold eqD at e
  cases h : deq d1 d2 with
  | none => rw [h] at e; cases e
  | some b =>
    rw [h] at e; cases e
    obtain ⟨x, y, h1, h2, h3, h4, rfl⟩ := deq_of s r1 r2 h
    exact ⟨x, y, h1, h2, h3, h4, q _ H G (PStp.refl s) (rep_bl _)⟩
theorem od_ne : OpD K (rNeD K) neD := by
  intro G H d1 d2 d v1 v2 Q s r1 r2 e q
  unfold neD at e
  cases h : deq d1 d2 with
  | none => rw [h] at e; cases e
  | some b =>
    rw [h] at e; cases e
    obtain ⟨x, y, h1, h2, h3, h4, rfl⟩ := deq_of s r1 r2 h
    exact ⟨x, y, h1, h2, h3, h4, q _ H G (PStp.refl s) (rep_bl _)⟩
/-! ints -/
def ltD : D → D → Option D | .int i, .int j => some (.bl (iLt i j)) | _, _ => none
def leD : D → D → Option D | .int i, .int j => some (.bl (!iLt j i)) | _, _ => none
def gtD : D → D → Option D | .int i, .int j => some (.bl (iLt j i)) | _, _ => none
def geD : D → D → Option D | .int i, .int j => some (.bl (!iLt i j)) | _, _ => none
theorem od_lt : OpD K (rI0 fun i j => .bl (decide (i < j))) ltD := by
  intro G H d1 d2 d v1 v2 Q s r1 r2 e q
  unfold ltD at e
  split at e
  · simp only [Rep] at r1 r2; subst r1 r2; cases e
    refine ⟨_, _, rfl, rfl, ?_⟩
    have q' := q _ H G (PStp.refl s) (rep_bl _)
    rw [iLt_eq] at q'
    exact q'
  · cases e
theorem od_le : OpD K (rI0 fun i j => .bl (decide (i ≤ j))) leD := by
  intro G H d1 d2 d v1 v2 Q s r1 r2 e q
  unfold leD at e
  split at e
  · simp only [Rep] at r1 r2; subst r1 r2; cases e
    refine ⟨_, _, rfl, rfl, ?_⟩
    have q' := q _ H G (PStp.refl s) (rep_bl _)
    rw [not_iLt] at q'
    exact q'
  · cases e
theorem od_gt : OpD K (rI0 fun i j => .bl (decide (j < i))) gtD := by
  intro G H d1 d2 d v1 v2 Q s r1 r2 e q
  unfold gtD at e
  split at e
  · simp only [Rep] at r1 r2; subst r1 r2; cases e
    refine ⟨_, _, rfl, rfl, ?_⟩
    have q' := q _ H G (PStp.refl s) (rep_bl _)
    rw [iLt_eq] at q'
    exact q'
  · cases e
theorem od_ge : OpD K (rI0 fun i j => .bl (decide (j ≤ i))) geD := by
  intro G H d1 d2 d v1 v2 Q s r1 r2 e q
  unfold geD at e
  split at e
  · simp only [Rep] at r1 r2; subst r1 r2; cases e
    refine ⟨_, _, rfl, rfl, ?_⟩
    have q' := q _ H G (PStp.refl s) (rep_bl _)
    rw [not_iLt] at q'
    exact q'
  · cases e
/-! is None -/
def isNone : D → Option Bool | .non => some true | .con .non => none | _ => some false
def isND (d e : D) : Option D := match e with | .non => (isNone d).map D.bl | _ => none
def notND (d e : D) : Option D := match e with | .non => (isNone d).map fun b => D.bl (!b) | _ => none
theorem isNone_of {G : Hp} {d : D} {v : V} {b : Bool} (r : Rep K G d v) (h : isNone d = some b) : decide (v = .non) = b := by
  cases d with
  | non => simp only [Rep] at r; subst r; cases h; rfl
  | con u =>
    simp only [Rep] at r; subst r
    cases v <;> first | (cases h; done) | (cases h; rfl)
  | tup ds => simp only [Rep] at r; obtain ⟨a, vs, rfl, _⟩ := r; cases h; rfl
  | lst ds => simp only [Rep] at r; obtain ⟨a, vs, rfl, _⟩ := r; cases h; rfl
  | scr ds => simp only [Rep] at r; obtain ⟨a, rfl, _⟩ := r; cases h; rfl
  | bl _ => simp only [Rep] at r; subst r; cases h; rfl
  | int _ => simp only [Rep] at r; subst r; cases h; rfl
  | str _ => simp only [Rep] at r; subst r; cases h; rfl
  | dic ks ds => simp only [Rep] at r; obtain ⟨a, us, vs, rfl, _⟩ := r; cases h; rfl
  | ins c ds => simp only [Rep] at r; obtain ⟨a, dx, vs, rfl, _⟩ := r; cases h; rfl
theorem od_isN : OpD K (fun x y H Q => y = .non ∧ Q (.bl (decide (x = .non))) H) isND := by
  intro G H d1 d2 d v1 v2 Q s r1 r2 e q
  unfold isND at e
  split at e
  · simp only [Rep] at r2; subst r2
    cases h : isNone d1 with
    | none => rw [h] at e; cases e
    | some b =>
      rw [h] at e; cases e
      refine ⟨rfl, ?_⟩
      rw [isNone_of r1 h]
      exact q _ H G (PStp.refl s) (rep_bl _)
  · cases e
theorem od_notN : OpD K (fun x y H Q => y = .non ∧ Q (.bl (!decide (x = .non))) H) notND := by
  intro G H d1 d2 d v1 v2 Q s r1 r2 e q
  unfold notND at e
  split at e
  · simp only [Rep] at r2; subst r2
    cases h : isNone d1 with
    | none => rw [h] at e; cases e
    | some b =>
      rw [h] at e; cases e
      refine ⟨rfl, ?_⟩
      rw [isNone_of r1 h]
      exact q _ H G (PStp.refl s) (rep_bl _)
  · cases e
/-! arithmetic -/
def rAddA (K : PySem.W.Frag) : R2 := fun x y H Q => rI0 (fun i j => .int (i + j)) x y H Q ∨ (∃ i j, x = .str i ∧ y = .str j ∧ i.length + j.length ≤ sizeLine ∧ Q (.str (i ++ j)) H) ∨ rCat x y H Q ∨ rCatA K x y H Q
theorem op_addA {X : Cx} : OpR X (binaryOp .Add) (rAddA X.K) := op_add.or (op_add_str.or (op_cat.or op_catA))
def addD : D → D → Option D
  | .int i, .int j => some (.int (i + j))
  | .str a, .str b => if a.length + b.length ≤ sizeLine then some (.str (a ++ b)) else none
  | .lst a, .lst b => if a.length + b.length ≤ sizeLine then some (.lst (a ++ b)) else none
  | .tup a, .tup b => if a.length + b.length ≤ sizeLine then some (.tup (a ++ b)) else none
  | _, _ => none
theorem od_add : OpD K (rAddA K) addD := by
  intro G H d1 d2 d v1 v2 Q s r1 r2 e q
  unfold addD at e
  split at e
  · simp only [Rep] at r1 r2; subst r1 r2; cases e
    exact .inl ⟨_, _, rfl, rfl, q _ H G (PStp.refl s) (rep_int _)⟩
  · simp only [Rep] at r1 r2; subst r1 r2
    split at e
    · rename_i hz
      cases e
      exact .inr (.inl ⟨_, _, rfl, rfl, hz, q _ H G (PStp.refl s) (rep_str _)⟩)
    · cases e
  · simp only [Rep] at r1 r2
    obtain ⟨a, vs, rfl, h1, q1⟩ := r1
    obtain ⟨b, us, rfl, h2, q2⟩ := r2
    split at e
    · rename_i hz
      cases e
      refine .inr (.inr (.inl ⟨a, b, vs, us, rfl, rfl, s _ _ h1, s _ _ h2, by rw [q1.length, q2.length]; exact hz, fun p hp => ?_⟩))
      exact q _ _ _ (PStp.laid s hp) (Rep.lst_new (s.free hp) (q1.append q2))
    · cases e
  · simp only [Rep] at r1 r2
    obtain ⟨a, vs, rfl, h1, q1⟩ := r1
    obtain ⟨b, us, rfl, h2, q2⟩ := r2
    split at e
    · rename_i hz
      cases e
      refine .inr (.inr (.inr ⟨a, b, vs, us, rfl, rfl, SqT.mono s h1, SqT.mono s h2, by rw [q1.length, q2.length]; exact hz, fun e => ?_, fun _ e => ?_, fun _ _ p hp => ?_⟩))
      · subst e
        refine q _ H G (PStp.refl s) ?_
        simp only [Rep]
        exact ⟨b, us, rfl, h2, by simpa using q1.append q2⟩
      · subst e
        refine q _ H G (PStp.refl s) ?_
        simp only [Rep]
        exact ⟨a, vs, rfl, h1, by simpa using q1.append q2⟩
      · exact q _ _ _ (PStp.laid s hp) (Rep.tup_new (s.free hp) (q1.append q2))
    · cases e
  · cases e
def subD : D → D → Option D | .int i, .int j => some (.int (i - j)) | _, _ => none
theorem od_sub : OpD K (rI0 fun i j => .int (i - j)) subD := by
  intro G H d1 d2 d v1 v2 Q s r1 r2 e q
  unfold subD at e
  split at e
  · simp only [Rep] at r1 r2; subst r1 r2; cases e
    exact ⟨_, _, rfl, rfl, q _ H G (PStp.refl s) (rep_int _)⟩
  · cases e
/-- a list times an int is in MulL -/
def mulD : D → D → Option D | .int i, .int j => if small i = true ∨ small j = true then some (.int (i * j)) else none | _, _ => none
theorem od_mul : OpD K (rI CMul fun i j => .int (i * j)) mulD := by
  intro G H d1 d2 d v1 v2 Q s r1 r2 e q
  unfold mulD at e
  split at e
  · simp only [Rep] at r1 r2; subst r1 r2
    split at e
    · rename_i c
      cases e
      refine ⟨_, _, rfl, rfl, ?_, q _ H G (PStp.refl s) (rep_int _)⟩
      exact c.imp small_of small_of
    · cases e
  · cases e
def fdivD : D → D → Option D | .int i, .int j => if 0 < j ∧ j.natAbs.log2 < 9000 then some (.int (i / j)) else none | _, _ => none
theorem od_fdiv : OpD K (rI CDivW fun i j => .int (i / j)) fdivD := by
  intro G H d1 d2 d v1 v2 Q s r1 r2 e q
  unfold fdivD at e
  split at e
  · simp only [Rep] at r1 r2; subst r1 r2
    split at e
    · rename_i c
      cases e
      exact ⟨_, _, rfl, rfl, c, q _ H G (PStp.refl s) (rep_int _)⟩
    · cases e
  · cases e
def modD : D → D → Option D | .int i, .int j => if 0 < j then some (.int (i % j)) else none | _, _ => none
theorem od_mod : OpD K (rI (fun _ j => 0 < j) fun i j => .int (i % j)) modD := by
  intro G H d1 d2 d v1 v2 Q s r1 r2 e q
  unfold modD at e
  split at e
  · simp only [Rep] at r1 r2; subst r1 r2
    split at e
    · rename_i c
      cases e
      exact ⟨_, _, rfl, rfl, c, q _ H G (PStp.refl s) (rep_int _)⟩
    · cases e
  · cases e
def CPowW (i j : Int) : Prop := 0 ≤ j ∧ (Builtin.Int.intBits i : Int) * j ≤ 2 ^ 27
theorem op_powW {X : Cx} : OpR X (binaryOp .Pow) (rI CPowW fun i j => .int (i ^ j.toNat)) := opI fun _ _ _ _ _ _ _ hc q => PyProof.Rows.pow_int hc.1 hc.2 q
def powD : D → D → Option D | .int i, .int j => if 0 ≤ j ∧ (Builtin.Int.intBits i : Int) * j ≤ 2 ^ 27 then some (.int (i ^ j.toNat)) else none | _, _ => none
theorem od_pow : OpD K (rI CPowW fun i j => .int (i ^ j.toNat)) powD := by
  intro G H d1 d2 d v1 v2 Q s r1 r2 e q
  unfold powD at e
  split at e
  · simp only [Rep] at r1 r2; subst r1 r2
    split at e
    · rename_i c
      cases e
      exact ⟨_, _, rfl, rfl, c, q _ H G (PStp.refl s) (rep_int _)⟩
    · cases e
  · cases e
def negD : D → Option D | .int i => some (.int (-i)) | _ => none
theorem ud_neg : UnD K (rU fun i => .int (-i)) negD := by
  intro G H d1 d v1 Q s r1 e q
  unfold negD at e
  split at e
  · simp only [Rep] at r1; subst r1; cases e
    exact ⟨_, rfl, q _ H G (PStp.refl s) (rep_int _)⟩
  · cases e
/-! x in a list or tuple of flat things -/
def flatD : D → Bool | .non => true | .bl _ => true | .int _ => true | .str _ => true | _ => false
def eqF : D → D → Bool
  | .non, .non => true
  | .bl a, .bl b => a == b
  | .bl a, .int b => (if a then 1 else 0) == b
  | .int a, .bl b => a == (if b then 1 else 0)
  | .int a, .int b => a == b
  | .str a, .str b => a == b
  | _, _ => false
theorem flat_of {G : Hp} {d : D} {v : V} (r : Rep K G d v) (h : flatD d = true) : flatV v = true := by
  cases d with
  | non => simp only [Rep] at r; subst r; rfl
  | bl _ => simp only [Rep] at r; subst r; rfl
  | int _ => simp only [Rep] at r; subst r; rfl
  | str _ => simp only [Rep] at r; subst r; rfl
  | _ => cases h
theorem eqF_of {G : Hp} {d e : D} {v u : V} (r : Rep K G d v) (r2 : Rep K G e u) (h : flatD d = true) (h2 : flatD e = true) : eqV v u = eqF d e := by
  cases d <;> first | (cases h; done) | skip
  all_goals (cases e <;> first | (cases h2; done) | skip)
  all_goals (simp only [Rep] at r r2; subst r r2; rfl)
theorem flats_of {G : Hp} : ∀ {ds : List D} {vs : List V}, Reps K G ds vs → ds.all flatD = true → vs.all flatV = true
  | [], vs, r, _ => by simp only [Reps] at r; subst r; rfl
  | d :: ds, vs, r, h => by
    simp only [Reps] at r
    obtain ⟨v, us, rfl, r1, r2⟩ := r
    rw [List.all_cons, Bool.and_eq_true] at h ⊢
    exact ⟨flat_of r1 h.1, flats_of r2 h.2⟩
theorem inF_of {G : Hp} {x : D} {w : V} (rx : Rep K G x w) (hx : flatD x = true) : ∀ {ds : List D} {vs : List V}, Reps K G ds vs → ds.all flatD = true → inV w vs = ds.any fun y => eqF y x
  | [], vs, r, _ => by simp only [Reps] at r; subst r; rfl
  | d :: ds, vs, r, h => by
    simp only [Reps] at r
    obtain ⟨v, us, rfl, r1, r2⟩ := r
    rw [List.all_cons, Bool.and_eq_true] at h
    show (eqV v w || inV w us) = _
    rw [List.any_cons, eqF_of r1 rx h.1 hx, inF_of rx hx r2 h.2]
def inSq (x y : D) : Option Bool := match y with
  | .tup ds => if flatD x = true ∧ ds.all flatD = true then some (ds.any fun y => eqF y x) else none
  | .lst ds => if flatD x = true ∧ ds.all flatD = true then some (ds.any fun y => eqF y x) else none
  | _ => none
def inD (x y : D) : Option D := (inSq x y).map D.bl
def notInD (x y : D) : Option D := (inSq x y).map fun b => D.bl (!b)
theorem inSq_of {G H : Hp} {x y : D} {v u : V} {b : Bool} (s : Same G H) (r1 : Rep K G x v) (r2 : Rep K G y u) (h : inSq x y = some b) :
    ∃ p xs, u = .ref p ∧ (SqL K H p xs ∨ SqT K H p xs) ∧ flatV v = true ∧ xs.all flatV = true ∧ inV v xs = b := by
  cases y with
  | tup ds =>
    simp only [inSq] at h
    split at h
    · rename_i c
      cases h
      simp only [Rep] at r2
      obtain ⟨a, vs, rfl, h1, q1⟩ := r2
      exact ⟨a, vs, rfl, .inr (SqT.mono s h1), flat_of r1 c.1, flats_of q1 c.2, inF_of r1 c.1 q1 c.2⟩
    · cases h
  | lst ds =>
    simp only [inSq] at h
    split at h
    · rename_i c
      cases h
      simp only [Rep] at r2
      obtain ⟨a, vs, rfl, h1, q1⟩ := r2
      exact ⟨a, vs, rfl, .inl (SqL.of (s _ _ h1)), flat_of r1 c.1, flats_of q1 c.2, inF_of r1 c.1 q1 c.2⟩
    · cases h
  | _ => cases h
theorem od_in : OpD K (rIn K false) inD := by
  intro G H d1 d2 d v1 v2 Q s r1 r2 e q
  unfold inD at e
  cases h : inSq d1 d2 with
  | none => rw [h] at e; cases e
  | some b =>
    rw [h] at e; cases e
    obtain ⟨p, xs, rfl, h1, h2, h3, rfl⟩ := inSq_of s r1 r2 h
    exact ⟨p, xs, rfl, h1, h2, h3, q _ H G (PStp.refl s) (rep_bl _)⟩
theorem od_notIn : OpD K (rIn K true) notInD := by
  intro G H d1 d2 d v1 v2 Q s r1 r2 e q
  unfold notInD at e
  cases h : inSq d1 d2 with
  | none => rw [h] at e; cases e
  | some b =>
    rw [h] at e; cases e
    obtain ⟨p, xs, rfl, h1, h2, h3, rfl⟩ := inSq_of s r1 r2 h
    exact ⟨p, xs, rfl, h1, h2, h3, q _ H G (PStp.refl s) (rep_bl _)⟩
/-! an item -/
def ixD : D → D → Option D
  | .lst ds, .int i => atI ds i
  | .tup ds, .int i => atI ds i
  | .scr ns, .int i => (atI ns i).map D.int
  | _, _ => none
theorem atI_reps {G : Hp} {ds : List D} {vs : List V} {i : Int} {d : D} (r : Reps K G ds vs) (h : atI ds i = some d) : ∃ v, atI vs i = some v ∧ Rep K G d v := by
  unfold atI at h ⊢
  rw [r.length]
  cases e : ixN ds.length i with
  | none => rw [e] at h; cases h
  | some j =>
    rw [e] at h
    exact Reps.get r h
theorem od_ix : OpD K (fun x y H Q => rIxL K x y H Q ∨ rIxT K x y H Q) ixD := by
  intro G H d1 d2 d v1 v2 Q s r1 r2 e q
  unfold ixD at e
  split at e
  · simp only [Rep] at r1 r2
    obtain ⟨a, vs, rfl, h1, q1⟩ := r1
    subst r2
    obtain ⟨v, e1, rv⟩ := atI_reps q1 e
    exact .inl ⟨a, vs, _, v, rfl, rfl, SqL.of (s _ _ h1), e1, q _ H G (PStp.refl s) rv⟩
  · simp only [Rep] at r1 r2
    obtain ⟨a, vs, rfl, h1, q1⟩ := r1
    subst r2
    obtain ⟨v, e1, rv⟩ := atI_reps q1 e
    exact .inr ⟨a, vs, _, v, rfl, rfl, SqT.mono s h1, e1, q _ H G (PStp.refl s) rv⟩
  · simp only [Rep] at r1 r2
    obtain ⟨a, rfl, h1⟩ := r1
    subst r2
    rename_i ns i
    cases h : atI ns i with
    | none => rw [h] at e; cases e
    | some n =>
      rw [h] at e; cases e
      refine .inl ⟨a, _, _, .int n, rfl, rfl, SqL.mono s h1, ?_, q _ H G (PStp.refl s) (rep_int _)⟩
      unfold atI at h ⊢
      rw [List.length_map]
      cases e : ixN ns.length i with
      | none => rw [e] at h; cases h
      | some j =>
        rw [e] at h
        show (ns.map V.int)[j]? = _
        rw [List.getElem?_map]
        have h : ns[j]? = some n := h
        rw [h]; rfl
  · cases e
theorem de_ix {X : Cx} {a b : Expr} {fa fb : FE} {pos : Pos} (ha : PE X a (rd X.K fa)) (hb : PE X b (rd X.K fb)) (hs : PlainIx b) : PE X (.Subscript a b pos) (rd X.K (e2 ixD fa fb)) :=
  pe_imp (pe_ix (ix_list.or ix_tup) ha hb hs) (rd_2 od_ix)
/-! built-ins -/
def lenD : List D → Option D
  | [.lst ds] => some (.int ds.length)
  | [.tup ds] => some (.int ds.length)
  | [.scr ns] => some (.int ns.length)
  | _ => none
theorem reps1 {G : Hp} {d : D} {vs : List V} (r : Reps K G [d] vs) : ∃ v, vs = [v] ∧ Rep K G d v := by
  simp only [Reps] at r
  obtain ⟨v, r, rfl, h1, h2⟩ := r
  subst h2
  exact ⟨v, rfl, h1⟩
theorem reps2 {G : Hp} {d e : D} {vs : List V} (r : Reps K G [d, e] vs) : ∃ v u, vs = [v, u] ∧ Rep K G d v ∧ Rep K G e u := by
  simp only [Reps] at r
  obtain ⟨v, r, rfl, h1, u, r2, rfl, h2, h3⟩ := r
  subst h3
  exact ⟨v, u, rfl, h1, h2⟩
def rLenQ (K : PySem.W.Frag) : List V → Hp → VK → Prop := fun xs H Q => ∃ p ys, xs = [.ref p] ∧ (SqL K H p ys ∨ SqT K H p ys) ∧ Q (.int ys.length) H
theorem cd_len : CallD K (rLenQ K) lenD := by
  intro G H ds d vs Q s r e q
  unfold lenD at e
  split at e
  · obtain ⟨v, rfl, r1⟩ := reps1 r
    simp only [Rep] at r1
    obtain ⟨a, us, rfl, h1, q1⟩ := r1
    cases e
    refine ⟨a, us, rfl, .inl (SqL.of (s _ _ h1)), ?_⟩
    rw [q1.length]
    exact q _ H G (PStp.refl s) (rep_int _)
  · obtain ⟨v, rfl, r1⟩ := reps1 r
    simp only [Rep] at r1
    obtain ⟨a, us, rfl, h1, q1⟩ := r1
    cases e
    refine ⟨a, us, rfl, .inr (SqT.mono s h1), ?_⟩
    rw [q1.length]
    exact q _ H G (PStp.refl s) (rep_int _)
  · obtain ⟨v, rfl, r1⟩ := reps1 r
    simp only [Rep] at r1
    obtain ⟨a, rfl, h1⟩ := r1
    cases e
    refine ⟨a, _, rfl, .inl (SqL.mono s h1), ?_⟩
    rw [List.length_map]
    exact q _ H G (PStp.refl s) (rep_int _)
  · cases e
def absD : List D → Option D | [.int i] => some (.int (if i < 0 then -i else i)) | _ => none
theorem cd_abs : CallD K (fun xs H Q => ∃ i, xs = [.int i] ∧ Q (.int (if i < 0 then -i else i)) H) absD := by
  intro G H ds d vs Q s r e q
  unfold absD at e
  split at e
  · obtain ⟨v, rfl, r1⟩ := reps1 r
    simp only [Rep] at r1
    subst r1; cases e
    exact ⟨_, rfl, q _ H G (PStp.refl s) (rep_int _)⟩
  · cases e
def intD : List D → Option D | [.int i] => some (.int i) | [.bl k] => some (.int (if k then 1 else 0)) | _ => none
theorem cd_int : CallD K (fun xs H Q => (∃ i, xs = [.int i] ∧ Q (.int i) H) ∨ ∃ k, xs = [.bl k] ∧ Q (.int (if k then 1 else 0)) H) intD := by
  intro G H ds d vs Q s r e q
  unfold intD at e
  split at e
  · obtain ⟨v, rfl, r1⟩ := reps1 r
    simp only [Rep] at r1
    subst r1; cases e
    exact .inl ⟨_, rfl, q _ H G (PStp.refl s) (rep_int _)⟩
  · obtain ⟨v, rfl, r1⟩ := reps1 r
    simp only [Rep] at r1
    subst r1; cases e
    exact .inr ⟨_, rfl, q _ H G (PStp.refl s) (rep_int _)⟩
  · cases e
def maxD : List D → Option D | [.int i, .int j] => some (.int (if j > i then j else i)) | _ => none
def minD : List D → Option D | [.int i, .int j] => some (.int (if j < i then j else i)) | _ => none
theorem cd_max : CallD K (fun xs H Q => ∃ i j, xs = [.int i, .int j] ∧ Q (.int (if j > i then j else i)) H) maxD := by
  intro G H ds d vs Q s r e q
  unfold maxD at e
  split at e
  · obtain ⟨v, u, rfl, r1, r2⟩ := reps2 r
    simp only [Rep] at r1 r2
    subst r1 r2; cases e
    exact ⟨_, _, rfl, q _ H G (PStp.refl s) (rep_int _)⟩
  · cases e
theorem cd_min : CallD K (fun xs H Q => ∃ i j, xs = [.int i, .int j] ∧ Q (.int (if j < i then j else i)) H) minD := by
  intro G H ds d vs Q s r e q
  unfold minD at e
  split at e
  · obtain ⟨v, u, rfl, r1, r2⟩ := reps2 r
    simp only [Rep] at r1 r2
    subst r1 r2; cases e
    exact ⟨_, _, rfl, q _ H G (PStp.refl s) (rep_int _)⟩
  · cases e
/-- the ints of a list of ints -/
def asInts : List D → Option (List Int)
  | [] => some []
  | .int i :: r => (asInts r).map (i :: ·)
  | _ => none
theorem asInts_eq : ∀ {ds : List D} {ns : List Int}, asInts ds = some ns → ds = ns.map D.int
  | [], ns, h => by cases h; rfl
  | d :: ds, ns, h => by
    cases d with
    | int i =>
      simp only [asInts] at h
      cases q : asInts ds with
      | none => rw [q] at h; cases h
      | some ms => rw [q] at h; cases h; rw [List.map_cons, ← asInts_eq q]
    | _ => simp [asInts] at h
theorem asInts_ints (ns : List Int) : asInts (ns.map D.int) = some ns := by
  induction ns with
  | nil => rfl
  | cons n ns ih => rw [List.map_cons]; unfold asInts; rw [ih]; rfl
def asBools : List D → Option (List Bool)
  | [] => some []
  | .bl i :: r => (asBools r).map (i :: ·)
  | _ => none
theorem asBools_eq : ∀ {ds : List D} {ns : List Bool}, asBools ds = some ns → ds = ns.map D.bl
  | [], ns, h => by cases h; rfl
  | d :: ds, ns, h => by
    cases d with
    | bl i =>
      simp only [asBools] at h
      cases q : asBools ds with
      | none => rw [q] at h; cases h
      | some ms => rw [q] at h; cases h; rw [List.map_cons, ← asBools_eq q]
    | _ => simp [asBools] at h
theorem asBools_bools (ns : List Bool) : asBools (ns.map D.bl) = some ns := by
  induction ns with
  | nil => rfl
  | cons n ns ih => rw [List.map_cons]; unfold asBools; rw [ih]; rfl
theorem Reps.bools {G : Hp} : ∀ {ns : List Bool} {vs : List V}, Reps K G (ns.map D.bl) vs → vs = ns.map V.bl
  | [], vs, h => by simp only [List.map_nil, Reps] at h; exact h
  | n :: ns, vs, h => by
    simp only [List.map_cons, Reps, Rep] at h
    obtain ⟨v, r, rfl, rfl, h2⟩ := h
    rw [Reps.bools h2, List.map_cons]
def sumD : List D → Option D | [.lst ds] => (asInts ds).map fun ns => .int ns.sum | _ => none
theorem cd_sum : CallD K (rSum K) sumD := by
  intro G H ds d vs Q s r e q
  unfold sumD at e
  split at e
  · rename_i ds'
    obtain ⟨v, rfl, r1⟩ := reps1 r
    simp only [Rep] at r1
    obtain ⟨a, us, rfl, h1, q1⟩ := r1
    cases h : asInts ds' with
    | none => rw [h] at e; cases e
    | some ns =>
      rw [h] at e; cases e
      rw [asInts_eq h] at q1
      refine ⟨a, ns, rfl, ?_, q _ H G (PStp.refl s) (rep_int _)⟩
      rw [← q1.ints]
      exact SqL.of (s _ _ h1)
  · cases e
def allD : List D → Option D | [.lst ds] => (asBools ds).map fun ns => .bl (ns.all id) | _ => none
def anyD : List D → Option D | [.lst ds] => (asBools ds).map fun ns => .bl (ns.any id) | _ => none
theorem cd_all : CallD K (rAll K) allD := by
  intro G H ds d vs Q s r e q
  unfold allD at e
  split at e
  · rename_i ds'
    obtain ⟨v, rfl, r1⟩ := reps1 r
    simp only [Rep] at r1
    obtain ⟨a, us, rfl, h1, q1⟩ := r1
    cases h : asBools ds' with
    | none => rw [h] at e; cases e
    | some ns =>
      rw [h] at e; cases e
      rw [asBools_eq h] at q1
      refine ⟨a, ns, rfl, ?_, q _ H G (PStp.refl s) (rep_bl _)⟩
      rw [← q1.bools]
      exact SqL.of (s _ _ h1)
  · cases e
theorem cd_any : CallD K (rAny K) anyD := by
  intro G H ds d vs Q s r e q
  unfold anyD at e
  split at e
  · rename_i ds'
    obtain ⟨v, rfl, r1⟩ := reps1 r
    simp only [Rep] at r1
    obtain ⟨a, us, rfl, h1, q1⟩ := r1
    cases h : asBools ds' with
    | none => rw [h] at e; cases e
    | some ns =>
      rw [h] at e; cases e
      rw [asBools_eq h] at q1
      refine ⟨a, ns, rfl, ?_, q _ H G (PStp.refl s) (rep_bl _)⟩
      rw [← q1.bools]
      exact SqL.of (s _ _ h1)
  · cases e
/-! isinstance with built-in types -/
def tyD : D → Option String
  | .non => some "NoneType"
  | .bl _ => some "bool"
  | .int _ => some "int"
  | .str _ => some "str"
  | .tup _ => some "tuple"
  | .lst _ => some "list"
  | .dic _ _ => some "dict"
  | _ => none
theorem tyX_of {G H : Hp} {d : D} {v : V} {t : String} (s : Same G H) (r : Rep K G d v) (h : tyD d = some t) : TyX K H v (.type t) := by
  cases d with
  | non => simp only [Rep] at r; subst r; cases h; exact .base .non
  | bl b => simp only [Rep] at r; subst r; cases h; exact .base (.bl b)
  | int b => simp only [Rep] at r; subst r; cases h; exact .base (.int b)
  | str b => simp only [Rep] at r; subst r; cases h; exact .base (.str b)
  | tup ds =>
    simp only [Rep] at r
    obtain ⟨a, vs, rfl, q, _⟩ := r
    cases h
    rcases q with (q | ⟨o, q⟩) | ⟨o, its, n, q, c, _⟩
    · exact .base (.tup (s _ _ q))
    · exact .fTuple (s _ _ q)
    · exact .kTuple q c
  | lst ds =>
    simp only [Rep] at r
    obtain ⟨a, vs, rfl, q, _⟩ := r
    cases h
    exact .base (.lst (s _ _ q))
  | scr _ => cases h
  | con _ => cases h
  | ins _ _ => cases h
  | dic ks ds =>
    simp only [Rep] at r
    obtain ⟨a, us, vs, rfl, l, q, _⟩ := r
    cases h
    exact .base (.dK (s _ _ q))
/-- what isinstance says of two built-in types, as far as it is asked here -/
def kitT (t c : String) : Option Bool := kitB t c
def isiD : List D → Option D
  | [d, .con (.ty c)] => (tyD d).bind fun t => (kitB t c).map D.bl
  | _ => none
theorem cd_isi : CallD K (rIsi K) isiD := by
  intro G H ds d vs Q s r e q
  unfold isiD at e
  split at e
  · rename_i d1 c
    obtain ⟨v, u, rfl, r1, r2⟩ := reps2 r
    simp only [Rep] at r2
    subst r2
    cases h : tyD d1 with
    | none => rw [h] at e; cases e
    | some t =>
      rw [h] at e
      dsimp only [Option.bind] at e
      cases h2 : kitB t c with
      | none => rw [h2] at e; cases e
      | some b =>
        rw [h2] at e; cases e
        exact ⟨v, .ty c, .type t, .type c, b, rfl, .ty c, tyX_of s r1 h, kit_ty h2, q _ H G (PStp.refl s) (rep_bl _)⟩
  · cases e
end
end M

namespace M
open PySem PySem.Spec L2
def small62 (i : Int) : Bool := !iLt i (-4611686018427387904) && iLt i 4611686018427387904
theorem small62_iff {i : Int} : small62 i = true ↔ -(2 ^ 62) ≤ i ∧ i < 2 ^ 62 := by
  unfold small62
  rw [Bool.and_eq_true, not_iLt, iLt_eq, decide_eq_true_eq, decide_eq_true_eq]
  omega
variable [Tabs]

/-! ### names bound -/
section
variable {K : PySem.W.Frag} {σ : L2.St} {ρ : Rho} {G H : Hp}
theorem get_set {α : Type} {l : List α} {i j : Nat} {x y : α} (h : (l.set i x)[j]? = some y) : (i = j ∧ y = x) ∨ (i ≠ j ∧ l[j]? = some y) := by
  by_cases e : i = j
  · subst e
    left
    refine ⟨rfl, ?_⟩
    rw [List.getElem?_set_self' ] at h
    cases q : l[i]? with
    | none => rw [q] at h; cases h
    | some z => rw [q] at h; cases h; rfl
  · exact .inr ⟨e, by rw [List.getElem?_set_ne e] at h; exact h⟩
theorem OwnAt.of_set {i : Nat} {d : D} {v : Option V} {a : Addr} (h : OwnAt (σ.set i v) (ρ.set i (some (.dat d))) a) : OwnAt σ ρ a := by
  obtain ⟨j, io, ds, h1, h2⟩ := h
  rcases get_set h1 with ⟨_, e⟩ | ⟨n, h1⟩
  · cases e
  · rcases get_set h2 with ⟨e, _⟩ | ⟨_, h2⟩
    · exact absurd e n
    · exact ⟨j, io, ds, h1, h2⟩
theorem OwnN.of_set {i : Nat} {d : D} {v : Option V} {a : Addr} (h : OwnN (σ.set i v) (ρ.set i (some (.dat d))) a) : OwnN σ ρ a := by
  obtain ⟨j, ds, h1, h2⟩ := h
  rcases get_set h1 with ⟨_, e⟩ | ⟨n, h1⟩
  · cases e
  · rcases get_set h2 with ⟨e, _⟩ | ⟨_, h2⟩
    · exact absurd e n
    · exact ⟨j, ds, h1, h2⟩
/-- a name that was handed in -/
def isIo (ρ : Rho) (i : Nat) : Bool := match ρ[i]? with | some (some (.own true _)) => true | _ => false
theorem SR.set {i : Nat} {d : D} {v : V} (I : SR K G H σ ρ) (r : Rep K G d v) : SR K G H (σ.set i (some v)) (ρ.set i (some (.dat d))) where
  tab := I.tab
  lam := I.lam
  len := by rw [List.length_set, List.length_set]; exact I.len
  sub := I.sub
  slot := fun j s o h1 h2 => by
    rcases get_set h1 with ⟨e, q1⟩ | ⟨n, q1⟩
    · subst e; subst q1
      rcases get_set h2 with ⟨_, q2⟩ | ⟨n, _⟩
      · subst q2; exact ⟨v, rfl, r⟩
      · exact absurd rfl n
    · rcases get_set h2 with ⟨e, _⟩ | ⟨_, q2⟩
      · exact absurd e n
      · exact I.slot j s o q1 q2
  inj := fun j k io jo ds es a h1 h2 h3 h4 => by
    rcases get_set h1 with ⟨_, e⟩ | ⟨n1, h1⟩
    · cases e
    rcases get_set h2 with ⟨_, e⟩ | ⟨n2, h2⟩
    · cases e
    rcases get_set h3 with ⟨e, _⟩ | ⟨_, h3⟩
    · exact absurd e n1
    rcases get_set h4 with ⟨e, _⟩ | ⟨_, h4⟩
    · exact absurd e n2
    exact I.inj j k io jo ds es a h1 h2 h3 h4
theorem Stp.set {i : Nat} {d : D} {v : V} (hi : isIo ρ i = false) : Stp σ ρ G H (σ.set i (some v)) (ρ.set i (some (.dat d))) G H where
  sub := fun _ _ h => h
  new := fun _ _ _ => rfl
  keep := fun _ _ h _ _ => h
  grow := Grow.refl _
  dom := fun _ h => h
  own := fun a h => .inl h.of_set
  ownN := fun a h => .inl h.of_set
  stay := fun j ds h => by
    have n : i ≠ j := fun e => by
      subst e
      unfold isIo at hi
      rw [h] at hi
      cases hi
    rw [List.getElem?_set_ne n, List.getElem?_set_ne n]
    exact ⟨rfl, ds, h⟩
end

/-! ### statements -/
inductive Fl where
  | nx | bk | ct | rt (s : Sl)
abbrev FS := Rho → Rz (Fl × Rho)
/-- what is handed back -/
def RetR (K : PySem.W.Frag) (σ : L2.St) (ρ : Rho) (H G' H' : Hp) (v : V) : Sl → Prop
  | .dat d => Rep K G' d v
  | .own io ds => io = false ∧ ∃ p us, v = .ref p ∧ H' p = some (.lst us) ∧ G' p = none ∧ Reps K G' ds us ∧ (OwnN σ ρ p ∨ H p = none)
def OutS (K : PySem.W.Frag) (Dn : Ends) (σ : L2.St) (ρ : Rho) (G H : Hp) : Rz (Fl × Rho) → Prop
  | .ok (.nx, ρ') => ∀ σ' H' G', Stp σ ρ G H σ' ρ' G' H' → SR K G' H' σ' ρ' → Dn.nx σ' H'
  | .ok (.bk, ρ') => ∀ σ' H' G', Stp σ ρ G H σ' ρ' G' H' → SR K G' H' σ' ρ' → Dn.bk σ' H'
  | .ok (.ct, ρ') => ∀ σ' H' G', Stp σ ρ G H σ' ρ' G' H' → SR K G' H' σ' ρ' → Dn.ct σ' H'
  | .ok (.rt s, ρ') => ∀ v σ' H' G', Stp σ ρ G H σ' ρ' G' H' → SR K G' H' σ' ρ' → RetR K σ ρ H G' H' v s → Dn.rt v H'
  | .ex _ _ => False
  | .no => False
def rdSK (K : PySem.W.Frag) (g : FS) (Dn : Ends) (σ : L2.St) (ρ : Rho) (G H : Hp) : Prop := OutS K Dn σ ρ G H (g ρ)
def rdS (K : PySem.W.Frag) (g : FS) : TS := fun Dn σ H => ∃ ρ G, SR K G H σ ρ ∧ rdSK K g Dn σ ρ G H
section
variable {K : PySem.W.Frag} {σ : L2.St} {ρ : Rho} {G H : Hp}
theorem rdS_of {g : FS} {Dn : Ends} (I : SR K G H σ ρ) (h : rdSK K g Dn σ ρ G H) : rdS K g Dn σ H := ⟨ρ, G, I, h⟩
theorem RetR.back {σ1 : L2.St} {ρ1 : Rho} {G1 H1 G' H' : Hp} {v : V} {s : Sl} (st : Stp σ ρ G H σ1 ρ1 G1 H1) (r : RetR K σ1 ρ1 H1 G' H' v s) : RetR K σ ρ H G' H' v s := by
  cases s with
  | dat d => exact r
  | own io ds =>
    obtain ⟨e, p, us, e1, e2, e3, e4, e5⟩ := r
    refine ⟨e, p, us, e1, e2, e3, e4, ?_⟩
    rcases e5 with z | z
    · exact st.ownN p z
    · right
      cases q : H p with
      | none => rfl
      | some o => exact absurd z (st.dom p (by rw [q]; exact fun z => by cases z))
/-- what follows a step -/
theorem rdSK_after {σ1 : L2.St} {ρ1 : Rho} {G1 H1 : Hp} {g : FS} {Dn : Ends} (st : Stp σ ρ G H σ1 ρ1 G1 H1) (h : OutS K Dn σ ρ G H (g ρ1)) : rdSK K g Dn σ1 ρ1 G1 H1 := by
  unfold rdSK
  cases e : g ρ1 with
  | ok p =>
    obtain ⟨f, ρ2⟩ := p
    rw [e] at h
    cases f with
    | nx => exact fun σ' H' G' a b => h σ' H' G' (st.trans a) b
    | bk => exact fun σ' H' G' a b => h σ' H' G' (st.trans a) b
    | ct => exact fun σ' H' G' a b => h σ' H' G' (st.trans a) b
    | rt s => exact fun v σ' H' G' a b c => h v σ' H' G' (st.trans a) b (c.back st)
  | ex _ _ => rw [e] at h; exact h
  | no => rw [e] at h; exact h
/-- an expression, then what is done with it -/
def bndS (fa : FE) (k : D → FS) : FS := fun ρ => (fa ρ).bind fun p => k p.1 p.2
def bndTS (fa : FT) (k : Bool → FS) : FS := fun ρ => (fa ρ).bind fun p => k p.1 p.2
theorem rdSK_bnd {fa : FE} {k : D → FS} {Dn : Ends} (h : rdSK K (bndS fa k) Dn σ ρ G H) :
    rdK K fa σ ρ G H fun v H1 => ∃ d ρ1 G1, Stp σ ρ G H σ ρ1 G1 H1 ∧ SR K G1 H1 σ ρ1 ∧ Rep K G1 d v ∧ rdSK K (k d) Dn σ ρ1 G1 H1 := by
  unfold rdSK bndS at h
  unfold rdK
  cases e : fa ρ with
  | ok p =>
    obtain ⟨d, ρ1⟩ := p
    rw [e] at h
    dsimp only [Rz.bind] at h ⊢
    intro v H1 G1 a b c
    exact ⟨d, ρ1, G1, a, b, c, rdSK_after a h⟩
  | ex _ _ => rw [e] at h; exact h
  | no => rw [e] at h; exact h
theorem rdSK_bndT {fa : FT} {k : Bool → FS} {Dn : Ends} (h : rdSK K (bndTS fa k) Dn σ ρ G H) :
    rdTK K fa σ ρ G H fun b H1 => ∃ ρ1 G1, Stp σ ρ G H σ ρ1 G1 H1 ∧ SR K G1 H1 σ ρ1 ∧ rdSK K (k b) Dn σ ρ1 G1 H1 := by
  unfold rdSK bndTS at h
  unfold rdTK
  cases e : fa ρ with
  | ok p =>
    obtain ⟨d, ρ1⟩ := p
    rw [e] at h
    dsimp only [Rz.bind] at h ⊢
    intro H1 G1 a b
    exact ⟨ρ1, G1, a, b, rdSK_after a h⟩
  | ex _ _ => rw [e] at h; exact h
  | no => rw [e] at h; exact h
end
def sNx : FS := fun ρ => .ok (.nx, ρ)
def sBk : FS := fun ρ => .ok (.bk, ρ)
def sCt : FS := fun ρ => .ok (.ct, ρ)
def sNo : FS := fun _ => .no
def sSet (i : Nat) (fa : FE) : FS := bndS fa fun d => fun ρ => if isIo ρ i = true then .no else .ok (.nx, ρ.set i (some (.dat d)))
def sDrop (fa : FE) : FS := bndS fa fun _ => sNx
def sRet (fa : FE) : FS := bndS fa fun d => fun ρ => .ok (.rt (.dat d), ρ)
def sRetN : FS := fun ρ => .ok (.rt (.dat .non), ρ)
def sSeq (a b : FS) : FS := fun ρ => (a ρ).bind fun p => match p.1 with | .nx => b p.2 | f => .ok (f, p.2)
def sIf (t : FT) (a b : FS) : FS := bndTS t fun c => if c = true then a else b
section
variable {X : Cx} {e c : Expr} {fa fb : FE} {ft : FT} {pos : Pos} {st : Stmt} {rest a b : List Stmt} {ga gb : FS}
theorem dss_nil : PSs X [] (rdS X.K sNx) := pss_imp pss_nil fun D σ H ⟨ρ, G, I, h⟩ => h σ H G (Stp.refl _ _ _ _) I
theorem ds_pass : PS X (.Pass pos) (rdS X.K sNx) := ps_imp ps_pass fun D σ H ⟨ρ, G, I, h⟩ => h σ H G (Stp.refl _ _ _ _) I
theorem ds_break : PS X (.Break pos) (rdS X.K sBk) := ps_imp ps_break fun D σ H ⟨ρ, G, I, h⟩ => h σ H G (Stp.refl _ _ _ _) I
theorem ds_cont : PS X (.Continue pos) (rdS X.K sCt) := ps_imp ps_continue fun D σ H ⟨ρ, G, I, h⟩ => h σ H G (Stp.refl _ _ _ _) I
theorem ds_never : PS X st (rdS X.K sNo) := ps_imp ps_never fun D σ H ⟨ρ, G, I, h⟩ => h
theorem dss_one (h : PS X st (rdS X.K ga)) : PSs X [st] (rdS X.K ga) := pss_one h
theorem dss_cons (h : PS X st (rdS X.K ga)) (t : PSs X rest (rdS X.K gb)) : PSs X (st :: rest) (rdS X.K (sSeq ga gb)) := by
  refine pss_imp (pss_cons h t) fun D σ H ⟨ρ, G, I, q⟩ => ?_
  refine rdS_of I ?_
  unfold rdSK sSeq at q
  unfold rdSK
  cases e : ga ρ with
  | ok p =>
    obtain ⟨f, ρ1⟩ := p
    rw [e] at q
    dsimp only [Rz.bind] at q ⊢
    cases f with
    | nx => exact fun σ' H' G' s1 I1 => rdS_of I1 (rdSK_after s1 q)
    | bk => exact q
    | ct => exact q
    | rt s => exact q
  | ex _ _ => rw [e] at q; exact q
  | no => rw [e] at q; exact q
theorem ds_set (i : Nat) {x : Str} {pos' : Pos} (he : PE X e (rd X.K fa)) (hN : X.N.Nodup) (hi : X.N[i]? = some x := by rfl) (hx : Loc X.env.scope x := by first | exact .inl rfl | exact .inr rfl) (hs : swapsWith e (some (.Name x pos')) pos.line X.env = pure false := by rfl)
    (hf : X.fn x = true ∨ X.env.scope.names.lookup x = some .local := by first | exact .inl rfl | exact .inr rfl | assumption) : PS X (.Assign [.Name x pos'] e pos) (rdS X.K (sSet i fa)) := by
  refine ps_imp (ps_set hN hi hx he hs hf) fun D σ H ⟨ρ, G, I, h⟩ => ?_
  refine rd_of I (rdK_mono (rdSK_bnd h) fun v H1 ⟨d, ρ1, G1, s1, I1, r1, h1⟩ => ?_)
  unfold rdSK at h1
  by_cases z : isIo ρ1 i = true
  · simp only [if_pos z] at h1
    exact False.elim h1
  · simp only [if_neg z] at h1
    exact h1 _ H1 G1 (Stp.set (by simpa using z)) (I1.set r1)
theorem ds_expr (he : PE X e (rd X.K fa)) (hs : swapsWith e none pos.line X.env = pure false := by rfl) : PS X (.Expr e pos) (rdS X.K (sDrop fa)) := by
  refine ps_imp (ps_expr he hs) fun D σ H ⟨ρ, G, I, h⟩ => ?_
  refine rd_of I (rdK_mono (rdSK_bnd h) fun v H1 ⟨d, ρ1, G1, s1, I1, r1, h1⟩ => ?_)
  exact h1 σ H1 G1 (Stp.refl _ _ _ _) I1
theorem ds_ret (he : PE X e (rd X.K fa)) : PS X (.Return (some e) pos) (rdS X.K (sRet fa)) := by
  refine ps_imp (ps_ret he) fun D σ H ⟨ρ, G, I, h⟩ => ?_
  refine rd_of I (rdK_mono (rdSK_bnd h) fun v H1 ⟨d, ρ1, G1, s1, I1, r1, h1⟩ => ?_)
  exact h1 v σ H1 G1 (Stp.refl _ _ _ _) I1 r1
theorem ds_retN : PS X (.Return none pos) (rdS X.K sRetN) := ps_imp ps_retN fun D σ H ⟨ρ, G, I, h⟩ => h .non σ H G (Stp.refl _ _ _ _) I (rep_non (K := X.K) (G := G))
theorem ds_if (hc : PT X c (rdT X.K ft)) (ha : PSs X a (rdS X.K ga)) (hb : PSs X b (rdS X.K gb)) : PS X (.If c a b pos) (rdS X.K (sIf ft ga gb)) := by
  refine ps_imp (ps_if hc ha hb) fun D σ H ⟨ρ, G, I, h⟩ => ?_
  refine rdT_of I (rdTK_mono (rdSK_bndT h) fun d H1 ⟨ρ1, G1, s1, I1, h1⟩ => ?_)
  cases d with
  | true => exact rdS_of I1 h1
  | false => exact rdS_of I1 h1
end

/-! ### targets -/
/-- the names that a target binds -/
def Only (is : List Nat) (σ σ' : L2.St) : Prop := σ'.length = σ.length ∧ ∀ k, k ∉ is → σ'[k]? = σ[k]?
abbrev TgD := D → Rho → Option Rho
def rdG (K : PySem.W.Frag) (is : List Nat) (tg : TgD) : TG := fun v σ H Q => ∃ ρ G d, SR K G H σ ρ ∧ Rep K G d v ∧ ∃ ρ', tg d ρ = some ρ' ∧
  ∀ σ', Stp σ ρ G H σ' ρ' G H → SR K G H σ' ρ' → Only is σ σ' → Q σ' H
def tName (i : Nat) : TgD := fun d ρ => if isIo ρ i = true then none else some (ρ.set i (some (.dat d)))
/-- i, j = .. -/
def tPair (i j : Nat) : TgD := fun d ρ => match d with | .tup [a, b] => (tName i a ρ).bind (tName j b) | _ => none
theorem Only.refl {is : List Nat} {σ : L2.St} : Only is σ σ := ⟨rfl, fun _ _ => rfl⟩
theorem Only.set {is : List Nat} {σ σ' : L2.St} (h : Only is σ σ') {i : Nat} (hi : i ∈ is) {v : Option V} : Only is σ (σ'.set i v) :=
  ⟨by rw [List.length_set]; exact h.1, fun k hk => by rw [List.getElem?_set_ne (fun e => hk (by rw [← e]; exact hi))]; exact h.2 k hk⟩
section
variable {X : Cx} {pos : Pos}
theorem dg_name (i : Nat) {x : Str} {is : List Nat} (hin : i ∈ is) (hN : X.N.Nodup) (hi : X.N[i]? = some x := by rfl) (hx : Loc X.env.scope x := by first | exact .inl rfl | exact .inr rfl) (hf : X.fn x = true ∨ X.env.scope.names.lookup x = some .local := by first | exact .inl rfl | exact .inr rfl | assumption) :
    PG X (.Name x pos) (rdG X.K is (tName i)) := by
  refine ⟨fun pins s σ H v u Q I r ⟨ρ, G, d, J, rd, ρ', e, q⟩ => ?_⟩
  refine (pg_name hN hi hx hf).run pins s σ H v u Q I r ?_
  unfold tName at e
  split at e
  · cases e
  · rename_i z
    cases e
    exact q _ (Stp.set (by simpa using z)) (J.set rd) (Only.refl.set hin)
theorem dg_pair (i j : Nat) {x y : Str} {is : List Nat} {k : Nat} {px py : Pos} (hin : i ∈ is) (hjn : j ∈ is) (hc : X.calm = true) (hN : X.N.Nodup) (hi : X.N[i]? = some x := by rfl) (hj : X.N[j]? = some y := by rfl) (hx : Loc X.env.scope x := by first | exact .inl rfl | exact .inr rfl)
    (hy : Loc X.env.scope y := by first | exact .inl rfl | exact .inr rfl) (hf : X.fn x = true ∨ X.env.scope.names.lookup x = some .local := by first | exact .inl rfl | exact .inr rfl | assumption)
    (hg : X.fn y = true ∨ X.env.scope.names.lookup y = some .local := by first | exact .inl rfl | exact .inr rfl | assumption) :
    PG X (.Tuple [.Name x px, .Name y py] k pos) (rdG X.K is (tPair i j)) := by
  refine ⟨fun pins s σ H v u Q I r ⟨ρ, G, d, J, rd, ρ', e, q⟩ => ?_⟩
  refine (pg_tup hc (pgs_cons (pg_name hN hi hx hf) (pgs_cons (pg_name hN hj hy hg) pgs_nil))).run pins s σ H v u Q I r ?_
  unfold tPair at e
  split at e
  · rename_i d1 d2
    simp only [Rep, Reps] at rd
    obtain ⟨a, vs, rfl, h1, v1, r1, rfl, q1, v2, r2, rfl, q2, rfl⟩ := rd
    refine ⟨a, [v1, v2], rfl, SqT.mono J.sub h1, rfl, v1, [v2], rfl, v2, [], rfl, rfl, ?_⟩
    unfold tName at e
    by_cases z : isIo ρ i = true
    · rw [if_pos z] at e; cases e
    · rw [if_neg z] at e
      simp only [Option.bind] at e
      by_cases z2 : isIo (ρ.set i (some (.dat d1))) j = true
      · rw [if_pos z2] at e; cases e
      · rw [if_neg z2] at e
        cases e
        have I1 := J.set (i := i) q1
        exact q _ ((Stp.set (by simpa using z)).trans (Stp.set (by simpa using z2))) (I1.set q2) ((Only.refl.set hin).set hjn)
  · cases e
end

/-! ### what is walked -/
/-- J yields these data -/
def ItD (K : PySem.W.Frag) (G0 : Hp) (J : It) (ds : List D) : Prop := ∀ (i : Nat) (G H : Hp), Same G0 G → Same G H →
  (∀ d, ds[i]? = some d → J.go i H ∧ ∀ x H', J.yld i H x H' → ∃ G', PStp G H G' H' ∧ Rep K G' d x) ∧ (ds.length = i → J.stop i H)
abbrev FI := Rho → Rz (List D × Rho)
def rdIK (K : PySem.W.Frag) (fi : FI) (σ : L2.St) (ρ : Rho) (G H : Hp) (R : It → Hp → Prop) : Prop := match fi ρ with
  | .ok (ds, ρ') => ∀ J H' G', Stp σ ρ G H σ ρ' G' H' → SR K G' H' σ ρ' → ItD K G' J ds → R J H'
  | .ex _ _ => False
  | .no => False
def rdI (K : PySem.W.Frag) (fi : FI) : TI := fun σ H R => ∃ ρ G, SR K G H σ ρ ∧ rdIK K fi σ ρ G H R
section
variable {X : Cx}
theorem pi_imp {tg iter : Expr} {w w' : TI} (h : PI X tg iter w) (hi : ∀ σ H R, w' σ H R → w σ H R) : PI X tg iter w' := ⟨fun pins s σ H R I q => h.run pins s σ H R I (hi σ H R q)⟩
theorem itD_list {K : PySem.W.Frag} {G0 : Hp} {a : Addr} {vs : List V} {ds : List D} (h : SqL K G0 a vs) (r : Reps K G0 ds vs) : ItD K G0 (Itl K a) ds := by
  intro i G H s1 s2
  have hH := SqL.mono s2 (SqL.mono s1 h)
  refine ⟨fun d e => ?_, fun e => ⟨vs, hH, by rw [r.length]; exact Nat.le_of_eq e⟩⟩
  obtain ⟨v, e1, rv⟩ := r.get e
  refine ⟨⟨vs, v, hH, e1⟩, fun x H' y => ?_⟩
  obtain ⟨rfl, y⟩ := y
  have := y vs hH
  rw [e1] at this
  cases this
  exact ⟨G, PStp.refl s2, Rep.mono s1 _ _ rv⟩
theorem itD_tup {K : PySem.W.Frag} {G0 : Hp} {a : Addr} {vs : List V} {ds : List D} (h : SqT K G0 a vs) (r : Reps K G0 ds vs) : ItD K G0 (Itt K a) ds := by
  intro i G H s1 s2
  have hH := SqT.mono s2 (SqT.mono s1 h)
  refine ⟨fun d e => ?_, fun e => ⟨vs, hH, by rw [r.length]; exact Nat.le_of_eq e⟩⟩
  obtain ⟨v, e1, rv⟩ := r.get e
  refine ⟨⟨vs, v, hH, e1⟩, fun x H' y => ?_⟩
  obtain ⟨rfl, y⟩ := y
  have := y vs hH
  rw [e1] at this
  cases this
  exact ⟨G, PStp.refl s2, Rep.mono s1 _ _ rv⟩
def rgD (lo : Int) (n : Nat) : List D := (List.range n).map fun i => D.int (lo + (i : Nat))
theorem rgD_get {lo : Int} {n i : Nat} {d : D} (h : (rgD lo n)[i]? = some d) : i < n ∧ d = .int (lo + (i : Nat)) := by
  unfold rgD at h
  rw [List.getElem?_map] at h
  by_cases z : i < n
  · rw [List.getElem?_range z] at h
    cases h
    exact ⟨z, rfl⟩
  · rw [List.getElem?_eq_none (by simpa using z)] at h
    cases h
theorem itD_range {K : PySem.W.Frag} {G0 : Hp} (lo : Int) (n : Nat) : ItD K G0 (Itr lo n) (rgD lo n) := by
  intro i G H s1 s2
  refine ⟨fun d e => ?_, fun e => ?_⟩
  · obtain ⟨z, rfl⟩ := rgD_get e
    refine ⟨z, fun x H' y => ?_⟩
    obtain ⟨rfl, rfl⟩ := y
    exact ⟨G, PStp.refl s2, rep_int _⟩
  · unfold rgD at e
    rw [List.length_map, List.length_range] at e
    exact Nat.le_of_eq e
/-- a tuple, a list -/
def iSeq (fa : FE) : FI := fun ρ => (fa ρ).bind fun p => match p.1 with | .tup ds => .ok (ds, p.2) | .lst ds => .ok (ds, p.2) | _ => .no
theorem pi_or {tg iter : Expr} {w w' : TI} (h : PI X tg iter w) (h' : PI X tg iter w') : PI X tg iter (fun σ H R => w σ H R ∨ w' σ H R) := ⟨fun pins s σ H R I q => q.elim (h.run pins s σ H R I) (h'.run pins s σ H R I)⟩
theorem di_seq {tg l : Expr} {fa : FE} (hl : PE X l (rd X.K fa)) : PI X tg l (rdI X.K (iSeq fa)) := by
  refine pi_imp (pi_or (pi_list hl) (pi_tup hl)) fun σ H R ⟨ρ, G, I, h⟩ => ?_
  unfold rdIK iSeq at h
  cases e : fa ρ with
  | ok p =>
    obtain ⟨d, ρ1⟩ := p
    rw [e] at h
    dsimp only [Rz.bind] at h
    cases d with
    | tup ds =>
      right
      refine rd_of I ?_
      unfold rdK
      rw [e]
      intro v H1 G1 s1 I1 r1
      simp only [Rep] at r1
      obtain ⟨a, vs, rfl, h1, q1⟩ := r1
      exact ⟨a, rfl, ⟨vs, SqT.mono I1.sub h1⟩, h _ H1 G1 s1 I1 (itD_tup h1 q1)⟩
    | lst ds =>
      left
      refine rd_of I ?_
      unfold rdK
      rw [e]
      intro v H1 G1 s1 I1 r1
      simp only [Rep] at r1
      obtain ⟨a, vs, rfl, h1, q1⟩ := r1
      exact ⟨a, rfl, ⟨vs, SqL.of (I1.sub _ _ h1)⟩, h _ H1 G1 s1 I1 (itD_list (SqL.of h1) q1)⟩
    | _ => exact h.elim
  | ex _ _ => rw [e] at h; exact h.elim
  | no => rw [e] at h; exact h.elim
def rg1 : List D → Option (List D)
  | [.int j] => if small62 j = true then some (rgD 0 j.toNat) else none
  | _ => none
def rg2 : List D → Option (List D)
  | [.int i, .int j] => if small62 i = true ∧ small62 j = true then some (rgD i (j - i).toNat) else none
  | _ => none
theorem rg1_of {ds es : List D} (h : rg1 ds = some es) : ∃ j, ds = [.int j] ∧ -(2 ^ 62) ≤ j ∧ j < 2 ^ 62 ∧ es = rgD 0 j.toNat := by
  unfold rg1 at h
  split at h
  · rename_i j
    split at h
    · rename_i z
      cases h
      have z := small62_iff.mp z
      exact ⟨j, rfl, z.1, z.2, rfl⟩
    · cases h
  · cases h
theorem rg2_of {ds es : List D} (h : rg2 ds = some es) : ∃ i j, ds = [.int i, .int j] ∧ (-(2 ^ 62) ≤ i ∧ i < 2 ^ 62 ∧ -(2 ^ 62) ≤ j ∧ j < 2 ^ 62) ∧ es = rgD i (j - i).toNat := by
  unfold rg2 at h
  split at h
  · rename_i i j
    split at h
    · rename_i z
      cases h
      have z1 := small62_iff.mp z.1
      have z2 := small62_iff.mp z.2
      exact ⟨i, j, rfl, ⟨z1.1, z1.2, z2.1, z2.2⟩, rfl⟩
    · cases h
  · cases h
def iRg (rg : List D → Option (List D)) (f : FA) : FI := fun ρ => (f ρ).bind fun p => match rg p.1 with | some ds => .ok (ds, p.2) | none => .no
theorem di_range1 {tg a : Expr} {fs : FA} {p pos : Pos} (hg : Gl X "range") (hm : X.mg "range" = none) (ha : PA X [a] (rdA X.K fs)) (hs : starEach [a] X.env = [(false, eval a X.env)] := by rfl) : PI X tg (.Call (.Name "range" p) [a] [] pos) (rdI X.K (iRg rg1 fs)) := by
  refine pi_imp (pi_range1 hg hm ha hs) fun σ H R ⟨ρ, G, I, h⟩ => ?_
  unfold rdIK iRg at h
  refine rdA_of I ?_
  unfold rdAK
  cases e : fs ρ with
  | ok q =>
    obtain ⟨ds, ρ1⟩ := q
    rw [e] at h
    dsimp only [Rz.bind] at h ⊢
    intro vs H1 G1 s1 I1 r1
    cases q : rg1 ds with
    | none => rw [q] at h; exact h.elim
    | some es =>
      rw [q] at h
      obtain ⟨j, rfl, z1, z2, rfl⟩ := rg1_of q
      obtain ⟨v, rfl, rv⟩ := reps1 r1
      simp only [Rep] at rv
      subst rv
      exact ⟨j, rfl, z1, z2, h _ H1 G1 s1 I1 (itD_range _ _)⟩
  | ex _ _ => rw [e] at h; exact h.elim
  | no => rw [e] at h; exact h.elim
theorem di_range2 {tg a b : Expr} {fs : FA} {p pos : Pos} (hg : Gl X "range") (hm : X.mg "range" = none) (ha : PA X [a, b] (rdA X.K fs)) (hs : starEach [a, b] X.env = [(false, eval a X.env), (false, eval b X.env)] := by rfl) (hs2 : starEach [b] X.env = [(false, eval b X.env)] := by rfl) :
    PI X tg (.Call (.Name "range" p) [a, b] [] pos) (rdI X.K (iRg rg2 fs)) := by
  refine pi_imp (pi_range2 hg hm ha hs hs2) fun σ H R ⟨ρ, G, I, h⟩ => ?_
  unfold rdIK iRg at h
  refine rdA_of I ?_
  unfold rdAK
  cases e : fs ρ with
  | ok q =>
    obtain ⟨ds, ρ1⟩ := q
    rw [e] at h
    dsimp only [Rz.bind] at h ⊢
    intro vs H1 G1 s1 I1 r1
    cases q : rg2 ds with
    | none => rw [q] at h; exact h.elim
    | some es =>
      rw [q] at h
      obtain ⟨i, j, rfl, z1, rfl⟩ := rg2_of q
      obtain ⟨v, u, rfl, rv, ru⟩ := reps2 r1
      simp only [Rep] at rv ru
      subst rv; subst ru
      exact ⟨i, j, rfl, z1, h _ H1 G1 s1 I1 (itD_range _ _)⟩
  | ex _ _ => rw [e] at h; exact h.elim
  | no => rw [e] at h; exact h.elim
end

/-! ### for, while -/
def forL (tg : TgD) (body : FS) : List D → FS
  | [], ρ => .ok (.nx, ρ)
  | d :: ds, ρ => frc d fun d => nrmR ρ fun ρ => match tg d ρ with
    | none => .no
    | some ρ1 => (body ρ1).bind fun p => match p.1 with | .nx => forL tg body ds p.2 | .ct => forL tg body ds p.2 | .bk => .ok (.nx, p.2) | .rt s => .ok (.rt s, p.2)
def sFor (fi : FI) (tg : TgD) (body : FS) : FS := fun ρ => (fi ρ).bind fun p => forL tg body p.1 p.2
def whl (t : FT) (body : FS) : Nat → FS
  | 0, _ => .no
  | n + 1, ρ => nrmR ρ fun ρ => (t ρ).bind fun c => if c.1 = true then (body c.2).bind fun p => match p.1 with | .nx => whl t body n p.2 | .ct => whl t body n p.2 | .bk => .ok (.nx, p.2) | .rt s => .ok (.rt s, p.2) else .ok (.nx, c.2)
section
variable {X : Cx} {pos : Pos}
theorem ds_for {iter tgt : Expr} {body : List Stmt} {fi : FI} {is : List Nat} {tg : TgD} {g : FS} (hp : PassesOwn (model X.prog X.w) X.A X.env X.xe) (hc : X.calm = true) (hi : PI X tgt iter (rdI X.K fi)) (hg : PG X tgt (rdG X.K is tg)) (hb : PSs X body (rdS X.K g))
    (hs : ∀ x, foldedSetIterable iter X.env x = pure x := by intro _; rfl) : PS X (.For tgt iter body [] pos) (rdS X.K (sFor fi tg g)) := by
  refine ps_imp (ps_for hp hc hi hg hb hs) fun D σ H ⟨ρ, G, I, h⟩ => ?_
  refine ⟨ρ, G, I, ?_⟩
  unfold rdSK sFor at h
  unfold rdIK
  cases e : fi ρ with
  | ex _ _ => rw [e] at h; exact h
  | no => rw [e] at h; exact h
  | ok p =>
    obtain ⟨ds, ρ1⟩ := p
    rw [e] at h
    dsimp only [Rz.bind] at h ⊢
    intro J H1 G1 s1 I1 hJ
    have h1 : rdSK X.K (forL tg g ds) D σ ρ1 G1 H1 := rdSK_after s1 h
    refine ⟨fun i m σ' H' => m = ds.length - i ∧ i ≤ ds.length ∧ ∃ ρ' G', Same G1 G' ∧ SR X.K G' H' σ' ρ' ∧ rdSK X.K (forL tg g (ds.drop i)) D σ' ρ' G' H',
      ⟨ds.length, rfl, Nat.zero_le _, ρ1, G1, fun _ _ h => h, I1, h1⟩, ?_⟩
    rintro i m σ' H' ⟨rfl, hi, ρ', G', sG, I', h'⟩
    by_cases hlt : i < ds.length
    · have ed : ds.drop i = ds[i] :: ds.drop (i + 1) := List.drop_eq_getElem_cons hlt
      obtain ⟨go, yl⟩ := (hJ i G' H' sG I'.sub).1 ds[i] (List.getElem?_eq_getElem hlt)
      right
      refine ⟨go, fun σ2 H2 => ∃ ρ2 G2, Same G1 G2 ∧ SR X.K G2 H2 σ2 ρ2 ∧ rdSK X.K (forL tg g (ds.drop (i + 1))) D σ2 ρ2 G2 H2, fun σ2 H2 ⟨ρ2, G2, a, b, c⟩ => ⟨ds.length - (i + 1), by omega, rfl, hlt, ρ2, G2, a, b, c⟩, fun x H2 y => ?_⟩
      obtain ⟨G2, P2, rx⟩ := yl x H2 y
      have I2 := I'.pure P2
      rw [ed] at h'
      unfold rdSK at h'
      unfold forL at h'
      rw [frc_eq, nrmR_eq] at h'
      cases et : tg ds[i] ρ' with
      | none => rw [et] at h'; exact h'.elim
      | some ρ3 =>
        rw [et] at h'
        dsimp only at h'
        refine ⟨ρ', G2, ds[i], I2, rx, ρ3, et, fun σ3 s3 I3 _ => ?_⟩
        refine rdS_of I3 ?_
        have st := (P2.stp (σ := σ') (ρ := ρ')).trans s3
        unfold rdSK
        cases eb : g ρ3 with
        | ex _ _ => rw [eb] at h'; exact h'.elim
        | no => rw [eb] at h'; exact h'.elim
        | ok p =>
          obtain ⟨f, ρ4⟩ := p
          rw [eb] at h'
          dsimp only [Rz.bind] at h' ⊢
          cases f with
          | nx => exact fun σ4 H4 G4 s4 I4 => ⟨ρ4, G4, fun a o q => s4.sub a o (P2.sub a o (sG a o q)), I4, rdSK_after (st.trans s4) h'⟩
          | ct => exact fun σ4 H4 G4 s4 I4 => ⟨ρ4, G4, fun a o q => s4.sub a o (P2.sub a o (sG a o q)), I4, rdSK_after (st.trans s4) h'⟩
          | bk => exact fun σ4 H4 G4 s4 I4 => h' σ4 H4 G4 (st.trans s4) I4
          | rt s => exact fun v σ4 H4 G4 s4 I4 r4 => h' v σ4 H4 G4 (st.trans s4) I4 (r4.back st)
    · left
      have e0 : ds.drop i = [] := List.drop_eq_nil_of_le (by omega)
      rw [e0] at h'
      exact ⟨(hJ i G' H' sG I'.sub).2 (by omega), h' σ' H' G' (Stp.refl _ _ _ _) I'⟩
theorem ds_while {c : Expr} {body : List Stmt} {t : FT} {g : FS} (n : Nat) (hp : PassesOwn (model X.prog X.w) X.A X.env X.xe) (hc : PT X c (rdT X.K t)) (hb : PSs X body (rdS X.K g)) : PS X (.While c body [] pos) (rdS X.K (whl t g n)) := by
  refine ps_imp (ps_while hp hc hb) fun D σ H ⟨ρ, G, I, h⟩ => ?_
  refine ⟨fun m σ' H' => ∃ ρ' G', SR X.K G' H' σ' ρ' ∧ rdSK X.K (whl t g m) D σ' ρ' G' H', ⟨n, ρ, G, I, h⟩, ?_⟩
  rintro m σ' H' ⟨ρ', G', I', h'⟩
  cases m with
  | zero => exact h'.elim
  | succ m =>
    unfold rdSK at h'
    unfold whl at h'
    rw [nrmR_eq] at h'
    refine rdT_of I' ?_
    unfold rdTK
    cases e : t ρ' with
    | ex _ _ => rw [e] at h'; exact h'.elim
    | no => rw [e] at h'; exact h'.elim
    | ok p =>
      obtain ⟨b, ρ1⟩ := p
      rw [e] at h'
      dsimp only [Rz.bind] at h' ⊢
      intro H1 G1 s1 I1
      cases b with
      | false =>
        simp only [Bool.false_eq_true, if_false] at h' ⊢
        exact h' σ' H1 G1 s1 I1
      | true =>
        simp only [if_true] at h' ⊢
        refine ⟨fun σ2 H2 => ∃ ρ2 G2, SR X.K G2 H2 σ2 ρ2 ∧ rdSK X.K (whl t g m) D σ2 ρ2 G2 H2, fun σ2 H2 q => ⟨m, Nat.lt_succ_self _, q⟩, ?_⟩
        refine rdS_of I1 ?_
        unfold rdSK
        cases eb : g ρ1 with
        | ex _ _ => rw [eb] at h'; exact h'.elim
        | no => rw [eb] at h'; exact h'.elim
        | ok p =>
          obtain ⟨f, ρ4⟩ := p
          rw [eb] at h'
          dsimp only [Rz.bind] at h' ⊢
          cases f with
          | nx => exact fun σ4 H4 G4 s4 I4 => ⟨ρ4, G4, I4, rdSK_after (s1.trans s4) h'⟩
          | ct => exact fun σ4 H4 G4 s4 I4 => ⟨ρ4, G4, I4, rdSK_after (s1.trans s4) h'⟩
          | bk => exact fun σ4 H4 G4 s4 I4 => h' σ4 H4 G4 (s1.trans s4) I4
          | rt s => exact fun v σ4 H4 G4 s4 I4 r4 => h' v σ4 H4 G4 (s1.trans s4) I4 (r4.back s1)
end
end M

namespace M
open PySem PySem.Spec L2
variable [Tabs]

/-! ### lists of one's own -/
def ownL (ρ : Rho) (j : Nat) : Option (Bool × List D) := match ρ[j]? with | some (some (.own io ds)) => some (io, ds) | _ => none
theorem ownL_eq {ρ : Rho} {j : Nat} {io : Bool} {ds : List D} (h : ownL ρ j = some (io, ds)) : ρ[j]? = some (some (.own io ds)) := by
  unfold ownL at h
  split at h
  · cases h; assumption
  · cases h
section
variable {K : PySem.W.Frag} {σ : L2.St} {ρ : Rho} {G H : Hp}
theorem SR.own {j : Nat} {io : Bool} {ds : List D} (I : SR K G H σ ρ) (h : ownL ρ j = some (io, ds)) : ∃ a vs, σ[j]? = some (some (.ref a)) ∧ H a = some (.lst vs) ∧ G a = none ∧ Reps K G ds vs := by
  have h1 := ownL_eq h
  have hl : j < σ.length := by rw [← I.len]; exact (List.getElem?_eq_some_iff.mp h1).1
  obtain ⟨a, vs, e, e2, e3, r⟩ := I.slot j _ _ h1 (List.getElem?_eq_getElem hl)
  exact ⟨a, vs, by rw [List.getElem?_eq_getElem hl, e], e2, e3, r⟩
theorem set_own_get {j i : Nat} {io jo : Bool} {ds es ds0 : List D} (h0 : ρ[j]? = some (some (.own jo ds0))) (h : (ρ.set j (some (.own jo es)))[i]? = some (some (.own io ds))) :
    ∃ ds', ρ[i]? = some (some (.own io ds')) := by
  rcases get_set h with ⟨e, q⟩ | ⟨n, q⟩
  · subst e; cases q; exact ⟨_, h0⟩
  · exact ⟨_, q⟩
/-- the list at j is written -/
theorem SR.mut {j : Nat} {io : Bool} {ds es : List D} {a : Addr} {us : List V} (I : SR K G H σ ρ) (h : ownL ρ j = some (io, ds)) (ha : σ[j]? = some (some (.ref a))) {G' H' : Hp} (sG : Same G G') (sH : Same G' H') (hG : ∀ b, H b ≠ none → b ≠ a → G' b = G b) (hG2 : G' a = none)
    (hH : ∀ b o, H b = some o → b ≠ a → H' b = some o) (h2 : H' a = some (.lst us)) (r : Reps K G' es us) : SR K G' H' σ (ρ.set j (some (.own io es))) ∧ Stp σ ρ G H σ (ρ.set j (some (.own io es))) G' H' := by
  have h1 := ownL_eq h
  have oa : OwnAt σ ρ a := ⟨j, io, ds, h1, ha⟩
  have nt : ∀ b ps, H b = some (.tbl ps) → b ≠ a := fun b ps e z => by
    obtain ⟨a', vs0, f1, f2, _⟩ := I.own h
    rw [ha] at f1; cases f1
    subst z
    rw [f2] at e; cases e
  have gr : Grow H H' := fun b ps e => ⟨ps, hH b _ e (nt b ps e), id, fun q _ z => tabS_to z (fun ps e => hH b _ e (nt b ps e)) fun c e => hH c _ e fun y => by
    obtain ⟨a', vs0, f1, f2, _⟩ := I.own h
    rw [ha] at f1; cases f1
    subst y
    rw [f2] at e
    exact codeO_lst _ (Option.some.inj e).symm⟩
  refine ⟨⟨I.tabs' gr fun P z ⟨ps, e⟩ => hG P z (nt P ps e), I.lam' gr, by rw [List.length_set]; exact I.len, sH, fun i s o q1 q2 => ?_, fun i k i1 i2 d1 d2 b q1 q2 q3 q4 => ?_⟩, ⟨sG, fun b hb n => ?_, fun b o e n _ => ?_, gr, fun b hb => ?_, fun b z => ?_, fun b z => ?_, fun i d1 q => ?_⟩⟩
  · rcases get_set q1 with ⟨e, q⟩ | ⟨n, q⟩
    · subst e; subst q
      rw [q2] at ha; cases ha
      exact ⟨a, us, rfl, h2, hG2, r⟩
    · have z := I.slot i s o q q2
      match s, z with
      | none, _ => trivial
      | some (.dat d), ⟨v, e, r⟩ => exact ⟨v, e, Rep.mono sG _ _ r⟩
      | some (.own io' ds'), ⟨b, vs, e, e2, e3, r'⟩ =>
        have nb : b ≠ a := fun z => by
          subst z
          subst e
          exact n (I.inj j i _ _ _ _ b h1 q ha q2)
        exact ⟨b, vs, e, hH b _ e2 nb, by rw [hG b (by rw [e2]; exact fun z => by cases z) nb]; exact e3, Reps.mono sG _ _ r'⟩
  · obtain ⟨d3, z1⟩ := set_own_get h1 q1
    obtain ⟨d4, z2⟩ := set_own_get h1 q2
    exact I.inj i k i1 i2 d3 d4 b z1 z2 q3 q4
  · exact hG b hb fun z => n (by rw [z]; exact oa)
  · exact hH b o e fun z => n (by rw [z]; exact oa)
  · by_cases z : b = a
    · subst z; rw [h2]; exact fun z => by cases z
    · cases q : H b with
      | none => exact absurd q hb
      | some o => rw [hH b o q z]; exact fun z => by cases z
  · obtain ⟨i, i1, d1, q1, q2⟩ := z
    obtain ⟨d2, z1⟩ := set_own_get h1 q1
    exact .inl ⟨i, i1, d2, z1, q2⟩
  · obtain ⟨i, d1, q1, q2⟩ := z
    obtain ⟨d2, z1⟩ := set_own_get h1 q1
    exact .inl ⟨i, d2, z1, q2⟩
  · refine ⟨rfl, ?_⟩
    by_cases e : j = i
    · subst e
      rw [h1] at q; cases q
      exact ⟨es, by rw [List.getElem?_set_self (List.getElem?_eq_some_iff.mp h1).1]⟩
    · exact ⟨d1, by rw [List.getElem?_set_ne e]; exact q⟩
theorem SR.mut' {j : Nat} {io : Bool} {ds es : List D} {a : Addr} {us vs : List V} (I : SR K G H σ ρ) (h : ownL ρ j = some (io, ds)) (ha : σ[j]? = some (some (.ref a))) (h1 : H a = some (.lst vs)) (h2 : G a = none) (r : Reps K G es us) :
    SR K G (upd H a (.lst us)) σ (ρ.set j (some (.own io es))) ∧ Stp σ ρ G H σ (ρ.set j (some (.own io es))) G (upd H a (.lst us)) :=
  I.mut h ha (fun _ _ q => q) (fun b o q => by rw [upd_ne (ne_of_none q h2)]; exact I.sub b o q) (fun _ _ _ => rfl) h2 (fun b o q n => by rw [upd_ne n]; exact q) upd_same r
end

/-- a reading whose value is a new list, seen by none -/
def OutO (K : PySem.W.Frag) (Q : VK) (σ : L2.St) (ρ : Rho) (G H : Hp) : Rz (List D × Rho) → Prop
  | .ok (ds, ρ') => ∀ p us H' G', Stp σ ρ G H σ ρ' G' H' → SR K G' H' σ ρ' → H p = none → H' p = some (.lst us) → G' p = none → ¬ OwnAt σ ρ' p → Reps K G' ds us → Q (.ref p) H'
  | .ex _ _ => False
  | .no => False
def rdO (K : PySem.W.Frag) (f : FA) : TE := fun σ H Q => ∃ ρ G, SR K G H σ ρ ∧ OutO K Q σ ρ G H (f ρ)
def sOwn (i : Nat) (f : FA) : FS := fun ρ => (f ρ).bind fun p => if isIo p.2 i = true then .no else .ok (.nx, p.2.set i (some (.own false p.1)))
def sRetO (f : FA) : FS := fun ρ => (f ρ).bind fun p => .ok (.rt (.own false p.1), p.2)
section
variable {K : PySem.W.Frag} {σ : L2.St} {ρ : Rho} {G H : Hp}
theorem SR.setOwn {i : Nat} {ds : List D} {p : Addr} {us : List V} (I : SR K G H σ ρ) (h1 : H p = some (.lst us)) (h2 : G p = none) (n : ¬ OwnAt σ ρ p) (r : Reps K G ds us) : SR K G H (σ.set i (some (.ref p))) (ρ.set i (some (.own false ds))) where
  tab := I.tab
  lam := I.lam
  len := by rw [List.length_set, List.length_set]; exact I.len
  sub := I.sub
  slot := fun j s o q1 q2 => by
    rcases get_set q1 with ⟨e, z1⟩ | ⟨ne, z1⟩
    · subst e; subst z1
      rcases get_set q2 with ⟨_, z2⟩ | ⟨ne, _⟩
      · subst z2; exact ⟨p, us, rfl, h1, h2, r⟩
      · exact absurd rfl ne
    · rcases get_set q2 with ⟨e, _⟩ | ⟨_, z2⟩
      · exact absurd e ne
      · exact I.slot j s o z1 z2
  inj := fun j k io jo ds es a q1 q2 q3 q4 => by
    rcases get_set q1 with ⟨e1, z1⟩ | ⟨n1, z1⟩ <;> rcases get_set q2 with ⟨e2, z2⟩ | ⟨n2, z2⟩
    · exact e1.symm.trans e2
    · rcases get_set q3 with ⟨_, z3⟩ | ⟨n3, _⟩
      · rcases get_set q4 with ⟨e4, _⟩ | ⟨_, z4⟩
        · exact absurd e4 n2
        · cases z3
          exact absurd ⟨k, jo, es, z2, z4⟩ n
      · exact absurd e1 n3
    · rcases get_set q4 with ⟨_, z4⟩ | ⟨n4, _⟩
      · rcases get_set q3 with ⟨e3, _⟩ | ⟨_, z3⟩
        · exact absurd e3 n1
        · cases z4
          exact absurd ⟨j, io, ds, z1, z3⟩ n
      · exact absurd e2 n4
    · rcases get_set q3 with ⟨e3, _⟩ | ⟨_, z3⟩
      · exact absurd e3 n1
      rcases get_set q4 with ⟨e4, _⟩ | ⟨_, z4⟩
      · exact absurd e4 n2
      exact I.inj j k io jo ds es a z1 z2 z3 z4
end
section
variable {X : Cx} {e : Expr} {f : FA} {pos : Pos}
theorem ds_own (i : Nat) {x : Str} {pos' : Pos} (he : PE X e (rdO X.K f)) (hN : X.N.Nodup) (hi : X.N[i]? = some x := by rfl) (hx : Loc X.env.scope x := by first | exact .inl rfl | exact .inr rfl) (hs : swapsWith e (some (.Name x pos')) pos.line X.env = pure false := by rfl)
    (hf : X.fn x = true ∨ X.env.scope.names.lookup x = some .local := by first | exact .inl rfl | exact .inr rfl | assumption) : PS X (.Assign [.Name x pos'] e pos) (rdS X.K (sOwn i f)) := by
  refine ps_imp (ps_set hN hi hx he hs hf) fun D σ H ⟨ρ, G, I, h⟩ => ?_
  refine ⟨ρ, G, I, ?_⟩
  unfold rdSK sOwn at h
  cases q : f ρ with
  | ex _ _ => rw [q] at h; exact h
  | no => rw [q] at h; exact h
  | ok p =>
    obtain ⟨ds, ρ1⟩ := p
    rw [q] at h
    dsimp only [Rz.bind] at h
    intro p us H1 G1 s1 I1 e1 e2 e3 n r
    by_cases z : isIo ρ1 i = true
    · rw [if_pos z] at h; exact h.elim
    · rw [if_neg z] at h
      have nio : isIo ρ1 i = false := by simpa using z
      refine h _ H1 G1 ?_ (I1.setOwn e2 e3 n r)
      have own1 : ∀ a, OwnAt (σ.set i (some (.ref p))) (ρ1.set i (some (.own false ds))) a → a = p ∨ OwnAt σ ρ1 a := fun a ⟨j, io, es, q1, q2⟩ => by
        rcases get_set q1 with ⟨e, z1⟩ | ⟨ne, z1⟩
        · rcases get_set q2 with ⟨_, z2⟩ | ⟨ne, _⟩
          · cases z2; exact .inl rfl
          · exact absurd e ne
        · rcases get_set q2 with ⟨e, _⟩ | ⟨_, z2⟩
          · exact absurd e ne
          · exact .inr ⟨j, io, es, z1, z2⟩
      have own2 : ∀ a, OwnN (σ.set i (some (.ref p))) (ρ1.set i (some (.own false ds))) a → a = p ∨ OwnN σ ρ1 a := fun a ⟨j, es, q1, q2⟩ => by
        rcases get_set q1 with ⟨e, z1⟩ | ⟨ne, z1⟩
        · rcases get_set q2 with ⟨_, z2⟩ | ⟨ne, _⟩
          · cases z2; exact .inl rfl
          · exact absurd e ne
        · rcases get_set q2 with ⟨e, _⟩ | ⟨_, z2⟩
          · exact absurd e ne
          · exact .inr ⟨j, es, z1, z2⟩
      refine ⟨s1.sub, s1.new, s1.keep, s1.grow, s1.dom, fun a z => ?_, fun a z => ?_, fun j es q => ?_⟩
      · rcases own1 a z with rfl | z
        · exact .inr e1
        · exact s1.own a z
      · rcases own2 a z with rfl | z
        · exact .inr e1
        · exact s1.ownN a z
      · obtain ⟨_, fs, z1⟩ := s1.stay j es q
        have ne : i ≠ j := fun e => by
          subst e
          unfold isIo at nio
          rw [z1] at nio
          cases nio
        rw [List.getElem?_set_ne ne, List.getElem?_set_ne ne]
        exact ⟨rfl, fs, z1⟩
theorem ds_retO (he : PE X e (rdO X.K f)) : PS X (.Return (some e) pos) (rdS X.K (sRetO f)) := by
  refine ps_imp (ps_ret he) fun D σ H ⟨ρ, G, I, h⟩ => ?_
  refine ⟨ρ, G, I, ?_⟩
  unfold rdSK sRetO at h
  cases q : f ρ with
  | ex _ _ => rw [q] at h; exact h
  | no => rw [q] at h; exact h
  | ok p =>
    obtain ⟨ds, ρ1⟩ := p
    rw [q] at h
    intro p us H1 G1 s1 I1 e1 e2 e3 n r
    exact h _ σ H1 G1 s1 I1 ⟨rfl, p, us, rfl, e2, e3, r, .inr e1⟩
/-- a written list -/
def oLst (f : FA) : FA := fun ρ => (f ρ).bind fun p => if p.1.length ≤ sizeLine then .ok p else .no
theorem own_dom {K : PySem.W.Frag} {σ : L2.St} {ρ : Rho} {G H : Hp} {a : Addr} (I : SR K G H σ ρ) (h : OwnAt σ ρ a) : H a ≠ none := by
  obtain ⟨j, io, ds, q1, q2⟩ := h
  obtain ⟨b, vs, e, e2, _⟩ := I.slot j _ _ q1 q2
  cases e
  rw [e2]; exact fun z => by cases z
theorem SR.fresh {K : PySem.W.Frag} {σ : L2.St} {ρ : Rho} {G H : Hp} {p : Addr} {o : HO} (I : SR K G H σ ρ) (n : H p = none) : SR K G (upd H p o) σ ρ ∧ Stp σ ρ G H σ ρ G (upd H p o) ∧ ¬ OwnAt σ ρ p := by
  have ne : ∀ b, H b ≠ none → b ≠ p := fun b h e => h (by rw [e]; exact n)
  have gr : Grow H (upd H p o) := fun b ps e => ⟨ps, by rw [upd_ne (ne_of_none e n)]; exact e, id, fun q _ z => z.ext fun b x e => by rw [upd_ne (ne_of_none e n)]; exact e⟩
  refine ⟨⟨I.tabs' gr fun _ _ _ => rfl, I.lam' gr, I.len, fun b o q => ?_, fun i s o q1 q2 => ?_, I.inj⟩, ⟨fun _ _ q => q, fun _ _ _ => rfl, fun b o q _ _ => ?_, gr, fun b q => ?_, fun _ z => .inl z, fun _ z => .inl z, fun _ ds z => ⟨rfl, ds, z⟩⟩, fun z => own_dom I z n⟩
  · rw [upd_ne (ne_of_none (I.sub b o q) n)]; exact I.sub b o q
  · have z := I.slot i s o q1 q2
    match s, z with
    | none, _ => trivial
    | some (.dat d), z => exact z
    | some (.own io' ds'), ⟨b, vs, e, e2, e3, r'⟩ => exact ⟨b, vs, e, by rw [upd_ne (ne_of_none e2 n)]; exact e2, e3, r'⟩
  · rw [upd_ne (ne_of_none q n)]; exact q
  · rw [upd_ne (ne b q)]; exact q
theorem do_lst {es : List Expr} {fs : FA} (h : PA X es (rdA X.K fs)) : PE X (.List es pos) (rdO X.K (oLst fs)) := by
  refine pe_imp (pe_lst h) fun σ H Q ⟨ρ, G, I, h⟩ => ?_
  refine rdA_of I ?_
  unfold oLst at h
  unfold rdAK
  cases q : fs ρ with
  | ex _ _ => rw [q] at h; exact h
  | no => rw [q] at h; exact h
  | ok p =>
    obtain ⟨ds, ρ1⟩ := p
    rw [q] at h
    dsimp only [Rz.bind] at h
    intro vs H1 G1 s1 I1 r1
    by_cases z : ds.length ≤ sizeLine
    · rw [if_pos z] at h
      refine ⟨by rw [r1.length]; exact z, fun p hp => ?_⟩
      obtain ⟨a, b, c⟩ := I1.fresh (o := .lst vs) hp
      have hp0 : H p = none := by
        cases q : H p with
        | none => rfl
        | some o => exact absurd hp (s1.dom p (by rw [q]; exact fun z => by cases z))
      exact h p vs _ G1 (s1.trans b) a hp0 upd_same (I1.sub.free hp) c r1
    · rw [if_neg z] at h; exact h.elim
end

/-! ### reading and writing a list of one's own -/
section
variable {X : Cx} {e k : Expr} {fk fe : FE} {pos : Pos}
/-- x[k] -/
def eIxO (j : Nat) (fk : FE) : FE := fun ρ => match ownL ρ j with
  | none => .no
  | some _ => (bnd fk fun d => fun ρ1 => match ownL ρ1 j with | some (_, ds) => ofO (ixD (.lst ds) d) ρ1 | none => .no) ρ
theorem pv_own {i : Nat} {x : Str} {pos : Pos} (hN : X.N[i]? = some x) (hv : Vis X.env.scope x) (hd : (x == ("__debug__" : Str)) = false) (hcd : (x == ("__classdict__" : Str)) = false) : PE X (.Name x pos) (tVar i) := pe_var hN hv hd hcd
theorem de_ixO (j : Nat) {x : Str} {px : Pos} (hk : PE X k (rd X.K fk)) (hs : PlainIx k) (hN : X.N[j]? = some x := by rfl) (hv : Vis X.env.scope x := by first | exact Or.inl rfl | exact Or.inr (Or.inl rfl) | exact Or.inr (Or.inr rfl)) (hd : (x == ("__debug__" : Str)) = false := by decide)
    (hcd : (x == ("__classdict__" : Str)) = false := by decide) : PE X (.Subscript (.Name x px) k pos) (rd X.K (eIxO j fk)) := by
  refine pe_imp (pe_ix ix_list (pe_var (i := j) hN hv hd hcd) hk hs) fun σ H Q ⟨ρ, G, I, h⟩ => ?_
  unfold eIxO at h
  cases q : ownL ρ j with
  | none => rw [q] at h; exact h.elim
  | some p =>
    obtain ⟨io, ds⟩ := p
    rw [q] at h
    obtain ⟨a, vs, e1, e2, e3, r⟩ := I.own q
    refine ⟨.ref a, e1, ?_⟩
    refine rd_of I (rdK_mono (rdK_bnd h) fun u H1 ⟨d, ρ1, G1, s1, I1, r1, h1⟩ => ?_)
    unfold rdK at h1
    dsimp only at h1
    cases q1 : ownL ρ1 j with
    | none => rw [q1] at h1; exact h1.elim
    | some p1 =>
      obtain ⟨io1, ds1⟩ := p1
      rw [q1] at h1
      dsimp only at h1
      obtain ⟨a1, vs1, f1, f2, f3, r2⟩ := I1.own q1
      rw [e1] at f1; cases f1
      cases qx : ixD (.lst ds1) d with
      | none => rw [qx] at h1; exact h1.elim
      | some z =>
        rw [qx] at h1
        dsimp only [ofO] at h1
        rw [frc_eq] at h1
        cases d with
        | int i =>
          simp only [Rep] at r1
          subst r1
          obtain ⟨v, g1, g2⟩ := atI_reps r2 qx
          exact ⟨a, vs1, i, v, rfl, rfl, SqL.of f2, g1, h1 v H1 G1 (Stp.refl _ _ _ _) I1 g2⟩
        | _ => cases qx
/-- x[k] = e -/
def sItO (j : Nat) (fe fk : FE) : FS := bndS fe fun d => fun ρ => match ownL ρ j with
  | none => .no
  | some _ => (bndS fk fun i => fun ρ1 => match ownL ρ1 j, i with
    | some (io, ds), .int i => (match ixN ds.length i with | some n => .ok (.nx, ρ1.set j (some (.own io (ds.set n d)))) | none => .no)
    | _, _ => .no) ρ
theorem ds_itO (j : Nat) {x : Str} {px ps : Pos} (he : PE X e (rd X.K fe)) (hk : PE X k (rd X.K fk)) (hN : X.N[j]? = some x := by rfl) (hv : Vis X.env.scope x := by first | exact Or.inl rfl | exact Or.inr (Or.inl rfl) | exact Or.inr (Or.inr rfl)) (hd : (x == ("__debug__" : Str)) = false := by decide)
    (hcd : (x == ("__classdict__" : Str)) = false := by decide) (ha : ∀ v, assign (.Subscript (.Name x px) k ps) X.env v = (do
      let ov ← holding [v] (eval (.Name x px) X.env)
      let iv ← holding [v, ov] (eval k X.env)
      standAt ps
      holding [v, ov, iv] (setItem ov iv v)
      release [v, ov, iv] []) := by intro _; rfl) (hs : swapsWithSole [.Subscript (.Name x px) k ps] e pos.line X.env = pure false := by rfl) (hw : swappedStores [.Subscript (.Name x px) k ps] e X.env = pure none := by rfl)
    (h1 : (assignEach [.Subscript (.Name x px) k ps] X.env).map (·.2) = [assign (.Subscript (.Name x px) k ps) X.env] := by rfl) : PS X (.Assign [.Subscript (.Name x px) k ps] e pos) (rdS X.K (sItO j fe fk)) := by
  refine ps_imp (ps_asg he (pg_sub (pe_var (i := j) hN hv hd hcd) hk set_list ha) hs hw h1) fun D σ H ⟨ρ, G, I, h⟩ => ?_
  unfold sItO at h
  refine rd_of I (rdK_mono (rdSK_bnd h) fun v H1 ⟨d, ρ1, G1, s1, I1, r1, h1⟩ => ?_)
  unfold rdSK at h1
  dsimp only at h1
  cases q : ownL ρ1 j with
  | none => rw [q] at h1; exact h1.elim
  | some p =>
    obtain ⟨io, ds⟩ := p
    rw [q] at h1
    obtain ⟨a, vs, e1, e2, e3, r⟩ := I1.own q
    refine ⟨.ref a, e1, ?_⟩
    refine rd_of I1 (rdK_mono (rdSK_bnd h1) fun u H2 ⟨di, ρ2, G2, s2, I2, r2, h2⟩ => ?_)
    unfold rdSK at h2
    dsimp only at h2
    cases q1 : ownL ρ2 j with
    | none => rw [q1] at h2; exact h2.elim
    | some p1 =>
      obtain ⟨io1, ds1⟩ := p1
      rw [q1] at h2
      obtain ⟨a1, vs1, f1, f2, f3, r3⟩ := I2.own q1
      rw [e1] at f1; cases f1
      cases di with
      | int i =>
        dsimp only at h2
        simp only [Rep] at r2
        subst r2
        cases qx : ixN ds1.length i with
        | none => rw [qx] at h2; exact h2.elim
        | some n =>
          rw [qx] at h2
          obtain ⟨A, B⟩ := I2.mut' q1 e1 f2 f3 (Reps.set n (Rep.mono s2.sub _ _ r1) r3)
          exact ⟨a, vs1, i, n, rfl, rfl, f2, by rw [r3.length]; exact qx, h2 σ _ G2 B A⟩
      | _ => exact h2.elim
/-- x.append(e) -/
def sApp (j : Nat) (fe : FE) : FS := fun ρ => match ownL ρ j with
  | none => .no
  | some _ => (bndS fe fun d => fun ρ1 => match ownL ρ1 j with
    | some (io, ds) => if ds.length < sizeLine then .ok (.nx, ρ1.set j (some (.own io (ds ++ [d])))) else .no
    | none => .no) ρ
theorem tyV_list {K : PySem.W.Frag} {H : Hp} {a : Addr} {vs : List V} (h : H a = some (.lst vs)) : tyV K "list" (.ref a) H := .inl ⟨rfl, vs, SqL.of h⟩
theorem ds_app (j : Nat) {x : Str} {px apos cpos : Pos} (he : PE X e (rd X.K fe)) (hN : X.N[j]? = some x := by rfl) (hv : Vis X.env.scope x := by first | exact Or.inl rfl | exact Or.inr (Or.inl rfl) | exact Or.inr (Or.inr rfl)) (hd : (x == ("__debug__" : Str)) = false := by decide)
    (hcd : (x == ("__classdict__" : Str)) = false := by decide) (hbase : attributeBase (.Name x px) "append" X.env (eval (.Name x px) X.env) = eval (.Name x px) X.env := by rfl)
    (hse : starEach [e] X.env = (false, eval e X.env) :: starEach [] X.env := by rfl)
    (hfew : ((backTo cpos (starEach [e] X.env)).all (fun x => !x.1) && (backToKw cpos (keywordEach [] X.env)).all (fun x => x.1.isSome)
      && decide (([e] : List Expr).length + ([] : List Keyword).length + (if ([] : List Keyword).isEmpty then 0 else 1) < 30)) = true := by rfl)
    (hline : (apos.endLine == cpos.line) = true := by rfl) (hs : swapsWith (.Call (.Attribute (.Name x px) "append" apos) [e] [] cpos) none pos.line X.env = pure false := by rfl) :
    PS X (.Expr (.Call (.Attribute (.Name x px) "append" apos) [e] [] cpos) pos) (rdS X.K (sApp j fe)) := by
  refine ps_imp (ps_expr (pe_bm PySem.F.plainAttrs_list PySem.F.slot_list_append PySem.F.type_list_append mt_append (pe_var (i := j) hN hv hd hcd) (pa_cons he pa_nil hse) hbase hfew hline hse) hs) fun D σ H ⟨ρ, G, I, h⟩ => ?_
  unfold rdSK sApp at h
  cases q : ownL ρ j with
  | none => rw [q] at h; exact h.elim
  | some p =>
    obtain ⟨io, ds⟩ := p
    rw [q] at h
    obtain ⟨a, vs, e1, e2, e3, r⟩ := I.own q
    refine ⟨.ref a, e1, tyV_list e2, ?_⟩
    refine rd_of I (rdK_mono (rdSK_bnd (σ := σ) (ρ := ρ) (G := G) (H := H) (Dn := D) h) fun u H1 ⟨d, ρ1, G1, s1, I1, r1, h1⟩ => ?_)
    unfold rdSK at h1
    dsimp only at h1
    cases q1 : ownL ρ1 j with
    | none => rw [q1] at h1; exact h1.elim
    | some p1 =>
      obtain ⟨io1, ds1⟩ := p1
      rw [q1] at h1
      obtain ⟨a1, vs1, f1, f2, f3, r2⟩ := I1.own q1
      rw [e1] at f1; cases f1
      dsimp only at h1
      by_cases z : ds1.length < sizeLine
      · rw [if_pos z] at h1
        obtain ⟨A, B⟩ := I1.mut' q1 e1 f2 f3 (r2.append (Reps.cons r1 Reps.nil))
        exact ⟨a, vs1, u, rfl, rfl, f2, by rw [r2.length]; exact z, h1 σ _ G1 B A⟩
      · rw [if_neg z] at h1; exact h1.elim
/-- x.pop(k), as a value -/
def ePopO (j : Nat) (fk : FE) : FE := fun ρ => match ownL ρ j with
  | none => .no
  | some _ => (bnd fk fun d => fun ρ1 => match ownL ρ1 j, d with
    | some (io, ds), .int i => if 0 ≤ i ∧ i < 2 ^ 63 then (match ds[i.toNat]? with | some y => .ok (y, ρ1.set j (some (.own io (ds.eraseIdx i.toNat)))) | none => .no) else .no
    | _, _ => .no) ρ
theorem Reps.eraseIdx {K : PySem.W.Frag} {G : Hp} : ∀ {ds : List D} {vs : List V} (i : Nat), Reps K G ds vs → Reps K G (ds.eraseIdx i) (vs.eraseIdx i)
  | [], vs, i, h => by simp only [Reps] at h; subst h; exact Reps.nil
  | c :: ds, vs, 0, h => by
    simp only [Reps] at h
    obtain ⟨u, t, rfl, h1, h2⟩ := h
    exact h2
  | c :: ds, vs, i + 1, h => by
    simp only [Reps] at h
    obtain ⟨u, t, rfl, h1, h2⟩ := h
    exact Reps.cons h1 (Reps.eraseIdx i h2)
theorem de_popO (j : Nat) {x : Str} {px apos : Pos} (he : PE X e (rd X.K fe)) (hN : X.N[j]? = some x := by rfl) (hv : Vis X.env.scope x := by first | exact Or.inl rfl | exact Or.inr (Or.inl rfl) | exact Or.inr (Or.inr rfl)) (hd : (x == ("__debug__" : Str)) = false := by decide)
    (hcd : (x == ("__classdict__" : Str)) = false := by decide) (hbase : attributeBase (.Name x px) "pop" X.env (eval (.Name x px) X.env) = eval (.Name x px) X.env := by rfl)
    (hse : starEach [e] X.env = (false, eval e X.env) :: starEach [] X.env := by rfl)
    (hfew : ((backTo pos (starEach [e] X.env)).all (fun x => !x.1) && (backToKw pos (keywordEach [] X.env)).all (fun x => x.1.isSome)
      && decide (([e] : List Expr).length + ([] : List Keyword).length + (if ([] : List Keyword).isEmpty then 0 else 1) < 30)) = true := by rfl)
    (hline : (apos.endLine == pos.line) = true := by rfl) :
    PE X (.Call (.Attribute (.Name x px) "pop" apos) [e] [] pos) (rd X.K (ePopO j fe)) := by
  refine pe_imp (pe_bm PySem.F.plainAttrs_list PySem.F.slot_list_pop PySem.F.type_list_pop mt_popAt (pe_var (i := j) hN hv hd hcd) (pa_cons he pa_nil hse) hbase hfew hline hse) fun σ H Q ⟨ρ, G, I, h⟩ => ?_
  unfold ePopO at h
  cases q : ownL ρ j with
  | none => rw [q] at h; exact h.elim
  | some p =>
    obtain ⟨io, ds⟩ := p
    rw [q] at h
    obtain ⟨a, vs, e1, e2, e3, r⟩ := I.own q
    refine ⟨.ref a, e1, tyV_list e2, ?_⟩
    refine rd_of I (rdK_mono (rdK_bnd h) fun u H1 ⟨d, ρ1, G1, s1, I1, r1, h1⟩ => ?_)
    unfold rdK at h1
    dsimp only at h1
    cases q1 : ownL ρ1 j with
    | none => rw [q1] at h1; exact h1.elim
    | some p1 =>
      obtain ⟨io1, ds1⟩ := p1
      rw [q1] at h1
      obtain ⟨a1, vs1, f1, f2, f3, r2⟩ := I1.own q1
      rw [e1] at f1; cases f1
      cases d with
      | int i =>
        dsimp only at h1
        simp only [Rep] at r1
        subst r1
        by_cases z : 0 ≤ i ∧ i < 2 ^ 63
        · rw [if_pos z] at h1
          cases qx : ds1[i.toNat]? with
          | none => rw [qx] at h1; exact h1.elim
          | some y =>
            rw [qx] at h1
            obtain ⟨v, g1, g2⟩ := r2.get qx
            obtain ⟨A, B⟩ := I1.mut' q1 e1 f2 f3 (Reps.eraseIdx i.toNat r2)
            have hlt : i.toNat < vs1.length := (List.getElem?_eq_some_iff.mp g1).1
            exact ⟨a, vs1, i, i.toNat, v, rfl, rfl, f2, by omega, z.2, PySem.seqIndex_of z.1 (by omega), g1, h1 v _ G1 B A g2⟩
        · rw [if_neg z] at h1; exact h1.elim
      | _ => exact h1.elim
/-- len(x) -/
def eLenO (j : Nat) : FE := fun ρ => match ownL ρ j with | some (_, ds) => .ok (.int ds.length, ρ) | none => .no
theorem de_lenO (j : Nat) {x : Str} {px p : Pos} (hg : Gl X "len") (hm : X.mg "len" = none) (hN : X.N[j]? = some x := by rfl) (hv : Vis X.env.scope x := by first | exact Or.inl rfl | exact Or.inr (Or.inl rfl) | exact Or.inr (Or.inr rfl)) (hd : (x == ("__debug__" : Str)) = false := by decide)
    (hcd : (x == ("__classdict__" : Str)) = false := by decide) (hse : starEach [.Name x px] X.env = (false, eval (.Name x px) X.env) :: starEach [] X.env := by rfl) :
    PE X (.Call (.Name "len" p) [.Name x px] [] pos) (rd X.K (eLenO j)) := by
  refine pe_imp (pe_callB call_len_seq hg hm PySem.boot_len (pa_cons (pe_var (i := j) hN hv hd hcd) pa_nil hse)) fun σ H Q ⟨ρ, G, I, h⟩ => ?_
  unfold eLenO at h
  cases q : ownL ρ j with
  | none => rw [q] at h; exact h.elim
  | some p =>
    obtain ⟨io, ds⟩ := p
    rw [q] at h
    obtain ⟨a, vs, e1, e2, e3, r⟩ := I.own q
    refine ⟨.ref a, e1, a, vs, rfl, .inl (SqL.of e2), ?_⟩
    rw [r.length]
    exact h _ H G (Stp.refl _ _ _ _) I (rep_int _)
end

/-! ### a list of one's own, given away as data -/
/-- reading it ends its being one's own -/
def eFrz (j : Nat) : FE := fun ρ => match ownL ρ j with | some (false, ds) => .ok (.lst ds, ρ.set j (some (.dat (.lst ds)))) | _ => .no
section
variable {X : Cx} {pos : Pos}
theorem SR.frz {K : PySem.W.Frag} {σ : L2.St} {ρ : Rho} {G H : Hp} {j : Nat} {ds : List D} {a : Addr} {vs : List V} (I : SR K G H σ ρ) (h : ownL ρ j = some (false, ds)) (e1 : σ[j]? = some (some (.ref a))) (e2 : H a = some (.lst vs)) (e3 : G a = none) (r : Reps K G ds vs) :
    SR K (upd G a (.lst vs)) H σ (ρ.set j (some (.dat (.lst ds)))) ∧ Stp σ ρ G H σ (ρ.set j (some (.dat (.lst ds)))) (upd G a (.lst vs)) H ∧ Rep K (upd G a (.lst vs)) (.lst ds) (.ref a) := by
  have h1 := ownL_eq h
  have oa : OwnAt σ ρ a := ⟨j, false, ds, h1, e1⟩
  have hl : j < σ.length := (List.getElem?_eq_some_iff.mp e1).1
  have sG : Same G (upd G a (.lst vs)) := same_upd e3
  have es : σ.set j (some (.ref a)) = σ := by
    apply List.ext_getElem?
    intro i
    by_cases z : j = i
    · subst z; rw [List.getElem?_set_self hl, e1]
    · rw [List.getElem?_set_ne z]
  have rr : Rep K (upd G a (.lst vs)) (.lst ds) (.ref a) := Rep.lst_new e3 r
  have own1 : ∀ b, OwnAt σ (ρ.set j (some (.dat (.lst ds)))) b → OwnAt σ ρ b := fun b z => by rw [← es] at z; exact z.of_set
  have nt : ∀ b ps, H b = some (.tbl ps) → b ≠ a := fun b ps e z => by
    subst z
    rw [e2] at e; cases e
  refine ⟨⟨I.tabs' (Grow.refl _) fun P z ⟨ps, e⟩ => upd_ne (nt P ps e), I.lam' (Grow.refl _), by rw [List.length_set]; exact I.len, fun b o q => ?_, fun i s o q1 q2 => ?_, fun i k i1 i2 d1 d2 b q1 q2 q3 q4 => ?_⟩, ⟨sG, fun b _ n => ?_, fun _ _ q _ _ => q, Grow.refl _, fun _ q => q, fun b z => .inl (own1 b z), fun b z => ?_, fun i d1 q => ?_⟩, rr⟩
  · by_cases z : b = a
    · subst z; rw [upd_same] at q; cases q; exact e2
    · rw [upd_ne z] at q; exact I.sub b o q
  · rcases get_set q1 with ⟨e, z1⟩ | ⟨ne, z1⟩
    · subst e; subst z1
      rw [e1] at q2; cases q2
      exact ⟨_, rfl, rr⟩
    · have z := I.slot i s o z1 q2
      match s, z with
      | none, _ => trivial
      | some (.dat d), ⟨v, e, r⟩ => exact ⟨v, e, Rep.mono sG _ _ r⟩
      | some (.own io' ds'), ⟨b, us, e, f2, f3, r'⟩ =>
        have nb : b ≠ a := fun z => by
          subst z; subst e
          exact ne (I.inj j i _ _ _ _ b h1 z1 e1 q2)
        exact ⟨b, us, e, f2, by rw [upd_ne nb]; exact f3, Reps.mono sG _ _ r'⟩
  · rcases get_set q1 with ⟨_, z1⟩ | ⟨_, z1⟩
    · cases z1
    rcases get_set q2 with ⟨_, z2⟩ | ⟨_, z2⟩
    · cases z2
    exact I.inj i k i1 i2 d1 d2 b z1 z2 q3 q4
  · exact upd_ne fun z => n (by rw [z]; exact oa)
  · left; rw [← es] at z; exact z.of_set
  · have ne : j ≠ i := fun e => by subst e; rw [h1] at q; cases q
    exact ⟨rfl, d1, by rw [List.getElem?_set_ne ne]; exact q⟩
theorem de_frz (j : Nat) {x : Str} (hN : X.N[j]? = some x := by rfl) (hv : Vis X.env.scope x := by first | exact Or.inl rfl | exact Or.inr (Or.inl rfl) | exact Or.inr (Or.inr rfl)) (hd : (x == ("__debug__" : Str)) = false := by decide)
    (hcd : (x == ("__classdict__" : Str)) = false := by decide) : PE X (.Name x pos) (rd X.K (eFrz j)) := by
  refine pe_imp (pe_var (i := j) hN hv hd hcd) fun σ H Q ⟨ρ, G, I, h⟩ => ?_
  unfold eFrz at h
  cases q : ownL ρ j with
  | none => rw [q] at h; exact h.elim
  | some p =>
    obtain ⟨io, ds⟩ := p
    rw [q] at h
    cases io with
    | true => exact h.elim
    | false =>
      obtain ⟨a, vs, e1, e2, e3, r⟩ := I.own q
      obtain ⟨A, B, C⟩ := I.frz q e1 e2 e3 r
      exact ⟨.ref a, e1, h _ H _ B A C⟩
/-- return x, x one's own: handed back as one's own -/
def sRetV (j : Nat) : FS := fun ρ => match ownL ρ j with | some (false, ds) => .ok (.rt (.own false ds), ρ) | _ => .no
theorem ds_retV (j : Nat) {x : Str} {px : Pos} (hN : X.N[j]? = some x := by rfl) (hv : Vis X.env.scope x := by first | exact Or.inl rfl | exact Or.inr (Or.inl rfl) | exact Or.inr (Or.inr rfl)) (hd : (x == ("__debug__" : Str)) = false := by decide)
    (hcd : (x == ("__classdict__" : Str)) = false := by decide) : PS X (.Return (some (.Name x px)) pos) (rdS X.K (sRetV j)) := by
  refine ps_imp (ps_ret (pe_var (i := j) hN hv hd hcd)) fun D σ H ⟨ρ, G, I, h⟩ => ?_
  unfold rdSK sRetV at h
  cases q : ownL ρ j with
  | none => rw [q] at h; exact h.elim
  | some p =>
    obtain ⟨io, ds⟩ := p
    rw [q] at h
    cases io with
    | true => exact h.elim
    | false =>
      obtain ⟨a, vs, e1, e2, e3, r⟩ := I.own q
      exact ⟨.ref a, e1, h _ σ H G (Stp.refl _ _ _ _) I ⟨rfl, a, vs, rfl, e2, e3, r, .inl ⟨j, ds, ownL_eq q, e1⟩⟩⟩
end
end M

namespace M
open PySem PySem.Spec PyProof.Rows L2
variable [Tabs]

/-! ### a def's promise -/
abbrev Args := List Sl
abbrev FD := Nat → Args → Option (Sl × Args)
def allIo : Args → Bool := fun as => as.all fun s => match s with | .dat _ => true | .own io _ => io
def spI (K : PySem.W.Frag) (np : Nat) (F : FD) : Sp := fun vs H Q E => ∃ (n : Nat) (G : Hp) (as : Args) (s : Sl) (as' : Args), vs.length = np ∧ SR K G H (vs.map some) (as.map some) ∧ allIo as = true ∧ F n as = some (s, as') ∧
  ∀ v H' G', Stp (vs.map some) (as.map some) G H (vs.map some) (as'.map some) G' H' → SR K G' H' (vs.map some) (as'.map some) → RetR K (vs.map some) (as.map some) H G' H' v s → Q v H'

/-! ### a def's body -/
def startR (L : Nat) (as : Args) : Rho := as.map some ++ List.replicate (L - as.length) none
/-- what the lists that were handed in have become -/
def ends (as : Args) (ρ : Rho) : Args := as.mapIdx fun i s => match s with
  | .dat d => .dat d
  | .own io ds => (match ρ[i]? with | some (some (.own true es)) => .own true es | _ => .own io ds)
def runB (g : FS) (L np : Nat) (as : Args) : Option (Sl × Args) := if as.length = np then frcA as fun as => (match g (startR L as) with
  | .ok (.nx, ρ') => frcA (ends as ρ') fun es => some (.dat .non, es)
  | .ok (.rt s, ρ') => frcT s fun s => frcA (ends as ρ') fun es => some (s, es)
  | _ => none) else none
theorem runB_len {g : FS} {L np : Nat} {as as' : Args} {s : Sl} (h : runB g L np as = some (s, as')) : as.length = np := by
  unfold runB at h
  by_cases z : as.length = np
  · exact z
  · rw [if_neg z] at h; cases h
section
variable {K : PySem.W.Frag} {G H : Hp} {vs : List V} {as : Args} {N : List Str}
theorem get_map_some {α : Type} {l : List α} {i : Nat} {x : Option α} (h : (l.map some)[i]? = some x) : ∃ y, l[i]? = some y ∧ x = some y := by
  rw [List.getElem?_map] at h
  cases q : l[i]? with
  | none => rw [q] at h; cases h
  | some y => rw [q] at h; cases h; exact ⟨y, rfl, rfl⟩
theorem start_get {i : Nat} {o : Option V} (h : (L2.start N vs)[i]? = some o) : (vs.map some)[i]? = some o ∨ o = none := by
  unfold L2.start at h
  rw [List.getElem?_append] at h
  split at h
  · exact .inl h
  · rw [List.getElem?_replicate] at h
    split at h
    · cases h; exact .inr rfl
    · cases h
theorem startR_get {L i : Nat} {o : Option Sl} (h : (startR L as)[i]? = some o) : (as.map some)[i]? = some o ∨ o = none := by
  unfold startR at h
  rw [List.getElem?_append] at h
  split at h
  · exact .inl h
  · rw [List.getElem?_replicate] at h
    split at h
    · cases h; exact .inr rfl
    · cases h
theorem startR_of {L i : Nat} {o : Option Sl} (h : (as.map some)[i]? = some o) : (startR L as)[i]? = some o := by
  have hl : i < (as.map some).length := (List.getElem?_eq_some_iff.mp h).1
  unfold startR
  rw [List.getElem?_append_left hl]
  exact h
theorem start_of {i : Nat} {o : Option V} (h : (vs.map some)[i]? = some o) : (L2.start N vs)[i]? = some o := by
  have hl : i < (vs.map some).length := (List.getElem?_eq_some_iff.mp h).1
  unfold L2.start
  rw [List.getElem?_append_left hl]
  exact h
theorem SR.start (I : SR K G H (vs.map some) (as.map some)) : SR K G H (L2.start N vs) (startR N.length as) where
  tab := I.tab
  lam := I.lam
  len := by
    have h := I.len
    rw [List.length_map, List.length_map] at h
    unfold L2.start startR
    rw [List.length_append, List.length_append, List.length_map, List.length_map, List.length_replicate, List.length_replicate, h]
  sub := I.sub
  slot := fun i s o h1 h2 => by
    rcases startR_get h1 with h1 | rfl
    · rcases start_get h2 with h2 | rfl
      · exact I.slot i s o h1 h2
      · have hl : i < (vs.map some).length := by rw [← I.len]; exact (List.getElem?_eq_some_iff.mp h1).1
        have e := start_of (N := N) (List.getElem?_eq_getElem hl)
        rw [h2] at e
        have e2 : (none : Option V) = (vs.map some)[i] := Option.some.inj e
        rw [List.getElem_map] at e2
        cases e2
    · trivial
  inj := fun i j io jo ds es a h1 h2 h3 h4 => by
    rcases startR_get h1 with h1 | e
    · rcases startR_get h2 with h2 | e
      · rcases start_get h3 with h3 | e
        · rcases start_get h4 with h4 | e
          · exact I.inj i j io jo ds es a h1 h2 h3 h4
          · cases e
        · cases e
      · cases e
    · cases e
theorem OwnAt.start {a : Addr} (h : OwnAt (L2.start N vs) (startR N.length as) a) : OwnAt (vs.map some) (as.map some) a := by
  obtain ⟨i, io, ds, h1, h2⟩ := h
  rcases startR_get h1 with h1 | e
  · rcases start_get h2 with h2 | e
    · exact ⟨i, io, ds, h1, h2⟩
    · cases e
  · cases e
theorem OwnN.startF (hio : allIo as = true) {σ : L2.St} {a : Addr} {L : Nat} (h : OwnN σ (startR L as) a) : False := by
  obtain ⟨i, ds, h1, h2⟩ := h
  rcases startR_get h1 with h1 | e
  · obtain ⟨y, e1, e2⟩ := get_map_some h1
    cases e2
    have z := List.all_eq_true.mp hio _ (List.mem_of_getElem? e1)
    simp at z
  · cases e
theorem OwnN.mapF (hio : allIo as = true) {σ : L2.St} {a : Addr} (h : OwnN σ (as.map some) a) : False := by
  obtain ⟨i, ds, h1, h2⟩ := h
  obtain ⟨y, e1, e2⟩ := get_map_some h1
  cases e2
  have z := List.all_eq_true.mp hio _ (List.mem_of_getElem? e1)
  simp at z
theorem ends_get {ρ : Rho} {i : Nat} {s : Sl} (h : (ends as ρ)[i]? = some s) : ∃ t, as[i]? = some t ∧ s = (match t with
  | .dat d => .dat d
  | .own io ds => (match ρ[i]? with | some (some (.own true es)) => .own true es | _ => .own io ds)) := by
  unfold ends at h
  rw [List.getElem?_mapIdx] at h
  cases q : as[i]? with
  | none => rw [q] at h; cases h
  | some t => rw [q] at h; cases h; exact ⟨t, rfl, rfl⟩
/-- behind the body: seen from the caller -/
theorem back_of {σ' : L2.St} {ρ' : Rho} {G' H' : Hp} (hio : allIo as = true) (I : SR K G H (vs.map some) (as.map some)) (st : Stp (L2.start N vs) (startR N.length as) G H σ' ρ' G' H') (I' : SR K G' H' σ' ρ') :
    Stp (vs.map some) (as.map some) G H (vs.map some) ((ends as ρ').map some) G' H' ∧ SR K G' H' (vs.map some) ((ends as ρ').map some) := by
  have key : ∀ (i : Nat) (io : Bool) (ds : List D), (as.map some)[i]? = some (some (Sl.own io ds)) → io = true ∧ σ'[i]? = (vs.map some)[i]? ∧ ∃ es, ρ'[i]? = some (some (Sl.own true es)) := fun i io ds h => by
    obtain ⟨y, e1, e2⟩ := get_map_some h
    cases e2
    have z := List.all_eq_true.mp hio _ (List.mem_of_getElem? e1)
    simp only at z
    subst z
    obtain ⟨q1, q2⟩ := st.stay i ds (startR_of h)
    refine ⟨rfl, ?_, q2⟩
    rw [q1]
    have hl : i < (vs.map some).length := by rw [← I.len]; exact (List.getElem?_eq_some_iff.mp h).1
    rw [List.getElem?_eq_getElem hl]
    exact start_of (List.getElem?_eq_getElem hl)
  have key2 : ∀ (i : Nat) (io : Bool) (es : List D), ((ends as ρ').map some)[i]? = some (some (Sl.own io es)) → io = true ∧ (∃ ds, (as.map some)[i]? = some (some (Sl.own true ds))) ∧ ρ'[i]? = some (some (Sl.own true es)) ∧ σ'[i]? = (vs.map some)[i]? := fun i io es h => by
    obtain ⟨y, e1, e2⟩ := get_map_some h
    cases e2
    obtain ⟨t, e3, e4⟩ := ends_get e1
    cases t with
    | dat d => cases e4
    | own jo ds =>
      have h3 : (as.map some)[i]? = some (some (.own jo ds)) := by rw [List.getElem?_map, e3]; rfl
      obtain ⟨z, z2, fs, z3⟩ := key i jo ds h3
      subst z
      rw [z3] at e4
      cases e4
      exact ⟨rfl, ⟨ds, h3⟩, z3, z2⟩
  have own0 : ∀ a, OwnAt (vs.map some) ((ends as ρ').map some) a → OwnAt (vs.map some) (as.map some) a := fun a ⟨i, io, es, h1, h2⟩ => by
    obtain ⟨_, ⟨ds, h3⟩, _, _⟩ := key2 i io es h1
    exact ⟨i, true, ds, h3, h2⟩
  refine ⟨⟨st.sub, fun a h n => st.new a h fun z => n z.start, fun a o h n t => st.keep a o h (fun z => n z.start) t, st.grow, st.dom, fun a z => .inl (own0 a z), fun a z => ?_, fun i ds h => ?_⟩, ⟨I'.tab, I'.lam, ?_, I'.sub, fun i s o h1 h2 => ?_, fun i j io jo ds es a h1 h2 h3 h4 => ?_⟩⟩
  · obtain ⟨i, es, h1, _⟩ := z
    obtain ⟨e, _⟩ := key2 i false es h1
    cases e
  · obtain ⟨_, z2, fs, z3⟩ := key i true ds h
    refine ⟨rfl, fs, ?_⟩
    obtain ⟨y, e1, e2⟩ := get_map_some h
    cases e2
    rw [List.getElem?_map]
    unfold ends
    rw [List.getElem?_mapIdx, e1]
    simp only [Option.map, z3]
  · rw [List.length_map, List.length_map]
    unfold ends
    rw [List.length_mapIdx]
    have := I.len
    rw [List.length_map, List.length_map] at this
    exact this
  · obtain ⟨y, e1, e2⟩ := get_map_some h1
    subst e2
    cases y with
    | dat d =>
      obtain ⟨t, e3, e4⟩ := ends_get e1
      cases t with
      | dat d' =>
        cases e4
        obtain ⟨v, e, r⟩ := I.slot i (some (.dat d)) o (by rw [List.getElem?_map, e3]; rfl) h2
        exact ⟨v, e, Rep.mono st.sub _ _ r⟩
      | own io ds =>
        have h3 : (as.map some)[i]? = some (some (.own io ds)) := by rw [List.getElem?_map, e3]; rfl
        obtain ⟨_, _, fs, z3⟩ := key i io ds h3
        rw [z3] at e4
        cases e4
    | own io es =>
      obtain ⟨_, _, h4, h5⟩ := key2 i io es h1
      obtain ⟨a, us, e, r⟩ := I'.slot i _ o h4 (by rw [h5]; exact h2)
      exact ⟨a, us, e, r⟩
  · obtain ⟨_, _, h5, h6⟩ := key2 i io ds h1
    obtain ⟨_, _, h7, h8⟩ := key2 j jo es h2
    exact I'.inj i j _ _ _ _ a h5 h7 (by rw [h6]; exact h3) (by rw [h8]; exact h4)
theorem ret_of {G' H' : Hp} {v : V} {s : Sl} (hio : allIo as = true) (h : RetR K (L2.start N vs) (startR N.length as) H G' H' v s) : RetR K (vs.map some) (as.map some) H G' H' v s := by
  cases s with
  | dat d => exact h
  | own io ds =>
    obtain ⟨e, p, us, e1, e2, e3, e4, e5⟩ := h
    exact ⟨e, p, us, e1, e2, e3, e4, .inr (e5.resolve_left fun z => OwnN.startF hio z)⟩
/-- a body's reading gives the promise -/
theorem rdS_runB {g : FS} {np : Nat} {Q : VK} {s : Sl} {as' : Args} (hio : allIo as = true) (I : SR K G H (vs.map some) (as.map some)) (h : runB g N.length np as = some (s, as'))
    (q : ∀ v H' G', Stp (vs.map some) (as.map some) G H (vs.map some) (as'.map some) G' H' → SR K G' H' (vs.map some) (as'.map some) → RetR K (vs.map some) (as.map some) H G' H' v s → Q v H') :
    rdS K g { nx := fun _ H' => Q .non H', rt := Q } (L2.start N vs) H := by
  refine ⟨startR N.length as, G, I.start, ?_⟩
  unfold rdSK
  have hl := runB_len h
  unfold runB at h
  rw [if_pos hl, frcA_eq] at h
  simp only [frcA_eq, frcT_eq] at h
  cases e : g (startR N.length as) with
  | ex _ _ => rw [e] at h; cases h
  | no => rw [e] at h; cases h
  | ok p =>
    obtain ⟨f, ρ'⟩ := p
    rw [e] at h
    cases f with
    | nx =>
      cases h
      intro σ' H' G' st I'
      obtain ⟨A, B⟩ := back_of hio I st I'
      exact q .non H' G' A B (rep_non (K := K) (G := G'))
    | bk => cases h
    | ct => cases h
    | rt s =>
      cases h
      intro v σ' H' G' st I' r
      obtain ⟨A, B⟩ := back_of hio I st I'
      exact q v H' G' A B (ret_of hio r)
end

/-! ### a def of the text: its code object known -/
structure FunC (K : PySem.W.Frag) (x qual : Str) (st : Stmt) (f : Addr) (fd : FuncData) (cdv : Value) : Prop where
  ex : ∃ (oc : Value) (od : Option Addr) (kV doc pm : Value) (an : Option Addr) (ct : Value) (osl : Array (Option Value)),
    fd = PySem.W.fnOf x qual (defArgs st) (defBody st) (defScope st) .none kV doc pm an cdv ct ∧ K.lookup f = some ⟨oc, od, .func fd, osl⟩ ∧ PySem.W.codeIn K cdv qual = true
  kp : PySem.W.keepIn K (.ref f) = true
section
variable {P : Program} {w : World} {K : PySem.W.Frag} {mg : Str → Option Value} {base : Heap}
theorem funC_mk {x qual : Str} {st : Stmt} {f : Addr} {oc : Value} {od an : Option Addr} {osl : Array (Option Value)} {kV doc pm cdv ct : Value} (l : K.lookup f = some ⟨oc, od, .func (PySem.W.fnOf x qual (defArgs st) (defBody st) (defScope st) .none kV doc pm an cdv ct), osl⟩)
    (c : PySem.W.codeIn K cdv qual = true) (k : PySem.W.keepIn K (.ref f) = true) : FunC K x qual st f (PySem.W.fnOf x qual (defArgs st) (defBody st) (defScope st) .none kV doc pm an cdv ct) cdv := ⟨⟨oc, od, kV, doc, pm, an, ct, osl, rfl, l, c⟩, k⟩
theorem FunC.binds {x qual : Str} {st : Stmt} {f : Addr} {fd : FuncData} {cdv : Value} {ps : List Str} (F : FunC K x qual st f fd cdv)
    (h : ∀ (kV doc pm : Value) (an : Option Addr) (cdv ct : Value) (us : List Value), us.length = ps.length → bindArgs (PySem.W.fnOf x qual (defArgs st) (defBody st) (defScope st) .none kV doc pm an cdv ct) ⟨us, []⟩ = pure (ps.zip us)) : Binds K fd ps [] := by
  obtain ⟨oc, od, kV, doc, pm, an, ct, osl, rfl, lk, hcd⟩ := F.ex
  exact .all (h kV doc pm an cdv ct)
/-- the context of a def's body -/
abbrev bodyX (P : Program) (w : World) (K : PySem.W.Frag) (mg : Str → Option Value) (base : Heap) (N : List Str) (qual : Str) (sc : Scope) (f : Addr) (cdv : Value) (A : Around) (outer : List Env) (s : Shared) (H : Hp) (E : XK) : Cx :=
  (cxOf CX0 P w K mg base N qual sc f cdv A outer s H E).nox
/-- room, and nothing is under repr -/
structure Rm (k : Nat) (A : Around) : Prop where
  r : Room k A
  g : A.guards = some []
omit [Tabs] in
theorem Rm.mono {j k : Nat} {A : Around} (h : Rm k A) (l : j ≤ k) : Rm j A := ⟨h.r.mono l, h.g⟩
/-- a def's promise, where nothing is under repr -/
structure FnG (P : Program) (w : World) (K : PySem.W.Frag) (mg : Str → Option Value) (base : Heap) (k : Nat) (f : Addr) (fd : FuncData) (ps : List Str) (sp : Sp) : Prop where
  size : ∀ xs H Q E, sp xs H Q E → xs.length = ps.length
  go : ∀ (A : Around) (below : List Env) (t : Shared) (H : Hp) (args : PySem.Args) (us : List Value) (xs : List V) (Q : VK) (E : XK), Rm k A → Env0 P w K mg base A below t H → BindsTo t fd args (ps.zip us) → Vals xs us → sp xs H Q E → codeAny (model P w) A (.call (.ref f) args) (CR CX0 below P w H t Q E) t
omit [Tabs] in
theorem fnG_of {k : Nat} {f : Addr} {name qual : Str} {params : Arguments} {body : List Stmt} {sc : Scope} {dV kV doc pm cdv ct oc : Value} {an od : Option Addr} {osl : Array (Option Value)} {N ps : List Str} {sp : Sp}
    (lk : K.lookup f = some ⟨oc, od, .func (PySem.W.fnOf name qual params body sc dV kV doc pm an cdv ct), osl⟩) (hc : PySem.W.codeIn K cdv qual = true) (S : FnScope N ps sc) (size : ∀ xs H Q E, sp xs H Q E → xs.length = ps.length)
    (hb : ∀ (A : Around) (below : List Env) (t : Shared) (H : Hp) (xs : List V) (Q : VK) (E : XK), Rm k (A.deeper (envOfC qual sc t.heap.objs.size f cdv)) → sp xs H Q E →
      ∃ T, PSs (cxOf CX0 P w K mg base N qual sc f cdv A below t H E) body T ∧ T { nx := fun _ H' => Q .non H', rt := Q } (L2.start N xs) H) : FnG P w K mg base (k + 1) f (PySem.W.fnOf name qual params body sc dV kV doc pm an cdv ct) ps sp := by
  refine ⟨size, fun A below t H args us xs Q E rm env bt vv sps => ?_⟩
  have inB : ∀ b o, base.get? b = some o → t.heap.get? b = some o := fun b o q => (env.bs b o q).1
  have KT : K.In t.heap := env.mod.kin.keeps inB
  refine codeAny_call_function rm.r.depth (KT _ _ lk) rfl S.co S.gen rfl (PySem.W.codeRec_of KT hc) (bt _ _ _ _ ?_)
  refine wpAny_newFunctionEnv_cells S.kind (fun y hy => ?_) fun e he t1 z => ?_
  · have hm := (List.of_mem_zip (show (y.1, y.2) ∈ ps.zip us from hy)).1
    exact (S.par _ hm).elim .inl fun q => .inr ⟨q, PySem.W.cellsFrom_some _ _ _ (.inl q)⟩
  · subst he
    refine ⟨(env.mod.nolimit.keeps inB).keeps z.toInCall.keep, codeAny_func ?_⟩
    obtain ⟨T, hT, hq⟩ := hb A below t H xs Q E ⟨rm.r.deeper _, rm.g⟩ sps
    have J := inv_start (CX := CX0) (P := P) (w := w) (E := E) S rm.r.hd env (size _ _ _ _ sps) vv z
    refine wpAny_mono (hT.run [] t1 _ H _ J hq) (fun fl t2 z2 => ?_) fun _ _ q => q
    match fl, z2 with
    | .ret u, ⟨v, _, H', J', rv, q⟩ => exact ⟨v, H', J'.os, J'.bare, J'.base, J'.hok, rv, q⟩
    | .next, ⟨_, H', J', q⟩ => exact ⟨.non, H', J'.os, J'.bare, J'.base, J'.hok, rfl, q⟩
    | .brk, ⟨_, _, _, q⟩ => exact q.elim
    | .cont, ⟨_, _, _, q⟩ => exact q.elim
omit [Tabs] in
/-- f(e, ..) -/
theorem pe_callG {X : Cx} {k : Nat} {f : Addr} {fd : FuncData} {ps : List Str} {sp : Sp} {x : Str} {p pos : Pos} {e : Expr} {es : List Expr} {t : TA} (F : FnG X.prog X.w X.K X.mg X.base k f fd ps sp) (rm : Rm k X.A) (hg : Gl X x) (hm : X.mg x = some (.ref f)) (kp : PySem.W.keepIn X.K (.ref f) = true) (hb : Binds X.K fd ps []) (ha : PA X (e :: es) t)
    (hdb : (x == ("__debug__" : Str)) = false) (he : starEach (e :: es) X.env = (false, eval e X.env) :: starEach es X.env) (hpl : (backTo pos (starEach es X.env)).any (·.1) = false) : PE X (.Call (.Name x p) (e :: es) [] pos) (tCall sp [] E0 t) := by
  refine ⟨fun pins s σ H Q I h => wpAny_Call_Name_kw (ld_glob I hg hm (PySem.W.callWith_K (h₀ := X.base) I.ok.mod.kin kp (thn (ha.run pos pins s σ H _ I h) fun us s1 ⟨vs, H1, I1, r, q⟩ => ⟨I1.kIn, ?_⟩) he hpl) hdb)⟩
  dsimp only at q
  rw [List.append_nil] at q
  show wpAny _ _ (call (.ref f) us) _ _ _
  have hl : (us ++ []).length = ps.length := by rw [List.append_nil, ← r.length]; exact F.size _ _ _ _ q
  have bt := hb s1 us I1.kIn hl
  rw [List.append_nil] at bt
  refine wpAny_call (codeAny_mono (F.go X.A X.stack s1 H1 ⟨us, []⟩ us vs Q E0 rm I1.env0 bt r q) fun rr s2 z => ?_)
  match rr, z with
  | .ok (.ret u), z => exact I1.after z
  | .ok .next, z => exact z.elim
  | .ok .brk, z => exact z.elim
  | .ok .cont, z => exact z.elim
  | .error _, z => exact z.elim
/-- THE RULE for a def -/
theorem dfn_ok {x qual : Str} {st : Stmt} {f : Addr} {fd : FuncData} {cdv : Value} {N ps : List Str} {k : Nat} {g : Nat → FS} (F : FunC K x qual st f fd cdv) (S : FnScope N ps (defScope st))
    (hbody : ∀ (n : Nat) (A : Around) (outer : List Env) (s : Shared) (H : Hp) (E : XK), Rm k (A.deeper (envOfC qual (defScope st) s.heap.objs.size f cdv)) →
      PSs (bodyX P w K mg base N qual (defScope st) f cdv A outer s H E) (defBody st) (rdS K (g n))) : FnG P w K mg base (k + 1) f fd ps (spI K ps.length fun n as => runB (g n) N.length ps.length as) := by
  obtain ⟨oc, od, kV, doc, pm, an, ct, osl, rfl, lk, hcd⟩ := F.ex
  refine fnG_of lk hcd S (fun vs H Q E ⟨_, _, _, _, _, h, _⟩ => h) fun A outer s H vs Q E hr hsp => ?_
  obtain ⟨n, G, as, sl, as', hl, I, hio, h, q⟩ := hsp
  exact ⟨_, (hbody n A outer s H E hr).nox, rdS_runB hio I h q⟩
end

/-! ### calls -/
/-- an argument: data, or a list of one's own, handed in -/
inductive Ar where
  | d (d : D) | o (j : Nat)
abbrev FAr := Rho → Rz (List Ar × Rho)
def ArR (K : PySem.W.Frag) (G : Hp) (σ : L2.St) : List Ar → List V → Prop
  | [], vs => vs = []
  | .d d :: xs, vs => ∃ v r, vs = v :: r ∧ Rep K G d v ∧ ArR K G σ xs r
  | .o j :: xs, vs => ∃ v r, vs = v :: r ∧ σ[j]? = some (some v) ∧ ArR K G σ xs r
def rdRK (K : PySem.W.Frag) (f : FAr) (σ : L2.St) (ρ : Rho) (G H : Hp) (Q : List V → Hp → Prop) : Prop := match f ρ with
  | .ok (xs, ρ') => ∀ vs H' G', Stp σ ρ G H σ ρ' G' H' → SR K G' H' σ ρ' → ArR K G' σ xs vs → Q vs H'
  | .ex _ _ => False
  | .no => False
def rdR (K : PySem.W.Frag) (f : FAr) : TA := fun σ H Q => ∃ ρ G, SR K G H σ ρ ∧ rdRK K f σ ρ G H Q
def rNil : FAr := fun ρ => .ok ([], ρ)
def rCons (fa : FE) (fr : FAr) : FAr := fun ρ => (fa ρ).bind fun p => (fr p.2).bind fun q => .ok (.d p.1 :: q.1, q.2)
def rOwn (j : Nat) (fr : FAr) : FAr := fun ρ => match ownL ρ j with | some _ => (fr ρ).bind fun q => .ok (.o j :: q.1, q.2) | none => .no
section
variable {X : Cx} {a : Expr} {es : List Expr} {fa : FE} {fs : FAr}
theorem dr_nil : PA X [] (rdR X.K rNil) := by
  refine pa_imp pa_nil fun σ H Q ⟨ρ, G, I, h⟩ => ?_
  exact h [] H G (Stp.refl _ _ _ _) I (by simp only [ArR])
theorem dr_cons (ha : PE X a (rd X.K fa)) (hr : PA X es (rdR X.K fs)) (hs : starEach (a :: es) X.env = (false, eval a X.env) :: starEach es X.env := by rfl) : PA X (a :: es) (rdR X.K (rCons fa fs)) := by
  refine pa_imp (pa_cons ha hr hs) fun σ H Q ⟨ρ, G, I, h⟩ => ?_
  unfold rdRK rCons at h
  refine rd_of I ?_
  unfold rdK
  cases e : fa ρ with
  | ex _ _ => rw [e] at h; exact h
  | no => rw [e] at h; exact h
  | ok p =>
    obtain ⟨d, ρ1⟩ := p
    rw [e] at h
    dsimp only [Rz.bind] at h ⊢
    intro v H1 G1 s1 I1 r1
    refine ⟨ρ1, G1, I1, ?_⟩
    unfold rdRK
    cases e2 : fs ρ1 with
    | ex _ _ => rw [e2] at h; exact h
    | no => rw [e2] at h; exact h
    | ok q =>
      obtain ⟨ds, ρ2⟩ := q
      rw [e2] at h
      dsimp only at h ⊢
      intro vs H2 G2 s2 I2 r2
      exact h (v :: vs) H2 G2 (s1.trans s2) I2 (by simp only [ArR]; exact ⟨v, vs, rfl, Rep.mono s2.sub _ _ r1, r2⟩)
theorem dr_own (j : Nat) {x : Str} {px : Pos} (hr : PA X es (rdR X.K fs)) (hN : X.N[j]? = some x := by rfl) (hv : Vis X.env.scope x := by first | exact Or.inl rfl | exact Or.inr (Or.inl rfl) | exact Or.inr (Or.inr rfl)) (hd : (x == ("__debug__" : Str)) = false := by decide)
    (hcd : (x == ("__classdict__" : Str)) = false := by decide) (hs : starEach (.Name x px :: es) X.env = (false, eval (.Name x px) X.env) :: starEach es X.env := by rfl) : PA X (.Name x px :: es) (rdR X.K (rOwn j fs)) := by
  refine pa_imp (pa_cons (pe_var (i := j) hN hv hd hcd) hr hs) fun σ H Q ⟨ρ, G, I, h⟩ => ?_
  unfold rdRK rOwn at h
  cases e : ownL ρ j with
  | none => rw [e] at h; exact h.elim
  | some p =>
    rw [e] at h
    dsimp only at h
    obtain ⟨a, vs, e1, _⟩ := I.own e
    refine ⟨.ref a, e1, ρ, G, I, ?_⟩
    unfold rdRK
    cases e2 : fs ρ with
    | ex _ _ => rw [e2] at h; exact h
    | no => rw [e2] at h; exact h
    | ok q =>
      obtain ⟨ds, ρ2⟩ := q
      rw [e2] at h
      dsimp only [Rz.bind] at h ⊢
      intro vs H2 G2 s2 I2 r2
      exact h (.ref a :: vs) H2 G2 s2 I2 (by simp only [ArR]; exact ⟨_, vs, rfl, e1, r2⟩)
end

def argsOf (ρ : Rho) : List Ar → Option Args
  | [] => some []
  | .d d :: xs => (argsOf ρ xs).map (Sl.dat d :: ·)
  | .o j :: xs => match ownL ρ j with | some (_, ds) => (argsOf ρ xs).map (Sl.own true ds :: ·) | none => none
def isO (i : Nat) : Ar → Bool | .o j => j == i | _ => false
/-- no list is handed in twice -/
def onceO (xs : List Ar) : Bool := (List.range xs.length).all fun k => match xs[k]? with | some (.o j) => xs.findIdx? (isO j) == some k | _ => true
def backO (xs : List Ar) (as' : Args) (ρ : Rho) : Rho := ρ.mapIdx fun i s => match s with
  | some (.own io ds) => (match xs.findIdx? (isO i) with
    | some k => (match as'[k]? with | some (.own _ es) => some (.own io es) | _ => some (.own io ds))
    | none => some (.own io ds))
  | s => s
section
variable {K : PySem.W.Frag} {σ : L2.St} {ρ : Rho} {G H : Hp}
theorem onceO_of {xs : List Ar} {k j : Nat} (h : onceO xs = true) (e : xs[k]? = some (.o j)) : xs.findIdx? (isO j) = some k := by
  have hl := (List.getElem?_eq_some_iff.mp e).1
  have z := List.all_eq_true.mp h k (List.mem_range.mpr hl)
  rw [e] at z
  simpa using z
/-- place by place -/
theorem args_get : ∀ {xs : List Ar} {vs : List V} {as : Args}, ArR K G σ xs vs → argsOf ρ xs = some as → vs.length = as.length ∧ as.length = xs.length ∧ ∀ (k : Nat) (s : Sl), as[k]? = some s → ∃ v : V, vs[k]? = some v ∧
    ((∃ d : D, xs[k]? = some (Ar.d d) ∧ s = Sl.dat d ∧ Rep K G d v) ∨ (∃ (j : Nat) (io : Bool) (ds : List D), xs[k]? = some (Ar.o j) ∧ ownL ρ j = some (io, ds) ∧ s = Sl.own true ds ∧ σ[j]? = some (some v)))
  | [], vs, as, h, e => by
    simp only [ArR] at h; subst h; cases e
    exact ⟨rfl, rfl, fun k s z => by simp at z⟩
  | .d d :: xs, vs, as, h, e => by
    simp only [ArR] at h
    obtain ⟨v, r, rfl, h1, h2⟩ := h
    simp only [argsOf] at e
    cases q : argsOf ρ xs with
    | none => rw [q] at e; cases e
    | some bs =>
      rw [q] at e; cases e
      obtain ⟨l1, l2, f⟩ := args_get h2 q
      refine ⟨by rw [List.length_cons, List.length_cons, l1], by rw [List.length_cons, List.length_cons, l2], fun k s z => ?_⟩
      cases k with
      | zero => simp at z; subst z; exact ⟨v, rfl, .inl ⟨d, rfl, rfl, h1⟩⟩
      | succ k => simp at z; exact f k s z
  | .o j :: xs, vs, as, h, e => by
    simp only [ArR] at h
    obtain ⟨v, r, rfl, h1, h2⟩ := h
    simp only [argsOf] at e
    cases q0 : ownL ρ j with
    | none => rw [q0] at e; cases e
    | some p =>
      obtain ⟨io, ds⟩ := p
      rw [q0] at e
      dsimp only at e
      cases q : argsOf ρ xs with
      | none => rw [q] at e; cases e
      | some bs =>
        rw [q] at e; cases e
        obtain ⟨l1, l2, f⟩ := args_get h2 q
        refine ⟨by rw [List.length_cons, List.length_cons, l1], by rw [List.length_cons, List.length_cons, l2], fun k s z => ?_⟩
        cases k with
        | zero => simp at z; subst z; exact ⟨v, rfl, .inr ⟨j, io, ds, rfl, q0, rfl, h1⟩⟩
        | succ k => simp at z; exact f k s z
theorem args_io {xs : List Ar} {as : Args} : argsOf ρ xs = some as → allIo as = true := by
  intro h
  unfold allIo
  induction xs generalizing as with
  | nil => cases h; rfl
  | cons x xs ih =>
    cases x with
    | d d =>
      simp only [argsOf] at h
      cases q : argsOf ρ xs with
      | none => rw [q] at h; cases h
      | some bs => rw [q] at h; cases h; rw [List.all_cons, ih q]; rfl
    | o j =>
      simp only [argsOf] at h
      cases q0 : ownL ρ j with
      | none => rw [q0] at h; cases h
      | some p =>
        rw [q0] at h
        dsimp only at h
        cases q : argsOf ρ xs with
        | none => rw [q] at h; cases h
        | some bs => rw [q] at h; cases h; rw [List.all_cons, ih q]; rfl
theorem args_SR {xs : List Ar} {vs : List V} {as : Args} (I : SR K G H σ ρ) (h : ArR K G σ xs vs) (e : argsOf ρ xs = some as) (o : onceO xs = true) : SR K G H (vs.map some) (as.map some) := by
  obtain ⟨l1, l2, f⟩ := args_get h e
  refine ⟨I.tab, I.lam, by rw [List.length_map, List.length_map, l1], I.sub, fun k s ov h1 h2 => ?_, fun k l io jo ds es a h1 h2 h3 h4 => ?_⟩
  · obtain ⟨s, e1, rfl⟩ := get_map_some h1
    obtain ⟨v, e2, rfl⟩ := get_map_some h2
    obtain ⟨v', e3, z⟩ := f k s e1
    rw [e2] at e3; cases e3
    rcases z with ⟨d, _, rfl, r⟩ | ⟨j, io, ds, _, q, rfl, q2⟩
    · exact ⟨v, rfl, r⟩
    · obtain ⟨a, us, z1, z2, z3, z4⟩ := I.own q
      rw [q2] at z1; cases z1
      exact ⟨a, us, rfl, z2, z3, z4⟩
  · obtain ⟨s1, e1, z1⟩ := get_map_some h1
    obtain ⟨s2, e2, z2⟩ := get_map_some h2
    cases z1; cases z2
    obtain ⟨v1, f1, w1⟩ := f k _ e1
    obtain ⟨v2, f2, w2⟩ := f l _ e2
    have g1 : v1 = .ref a := by
      rw [List.getElem?_map, f1] at h3
      cases h3; rfl
    have g2 : v2 = .ref a := by
      rw [List.getElem?_map, f2] at h4
      cases h4; rfl
    subst g1; subst g2
    rcases w1 with ⟨_, _, z, _⟩ | ⟨j1, io1, ds1, x1, q1, _, y1⟩
    · cases z
    rcases w2 with ⟨_, _, z, _⟩ | ⟨j2, io2, ds2, x2, q2, _, y2⟩
    · cases z
    have ej := I.inj j1 j2 io1 io2 ds1 ds2 a (ownL_eq q1) (ownL_eq q2) y1 y2
    subst ej
    have a1 := onceO_of o x1
    have a2 := onceO_of o x2
    rw [a1] at a2
    cases a2; rfl
theorem backO_get {xs : List Ar} {as' : Args} {i : Nat} {s : Option Sl} (h : (backO xs as' ρ)[i]? = some s) : ∃ t, ρ[i]? = some t ∧ s = (match t with
  | some (.own io ds) => (match xs.findIdx? (isO i) with
    | some k => (match as'[k]? with | some (.own _ es) => some (.own io es) | _ => some (.own io ds))
    | none => some (.own io ds))
  | s => s) := by
  unfold backO at h
  rw [List.getElem?_mapIdx] at h
  cases q : ρ[i]? with
  | none => rw [q] at h; cases h
  | some t => rw [q] at h; cases h; exact ⟨t, rfl, rfl⟩
/-- behind a call, in the caller -/
theorem call_back {xs : List Ar} {vs : List V} {as as' : Args} {G' H' : Hp} (I : SR K G H σ ρ) (h : ArR K G σ xs vs) (e : argsOf ρ xs = some as) (o : onceO xs = true)
    (st : Stp (vs.map some) (as.map some) G H (vs.map some) (as'.map some) G' H') (I' : SR K G' H' (vs.map some) (as'.map some)) :
    Stp σ ρ G H σ (backO xs as' ρ) G' H' ∧ SR K G' H' σ (backO xs as' ρ) ∧ ∀ a, OwnAt σ (backO xs as' ρ) a → OwnAt σ ρ a := by
  obtain ⟨l1, l2, f⟩ := args_get h e
  -- a list that was handed in is one's own
  have ownA : ∀ a, OwnAt (vs.map some) (as.map some) a → ∃ j io ds, ownL ρ j = some (io, ds) ∧ σ[j]? = some (some (.ref a)) ∧ ∃ k : Nat, xs[k]? = some (Ar.o j) := fun a ⟨k, io, ds, h1, h2⟩ => by
    obtain ⟨s1, e1, z1⟩ := get_map_some h1
    cases z1
    obtain ⟨v1, f1, w1⟩ := f k _ e1
    have g1 : v1 = .ref a := by
      rw [List.getElem?_map, f1] at h2
      cases h2; rfl
    subst g1
    rcases w1 with ⟨_, _, z, _⟩ | ⟨j1, io1, ds1, x1, q1, _, y1⟩
    · cases z
    · exact ⟨j1, io1, ds1, q1, y1, k, x1⟩
  have ownB : ∀ a, OwnAt (vs.map some) (as.map some) a → OwnAt σ ρ a := fun a z => by
    obtain ⟨j, io, ds, q, y, _⟩ := ownA a z
    exact ⟨j, io, ds, ownL_eq q, y⟩
  have bo : ∀ (i : Nat) (io : Bool) (es : List D), (backO xs as' ρ)[i]? = some (some (Sl.own io es)) → ∃ ds, ρ[i]? = some (some (Sl.own io ds)) := fun i io es z => by
    obtain ⟨t, e1, e2⟩ := backO_get z
    rw [e1]
    cases t with
    | none => cases e2
    | some t =>
      cases t with
      | dat d => cases e2
      | own jo ds =>
        refine ⟨ds, ?_⟩
        dsimp only at e2
        split at e2
        · split at e2
          · cases e2; rfl
          · cases e2; rfl
        · cases e2; rfl
  refine ⟨⟨st.sub, fun a hh n => st.new a hh fun z => n (ownB a z), fun a ob hh n t => st.keep a ob hh (fun z => n (ownB a z)) t, st.grow, st.dom, fun a ⟨i, io, es, q1, q2⟩ => ?_, fun a ⟨i, es, q1, q2⟩ => ?_, fun i ds q => ?_⟩,
    ⟨I'.tab, I'.lam, ?_, I'.sub, fun i s ov h1 h2 => ?_, fun i j io jo ds es a h1 h2 h3 h4 => ?_⟩, fun a h => ?_⟩
  · obtain ⟨ds, q3⟩ := bo i io es q1
    exact .inl ⟨i, io, ds, q3, q2⟩
  · obtain ⟨ds, q3⟩ := bo i false es q1
    exact .inl ⟨i, ds, q3, q2⟩
  · refine ⟨rfl, ?_⟩
    unfold backO
    rw [List.getElem?_mapIdx, q]
    simp only [Option.map]
    split
    · split
      · exact ⟨_, rfl⟩
      · exact ⟨_, rfl⟩
    · exact ⟨_, rfl⟩
  · unfold backO
    rw [List.length_mapIdx]; exact I.len
  · obtain ⟨t, e1, e2⟩ := backO_get h1
    have z := I.slot i t ov e1 h2
    cases t with
    | none => subst e2; trivial
    | some t =>
      cases t with
      | dat d =>
        subst e2
        obtain ⟨v, z1, z2⟩ := z
        exact ⟨v, z1, Rep.mono st.sub _ _ z2⟩
      | own io ds =>
        obtain ⟨a, us, z1, z2, z3, z4⟩ := z
        subst z1
        -- not handed in
        have out : (∀ k : Nat, xs[k]? ≠ some (Ar.o i)) → SlRep K G' H' (some (.own io ds)) (some (.ref a)) := fun nk => by
          have na : ¬ OwnAt (vs.map some) (as.map some) a := fun y => by
            obtain ⟨j, jo, es, q, y2, k, y3⟩ := ownA a y
            have ej := I.inj i j io jo ds es a e1 (ownL_eq q) h2 y2
            subst ej
            exact nk k y3
          exact ⟨a, us, rfl, st.keep a _ z2 na rfl, (st.new a (by rw [z2]; exact fun z => by cases z) na).trans z3, Reps.mono st.sub _ _ z4⟩
        dsimp only at e2
        cases qk : xs.findIdx? (isO i) with
        | none =>
          rw [qk] at e2
          subst e2
          refine out fun k y => ?_
          have q := onceO_of o y
          rw [qk] at q; cases q
        | some k =>
          rw [qk] at e2
          dsimp only at e2
          -- the place k hands in the list at i
          have xk : xs[k]? = some (Ar.o i) := by
            obtain ⟨hlt, hp, _⟩ := List.findIdx?_eq_some_iff_getElem.mp qk
            rw [List.getElem?_eq_getElem hlt]
            cases q : xs[k] with
            | d d => rw [q] at hp; cases hp
            | o j =>
              rw [q] at hp
              simp only [isO, beq_iff_eq] at hp
              rw [hp]
          have hk : k < as.length := by rw [l2]; exact (List.getElem?_eq_some_iff.mp xk).1
          obtain ⟨v, f1, w1⟩ := f k _ (List.getElem?_eq_getElem hk)
          rcases w1 with ⟨_, y1, _⟩ | ⟨j1, io1, ds1, x1, q1, y2, y1⟩
          · rw [xk] at y1; cases y1
          · rw [xk] at x1; cases x1
            rw [h2] at y1
            have ev : v = .ref a := by cases y1; rfl
            subst ev
            have ak : (as.map some)[k]? = some (some (.own true ds1)) := by rw [List.getElem?_map, List.getElem?_eq_getElem hk, y2]; rfl
            obtain ⟨_, es, w3⟩ := st.stay k ds1 ak
            obtain ⟨s3, w4, w5⟩ := get_map_some w3
            cases w5
            rw [w4] at e2
            dsimp only at e2
            subst e2
            obtain ⟨b, us', b1, b2⟩ := I'.slot k _ (some (.ref a)) w3 (by rw [List.getElem?_map, f1]; rfl)
            cases b1
            exact ⟨_, us', rfl, b2⟩
  · obtain ⟨d1, q1⟩ := bo i io ds h1
    obtain ⟨d2, q2⟩ := bo j jo es h2
    exact I.inj i j _ _ _ _ a q1 q2 h3 h4
  · obtain ⟨i, io, es, q1, q2⟩ := h
    obtain ⟨ds, q3⟩ := bo i io es q1
    exact ⟨i, io, ds, q3, q2⟩
end
/-- f(..): the value data -/
def callD (F : FD) (n : Nat) (xs : List Ar) : Rho → Rz (D × Rho) := fun ρ => if onceO xs = true then (match argsOf ρ xs with
  | some as => (match F n as with
    | some (.dat d, as') => .ok (d, backO xs as' ρ)
    | _ => .no)
  | none => .no) else .no
def eCall (F : FD) (n : Nat) (fr : FAr) : FE := fun ρ => (fr ρ).bind fun p => callD F n p.1 p.2
def callO (F : FD) (n : Nat) (xs : List Ar) : Rho → Rz (List D × Rho) := fun ρ => if onceO xs = true then (match argsOf ρ xs with
  | some as => (match F n as with
    | some (.own false ds, as') => .ok (ds, backO xs as' ρ)
    | _ => .no)
  | none => .no) else .no
def oCall (F : FD) (n : Nat) (fr : FAr) : FA := fun ρ => (fr ρ).bind fun p => callO F n p.1 p.2
section
variable {X : Cx} {f : Addr} {fd : FuncData} {ps : List Str} {F : FD} {k : Nat} {x : Str} {p pos : Pos} {e : Expr} {es : List Expr} {fr : FAr}
theorem rd_call (n : Nat) (np : Nat) (hnp : ∀ n as s as', F n as = some (s, as') → as.length = np) (σ : L2.St) (H : Hp) (Q : VK) (h : rd X.K (eCall F n fr) σ H Q) : tCall (spI X.K np F) [] E0 (rdR X.K fr) σ H Q := by
  obtain ⟨ρ, G, I, h⟩ := h
  refine ⟨ρ, G, I, ?_⟩
  unfold eCall at h
  unfold rdRK
  cases e1 : fr ρ with
  | ex _ _ => rw [e1] at h; exact h
  | no => rw [e1] at h; exact h
  | ok q =>
    obtain ⟨xs, ρ1⟩ := q
    rw [e1] at h
    dsimp only [Rz.bind] at h ⊢
    intro vs H1 G1 s1 I1 r1
    unfold callD at h
    by_cases o : onceO xs = true
    · rw [if_pos o] at h
      cases ea : argsOf ρ1 xs with
      | none => rw [ea] at h; exact h.elim
      | some as =>
        rw [ea] at h
        dsimp only at h
        cases ef : F n as with
        | none => rw [ef] at h; exact h.elim
        | some q =>
          obtain ⟨sl, as'⟩ := q
          rw [ef] at h
          cases sl with
          | own io ds => exact h.elim
          | dat d =>
            dsimp only at h
            rw [List.append_nil]
            obtain ⟨l1, l2, _⟩ := args_get r1 ea
            refine ⟨n, G1, as, .dat d, as', by rw [l1]; exact hnp n as _ _ ef, args_SR I1 r1 ea o, args_io ea, ef, fun v H' G' st I' rr => ?_⟩
            obtain ⟨A, B, _⟩ := call_back I1 r1 ea o st I'
            exact h v H' G' (s1.trans A) B rr
    · rw [if_neg o] at h; exact h.elim
theorem rd_callO (n : Nat) (np : Nat) (hnp : ∀ n as s as', F n as = some (s, as') → as.length = np) (σ : L2.St) (H : Hp) (Q : VK) (h : rdO X.K (oCall F n fr) σ H Q) : tCall (spI X.K np F) [] E0 (rdR X.K fr) σ H Q := by
  obtain ⟨ρ, G, I, h⟩ := h
  refine ⟨ρ, G, I, ?_⟩
  unfold oCall at h
  unfold rdRK
  cases e1 : fr ρ with
  | ex _ _ => rw [e1] at h; exact h
  | no => rw [e1] at h; exact h
  | ok q =>
    obtain ⟨xs, ρ1⟩ := q
    rw [e1] at h
    dsimp only [Rz.bind] at h ⊢
    intro vs H1 G1 s1 I1 r1
    unfold callO at h
    by_cases o : onceO xs = true
    · rw [if_pos o] at h
      cases ea : argsOf ρ1 xs with
      | none => rw [ea] at h; exact h.elim
      | some as =>
        rw [ea] at h
        dsimp only at h
        cases ef : F n as with
        | none => rw [ef] at h; exact h.elim
        | some q =>
          obtain ⟨sl, as'⟩ := q
          rw [ef] at h
          cases sl with
          | dat d => exact h.elim
          | own io ds =>
            cases io with
            | true => exact h.elim
            | false =>
              dsimp only at h
              rw [List.append_nil]
              obtain ⟨l1, l2, _⟩ := args_get r1 ea
              have hio := args_io ea
              refine ⟨n, G1, as, .own false ds, as', by rw [l1]; exact hnp n as _ _ ef, args_SR I1 r1 ea o, hio, ef, fun v H' G' st I' rr => ?_⟩
              obtain ⟨A, B, C⟩ := call_back I1 r1 ea o st I'
              obtain ⟨_, q, us, rfl, z1, z2, z3, z4⟩ := rr
              have n1 : H1 q = none := z4.resolve_left fun y => OwnN.mapF hio y
              have n0 : H q = none := by
                cases y : H q with
                | none => rfl
                | some ob => exact absurd n1 (s1.dom q (by rw [y]; exact fun z => by cases z))
              refine h q us H' G' (s1.trans A) B n0 z1 z2 (fun y => ?_) z3
              exact own_dom I1 (C q y) n1
    · rw [if_neg o] at h; exact h.elim
/-- a def of the module that may be called by its name -/
structure Cl (P : Program) (w : World) (K : PySem.W.Frag) (mg : Str → Option Value) (base : Heap) (k : Nat) (x : Str) (np : Nat) (F : FD) : Prop where
  ex : ∃ (f : Addr) (fd : FuncData) (ps : List Str), FnG P w K mg base k f fd ps (spI K np F) ∧ mg x = some (.ref f) ∧ PySem.W.keepIn K (.ref f) = true ∧ Binds K fd ps []
  len : ∀ n as s as', F n as = some (s, as') → as.length = np
theorem de_call (n : Nat) {np j : Nat} (c : Cl X.prog X.w X.K X.mg X.base k x np F) (hr : Rm j X.A) (hk : k ≤ j) (hg : Gl X x) (ha : PA X (e :: es) (rdR X.K fr))
    (hdb : (x == ("__debug__" : Str)) = false := by decide) (he : starEach (e :: es) X.env = (false, eval e X.env) :: starEach es X.env := by rfl) (hpl : (backTo pos (starEach es X.env)).any (·.1) = false := by rfl) :
    PE X (.Call (.Name x p) (e :: es) [] pos) (rd X.K (eCall F n fr)) := by
  obtain ⟨f, fd, ps, FO, hm, kp, b⟩ := c.ex
  exact pe_imp (pe_callG FO (hr.mono hk) hg hm kp b ha hdb he hpl) (rd_call n np c.len)
theorem do_call (n : Nat) {np j : Nat} (c : Cl X.prog X.w X.K X.mg X.base k x np F) (hr : Rm j X.A) (hk : k ≤ j) (hg : Gl X x) (ha : PA X (e :: es) (rdR X.K fr))
    (hdb : (x == ("__debug__" : Str)) = false := by decide) (he : starEach (e :: es) X.env = (false, eval e X.env) :: starEach es X.env := by rfl) (hpl : (backTo pos (starEach es X.env)).any (·.1) = false := by rfl) :
    PE X (.Call (.Name x p) (e :: es) [] pos) (rdO X.K (oCall F n fr)) := by
  obtain ⟨f, fd, ps, FO, hm, kp, b⟩ := c.ex
  exact pe_imp (pe_callG FO (hr.mono hk) hg hm kp b ha hdb he hpl) (rd_callO n np c.len)
/-- a value that is a new list, as data -/
def eFz (f : FA) : FE := fun ρ => (f ρ).bind fun p => .ok (.lst p.1, p.2)
theorem SR.seen {K : PySem.W.Frag} {σ : L2.St} {ρ : Rho} {G H : Hp} {p : Addr} {us : List V} (I : SR K G H σ ρ) (h1 : H p = some (.lst us)) (h2 : G p = none) (n : ¬ OwnAt σ ρ p) : SR K (upd G p (.lst us)) H σ ρ := by
  have sG : Same G (upd G p (.lst us)) := same_upd h2
  have nt : ∀ b ps, H b = some (.tbl ps) → b ≠ p := fun b ps e z => by
    subst z
    rw [h1] at e; cases e
  refine ⟨I.tabs' (Grow.refl _) fun P z ⟨ps, e⟩ => upd_ne (nt P ps e), I.lam' (Grow.refl _), I.len, fun b o q => ?_, fun i s o q1 q2 => ?_, I.inj⟩
  · by_cases z : b = p
    · subst z; rw [upd_same] at q; cases q; exact h1
    · rw [upd_ne z] at q; exact I.sub b o q
  · have z := I.slot i s o q1 q2
    match s, q1, z with
    | none, _, _ => trivial
    | some (.dat d), _, ⟨v, e, r⟩ => exact ⟨v, e, Rep.mono sG _ _ r⟩
    | some (.own io' ds'), q1, ⟨b, vs, e, e2, e3, r'⟩ =>
      have nb : b ≠ p := fun z => by
        subst z; subst e
        exact n ⟨i, io', ds', q1, q2⟩
      exact ⟨b, vs, e, e2, by rw [upd_ne nb]; exact e3, Reps.mono sG _ _ r'⟩
theorem de_ofO {e : Expr} {f : FA} (h : PE X e (rdO X.K f)) : PE X e (rd X.K (eFz f)) := by
  refine pe_imp h fun σ H Q ⟨ρ, G, I, h⟩ => ?_
  refine ⟨ρ, G, I, ?_⟩
  unfold eFz at h
  cases q : f ρ with
  | ex _ _ => rw [q] at h; exact h
  | no => rw [q] at h; exact h
  | ok p =>
    obtain ⟨ds, ρ1⟩ := p
    rw [q] at h
    intro p us H1 G1 s1 I1 e1 e2 e3 n r
    have ne : ∀ a, H a ≠ none → a ≠ p := fun a h z => h (by rw [z]; exact e1)
    refine h (.ref p) H1 (upd G1 p (.lst us)) ⟨fun a o z => by rw [upd_ne (ne_of_none (s1.sub a o z) e3)]; exact s1.sub a o z, fun a z z2 => by rw [upd_ne (ne a z)]; exact s1.new a z z2, s1.keep, s1.grow, s1.dom, s1.own, s1.ownN, s1.stay⟩ (I1.seen e2 e3 n) (Rep.lst_new e3 r)
end
end M

namespace M
open PySem PySem.Spec PyProof.Rows L2
variable [Tabs]

/-! ### comprehensions -/
def wipeR (vs : List Nat) (ρ : Rho) : Rho := ρ.mapIdx fun i s => if vs.contains i = true then none else s
def restR (vs : List Nat) (ρ0 ρ : Rho) : Rho := ρ.mapIdx fun i s => if vs.contains i = true then (match ρ0[i]? with | some (some (.dat d)) => some (.dat d) | _ => none) else s
def noIo (vs : List Nat) (ρ : Rho) : Bool := vs.all fun i => !isIo ρ i
section
variable {K : PySem.W.Frag} {σ σ2 : L2.St} {ρ ρ2 : Rho} {G H : Hp} {vs : List Nat}
theorem wipe_get {i : Nat} : ∀ {vs : List Nat}, i ∉ vs → (wipe σ vs)[i]? = σ[i]?
  | [], _ => rfl
  | v :: vs, h => by
    unfold wipe
    rw [List.mem_cons, not_or] at h
    rw [List.getElem?_set_ne (fun e => h.1 e.symm)]
    exact wipe_get h.2
theorem wipe_in {i : Nat} : ∀ {vs : List Nat}, i ∈ vs → i < σ.length → (wipe σ vs)[i]? = some none
  | v :: vs, h, hl => by
    unfold wipe
    by_cases e : v = i
    · subst e
      rw [List.getElem?_set_self (by rw [wipe_length]; exact hl)]
    · rw [List.getElem?_set_ne e]
      rcases List.mem_cons.mp h with z | z
      · exact absurd z.symm e
      · exact wipe_in z hl
theorem wipe_out {i : Nat} {o : Option V} (h : (wipe σ vs)[i]? = some o) : i ∉ vs ∧ σ[i]? = some o ∨ i ∈ vs ∧ o = none := by
  by_cases z : i ∈ vs
  · right
    have hl : i < σ.length := by rw [← wipe_length σ vs]; exact (List.getElem?_eq_some_iff.mp h).1
    rw [wipe_in z hl] at h
    cases h
    exact ⟨z, rfl⟩
  · left
    rw [wipe_get z] at h
    exact ⟨z, h⟩
theorem wipe_eq (hl : σ2.length = σ.length) (h : ∀ i, i ∉ vs → σ2[i]? = σ[i]?) : wipe σ2 vs = wipe σ vs := by
  apply List.ext_getElem?
  intro i
  by_cases z : i ∈ vs
  · by_cases l : i < σ.length
    · rw [wipe_in z l, wipe_in z (by rw [hl]; exact l)]
    · rw [List.getElem?_eq_none (by rw [wipe_length, hl]; omega), List.getElem?_eq_none (by rw [wipe_length]; omega)]
  · rw [wipe_get z, wipe_get z, h i z]
theorem wipe_wipe : wipe (wipe σ vs) vs = wipe σ vs := wipe_eq (wipe_length σ vs) fun _ h => wipe_get h
theorem wipe_only {is : List Nat} (hs : ∀ i ∈ is, i ∈ vs) (o : Only is (wipe σ vs) σ2) : wipe σ2 vs = wipe σ vs := by
  rw [wipe_eq (σ := wipe σ vs) o.1 fun i h => o.2 i fun z => h (hs i z), wipe_wipe]
theorem wipeR_get {i : Nat} {s : Option Sl} (h : (wipeR vs ρ)[i]? = some s) : i ∉ vs ∧ ρ[i]? = some s ∨ i ∈ vs ∧ s = none := by
  unfold wipeR at h
  rw [List.getElem?_mapIdx] at h
  cases q : ρ[i]? with
  | none => rw [q] at h; cases h
  | some t =>
    rw [q] at h
    simp only [Option.map_some, Option.some.injEq] at h
    by_cases z : i ∈ vs
    · rw [if_pos (by simpa using z)] at h
      exact .inr ⟨z, h.symm⟩
    · rw [if_neg (by simpa using z)] at h
      exact .inl ⟨z, by rw [h]⟩
theorem wipeR_of {i : Nat} {s : Option Sl} (n : i ∉ vs) (h : ρ[i]? = some s) : (wipeR vs ρ)[i]? = some s := by
  unfold wipeR
  rw [List.getElem?_mapIdx, h]
  simp only [Option.map_some]
  rw [if_neg (by simpa using n)]
theorem restR_get {ρ0 : Rho} {i : Nat} {s : Option Sl} (h : (restR vs ρ0 ρ)[i]? = some s) : i ∉ vs ∧ ρ[i]? = some s ∨ i ∈ vs ∧ (s = none ∨ ∃ d, s = some (.dat d) ∧ ρ0[i]? = some (some (.dat d))) := by
  unfold restR at h
  rw [List.getElem?_mapIdx] at h
  cases q : ρ[i]? with
  | none => rw [q] at h; cases h
  | some t =>
    rw [q] at h
    simp only [Option.map_some, Option.some.injEq] at h
    by_cases z : i ∈ vs
    · rw [if_pos (by simpa using z)] at h
      right
      refine ⟨z, ?_⟩
      split at h
      · exact .inr ⟨_, h.symm, by assumption⟩
      · exact .inl h.symm
    · rw [if_neg (by simpa using z)] at h
      exact .inl ⟨z, by rw [h]⟩
theorem restR_of {ρ0 : Rho} {i : Nat} {s : Option Sl} (n : i ∉ vs) (h : ρ[i]? = some s) : (restR vs ρ0 ρ)[i]? = some s := by
  unfold restR
  rw [List.getElem?_mapIdx, h]
  simp only [Option.map_some]
  rw [if_neg (by simpa using n)]
theorem SR.wipe (I : SR K G H σ ρ) : SR K G H (L2.wipe σ vs) (wipeR vs ρ) where
  tab := I.tab
  lam := I.lam
  len := by rw [wipe_length]; unfold wipeR; rw [List.length_mapIdx]; exact I.len
  sub := I.sub
  slot := fun i s o h1 h2 => by
    rcases wipeR_get h1 with ⟨n, h1⟩ | ⟨_, rfl⟩
    · rw [wipe_get n] at h2
      exact I.slot i s o h1 h2
    · trivial
  inj := fun i j io jo ds es a h1 h2 h3 h4 => by
    rcases wipeR_get h1 with ⟨n1, h1⟩ | ⟨_, z⟩
    · rcases wipeR_get h2 with ⟨n2, h2⟩ | ⟨_, z⟩
      · rw [wipe_get n1] at h3
        rw [wipe_get n2] at h4
        exact I.inj i j io jo ds es a h1 h2 h3 h4
      · cases z
    · cases z
theorem OwnAt.unwipe {a : Addr} (h : OwnAt (L2.wipe σ vs) (wipeR vs ρ) a) : OwnAt σ ρ a := by
  obtain ⟨i, io, ds, h1, h2⟩ := h
  rcases wipeR_get h1 with ⟨n1, h1⟩ | ⟨_, z⟩
  · rw [wipe_get n1] at h2
    exact ⟨i, io, ds, h1, h2⟩
  · cases z
theorem OwnN.unwipe {a : Addr} (h : OwnN (L2.wipe σ vs) (wipeR vs ρ) a) : OwnN σ ρ a := by
  obtain ⟨i, ds, h1, h2⟩ := h
  rcases wipeR_get h1 with ⟨n1, h1⟩ | ⟨_, z⟩
  · rw [wipe_get n1] at h2
    exact ⟨i, ds, h1, h2⟩
  · cases z
theorem noIo_of {i : Nat} {ds : List D} (h : noIo vs ρ = true) (e : ρ[i]? = some (some (.own true ds))) : i ∉ vs := fun z => by
  have q := List.all_eq_true.mp h i z
  unfold isIo at q
  rw [e] at q
  cases q
theorem Stp.wipe (h : noIo vs ρ = true) : Stp σ ρ G H (L2.wipe σ vs) (wipeR vs ρ) G H where
  sub := fun _ _ h => h
  new := fun _ _ _ => rfl
  keep := fun _ _ h _ _ => h
  grow := Grow.refl _
  dom := fun _ h => h
  own := fun a z => .inl z.unwipe
  ownN := fun a z => .inl z.unwipe
  stay := fun i ds q => ⟨wipe_get (noIo_of h q), ds, wipeR_of (noIo_of h q) q⟩
/-- nothing is known of the block's own names -/
def Bare (vs : List Nat) (ρ : Rho) : Prop := ∀ i ∈ vs, ∀ s, ρ[i]? = some s → s = none
theorem bare_wipeR : Bare vs (wipeR vs ρ) := fun i hi s h => by
  rcases wipeR_get h with ⟨n, _⟩ | ⟨_, e⟩
  · exact absurd hi n
  · exact e
theorem SR.rest {ρ0 : Rho} {G0 H0 : Hp} (s : Same G0 G) (I0 : SR K G0 H0 σ ρ0) (I : SR K G H (L2.wipe σ vs) ρ) : SR K G H σ (restR vs ρ0 ρ) where
  tab := I.tab
  lam := I.lam
  len := by
    unfold restR; rw [List.length_mapIdx]
    have := I.len
    rw [wipe_length] at this
    exact this
  sub := I.sub
  slot := fun i t o h1 h2 => by
    rcases restR_get h1 with ⟨n, h1⟩ | ⟨_, rfl | ⟨d, rfl, e⟩⟩
    · rw [← wipe_get n] at h2
      exact I.slot i t o h1 h2
    · trivial
    · obtain ⟨v, e1, r⟩ := I0.slot i _ o e h2
      exact ⟨v, e1, Rep.mono s _ _ r⟩
  inj := fun i j io jo ds es a h1 h2 h3 h4 => by
    rcases restR_get h1 with ⟨n1, h1⟩ | ⟨_, z | ⟨d, z, e⟩⟩
    · rcases restR_get h2 with ⟨n2, h2⟩ | ⟨_, z | ⟨d, z, e⟩⟩
      · rw [← wipe_get n1] at h3
        rw [← wipe_get n2] at h4
        exact I.inj i j io jo ds es a h1 h2 h3 h4
      · cases z
      · cases z
    · cases z
    · cases z
theorem OwnAt.rest {ρ0 : Rho} {a : Addr} (h : OwnAt σ (restR vs ρ0 ρ) a) : OwnAt (L2.wipe σ vs) ρ a := by
  obtain ⟨i, io, ds, h1, h2⟩ := h
  rcases restR_get h1 with ⟨n1, h1⟩ | ⟨_, z | ⟨d, z, e⟩⟩
  · rw [← wipe_get n1] at h2
    exact ⟨i, io, ds, h1, h2⟩
  · cases z
  · cases z
theorem OwnN.rest {ρ0 : Rho} {a : Addr} (h : OwnN σ (restR vs ρ0 ρ) a) : OwnN (L2.wipe σ vs) ρ a := by
  obtain ⟨i, ds, h1, h2⟩ := h
  rcases restR_get h1 with ⟨n1, h1⟩ | ⟨_, z | ⟨d, z, e⟩⟩
  · rw [← wipe_get n1] at h2
    exact ⟨i, ds, h1, h2⟩
  · cases z
  · cases z
theorem Stp.rest {ρ0 : Rho} (b : Bare vs ρ) : Stp (L2.wipe σ vs) ρ G H σ (restR vs ρ0 ρ) G H where
  sub := fun _ _ h => h
  new := fun _ _ _ => rfl
  keep := fun _ _ h _ _ => h
  grow := Grow.refl _
  dom := fun _ h => h
  own := fun a z => .inl z.rest
  ownN := fun a z => .inl z.rest
  stay := fun i ds q => by
    have n : i ∉ vs := fun z => by cases b i z _ q
    exact ⟨(wipe_get n).symm, ds, restR_of n q⟩
/-- a list that none knows is written -/
theorem SR.blind {D0 : Addr} {us ws : List V} (I : SR K G H σ ρ) (h1 : H D0 = some (.lst us)) (h2 : G D0 = none) (n : ¬ OwnAt σ ρ D0) : SR K G (upd H D0 (.lst ws)) σ ρ := by
  have nt : ∀ b ps, H b = some (.tbl ps) → b ≠ D0 := fun b ps e z => by
    subst z
    rw [h1] at e; cases e
  have gr : Grow H (upd H D0 (.lst ws)) := fun b ps e => ⟨ps, by rw [upd_ne (nt b ps e)]; exact e, id, fun q _ z => tabS_to z (fun ps e => by rw [upd_ne (nt b ps e)]; exact e) fun c e => by
    rw [upd_ne fun y => by subst y; rw [h1] at e; exact codeO_lst _ (Option.some.inj e).symm]; exact e⟩
  refine ⟨I.tabs' gr fun _ _ _ => rfl, I.lam' gr, I.len, fun b o q => ?_, fun i s o q1 q2 => ?_, I.inj⟩
  · rw [upd_ne (ne_of_none q h2)]; exact I.sub b o q
  · have z := I.slot i s o q1 q2
    match s, q1, z with
    | none, _, _ => trivial
    | some (.dat d), _, z => exact z
    | some (.own io' ds'), q1, ⟨b, vs, e, e2, e3, r'⟩ =>
      have nb : b ≠ D0 := fun z => by
        subst z; subst e
        exact n ⟨i, io', ds', q1, q2⟩
      exact ⟨b, vs, e, by rw [upd_ne nb]; exact e2, e3, r'⟩
/-- .. a list that did not stand at the step's start -/
theorem Stp.blind {D0 : Addr} {us ws : List V} {σ1 : L2.St} {ρ1 : Rho} {G1 H1 : Hp} (s : Stp σ1 ρ1 G1 H1 σ ρ G H) (h0 : H1 D0 = none) (h1 : H D0 = some (.lst us)) : Stp σ1 ρ1 G1 H1 σ ρ G (upd H D0 (.lst ws)) where
  sub := s.sub
  new := s.new
  keep := fun a o h n t => by rw [upd_ne (ne_of_none h h0)]; exact s.keep a o h n t
  grow := fun a ps h => by
    obtain ⟨qs, e1, f, g⟩ := s.grow a ps h
    have ne : a ≠ D0 := ne_of_none h h0
    refine ⟨qs, by rw [upd_ne ne]; exact e1, f, fun q m z => tabS_to (g q m z) (fun ps e => by rw [upd_ne ne]; exact e) fun c e => ?_⟩
    rw [upd_ne fun y => by subst y; rw [h1] at e; exact codeO_lst _ (Option.some.inj e).symm]; exact e
  dom := fun a h => by
    by_cases z : a = D0
    · subst z; exact absurd h0 h
    · rw [upd_ne z]; exact s.dom a h
  own := s.own
  ownN := s.ownN
  stay := s.stay
end

def lcL (tg : TgD) (ft : FT) (fe : FE) (vs : List Nat) : List D → List D → Rho → Rz (List D × Rho)
  | [], acc, ρ => frcL acc fun acc => .ok (acc, ρ)
  | d :: ds, acc, ρ => frc d fun d => nrmR ρ fun ρ => match tg d ρ with
    | none => .no
    | some ρ1 => (ft ρ1).bind fun c => if c.1 = true then (fe c.2).bind fun q => if acc.length < sizeLine ∧ noIo vs q.2 = true then lcL tg ft fe vs ds (acc ++ [q.1]) (wipeR vs q.2) else .no
      else if noIo vs c.2 = true then lcL tg ft fe vs ds acc (wipeR vs c.2) else .no
/-- [elt for tg in iter if test] -/
def oLc (fi : FI) (tg : TgD) (ft : FT) (fe : FE) (vs : List Nat) : FA := fun ρ => (fi ρ).bind fun p => if noIo vs p.2 = true then (lcL tg ft fe vs p.1 [] (wipeR vs p.2)).bind fun q => .ok (q.1, restR vs p.2 q.2) else .no
def tYesD : FT := fun ρ => .ok (true, ρ)
section
variable {X : Cx}
theorem dt_yes : ∀ (σ : L2.St) (H : Hp) (Q : Bool → Hp → Prop), rdT X.K tYesD σ H Q → tYes σ H Q := fun σ H Q ⟨ρ, G, I, h⟩ => h H G (Stp.refl _ _ _ _) I
theorem dts_nil : PTs X [] (rdT X.K tYesD) := ⟨fun pins s σ H Q I h => pts_nil.run pins s σ H Q I (dt_yes σ H Q h)⟩
theorem dts_one {c : Expr} {ft : FT} (h : PT X c (rdT X.K ft)) : PTs X [c] (rdT X.K ft) := pts_one h
theorem rd_lc {fi : FI} {is : List Nat} {tg : TgD} {ft : FT} {fe : FE} {vs : List Nat} (hs : ∀ i ∈ is, i ∈ vs) (σ : L2.St) (H : Hp) (Q : VK) (h : rdO X.K (oLc fi tg ft fe vs) σ H Q) : tLc (rdI X.K fi) (rdG X.K is tg) (rdT X.K ft) (rd X.K fe) vs σ H Q := by
  obtain ⟨ρ, G, I, h⟩ := h
  refine ⟨ρ, G, I, ?_⟩
  unfold oLc at h
  unfold rdIK
  cases e : fi ρ with
  | ex _ _ => rw [e] at h; exact h
  | no => rw [e] at h; exact h
  | ok p =>
    obtain ⟨ds, ρ1⟩ := p
    rw [e] at h
    dsimp only [Rz.bind] at h ⊢
    intro J H1 G1 s1 I1 hJ D0 hD
    by_cases io1 : noIo vs ρ1 = true
    · rw [if_pos io1] at h
      cases eL : lcL tg ft fe vs ds [] (wipeR vs ρ1) with
      | ex _ _ => rw [eL] at h; exact h.elim
      | no => rw [eL] at h; exact h.elim
      | ok r =>
        obtain ⟨res, ρf⟩ := r
        rw [eL] at h
        dsimp only at h
        have hD0 : H D0 = none := by
          cases q : H D0 with
          | none => rfl
          | some o => exact absurd hD (s1.dom D0 (by rw [q]; exact fun z => by cases z))
        have I1w : SR X.K G1 H1 (wipe σ vs) (wipeR vs ρ1) := I1.wipe
        obtain ⟨J0, S0, N0⟩ := I1w.fresh (o := .lst []) hD
        let W : Nat → Nat → Hp → Prop := fun i m H' => m = ds.length - i ∧ i ≤ ds.length ∧ ∃ ρ' G' acc us, Stp (wipe σ vs) (wipeR vs ρ1) G1 H1 (wipe σ vs) ρ' G' H' ∧ SR X.K G' H' (wipe σ vs) ρ' ∧ Bare vs ρ' ∧ H' D0 = some (.lst us) ∧ G' D0 = none ∧ ¬ OwnAt (wipe σ vs) ρ' D0 ∧ Reps X.K G' acc us ∧ us.length = acc.length ∧
          lcL tg ft fe vs (ds.drop i) acc ρ' = .ok (res, ρf)
        refine ⟨W, ⟨ds.length, rfl, Nat.zero_le _, wipeR vs ρ1, G1, [], [], S0, J0, bare_wipeR, upd_same, I1.sub.free hD, N0, Reps.nil, rfl, eL⟩, ?_⟩
        rintro i m H' ⟨rfl, hi, ρ', G', acc, us, sW, I', bW, hDl, hDg, hDn, rr, hlen, eq⟩
        by_cases hlt : i < ds.length
        · have ed : ds.drop i = ds[i] :: ds.drop (i + 1) := List.drop_eq_getElem_cons hlt
          have sub1 : Same G1 G' := sW.sub
          obtain ⟨go, yl⟩ := (hJ i G' H' sub1 I'.sub).1 ds[i] (List.getElem?_eq_getElem hlt)
          right
          refine ⟨go, fun H2 => W (i + 1) (ds.length - (i + 1)) H2, fun H2 w => ⟨ds.length - (i + 1), by omega, w⟩, fun x H2 y => ?_⟩
          obtain ⟨G2, P2, rx⟩ := yl x H2 y
          have I2 := I'.pure P2
          rw [ed] at eq
          unfold lcL at eq
          rw [frc_eq, nrmR_eq] at eq
          cases et : tg ds[i] ρ' with
          | none => rw [et] at eq; cases eq
          | some ρ3 =>
            rw [et] at eq
            dsimp only at eq
            refine ⟨ρ', G2, ds[i], I2, rx, ρ3, et, fun σ3 s3 I3 o3 => ⟨wipe_only hs o3, ?_⟩⟩
            -- D0 in what follows
            have base : Stp (wipe σ vs) ρ' G' H' σ3 ρ3 G2 H2 := (P2.stp (σ := wipe σ vs) (ρ := ρ')).trans s3
            have wq : wipe σ3 vs = wipe σ vs := wipe_only hs o3
            have keepD : ∀ {ρ4 : Rho} {G4 H4 : Hp}, Stp (wipe σ vs) ρ' G' H' σ3 ρ4 G4 H4 → SR X.K G4 H4 σ3 ρ4 → H4 D0 = some (.lst us) ∧ G4 D0 = none ∧ ¬ OwnAt σ3 ρ4 D0 := fun {ρ4 G4 H4} st I4 => by
              refine ⟨st.keep D0 _ hDl hDn rfl, (st.new D0 (by rw [hDl]; exact fun z => by cases z) hDn).trans hDg, fun z => ?_⟩
              rcases st.own D0 z with z | z
              · exact hDn z
              · rw [hDl] at z; cases z
            refine rdT_of I3 ?_
            unfold rdTK
            cases ec : ft ρ3 with
            | ex _ _ => rw [ec] at eq; cases eq
            | no => rw [ec] at eq; cases eq
            | ok c =>
              obtain ⟨b, ρ4⟩ := c
              rw [ec] at eq
              dsimp only [Rz.bind] at eq ⊢
              intro H4 G4 s4 I4
              have st4 : Stp (wipe σ vs) ρ' G' H' σ3 ρ4 G4 H4 := base.trans s4
              cases b with
              | true =>
                simp only [if_true] at eq ⊢
                refine rd_of I4 ?_
                unfold rdK
                cases ee : fe ρ4 with
                | ex _ _ => rw [ee] at eq; cases eq
                | no => rw [ee] at eq; cases eq
                | ok q =>
                  obtain ⟨d5, ρ5⟩ := q
                  rw [ee] at eq
                  dsimp only [Rz.bind] at eq ⊢
                  intro v H5 G5 s5 I5 r5
                  have st5 : Stp (wipe σ vs) ρ' G' H' σ3 ρ5 G5 H5 := st4.trans s5
                  obtain ⟨k1, k2, k3⟩ := keepD st5 I5
                  by_cases z : acc.length < sizeLine ∧ noIo vs ρ5 = true
                  · rw [if_pos z] at eq
                    have stw : Stp (wipe σ vs) ρ' G' H' (wipe σ vs) (wipeR vs ρ5) G5 H5 := by
                      have := st5.trans (Stp.wipe (vs := vs) z.2)
                      rw [wq] at this
                      exact this
                    have Iw : SR X.K G5 H5 (wipe σ vs) (wipeR vs ρ5) := by
                      have := I5.wipe (vs := vs)
                      rw [wq] at this
                      exact this
                    have nw : ¬ OwnAt (wipe σ vs) (wipeR vs ρ5) D0 := fun y => by
                      rw [← wq] at y
                      exact k3 y.unwipe
                    refine ⟨us, k1, by rw [hlen]; exact z.1, rfl, hlt, wipeR vs ρ5, G5, acc ++ [d5], us ++ [v], (sW.trans stw).blind hD k1, Iw.blind k1 k2 nw, bare_wipeR, upd_same, k2, nw, Reps.append (Reps.mono st5.sub _ _ rr) (Reps.cons r5 Reps.nil), by rw [List.length_append, List.length_append, hlen]; rfl, eq⟩
                  · rw [if_neg z] at eq; cases eq
              | false =>
                simp only [Bool.false_eq_true, if_false] at eq ⊢
                obtain ⟨k1, k2, k3⟩ := keepD st4 I4
                by_cases z : noIo vs ρ4 = true
                · rw [if_pos z] at eq
                  have stw : Stp (wipe σ vs) ρ' G' H' (wipe σ vs) (wipeR vs ρ4) G4 H4 := by
                    have := st4.trans (Stp.wipe (vs := vs) z)
                    rw [wq] at this
                    exact this
                  have Iw : SR X.K G4 H4 (wipe σ vs) (wipeR vs ρ4) := by
                    have := I4.wipe (vs := vs)
                    rw [wq] at this
                    exact this
                  have nw : ¬ OwnAt (wipe σ vs) (wipeR vs ρ4) D0 := fun y => by
                    rw [← wq] at y
                    exact k3 y.unwipe
                  exact ⟨rfl, hlt, wipeR vs ρ4, G4, acc, us, sW.trans stw, Iw, bare_wipeR, k1, k2, nw, Reps.mono st4.sub _ _ rr, hlen, eq⟩
                · rw [if_neg z] at eq; cases eq
        · left
          have e0 : ds.drop i = [] := List.drop_eq_nil_of_le (by omega)
          rw [e0] at eq
          unfold lcL at eq
          rw [frcL_eq] at eq
          cases eq
          refine ⟨(hJ i G' H' sW.sub I'.sub).2 (by omega), ?_⟩
          have If := SR.rest sW.sub I1 I'
          have sf : Stp σ ρ G H σ (restR vs ρ1 ρf) G' H' := (s1.trans (Stp.wipe io1)).trans (sW.trans (Stp.rest bW))
          exact h D0 us H' G' sf If hD0 hDl hDg (fun y => hDn y.rest) rr
    · rw [if_neg io1] at h; exact h.elim
theorem do_lc {elt tg iter : Expr} {ifs : List Expr} {scope : Scope} {own : List (Str × Nat)} {pos : Pos} {fi : FI} {is : List Nat} {tgd : TgD} {ft : FT} {fe : FE} (hc : X.calm = true) (hN : X.N.Nodup) (hi : PI X tg iter (rdI X.K fi)) (ok : BlkOk X.N X.env.scope scope own) (hsub : ∀ i ∈ is, i ∈ own.map (·.2))
    (hg : ∀ (s : Shared) (H : Hp) (C : Addr) (cl : List (Str × Addr)) (fp : List Addr), PG (X.blk s H scope (compEnvC scope cl C X.env) fp) tg (rdG X.K is tgd)) (ht : ∀ (s : Shared) (H : Hp) (C : Addr) (cl : List (Str × Addr)) (fp : List Addr), PTs (X.blk s H scope (compEnvC scope cl C X.env) fp) ifs (rdT X.K ft))
    (he : ∀ (s : Shared) (H : Hp) (C : Addr) (cl : List (Str × Addr)) (fp : List Addr), PE (X.blk s H scope (compEnvC scope cl C X.env) fp) elt (rd X.K fe)) (hs : ∀ x, foldedSetIterable iter X.env x = pure x := by intro _; rfl) :
    PE X (.ListComp elt [⟨tg, iter, ifs, 0⟩] scope pos) (rdO X.K (oLc fi tgd ft fe (own.map (·.2)))) := pe_imp (pe_lc hc hN hi ok hg ht he hs) (rd_lc hsub)
end
end M

namespace M
open PySem PySem.Spec PyProof.Rows L2
variable [Tabs]

/-! ### a, b = x, y; name op= e -/
def sPar (i j : Nat) (f : FA) : FS := fun ρ => (f ρ).bind fun p => match p.1 with
  | [a, b] => if isIo p.2 i = true ∨ isIo p.2 j = true ∨ i = j then .no else .ok (.nx, (p.2.set i (some (.dat a))).set j (some (.dat b)))
  | _ => .no
def IpD (K : PySem.W.Frag) (r : TIp) (op : D → D → Option D) : Prop := ∀ (G H : Hp) (d1 d2 d : D) (v1 v2 : V) (Q : VK), Same G H → Rep K G d1 v1 → Rep K G d2 v2 → op d1 d2 = some d → (∀ v H' G', PStp G H G' H' → Rep K G' d v → Q v H') → r v1 v2 H Q
/-- name op= e: the name's value is taken first -/
def sAug (i : Nat) (op : D → D → Option D) (fe : FE) : FS := fun ρ => match ρ[i]? with
  | some (some (.dat x)) => (bndS fe fun y => fun ρ1 => match op x y with | some z => if isIo ρ1 i = true then .no else .ok (.nx, ρ1.set i (some (.dat z))) | none => .no) ρ
  | _ => .no
section
variable {X : Cx} {a b e : Expr} {fs : FA} {fe : FE} {pos : Pos}
theorem ds_par (i j : Nat) {x y : Str} {px py pt pt2 : Pos} {kt k2 : Nat} (ha : PA X [a, b] (rdA X.K fs)) (hc : X.calm = true) (hN : X.N.Nodup) (hi : X.N[i]? = some x := by rfl) (hj : X.N[j]? = some y := by rfl) (hij : i ≠ j := by decide)
    (hx : X.env.scope.names.lookup x = some .local := by rfl) (hy : X.env.scope.names.lookup y = some .local := by rfl)
    (hw : swappedStores [.Tuple [.Name x px, .Name y py] kt pt] (.Tuple [a, b] k2 pt2) X.env = pure (some [x, y]) := by rfl)
    (hs : swapsWithSole [.Tuple [.Name x px, .Name y py] kt pt] (.Tuple [a, b] k2 pt2) pos.line X.env = pure false := by rfl) :
    PS X (.Assign [.Tuple [.Name x px, .Name y py] kt pt] (.Tuple [a, b] k2 pt2) pos) (rdS X.K (sPar i j fs)) := by
  refine ps_imp (ps_par hc hN hi hj hij hx hy ha hw hs) fun D σ H ⟨ρ, G, I, h⟩ => ?_
  refine rdA_of I ?_
  unfold rdSK sPar at h
  unfold rdAK
  cases q : fs ρ with
  | ex _ _ => rw [q] at h; exact h
  | no => rw [q] at h; exact h
  | ok p =>
    obtain ⟨ds, ρ1⟩ := p
    rw [q] at h
    dsimp only [Rz.bind] at h ⊢
    intro vs H1 G1 s1 I1 r1
    match ds, h, r1 with
    | [d1, d2], h, r1 =>
      obtain ⟨v1, v2, rfl, q1, q2⟩ := reps2 r1
      by_cases z : isIo ρ1 i = true ∨ isIo ρ1 j = true ∨ i = j
      · dsimp only at h; rw [if_pos z] at h; exact h.elim
      · dsimp only at h; rw [if_neg z] at h
        simp only [not_or] at z
        have z2 : isIo (ρ1.set i (some (.dat d1))) j = false := by
          have := z.2.1
          unfold isIo at this ⊢
          rw [List.getElem?_set_ne z.2.2]
          simpa using this
        exact ⟨v1, v2, rfl, h _ H1 G1 (s1.trans ((Stp.set (by simpa using z.1)).trans (Stp.set z2))) ((I1.set q1).set q2)⟩
    | [], h, _ => exact h.elim
    | [_], h, _ => exact h.elim
    | _ :: _ :: _ :: _, h, _ => exact h.elim
theorem ds_aug (i : Nat) {x : Str} {op : D → D → Option D} {o : Operator} {ti : TIp} {pos' : Pos} (hd : IpD X.K ti op) (ho : PIp X o ti) (he : PE X e (rd X.K fe)) (hN : X.N.Nodup) (hi : X.N[i]? = some x := by rfl) (hx : Loc X.env.scope x := by first | exact .inl rfl | exact .inr rfl)
    (hf : X.fn x = true ∨ X.env.scope.names.lookup x = some .local := by first | exact .inl rfl | exact .inr rfl | assumption) : PS X (.AugAssign (.Name x pos') o e pos) (rdS X.K (sAug i op fe)) := by
  refine ps_imp (ps_aug hN hi hx he ho hf) fun D σ H ⟨ρ, G, I, h⟩ => ?_
  unfold rdSK sAug at h
  split at h
  · rename_i d0 e3
    have hl : i < σ.length := by
      rw [← I.len]
      exact (List.getElem?_eq_some_iff.mp e3).1
    obtain ⟨v, e2, r⟩ := I.slot i _ _ e3 (List.getElem?_eq_getElem hl)
    refine ⟨v, by rw [List.getElem?_eq_getElem hl, e2], ?_⟩
    refine rd_of I (rdK_mono (rdSK_bnd (σ := σ) (ρ := ρ) (G := G) (H := H) (Dn := D) h) fun u H1 ⟨d1, ρ1, G1, s1, I1, r1, h1⟩ => ?_)
    unfold rdSK at h1
    dsimp only at h1
    cases eo : op d0 d1 with
    | none => rw [eo] at h1; exact h1.elim
    | some z =>
      rw [eo] at h1
      dsimp only at h1
      refine hd G1 H1 d0 d1 z v u _ I1.sub (Rep.mono s1.sub _ _ r) r1 eo fun w H2 G2 P2 r2 => ?_
      by_cases q : isIo ρ1 i = true
      · rw [if_pos q] at h1; exact h1.elim
      · rw [if_neg q] at h1
        exact h1 _ H2 G2 (P2.stp.trans (Stp.set (by simpa using q))) ((I1.pure P2).set r2)
  · exact h.elim
theorem ip_of {o : Operator} {r : R2} {ti : TIp} {op : D → D → Option D} (hd : OpD X.K r op) (h : ∀ v1 v2 H Q, r v1 v2 H Q → ti v1 v2 H Q) : IpD X.K ti op := fun G H d1 d2 d v1 v2 Q s r1 r2 e q => h _ _ _ _ (hd G H d1 d2 d v1 v2 Q s r1 r2 e q)
end

/-! ### tuple(x), list(x) -/
def tupD : D → Option D
  | .tup ds => some (.tup ds)
  | .lst ds => some (.tup ds)
  | .scr ns => some (.tup (ns.map D.int))
  | _ => none
def lstD : List D → Option D
  | [.tup ds] => some (.lst ds)
  | [.lst ds] => some (.lst ds)
  | [.scr ns] => some (.lst (ns.map D.int))
  | _ => none
section
variable {K : PySem.W.Frag}
theorem ud_tup : UnD K (kTup K) tupD := by
  intro G H d1 d v1 Q s r1 e q
  unfold tupD at e
  split at e
  · cases e
    have r0 := r1
    simp only [Rep] at r1
    obtain ⟨a, vs, rfl, h1, q1⟩ := r1
    exact .inr ⟨a, vs, rfl, SqT.mono s h1, q _ H G (PStp.refl s) r0⟩
  · simp only [Rep] at r1
    obtain ⟨a, vs, rfl, h1, q1⟩ := r1
    cases e
    exact .inl ⟨a, vs, rfl, SqL.of (s _ _ h1), fun p hp => q _ _ _ (PStp.laid s hp) (Rep.tup_new (s.free hp) q1)⟩
  · simp only [Rep] at r1
    obtain ⟨a, rfl, h1⟩ := r1
    cases e
    exact .inl ⟨a, _, rfl, SqL.mono s h1, fun p hp => q _ _ _ (PStp.laid s hp) (Rep.tup_new (s.free hp) (Reps.of_ints _))⟩
  · cases e
theorem cd_list : CallD K (fun xs H Q => ∃ p ys, xs = [.ref p] ∧ (SqL K H p ys ∨ SqT K H p ys) ∧ ∀ l, H l = none → Q (.ref l) (upd H l (.lst ys))) lstD := by
  intro G H ds d vs Q s r e q
  unfold lstD at e
  split at e
  · obtain ⟨v, rfl, r1⟩ := reps1 r
    simp only [Rep] at r1
    obtain ⟨a, us, rfl, h1, q1⟩ := r1
    cases e
    exact ⟨a, us, rfl, .inr (SqT.mono s h1), fun p hp => q _ _ _ (PStp.laid s hp) (Rep.lst_new (s.free hp) q1)⟩
  · obtain ⟨v, rfl, r1⟩ := reps1 r
    simp only [Rep] at r1
    obtain ⟨a, us, rfl, h1, q1⟩ := r1
    cases e
    exact ⟨a, us, rfl, .inl (SqL.of (s _ _ h1)), fun p hp => q _ _ _ (PStp.laid s hp) (Rep.lst_new (s.free hp) q1)⟩
  · obtain ⟨v, rfl, r1⟩ := reps1 r
    simp only [Rep] at r1
    obtain ⟨a, rfl, h1⟩ := r1
    cases e
    exact ⟨a, _, rfl, .inl (SqL.mono s h1), fun p hp => q _ _ _ (PStp.laid s hp) (Rep.lst_new (s.free hp) (Reps.of_ints _))⟩
  · cases e
theorem reps_rg {G : Hp} (a b : Int) : Reps K G (rgD a (b - a).toNat) (rgV a b) := by
  unfold rgD rgV
  generalize List.range (b - a).toNat = l
  induction l with
  | nil => exact Reps.nil
  | cons x l ih => exact Reps.cons (rep_int _) ih
end
def rgOk (a b : Int) : Bool := small62 a && small62 b && Nat.ble (b - a).toNat 16777216
def rgPr : List D → Option (Int × Int) | [.int n] => some (0, n) | [.int a, .int b] => some (a, b) | _ => none
/-- tuple(range(..)), list(range(..)) -/
def eRgT (f : FA) : FE := bndA f fun ds => fun ρ => match rgPr ds with | some (a, b) => if rgOk a b = true then .ok (.tup (rgD a (b - a).toNat), ρ) else .no | none => .no
def eRgL (f : FA) : FE := bndA f fun ds => fun ρ => match rgPr ds with | some (a, b) => if rgOk a b = true then .ok (.lst (rgD a (b - a).toNat), ρ) else .no | none => .no
theorem rgOk_of {a b : Int} (h : rgOk a b = true) : RgOk a b := by
  simp only [rgOk, Bool.and_eq_true, small62_iff, Nat.ble_eq] at h
  exact ⟨h.1.1.1, h.1.1.2, h.1.2.1, h.1.2.2, h.2⟩
section
variable {X : Cx} {a b : Expr} {fa fb : FE} {pos p rp rpos : Pos}
theorem de_tuple (ha : PE X a (rd X.K fa)) (hg : Gl X "tuple") (hm : X.mg "tuple" = none) (na : starEach [a] X.env = (false, eval a X.env) :: starEach [] X.env := by rfl) : PE X (.Call (.Name "tuple" p) [a] [] pos) (rd X.K (e1 tupD fa)) :=
  pe_imp (pe_tupleOf hg hm ha na) (rd_1 ud_tup)
theorem rd_r1 {k : Int → Int → Hp → Prop} {ρ : Rho} {G H : Hp} {σ : L2.St} (I : SR X.K G H σ ρ) (h : rdAK X.K (aCons fa aNil) σ ρ G H fun vs H1 => ∃ n, vs = [.int n] ∧ k 0 n H1) : tRg1 (rd X.K fa) σ H k := by
  refine rd_of I ?_
  unfold rdAK aCons aNil at h
  unfold rdK
  cases e : fa ρ with
  | ex _ _ => rw [e] at h; exact h
  | no => rw [e] at h; exact h
  | ok p =>
    obtain ⟨d, ρ1⟩ := p
    rw [e] at h
    dsimp only [Rz.bind] at h ⊢
    intro v H1 G1 s1 I1 r1
    obtain ⟨n, e1, q⟩ := h [v] H1 G1 s1 I1 (Reps.cons r1 Reps.nil)
    cases e1
    exact ⟨n, rfl, q⟩
theorem rd_r2 {k : Int → Int → Hp → Prop} {ρ : Rho} {G H : Hp} {σ : L2.St} (I : SR X.K G H σ ρ) (h : rdAK X.K (aCons fa (aCons fb aNil)) σ ρ G H fun vs H1 => ∃ m n, vs = [.int m, .int n] ∧ k m n H1) : tRg2 (rd X.K fa) (rd X.K fb) σ H k := by
  refine rd_of I ?_
  unfold rdAK aCons at h
  unfold rdK
  cases e : fa ρ with
  | ex _ _ => rw [e] at h; exact h
  | no => rw [e] at h; exact h
  | ok p =>
    obtain ⟨d, ρ1⟩ := p
    rw [e] at h
    dsimp only [Rz.bind] at h ⊢
    intro v H1 G1 s1 I1 r1
    refine rd_of I1 ?_
    unfold aNil at h
    unfold rdK
    cases e2 : fb ρ1 with
    | ex _ _ => rw [e2] at h; exact h
    | no => rw [e2] at h; exact h
    | ok p2 =>
      obtain ⟨d2, ρ2⟩ := p2
      rw [e2] at h
      dsimp only [Rz.bind] at h ⊢
      intro u H2 G2 s2 I2 r2
      obtain ⟨m, n, e1, q⟩ := h [v, u] H2 G2 (s1.trans s2) I2 (Reps.cons (Rep.mono s2.sub _ _ r1) (Reps.cons r2 Reps.nil))
      cases e1
      exact ⟨m, n, rfl, rfl, q⟩
theorem rd_rgT {f : FA} {σ : L2.St} {ρ : Rho} {G H : Hp} {Q : VK} (I : SR X.K G H σ ρ) (h : rdK X.K (eRgT f) σ ρ G H Q) : rdAK X.K f σ ρ G H fun vs H1 => ∃ ds a b, rgPr ds = some (a, b) ∧ RgOk a b ∧ (∀ G1, Reps X.K G1 ds vs → True) ∧ (∃ G1, Reps X.K G1 ds vs) ∧ ∀ q, H1 q = none → Q (.ref q) (upd H1 q (.tup (rgV a b))) := by
  refine rdAK_mono (rdK_bndA h) fun vs H1 ⟨ds, ρ1, G1, s1, I1, r1, h1⟩ => ?_
  unfold rdK at h1
  dsimp only at h1
  cases e : rgPr ds with
  | none => rw [e] at h1; exact h1.elim
  | some p =>
    obtain ⟨a, b⟩ := p
    rw [e] at h1
    dsimp only at h1
    by_cases z : rgOk a b = true
    · rw [if_pos z] at h1
      exact ⟨ds, a, b, e, rgOk_of z, fun _ _ => trivial, ⟨G1, r1⟩, fun q hq => h1 _ _ _ (PStp.laid I1.sub hq).stp (I1.pure (PStp.laid I1.sub hq)) (Rep.tup_new (I1.sub.free hq) (reps_rg a b))⟩
    · rw [if_neg z] at h1; exact h1.elim
theorem rd_rgL {f : FA} {σ : L2.St} {ρ : Rho} {G H : Hp} {Q : VK} (I : SR X.K G H σ ρ) (h : rdK X.K (eRgL f) σ ρ G H Q) : rdAK X.K f σ ρ G H fun vs H1 => ∃ ds a b, rgPr ds = some (a, b) ∧ RgOk a b ∧ (∀ G1, Reps X.K G1 ds vs → True) ∧ (∃ G1, Reps X.K G1 ds vs) ∧ ∀ q, H1 q = none → Q (.ref q) (upd H1 q (.lst (rgV a b))) := by
  refine rdAK_mono (rdK_bndA h) fun vs H1 ⟨ds, ρ1, G1, s1, I1, r1, h1⟩ => ?_
  unfold rdK at h1
  dsimp only at h1
  cases e : rgPr ds with
  | none => rw [e] at h1; exact h1.elim
  | some p =>
    obtain ⟨a, b⟩ := p
    rw [e] at h1
    dsimp only at h1
    by_cases z : rgOk a b = true
    · rw [if_pos z] at h1
      exact ⟨ds, a, b, e, rgOk_of z, fun _ _ => trivial, ⟨G1, r1⟩, fun q hq => h1 _ _ _ (PStp.laid I1.sub hq).stp (I1.pure (PStp.laid I1.sub hq)) (Rep.lst_new (I1.sub.free hq) (reps_rg a b))⟩
    · rw [if_neg z] at h1; exact h1.elim
theorem rgPr1 {K : PySem.W.Frag} {G : Hp} {d : D} {v : V} {a b : Int} (r : Reps K G [d] [v]) (e : rgPr [d] = some (a, b)) : a = 0 ∧ v = .int b := by
  unfold rgPr at e
  split at e
  · rename_i h
    cases h; cases e
    obtain ⟨v', h1, r1⟩ := reps1 r
    cases h1
    simp only [Rep] at r1
    exact ⟨rfl, r1⟩
  · rename_i h; cases h
  · cases e
theorem rgPr_len1 {K : PySem.W.Frag} {G : Hp} {ds : List D} {v : V} {a b : Int} (r : Reps K G ds [v]) (e : rgPr ds = some (a, b)) : a = 0 ∧ v = .int b := by
  match ds, r, e with
  | [d], r, e => exact rgPr1 r e
  | [], r, e => cases e
  | [_, _], r, e => simp only [Reps] at r; obtain ⟨_, _, h, _, _, _, h2, _⟩ := r; cases h; cases h2
  | _ :: _ :: _ :: _, r, e => have := r.length; simp at this
theorem rgPr_len2 {K : PySem.W.Frag} {G : Hp} {ds : List D} {v u : V} {a b : Int} (r : Reps K G ds [v, u]) (e : rgPr ds = some (a, b)) : v = .int a ∧ u = .int b := by
  unfold rgPr at e
  split at e
  · simp only [Reps] at r; obtain ⟨_, _, h, _, h2⟩ := r; cases h; cases h2
  · cases e
    obtain ⟨v', u', h, r1, r2⟩ := reps2 r
    cases h
    simp only [Rep] at r1 r2
    exact ⟨r1, r2⟩
  · cases e
theorem len_1 {f : FA} {K : PySem.W.Frag} {σ : L2.St} {ρ : Rho} {G H : Hp} {Q : List V → Hp → Prop} (h : rdAK K (aCons fa aNil) σ ρ G H Q) : rdAK K (aCons fa aNil) σ ρ G H fun vs H1 => (∃ v, vs = [v]) ∧ Q vs H1 := by
  unfold rdAK aCons aNil at h ⊢
  cases e : fa ρ with
  | ex _ _ => rw [e] at h; exact h
  | no => rw [e] at h; exact h
  | ok p =>
    obtain ⟨d, ρ1⟩ := p
    rw [e] at h
    dsimp only [Rz.bind] at h ⊢
    intro vs H1 G1 s1 I1 r1
    obtain ⟨v, e1, _⟩ := reps1 r1
    exact ⟨⟨v, e1⟩, h vs H1 G1 s1 I1 r1⟩
theorem len_2 {K : PySem.W.Frag} {σ : L2.St} {ρ : Rho} {G H : Hp} {Q : List V → Hp → Prop} (h : rdAK K (aCons fa (aCons fb aNil)) σ ρ G H Q) : rdAK K (aCons fa (aCons fb aNil)) σ ρ G H fun vs H1 => (∃ v u, vs = [v, u]) ∧ Q vs H1 := by
  unfold rdAK aCons at h ⊢
  cases e : fa ρ with
  | ex _ _ => rw [e] at h; exact h
  | no => rw [e] at h; exact h
  | ok p =>
    obtain ⟨d, ρ1⟩ := p
    rw [e] at h
    unfold aNil at h ⊢
    dsimp only [Rz.bind] at h ⊢
    cases e2 : fb ρ1 with
    | ex _ _ => rw [e2] at h; exact h
    | no => rw [e2] at h; exact h
    | ok p2 =>
      obtain ⟨d2, ρ2⟩ := p2
      rw [e2] at h
      dsimp only at h ⊢
      intro vs H1 G1 s1 I1 r1
      obtain ⟨v, u, e1, _⟩ := reps2 r1
      exact ⟨⟨v, u, e1⟩, h vs H1 G1 s1 I1 r1⟩
theorem de_tupRg1 (ha : PE X a (rd X.K fa)) (hc : X.calm = true) (hg : Gl X "tuple") (hm : X.mg "tuple" = none) (hg2 : Gl X "range") (hm2 : X.mg "range" = none) (na2 : starEach [a] X.env = (false, eval a X.env) :: starEach [] X.env := by rfl)
    (na : starEach [.Call (.Name "range" rp) [a] [] rpos] X.env = (false, eval (.Call (.Name "range" rp) [a] [] rpos) X.env) :: starEach [] X.env := by rfl) :
    PE X (.Call (.Name "tuple" p) [.Call (.Name "range" rp) [a] [] rpos] [] pos) (rd X.K (eRgT (aCons fa aNil))) := by
  refine pe_imp (pe_tupRg hc hg hm (prg_1 hg2 hm2 ha na2) na) fun σ H Q ⟨ρ, G, I, h⟩ => ?_
  refine rd_r1 I (rdAK_mono (len_1 (f := aNil) (rd_rgT I h)) fun vs H1 ⟨⟨v, e1⟩, ds, a, b, e2, ok, _, ⟨G1, r1⟩, q⟩ => ?_)
  subst e1
  obtain ⟨rfl, rfl⟩ := rgPr_len1 r1 e2
  exact ⟨b, rfl, ok, q⟩
theorem de_tupRg2 (ha : PE X a (rd X.K fa)) (hb : PE X b (rd X.K fb)) (hc : X.calm = true) (hg : Gl X "tuple") (hm : X.mg "tuple" = none) (hg2 : Gl X "range") (hm2 : X.mg "range" = none)
    (na2 : starEach [a, b] X.env = (false, eval a X.env) :: starEach [b] X.env := by rfl) (nb : starEach [b] X.env = (false, eval b X.env) :: starEach [] X.env := by rfl) (hp : (backTo rpos (starEach [b] X.env)).any (·.1) = false := by rfl)
    (na : starEach [.Call (.Name "range" rp) [a, b] [] rpos] X.env = (false, eval (.Call (.Name "range" rp) [a, b] [] rpos) X.env) :: starEach [] X.env := by rfl) :
    PE X (.Call (.Name "tuple" p) [.Call (.Name "range" rp) [a, b] [] rpos] [] pos) (rd X.K (eRgT (aCons fa (aCons fb aNil)))) := by
  refine pe_imp (pe_tupRg hc hg hm (prg_2 hg2 hm2 ha hb na2 nb hp) na) fun σ H Q ⟨ρ, G, I, h⟩ => ?_
  refine rd_r2 I (rdAK_mono (len_2 (rd_rgT I h)) fun vs H1 ⟨⟨v, u, e1⟩, ds, a, b, e2, ok, _, ⟨G1, r1⟩, q⟩ => ?_)
  subst e1
  obtain ⟨rfl, rfl⟩ := rgPr_len2 r1 e2
  exact ⟨a, b, rfl, ok, q⟩
theorem de_lstRg1 (ha : PE X a (rd X.K fa)) (hc : X.calm = true) (hg : Gl X "list") (hm : X.mg "list" = none) (hg2 : Gl X "range") (hm2 : X.mg "range" = none) (na2 : starEach [a] X.env = (false, eval a X.env) :: starEach [] X.env := by rfl)
    (na : starEach [.Call (.Name "range" rp) [a] [] rpos] X.env = (false, eval (.Call (.Name "range" rp) [a] [] rpos) X.env) :: starEach [] X.env := by rfl) :
    PE X (.Call (.Name "list" p) [.Call (.Name "range" rp) [a] [] rpos] [] pos) (rd X.K (eRgL (aCons fa aNil))) := by
  refine pe_imp (pe_listRg hc hg hm (prg_1 hg2 hm2 ha na2) na) fun σ H Q ⟨ρ, G, I, h⟩ => ?_
  refine rd_r1 I (rdAK_mono (len_1 (f := aNil) (rd_rgL I h)) fun vs H1 ⟨⟨v, e1⟩, ds, a, b, e2, ok, _, ⟨G1, r1⟩, q⟩ => ?_)
  subst e1
  obtain ⟨rfl, rfl⟩ := rgPr_len1 r1 e2
  exact ⟨b, rfl, ok, q⟩
theorem de_lstRg2 (ha : PE X a (rd X.K fa)) (hb : PE X b (rd X.K fb)) (hc : X.calm = true) (hg : Gl X "list") (hm : X.mg "list" = none) (hg2 : Gl X "range") (hm2 : X.mg "range" = none)
    (na2 : starEach [a, b] X.env = (false, eval a X.env) :: starEach [b] X.env := by rfl) (nb : starEach [b] X.env = (false, eval b X.env) :: starEach [] X.env := by rfl) (hp : (backTo rpos (starEach [b] X.env)).any (·.1) = false := by rfl)
    (na : starEach [.Call (.Name "range" rp) [a, b] [] rpos] X.env = (false, eval (.Call (.Name "range" rp) [a, b] [] rpos) X.env) :: starEach [] X.env := by rfl) :
    PE X (.Call (.Name "list" p) [.Call (.Name "range" rp) [a, b] [] rpos] [] pos) (rd X.K (eRgL (aCons fa (aCons fb aNil)))) := by
  refine pe_imp (pe_listRg hc hg hm (prg_2 hg2 hm2 ha hb na2 nb hp) na) fun σ H Q ⟨ρ, G, I, h⟩ => ?_
  refine rd_r2 I (rdAK_mono (len_2 (rd_rgL I h)) fun vs H1 ⟨⟨v, u, e1⟩, ds, a, b, e2, ok, _, ⟨G1, r1⟩, q⟩ => ?_)
  subst e1
  obtain ⟨rfl, rfl⟩ := rgPr_len2 r1 e2
  exact ⟨a, b, rfl, ok, q⟩
/-! x[::-1] of a list -/
def revD : D → Option D | .lst ds => some (.lst ds.reverse) | .scr ns => some (.lst (ns.map D.int).reverse) | _ => none
theorem ud_rev {K : PySem.W.Frag} : UnD K (fun x H Q => ∃ a xs, x = .ref a ∧ SqL K H a xs ∧ ∀ p, H p = none → Q (.ref p) (upd H p (.lst xs.reverse))) revD := by
  intro G H d1 d v1 Q s r1 e q
  unfold revD at e
  split at e
  · simp only [Rep] at r1
    obtain ⟨a, vs, rfl, h1, q1⟩ := r1
    cases e
    exact ⟨a, vs, rfl, SqL.of (s _ _ h1), fun p hp => q _ _ _ (PStp.laid s hp) (Rep.lst_new (s.free hp) q1.reverse)⟩
  · simp only [Rep] at r1
    obtain ⟨a, rfl, h1⟩ := r1
    cases e
    exact ⟨a, _, rfl, SqL.mono s h1, fun p hp => q _ _ _ (PStp.laid s hp) (Rep.lst_new (s.free hp) (Reps.of_ints _).reverse)⟩
  · cases e
theorem de_rev {k : Nat} {p1 p2 p3 : Pos} (ha : PE X a (rd X.K fa)) : PE X (.Subscript a (.Slice none none (some (.UnaryOp .USub (.Constant (.int 1) k p1) p2)) p3) pos) (rd X.K (e1 revD fa)) :=
  pe_imp (pe_revL ha) (rd_1 ud_rev)
end
end M

namespace M
open PySem PySem.Spec PyProof.Rows L2
variable [Tabs]

/-! ### sorting -/
section
variable {α : Type} (le : α → α → Bool)
def insS (a : α) : List α → List α
  | [] => [a]
  | b :: l => if le a b = true then a :: b :: l else b :: insS a l
def isort : List α → List α
  | [] => []
  | a :: l => insS le a (isort l)
variable {le}
theorem insS_perm (a : α) : ∀ l, (insS le a l).Perm (a :: l)
  | [] => List.Perm.refl _
  | b :: l => by
    unfold insS
    split
    · exact List.Perm.refl _
    · exact ((insS_perm a l).cons b).trans (List.Perm.swap _ _ _)
theorem isort_perm : ∀ l, (isort le l).Perm l
  | [] => List.Perm.refl _
  | a :: l => (insS_perm a _).trans ((isort_perm l).cons a)
theorem insS_app (a : α) : ∀ (l1 l2 : List α), (∀ b ∈ l1, le a b = false) → (∀ b ∈ l2, le a b = true) → insS le a (l1 ++ l2) = l1 ++ a :: l2
  | [], [], _, _ => rfl
  | [], b :: l2, _, h => by
    show insS le a (b :: l2) = _
    unfold insS
    rw [if_pos (h b List.mem_cons_self)]
    rfl
  | b :: l1, l2, h1, h2 => by
    show insS le a (b :: (l1 ++ l2)) = _
    unfold insS
    rw [if_neg (by rw [h1 b List.mem_cons_self]; exact Bool.false_ne_true), insS_app a l1 l2 (fun c hc => h1 c (List.mem_cons_of_mem _ hc)) h2]
    rfl
theorem mergeSort_isort (tr : ∀ a b c, le a b = true → le b c = true → le a c = true) (to : ∀ a b, (le a b || le b a) = true) : ∀ l : List α, l.mergeSort le = isort le l
  | [] => by rw [List.mergeSort_nil]; rfl
  | a :: l => by
    obtain ⟨l1, l2, e1, e2, h⟩ := List.mergeSort_cons (le := le) tr to a l
    have srt := List.pairwise_mergeSort (le := le) tr to (a :: l)
    rw [e1] at srt ⊢
    unfold isort
    rw [← mergeSort_isort tr to l, e2, insS_app]
    · intro b hb
      have := h b hb
      simpa using this
    · intro b hb
      rw [List.pairwise_append] at srt
      exact (List.pairwise_cons.mp srt.2.1).1 b hb
end
theorem perm_sorted_eq : ∀ {l1 l2 : List Int}, l1.Perm l2 → l1.Pairwise (· ≤ ·) → l2.Pairwise (· ≤ ·) → l1 = l2
  | [], l2, p, _, _ => by rw [List.nil_perm.mp p]
  | a :: l1, [], p, _, _ => by have := p.length_eq; simp at this
  | a :: l1, b :: l2, p, h1, h2 => by
    obtain ⟨x1, y1⟩ := List.pairwise_cons.mp h1
    obtain ⟨x2, y2⟩ := List.pairwise_cons.mp h2
    have e : a = b := by
      have m1 : a ∈ b :: l2 := p.mem_iff.mp List.mem_cons_self
      have m2 : b ∈ a :: l1 := p.mem_iff.mpr List.mem_cons_self
      rcases List.mem_cons.mp m1 with e | m1
      · exact e
      rcases List.mem_cons.mp m2 with e | m2
      · exact e.symm
      have := x1 b m2
      have := x2 a m1
      omega
    subst e
    rw [perm_sorted_eq ((List.perm_cons a).mp p) y1 y2]
def leI (a b : Int) : Bool := decide (a ≤ b)
theorem insS_sorted (a : Int) : ∀ l : List Int, l.Pairwise (· ≤ ·) → (insS leI a l).Pairwise (· ≤ ·)
  | [], _ => by unfold insS; simp
  | b :: l, h => by
    obtain ⟨x, y⟩ := List.pairwise_cons.mp h
    unfold insS
    split
    · rename_i z
      have z : a ≤ b := of_decide_eq_true z
      refine List.pairwise_cons.mpr ⟨fun c hc => ?_, h⟩
      rcases List.mem_cons.mp hc with e | hc
      · rw [e]; exact z
      · exact Int.le_trans z (x c hc)
    · rename_i z
      have z : ¬ a ≤ b := fun q => z (decide_eq_true q)
      refine List.pairwise_cons.mpr ⟨fun c hc => ?_, insS_sorted a l y⟩
      rcases List.mem_cons.mp ((insS_perm a l).mem_iff.mp hc) with e | hc
      · rw [e]; omega
      · exact x c hc
theorem isort_sorted : ∀ l : List Int, (isort leI l).Pairwise (· ≤ ·)
  | [] => List.Pairwise.nil
  | a :: l => insS_sorted a _ (isort_sorted l)
def dedup : List Int → List Int
  | [] => []
  | a :: l => if (dedup l).contains a = true then dedup l else a :: dedup l
theorem dedup_mem {k : Int} : ∀ {l : List Int}, k ∈ dedup l ↔ k ∈ l
  | [] => Iff.rfl
  | a :: l => by
    unfold dedup
    split
    · rename_i h
      rw [dedup_mem, List.mem_cons]
      refine ⟨.inr, fun z => z.elim (fun e => ?_) id⟩
      rw [e]
      exact dedup_mem.mp (by simpa using h)
    · rw [List.mem_cons, List.mem_cons, dedup_mem]
theorem dedup_nodup : ∀ l : List Int, (dedup l).Nodup
  | [] => List.nodup_nil
  | a :: l => by
    unfold dedup
    split
    · exact dedup_nodup l
    · rename_i h
      exact List.nodup_cons.mpr ⟨by simpa using h, dedup_nodup l⟩
theorem set_sorted {out ns : List Int} (h : out.Pairwise (· < ·)) (m : ∀ k, k ∈ out ↔ k ∈ ns) : out = isort leI (dedup ns) := by
  have nd : out.Nodup := h.imp fun {a b} z e => by omega
  have nd2 : (isort leI (dedup ns)).Nodup := (isort_perm (le := leI) (dedup ns)).nodup_iff.mpr (dedup_nodup ns)
  refine perm_sorted_eq ((List.perm_ext_iff_of_nodup nd nd2).mpr fun k => ?_) (h.imp fun {a b} z => by omega) (isort_sorted _)
  rw [m k, (isort_perm (le := leI) (dedup ns)).mem_iff, dedup_mem]
/-! sorted(x), ints, bools -/
def leB (a b : Bool) : Bool := !a || b
def sortedD : List D → Option D
  | [.lst ds] => (match asInts ds with
    | some ns => some (.lst ((isort leI ns).map D.int))
    | none => (match asBools ds with | some bs => some (.lst ((isort leB bs).map D.bl)) | none => none))
  | _ => none
def rSortB (K : PySem.W.Frag) : List V → Hp → VK → Prop := fun vs H Q => ∃ (a : Addr) (bs : List Bool), vs = [V.ref a] ∧ SqL K H a (bs.map V.bl) ∧ ∀ p, H p = none → Q (.ref p) (upd H p (.lst ((isort leB bs).map V.bl)))
section
variable {X : Cx}
theorem vals_bools : ∀ {bs : List Bool} {us : List Value}, Vals (bs.map V.bl) us → PySem.W.EachIs (fun u b => u = .bool b) us bs
  | [], us, r => by cases r; exact .nil
  | b :: bs, us, r => by
    cases r with
    | cons h t => exact .cons h (vals_bools t)
theorem bools_vals : ∀ {bs : List Bool} {us : List Value}, PySem.W.EachIs (fun u b => u = .bool b) us bs → Vals (bs.map V.bl) us
  | _, _, .nil => .nil
  | _, _, .cons h t => .cons h (bools_vals t)
theorem dataLe_bool : PySem.W.dataLe false PyData.bool = leB := by
  funext a b
  cases a <;> cases b <;> decide +kernel
theorem cr_sortedB (hu : X.A.units + 2 < cLine) : CallR X (.builtin "sorted") (rSortB X.K) := by
  intro pins s σ H vs us Q I r h
  obtain ⟨a, bs, rfl, hs, q⟩ := h
  obtain ⟨its, rv, hl, hz⟩ := I.list hs
  rw [Vals.ref1 r]
  have e := vals_bools rv
  have hL : bs.length ≤ sizeLine := by rw [List.length_map] at hz; exact hz
  refine PySem.W.sorted_data (R := fun u b => u = .bool b) (enc := PyData.bool) hl.isList e (e.mono fun u b h => ⟨[], by rw [h]; exact .bool _⟩) (PySem.W.AllAlike.of fun _ _ => rfl) (PySem.W.Sortable.others fun b => ⟨fun z => (by cases z), fun _ z => (by cases z)⟩) hL
    (fun b _ => by show X.A.units + 2 + 0 < cLine; omega) fun out ho eo => ?_
  rw [dataLe_bool, mergeSort_isort (by decide) (by decide)] at eo
  have ev := bools_vals eo
  obtain ⟨ep, he'⟩ := PyProof.Rows.sortedAll_at s.heap its out.toArray
  have hlen : ((isort leB bs).map V.bl).length ≤ sizeLine := by rw [List.length_map, (isort_perm bs).length_eq]; exact hL
  exact ⟨.ref _, upd H (s.heap.objs.size + 1) (.lst ((isort leB bs).map V.bl)), I.laid (t' := s.toks) (fun _ _ => PyProof.Rows.sortedAll_old) (Nat.le_succ _) ⟨hlen, out, ep, ev, he'⟩, rfl, q _ (I.hok.fresh (Nat.le_succ _))⟩
theorem Reps.of_bools {K : PySem.W.Frag} {G : Hp} : ∀ (ns : List Bool), Reps K G (ns.map D.bl) (ns.map V.bl)
  | [] => Reps.nil
  | n :: ns => Reps.cons (rep_bl _) (Reps.of_bools ns)
def rSortA (K : PySem.W.Frag) : List V → Hp → VK → Prop := fun vs H Q => rSortedI K vs H Q ∨ rSortB K vs H Q
theorem cr_sortedA (hu : X.A.units + 2 < cLine) : CallR X (.builtin "sorted") (rSortA X.K) := by
  intro pins s σ H vs us Q I r h
  exact h.elim (cr_sortedI pins s σ H vs us Q I r) (cr_sortedB hu pins s σ H vs us Q I r)
theorem cd_sorted {K : PySem.W.Frag} : CallD K (rSortA K) sortedD := by
  intro G H ds d vs Q s r e q
  unfold sortedD at e
  split at e
  · rename_i ds'
    obtain ⟨v, rfl, r1⟩ := reps1 r
    simp only [Rep] at r1
    obtain ⟨a, us, rfl, h1, q1⟩ := r1
    cases h : asInts ds' with
    | some ns =>
      rw [h] at e; cases e
      rw [asInts_eq h] at q1
      rw [q1.ints] at h1
      refine .inl ⟨a, ns, rfl, SqL.of (s _ _ h1), fun ns' p hp hs hn => ?_⟩
      have e2 : ns' = isort leI ns := perm_sorted_eq (hp.trans (isort_perm ns).symm) hs (isort_sorted ns)
      subst e2
      exact q _ _ _ (PStp.laid s hn) (Rep.lst_new (s.free hn) (Reps.of_ints _))
    | none =>
      rw [h] at e
      dsimp only at e
      cases h2 : asBools ds' with
      | none => rw [h2] at e; cases e
      | some bs =>
        rw [h2] at e; cases e
        rw [asBools_eq h2] at q1
        rw [q1.bools] at h1
        exact .inr ⟨a, bs, rfl, SqL.of (s _ _ h1), fun p hn => q _ _ _ (PStp.laid s hn) (Rep.lst_new (s.free hn) (Reps.of_bools _))⟩
  · cases e
/-! sorted(set(x)), x a tuple of ints -/
def rSetT (K : PySem.W.Frag) (w : World) : List V → Hp → VK → Prop := fun vs H Q => ∃ (a : Addr) (ns : List Int), vs = [.ref a] ∧ SqT K H a (ns.map V.int) ∧ ns.length < 64 ∧ ∀ p c, H p = none → c ≤ ns.length → Q (.ref p) (upd H p (SetO w p (fun j => decide (j ∈ ns)) c))
theorem cr_setT (hc : X.calm = true) : CallR X (.type "set") (rSetT X.K X.w) := by
  intro pins s σ H vs us Q I r h
  obtain ⟨a, ns, rfl, hq, hz, q⟩ := h
  obtain ⟨its, rv, pt, _⟩ := I.tuple hq
  rw [Vals.ref1 r]
  have hi : IntsAre its.toArray.toList ns := by
    have := rv.ints
    simpa using this
  refine call_set_tupI ns (I.ok.hd hc) (show s.heap.IsTuple a its.toArray from pt) hi (by unfold scanBound; omega) fun h' tk c R1 hcn k => ?_
  exact ⟨.ref s.heap.objs.size, _, I.laid (t' := tk) k (Nat.le_refl _) (setO_new R1), rfl, q _ c (I.hok.fresh (Nat.le_refl _)) hcn⟩
def sortSetD : D → Option D
  | .tup ds => (match asInts ds with | some ns => if ns.length < 64 then some (.lst ((isort leI (dedup ns)).map D.int)) else none | none => none)
  | _ => none

theorem de_sortSet {a : Expr} {fa : FE} {p p2 pos pos2 : Pos} (ha : PE X a (rd X.K fa)) (hc : X.calm = true) (hg : Gl X "sorted") (hm : X.mg "sorted" = none) (hg2 : Gl X "set") (hm2 : X.mg "set" = none)
    (na : starEach [a] X.env = (false, eval a X.env) :: starEach [] X.env := by rfl) (na2 : starEach [.Call (.Name "set" p2) [a] [] pos2] X.env = (false, eval (.Call (.Name "set" p2) [a] [] pos2) X.env) :: starEach [] X.env := by rfl) :
    PE X (.Call (.Name "sorted" p) [.Call (.Name "set" p2) [a] [] pos2] [] pos) (rd X.K (e1 sortSetD fa)) := by
  refine pe_imp (pe_callB (cr_sortedSet hc) hg hm PyProof.Rows.boot_sorted (pa_cons (pe_callTy (cr_setT hc) hg2 hm2 PyProof.Rows.boot_set (pa_cons ha pa_nil na) (by decide) (by decide) na) pa_nil na2) (by decide) (by decide) na2) fun σ H Q ⟨ρ, G, I, h⟩ => ?_
  refine rd_of I (rdK_mono (rdK_bnd h) fun v H1 ⟨d1, ρ1, G1, s1, I1, r1, h1⟩ => ?_)
  obtain ⟨d, e, q⟩ := rdK_ofO h1 I1
  unfold sortSetD at e
  split at e
  · rename_i ds
    cases ha : asInts ds with
    | none => rw [ha] at e; cases e
    | some ns =>
      rw [ha] at e
      dsimp only at e
      by_cases z : ns.length < 64
      · rw [if_pos z] at e
        cases e
        simp only [Rep] at r1
        obtain ⟨a, vs, rfl, h2, q2⟩ := r1
        rw [asInts_eq ha] at q2
        rw [q2.ints] at h2
        refine ⟨a, ns, rfl, SqT.mono I1.sub h2, z, fun p c hp hcn => ?_⟩
        refine ⟨p, _, c, rfl, upd_same, by omega, fun out p2 hs hm hl hn => ?_⟩
        have eo : out = isort leI (dedup ns) := set_sorted hs fun k => by rw [hm k, decide_eq_true_eq]
        subst eo
        have n2 : H1 p2 = none := by
          by_cases y : p2 = p
          · subst y; exact hp
          · rw [upd_ne y] at hn; exact hn
        have n3 : p2 ≠ p := fun y => by subst y; rw [upd_same] at hn; cases hn
        refine q _ _ (upd G1 p2 (.lst ((isort leI (dedup ns)).map V.int))) ⟨same_upd (I1.sub.free n2), fun a ha => upd_ne fun y => ha (by rw [y]; exact n2), fun a o y _ => ?_, fun a ps y => ⟨ps, ?_, id, fun _ _ t => t.ext fun b o y => by rw [upd_ne (ne_of_none y n2), upd_ne (ne_of_none y hp)]; exact y⟩, fun a o y => ?_⟩ (Rep.lst_new (I1.sub.free n2) (Reps.of_ints _))
        · rw [upd_ne (ne_of_none y n2), upd_ne (ne_of_none y hp)]; exact y
        · rw [upd_ne (ne_of_none y n2), upd_ne (ne_of_none y hp)]; exact y
        · by_cases w1 : a = p2
          · subst w1; rw [upd_same] at y ⊢; exact y
          · rw [upd_ne w1] at y ⊢
            have y2 := I1.sub a o y
            rw [upd_ne (ne_of_none y2 hp)]; exact y2
      · rw [if_neg z] at e; cases e
  · cases e
end
end M

namespace M
open PySem PySem.Spec PyProof.Rows L2
open Sem (wp)
variable [Tabs]

/-! ### next(elt for target in iter if test, default) -/
/-- the context of a generator expression's frame -/
abbrev genX (X : Cx) (s : Shared) (H : Hp) (cenv : Env) (fp : List Addr) (A' : Around) : Cx :=
  { X with A := A', s_0 := s, H_0 := H, env := cenv, outer := X.stack, stack := cenv :: X.stack, ex := fp, fn := fun _ => false, pn := [], xe := fun _ _ => False }
section
variable {X : Cx} {pins : List (Addr × Obj)} {σ : L2.St} {H H5 : Hp} {s s5 : Shared}
theorem gen_start {scope : Scope} {own : List (Str × Nat)} {fp : List Addr} {C bi : Addr} {code : Value} {A' : Around} {m0 : Str → Option Value} (I : Inv X pins σ H s) (I5 : Inv X pins σ H5 s5) (ok : BlkOk X.N X.env.scope scope own) (hN : X.N.Nodup)
    (hcell : ∀ y ∈ scope.names, y.2 ≠ .cell) (hfp : ∀ b ∈ fp, FpOk X pins H b ∧ b < s.heap.objs.size) (hC : s.heap.objs.size ≤ C) (hns : s5.heap.Ns C m0) (hCf : H5 C = none) (un : Un (frs X.stack) fp H H5 s.heap s5.heap)
    (hbi : bi = builtinsNs) (hh : A'.handled = none) (hfr : A'.frames = some (genEnv scope (cloFrom X.env.cells scope.names []) C code bi X.env :: X.stack)) :
    Inv (genX X s H (genEnv scope (cloFrom X.env.cells scope.names []) C code bi X.env) fp A') [] (wipe σ (own.map (·.2))) H5 s5 := by
  have hfree : ∀ y ∈ scope.names, y.2 = .free → ∃ c, X.env.cells.lookup y.1 = some c := fun y hy e => by
    rcases ok.free y hy e with k | k
    · exact I.ok.has _ (.inl k)
    · exact I.ok.has _ (.inr k)
  have cm : ∀ {y c}, (y, c) ∈ cloFrom X.env.cells scope.names [] → X.env.cells.lookup y = some c ∧ c < s.heap.objs.size ∧ (y, NameKind.free) ∈ scope.names := fun {y c} hm => by
    rcases cloFrom_mem hm with hm | ⟨h1, rfl⟩
    · cases hm
    · obtain ⟨c, hc⟩ := hfree _ h1 rfl
      rw [hc]
      obtain ⟨w, z⟩ := I.cell _ _ hc
      exact ⟨rfl, z.lt, h1⟩
  have mem : ∀ {y c}, (cloFrom X.env.cells scope.names []).lookup y = some c → X.env.cells.lookup y = some c ∧ c < s.heap.objs.size ∧ (y, NameKind.free) ∈ scope.names := fun {y c} e => cm (PySem.mem_of_lookup e)
  have look : ∀ {y}, scope.names.lookup y = some .free → ∃ c, (cloFrom X.env.cells scope.names []).lookup y = some c ∧ X.env.cells.lookup y = some c := fun {y} hl => by
    have hy : (y, NameKind.free) ∈ scope.names := PySem.mem_of_lookup hl
    obtain ⟨c', e'⟩ := mem_lookup (cloFrom_has (cells := X.env.cells) (acc := []) hy)
    exact ⟨c', e', (mem e').1⟩
  have okG : (genX X s H (genEnv scope (cloFrom X.env.cells scope.names []) C code bi X.env) fp A').Ok := by
    refine ⟨I.ok.mod, ok.kind, I.ok.glob, hbi, hC, fun y z c e1 e2 => I.ok.inj y z c (mem e1).1 (mem e2).1, fun y hy => ?_, fun y c z e => (by cases z), fun _ => hh, hfr, .inr ⟨rfl, rfl⟩, fun b hb => ⟨?_, fun y c e z => ?_⟩, I.bs, Nat.le_trans I.ok.bsz I.sz, fun b o e hb => ?_, fun b hb z => ?_, I.stack, I.stkFree⟩
    · rcases hy with hy | hy
      · exact absurd rfl (hcell _ (PySem.mem_of_lookup (show scope.names.lookup y = some .cell from hy)))
      · obtain ⟨c, h1, _⟩ := look (show scope.names.lookup y = some .free from hy)
        exact ⟨c, h1⟩
    · show b ≠ C
      exact Nat.ne_of_lt (Nat.lt_of_lt_of_le (hfp b hb).2 hC)
    · exact (hfp b hb).1.2.2.2.2.1 y c (mem e).1 z
    · rcases (hfp b hb).1.2.2.2.1 with z | z
      · exact I.ok.noex b o e z
      · exact absurd (Nat.lt_of_lt_of_le (Heap.lt_size e) (Nat.le_trans I.ok.bsz z)) (Nat.lt_irrefl _)
    · rcases List.mem_cons.mp (I.stkSub b z) with z | z
      · exact (hfp b hb).1.2.1 z
      · exact (hfp b hb).1.2.2.1 z
  refine ⟨okG, I5.os.trans I.os.symm, I5.bare, un, ⟨m0, hns, fun i y av e1 e2 e3 => ?_⟩, fun y c e => I5.cell y c (mem e).1, hCf, fun y c e => I5.freeC y c (mem e).1, fun p hp => absurd (show p ∈ ([] : List (Addr × Obj)) ++ [] from hp) (by simp), I5.hok, by rw [wipe_length]; exact I5.len⟩
  obtain ⟨e2, hne⟩ := wipe_some e2
  have hfr : scope.names.lookup y = some .free := by
    have no : ∀ k, scope.names.lookup y = some k → ¬ (k = .local ∨ k = .cell) := fun k e hh => by
      rcases ok.own _ (PySem.mem_of_lookup e) hh with e' | e'
      · obtain ⟨p, hp, hpy⟩ := List.mem_map.mp e'
        have e3 := ok.ix p hp
        have : p.1 = y := hpy
        rw [this] at e3
        exact hne (List.mem_map.mpr ⟨p, hp, nodup_ix hN e3 e1⟩)
      · exact e' (List.mem_of_getElem? e1)
    have e3 : Vis scope y := e3
    rcases e3 with e3 | e3 | e3
    · exact absurd (.inl rfl) (no _ e3)
    · exact absurd (.inr rfl) (no _ e3)
    · exact e3
  obtain ⟨m, hn, hl⟩ := I5.loc
  have hvis : Vis X.env.scope y := (ok.free _ (PySem.mem_of_lookup hfr) rfl).elim (fun k => .inr (.inl k)) (fun k => .inr (.inr k))
  obtain ⟨w, r, q⟩ := hl i y av e1 e2 hvis
  refine ⟨w, r, .inr ⟨.inr hfr, ?_⟩⟩
  obtain ⟨c, h1, h2⟩ := look hfr
  rcases q with ⟨k, _⟩ | ⟨_, c', e', z⟩
  · have k : X.env.scope.names.lookup y = some .local := k
    rcases ok.free _ (PySem.mem_of_lookup hfr) rfl with k' | k' <;> rw [show X.env.scope.names.lookup y = _ from k'] at k <;> cases k
  · rw [h2] at e'; cases e'
    exact ⟨c, h1, z⟩
end
def nxL (tg : TgD) (ft : FT) (fe : FE) (vs : List Nat) : List D → Rho → Rz (Option D × Rho)
  | [], ρ => .ok (none, ρ)
  | d :: ds, ρ => frc d fun d => nrmR ρ fun ρ => match tg d ρ with
    | none => .no
    | some ρ1 => (ft ρ1).bind fun c => if c.1 = true then (fe c.2).bind fun q => if noIo vs q.2 = true then .ok (some q.1, wipeR vs q.2) else .no
      else if noIo vs c.2 = true then nxL tg ft fe vs ds (wipeR vs c.2) else .no
/-- the generator has come to its item, or to its end -/
def GOk (X Xg : Cx) (σ : L2.St) (vs : List Nat) (ρw : Rho) (G1 H1 : Hp) (ρf : Rho) (G' H' : Hp) (s' : Shared) : Prop :=
  ∃ pins', Inv Xg pins' (wipe σ vs) H' s' ∧ Stp (wipe σ vs) ρw G1 H1 (wipe σ vs) ρf G' H' ∧ SR X.K G' H' (wipe σ vs) ρf ∧ Bare vs ρf
section
variable {X : Cx}
theorem gen_loop {elt tgt iter : Expr} {ifs : List Expr} {scope : Scope} {gpos : Pos} {A : Around} {cenv : Env} {s2 : Shared} {H2 : Hp} {fp : List Addr} {it : Addr} {tn : Nat → Heap → Prop} {J : It} {is vs : List Nat} {tg : TgD} {ft : FT} {fe : FE} {ds : List D} {σ : L2.St} {ρw ρf : Rho} {G1 H1 : Hp} {res : Option D}
    (hc : X.calm = true) (hco : cenv.scope.isCoroutine = false) (hs : ∀ i ∈ is, i ∈ vs) (T : Turn X.prog X.w X.K tgt J fp it tn) (hJ : ItD X.K G1 J ds)
    (pg : PG (genX X s2 H2 cenv fp (A.over (.compLoop (.GeneratorExp elt [⟨tgt, iter, ifs, 0⟩] scope gpos) 0 (.ref it) .none cenv) [])) tgt (rdG X.K is tg))
    (pt : PTs (genX X s2 H2 cenv fp (A.over (.compLoop (.GeneratorExp elt [⟨tgt, iter, ifs, 0⟩] scope gpos) 0 (.ref it) .none cenv) [])) ifs (rdT X.K ft))
    (pe : PE (genX X s2 H2 cenv fp (A.over (.compLoop (.GeneratorExp elt [⟨tgt, iter, ifs, 0⟩] scope gpos) 0 (.ref it) .none cenv) [])) elt (rd X.K fe)) :
    ∀ (k i : Nat) (s₀ s' : Shared) (ρ' : Rho) (G' H' : Hp), ds.length - i = k → i ≤ ds.length → Inv (genX X s2 H2 cenv fp (A.over (.compLoop (.GeneratorExp elt [⟨tgt, iter, ifs, 0⟩] scope gpos) 0 (.ref it) .none cenv) [])) [] (wipe σ vs) H' s' → tn i s'.heap → (∀ b ∈ fp, H' b = none) →
      Stp (wipe σ vs) ρw G1 H1 (wipe σ vs) ρ' G' H' → SR X.K G' H' (wipe σ vs) ρ' → Bare vs ρ' → nxL tg ft fe vs (ds.drop i) ρ' = .ok (res, ρf) →
      Seg (model X.prog X.w) A (fun n s₀ r s₁ => r = .ok .next ∧ (res = none ∧ ∃ G' H', GOk X (genX X s2 H2 cenv fp (A.over (.compLoop (.GeneratorExp elt [⟨tgt, iter, ifs, 0⟩] scope gpos) 0 (.ref it) .none cenv) [])) σ vs ρw G1 H1 ρf G' H' s₁))
        (fun n s₀ v s₁ kap => ∃ d x G' H', res = some d ∧ RelV x v ∧ Rep X.K G' d x ∧ GOk X (genX X s2 H2 cenv fp (A.over (.compLoop (.GeneratorExp elt [⟨tgt, iter, ifs, 0⟩] scope gpos) 0 (.ref it) .none cenv) [])) σ vs ρw G1 H1 ρf G' H' s₁) 1 s₀
        (.compLoop (.GeneratorExp elt [⟨tgt, iter, ifs, 0⟩] scope gpos) 0 (.ref it) .none cenv)
        ((model X.prog X.w).den (.compLoop (.GeneratorExp elt [⟨tgt, iter, ifs, 0⟩] scope gpos) 0 (.ref it) .none cenv)) [] s' := by
  generalize hXg : genX X s2 H2 cenv fp (A.over (.compLoop (.GeneratorExp elt [⟨tgt, iter, ifs, 0⟩] scope gpos) 0 (.ref it) .none cenv) []) = Xg at pg pt pe ⊢
  have eP : Xg.prog = X.prog := by rw [← hXg]
  have eW : Xg.w = X.w := by rw [← hXg]
  have eK : Xg.K = X.K := by rw [← hXg]
  have eC : Xg.calm = true := by rw [← hXg]; exact hc
  have eA : Xg.A = A.over (.compLoop (.GeneratorExp elt [⟨tgt, iter, ifs, 0⟩] scope gpos) 0 (.ref it) .none cenv) [] := by rw [← hXg]
  have eX : Xg.xe = fun _ _ => False := by rw [← hXg]
  have eE : Xg.env = cenv := by rw [← hXg]
  have eF : Xg.ex = fp := by rw [← hXg]
  have eN : Xg.pn = [] := by rw [← hXg]
  have stat : ∀ {σ' : L2.St} {H' : Hp} {s' : Shared}, Inv Xg [] σ' H' s' → (∀ b ∈ fp, H' b = none) → ∀ b ∈ fp, FpOk Xg [] H' b := fun {σ' H' s'} I' hn b hb =>
    ⟨hn b hb, (I'.ok.exf b (by rw [eF]; exact hb)).1, I'.ok.exfs b (by rw [eF]; exact hb), .inl (by rw [eF]; exact hb), fun x c e => (I'.ok.exf b (by rw [eF]; exact hb)).2 x c e, fun p hp => absurd (show p ∈ ([] : List (Addr × Obj)) by rw [eN] at hp; exact hp) (by simp)⟩
  intro k
  induction k with
  | zero =>
    intro i s₀ s' ρ' G' H' hk hi I' st' nf stp sr bare eq
    have e0 : ds.drop i = [] := List.drop_eq_nil_of_le (by omega)
    rw [e0] at eq
    unfold nxL at eq
    cases eq
    show Seg _ A _ _ _ s₀ _ ((compTurn (.GeneratorExp elt [⟨tgt, iter, ifs, 0⟩] scope gpos) 0 (.ref it) .none cenv).onRaise (leaving cenv)) [] s'
    rw [compTurn_gen, Sem.onRaise_eq_wrap]
    refine seg_bind_wrap (wpAny_standAt ?_)
    refine seg_bind_wrap ?_
    have td := T.done Xg eP eW eK eC i [] s' _ H' (fun _ _ => False) I' (stat I' nf) st' ((hJ i G' H' stp.sub sr.sub).2 (by omega))
    rw [eA] at td
    refine thnF td fun r s1 ⟨hr, I1⟩ => ?_
    subst hr
    exact seg_end (.ok .next) ⟨rfl, rfl, G', H', [], I1, stp, sr, bare⟩
  | succ k ih =>
    intro i s₀ s' ρ' G' H' hk hi I' st' nf stp sr bare eq
    have hlt : i < ds.length := by omega
    have ed : ds.drop i = ds[i] :: ds.drop (i + 1) := List.drop_eq_getElem_cons hlt
    rw [ed] at eq
    unfold nxL at eq
    rw [frc_eq, nrmR_eq] at eq
    obtain ⟨go, yl⟩ := (hJ i G' H' stp.sub sr.sub).1 ds[i] (List.getElem?_eq_getElem hlt)
    cases et : tg ds[i] ρ' with
    | none => rw [et] at eq; cases eq
    | some ρ3 =>
      rw [et] at eq
      dsimp only at eq
      show Seg _ A _ _ _ s₀ _ ((compTurn (.GeneratorExp elt [⟨tgt, iter, ifs, 0⟩] scope gpos) 0 (.ref it) .none cenv).onRaise (leaving cenv)) [] s'
      rw [compTurn_gen, Sem.onRaise_eq_wrap]
      refine seg_bind_wrap (wpAny_standAt ?_)
      refine seg_bind_wrap ?_
      have ti := T.item Xg eP eW eK eC i [] s' _ H' (fun _ _ => False) I' (stat I' nf) st' go
      rw [eA] at ti
      refine thnF ti fun r s6 ⟨u, hr, h6⟩ => ?_
      subst hr
      refine seg_bind_wrap (thnF h6 fun _ s7 ⟨x, H7, I7, r7, y7, st7, n7⟩ => ?_)
      have I7' := I7.pinned (stat I7 n7) (T.obj _ _ st7)
      obtain ⟨G7, P7, rx⟩ := yl x H7 y7
      have J7 := sr.pure P7
      have pgr := pg.run _ s7 _ H7 x u (fun σ3 H3 => ∃ G3, Stp (wipe σ vs) ρ' G' H' σ3 ρ3 G3 H3 ∧ SR X.K G3 H3 σ3 ρ3 ∧ wipe σ3 vs = wipe σ vs) I7' r7
        ⟨ρ', G7, ds[i], J7, rx, ρ3, et, fun σ3 s3 I3 o3 => ⟨G7, (P7.stp (σ := wipe σ vs) (ρ := ρ')).trans s3, I3, wipe_only hs o3⟩⟩
      rw [eP, eW, eA, eX, eE] at pgr
      refine seg_bind_wrap (thnF pgr fun _ s8 ⟨σ8, H8, I8, G8, stp8, sr8, hw8⟩ => ?_)
      cases ec : ft ρ3 with
      | ex _ _ => rw [ec] at eq; cases eq
      | no => rw [ec] at eq; cases eq
      | ok c =>
        obtain ⟨b0, ρ4⟩ := c
        rw [ec] at eq
        dsimp only [Rz.bind] at eq
        have ptr := pt.run _ s8 σ8 H8 (fun b H4 => b = b0 ∧ ∃ G4, Stp (wipe σ vs) ρ' G' H' σ8 ρ4 G4 H4 ∧ SR X.K G4 H4 σ8 ρ4) I8 (by
          refine rdT_of sr8 ?_
          unfold rdTK
          rw [ec]
          exact fun H4 G4 s4 I4 => ⟨rfl, G4, stp8.trans s4, I4⟩)
        rw [eP, eW, eA, eX, eE] at ptr
        refine seg_bind_wrap (thnF ptr fun b s9 ⟨H9, I9, hb, G9, stp9, sr9⟩ => ?_)
        subst hb
        cases b with
        | false =>
          simp only [Bool.false_eq_true, if_false] at eq ⊢
          by_cases z : noIo vs ρ4 = true
          · rw [if_pos z] at eq
            have pin' : ∀ b ∈ fp, ∀ o, s7.heap.get? b = some o → s9.heap.get? b = some o ∧ H9 b = none := fun b hb o e =>
              let z := I9.pin (b, o) (List.mem_append_right _ (List.mem_append_right _ (mem_pinsAt hb e)))
              ⟨z.1, z.2.1⟩
            have hl : (wipe σ vs).length = σ8.length := by rw [← hw8, wipe_length]
            have stw := stp9.trans (Stp.wipe (vs := vs) z)
            have Iw := sr9.wipe (vs := vs)
            rw [hw8] at stw Iw
            refine seg_again rfl (ih (i + 1) s₀ s9 (wipeR vs ρ4) G9 H9 (by omega) hlt ((I9.unpinned (pins := [])).weak hl fun j v e => ?_) (T.keep _ _ _ st7 fun b hb o e => (pin' b hb o e).1) (fun b hb => ?_) (stp.trans stw) Iw bare_wipeR eq)
            · rw [← hw8] at e
              exact (wipe_some e).1
            · obtain ⟨o, e, _⟩ := T.obj _ _ st7 b hb
              exact (pin' b hb o e).2
          · rw [if_neg z] at eq; cases eq
        | true =>
          simp only [if_true] at eq ⊢
          cases ee : fe ρ4 with
          | ex _ _ => rw [ee] at eq; cases eq
          | no => rw [ee] at eq; cases eq
          | ok q =>
            obtain ⟨d5, ρ5⟩ := q
            rw [ee] at eq
            dsimp only [Rz.bind] at eq
            by_cases z : noIo vs ρ5 = true
            · rw [if_pos z] at eq
              cases eq
              have hy : ∀ v, yieldOut cenv v = yieldValue v := fun v => by simp only [yieldOut, hco, Bool.false_eq_true, if_false]
              simp only [hy]
              rw [Sem.bind_eq_wrap', Sem.bind_eq_wrap', Sem.wrap_wrap, Sem.wrap_wrap]
              have per := pe.run _ s9 σ8 H9 (fun y H5 => ∃ G5, Stp (wipe σ vs) ρ' G' H' σ8 ρ5 G5 H5 ∧ SR X.K G5 H5 σ8 ρ5 ∧ Rep X.K G5 d5 y) I9 (by
                refine rd_of sr9 ?_
                unfold rdK
                rw [ee]
                exact fun v H5 G5 s5 I5 r5 => ⟨G5, stp9.trans s5, I5, r5⟩)
              rw [eP, eW, eA, eX, eE] at per
              refine seg_wrap (thnF per fun y s10 ⟨yv, H10, I10, r10, G10, stp10, sr10, rr⟩ => ?_)
              have hl : (wipe σ vs).length = σ8.length := by rw [← hw8, wipe_length]
              have stw := stp10.trans (Stp.wipe (vs := vs) z)
              have Iw := sr10.wipe (vs := vs)
              rw [hw8] at stw Iw
              refine seg_at (seg_yield rfl rfl rfl ⟨d5, yv, G10, H10, rfl, r10, rr, _, I10.weak hl fun j v e => ?_, stp.trans stw, Iw, bare_wipeR⟩)
              rw [← hw8] at e
              exact (wipe_some e).1
            · rw [if_neg z] at eq; cases eq
/-- a default: a constant -/
def Dfl (X : Cx) (e : Expr) (dd : D) : Prop := ∀ (M : Model) (A : Around) (E : Value → Shared → Prop) (s : Shared) (Q : Value → Shared → Prop), (∀ v tk vd, RelV vd v → (∀ G, Rep X.K G dd vd) → Q v { s with toks := tk }) → wpAny M A (eval e X.env) Q E s
theorem dfl_none {k : Nat} {p : Pos} : Dfl X (.Constant .none k p) .non := fun M A E s Q h => wpAny_Constant_none (h .none s.toks .non rfl fun G => rep_non)
theorem dfl_int {i : Int} {k : Nat} {p : Pos} : Dfl X (.Constant (.int i) k p) (.int i) := fun M A E s Q h => wpAny_Constant_int (h _ _ (.int i) ⟨_, rfl⟩ fun G => rep_int i)
def eNext (fi : FI) (tg : TgD) (ft : FT) (fe : FE) (dd : D) (vs : List Nat) : FE := fun ρ => (fi ρ).bind fun p => if noIo vs p.2 = true then (nxL tg ft fe vs p.1 (wipeR vs p.2)).bind fun q => .ok (match q.1 with | some d => d | none => dd, restR vs p.2 q.2) else .no
theorem over_gen {A : Around} {elt tgt iter : Expr} {ifs : List Expr} {scope : Scope} {gpos : Pos} {it acc : Value} {cenv : Env} (h : A.handled = none) : (A.over (.compLoop (.GeneratorExp elt [⟨tgt, iter, ifs, 0⟩] scope gpos) 0 it acc cenv) []).handled = none ∧
    (A.over (.compLoop (.GeneratorExp elt [⟨tgt, iter, ifs, 0⟩] scope gpos) 0 it acc cenv) []).depth = A.depth + 1 ∧ (A.over (.compLoop (.GeneratorExp elt [⟨tgt, iter, ifs, 0⟩] scope gpos) 0 it acc cenv) []).units = A.units + 3 ∧
    (∀ l, A.frames = some l → (A.over (.compLoop (.GeneratorExp elt [⟨tgt, iter, ifs, 0⟩] scope gpos) 0 it acc cenv) []).frames = some (cenv :: l)) ∧ (A.over (.compLoop (.GeneratorExp elt [⟨tgt, iter, ifs, 0⟩] scope gpos) 0 it acc cenv) []).guards = A.guards := by
  obtain ⟨hd, d, fr, gs, u⟩ := A
  refine ⟨h, rfl, rfl, fun l e => ?_, rfl⟩
  have e : fr = some l := e
  subst e
  rfl
theorem tk_next2 (a b : Value) : argsOk "next" ⟨[a, b], []⟩ := PySem.W.kdk_args_next2 a b
theorem de_next {c P : Addr} {elt tgt iter dflt : Expr} {ifs : List Expr} {scope : Scope} {own : List (Str × Nat)} {p pos gpos : Pos} {fi : FI} {is : List Nat} {tgd : TgD} {ft : FT} {fe : FE} {dd : D} {k : Nat} (hm0 : Rm (k + 1) X.A) (hc : X.calm = true) (hN : X.N.Nodup) (hg : Gl X "next") (hm : X.mg "next" = none)
    (TB : GxR.TabB X.base X.mg c P) (hP : P ∈ Tabs.T) (hPL : ∀ q, (P, q) ∉ Tabs.L) (hcode : X.env.code = .ref c) (hi : PI X tgt iter (rdI X.K fi)) (ok : BlkOk X.N X.env.scope scope own) (hsub : ∀ i ∈ is, i ∈ own.map (·.2)) (hd : Dfl X dflt dd)
    (hpg : ∀ (s : Shared) (H : Hp) (C : Addr) (cl : List (Str × Addr)) (code : Value) (bi : Addr) (fp : List Addr) (A' : Around), PG (genX X s H (genEnv scope cl C code bi X.env) fp A') tgt (rdG X.K is tgd))
    (hpt : ∀ (s : Shared) (H : Hp) (C : Addr) (cl : List (Str × Addr)) (code : Value) (bi : Addr) (fp : List Addr) (A' : Around), Rm k A' → PTs (genX X s H (genEnv scope cl C code bi X.env) fp A') ifs (rdT X.K ft))
    (hpe : ∀ (s : Shared) (H : Hp) (C : Addr) (cl : List (Str × Addr)) (code : Value) (bi : Addr) (fp : List Addr) (A' : Around), Rm k A' → PE (genX X s H (genEnv scope cl C code bi X.env) fp A') elt (rd X.K fe))
    (hs : ∀ v, genFold iter X.env v = pure v := by intro _; rfl) (hco : scope.isCoroutine = false := by rfl) (hcell : ∀ y ∈ scope.names, y.2 ≠ .cell := by decide +kernel) (hdot : scope.names.lookup (".0" : Str) = some NameKind.local := by decide +kernel)
    (he : starEach [.GeneratorExp elt [⟨tgt, iter, ifs, 0⟩] scope gpos, dflt] X.env = (false, eval (.GeneratorExp elt [⟨tgt, iter, ifs, 0⟩] scope gpos) X.env) :: starEach [dflt] X.env := by rfl)
    (he2 : starEach [dflt] X.env = (false, eval dflt X.env) :: starEach [] X.env := by rfl) (hpl : (backTo pos (starEach [dflt] X.env)).any (·.1) = false := by rfl) :
    PE X (.Call (.Name "next" p) [.GeneratorExp elt [⟨tgt, iter, ifs, 0⟩] scope gpos, dflt] [] pos) (rd X.K (eNext fi tgd ft fe dd (own.map (·.2)))) := by
  have hr := hm0.r
  refine ⟨fun pins s σ H Q I h => ?_⟩
  obtain ⟨ρ, G, sr0, h⟩ := h
  have hfree : ∀ y ∈ scope.names, y.2 = .free → ∃ c, X.env.cells.lookup y.1 = some c := fun y hy e => by
    rcases ok.free y hy e with k | k
    · exact I.ok.has _ (.inl k)
    · exact I.ok.has _ (.inr k)
  refine wpAny_Call_Name_kw (ld_blt I hg hm PyProof.Rows.boot_next ?_)
  refine PyProof.Rows.callWith_builtin1 (args_cons ?_ he) he hpl
  refine wpAny_GeneratorExp_make hco (closure_ok hfree) hcell hdot ok.kind (by have := hr.dp; omega) ?_ hs
  unfold eNext at h
  cases e1 : fi ρ with
  | ex _ _ => rw [e1] at h; exact h.elim
  | no => rw [e1] at h; exact h.elim
  | ok q =>
    obtain ⟨ds, ρ1⟩ := q
    rw [e1] at h
    dsimp only [Rz.bind] at h
    by_cases io1 : noIo (own.map (·.2)) ρ1 = true
    · rw [if_pos io1] at h
      cases eL : nxL tgd ft fe (own.map (·.2)) ds (wipeR (own.map (·.2)) ρ1) with
      | ex _ _ => rw [eL] at h; exact h.elim
      | no => rw [eL] at h; exact h.elim
      | ok r =>
        obtain ⟨res, ρf⟩ := r
        rw [eL] at h
        dsimp only at h
        refine thn (hi.run pins s σ H (fun J H1 => ∃ G1, Stp σ ρ G H σ ρ1 G1 H1 ∧ SR X.K G1 H1 σ ρ1 ∧ ItD X.K G1 J ds) I ⟨ρ, G, sr0, by
          unfold rdIK
          rw [e1]
          exact fun J H1 G1 a b c => ⟨G1, a, b, c⟩⟩) fun xv s1 hx => thn hx fun itv s2 h2 => ?_
        obtain ⟨it, fp, tn, J, H2, e, I2, T, st2, f2, G1, stp1, sr1, hJ⟩ := h2
        subst e
        obtain ⟨⟨ps, hPt, ht⟩, hGP⟩ := sr1.tab P hP
        refine ⟨I2.nolimit, ?_⟩
        have hPs : s2.heap.get? P = some { cls := .none, data := .fields ps } := I2.hok P _ hPt
        have hPlt : P < s2.heap.objs.size := Heap.lt_size hPs
        have cd : PySem.W.CodeHd s2.heap c P := TB.code.keeps I2.bk
        have szfp : ∀ b ∈ fp, b < s2.heap.objs.size := fun b hb => by
          obtain ⟨o, e, _⟩ := T.obj _ _ st2 b hb
          exact Heap.lt_size e
        have cont : ∀ (code : Value) (h3 : Heap) (tk : Nat) (ps' : Array Value), Heap.ExtBut P s2.heap h3 → s2.heap.objs.size ≤ h3.objs.size → h3.get? P = some { cls := .none, data := .fields ps' } → (∃ more, ps' = ps ++ more) → TriplesOk ps'.toList →
            wpAny (model X.prog X.w) X.A (builtinsFor X.env.globals X.env.builtins) (fun bi s₄ => ∀ h', h'.Ns s₄.heap.objs.size (fun y => if y = ".0" then some (.ref it) else none) → Heap.SameBut s₄.heap.objs.size (s₄.heap.push { cls := .type "frame", data := .dict #[] }) h' →
              wpAny (model X.prog X.w) X.A (spliced (backTo pos (starEach [dflt] X.env))) (fun vs s₂ => wpAny (model X.prog X.w) X.A (call (.builtin "next") (.ref h'.objs.size :: vs)) (EP X pins σ Q) X.xe s₂) X.xe
                { s₄ with gens := s₄.gens.push (.fresh (.compStart (.GeneratorExp elt [⟨tgt, iter, ifs, 0⟩] scope gpos) 0 (.ref it) .none (genEnv scope (cloFrom X.env.cells scope.names []) s₄.heap.objs.size code bi X.env))), toks := s₄.toks + 1 + 1 + 1, heap := h'.push { cls := .type "generator", data := .fields #[.int s₄.gens.size 0, .str "<genexpr>" (s₄.toks + 1), .str (X.env.qual ++ "<genexpr>") (s₄.toks + 1 + 1)] } }) X.xe { s2 with heap := h3, toks := tk } := by
          intro code h3 tk ps' hx hsz hP3 hmore ht3
          obtain ⟨bm, ob, b1, b2, b3, b4, b5, b6, b7, b8⟩ := TB.bm
          have keep3 : ∀ b u, b ≠ P → s2.heap.get? b = some u → h3.get? b = some u := fun b u hb e => hx b u hb e
          refine wpAny_builtinsFor (m := X.mg) (by rw [I2.ok.glob]; exact (I2.mod.glob.keeps I2.bk).extBut hx TB.gP) b1 b2 (keep3 _ _ b4 (I2.bk _ _ b5)) b6 b7 b8 ?_
          intro h' hn' hs'
          obtain ⟨more, em⟩ := hmore
          subst em
          have hsz' : h'.objs.size = h3.objs.size + 1 := by rw [hs'.1, Heap.size_push]
          have kp0 : ∀ b u, h3.get? b = some u → h'.get? b = some u := fun b u e => hs'.extBut b u (Nat.ne_of_lt (Heap.lt_size e)) (Heap.get?_push_of_some _ e)
          have nPsz : P ≠ h3.objs.size := Nat.ne_of_lt (Nat.lt_of_lt_of_le hPlt hsz)
          refine args_cons (hd _ _ _ _ _ fun dv tk' vd rvd hrep => args_nil ?_) he2
          generalize hgo : ({ cls := .type "generator", data := .fields #[.int s2.gens.size 0, .str "<genexpr>" (tk + 1), .str (X.env.qual ++ "<genexpr>") (tk + 1 + 1)] } : Obj) = go
          have hgen : (h'.push go).IsGen h'.objs.size s2.gens.size := by
            rw [← hgo]
            exact ⟨_, _, _, Heap.get?_push_size _ rfl, rfl, rfl, rfl⟩
          have kp : ∀ b u, b ≠ P → s2.heap.get? b = some u → (h'.push go).get? b = some u := fun b u hb e => Heap.get?_push_of_some _ (kp0 b u (keep3 b u hb e))
          have hP5 : (h'.push go).get? P = some { cls := .none, data := .fields (ps ++ more) } := Heap.get?_push_of_some _ (kp0 _ _ hP3)
          generalize hce : genEnv scope (cloFrom X.env.cells scope.names []) h3.objs.size code builtinsNs X.env = cenv
          -- the abstract heap: the table has grown
          generalize hH5 : upd H2 P (.tbl (ps ++ more)) = H5
          have u5 : ∀ b, b ≠ P → H5 b = H2 b := fun b hb => by rw [← hH5]; exact upd_ne hb
          have p5 : H5 P = some (.tbl (ps ++ more)) := by rw [← hH5]; exact upd_same
          have nP : ∀ b, H2 b = none → b ≠ P := fun b e z => by subst z; rw [hPt] at e; cases e
          have nT : ∀ b u, H2 b = some u → (∀ q, u ≠ .tbl q) → b ≠ P := fun b u e q z => by
            subst z
            rw [hPt] at e
            exact q ps (Option.some.inj e).symm
          have ptab : PStp G1 H2 G1 H5 := by
            refine ⟨fun _ _ h => h, fun _ _ => rfl, fun a o e t => ?_, fun a qs e => ?_, fun a o e => ?_⟩
            · rw [u5 a fun z => by subst z; rw [hPt] at e; cases e; cases t]; exact e
            · by_cases z : a = P
              · subst z
                rw [hPt] at e; cases e
                exact ⟨_, p5, fun _ => ht3, fun q m => absurd m (hPL q)⟩
              · exact ⟨qs, by rw [u5 a z]; exact e, id, fun q _ y => tabS_to y (fun ps e => by rw [u5 a z]; exact e) fun c e => by rw [u5 c (nT c _ e fun q => LamX.codeO_ne q)]; exact e⟩
            · rw [u5 a fun z => by subst z; rw [hGP] at e; cases e]; exact sr1.sub a o e
          refine Calls.call_function_entry (by decide +kernel) (by decide +kernel) PySem.W.kdk_entry_next (PySem.W.kdk_args_next2 _ _) ?_
          unfold Builtin.«next»
          refine wpAny_bind (m := someArgs "next" 1 2 _) (wpAny_of_eq (a := [Value.ref h'.objs.size, dv]) (by first | rfl | kernel_rfl!) ?_)
          dsimp only
          refine wpAny_bind (wpAny_specialOf (name := Str.ofString "__next__") hgen.typeIs slot_gen_next.lookup ?_)
          refine wpAny_ite_split (fun hab => absurd hab (by decide)) (fun _ => ?_)
          have hhd : X.A.handled = none := hr.hd
          have lim5 : (h'.push go).NoLimit := by
            have l3 : h3.NoLimit := I2.nolimit.extBut hx fun e => by
              obtain ⟨_, hns, _⟩ := I2.nolimit
              obtain ⟨o', es, ep, ho, hdd, _⟩ := hns
              rw [e, hPs] at ho
              cases ho
              cases hdd
            exact l3.keeps fun b u e => Heap.get?_push_of_some _ (kp0 b u e)
          generalize hs5 : ({ s2 with gens := s2.gens.push (.fresh (.compStart (.GeneratorExp elt [⟨tgt, iter, ifs, 0⟩] scope gpos) 0 (.ref it) .none cenv)), heap := h'.push go, toks := tk' } : Shared) = sg
          have hgs : sg.gens[s2.gens.size]? = some (.fresh (.compStart (.GeneratorExp elt [⟨tgt, iter, ifs, 0⟩] scope gpos) 0 (.ref it) .none cenv)) := by
            rw [← hs5]
            exact Array.getElem?_push_size ..
          have hgH : sg.heap = h'.push go := by rw [← hs5]
          have bare5 : AllBare (sg.setGen s2.gens.size .running).gens := by
            rw [← hs5]
            refine fun y hy => ?_
            have hy : y ∈ (s2.gens.push (.fresh (.compStart (.GeneratorExp elt [⟨tgt, iter, ifs, 0⟩] scope gpos) 0 (.ref it) .none cenv))).setIfInBounds s2.gens.size .running := hy
            rcases Array.mem_or_eq_of_mem_setIfInBounds hy with z | z
            · exact (I2.bare.push (g := .fresh (.compStart (.GeneratorExp elt [⟨tgt, iter, ifs, 0⟩] scope gpos) 0 (.ref it) .none cenv)) rfl) y z
            · subst z; rfl
          have I5 : Inv X pins σ H5 (sg.setGen s2.gens.size .running) := by
            have z := GxR.inv_tab (more := more) (h' := h'.push go) (g' := (sg.setGen s2.gens.size .running).gens) (d' := s2.drawn) (t' := tk') I2 hPt kp hP5 bare5
            rw [hH5] at z
            rw [← hs5] at z ⊢
            exact z
          have unb : Un (frs X.stack) fp H2 H5 s2.heap (sg.setGen s2.gens.size .running).heap := by
            show Un (frs X.stack) fp H2 H5 s2.heap sg.heap
            rw [hgH]
            refine ⟨fun b o e n _ _ => kp b o (nP b n) e, fun b o e n _ _ => ⟨o.slots, kp b o (nP b n) e⟩, fun b o _ n _ => (u5 b (nP b n)).trans n, fun b o e _ => ?_, fun b xs e => (u5 b (nT b _ e fun q z => by cases z)).trans e, fun b o u e => (u5 b (nT b _ e fun q z => by cases z)).trans e, fun b qs e => ?_⟩
            · by_cases z : b = P
              · subst z; exact ⟨_, hP5⟩
              · exact ⟨o, kp b o z e⟩
            · by_cases z : b = P
              · subst z
                rw [hPt] at e; cases e
                exact ⟨more, p5⟩
              · exact ⟨#[], by rw [u5 b z, e]; simp⟩
          have hCf : H5 h3.objs.size = none := (u5 _ nPsz.symm).trans (I2.hok.fresh hsz)
          have A0 : X.A.in1.in1.handled = none := hhd
          have og := over_gen (elt := elt) (tgt := tgt) (iter := iter) (ifs := ifs) (scope := scope) (gpos := gpos) (it := .ref it) (acc := .none) (cenv := cenv) A0
          have I6 := gen_start (m0 := fun y => if y = ".0" then some (.ref it) else none) (C := h3.objs.size) (bi := builtinsNs) (code := code) (A' := X.A.in1.in1.over (.compLoop (.GeneratorExp elt [⟨tgt, iter, ifs, 0⟩] scope gpos) 0 (.ref it) .none cenv) []) I2 I5 ok hN hcell (fun b hb => ⟨f2 b hb, szfp b hb⟩) hsz
            (by show sg.heap.Ns _ _; rw [hgH]; exact hn'.push _) hCf unb rfl og.1 (by rw [hce]; exact og.2.2.2.1 X.stack I2.ok.frames)
          rw [hce] at I6
          have room : Rm k (X.A.in1.in1.over (.compLoop (.GeneratorExp elt [⟨tgt, iter, ifs, 0⟩] scope gpos) 0 (.ref it) .none cenv) []) := by
            refine ⟨⟨og.1, ?_, ?_⟩, og.2.2.2.2.trans hm0.g⟩
            · rw [og.2.1]
              have := hr.dp
              show X.A.depth + 1 + 3 * k + 5 < _
              omega
            · rw [og.2.2.1]
              have := hr.un
              show X.A.units + 1 + 1 + 3 + 16 * k + 200 < _
              omega
          have pgX := hpg s2 H2 h3.objs.size (cloFrom X.env.cells scope.names []) code builtinsNs fp (X.A.in1.in1.over (.compLoop (.GeneratorExp elt [⟨tgt, iter, ifs, 0⟩] scope gpos) 0 (.ref it) .none cenv) [])
          have ptX := hpt s2 H2 h3.objs.size (cloFrom X.env.cells scope.names []) code builtinsNs fp _ room
          have peX := hpe s2 H2 h3.objs.size (cloFrom X.env.cells scope.names []) code builtinsNs fp _ room
          rw [hce] at pgX ptX peX
          have hcoE : cenv.scope.isCoroutine = false := by rw [← hce]; exact hco
          have st5 : tn 0 (sg.setGen s2.gens.size .running).heap := T.keep _ _ _ st2 fun b hb o e => by
            show sg.heap.get? b = some o
            rw [hgH]
            exact kp b o (nP b (f2 b hb).1) e
          have nf5 : ∀ b ∈ fp, H5 b = none := fun b hb => (u5 b (nP b (f2 b hb).1)).trans (f2 b hb).1
          have loop := gen_loop (A := X.A.in1.in1) (elt := elt) (tgt := tgt) (iter := iter) (ifs := ifs) (scope := scope) (gpos := gpos) (cenv := cenv) (vs := own.map (·.2)) (s2 := s2) (H2 := H2) (σ := σ) (ρw := wipeR (own.map (·.2)) ρ1) (ρf := ρf) (G1 := G1) (H1 := H5) (res := res) hc hcoE hsub T hJ pgX ptX peX
            ds.length 0 (sg.setGen s2.gens.size .running) (sg.setGen s2.gens.size .running) (wipeR (own.map (·.2)) ρ1) G1 H5 (Nat.sub_zero _) (Nat.zero_le _) I6 st5 nf5 (Stp.refl _ _ _ _) ((sr1.pure ptab).wipe) bare_wipeR (by rw [List.drop_zero]; exact eL)
          -- back in the def
          have back : ∀ {H' G' : Hp} {s₁ : Shared}, GOk X (genX X s2 H2 cenv fp (X.A.in1.in1.over (.compLoop (.GeneratorExp elt [⟨tgt, iter, ifs, 0⟩] scope gpos) 0 (.ref it) .none cenv) [])) σ (own.map (·.2)) (wipeR (own.map (·.2)) ρ1) G1 H5 ρf G' H' s₁ →
              (∀ (h₁ : Heap) (gs' : GenState), gs'.bare = true → (∀ b o, s₁.heap.get? b = some o → h₁.get? b = some o) → Inv X pins σ H' { s₁.setGen s2.gens.size gs' with heap := h₁ }) ∧ Stp σ ρ G H σ (restR (own.map (·.2)) ρ1 ρf) G' H' ∧ SR X.K G' H' σ (restR (own.map (·.2)) ρ1 ρf) := fun {H' G' s₁} ⟨pins', Ig, stp, sr, br⟩ => by
            refine ⟨fun h₁ gs' hb hk => ?_, ?_, SR.rest stp.sub sr1 sr⟩
            · have hu : Un (frs X.stack) fp H2 H' s2.heap s₁.heap := Ig.base
              refine I2.call' (ch := fp) Ig.os (hu.trans (Un.kept hk)) (Ig.hok.kept hk) (fun y hy => ?_) fun b hb => ⟨(f2 b hb).2.2.2.1, (f2 b hb).2.1, (f2 b hb).2.2.2.2.1, (f2 b hb).2.2.2.2.2⟩
              have hy : y ∈ s₁.gens.setIfInBounds s2.gens.size gs' := hy
              rcases Array.mem_or_eq_of_mem_setIfInBounds hy with z | z
              · exact Ig.bare y z
              · subst z; exact hb
            · exact (stp1.trans ((ptab.stp (σ := σ) (ρ := ρ1)).trans (Stp.wipe io1))).trans (stp.trans (Stp.rest br))
          refine wpAny_bind (wpAny_pyNext_genexpQ (A := X.A.in1) (P := fun _ _ s₁ => res = none ∧ ∃ G' H', GOk X (genX X s2 H2 cenv fp (X.A.in1.in1.over (.compLoop (.GeneratorExp elt [⟨tgt, iter, ifs, 0⟩] scope gpos) 0 (.ref it) .none cenv) [])) σ (own.map (·.2)) (wipeR (own.map (·.2)) ρ1) G1 H5 ρf G' H' s₁) (Y := fun n s₀ v s₁ kap => ∃ d x G' H', res = some d ∧ RelV x v ∧ Rep X.K G' d x ∧ GOk X (genX X s2 H2 cenv fp (X.A.in1.in1.over (.compLoop (.GeneratorExp elt [⟨tgt, iter, ifs, 0⟩] scope gpos) 0 (.ref it) .none cenv) [])) σ (own.map (·.2)) (wipeR (own.map (·.2)) ρ1) G1 H5 ρf G' H' s₁) (n := 1) (g := s2.gens.size) hhd (by rw [hgH]; exact lim5) (by have := hr.dp; show X.A.depth < _; omega) (by rw [hgH]; exact hgen) hgs ⟨rfl, ?_⟩ (fun v s₁ gs' hb hy => ?_) (fun s₁ hp h₁ hk => ?_))
          · show Seg _ X.A.in1.in1 _ _ _ _ _ ((compStart (.GeneratorExp elt [⟨tgt, iter, ifs, 0⟩] scope gpos) 0 (.ref it) .none cenv).onRaise (leaving cenv)) [] _
            unfold compStart
            rw [Sem.onRaise_eq_wrap]
            show Seg _ X.A.in1.in1 _ _ _ _ _ ((ask >>= _).wrap _ _ _ _) [] _
            refine seg_bind_wrap (wpAny_askSetting ?_)
            split
            · exact seg_again rfl loop
            · first
                | exact seg_bind_wrap (wpAny_rule (seg_bind_wrap (wpAny_standAt (seg_bind_wrap (T.self _ 0 _ _ _ st5 (seg_again rfl loop))))))
                | (refine seg_bind_wrap (wpAny_rule ?_); show Seg _ X.A.in1.in1 _ _ _ _ _ ((standAt iter.pos >>= _).wrap _ _ _ _) [] _; exact seg_bind_wrap (wpAny_standAt (seg_bind_wrap (T.self _ 0 _ _ _ st5 (seg_again rfl loop)))))
          · obtain ⟨d, x, G', H', e, rv, rep, ok'⟩ := hy
            obtain ⟨b1, b2, b3⟩ := back ok'
            refine wpAny_pure ⟨_, rfl, x, H', b1 s₁.heap gs' hb fun _ _ e => e, rv, h x H' G' b2 b3 ?_⟩
            subst e
            exact rep
          · obtain ⟨e, G', H', ok'⟩ := hp
            obtain ⟨b1, b2, b3⟩ := back ok'
            refine wpAny_pure ⟨_, rfl, vd, H', b1 h₁ .finished rfl hk, rvd, h vd H' G' b2 b3 ?_⟩
            subst e
            exact hrep G'
        cases hf : codeAmong gpos ps.toList with
        | none =>
          refine wpAny_genexprCodeX hcode (cd.code hPs ht) (cd.tab hPs) hf fun c' h' tk hx hge hlt hco' _ htab' _ => ?_
          obtain ⟨o1, vs, f1, tf, fl, tg', inF, tx, tt, op, _, _, _, _, _, _, _, _, _, htr, _⟩ := hco'
          exact cont _ h' tk _ hx (Nat.le_trans hge (Nat.le_of_lt hlt)) htab'.2 ⟨_, rfl⟩ htr
        | some cv =>
          refine wpAny_genexprCode_hit hcode (cd.code hPs ht) hf ?_
          exact cont cv s2.heap s2.toks ps (Heap.ExtBut.refl _ _) (Nat.le_refl _) hPs ⟨#[], by simp⟩ ht
    · rw [if_neg io1] at h; exact h.elim
end
end M

namespace M
open PySem PySem.Spec PyProof.Rows L2

/-! ### a def as the head tells it -/
theorem funC_of {K : PySem.W.Frag} {x : Str} {st : Stmt} {fd : FuncData} (F : FunD K x x (defArgs st) (defBody st) (defScope st) [] [] (He.fAd K (x, none)) fd) : FunC K x x st (He.ga K x) fd (.ref (He.codeOf K (x, none))) := by
  obtain ⟨⟨oc, od, dV, kV, doc, pm, an, cdv, ct, osl, rfl, lk, hcd, hD, _⟩, kp⟩ := F
  obtain ⟨c, rfl⟩ := He.codeIn_ref hcd
  rw [He.codeOf_eq lk rfl]
  rcases hD with ⟨_, rfl⟩ | ⟨e, _⟩
  · exact ⟨⟨oc, od, kV, doc, pm, an, ct, osl, rfl, lk, hcd⟩, kp⟩
  · exact absurd rfl e
/-! ### names of the module -/
section
variable {X : Cx} [Tabs]
theorem de_gint {x : Str} {i : Int} {pos : Pos} (hg : Gl X x) (hm : ∃ t, X.mg x = some (.int i t)) (hd : (x == ("__debug__" : Str)) = false := by decide) : PE X (.Name x pos) (rd X.K (eC (.int i))) := by
  obtain ⟨t, hm⟩ := hm
  exact de_glob (v := .int i) hg hm ⟨t, rfl⟩ (fun G => rep_int i) hd
theorem de_gstr {x y : Str} {pos : Pos} (hg : Gl X x) (hm : ∃ t, X.mg x = some (.str y t)) (hd : (x == ("__debug__" : Str)) = false := by decide) : PE X (.Name x pos) (rd X.K (eC (.str y))) := by
  obtain ⟨t, hm⟩ := hm
  exact de_glob (v := .str y) hg hm ⟨t, rfl⟩ (fun G => rep_str y) hd
theorem de_ty {x : Str} {n : String} {pos : Pos} (hg : Gl X x) (hm : X.mg x = none) (hv : bootBuiltins x = some (.type n)) (hn : x ≠ "__name__" := by decide) (hd : (x == ("__debug__" : Str)) = false := by decide) : PE X (.Name x pos) (rd X.K (eC (.con (.ty n)))) :=
  de_bltn (v := .ty n) hg hm hv rfl hn hd
/-! name = [.. for ..] on one line -/
theorem ds_setLc (i : Nat) {y : Str} {py : Pos} {elt tg iter : Expr} {ifs : List Expr} {scope : Scope} {own : List (Str × Nat)} {pos spos : Pos} {fi : FI} {is : List Nat} {tgd : TgD} {ft : FT} {fe : FE} (hc : X.calm = true) (hN : X.N.Nodup) (hi : PI X tg iter (rdI X.K fi)) (ok : BlkOk X.N X.env.scope scope own) (hsub : ∀ i ∈ is, i ∈ own.map (·.2))
    (hg : ∀ (s : Shared) (H : Hp) (C : Addr) (cl : List (Str × Addr)) (fp : List Addr), PG (X.blk s H scope (compEnvC scope cl C X.env) fp) tg (rdG X.K is tgd)) (ht : ∀ (s : Shared) (H : Hp) (C : Addr) (cl : List (Str × Addr)) (fp : List Addr), PTs (X.blk s H scope (compEnvC scope cl C X.env) fp) ifs (rdT X.K ft))
    (he : ∀ (s : Shared) (H : Hp) (C : Addr) (cl : List (Str × Addr)) (fp : List Addr), PE (X.blk s H scope (compEnvC scope cl C X.env) fp) elt (rd X.K fe)) (hy : X.N[i]? = some y := by rfl) (hyl : X.env.scope.names.lookup y = some .local := by rfl) (hk : X.env.scope.kind = .function := by rfl) (hl : (py.line == pos.line) = true := by rfl)
    (ha : (scope.names.any fun (n, k) => n == y && (k == .local || k == .cell)) = false := by decide +kernel) (hs : ∀ x, foldedSetIterable iter X.env x = pure x := by intro _; rfl) :
    PS X (.Assign [.Name y py] (.ListComp elt [⟨tg, iter, ifs, 0⟩] scope pos) spos) (rdS X.K (sSet i (eFz (oLc fi tgd ft fe (own.map (·.2)))))) := by
  refine ps_imp (ps_setLc hc hN hy hyl (sw_true hk hyl hl ha) hi ok hg ht he hs) fun D σ H ⟨ρ, G, I, h⟩ => ?_
  have hd := de_ofO (X := X) (e := .ListComp elt [⟨tg, iter, ifs, 0⟩] scope pos) (do_lc hc hN hi ok hsub hg ht he hs)
  refine rd_lc hsub σ H (fun x H1 => gName i x σ H1 D.nx) ⟨ρ, G, I, ?_⟩
  unfold rdSK at h
  unfold sSet bndS eFz at h
  cases e : oLc fi tgd ft fe (own.map (·.2)) ρ with
  | ex _ _ => rw [e] at h; exact h
  | no => rw [e] at h; exact h
  | ok p =>
    obtain ⟨ds, ρ1⟩ := p
    rw [e] at h
    dsimp only [Rz.bind] at h
    intro p us H1 G1 s1 I1 e1 e2 e3 n r
    by_cases z : isIo ρ1 i = true
    · rw [if_pos z] at h; exact h.elim
    · rw [if_neg z] at h
      have ne : ∀ a, H a ≠ none → a ≠ p := fun a h z => h (by rw [z]; exact e1)
      have st : Stp σ ρ G H σ ρ1 (upd G1 p (.lst us)) H1 := ⟨fun a o z => by rw [upd_ne (ne_of_none (s1.sub a o z) e3)]; exact s1.sub a o z, fun a z z2 => by rw [upd_ne (ne a z)]; exact s1.new a z z2, s1.keep, s1.grow, s1.dom, s1.own, s1.ownN, s1.stay⟩
      exact h _ H1 (upd G1 p (.lst us)) (st.trans (Stp.set (by simpa using z))) ((I1.seen e2 e3 n).set (Rep.lst_new e3 r))
end
/-! ### the law's end -/
theorem sp_law {cs : List (Addr × Addr)} {L : List (Addr × Str)} (hL : ∀ p ∈ L, p.1 ∈ cs.map (·.2)) {K : PySem.W.Frag} {F : FD} {n : Nat} (hF : ∀ ns : List Int, ns.length ≤ n → (∀ z ∈ ns, Builtin.Int.intBits z ≤ 1048576) → ∃ m as', F m [.dat (.scr ns)] = some (.dat (.bl true), as')) (H : Hp) (a : Addr) (ns : List Int) (hl : ns.length ≤ n) (hz : ∀ z ∈ ns, Builtin.Int.intBits z ≤ 1048576)
    (hT : ∀ p ∈ cs, H p.2 = some (.tbl #[])) (hS : SqL K H a (ns.map V.int)) : @spI ⟨cs.map (·.2), L⟩ K 1 F [.ref a] H (fun v _ => v = .bl true) fun _ _ _ => False := by
  letI : Tabs := ⟨cs.map (·.2), L⟩
  obtain ⟨m, as', e⟩ := hF ns hl hz
  have hT2 : ∀ b, b ∈ cs.map (·.2) → H b = some (.tbl #[]) := fun b hb => by
    obtain ⟨p, hp, e⟩ := List.mem_map.mp hb
    rw [← e]; exact hT p hp
  let G : Hp := fun b => if b ∈ cs.map (·.2) then none else H b
  have hG : ∀ b o, H b = some o → (∀ ps, o ≠ .tbl ps) → G b = some o := fun b o e n => by
    show (if b ∈ cs.map (·.2) then none else H b) = _
    rw [if_neg fun z => by rw [hT2 b z] at e; cases e; exact n _ rfl]
    exact e
  have I : SR K G H ([V.ref a].map some) ([Sl.dat (.scr ns)].map some) := by
    refine ⟨fun P hP => ⟨⟨#[], hT2 P hP, trivial⟩, if_pos hP⟩, fun p hp => LamX.TabS.nil (hT2 p.1 (hL p hp)), rfl, fun b o e => ?_, fun i s o h1 h2 => ?_, fun i j io jo ds es b h1 h2 h3 h4 => ?_⟩
    · have e : (if b ∈ cs.map (·.2) then none else H b) = some o := e
      by_cases z : b ∈ cs.map (·.2)
      · rw [if_pos z] at e; cases e
      · rw [if_neg z] at e; exact e
    · cases i with
      | zero =>
        cases h1; cases h2
        refine ⟨_, rfl, ?_⟩
        simp only [Rep]
        refine ⟨a, rfl, ?_⟩
        rcases hS with (h | ⟨o, h⟩) | h
        · exact .inl (.inl (hG _ _ h fun _ z => by cases z))
        · exact .inl (.inr ⟨o, hG _ _ h fun _ z => by cases z⟩)
        · exact .inr h
      | succ i => simp at h1
    · cases i with
      | zero => cases h1
      | succ i => simp at h1
  refine ⟨m, G, [.dat (.scr ns)], .dat (.bl true), as', rfl, I, rfl, e, fun v H' G' _ _ r => ?_⟩
  simp only [RetR, Rep] at r
  exact r
section
open LamX
variable {P : Program} {w : World} {K : PySem.W.Frag} {mg mb : Str → Option Value} {k : Nat} {fa a : Addr} {cs : List (Addr × Addr)} {fd : FuncData} {x : Str} {sp : Sp} {t : Shared} {vs : List Value} {ns : List Int}
/-- what is tracked at a law's start: the tables, the script (where the written part does not hold it) -/
def lawH (K : PySem.W.Frag) (cs : List (Addr × Addr)) (a : Addr) (vs : List Value) (ns : List Int) : Hp := fun b =>
  if b ∈ cs.map (·.2) then some (.tbl #[]) else if b = a ∧ K.lookup a = none then some (.frz { cls := .type "list", data := .seq vs.toArray } (.lst (ns.map V.int))) else none
theorem law_callG (KX : K.In t.heap) (gl : t.heap.Ns mainGlobals mg) (bl : t.heap.Ns builtinsNs mb) (bb : ∀ y : Str, y ≠ "__name__" → mb y = bootBuiltins y) (lim : t.heap.NoLimit) (ge : t.gens = #[])
    (hT : ∀ p ∈ cs, t.heap.get? p.2 = some { cls := .none, data := .fields #[] }) (nT : ∀ p ∈ cs, K.lookup p.2 = none) (hC : ∀ p ∈ cs, PySem.W.CodeHd t.heap p.1 p.2)
    (hbm : ∃ (bm : Addr) (ob : Obj), mg "__builtins__" = some (.ref bm) ∧ bm ≠ builtinsNs ∧ t.heap.get? bm = some ob ∧ ob.cls = .type "module" ∧ ob.dict = some builtinsNs ∧ ob.data = .plain)
    (ha : t.heap.get? a = some { cls := .type "list", data := .seq vs.toArray }) (hi : IntsAre vs ns) (hl : ns.length ≤ sizeLine) (rm : Rm k callerA)
    (F : ∀ base : Heap, K.In base → base.Ns mainGlobals mg → (∀ p ∈ cs, LamX.TabB base mg p.1 p.2) → FnG P w K mg base k fa fd [x] sp) (hbind : ∀ (s : Shared) (u : Value), BindsTo s fd ⟨[u], []⟩ [(x, u)])
    (hsp : ∀ H : Hp, (∀ p ∈ cs, H p.2 = some (.tbl #[])) → SqL K H a (ns.map V.int) → sp [.ref a] H (fun v _ => v = .bl true) fun _ _ _ => False) :
    codeAny (model P w) callerA (.call (.ref fa) ⟨[.ref a], []⟩) (fun r u => r = .ok (.ret (.bool true)) ∧ OldK t.heap u.heap ∧ u.os = t.os ∧ AllBare u.gens) t := by
  have rv := vals_ints hi
  have tabAt : ∀ b, b ∈ cs.map (·.2) → t.heap.get? b = some { cls := .none, data := .fields #[] } := fun b hb => by
    obtain ⟨p, hp, rfl⟩ := List.mem_map.mp hb
    exact hT p hp
  have aNo : a ∉ cs.map (·.2) := fun z => by
    have q := tabAt a z
    rw [ha] at q
    injection q with q
    injection q with _ _ q
    cases q
  obtain ⟨H, eH⟩ : ∃ H, H = lawH K cs a vs ns := ⟨_, rfl⟩
  have hTab : ∀ b, b ∈ cs.map (·.2) → H b = some (.tbl #[]) := fun b hb => by rw [eH]; exact if_pos hb
  have hOut : ∀ b, b ∉ cs.map (·.2) → ¬ (b = a ∧ K.lookup a = none) → H b = none := fun b h1 h2 => by
    rw [eH]; exact (if_neg h1).trans (if_neg h2)
  have hA : K.lookup a = none → H a = some (.frz { cls := .type "list", data := .seq vs.toArray } (.lst (ns.map V.int))) := fun z => by
    rw [eH]; exact (if_neg aNo).trans (if_pos ⟨rfl, z⟩)
  have hAll : ∀ b u, H b = some u → (b ∈ cs.map (·.2) ∧ u = .tbl #[]) ∨ (b = a ∧ K.lookup a = none ∧ u = .frz { cls := .type "list", data := .seq vs.toArray } (.lst (ns.map V.int))) := fun b u e => by
    by_cases h1 : b ∈ cs.map (·.2)
    · rw [hTab b h1] at e; cases e; exact .inl ⟨h1, rfl⟩
    · by_cases h2 : b = a ∧ K.lookup a = none
      · obtain ⟨rfl, h2⟩ := h2
        rw [hA h2] at e; cases e; exact .inr ⟨rfl, h2, rfl⟩
      · rw [hOut b h1 h2] at e; cases e
  have hok : HOk P w H t.heap := fun b u e => by
    rcases hAll b u e with ⟨h1, rfl⟩ | ⟨rfl, _, rfl⟩
    · exact tabAt b h1
    · exact ⟨ha, by rw [List.length_map]; exact hl, vs, _, rv, ha⟩
  -- what is no table and no list is not tracked
  have still : ∀ {b : Addr} {o : Obj}, t.heap.get? b = some o → (∀ its n, o.data ≠ .seq its n) → o.data ≠ .fields #[] → H b = none := fun {b o} e n1 n2 => by
    cases q : H b with
    | none => rfl
    | some u =>
      rcases hAll b u q with ⟨h1, _⟩ | ⟨rfl, _, _⟩
      · rw [tabAt b h1] at e; cases e; exact (n2 rfl).elim
      · rw [ha] at e; cases e; exact (n1 _ _ rfl).elim
  have nsOk : ∀ {b : Addr} {m : Str → Option Value}, t.heap.Ns b m → (hidT t.heap H).Ns b m := fun {b m} ⟨o, es, ep, e, d, rest⟩ =>
    ⟨o, es, ep, hidT_get e (still e (fun its n z => by rw [d] at z; cases z) fun z => by rw [d] at z; cases z), d, rest⟩
  have kin : K.In (hidT t.heap H) := fun b o e => hidT_get (KX b o e) (by
    cases q : H b with
    | none => rfl
    | some u =>
      rcases hAll b u q with ⟨h1, _⟩ | ⟨rfl, h2, _⟩
      · obtain ⟨p, hp, rfl⟩ := List.mem_map.mp h1
        rw [nT p hp] at e; cases e
      · rw [h2] at e; cases e)
  have md : L2.Mod K mg (hidT t.heap H) := ⟨kin, nsOk gl, ⟨mb, nsOk bl, bb⟩, by
    obtain ⟨mc, h1, h2⟩ := lim
    exact ⟨mc, nsOk h1, h2⟩⟩
  have tbs : ∀ p ∈ cs, LamX.TabB (hidT t.heap H) mg p.1 p.2 := fun p hp => by
    have hTp := hT p hp
    refine ⟨?_, ?_, fun z => ?_⟩
    · obtain ⟨o, us, fl, tf, fg, tg, iF, tx, tt, c1, c2, c3, c4, c5, c6, c7, c8, c9, ne⟩ := hC p hp
      exact ⟨o, us, fl, tf, fg, tg, iF, tx, tt, hidT_get c1 (still c1 (fun its n z => by rw [c3] at z; cases z) fun z => by rw [c3] at z; cases z; simp at c4), c2, c3, c4, c5, c6, c7, c8, c9, ne⟩
    · obtain ⟨bm, ob, b1, b2, b3, b4, b5, b6⟩ := hbm
      refine ⟨bm, ob, b1, b2, fun q => ?_, fun q => ?_, hidT_get b3 (still b3 (fun its n z => by rw [b6] at z; cases z) fun z => by rw [b6] at z; cases z), b4, b5, b6⟩
      · obtain ⟨o, es, ep, e, d, _⟩ := gl
        subst q
        rw [e] at b3; cases b3
        rw [d] at b6; cases b6
      · rw [q, hTp] at b3; cases b3; cases b6
    · obtain ⟨o, es, ep, e, d, _⟩ := gl
      rw [z, hTp] at e; cases e; cases d
  have hS : SqL K H a (ns.map V.int) := by
    cases q : K.lookup a with
    | none => exact .inl (.inr ⟨_, hA q⟩)
    | some o =>
      have e := KX a o q
      rw [ha] at e; cases e
      exact .inr ⟨_, vs.toArray, _, q, rfl, rfl, rfl, by rw [List.size_toArray, hi.length]; exact hl, by simpa using rv⟩
  have env : Env0 P w K mg (hidT t.heap H) callerA [] t H := ⟨rfl, md, fun b o e => of_hidT e, Nat.le_of_eq (hidT_size _ _), trivial, fun b hb => (nomatch hb), hok, .of_eq ge⟩
  refine codeAny_mono ((F _ kin (nsOk gl) tbs).go callerA [] t H ⟨[.ref a], []⟩ [.ref a] [.ref a] _ _ rm env (hbind t (.ref a)) (.cons rfl .nil) (hsp H (fun p hp => hTab _ (List.mem_map.mpr ⟨p, hp, rfl⟩)) hS)) fun r u z => ?_
  match r, z with
  | .error _, z => exact z.elim
  | .ok .next, z => exact z.elim
  | .ok .brk, z => exact z.elim
  | .ok .cont, z => exact z.elim
  | .ok (.ret v), ⟨y, H', os, bare, un, hok', rvl, ey⟩ =>
    have ey : y = .bl true := ey
    subst ey
    have evl : v = Value.bool true := rvl
    subst evl
    have kept : ∀ b o, b ∉ cs.map (·.2) → t.heap.get? b = some o → u.heap.get? b = some o := fun b o nb e => by
      cases q : H b with
      | none => exact un.keep b o e q (fun z => nomatch z) (fun z => nomatch z)
      | some h0 =>
        rcases hAll b h0 q with ⟨h1, _⟩ | ⟨rfl, _, rfl⟩
        · exact (nb h1).elim
        · rw [ha] at e; cases e
          exact (hok' b _ (un.frzs b _ _ q)).1
    have more : ∀ p ∈ cs, ∃ us : Array Value, u.heap.get? p.2 = some { cls := .none, data := .fields us } := fun p hp => by
      obtain ⟨us, z⟩ := un.tbls p.2 #[] (hTab _ (List.mem_map.mpr ⟨p, hp, rfl⟩))
      exact ⟨_, hok' p.2 _ z⟩
    refine ⟨rfl, ⟨fun b o e => ?_, fun b o e => ?_⟩, os, bare⟩
    · by_cases hb : b ∈ cs.map (·.2)
      · obtain ⟨p, hp, rfl⟩ := List.mem_map.mp hb
        obtain ⟨us, hu⟩ := more p hp
        rw [hT p hp] at e; cases e
        exact .inr (.inl ⟨((hC p hp).tab (hT p hp)).isCodeTable, rfl, #[], us, rfl, by rw [Array.empty_append]; exact hu⟩)
      · exact .inl (kept b o hb e)
    · by_cases hb : b ∈ cs.map (·.2)
      · obtain ⟨p, hp, rfl⟩ := List.mem_map.mp hb
        obtain ⟨us, hu⟩ := more p hp
        exact ⟨_, hu⟩
      · exact ⟨o, kept b o hb e⟩
/-- what is known of the law's promise at the head's heap -/
def LawAtG (l : PySem.W.OpenLaw) (w : World) (K : PySem.W.Frag) (k n : Nat) (x : Str) (mg : Str → Option Value) (fa : Addr) (h : Heap) : Prop :=
  ∃ (fd : FuncData) (cs : List (Addr × Addr)) (sp : Sp), (∀ p ∈ cs, h.get? p.2 = some { cls := .none, data := .fields #[] }) ∧ (∀ p ∈ cs, K.lookup p.2 = none) ∧ (∀ p ∈ cs, PySem.W.CodeHd h p.1 p.2) ∧ (∀ (s : Shared) (u : Value), BindsTo s fd ⟨[u], []⟩ [(x, u)]) ∧
    (∀ (H : Hp) (a : Addr) (ns : List Int), ns.length ≤ n → (∀ z ∈ ns, Builtin.Int.intBits z ≤ 1048576) → (∀ p ∈ cs, H p.2 = some (.tbl #[])) → SqL K H a (ns.map V.int) → sp [.ref a] H (fun v _ => v = .bl true) fun _ _ _ => False) ∧
    ∀ base : Heap, K.In base → base.Ns mainGlobals mg → (∀ p ∈ cs, LamX.TabB base mg p.1 p.2) → FnG l.prog w K mg base k fa fd [x] sp
theorem walk_G {l : PySem.W.OpenLaw} {n k : Nat} {q : Program} {loose : List Str} {XP : (Str → Option Value) → Heap → Prop} {YP : World → Heap → Prop} {d : DefRec} {x : Str} (hn : l.most = some n) (hn2 : n ≤ sizeLine) (hdf : d.params.defaults = []) (rm : Rm k callerA)
    (F : ∀ (w : World) (mg : Str → Option Value) (fa : Addr) (h : Heap), YP w h → h.Ns mainGlobals mg → mg d.name = some (.ref fa) → ∃ K : PySem.W.Frag, K.In h ∧ LawAtG l w K k n x mg fa h) :
    PySem.W.WalkO q loose XP YP l.row.toRowW d [] (fun f vs => PySem.call f vs) := by
  refine Att.attach_callB hn hdf fun w s₀ s₁ mg mb fa o pm cd doc a vs ns G Y _ _ _ hmg hobj hints hlen hbits hg => ?_
  obtain ⟨K, KX, fd, cs, sp, h1, h2, h3, h4, h5, h6⟩ := F w mg fa _ Y G.T.g hmg
  exact law_callG KX G.T.g G.T.b G.T.builtins G.T.nolimit hg h1 h2 h3 G.T.bmain hobj hints (Nat.le_trans hlen hn2) rm h6 h4 fun H hH hS => h5 H a ns hlen hbits hH hS
end
theorem tabB_of {base : Heap} {mg : Str → Option Value} {c P : Addr} (h : LamX.TabB base mg c P) : GxR.TabB base mg c P := ⟨h.code, h.bm, h.gP⟩
end M

namespace M
open PySem PySem.Spec PyProof.Rows L2
variable [Tabs]
/-! ### name op= e, the operators -/
section
variable {X : Cx} {K : PySem.W.Frag}
def addI : D → D → Option D | .int i, .int j => some (.int (i + j)) | _, _ => none
theorem ipd_add : IpD K (ipI fun i j => i + j) addI := by
  intro G H d1 d2 d v1 v2 Q s r1 r2 e q
  unfold addI at e
  split at e
  · simp only [Rep] at r1 r2; subst r1 r2; cases e
    exact ⟨_, _, rfl, rfl, q _ H G (PStp.refl s) (rep_int _)⟩
  · cases e
theorem ipd_sub : IpD K (ipI fun i j => i - j) subD := by
  intro G H d1 d2 d v1 v2 Q s r1 r2 e q
  unfold subD at e
  split at e
  · simp only [Rep] at r1 r2; subst r1 r2; cases e
    exact ⟨_, _, rfl, rfl, q _ H G (PStp.refl s) (rep_int _)⟩
  · cases e
theorem ip_fdiv : PIp X .FloorDiv (rI CDivW fun i j => .int (i / j)) := by
  intro pins s σ H x y v u Q I r1 r2 h
  obtain ⟨i, j, e1, e2, hc, q⟩ := h
  subst e1; subst e2
  obtain ⟨t, rfl⟩ := r1
  obtain ⟨t', rfl⟩ := r2
  have h1 : (0 : Int) < j := hc.1
  exact PyProof.Rows.ifloordiv_int (by omega) ⟨.int _, H, I.tok _, ⟨_, rfl⟩, by rw [Int.fdiv_eq_ediv_of_nonneg i (by omega)]; exact q⟩ (.inl (PyProof.noPylong_of_log2 hc.2))
theorem ipd_fdiv : IpD K (rI CDivW fun i j => .int (i / j)) fdivD := od_fdiv
theorem ip_mul : PIp X .Mult (rI CMul fun i j => .int (i * j)) := by
  intro pins s σ H x y v u Q I r1 r2 h
  obtain ⟨i, j, e1, e2, hc, q⟩ := h
  subst e1; subst e2
  obtain ⟨t, rfl⟩ := r1
  obtain ⟨t', rfl⟩ := r2
  exact PySem.P.imul_int ⟨.int _, H, I.tok _, ⟨_, rfl⟩, q⟩ hc.ok
theorem ipd_mul : IpD K (rI CMul fun i j => .int (i * j)) mulD := od_mul
theorem hu64 {A : Around} {k : Nat} (hr : Rm k A) : A.units + 64 < cLine := by have := hr.r.un; omega
theorem hu2 {A : Around} {k : Nat} (hr : Rm k A) : A.units + 2 < cLine := by have := hr.r.un; omega
end
end M

namespace M
open PySem PySem.Spec PyProof.Rows L2

/-! ### plain laws: what the functions answer -/
theorem runB_rt {g : FS} {L np : Nat} {as : M.Args} {s : Sl} {ρ : Rho} (hl : as.length = np) (h : g (startR L as) = .ok (.rt s, ρ)) : runB g L np as = some (s, ends as ρ) := by
  unfold runB
  rw [if_pos hl, frcA_eq]
  rw [h]
  simp only [frcA_eq, frcT_eq]
theorem runB_nx {g : FS} {L np : Nat} {as : M.Args} {ρ : Rho} (hl : as.length = np) (h : g (startR L as) = .ok (.nx, ρ)) : runB g L np as = some (.dat .non, ends as ρ) := by
  unfold runB
  rw [if_pos hl, frcA_eq]
  rw [h]
  simp only [frcA_eq, frcT_eq]
theorem small_mod (x m : Int) (h : 0 < m) (h2 : m < 2 ^ 64) : small (x % m) = true := by
  have a := Int.emod_nonneg x (by omega : m ≠ 0)
  have b := Int.emod_lt_of_pos x h
  rw [small_iff]
  omega
theorem e2_C {op : D → D → Option D} {a b d : D} (h : op a b = some d) : e2 op (eC a) (eC b) = eC d := by
  funext ρ
  simp only [e2, bnd, eC, Rz.bind, ofO, h, frc_eq]
theorem powD_of {i j : Int} (h : 0 ≤ j ∧ (Builtin.Int.intBits i : Int) * j ≤ 2 ^ 27) : powD (.int i) (.int j) = some (.int (i ^ j.toNat)) := if_pos h
theorem pw1 : powD (.int 10) (.int 60) = some (.int (10 ^ (60 : Int).toNat)) := powD_of (by decide +kernel)
theorem pw2 : powD (.int (10 ^ (60 : Int).toNat)) (.int 9) = some (.int ((10 ^ (60 : Int).toNat) ^ (9 : Int).toNat)) := powD_of (by decide +kernel)
theorem pw3 : powD (.int 10) (.int 18) = some (.int (10 ^ (18 : Int).toNat)) := powD_of (by decide +kernel)
/-! sequences -/
theorem seq_nx {ga gb : FS} {ρ ρ1 : Rho} (h : ga ρ = .ok (.nx, ρ1)) : sSeq ga gb ρ = gb ρ1 := by simp only [sSeq, h, Rz.bind]
theorem seq_rt {ga gb : FS} {ρ ρ1 : Rho} {s : Sl} (h : ga ρ = .ok (.rt s, ρ1)) : sSeq ga gb ρ = .ok (.rt s, ρ1) := by simp only [sSeq, h, Rz.bind]
/-! calls -/
def allDat : List Ar → Bool | [] => true | .d _ :: xs => allDat xs | .o _ :: _ => false
theorem allDat_find : ∀ {xs : List Ar} (i : Nat), allDat xs = true → xs.findIdx? (isO i) = none
  | [], i, _ => rfl
  | .d d :: xs, i, h => by
    rw [List.findIdx?_cons]
    simp only [isO, Bool.false_eq_true, if_false]
    rw [allDat_find (xs := xs) i h]; rfl
  | .o _ :: _, i, h => by cases h
theorem allDat_get : ∀ {xs : List Ar} {k : Nat} {x : Ar}, allDat xs = true → xs[k]? = some x → ∃ d, x = .d d
  | [], k, x, _, q => by simp at q
  | .o _ :: _, k, x, h, q => by cases h
  | .d d :: xs, 0, x, h, q => by simp at q; exact ⟨d, q.symm⟩
  | .d d :: xs, k + 1, x, h, q => allDat_get (xs := xs) h (by simpa using q)
theorem backO_d {xs : List Ar} {as' : M.Args} {ρ : Rho} (h : allDat xs = true) : backO xs as' ρ = ρ := by
  apply List.ext_getElem?
  intro i
  unfold backO
  rw [List.getElem?_mapIdx]
  cases q : ρ[i]? with
  | none => rfl
  | some s =>
    simp only [Option.map_some]
    match s with
    | none => rfl
    | some (.dat d) => rfl
    | some (.own io ds) => simp only [allDat_find i h]
theorem onceO_d {xs : List Ar} (h : allDat xs = true) : onceO xs = true := by
  unfold onceO
  rw [List.all_eq_true]
  intro k _
  cases q : xs[k]? with
  | none => rfl
  | some x =>
    obtain ⟨d, rfl⟩ := allDat_get h q
    rfl
theorem argsOf_d {ρ : Rho} : ∀ (ds : List D), argsOf ρ (ds.map Ar.d) = some (ds.map Sl.dat)
  | [] => rfl
  | d :: ds => by
    show (argsOf ρ (ds.map Ar.d)).map _ = _
    rw [argsOf_d ds]; rfl
theorem allDat_map : ∀ ds : List D, allDat (ds.map Ar.d) = true
  | [] => rfl
  | _ :: ds => allDat_map ds
theorem call_d {F : FD} {n : Nat} {fr : FAr} {ρ ρ1 : Rho} {ds : List D} {d : D} {as' : M.Args} (h : fr ρ = .ok (ds.map Ar.d, ρ1)) (hF : F n (ds.map Sl.dat) = some (.dat d, as')) : eCall F n fr ρ = .ok (d, ρ1) := by
  simp only [eCall, h, Rz.bind, callD, onceO_d (allDat_map ds), if_true, argsOf_d, hF, backO_d (allDat_map ds)]
theorem call_do {F : FD} {n : Nat} {fr : FAr} {ρ ρ1 : Rho} {ds es : List D} {as' : M.Args} (h : fr ρ = .ok (ds.map Ar.d, ρ1)) (hF : F n (ds.map Sl.dat) = some (.own false es, as')) : oCall F n fr ρ = .ok (es, ρ1) := by
  simp only [oCall, h, Rz.bind, callO, onceO_d (allDat_map ds), if_true, argsOf_d, hF, backO_d (allDat_map ds)]
theorem onceO_o1 {j : Nat} {ds : List D} : onceO (.o j :: ds.map Ar.d) = true := by
  unfold onceO
  rw [List.all_eq_true]
  intro k _
  cases k with
  | zero => simp [isO, List.findIdx?_cons]
  | succ k =>
    rw [List.getElem?_cons_succ, List.getElem?_map]
    cases ds[k]? <;> rfl
theorem backO_o1 {j : Nat} {ds es es' : List D} {as' : M.Args} {io : Bool} {ρ : Rho} (h : ownL ρ j = some (io, es)) : backO (.o j :: ds.map Ar.d) (.own true es' :: as') ρ = ρ.set j (some (.own io es')) := by
  letI : Tabs := ⟨[], []⟩
  have h1 := ownL_eq h
  apply List.ext_getElem?
  intro i
  unfold backO
  rw [List.getElem?_mapIdx]
  by_cases e : j = i
  · subst e
    rw [h1, List.getElem?_set_self (List.getElem?_eq_some_iff.mp h1).1]
    simp [isO, List.findIdx?_cons]
  · rw [List.getElem?_set_ne e]
    cases q : ρ[i]? with
    | none => rfl
    | some s =>
      simp only [Option.map_some]
      match s with
      | none => rfl
      | some (.dat d) => rfl
      | some (.own io ds') =>
        have z : (Ar.o j :: ds.map Ar.d).findIdx? (isO i) = none := by
          rw [List.findIdx?_cons]
          have : isO i (.o j) = false := by simp [isO, e]
          rw [this]
          simp only [Bool.false_eq_true, if_false]
          rw [allDat_find i (allDat_map ds)]; rfl
        simp only [z]
/-- f(x, ..): x one's own, handed in -/
theorem call_o1 {F : FD} {n j : Nat} {fr : FAr} {ρ : Rho} {ds es es' : List D} {d : D} {io : Bool} {as' : M.Args} (ho : ownL ρ j = some (io, es)) (h : fr ρ = .ok (.o j :: ds.map Ar.d, ρ)) (hF : F n (.own true es :: ds.map Sl.dat) = some (.dat d, .own true es' :: as')) : eCall F n fr ρ = .ok (d, ρ.set j (some (.own io es'))) := by
  simp only [eCall, h, Rz.bind, callD, onceO_o1, if_true, argsOf, ho, argsOf_d, Option.map_some, hF, backO_o1 ho]
/-! for -/
theorem forL_nx {tg : TgD} {body : FS} (J : Rho → Prop) : ∀ (ds : List D), (∀ d ∈ ds, ∀ ρ, J ρ → ∃ ρ1 ρ2, tg d ρ = some ρ1 ∧ body ρ1 = .ok (.nx, ρ2) ∧ J ρ2) → ∀ ρ, J ρ → ∃ ρ', forL tg body ds ρ = .ok (.nx, ρ') ∧ J ρ'
  | [], _, ρ, j => ⟨ρ, rfl, j⟩
  | d :: ds, h, ρ, j => by
    obtain ⟨ρ1, ρ2, e1, e2, j2⟩ := h d List.mem_cons_self ρ j
    obtain ⟨ρ', e3, j3⟩ := forL_nx J ds (fun d hd => h d (List.mem_cons_of_mem _ hd)) ρ2 j2
    refine ⟨ρ', ?_, j3⟩
    unfold forL
    rw [frc_eq, nrmR_eq, e1]
    simp only [e2, Rz.bind]
    exact e3
theorem rgD_mem {lo : Int} {n : Nat} {d : D} (h : d ∈ rgD lo n) : ∃ k : Nat, k < n ∧ d = .int (lo + k) := by
  unfold rgD at h
  obtain ⟨k, hk, e⟩ := List.mem_map.mp h
  exact ⟨k, List.mem_range.mp hk, e.symm⟩
/-- an answer, as a Bool -/
def isT : Option (Sl × M.Args) → Bool | some (.dat (.bl true), _) => true | _ => false
theorem isT_of {o : Option (Sl × M.Args)} (h : isT o = true) : ∃ as', o = some (.dat (.bl true), as') := by
  unfold isT at h
  split at h
  · exact ⟨_, rfl⟩
  · cases h
def isI (i : Int) : Option (Sl × M.Args) → Bool | some (.dat (.int j), _) => j == i | _ => false
theorem isI_of {i : Int} {o : Option (Sl × M.Args)} (h : isI i o = true) : ∃ as', o = some (.dat (.int i), as') := by
  unfold isI at h
  split at h
  · rename_i j as'
    have : j = i := by simpa using h
    subst this
    exact ⟨_, rfl⟩
  · cases h
end M

namespace M
open PySem PySem.Spec PyProof.Rows L2
variable [Tabs]

/-! ### repr of plain data -/
def showD (d : PyData) : Bool := PyProof.Rows.isDisplay d && d.showable && !d.hasDict && Nat.ble d.depth 64 && Nat.ble d.shown.length sizeLine
def showOk : PyData → Bool
  | .int i => Nat.blt i.natAbs.log2 1920
  | .list ds => showD (.list ds)
  | .tuple ds => showD (.tuple ds)
  | _ => false
def reprD : List D → Option D
  | [d] => if plain d = true ∧ showOk (pd d) = true then some (.str (pd d).shown) else none
  | _ => none
section
variable {X : Cx}
def rReprD (K : PySem.W.Frag) : List V → Hp → VK → Prop := fun vs H Q => ∃ v d, vs = [v] ∧ Dp K H v d ∧ showOk d = true ∧ Q (.str d.shown) H
theorem cr_repr (hg : X.A.guards = some []) (hu : X.A.units + 66 < cLine) : CallR X (.builtin "repr") (rReprD X.K) := by
  intro pins s σ H xs us Q I r h
  obtain ⟨v, d, rfl, hd, ok, q⟩ := h
  obtain ⟨u, rfl, ru⟩ := vals1 r
  obtain ⟨as, rd⟩ := Dp.reads I d v u hd ru
  have disp : showD d = true → wpAny (model X.prog X.w) X.A (call (.builtin "repr") [u]) (EP X pins σ Q) X.xe s := fun ok => by
    simp only [showD, Bool.and_eq_true, Nat.ble_eq, Bool.not_eq_true'] at ok
    obtain ⟨⟨⟨⟨o1, o2⟩, o3⟩, o4⟩, o5⟩ := ok
    obtain ⟨a, rfl⟩ := isRef_of_reads rd o1
    exact repr_of_reads' rd o2 (PyData.noDict_hsm o3) hg (by omega) (fun _ _ e => e) (fun h' u tk hk => ⟨.str _, H, I.kept hk, ⟨u, rfl⟩, q⟩) o5
  match d, hd, ok, q, disp with
  | .int i, hd, ok, q, _ =>
    cases hd
    obtain ⟨t, rfl⟩ := ru
    exact PySem.P.repr_of_int (by simpa [showOk, Nat.blt, Nat.succ_le_iff] using ok) ⟨.str _, H, I.tok _, ⟨_, rfl⟩, q⟩
  | .list _, _, ok, _, f => exact f ok
  | .tuple _, _, ok, _, f => exact f ok
  | .none, _, ok, _, _ => cases ok
  | .bool _, _, ok, _, _ => cases ok
  | .str _, _, ok, _, _ => cases ok
  | .dict _, _, ok, _, _ => cases ok
theorem cd_repr {K : PySem.W.Frag} : CallD K (rReprD K) reprD := by
  intro G H ds d vs Q s r e q
  unfold reprD at e
  split at e
  · rename_i d0
    split at e
    · rename_i c
      obtain ⟨v, rfl, r1⟩ := reps1 r
      cases e
      exact ⟨v, pd d0, rfl, dp_of d0 v (Rep.mono s _ _ r1) c.1, c.2, q _ H G (PStp.refl s) (rep_str _)⟩
    · cases e
  · cases e
end

/-! ### == that takes any two texts -/
def eqS (d e : D) : Option D := match d, e with | .str a, .str b => some (.bl (a == b)) | d, e => eqD d e
def neS (d e : D) : Option D := match d, e with | .str a, .str b => some (.bl (!(a == b))) | d, e => neD d e
section
variable {X : Cx}
def rEqS (K : PySem.W.Frag) : R2 := fun x y H Q => rEq x y H Q ∨ rEqD K x y H Q
def rNeS (K : PySem.W.Frag) : R2 := fun x y H Q => rNe x y H Q ∨ rNeD K x y H Q
theorem op_eqS (hu : X.A.units + 64 < cLine) : OpR X (compareOp .Eq) (rEqS X.K) := OpR.or op_eq (op_eqD hu)
theorem op_neS (hu : X.A.units + 64 < cLine) : OpR X (compareOp .NotEq) (rNeS X.K) := OpR.or op_ne (op_neD hu)
theorem od_eqS {K : PySem.W.Frag} : OpD K (rEqS K) eqS := by
  intro G H d1 d2 d v1 v2 Q s r1 r2 e q
  unfold eqS at e
  split at e
  · simp only [Rep] at r1 r2
    subst r1; subst r2
    cases e
    exact .inl ⟨rfl, by rw [dec_str]; exact q _ H G (PStp.refl s) (rep_bl _)⟩
  · exact .inr (od_eq G H d1 d2 d v1 v2 Q s r1 r2 e q)
theorem od_neS {K : PySem.W.Frag} : OpD K (rNeS K) neS := by
  intro G H d1 d2 d v1 v2 Q s r1 r2 e q
  unfold neS at e
  split at e
  · simp only [Rep] at r1 r2
    subst r1; subst r2
    cases e
    exact .inl ⟨rfl, by rw [dec_str]; exact q _ H G (PStp.refl s) (rep_bl _)⟩
  · exact .inr (od_ne G H d1 d2 d v1 v2 Q s r1 r2 e q)
end

/-! ### x in range(..) -/
def inRgD (d : D) (ds : List D) : Option D := match d with
  | .int i => match rgPr ds with | some (a, b) => some (.bl (!iLt i a && iLt i b)) | none => none
  | _ => none
def eInRg (fa : FE) (fs : FA) : FE := bnd fa fun x => bndA fs fun ds => fun ρ => ofO (inRgD x ds) ρ
section
variable {X : Cx} {a : Expr} {es : List Expr} {fa : FE} {fs : FA} {pos p rpos : Pos}
def rRng : List V → Hp → VK → Prop := fun vs H Q => (∃ j, vs = [V.int j] ∧ ∀ p, H p = none → Q (.ref p) (upd H p (.rng 0 j))) ∨ ∃ i j, vs = [V.int i, V.int j] ∧ ∀ p, H p = none → Q (.ref p) (upd H p (.rng i j))
theorem cr_rng : CallR X (.type "range") rRng := by
  intro pins s σ H vs us Q I r h
  rcases h with ⟨j, rfl, q⟩ | ⟨i, j, rfl, q⟩
  · obtain ⟨u, rfl, t, rfl⟩ := vals1 r
    refine call_range_1 ⟨.ref s.heap.objs.size, upd H s.heap.objs.size (.rng 0 j), I.laid (t' := s.toks + 1 + 1) (fun b o e => Heap.get?_push_of_some _ e) (Nat.le_refl _) ?_, rfl, q _ (I.hok.fresh (Nat.le_refl _))⟩
    exact ⟨s.toks, t, s.toks + 1, Heap.get?_push_size _ rfl⟩
  · exact cr_range2 pins s σ H _ us Q I r ⟨i, j, rfl, q⟩
theorem rRng_of {K : PySem.W.Frag} {G H : Hp} {ds : List D} {vs : List V} {Q : VK} {i j : Int} (r : Reps K G ds vs) (e : rgPr ds = some (i, j)) (q : ∀ p, H p = none → Q (.ref p) (upd H p (.rng i j))) : rRng vs H Q := by
  unfold rgPr at e
  split at e
  · cases e
    obtain ⟨v, rfl, r1⟩ := reps1 r
    simp only [Rep] at r1
    subst r1
    exact .inl ⟨_, rfl, q⟩
  · cases e
    obtain ⟨v, u, rfl, r1, r2⟩ := reps2 r
    simp only [Rep] at r1 r2
    subst r1; subst r2
    exact .inr ⟨_, _, rfl, q⟩
  · cases e
def rInR : R2 := fun x y H Q => ∃ i a lo hi, x = V.int i ∧ y = V.ref a ∧ H a = some (.rng lo hi) ∧ Q (.bl (decide (lo ≤ i ∧ i < hi))) H
theorem rd_inRg (σ : L2.St) (H : Hp) (Q : VK) (h : rd X.K (eInRg fa fs) σ H Q) : tOp rInR (rd X.K fa) (tCB rRng (rdA X.K fs)) σ H Q := by
  obtain ⟨ρ, G, I, h⟩ := h
  refine rd_of I (rdK_mono (rdK_bnd h) fun v H1 ⟨d1, ρ1, G1, s1, I1, r1, h1⟩ => ?_)
  refine rdA_of I1 (rdAK_mono (rdK_bndA h1) fun vs H2 ⟨ds, ρ2, G2, s2, I2, r2, h2⟩ => ?_)
  obtain ⟨d, e, q⟩ := rdK_ofO h2 I2
  unfold inRgD at e
  cases d1 with
  | int i =>
    dsimp only at e
    cases e3 : rgPr ds with
    | none => rw [e3] at e; cases e
    | some c =>
      obtain ⟨lo, hi⟩ := c
      rw [e3] at e; cases e
      simp only [Rep] at r1
      subst r1
      refine rRng_of r2 e3 fun p hp => ⟨i, p, lo, hi, rfl, rfl, upd_same, ?_⟩
      have eq : decide (lo ≤ i ∧ i < hi) = (!iLt i lo && iLt i hi) := by
        rw [not_iLt, iLt_eq, Bool.decide_and]
      rw [eq]
      exact q _ _ _ (PStp.laid I2.sub hp) (rep_bl _)
  | _ => cases e
theorem de_inRg {e1 : Expr} {es : List Expr} (ha : PE X a (rd X.K fa)) (hg : Gl X "range") (hm : X.mg "range" = none) (hs : PA X (e1 :: es) (rdA X.K fs)) (hmk : behindInMarks .In (.Call (.Name "range" p) (e1 :: es) [] rpos) = false)
    (he : starEach (e1 :: es) X.env = (false, eval e1 X.env) :: starEach es X.env := by rfl) (hpl : (backTo rpos (starEach es X.env)).any (·.1) = false := by rfl) :
    PE X (.Compare a [.In] [.Call (.Name "range" p) (e1 :: es) [] rpos] pos) (rd X.K (eInRg fa fs)) :=
  pe_imp (pe_cmpR op_in_rng ha (pe_callTy cr_rng hg hm (by decide +kernel) hs (by decide) (by decide) he hpl) hmk) rd_inRg
theorem dt_inRg {e1 : Expr} {es : List Expr} (ha : PE X a (rd X.K fa)) (hg : Gl X "range") (hm : X.mg "range" = none) (hs : PA X (e1 :: es) (rdA X.K fs)) (hmk : behindInMarks .In (.Call (.Name "range" p) (e1 :: es) [] rpos) = false)
    (he : starEach (e1 :: es) X.env = (false, eval e1 X.env) :: starEach es X.env := by rfl) (hpl : (backTo rpos (starEach es X.env)).any (·.1) = false := by rfl) :
    PT X (.Compare a [.In] [.Call (.Name "range" p) (e1 :: es) [] rpos] pos) (rdT X.K (M.tB (eInRg fa fs))) :=
  pt_imp (pt_cmpR op_in_rng ha (pe_callTy cr_rng hg hm (by decide +kernel) hs (by decide) (by decide) he hpl) hmk) fun σ H Q h => rd_inRg _ _ _ (rd_B _ _ _ h)
end

/-! ### list(x) as a new list of one's own -/
def oLstOf (fa : FE) : FA := fun ρ => (fa ρ).bind fun p => match lstD [p.1] with | some (.lst ds) => .ok (ds, p.2) | _ => .no
section
variable {X : Cx} {a : Expr} {fa : FE} {pos p : Pos}
theorem lstD_seq {K : PySem.W.Frag} {G H : Hp} {d : D} {ds : List D} {v : V} (s : Same G H) (r : Rep K G d v) (e : lstD [d] = some (.lst ds)) : ∃ a ys, v = .ref a ∧ (SqL K H a ys ∨ SqT K H a ys) ∧ Reps K G ds ys := by
  unfold lstD at e
  split at e
  · rename_i h
    cases h; cases e
    simp only [Rep] at r
    obtain ⟨a, us, rfl, h1, q1⟩ := r
    exact ⟨a, us, rfl, .inr (SqT.mono s h1), q1⟩
  · rename_i h
    cases h; cases e
    simp only [Rep] at r
    obtain ⟨a, us, rfl, h1, q1⟩ := r
    exact ⟨a, us, rfl, .inl (SqL.of (s _ _ h1)), q1⟩
  · rename_i h
    cases h; cases e
    simp only [Rep] at r
    obtain ⟨a, rfl, h1⟩ := r
    exact ⟨a, _, rfl, .inl (SqL.mono s h1), Reps.of_ints _⟩
  · cases e
theorem dom_none {σ σ' : L2.St} {ρ ρ' : Rho} {G G' H H' : Hp} {p : Addr} (s : Stp σ ρ G H σ' ρ' G' H') (hp : H' p = none) : H p = none := by
  cases q : H p with
  | none => rfl
  | some o => exact absurd hp (s.dom p (by rw [q]; exact fun z => by cases z))
theorem do_listOf (ha : PE X a (rd X.K fa)) (hg : Gl X "list") (hm : X.mg "list" = none) (na : starEach [a] X.env = (false, eval a X.env) :: starEach [] X.env := by rfl) :
    PE X (.Call (.Name "list" p) [a] [] pos) (rdO X.K (oLstOf fa)) := by
  refine pe_imp (pe_callTy call_list_of hg hm (by decide +kernel) (pa_cons ha pa_nil na) (he := na)) fun σ H Q ⟨ρ, G, I, h⟩ => ?_
  refine rd_of I ?_
  unfold oLstOf at h
  unfold rdK
  cases q : fa ρ with
  | ex _ _ => rw [q] at h; exact h
  | no => rw [q] at h; exact h
  | ok p =>
    obtain ⟨d, ρ1⟩ := p
    rw [q] at h
    dsimp only [Rz.bind] at h
    intro v H1 G1 s1 I1 r1
    split at h
    · rename_i ds e
      obtain ⟨a, ys, rfl, hs, r2⟩ := lstD_seq I1.sub r1 e
      refine ⟨a, ys, rfl, hs, fun l hl => ?_⟩
      obtain ⟨x1, x2, x3⟩ := I1.fresh (o := .lst ys) hl
      exact h l ys _ G1 (s1.trans x2) x1 (dom_none s1 hl) upd_same (I1.sub.free hl) x3 r2
    · exact h.elim
end
end M

namespace M
open PySem PySem.Spec PyProof.Rows L2
variable [Tabs]

/-! ### a value, or a new list of one's own -/
def NewV (K : PySem.W.Frag) (σ : L2.St) (ρ : Rho) (H0 G H : Hp) : Sl → V → Prop
  | .dat d, v => Rep K G d v
  | .own false ds, v => ∃ p us, v = .ref p ∧ H0 p = none ∧ H p = some (.lst us) ∧ G p = none ∧ ¬ OwnAt σ ρ p ∧ Reps K G ds us
  | .own true _, _ => False
abbrev FV := Rho → Rz (Sl × Rho)
def OutV (K : PySem.W.Frag) (Q : VK) (σ : L2.St) (ρ : Rho) (G H : Hp) : Rz (Sl × Rho) → Prop
  | .ok (s, ρ') => ∀ v H' G', Stp σ ρ G H σ ρ' G' H' → SR K G' H' σ ρ' → NewV K σ ρ' H G' H' s v → Q v H'
  | .ex _ _ => False
  | .no => False
def rdV (K : PySem.W.Frag) (f : FV) : TE := fun σ H Q => ∃ ρ G, SR K G H σ ρ ∧ OutV K Q σ ρ G H (f ρ)
def vD (f : FE) : FV := fun ρ => (f ρ).bind fun p => .ok (.dat p.1, p.2)
def vO (f : FA) : FV := fun ρ => (f ρ).bind fun p => .ok (.own false p.1, p.2)
section
variable {K : PySem.W.Frag} {σ σ' : L2.St} {ρ ρ' : Rho} {G G' H H' H0 Ha Hb G0 : Hp}
theorem NewV.step {s : Sl} {v : V} (n : NewV K σ ρ H0 G H s v) (b : Stp σ ρ G H σ' ρ' G' H') : NewV K σ' ρ' H0 G' H' s v := by
  match s, n with
  | .dat d, n => exact Rep.mono b.sub _ _ n
  | .own false ds, ⟨p, us, e, h0, h1, h2, h3, r⟩ =>
    refine ⟨p, us, e, h0, b.keep p _ h1 h3 rfl, ?_, fun z => ?_, Reps.mono b.sub _ _ r⟩
    · rw [b.new p (by rw [h1]; exact fun z => by cases z) h3]; exact h2
    · rcases b.own p z with z | z
      · exact h3 z
      · rw [h1] at z; cases z
theorem NewV.back {s : Sl} {v : V} (n : NewV K σ ρ Hb G H s v) (h : ∀ p, Hb p = none → H0 p = none) : NewV K σ ρ H0 G H s v := by
  match s, n with
  | .dat d, n => exact n
  | .own false ds, ⟨p, us, e, h0, h1⟩ => exact ⟨p, us, e, h _ h0, h1⟩
theorem NewV.set {i : Nat} {s : Sl} {v : V} (I : SR K G H σ ρ) (n : NewV K σ ρ H0 G H s v) : SR K G H (σ.set i (some v)) (ρ.set i (some s)) := by
  match s, n with
  | .dat d, n => exact I.set n
  | .own false ds, ⟨p, us, e, h0, h1, h2, h3, r⟩ => subst e; exact I.setOwn h1 h2 h3 r
theorem own_set {i : Nat} {s : Sl} {v : V} {a : Addr} (n : NewV K σ ρ H0 G H s v) (h : OwnAt (σ.set i (some v)) (ρ.set i (some s)) a) : OwnAt σ ρ a ∨ (v = .ref a ∧ H0 a = none ∧ H a ≠ none) := by
  obtain ⟨j, io, es, q1, q2⟩ := h
  rcases get_set q1 with ⟨e, z1⟩ | ⟨ne, z1⟩
  · rcases get_set q2 with ⟨_, z2⟩ | ⟨ne, _⟩
    · cases z1
      match io, n with
      | false, ⟨p, us, e2, h0, h1, h2, h3, r⟩ => cases z2; cases e2; exact .inr ⟨rfl, h0, by rw [h1]; exact fun z => by cases z⟩
      | true, n => exact n.elim
    · exact absurd e ne
  · rcases get_set q2 with ⟨e, _⟩ | ⟨_, z2⟩
    · exact absurd e ne
    · exact .inl ⟨j, io, es, z1, z2⟩
theorem ownN_set {i : Nat} {s : Sl} {v : V} {a : Addr} (n : NewV K σ ρ H0 G H s v) (h : OwnN (σ.set i (some v)) (ρ.set i (some s)) a) : OwnN σ ρ a ∨ H0 a = none := by
  obtain ⟨j, es, q1, q2⟩ := h
  rcases get_set q1 with ⟨e, z1⟩ | ⟨ne, z1⟩
  · rcases get_set q2 with ⟨_, z2⟩ | ⟨ne, _⟩
    · cases z1
      obtain ⟨p, us, e2, h0, h1, h2, h3, r⟩ := n
      cases z2; cases e2; exact .inr h0
    · exact absurd e ne
  · rcases get_set q2 with ⟨e, _⟩ | ⟨_, z2⟩
    · exact absurd e ne
    · exact .inl ⟨j, es, z1, z2⟩
theorem Stp.setV {σ0 : L2.St} {ρ0 : Rho} {i : Nat} {s : Sl} {v : V} (b : Stp σ0 ρ0 G0 H0 σ ρ G H) (nio : isIo ρ i = false) (n : NewV K σ ρ H0 G H s v) : Stp σ0 ρ0 G0 H0 (σ.set i (some v)) (ρ.set i (some s)) G H := by
  refine ⟨b.sub, b.new, b.keep, b.grow, b.dom, fun a z => ?_, fun a z => ?_, fun j es q => ?_⟩
  · rcases own_set n z with z | z
    · exact b.own a z
    · exact .inr z.2.1
  · rcases ownN_set n z with z | z
    · exact b.ownN a z
    · exact .inr z
  · obtain ⟨e0, fs, z1⟩ := b.stay j es q
    have ne : i ≠ j := fun e => by
      subst e
      unfold isIo at nio
      rw [z1] at nio
      cases nio
    rw [List.getElem?_set_ne ne, List.getElem?_set_ne ne]
    exact ⟨e0, fs, z1⟩
/-- another new value is still new after a store -/
theorem NewV.other {i : Nat} {s t : Sl} {v u : V} (n : NewV K σ ρ Ha G H s v) (m : NewV K σ ρ Hb G H t u) (h : ∀ p io us, s = .own io us → v = .ref p → Hb p ≠ none) : NewV K (σ.set i (some v)) (ρ.set i (some s)) Hb G H t u := by
  match t, m with
  | .dat d, m => exact m
  | .own false ds, ⟨p, us, e, h0, h1, h2, h3, r⟩ =>
    refine ⟨p, us, e, h0, h1, h2, fun z => ?_, r⟩
    obtain ⟨j, io, es, q1, q2⟩ := z
    rcases get_set q1 with ⟨e1, z1⟩ | ⟨ne, z1⟩
    · rcases get_set q2 with ⟨_, z2⟩ | ⟨ne, _⟩
      · cases z1
        cases z2
        exact h p io es rfl rfl h0
      · exact absurd e1 ne
    · rcases get_set q2 with ⟨e1, _⟩ | ⟨_, z2⟩
      · exact absurd e1 ne
      · exact h3 ⟨j, io, es, z1, z2⟩
end
section
variable {X : Cx} {a b e : Expr} {fa fb : FV} {fe : FE} {fo : FA} {pos : Pos}
theorem dv_D (h : PE X e (rd X.K fe)) : PE X e (rdV X.K (vD fe)) := by
  refine pe_imp h fun σ H Q ⟨ρ, G, I, h⟩ => ?_
  refine rd_of I ?_
  unfold vD at h
  unfold rdK
  cases q : fe ρ with
  | ex _ _ => rw [q] at h; exact h
  | no => rw [q] at h; exact h
  | ok p =>
    obtain ⟨d, ρ1⟩ := p
    rw [q] at h
    exact fun v H1 G1 s1 I1 r1 => h v H1 G1 s1 I1 r1
theorem dv_O (h : PE X e (rdO X.K fo)) : PE X e (rdV X.K (vO fo)) := by
  refine pe_imp h fun σ H Q ⟨ρ, G, I, h⟩ => ?_
  refine ⟨ρ, G, I, ?_⟩
  unfold vO at h
  cases q : fo ρ with
  | ex _ _ => rw [q] at h; exact h
  | no => rw [q] at h; exact h
  | ok p =>
    obtain ⟨d, ρ1⟩ := p
    rw [q] at h
    exact fun p us H1 G1 s1 I1 e1 e2 e3 n r => h _ H1 G1 s1 I1 ⟨p, us, rfl, e1, e2, e3, n, r⟩
/-- x, y = a, b -/
def sParV (i j : Nat) (fa fb : FV) : FS := fun ρ => (fa ρ).bind fun p => (fb p.2).bind fun q =>
  if isIo q.2 i = true ∨ isIo q.2 j = true ∨ i = j then .no else .ok (.nx, (q.2.set i (some p.1)).set j (some q.1))
theorem ds_parV (i j : Nat) {x y : Str} {px py pt pt2 : Pos} {kt k2 : Nat} (ha : PE X a (rdV X.K fa)) (hb : PE X b (rdV X.K fb)) (hc : X.calm = true) (hN : X.N.Nodup) (hi : X.N[i]? = some x := by rfl) (hj : X.N[j]? = some y := by rfl) (hij : i ≠ j := by decide)
    (hx : X.env.scope.names.lookup x = some .local := by rfl) (hy : X.env.scope.names.lookup y = some .local := by rfl)
    (na : starEach [a, b] X.env = (false, eval a X.env) :: starEach [b] X.env := by rfl) (nb : starEach [b] X.env = (false, eval b X.env) :: starEach [] X.env := by rfl)
    (hw : swappedStores [.Tuple [.Name x px, .Name y py] kt pt] (.Tuple [a, b] k2 pt2) X.env = pure (some [x, y]) := by rfl)
    (hs : swapsWithSole [.Tuple [.Name x px, .Name y py] kt pt] (.Tuple [a, b] k2 pt2) pos.line X.env = pure false := by rfl) :
    PS X (.Assign [.Tuple [.Name x px, .Name y py] kt pt] (.Tuple [a, b] k2 pt2) pos) (rdS X.K (sParV i j fa fb)) := by
  refine ps_imp (ps_par hc hN hi hj hij hx hy (pa_cons ha (pa_cons hb pa_nil nb) na) hw hs) fun D σ H ⟨ρ, G, I, h⟩ => ?_
  unfold rdSK sParV at h
  refine ⟨ρ, G, I, ?_⟩
  cases q : fa ρ with
  | ex _ _ => rw [q] at h; exact h
  | no => rw [q] at h; exact h
  | ok p =>
    obtain ⟨s, ρ1⟩ := p
    rw [q] at h
    dsimp only [Rz.bind] at h
    intro v H1 G1 s1 I1 n1
    refine ⟨ρ1, G1, I1, ?_⟩
    cases q2 : fb ρ1 with
    | ex _ _ => rw [q2] at h; exact h
    | no => rw [q2] at h; exact h
    | ok p2 =>
      obtain ⟨t, ρ2⟩ := p2
      rw [q2] at h
      dsimp only at h
      intro u H2 G2 s2 I2 n2
      by_cases z : isIo ρ2 i = true ∨ isIo ρ2 j = true ∨ i = j
      · rw [if_pos z] at h; exact h.elim
      · rw [if_neg z] at h
        simp only [not_or] at z
        have m1 := n1.step s2
        have z2 : isIo (ρ2.set i (some s)) j = false := by
          have := z.2.1
          unfold isIo at this ⊢
          rw [List.getElem?_set_ne z.2.2]
          simpa using this
        have m2 : NewV X.K (σ.set i (some v)) (ρ2.set i (some s)) H1 G2 H2 t u := m1.other n2 fun p io us hs e => by
          subst hs
          match io, n1 with
          | false, ⟨p', us', e', h0, h1, _⟩ => rw [e'] at e; cases e; rw [h1]; exact fun z => by cases z
          | true, n1 => exact n1.elim
        refine ⟨v, u, rfl, h _ H2 G2 ?_ (NewV.set (NewV.set I2 m1) m2)⟩
        exact ((s1.trans s2).setV (by simpa using z.1) m1).setV z2 (m2.back fun p hp => dom_none s1 hp)
end
end M

namespace M
open PySem PySem.Spec PyProof.Rows L2
variable [Tabs]

/-! ### xs + [..], xs one's own -/
def oCat (j : Nat) (fs : FA) : FA := fun ρ => match ownL ρ j with
  | some _ => (fs ρ).bind fun p => match ownL p.2 j with
    | some (_, ds) => if Nat.ble p.1.length sizeLine = true ∧ Nat.ble (ds.length + p.1.length) sizeLine = true then .ok (ds ++ p.1, p.2) else .no
    | none => .no
  | none => .no
section
variable {X : Cx} {es : List Expr} {fs : FA} {pos px lp : Pos}
theorem do_cat (j : Nat) {x : Str} (h : PA X es (rdA X.K fs)) (hN : X.N[j]? = some x := by rfl) (hv : Vis X.env.scope x := by first | exact Or.inl rfl | exact Or.inr (Or.inl rfl) | exact Or.inr (Or.inr rfl)) (hd : (x == ("__debug__" : Str)) = false := by decide)
    (hcd : (x == ("__classdict__" : Str)) = false := by decide) : PE X (.BinOp (.Name x px) .Add (.List es lp) pos) (rdO X.K (oCat j fs)) := by
  refine pe_imp (pe_op op_cat (pe_var (i := j) hN hv hd hcd) (pe_lst h)) fun σ H Q ⟨ρ, G, I, h⟩ => ?_
  unfold oCat at h
  cases q : ownL ρ j with
  | none => rw [q] at h; exact h.elim
  | some c =>
    obtain ⟨io, ds0⟩ := c
    rw [q] at h
    dsimp only at h
    obtain ⟨a, vs0, e1, e2, e3, r0⟩ := I.own q
    refine ⟨.ref a, e1, ?_⟩
    refine rdA_of I ?_
    unfold rdAK
    cases q1 : fs ρ with
    | ex _ _ => rw [q1] at h; exact h
    | no => rw [q1] at h; exact h
    | ok p =>
      obtain ⟨ds, ρ1⟩ := p
      rw [q1] at h
      dsimp only [Rz.bind] at h
      intro vs H1 G1 s1 I1 r1
      cases q2 : ownL ρ1 j with
      | none => rw [q2] at h; exact h.elim
      | some c2 =>
        obtain ⟨io2, es2⟩ := c2
        rw [q2] at h
        dsimp only at h
        obtain ⟨a2, vs2, f1, f2, f3, r2⟩ := I1.own q2
        rw [e1] at f1
        cases f1
        by_cases z : Nat.ble ds.length sizeLine = true ∧ Nat.ble (es2.length + ds.length) sizeLine = true
        · rw [if_pos z] at h
          rw [Nat.ble_eq, Nat.ble_eq] at z
          refine ⟨by rw [r1.length]; exact z.1, fun p hp => ?_⟩
          obtain ⟨x1, x2, x3⟩ := I1.fresh (o := .lst vs) hp
          have na : a ≠ p := fun e => by rw [e, hp] at f2; cases f2
          refine ⟨a, p, vs2, vs, rfl, rfl, by rw [upd_ne na]; exact f2, upd_same, by rw [r1.length, r2.length]; exact z.2, fun p2 hp2 => ?_⟩
          obtain ⟨y1, y2, y3⟩ := x1.fresh (o := .lst (vs2 ++ vs)) hp2
          exact h p2 (vs2 ++ vs) _ G1 ((s1.trans x2).trans y2) y1 (dom_none (s1.trans x2) hp2) upd_same (x1.sub.free hp2) y3 (r2.append r1)
        · rw [if_neg z] at h; exact h.elim
end
/-! name = [.. for ..] on one line, name one's own -/
section
variable {X : Cx}
theorem ds_ownLc (i : Nat) {y : Str} {py : Pos} {elt tg iter : Expr} {ifs : List Expr} {scope : Scope} {own : List (Str × Nat)} {pos spos : Pos} {fi : FI} {is : List Nat} {tgd : TgD} {ft : FT} {fe : FE} (hc : X.calm = true) (hN : X.N.Nodup) (hi : PI X tg iter (rdI X.K fi)) (ok : BlkOk X.N X.env.scope scope own) (hsub : ∀ i ∈ is, i ∈ own.map (·.2))
    (hg : ∀ (s : Shared) (H : Hp) (C : Addr) (cl : List (Str × Addr)) (fp : List Addr), PG (X.blk s H scope (compEnvC scope cl C X.env) fp) tg (rdG X.K is tgd)) (ht : ∀ (s : Shared) (H : Hp) (C : Addr) (cl : List (Str × Addr)) (fp : List Addr), PTs (X.blk s H scope (compEnvC scope cl C X.env) fp) ifs (rdT X.K ft))
    (he : ∀ (s : Shared) (H : Hp) (C : Addr) (cl : List (Str × Addr)) (fp : List Addr), PE (X.blk s H scope (compEnvC scope cl C X.env) fp) elt (rd X.K fe)) (hy : X.N[i]? = some y := by rfl) (hyl : X.env.scope.names.lookup y = some .local := by rfl) (hk : X.env.scope.kind = .function := by rfl) (hl : (py.line == pos.line) = true := by rfl)
    (ha : (scope.names.any fun (n, k) => n == y && (k == .local || k == .cell)) = false := by decide +kernel) (hs : ∀ x, foldedSetIterable iter X.env x = pure x := by intro _; rfl) :
    PS X (.Assign [.Name y py] (.ListComp elt [⟨tg, iter, ifs, 0⟩] scope pos) spos) (rdS X.K (sOwn i (oLc fi tgd ft fe (own.map (·.2))))) := by
  refine ps_imp (ps_setLc hc hN hy hyl (sw_true hk hyl hl ha) hi ok hg ht he hs) fun D σ H ⟨ρ, G, I, h⟩ => ?_
  refine rd_lc hsub σ H (fun x H1 => gName i x σ H1 D.nx) ⟨ρ, G, I, ?_⟩
  unfold rdSK sOwn at h
  cases e : oLc fi tgd ft fe (own.map (·.2)) ρ with
  | ex _ _ => rw [e] at h; exact h
  | no => rw [e] at h; exact h
  | ok p =>
    obtain ⟨ds, ρ1⟩ := p
    rw [e] at h
    dsimp only [Rz.bind] at h
    intro p us H1 G1 s1 I1 e1 e2 e3 n r
    by_cases z : isIo ρ1 i = true
    · rw [if_pos z] at h; exact h.elim
    · rw [if_neg z] at h
      have nv : NewV X.K σ ρ1 H G1 H1 (.own false ds) (.ref p) := ⟨p, us, rfl, e1, e2, e3, n, r⟩
      exact h _ H1 G1 (s1.setV (by simpa using z) nv) (NewV.set I1 nv)
end
theorem hu66 {A : Around} {k : Nat} (hr : Rm k A) : A.units + 66 < cLine := by have := hr.r.un; omega
end M

namespace M
open PySem PySem.Spec PyProof.Rows L2

/-! ### plain laws: loops that fold -/
theorem forL_rel {α : Type} {tg : TgD} {body : FS} (R : α → Rho → Prop) (f : α → D → α) : ∀ (ds : List D), (∀ d ∈ ds, ∀ a ρ, R a ρ → ∃ ρ1 ρ2, tg d ρ = some ρ1 ∧ body ρ1 = .ok (.nx, ρ2) ∧ R (f a d) ρ2) → ∀ a ρ, R a ρ → ∃ ρ', forL tg body ds ρ = .ok (.nx, ρ') ∧ R (ds.foldl f a) ρ'
  | [], _, a, ρ, j => ⟨ρ, rfl, j⟩
  | d :: ds, h, a, ρ, j => by
    obtain ⟨ρ1, ρ2, e1, e2, j2⟩ := h d List.mem_cons_self a ρ j
    obtain ⟨ρ', e3, j3⟩ := forL_rel R f ds (fun d hd => h d (List.mem_cons_of_mem _ hd)) (f a d) ρ2 j2
    refine ⟨ρ', ?_, j3⟩
    unfold forL
    rw [frc_eq, nrmR_eq, e1]
    simp only [e2, Rz.bind]
    exact e3
/-- a loop over range(0, n): what holds after k turns -/
theorem forL_rg {tg : TgD} {body : FS} (R : Nat → Rho → Prop) (lo : Int) (n : Nat) (h : ∀ k < n, ∀ ρ, R k ρ → ∃ ρ1 ρ2, tg (.int (lo + k)) ρ = some ρ1 ∧ body ρ1 = .ok (.nx, ρ2) ∧ R (k + 1) ρ2) (ρ : Rho) (h0 : R 0 ρ) : ∃ ρ', forL tg body (rgD lo n) ρ = .ok (.nx, ρ') ∧ R n ρ' := by
  have key : ∀ (m j : Nat), j + m = n → ∀ ρ, R j ρ → ∃ ρ', forL tg body ((List.range' j m).map fun i => D.int (lo + (i : Nat))) ρ = .ok (.nx, ρ') ∧ R n ρ' := by
    intro m
    induction m with
    | zero =>
      intro j hj ρ hR
      have : j = n := by omega
      subst this
      exact ⟨ρ, rfl, hR⟩
    | succ m ih =>
      intro j hj ρ hR
      obtain ⟨ρ1, ρ2, e1, e2, j2⟩ := h j (by omega) ρ hR
      obtain ⟨ρ', e3, j3⟩ := ih (j + 1) (by omega) ρ2 j2
      refine ⟨ρ', ?_, j3⟩
      rw [List.range'_succ, List.map_cons]
      unfold forL
      rw [frc_eq, nrmR_eq, e1]
      simp only [e2, Rz.bind]
      exact e3
  unfold rgD
  rw [List.range_eq_range']
  exact key n 0 (by omega) ρ h0
/-- a comprehension without a test -/
theorem lcL_map {tg : TgD} {fe : FE} {vs : List Nat} {ρ : Rho} (f : D → D) : ∀ (ds acc : List D), (∀ d ∈ ds, ∃ ρ1 ρ2, tg d ρ = some ρ1 ∧ fe ρ1 = .ok (f d, ρ2) ∧ noIo vs ρ2 = true ∧ wipeR vs ρ2 = ρ) → acc.length + ds.length ≤ sizeLine → lcL tg tYesD fe vs ds acc ρ = .ok (acc ++ ds.map f, ρ)
  | [], acc, _, _ => by simp only [lcL, frcL_eq, List.map_nil, List.append_nil]
  | d :: ds, acc, h, hl => by
    obtain ⟨ρ1, ρ2, e1, e2, e3, e4⟩ := h d List.mem_cons_self
    have hl2 : acc.length < sizeLine := by simp at hl; omega
    unfold lcL
    rw [frc_eq, nrmR_eq, e1]
    simp only [tYesD, Rz.bind, if_true, e2]
    rw [if_pos ⟨hl2, e3⟩, e4, lcL_map f ds _ (fun d hd => h d (List.mem_cons_of_mem _ hd)) (by simp at hl ⊢; omega)]
    simp
theorem lc_map {fi : FI} {tg : TgD} {fe : FE} {vs : List Nat} {ρ ρ0 : Rho} {ds : List D} (f : D → D) (h1 : fi ρ = .ok (ds, ρ0)) (hn : noIo vs ρ0 = true) (h : ∀ d ∈ ds, ∃ ρ1 ρ2, tg d (wipeR vs ρ0) = some ρ1 ∧ fe ρ1 = .ok (f d, ρ2) ∧ noIo vs ρ2 = true ∧ wipeR vs ρ2 = wipeR vs ρ0)
    (hr : restR vs ρ0 (wipeR vs ρ0) = ρ0) (hl : ds.length ≤ sizeLine) : oLc fi tg tYesD fe vs ρ = .ok (ds.map f, ρ0) := by
  simp only [oLc, h1, Rz.bind, hn, if_true]
  rw [lcL_map f ds [] h (by simpa using hl)]
  simp only [hr, List.nil_append]
/-- one turn of while -/
theorem whl_step {t : FT} {body : FS} {n : Nat} {ρ ρ1 ρ2 : Rho} (h1 : t ρ = .ok (true, ρ1)) (h2 : body ρ1 = .ok (.nx, ρ2)) : whl t body (n + 1) ρ = whl t body n ρ2 := by
  show nrmR ρ _ = _
  rw [nrmR_eq]
  simp only [h1, Rz.bind, if_true, h2]
theorem whl_end {t : FT} {body : FS} {n : Nat} {ρ ρ1 : Rho} (h1 : t ρ = .ok (false, ρ1)) : whl t body (n + 1) ρ = .ok (.nx, ρ1) := by
  show nrmR ρ _ = _
  rw [nrmR_eq]
  simp only [h1, Rz.bind, Bool.false_eq_true, if_false]
/-! steps of plain laws -/
theorem e2_ok {op : D → D → Option D} {fa fb : FE} {ρ ρ1 ρ2 : Rho} {a b d : D} (h1 : fa ρ = .ok (a, ρ1)) (h2 : fb ρ1 = .ok (b, ρ2)) (h3 : op a b = some d) : e2 op fa fb ρ = .ok (d, ρ2) := by
  simp only [e2, bnd, h1, Rz.bind, h2, ofO, h3, frc_eq]
theorem e1_ok {op : D → Option D} {fa : FE} {ρ ρ1 : Rho} {a d : D} (h1 : fa ρ = .ok (a, ρ1)) (h3 : op a = some d) : e1 op fa ρ = .ok (d, ρ1) := by
  simp only [e1, bnd, h1, Rz.bind, ofO, h3, frc_eq]
theorem eB1_ok {op : List D → Option D} {fa : FE} {ρ ρ1 : Rho} {a d : D} (h1 : fa ρ = .ok (a, ρ1)) (h3 : op [a] = some d) : eB op (aCons fa aNil) ρ = .ok (d, ρ1) := by
  simp only [eB, bndA, aCons, aNil, h1, Rz.bind, ofO, h3, frc_eq]
theorem eB2_ok {op : List D → Option D} {fa fb : FE} {ρ ρ1 ρ2 : Rho} {a b d : D} (h1 : fa ρ = .ok (a, ρ1)) (h2 : fb ρ1 = .ok (b, ρ2)) (h3 : op [a, b] = some d) : eB op (aCons fa (aCons fb aNil)) ρ = .ok (d, ρ2) := by
  simp only [eB, bndA, aCons, aNil, h1, h2, Rz.bind, ofO, h3, frc_eq]
theorem eV_ok {ρ : Rho} {i : Nat} {d : D} (h : ρ[i]? = some (some (.dat d))) : eV i ρ = .ok (d, ρ) := by simp only [eV, h]
theorem eC_ok {ρ : Rho} {d : D} : eC d ρ = .ok (d, ρ) := rfl
theorem fz_ok {f : FA} {ρ ρ1 : Rho} {ds : List D} (h : f ρ = .ok (ds, ρ1)) : eFz f ρ = .ok (.lst ds, ρ1) := by simp only [eFz, h, Rz.bind]
theorem set_ok {fe : FE} {ρ ρ1 : Rho} {i : Nat} {d : D} (h : fe ρ = .ok (d, ρ1)) (hi : isIo ρ1 i = false) : sSet i fe ρ = .ok (.nx, ρ1.set i (some (.dat d))) := by
  simp [sSet, bndS, h, Rz.bind, hi]
theorem tB_ok {f : FE} {ρ ρ1 : Rho} {b : Bool} (h : f ρ = .ok (.bl b, ρ1)) : M.tB f ρ = .ok (b, ρ1) := by simp only [M.tB, bnd_T, h, Rz.bind]
end M

namespace M
open PySem PySem.Spec PyProof.Rows L2

/-! ### tuple * int, any int -/
theorem tuple_mul_same (l : Addr) (items : Array Value) (n : Nat) (dd : Option Addr) (sl : Array (Option Value)) (x : Int) (u : Tok) (c0 : (decide (x < -(2 ^ 63)) || decide (x ≥ 2 ^ 63)) = false) (c1 : (items.isEmpty || x == 1) = true) :
    Meets (Builtin.«tuple.__mul__» ⟨[.ref l, .int x u], []⟩) (fun _ R s => s.heap.get? l = some { cls := .type "tuple", dict := dd, data := .seq items n, slots := sl } ∧
      R (.ok (.ret (Value.ref l))) s) :=
  .of_wp fun prog w A R s h => by
    obtain ⟨hp, g, d, tk, os⟩ := s
    obtain ⟨hl, h⟩ := h
    have f1 := AutoSeq1.idx_int
    wp_walk using wpAny_loadPart' hl
    repeat (first
      | (refine wpAny_ite_false (decide_eq_false (by rw [c0]; exact Bool.false_ne_true)) ?_; wp_walk using wpAny_loadPart' hl)
      | (refine wpAny_ite_true (decide_eq_true c1) ?_; wp_walk using wpAny_loadPart' hl))
    exact ⟨_, rfl, h⟩
theorem tuple_mul_none (l : Addr) (items : Array Value) (n : Nat) (dd : Option Addr) (sl : Array (Option Value)) (x : Int) (u : Tok) (c0 : (decide (x < -(2 ^ 63)) || decide (x ≥ 2 ^ 63)) = false) (c1 : (items.isEmpty || x == 1) = false) (c2 : (decide (x ≤ 0) || items.isEmpty) = true) :
    Meets (Builtin.«tuple.__mul__» ⟨[.ref l, .int x u], []⟩) (fun _ R s => s.heap.get? l = some { cls := .type "tuple", dict := dd, data := .seq items n, slots := sl } ∧
      R (.ok (.ret (Value.ref s.heap.objs.size))) { s with heap := s.heap.push { cls := Value.type "tuple", data := Data.seq #[] } }) :=
  .of_wp fun prog w A R s h => by
    obtain ⟨hp, g, d, tk, os⟩ := s
    obtain ⟨hl, h⟩ := h
    have f1 := AutoSeq1.idx_int
    wp_walk using wpAny_loadPart' hl
    repeat (first
      | (refine wpAny_ite_false (decide_eq_false (by rw [c0]; exact Bool.false_ne_true)) ?_; wp_walk using wpAny_loadPart' hl)
      | (refine wpAny_ite_false (decide_eq_false (by rw [c1]; exact Bool.false_ne_true)) ?_; wp_walk using wpAny_loadPart' hl)
      | (refine wpAny_ite_true (decide_eq_true c2) ?_; wp_walk using wpAny_loadPart' hl))
    exact ⟨_, rfl, h⟩

variable [Tabs]
def rRepA (K : PySem.W.Frag) : R2 := fun x y H Q => ∃ l k xs, x = .ref l ∧ y = .int k ∧ SqT K H l xs ∧ -1000 ≤ k ∧ k ≤ 1000 ∧ xs.length ≤ 1000 ∧ (xs = [] ∨ k = 1 → Q (.ref l) H) ∧ (xs ≠ [] → k ≠ 1 → ∀ p, H p = none → Q (.ref p) (upd H p (.tup (List.replicate k.toNat xs).flatten)))
section
variable {X : Cx}
theorem op_repA : OpR X (binaryOp .Mult) (rRepA X.K) := by
  intro pins s σ H x y v u Q I rx ry h
  obtain ⟨l, k, xs, rfl, rfl, hT, h1, h2, hz, q1, q2⟩ := h
  by_cases c : xs ≠ [] ∧ 2 ≤ k
  · exact op_repT pins s σ H _ _ v u Q I rx ry ⟨l, k, xs, rfl, rfl, hT, c.1, c.2, h2, hz, q2 c.1 (by omega)⟩
  · cases rx
    obtain ⟨t, rfl⟩ := ry
    obtain ⟨its, r, ⟨⟨cls, dd, data, sl⟩, ho, hc, n, hd⟩, hs⟩ := I.tuple hT
    simp only at hc hd
    subst hc hd
    have hle : its.length = xs.length := r.length.symm
    have c0 : (decide (k < -(2 ^ 63)) || decide (k ≥ 2 ^ 63)) = false := by
      rw [decide_eq_false (by omega), decide_eq_false (by omega)] <;> rfl
    by_cases c1 : xs = [] ∨ k = 1
    · have e1 : (its.toArray.isEmpty || k == 1) = true := by
        rcases c1 with e | e
        · have : its = [] := List.eq_nil_of_length_eq_zero (by rw [hle, e]; rfl)
          rw [this]; rfl
        · rw [e]; simp
      exact wpAny_binaryOp_repeat_ref (T := "tuple") (U := "int") (by decide) ⟨_, ho, rfl⟩ (fun s' => typeIs_int s' k t) noFill_tuple_mul F.fills_int_mul F.slot_int_rmul repeat_tuple F.slot_int_index.lookup
        (call_meets F.slot_int_rmul (typeIs_int s k t) F.entry_int_rmul (F.args_int_rmul_2 _ _) (int_rmul_tuple k t l its.toArray n dd sl)
          ⟨ho, rfl, ⟨_, ho, rfl⟩, call_meets F.slot_tuple_mul ⟨_, ho, rfl⟩ F.entry_tuple_mul (F.args_tuple_mul_2 _ _) (tuple_mul_same l its.toArray n dd sl k t c0 e1) ⟨ho, ⟨.ref l, H, I, rfl, q1 c1⟩⟩⟩)
    · have hne : xs ≠ [] := fun e => c1 (.inl e)
      have hk1 : k ≠ 1 := fun e => c1 (.inr e)
      have hk0 : k ≤ 0 := by
        rcases Int.lt_or_le k 2 with h | h
        · omega
        · exact absurd ⟨hne, h⟩ c
      have hn : its ≠ [] := fun e => hne (List.eq_nil_of_length_eq_zero (by rw [← hle, e]; rfl))
      have e1 : (its.toArray.isEmpty || k == 1) = false := by
        cases its with
        | nil => exact absurd rfl hn
        | cons a b =>
          rw [show (a :: b).toArray.isEmpty = false from rfl, Bool.false_or]
          exact beq_eq_false_iff_ne.mpr hk1
      have e2 : (decide (k ≤ 0) || its.toArray.isEmpty) = true := by rw [decide_eq_true hk0]; rfl
      have q := q2 hne hk1
      have e0 : (List.replicate k.toNat xs).flatten = [] := by rw [show k.toNat = 0 by omega]; rfl
      rw [e0] at q
      exact wpAny_binaryOp_repeat_ref (T := "tuple") (U := "int") (by decide) ⟨_, ho, rfl⟩ (fun s' => typeIs_int s' k t) noFill_tuple_mul F.fills_int_mul F.slot_int_rmul repeat_tuple F.slot_int_index.lookup
        (call_meets F.slot_int_rmul (typeIs_int s k t) F.entry_int_rmul (F.args_int_rmul_2 _ _) (int_rmul_tuple k t l its.toArray n dd sl)
          ⟨ho, rfl, ⟨_, ho, rfl⟩, call_meets F.slot_tuple_mul ⟨_, ho, rfl⟩ F.entry_tuple_mul (F.args_tuple_mul_2 _ _) (tuple_mul_none l its.toArray n dd sl k t c0 e1 e2)
            ⟨ho, ⟨.ref s.heap.objs.size, _, I.laid (t' := s.toks) (o := .tup []) (fun b ob q => Heap.get?_push_of_some _ q) (Nat.le_refl _) ⟨Nat.zero_le _, [], .nil, IsTup.new _ _⟩, rfl, q _ (I.hok.fresh (Nat.le_refl _))⟩⟩⟩)
end
def mulTD : D → D → Option D | .tup ds, .int k => if !iLt k (-1000) && !iLt 1000 k && Nat.ble ds.length 1000 then some (.tup (List.replicate k.toNat ds).flatten) else none | _, _ => none
theorem Reps.rep {K : PySem.W.Frag} {G : Hp} {ds : List D} {vs : List V} (r : Reps K G ds vs) : ∀ k : Nat, Reps K G (List.replicate k ds).flatten (List.replicate k vs).flatten
  | 0 => Reps.nil
  | k + 1 => by
    rw [List.replicate_succ, List.replicate_succ, List.flatten_cons, List.flatten_cons]
    exact r.append (Reps.rep r k)
theorem od_repA {K : PySem.W.Frag} : OpD K (rRepA K) mulTD := by
  intro G H d1 d2 d v1 v2 Q s r1 r2 e q
  unfold mulTD at e
  split at e
  · rename_i ds k
    split at e
    · rename_i c
      cases e
      simp only [Bool.and_eq_true, not_iLt, decide_eq_true_eq, Nat.ble_eq] at c
      have r1' := r1
      simp only [Rep] at r1 r2
      obtain ⟨a, vs, rfl, h1, q1⟩ := r1
      subst r2
      refine ⟨a, k, vs, rfl, rfl, SqT.mono s h1, c.1.1, c.1.2, by rw [q1.length]; exact c.2, fun h => ?_, fun _ _ p hp => q _ _ _ (PStp.laid s hp) (Rep.tup_new (s.free hp) (q1.rep _))⟩
      have e : (List.replicate k.toNat ds).flatten = ds := by
        rcases h with h | h
        · have : ds = [] := List.eq_nil_of_length_eq_zero (by rw [← q1.length, h]; rfl)
          subst this
          induction k.toNat with
          | zero => rfl
          | succ n ih => rw [List.replicate_succ, List.flatten_cons, ih]; rfl
        · subst h; simp
      rw [e] at q
      exact q _ H G (PStp.refl s) r1'
    · cases e
  · cases e

/-! ### slices -/
abbrev FP := Rho → Rz (Option Int × Rho)
def pNone : FP := fun ρ => .ok (none, ρ)
def pSome (fe : FE) : FP := fun ρ => (fe ρ).bind fun p => match p.1 with | .int i => .ok (some i, p.2) | _ => .no
def rdP (K : PySem.W.Frag) (f : FP) : TO := fun σ H Q => ∃ ρ G, SR K G H σ ρ ∧ match f ρ with
  | .ok (o, ρ') => ∀ H' G', Stp σ ρ G H σ ρ' G' H' → SR K G' H' σ ρ' → Q o H'
  | .ex _ _ => False
  | .no => False
def cutD (ds : List D) (lo hi : Option Int) : List D := (ds.drop (HT.sIx ds.length 0 lo)).take (HT.sIx ds.length ds.length hi - HT.sIx ds.length 0 lo)
def slD (d : D) (lo hi : Option Int) : Option D := match d with
  | .tup ds => some (.tup (cutD ds lo hi))
  | .lst ds => some (.lst (cutD ds lo hi))
  | _ => none
def eSl (fe : FE) (fl fh : FP) : FE := fun ρ => (fe ρ).bind fun p => (fl p.2).bind fun l => (fh l.2).bind fun h => ofO (slD p.1 l.1 h.1) h.2
section
variable {X : Cx} {e : Expr} {lo hi : Option Expr} {fe : FE} {fl fh : FP} {pos p2 : Pos}
theorem dp_none : PO X none (rdP X.K pNone) := ⟨fun pins s σ H Q I ⟨ρ, G, J, h⟩ => po_none.run pins s σ H Q I (h H G (Stp.refl _ _ _ _) J)⟩
theorem dp_some (he : PE X e (rd X.K fe)) : PO X (some e) (rdP X.K (pSome fe)) := by
  refine ⟨fun pins s σ H Q I ⟨ρ, G, J, h⟩ => (po_some he).run pins s σ H Q I ?_⟩
  refine rd_of J ?_
  unfold pSome at h
  unfold rdK
  cases q : fe ρ with
  | ex _ _ => rw [q] at h; exact h
  | no => rw [q] at h; exact h
  | ok p =>
    obtain ⟨d, ρ1⟩ := p
    rw [q] at h
    dsimp only [Rz.bind] at h ⊢
    intro v H1 G1 s1 I1 r1
    cases d with
    | int i =>
      simp only [Rep] at r1
      exact ⟨i, r1, h H1 G1 s1 I1⟩
    | _ => exact h.elim
theorem cut_reps {K : PySem.W.Frag} {G : Hp} {ds : List D} {vs : List V} (r : Reps K G ds vs) (lo hi : Option Int) : Reps K G (cutD ds lo hi) (cutV vs lo hi) := by
  unfold cutD cutV
  rw [r.length]
  exact (r.drop _).take _
theorem de_slice (he : PE X e (rd X.K fe)) (hl : PO X lo (rdP X.K fl)) (hu : PO X hi (rdP X.K fh)) : PE X (.Subscript e (.Slice lo hi none p2) pos) (rd X.K (eSl fe fl fh)) := by
  have hr : SlR X (fun x lo hi H Q => rSlL X.K x lo hi H Q ∨ rSlA X.K x lo hi H Q) := by
    intro pins s σ H x v vl vu lo hi sl Q I rx hs pl pu h
    rcases h with h | h
    · exact sl_list pins s σ H x v vl vu lo hi sl Q I rx hs pl pu h
    · exact sl_tupA pins s σ H x v vl vu lo hi sl Q I rx hs pl pu h
  refine pe_imp (pe_slice hr he hl hu) fun σ H Q ⟨ρ, G, I, h⟩ => ?_
  unfold eSl at h
  refine rd_of I ?_
  unfold rdK
  cases q0 : fe ρ with
  | ex _ _ => rw [q0] at h; exact h
  | no => rw [q0] at h; exact h
  | ok p =>
    obtain ⟨d, ρ1⟩ := p
    rw [q0] at h
    dsimp only [Rz.bind] at h ⊢
    intro v H1 G1 s1 I1 r1
    refine ⟨ρ1, G1, I1, ?_⟩
    cases q1 : fl ρ1 with
    | ex _ _ => rw [q1] at h; exact h
    | no => rw [q1] at h; exact h
    | ok p =>
      obtain ⟨l, ρ2⟩ := p
      rw [q1] at h
      dsimp only [Rz.bind] at h ⊢
      intro H2 G2 s2 I2
      refine ⟨ρ2, G2, I2, ?_⟩
      cases q2 : fh ρ2 with
      | ex _ _ => rw [q2] at h; exact h
      | no => rw [q2] at h; exact h
      | ok p =>
        obtain ⟨u, ρ3⟩ := p
        rw [q2] at h
        dsimp only [Rz.bind] at h ⊢
        intro H3 G3 s3 I3
        have rr := Rep.mono s3.sub _ _ (Rep.mono s2.sub _ _ r1)
        have st := (s1.trans s2).trans s3
        cases e0 : slD d l u with
        | none => rw [e0] at h; exact h.elim
        | some d' =>
          rw [e0] at h
          dsimp only [ofO] at h
          rw [frc_eq] at h
          cases d with
          | tup ds =>
            cases e0
            have rr' := rr
            simp only [Rep] at rr
            obtain ⟨a, vs, rfl, hq, r2⟩ := rr
            refine .inr ⟨a, vs, rfl, SqT.mono I3.sub hq, fun hw => ?_, fun _ p hp => ?_⟩
            · have ec : cutD ds l u = ds := by
                unfold cutD
                rw [← r2.length, hw.1, hw.2, List.drop_zero, Nat.sub_zero, r2.length, List.take_length]
              rw [ec] at h
              exact h _ H3 G3 st I3 rr'
            · have P := PStp.laid (o := .tup (cutV vs l u)) I3.sub hp
              exact h _ _ _ (st.trans P.stp) (I3.pure P) (Rep.tup_new (I3.sub.free hp) (cut_reps r2 l u))
          | lst ds =>
            cases e0
            simp only [Rep] at rr
            obtain ⟨a, vs, rfl, hq, r2⟩ := rr
            refine .inl ⟨a, vs, rfl, SqL.of (I3.sub _ _ hq), fun p hp => ?_⟩
            have P := PStp.laid (o := .lst (cutV vs l u)) I3.sub hp
            exact h _ _ _ (st.trans P.stp) (I3.pure P) (Rep.lst_new (I3.sub.free hp) (cut_reps r2 l u))
          | _ => cases e0
end

/-! ### starred arguments of displays -/
def aStar (fe : FE) (fr : FA) : FA := fun ρ => (fe ρ).bind fun p => match (match p.1 with | .tup ds => some ds | .lst ds => some ds | _ => none) with
  | some ds => (fr p.2).bind fun q => .ok (ds ++ q.1, q.2)
  | none => .no
section
variable {X : Cx} {e : Expr} {es : List Expr} {fe : FE} {fr : FA} {p : Pos}
theorem da_star (he : PE X e (rd X.K fe)) (hr : PA X es (rdA X.K fr)) (hs : starEach (.Starred e p :: es) X.env = (true, eval e X.env) :: starEach es X.env := by rfl) : PA X (.Starred e p :: es) (rdA X.K (aStar fe fr)) := by
  refine pa_imp (StX.pa_star he hr hs) fun σ H Q ⟨ρ, G, I, h⟩ => ?_
  unfold aStar at h
  refine rd_of I ?_
  unfold rdK
  cases q0 : fe ρ with
  | ex _ _ => rw [q0] at h; exact h
  | no => rw [q0] at h; exact h
  | ok p =>
    obtain ⟨d, ρ1⟩ := p
    rw [q0] at h
    dsimp only [Rz.bind] at h ⊢
    intro v H1 G1 s1 I1 r1
    have go : ∀ (ds : List D) (vs : List V), Reps X.K G1 ds vs → (match (fr ρ1).bind fun q => Rz.ok (ds ++ q.1, q.2) with
        | .ok (ds, ρ') => ∀ vs H' G', Stp σ ρ G H σ ρ' G' H' → SR X.K G' H' σ ρ' → Reps X.K G' ds vs → Q vs H' | .ex _ _ => False | .no => False) →
        rdA X.K fr σ H1 fun ys H2 => Q (vs ++ ys) H2 := fun ds vs r h => by
      refine ⟨ρ1, G1, I1, ?_⟩
      cases q1 : fr ρ1 with
      | ex _ _ => rw [q1] at h; exact h
      | no => rw [q1] at h; exact h
      | ok p =>
        obtain ⟨es, ρ2⟩ := p
        rw [q1] at h
        exact fun us H2 G2 s2 I2 r2 => h _ H2 G2 (s1.trans s2) I2 ((Reps.mono s2.sub _ _ r).append r2)
    cases d with
    | tup ds =>
      simp only [Rep] at r1
      obtain ⟨a, vs, rfl, hq, r2⟩ := r1
      exact ⟨a, vs, rfl, .inl (SqT.mono I1.sub hq), go ds vs r2 h⟩
    | lst ds =>
      simp only [Rep] at r1
      obtain ⟨a, vs, rfl, hq, r2⟩ := r1
      exact ⟨a, vs, rfl, .inr (SqL.of (I1.sub _ _ hq)), go ds vs r2 h⟩
    | _ => exact h.elim
end
end M

/-! a dict beside values of other kinds: never equal (printed by gen_dict.py) -/
namespace M
open PySem PySem.SeqAt PySem.MeetsSeq AutoSeq1
abbrev dObj (es : Array DictEntry) (ep : Nat) : Obj := { cls := .type "dict", dict := none, data := .dict es ep, slots := #[] }
theorem d_eq_none (l : Addr) (es : Array DictEntry) (ep : Nat) :
    Meets (Builtin.«dict.__eq__» ⟨[.ref l, .none], []⟩) (fun _ R s => s.heap.get? l = some (dObj es ep) ∧ R (.ok (.ret .notImplemented)) s) :=
  .of_wp fun prog w A R s h => by
    obtain ⟨hp, g, d, tk, os⟩ := s; obtain ⟨hl, h⟩ := h; have f1 := F.sub_NoneType_dict
    wp_walk using wpAny_loadPart' hl, wpAny_load hl
    exact ⟨_, rfl, h⟩
theorem d_eq_bool (l : Addr) (es : Array DictEntry) (ep : Nat) (b : Bool) :
    Meets (Builtin.«dict.__eq__» ⟨[.ref l, .bool b], []⟩) (fun _ R s => s.heap.get? l = some (dObj es ep) ∧ R (.ok (.ret .notImplemented)) s) :=
  .of_wp fun prog w A R s h => by
    obtain ⟨hp, g, d, tk, os⟩ := s; obtain ⟨hl, h⟩ := h; have f1 := F.sub_bool_dict
    wp_walk using wpAny_loadPart' hl, wpAny_load hl
    exact ⟨_, rfl, h⟩
theorem bool_eq_d (l : Addr) (es : Array DictEntry) (ep : Nat) (b : Bool) :
    Meets (Builtin.«int.__eq__» ⟨[.bool b, .ref l], []⟩) (fun _ R s => s.heap.get? l = some (dObj es ep) ∧ R (.ok (.ret .notImplemented)) s) :=
  .of_wp fun prog w A R s h => by
    obtain ⟨hp, g, d, tk, os⟩ := s; obtain ⟨hl, h⟩ := h; wp_walk using wpAny_loadPart' hl, wpAny_load hl
    exact ⟨_, rfl, h⟩
theorem d_eq_int (l : Addr) (es : Array DictEntry) (ep : Nat) (b : Int) (u : Tok) :
    Meets (Builtin.«dict.__eq__» ⟨[.ref l, .int b u], []⟩) (fun _ R s => s.heap.get? l = some (dObj es ep) ∧ R (.ok (.ret .notImplemented)) s) :=
  .of_wp fun prog w A R s h => by
    obtain ⟨hp, g, d, tk, os⟩ := s; obtain ⟨hl, h⟩ := h; have f1 := F.sub_int_dict
    wp_walk using wpAny_loadPart' hl, wpAny_load hl
    exact ⟨_, rfl, h⟩
theorem int_eq_d (l : Addr) (es : Array DictEntry) (ep : Nat) (b : Int) (u : Tok) :
    Meets (Builtin.«int.__eq__» ⟨[.int b u, .ref l], []⟩) (fun _ R s => s.heap.get? l = some (dObj es ep) ∧ R (.ok (.ret .notImplemented)) s) :=
  .of_wp fun prog w A R s h => by
    obtain ⟨hp, g, d, tk, os⟩ := s; obtain ⟨hl, h⟩ := h; wp_walk using wpAny_loadPart' hl, wpAny_load hl
    exact ⟨_, rfl, h⟩
theorem d_eq_str (l : Addr) (es : Array DictEntry) (ep : Nat) (b : Str) (u : Tok) :
    Meets (Builtin.«dict.__eq__» ⟨[.ref l, .str b u], []⟩) (fun _ R s => s.heap.get? l = some (dObj es ep) ∧ R (.ok (.ret .notImplemented)) s) :=
  .of_wp fun prog w A R s h => by
    obtain ⟨hp, g, d, tk, os⟩ := s; obtain ⟨hl, h⟩ := h; have f1 := F.sub_str_dict
    wp_walk using wpAny_loadPart' hl, wpAny_load hl
    exact ⟨_, rfl, h⟩
theorem str_eq_d (l : Addr) (es : Array DictEntry) (ep : Nat) (b : Str) (u : Tok) :
    Meets (Builtin.«str.__eq__» ⟨[.str b u, .ref l], []⟩) (fun _ R s => s.heap.get? l = some (dObj es ep) ∧ R (.ok (.ret .notImplemented)) s) :=
  .of_wp fun prog w A R s h => by
    obtain ⟨hp, g, d, tk, os⟩ := s; obtain ⟨hl, h⟩ := h; wp_walk using wpAny_loadPart' hl, wpAny_load hl
    exact ⟨_, rfl, h⟩
theorem d_eq_list (l : Addr) (es : Array DictEntry) (ep : Nat) (l2 : Addr) (items : Array Value) (n2 : Nat) (dd2 : Option Addr) (sl2 : Array (Option Value)) :
    Meets (Builtin.«dict.__eq__» ⟨[.ref l, .ref l2], []⟩) (fun _ R s => s.heap.get? l = some (dObj es ep) ∧ s.heap.get? l2 = some { cls := .type "list", dict := dd2, data := .seq items n2, slots := sl2 } ∧ R (.ok (.ret .notImplemented)) s) :=
  .of_wp fun prog w A R s h => by
    obtain ⟨hp, g, d, tk, os⟩ := s; obtain ⟨hl, h2, h⟩ := h; have f1 := F.sub_list_dict
    wp_walk using wpAny_loadPart' hl, wpAny_load hl, wpAny_loadPart' h2, wpAny_load h2
    exact ⟨_, rfl, h⟩
theorem list_eq_d (l : Addr) (es : Array DictEntry) (ep : Nat) (l2 : Addr) (items : Array Value) (n2 : Nat) (dd2 : Option Addr) (sl2 : Array (Option Value)) :
    Meets (Builtin.«list.__eq__» ⟨[.ref l2, .ref l], []⟩) (fun _ R s => s.heap.get? l = some (dObj es ep) ∧ s.heap.get? l2 = some { cls := .type "list", dict := dd2, data := .seq items n2, slots := sl2 } ∧ R (.ok (.ret .notImplemented)) s) :=
  .of_wp fun prog w A R s h => by
    obtain ⟨hp, g, d, tk, os⟩ := s; obtain ⟨hl, h2, h⟩ := h; have f1 := F.sub_dict_list
    wp_walk using wpAny_loadPart' hl, wpAny_load hl, wpAny_loadPart' h2, wpAny_load h2
    exact ⟨_, rfl, h⟩
theorem d_eq_tuple (l : Addr) (es : Array DictEntry) (ep : Nat) (l2 : Addr) (items : Array Value) (n2 : Nat) (dd2 : Option Addr) (sl2 : Array (Option Value)) :
    Meets (Builtin.«dict.__eq__» ⟨[.ref l, .ref l2], []⟩) (fun _ R s => s.heap.get? l = some (dObj es ep) ∧ s.heap.get? l2 = some { cls := .type "tuple", dict := dd2, data := .seq items n2, slots := sl2 } ∧ R (.ok (.ret .notImplemented)) s) :=
  .of_wp fun prog w A R s h => by
    obtain ⟨hp, g, d, tk, os⟩ := s; obtain ⟨hl, h2, h⟩ := h; have f1 := F.sub_tuple_dict
    wp_walk using wpAny_loadPart' hl, wpAny_load hl, wpAny_loadPart' h2, wpAny_load h2
    exact ⟨_, rfl, h⟩
theorem tuple_eq_d (l : Addr) (es : Array DictEntry) (ep : Nat) (l2 : Addr) (items : Array Value) (n2 : Nat) (dd2 : Option Addr) (sl2 : Array (Option Value)) :
    Meets (Builtin.«tuple.__eq__» ⟨[.ref l2, .ref l], []⟩) (fun _ R s => s.heap.get? l = some (dObj es ep) ∧ s.heap.get? l2 = some { cls := .type "tuple", dict := dd2, data := .seq items n2, slots := sl2 } ∧ R (.ok (.ret .notImplemented)) s) :=
  .of_wp fun prog w A R s h => by
    obtain ⟨hp, g, d, tk, os⟩ := s; obtain ⟨hl, h2, h⟩ := h; have f1 := F.sub_dict_tuple
    wp_walk using wpAny_loadPart' hl, wpAny_load hl, wpAny_loadPart' h2, wpAny_load h2
    exact ⟨_, rfl, h⟩
theorem d_ne_none (l : Addr) (es : Array DictEntry) (ep : Nat) :
    Meets (Builtin.«dict.__ne__» ⟨[.ref l, .none], []⟩) (fun _ R s => s.heap.get? l = some (dObj es ep) ∧ R (.ok (.ret .notImplemented)) s) :=
  .of_wp fun prog w A R s h => by
    obtain ⟨hp, g, d, tk, os⟩ := s; obtain ⟨hl, h⟩ := h; have f1 := F.sub_NoneType_dict
    wp_walk using wpAny_loadPart' hl, wpAny_load hl
    exact ⟨_, rfl, h⟩
theorem d_ne_bool (l : Addr) (es : Array DictEntry) (ep : Nat) (b : Bool) :
    Meets (Builtin.«dict.__ne__» ⟨[.ref l, .bool b], []⟩) (fun _ R s => s.heap.get? l = some (dObj es ep) ∧ R (.ok (.ret .notImplemented)) s) :=
  .of_wp fun prog w A R s h => by
    obtain ⟨hp, g, d, tk, os⟩ := s; obtain ⟨hl, h⟩ := h; have f1 := F.sub_bool_dict
    wp_walk using wpAny_loadPart' hl, wpAny_load hl
    exact ⟨_, rfl, h⟩
theorem bool_ne_d (l : Addr) (es : Array DictEntry) (ep : Nat) (b : Bool) :
    Meets (Builtin.«int.__ne__» ⟨[.bool b, .ref l], []⟩) (fun _ R s => s.heap.get? l = some (dObj es ep) ∧ R (.ok (.ret .notImplemented)) s) :=
  .of_wp fun prog w A R s h => by
    obtain ⟨hp, g, d, tk, os⟩ := s; obtain ⟨hl, h⟩ := h; wp_walk using wpAny_loadPart' hl, wpAny_load hl
    exact ⟨_, rfl, h⟩
theorem d_ne_int (l : Addr) (es : Array DictEntry) (ep : Nat) (b : Int) (u : Tok) :
    Meets (Builtin.«dict.__ne__» ⟨[.ref l, .int b u], []⟩) (fun _ R s => s.heap.get? l = some (dObj es ep) ∧ R (.ok (.ret .notImplemented)) s) :=
  .of_wp fun prog w A R s h => by
    obtain ⟨hp, g, d, tk, os⟩ := s; obtain ⟨hl, h⟩ := h; have f1 := F.sub_int_dict
    wp_walk using wpAny_loadPart' hl, wpAny_load hl
    exact ⟨_, rfl, h⟩
theorem int_ne_d (l : Addr) (es : Array DictEntry) (ep : Nat) (b : Int) (u : Tok) :
    Meets (Builtin.«int.__ne__» ⟨[.int b u, .ref l], []⟩) (fun _ R s => s.heap.get? l = some (dObj es ep) ∧ R (.ok (.ret .notImplemented)) s) :=
  .of_wp fun prog w A R s h => by
    obtain ⟨hp, g, d, tk, os⟩ := s; obtain ⟨hl, h⟩ := h; wp_walk using wpAny_loadPart' hl, wpAny_load hl
    exact ⟨_, rfl, h⟩
theorem d_ne_str (l : Addr) (es : Array DictEntry) (ep : Nat) (b : Str) (u : Tok) :
    Meets (Builtin.«dict.__ne__» ⟨[.ref l, .str b u], []⟩) (fun _ R s => s.heap.get? l = some (dObj es ep) ∧ R (.ok (.ret .notImplemented)) s) :=
  .of_wp fun prog w A R s h => by
    obtain ⟨hp, g, d, tk, os⟩ := s; obtain ⟨hl, h⟩ := h; have f1 := F.sub_str_dict
    wp_walk using wpAny_loadPart' hl, wpAny_load hl
    exact ⟨_, rfl, h⟩
theorem str_ne_d (l : Addr) (es : Array DictEntry) (ep : Nat) (b : Str) (u : Tok) :
    Meets (Builtin.«str.__ne__» ⟨[.str b u, .ref l], []⟩) (fun _ R s => s.heap.get? l = some (dObj es ep) ∧ R (.ok (.ret .notImplemented)) s) :=
  .of_wp fun prog w A R s h => by
    obtain ⟨hp, g, d, tk, os⟩ := s; obtain ⟨hl, h⟩ := h; wp_walk using wpAny_loadPart' hl, wpAny_load hl
    exact ⟨_, rfl, h⟩
theorem d_ne_list (l : Addr) (es : Array DictEntry) (ep : Nat) (l2 : Addr) (items : Array Value) (n2 : Nat) (dd2 : Option Addr) (sl2 : Array (Option Value)) :
    Meets (Builtin.«dict.__ne__» ⟨[.ref l, .ref l2], []⟩) (fun _ R s => s.heap.get? l = some (dObj es ep) ∧ s.heap.get? l2 = some { cls := .type "list", dict := dd2, data := .seq items n2, slots := sl2 } ∧ R (.ok (.ret .notImplemented)) s) :=
  .of_wp fun prog w A R s h => by
    obtain ⟨hp, g, d, tk, os⟩ := s; obtain ⟨hl, h2, h⟩ := h; have f1 := F.sub_list_dict
    wp_walk using wpAny_loadPart' hl, wpAny_load hl, wpAny_loadPart' h2, wpAny_load h2
    exact ⟨_, rfl, h⟩
theorem list_ne_d (l : Addr) (es : Array DictEntry) (ep : Nat) (l2 : Addr) (items : Array Value) (n2 : Nat) (dd2 : Option Addr) (sl2 : Array (Option Value)) :
    Meets (Builtin.«list.__ne__» ⟨[.ref l2, .ref l], []⟩) (fun _ R s => s.heap.get? l = some (dObj es ep) ∧ s.heap.get? l2 = some { cls := .type "list", dict := dd2, data := .seq items n2, slots := sl2 } ∧ R (.ok (.ret .notImplemented)) s) :=
  .of_wp fun prog w A R s h => by
    obtain ⟨hp, g, d, tk, os⟩ := s; obtain ⟨hl, h2, h⟩ := h; have f1 := F.sub_dict_list
    wp_walk using wpAny_loadPart' hl, wpAny_load hl, wpAny_loadPart' h2, wpAny_load h2
    exact ⟨_, rfl, h⟩
theorem d_ne_tuple (l : Addr) (es : Array DictEntry) (ep : Nat) (l2 : Addr) (items : Array Value) (n2 : Nat) (dd2 : Option Addr) (sl2 : Array (Option Value)) :
    Meets (Builtin.«dict.__ne__» ⟨[.ref l, .ref l2], []⟩) (fun _ R s => s.heap.get? l = some (dObj es ep) ∧ s.heap.get? l2 = some { cls := .type "tuple", dict := dd2, data := .seq items n2, slots := sl2 } ∧ R (.ok (.ret .notImplemented)) s) :=
  .of_wp fun prog w A R s h => by
    obtain ⟨hp, g, d, tk, os⟩ := s; obtain ⟨hl, h2, h⟩ := h; have f1 := F.sub_tuple_dict
    wp_walk using wpAny_loadPart' hl, wpAny_load hl, wpAny_loadPart' h2, wpAny_load h2
    exact ⟨_, rfl, h⟩
theorem tuple_ne_d (l : Addr) (es : Array DictEntry) (ep : Nat) (l2 : Addr) (items : Array Value) (n2 : Nat) (dd2 : Option Addr) (sl2 : Array (Option Value)) :
    Meets (Builtin.«tuple.__ne__» ⟨[.ref l2, .ref l], []⟩) (fun _ R s => s.heap.get? l = some (dObj es ep) ∧ s.heap.get? l2 = some { cls := .type "tuple", dict := dd2, data := .seq items n2, slots := sl2 } ∧ R (.ok (.ret .notImplemented)) s) :=
  .of_wp fun prog w A R s h => by
    obtain ⟨hp, g, d, tk, os⟩ := s; obtain ⟨hl, h2, h⟩ := h; have f1 := F.sub_dict_tuple
    wp_walk using wpAny_loadPart' hl, wpAny_load hl, wpAny_loadPart' h2, wpAny_load h2
    exact ⟨_, rfl, h⟩
section
variable {A : Around} {s : Shared}
theorem RcAt_d_none {l : Addr} {es : Array DictEntry} {ep : Nat} (ho : s.heap.get? l = some (dObj es ep)) (hu : A.units < cLine) : RcAt A s (.ref l) (.none) false := fun prog w E Q h => by
  exact rc_eq_decline_or (k := false) ⟨_, ho, rfl⟩ rfl (by decide) F.sub_NoneType_dict F.slot_dict_eq F.slot_NoneType_eq_refl
    (fun _ hq => call_meets F.slot_dict_eq ⟨_, ho, rfl⟩ F.entry_dict_eq (F.args_dict_eq_2 _ _) (d_eq_none l es ep ) ⟨ho, hq⟩)
    (fun _ hq => call_gives F.slot_NoneType_eq_refl rfl F.entry_NoneType_eq (F.args_NoneType_eq_2 _ _) (NoneType___eq___none_ref_0 l) hq)
    (fun _ hq => wpAny_of_eq (rfl : isSame (.ref l) (.none) = pure false) hq) (.inr hu) h
theorem RcAt_none_d {l : Addr} {es : Array DictEntry} {ep : Nat} (ho : s.heap.get? l = some (dObj es ep)) (hu : A.units < cLine) : RcAt A s (.none) (.ref l) false := fun prog w E Q h => by
  exact rc_eq_decline_or (k := false) rfl ⟨_, ho, rfl⟩ (by decide) F.sub_dict_NoneType F.slot_NoneType_eq F.slot_dict_eq_refl
    (fun _ hq => call_gives F.slot_NoneType_eq rfl F.entry_NoneType_eq (F.args_NoneType_eq_2 _ _) (NoneType___eq___none_ref_0 l) hq)
    (fun _ hq => call_meets F.slot_dict_eq_refl ⟨_, ho, rfl⟩ F.entry_dict_eq (F.args_dict_eq_2 _ _) (d_eq_none l es ep ) ⟨ho, hq⟩)
    (fun _ hq => wpAny_of_eq (rfl : isSame (.none) (.ref l) = pure false) hq) (.inr hu) h
theorem EqAt_d_none {l : Addr} {es : Array DictEntry} {ep : Nat} (ho : s.heap.get? l = some (dObj es ep)) (hu : A.units < cLine) : EqAt A s (.ref l) (.none) false := fun prog w E Q h => by
  unfold eqBool
  refine wpAny_holding (wpAny_ite_split (fun hab => absurd (eq_of_beq hab) nofun) fun _ => ?_)
  exact wpAny_bind (RcAt_d_none  ho hu prog w E _ (wpAny_truthy_bool h))
theorem EqAt_none_d {l : Addr} {es : Array DictEntry} {ep : Nat} (ho : s.heap.get? l = some (dObj es ep)) (hu : A.units < cLine) : EqAt A s (.none) (.ref l) false := fun prog w E Q h => by
  unfold eqBool
  refine wpAny_holding (wpAny_ite_split (fun hab => absurd (eq_of_beq hab) nofun) fun _ => ?_)
  exact wpAny_bind (RcAt_none_d  ho hu prog w E _ (wpAny_truthy_bool h))
theorem RcAt_d_bool {l : Addr} {es : Array DictEntry} {ep : Nat} (b : Bool) (ho : s.heap.get? l = some (dObj es ep)) (hu : A.units < cLine) : RcAt A s (.ref l) (.bool b) false := fun prog w E Q h => by
  exact rc_eq_decline_or (k := false) ⟨_, ho, rfl⟩ rfl (by decide) F.sub_bool_dict F.slot_dict_eq F.slot_bool_eq_refl
    (fun _ hq => call_meets F.slot_dict_eq ⟨_, ho, rfl⟩ F.entry_dict_eq (F.args_dict_eq_2 _ _) (d_eq_bool l es ep b) ⟨ho, hq⟩)
    (fun _ hq => call_meets F.slot_bool_eq_refl rfl F.entry_int_eq (F.args_int_eq_2 _ _) (bool_eq_d l es ep b) ⟨ho, hq⟩)
    (fun _ hq => wpAny_of_eq (rfl : isSame (.ref l) (.bool b) = pure false) hq) (.inr hu) h
theorem RcAt_bool_d {l : Addr} {es : Array DictEntry} {ep : Nat} (b : Bool) (ho : s.heap.get? l = some (dObj es ep)) (hu : A.units < cLine) : RcAt A s (.bool b) (.ref l) false := fun prog w E Q h => by
  exact rc_eq_decline_or (k := false) rfl ⟨_, ho, rfl⟩ (by decide) F.sub_dict_bool F.slot_bool_eq F.slot_dict_eq_refl
    (fun _ hq => call_meets F.slot_bool_eq rfl F.entry_int_eq (F.args_int_eq_2 _ _) (bool_eq_d l es ep b) ⟨ho, hq⟩)
    (fun _ hq => call_meets F.slot_dict_eq_refl ⟨_, ho, rfl⟩ F.entry_dict_eq (F.args_dict_eq_2 _ _) (d_eq_bool l es ep b) ⟨ho, hq⟩)
    (fun _ hq => wpAny_of_eq (rfl : isSame (.bool b) (.ref l) = pure false) hq) (.inr hu) h
theorem EqAt_d_bool {l : Addr} {es : Array DictEntry} {ep : Nat} (b : Bool) (ho : s.heap.get? l = some (dObj es ep)) (hu : A.units < cLine) : EqAt A s (.ref l) (.bool b) false := fun prog w E Q h => by
  unfold eqBool
  refine wpAny_holding (wpAny_ite_split (fun hab => absurd (eq_of_beq hab) nofun) fun _ => ?_)
  exact wpAny_bind (RcAt_d_bool b ho hu prog w E _ (wpAny_truthy_bool h))
theorem EqAt_bool_d {l : Addr} {es : Array DictEntry} {ep : Nat} (b : Bool) (ho : s.heap.get? l = some (dObj es ep)) (hu : A.units < cLine) : EqAt A s (.bool b) (.ref l) false := fun prog w E Q h => by
  unfold eqBool
  refine wpAny_holding (wpAny_ite_split (fun hab => absurd (eq_of_beq hab) nofun) fun _ => ?_)
  exact wpAny_bind (RcAt_bool_d b ho hu prog w E _ (wpAny_truthy_bool h))
theorem RcAt_d_int {l : Addr} {es : Array DictEntry} {ep : Nat} (b : Int) (u : Tok) (ho : s.heap.get? l = some (dObj es ep)) (hu : A.units < cLine) : RcAt A s (.ref l) (.int b u) false := fun prog w E Q h => by
  exact rc_eq_decline_or (k := false) ⟨_, ho, rfl⟩ (typeIs_int s b u) (by decide) F.sub_int_dict F.slot_dict_eq F.slot_int_eq_refl
    (fun _ hq => call_meets F.slot_dict_eq ⟨_, ho, rfl⟩ F.entry_dict_eq (F.args_dict_eq_2 _ _) (d_eq_int l es ep b u) ⟨ho, hq⟩)
    (fun _ hq => call_meets F.slot_int_eq_refl (typeIs_int s b u) F.entry_int_eq (F.args_int_eq_2 _ _) (int_eq_d l es ep b u) ⟨ho, hq⟩)
    (fun _ hq => wpAny_of_eq (rfl : isSame (.ref l) (.int b u) = pure false) hq) (.inr hu) h
theorem RcAt_int_d {l : Addr} {es : Array DictEntry} {ep : Nat} (b : Int) (u : Tok) (ho : s.heap.get? l = some (dObj es ep)) (hu : A.units < cLine) : RcAt A s (.int b u) (.ref l) false := fun prog w E Q h => by
  exact rc_eq_decline_or (k := false) (typeIs_int s b u) ⟨_, ho, rfl⟩ (by decide) F.sub_dict_int F.slot_int_eq F.slot_dict_eq_refl
    (fun _ hq => call_meets F.slot_int_eq (typeIs_int s b u) F.entry_int_eq (F.args_int_eq_2 _ _) (int_eq_d l es ep b u) ⟨ho, hq⟩)
    (fun _ hq => call_meets F.slot_dict_eq_refl ⟨_, ho, rfl⟩ F.entry_dict_eq (F.args_dict_eq_2 _ _) (d_eq_int l es ep b u) ⟨ho, hq⟩)
    (fun _ hq => wpAny_of_eq (rfl : isSame (.int b u) (.ref l) = pure false) hq) (.inr hu) h
theorem EqAt_d_int {l : Addr} {es : Array DictEntry} {ep : Nat} (b : Int) (u : Tok) (ho : s.heap.get? l = some (dObj es ep)) (hu : A.units < cLine) : EqAt A s (.ref l) (.int b u) false := fun prog w E Q h => by
  unfold eqBool
  refine wpAny_holding (wpAny_ite_split (fun hab => absurd (eq_of_beq hab) nofun) fun _ => ?_)
  exact wpAny_bind (RcAt_d_int b u ho hu prog w E _ (wpAny_truthy_bool h))
theorem EqAt_int_d {l : Addr} {es : Array DictEntry} {ep : Nat} (b : Int) (u : Tok) (ho : s.heap.get? l = some (dObj es ep)) (hu : A.units < cLine) : EqAt A s (.int b u) (.ref l) false := fun prog w E Q h => by
  unfold eqBool
  refine wpAny_holding (wpAny_ite_split (fun hab => absurd (eq_of_beq hab) nofun) fun _ => ?_)
  exact wpAny_bind (RcAt_int_d b u ho hu prog w E _ (wpAny_truthy_bool h))
theorem RcAt_d_str {l : Addr} {es : Array DictEntry} {ep : Nat} (b : Str) (u : Tok) (ho : s.heap.get? l = some (dObj es ep)) (hu : A.units < cLine) : RcAt A s (.ref l) (.str b u) false := fun prog w E Q h => by
  exact rc_eq_decline_or (k := false) ⟨_, ho, rfl⟩ (typeIs_str s b u) (by decide) F.sub_str_dict F.slot_dict_eq F.slot_str_eq_refl
    (fun _ hq => call_meets F.slot_dict_eq ⟨_, ho, rfl⟩ F.entry_dict_eq (F.args_dict_eq_2 _ _) (d_eq_str l es ep b u) ⟨ho, hq⟩)
    (fun _ hq => call_meets F.slot_str_eq_refl (typeIs_str s b u) F.entry_str_eq (F.args_str_eq_2 _ _) (str_eq_d l es ep b u) ⟨ho, hq⟩)
    (fun _ hq => wpAny_of_eq (rfl : isSame (.ref l) (.str b u) = pure false) hq) (.inr hu) h
theorem RcAt_str_d {l : Addr} {es : Array DictEntry} {ep : Nat} (b : Str) (u : Tok) (ho : s.heap.get? l = some (dObj es ep)) (hu : A.units < cLine) : RcAt A s (.str b u) (.ref l) false := fun prog w E Q h => by
  exact rc_eq_decline_or (k := false) (typeIs_str s b u) ⟨_, ho, rfl⟩ (by decide) F.sub_dict_str F.slot_str_eq F.slot_dict_eq_refl
    (fun _ hq => call_meets F.slot_str_eq (typeIs_str s b u) F.entry_str_eq (F.args_str_eq_2 _ _) (str_eq_d l es ep b u) ⟨ho, hq⟩)
    (fun _ hq => call_meets F.slot_dict_eq_refl ⟨_, ho, rfl⟩ F.entry_dict_eq (F.args_dict_eq_2 _ _) (d_eq_str l es ep b u) ⟨ho, hq⟩)
    (fun _ hq => wpAny_of_eq (rfl : isSame (.str b u) (.ref l) = pure false) hq) (.inr hu) h
theorem EqAt_d_str {l : Addr} {es : Array DictEntry} {ep : Nat} (b : Str) (u : Tok) (ho : s.heap.get? l = some (dObj es ep)) (hu : A.units < cLine) : EqAt A s (.ref l) (.str b u) false := fun prog w E Q h => by
  unfold eqBool
  refine wpAny_holding (wpAny_ite_split (fun hab => absurd (eq_of_beq hab) nofun) fun _ => ?_)
  exact wpAny_bind (RcAt_d_str b u ho hu prog w E _ (wpAny_truthy_bool h))
theorem EqAt_str_d {l : Addr} {es : Array DictEntry} {ep : Nat} (b : Str) (u : Tok) (ho : s.heap.get? l = some (dObj es ep)) (hu : A.units < cLine) : EqAt A s (.str b u) (.ref l) false := fun prog w E Q h => by
  unfold eqBool
  refine wpAny_holding (wpAny_ite_split (fun hab => absurd (eq_of_beq hab) nofun) fun _ => ?_)
  exact wpAny_bind (RcAt_str_d b u ho hu prog w E _ (wpAny_truthy_bool h))
theorem RcAt_d_list {l : Addr} {es : Array DictEntry} {ep : Nat} {l2 : Addr} {items : Array Value} (ho : s.heap.get? l = some (dObj es ep)) (h2 : s.heap.IsList l2 items) (hu : A.units < cLine) : RcAt A s (.ref l) (.ref l2) false := fun prog w E Q h => by
  obtain ⟨⟨cls, dd, data, sl⟩, ho2, hc, n, hd⟩ := id h2
  simp only at hc hd
  subst hc hd
  have hne : l ≠ l2 := fun e => by subst e; rw [ho] at ho2; simp [dObj] at ho2
  exact rc_eq_decline_or (k := false) ⟨_, ho, rfl⟩ ⟨_, ho2, rfl⟩ (by decide) F.sub_list_dict F.slot_dict_eq F.slot_list_eq_refl
    (fun _ hq => call_meets F.slot_dict_eq ⟨_, ho, rfl⟩ F.entry_dict_eq (F.args_dict_eq_2 _ _) (d_eq_list l es ep l2 items n dd sl) ⟨ho, ho2, hq⟩)
    (fun _ hq => call_meets F.slot_list_eq_refl ⟨_, ho2, rfl⟩ F.entry_list_eq (F.args_list_eq_2 _ _) (list_eq_d l es ep l2 items n dd sl) ⟨ho, ho2, hq⟩)
    (fun _ hq => wpAny_isSame_ref_other' hne ho ho2 (by simp) hq) (.inr hu) h
theorem RcAt_list_d {l : Addr} {es : Array DictEntry} {ep : Nat} {l2 : Addr} {items : Array Value} (ho : s.heap.get? l = some (dObj es ep)) (h2 : s.heap.IsList l2 items) (hu : A.units < cLine) : RcAt A s (.ref l2) (.ref l) false := fun prog w E Q h => by
  obtain ⟨⟨cls, dd, data, sl⟩, ho2, hc, n, hd⟩ := id h2
  simp only at hc hd
  subst hc hd
  have hne : l ≠ l2 := fun e => by subst e; rw [ho] at ho2; simp [dObj] at ho2
  exact rc_eq_decline_or (k := false) ⟨_, ho2, rfl⟩ ⟨_, ho, rfl⟩ (by decide) F.sub_dict_list F.slot_list_eq F.slot_dict_eq_refl
    (fun _ hq => call_meets F.slot_list_eq ⟨_, ho2, rfl⟩ F.entry_list_eq (F.args_list_eq_2 _ _) (list_eq_d l es ep l2 items n dd sl) ⟨ho, ho2, hq⟩)
    (fun _ hq => call_meets F.slot_dict_eq_refl ⟨_, ho, rfl⟩ F.entry_dict_eq (F.args_dict_eq_2 _ _) (d_eq_list l es ep l2 items n dd sl) ⟨ho, ho2, hq⟩)
    (fun _ hq => wpAny_isSame_ref_other' hne.symm ho2 ho (by simp) hq) (.inr hu) h
theorem EqAt_d_list {l : Addr} {es : Array DictEntry} {ep : Nat} {l2 : Addr} {items : Array Value} (ho : s.heap.get? l = some (dObj es ep)) (h2 : s.heap.IsList l2 items) (hu : A.units < cLine) : EqAt A s (.ref l) (.ref l2) false :=
  .of_refs (fun e => by subst e; obtain ⟨o, h3, h4, _⟩ := h2; rw [ho] at h3; cases h3; simp at h4) (RcAt_d_list ho h2 hu)
theorem EqAt_list_d {l : Addr} {es : Array DictEntry} {ep : Nat} {l2 : Addr} {items : Array Value} (ho : s.heap.get? l = some (dObj es ep)) (h2 : s.heap.IsList l2 items) (hu : A.units < cLine) : EqAt A s (.ref l2) (.ref l) false :=
  .of_refs (fun e => by subst e; obtain ⟨o, h3, h4, _⟩ := h2; rw [ho] at h3; cases h3; simp at h4) (RcAt_list_d ho h2 hu)
theorem RcAt_d_tuple {l : Addr} {es : Array DictEntry} {ep : Nat} {l2 : Addr} {items : Array Value} (ho : s.heap.get? l = some (dObj es ep)) (h2 : s.heap.IsTuple l2 items) (hu : A.units < cLine) : RcAt A s (.ref l) (.ref l2) false := fun prog w E Q h => by
  obtain ⟨⟨cls, dd, data, sl⟩, ho2, hc, n, hd⟩ := id h2
  simp only at hc hd
  subst hc hd
  have hne : l ≠ l2 := fun e => by subst e; rw [ho] at ho2; simp [dObj] at ho2
  exact rc_eq_decline_or (k := false) ⟨_, ho, rfl⟩ ⟨_, ho2, rfl⟩ (by decide) F.sub_tuple_dict F.slot_dict_eq F.slot_tuple_eq_refl
    (fun _ hq => call_meets F.slot_dict_eq ⟨_, ho, rfl⟩ F.entry_dict_eq (F.args_dict_eq_2 _ _) (d_eq_tuple l es ep l2 items n dd sl) ⟨ho, ho2, hq⟩)
    (fun _ hq => call_meets F.slot_tuple_eq_refl ⟨_, ho2, rfl⟩ F.entry_tuple_eq (F.args_tuple_eq_2 _ _) (tuple_eq_d l es ep l2 items n dd sl) ⟨ho, ho2, hq⟩)
    (fun _ hq => wpAny_isSame_ref_other hne ho ho2 (by simp) hq) (.inr hu) h
theorem RcAt_tuple_d {l : Addr} {es : Array DictEntry} {ep : Nat} {l2 : Addr} {items : Array Value} (ho : s.heap.get? l = some (dObj es ep)) (h2 : s.heap.IsTuple l2 items) (hu : A.units < cLine) : RcAt A s (.ref l2) (.ref l) false := fun prog w E Q h => by
  obtain ⟨⟨cls, dd, data, sl⟩, ho2, hc, n, hd⟩ := id h2
  simp only at hc hd
  subst hc hd
  have hne : l ≠ l2 := fun e => by subst e; rw [ho] at ho2; simp [dObj] at ho2
  exact rc_eq_decline_or (k := false) ⟨_, ho2, rfl⟩ ⟨_, ho, rfl⟩ (by decide) F.sub_dict_tuple F.slot_tuple_eq F.slot_dict_eq_refl
    (fun _ hq => call_meets F.slot_tuple_eq ⟨_, ho2, rfl⟩ F.entry_tuple_eq (F.args_tuple_eq_2 _ _) (tuple_eq_d l es ep l2 items n dd sl) ⟨ho, ho2, hq⟩)
    (fun _ hq => call_meets F.slot_dict_eq_refl ⟨_, ho, rfl⟩ F.entry_dict_eq (F.args_dict_eq_2 _ _) (d_eq_tuple l es ep l2 items n dd sl) ⟨ho, ho2, hq⟩)
    (fun _ hq => wpAny_isSame_ref_other' hne.symm ho2 ho (by simp) hq) (.inr hu) h
theorem EqAt_d_tuple {l : Addr} {es : Array DictEntry} {ep : Nat} {l2 : Addr} {items : Array Value} (ho : s.heap.get? l = some (dObj es ep)) (h2 : s.heap.IsTuple l2 items) (hu : A.units < cLine) : EqAt A s (.ref l) (.ref l2) false :=
  .of_refs (fun e => by subst e; obtain ⟨o, h3, h4, _⟩ := h2; rw [ho] at h3; cases h3; simp at h4) (RcAt_d_tuple ho h2 hu)
theorem EqAt_tuple_d {l : Addr} {es : Array DictEntry} {ep : Nat} {l2 : Addr} {items : Array Value} (ho : s.heap.get? l = some (dObj es ep)) (h2 : s.heap.IsTuple l2 items) (hu : A.units < cLine) : EqAt A s (.ref l2) (.ref l) false :=
  .of_refs (fun e => by subst e; obtain ⟨o, h3, h4, _⟩ := h2; rw [ho] at h3; cases h3; simp at h4) (RcAt_tuple_d ho h2 hu)
theorem RcNeAt_d_none {l : Addr} {es : Array DictEntry} {ep : Nat} (ho : s.heap.get? l = some (dObj es ep)) (hu : A.units < cLine) : RcNeAt A s (.ref l) (.none) true := fun prog w E Q h => by
  exact rc_ne_decline_or (k := false) ⟨_, ho, rfl⟩ rfl (by decide) F.sub_NoneType_dict F.slot_dict_ne F.slot_NoneType_ne_refl
    (fun _ hq => call_meets F.slot_dict_ne ⟨_, ho, rfl⟩ F.entry_dict_ne (F.args_dict_ne_2 _ _) (d_ne_none l es ep ) ⟨ho, hq⟩)
    (fun _ hq => call_gives F.slot_NoneType_ne_refl rfl F.entry_NoneType_ne (F.args_NoneType_ne_2 _ _) (NoneType___ne___none_ref_0 l) hq)
    (fun _ hq => wpAny_of_eq (rfl : isSame (.ref l) (.none) = pure false) hq) (.inr hu) h
theorem RcNeAt_none_d {l : Addr} {es : Array DictEntry} {ep : Nat} (ho : s.heap.get? l = some (dObj es ep)) (hu : A.units < cLine) : RcNeAt A s (.none) (.ref l) true := fun prog w E Q h => by
  exact rc_ne_decline_or (k := false) rfl ⟨_, ho, rfl⟩ (by decide) F.sub_dict_NoneType F.slot_NoneType_ne F.slot_dict_ne_refl
    (fun _ hq => call_gives F.slot_NoneType_ne rfl F.entry_NoneType_ne (F.args_NoneType_ne_2 _ _) (NoneType___ne___none_ref_0 l) hq)
    (fun _ hq => call_meets F.slot_dict_ne_refl ⟨_, ho, rfl⟩ F.entry_dict_ne (F.args_dict_ne_2 _ _) (d_ne_none l es ep ) ⟨ho, hq⟩)
    (fun _ hq => wpAny_of_eq (rfl : isSame (.none) (.ref l) = pure false) hq) (.inr hu) h
theorem RcNeAt_d_bool {l : Addr} {es : Array DictEntry} {ep : Nat} (b : Bool) (ho : s.heap.get? l = some (dObj es ep)) (hu : A.units < cLine) : RcNeAt A s (.ref l) (.bool b) true := fun prog w E Q h => by
  exact rc_ne_decline_or (k := false) ⟨_, ho, rfl⟩ rfl (by decide) F.sub_bool_dict F.slot_dict_ne F.slot_bool_ne_refl
    (fun _ hq => call_meets F.slot_dict_ne ⟨_, ho, rfl⟩ F.entry_dict_ne (F.args_dict_ne_2 _ _) (d_ne_bool l es ep b) ⟨ho, hq⟩)
    (fun _ hq => call_meets F.slot_bool_ne_refl rfl F.entry_int_ne (F.args_int_ne_2 _ _) (bool_ne_d l es ep b) ⟨ho, hq⟩)
    (fun _ hq => wpAny_of_eq (rfl : isSame (.ref l) (.bool b) = pure false) hq) (.inr hu) h
theorem RcNeAt_bool_d {l : Addr} {es : Array DictEntry} {ep : Nat} (b : Bool) (ho : s.heap.get? l = some (dObj es ep)) (hu : A.units < cLine) : RcNeAt A s (.bool b) (.ref l) true := fun prog w E Q h => by
  exact rc_ne_decline_or (k := false) rfl ⟨_, ho, rfl⟩ (by decide) F.sub_dict_bool F.slot_bool_ne F.slot_dict_ne_refl
    (fun _ hq => call_meets F.slot_bool_ne rfl F.entry_int_ne (F.args_int_ne_2 _ _) (bool_ne_d l es ep b) ⟨ho, hq⟩)
    (fun _ hq => call_meets F.slot_dict_ne_refl ⟨_, ho, rfl⟩ F.entry_dict_ne (F.args_dict_ne_2 _ _) (d_ne_bool l es ep b) ⟨ho, hq⟩)
    (fun _ hq => wpAny_of_eq (rfl : isSame (.bool b) (.ref l) = pure false) hq) (.inr hu) h
theorem RcNeAt_d_int {l : Addr} {es : Array DictEntry} {ep : Nat} (b : Int) (u : Tok) (ho : s.heap.get? l = some (dObj es ep)) (hu : A.units < cLine) : RcNeAt A s (.ref l) (.int b u) true := fun prog w E Q h => by
  exact rc_ne_decline_or (k := false) ⟨_, ho, rfl⟩ (typeIs_int s b u) (by decide) F.sub_int_dict F.slot_dict_ne F.slot_int_ne_refl
    (fun _ hq => call_meets F.slot_dict_ne ⟨_, ho, rfl⟩ F.entry_dict_ne (F.args_dict_ne_2 _ _) (d_ne_int l es ep b u) ⟨ho, hq⟩)
    (fun _ hq => call_meets F.slot_int_ne_refl (typeIs_int s b u) F.entry_int_ne (F.args_int_ne_2 _ _) (int_ne_d l es ep b u) ⟨ho, hq⟩)
    (fun _ hq => wpAny_of_eq (rfl : isSame (.ref l) (.int b u) = pure false) hq) (.inr hu) h
theorem RcNeAt_int_d {l : Addr} {es : Array DictEntry} {ep : Nat} (b : Int) (u : Tok) (ho : s.heap.get? l = some (dObj es ep)) (hu : A.units < cLine) : RcNeAt A s (.int b u) (.ref l) true := fun prog w E Q h => by
  exact rc_ne_decline_or (k := false) (typeIs_int s b u) ⟨_, ho, rfl⟩ (by decide) F.sub_dict_int F.slot_int_ne F.slot_dict_ne_refl
    (fun _ hq => call_meets F.slot_int_ne (typeIs_int s b u) F.entry_int_ne (F.args_int_ne_2 _ _) (int_ne_d l es ep b u) ⟨ho, hq⟩)
    (fun _ hq => call_meets F.slot_dict_ne_refl ⟨_, ho, rfl⟩ F.entry_dict_ne (F.args_dict_ne_2 _ _) (d_ne_int l es ep b u) ⟨ho, hq⟩)
    (fun _ hq => wpAny_of_eq (rfl : isSame (.int b u) (.ref l) = pure false) hq) (.inr hu) h
theorem RcNeAt_d_str {l : Addr} {es : Array DictEntry} {ep : Nat} (b : Str) (u : Tok) (ho : s.heap.get? l = some (dObj es ep)) (hu : A.units < cLine) : RcNeAt A s (.ref l) (.str b u) true := fun prog w E Q h => by
  exact rc_ne_decline_or (k := false) ⟨_, ho, rfl⟩ (typeIs_str s b u) (by decide) F.sub_str_dict F.slot_dict_ne F.slot_str_ne_refl
    (fun _ hq => call_meets F.slot_dict_ne ⟨_, ho, rfl⟩ F.entry_dict_ne (F.args_dict_ne_2 _ _) (d_ne_str l es ep b u) ⟨ho, hq⟩)
    (fun _ hq => call_meets F.slot_str_ne_refl (typeIs_str s b u) F.entry_str_ne (F.args_str_ne_2 _ _) (str_ne_d l es ep b u) ⟨ho, hq⟩)
    (fun _ hq => wpAny_of_eq (rfl : isSame (.ref l) (.str b u) = pure false) hq) (.inr hu) h
theorem RcNeAt_str_d {l : Addr} {es : Array DictEntry} {ep : Nat} (b : Str) (u : Tok) (ho : s.heap.get? l = some (dObj es ep)) (hu : A.units < cLine) : RcNeAt A s (.str b u) (.ref l) true := fun prog w E Q h => by
  exact rc_ne_decline_or (k := false) (typeIs_str s b u) ⟨_, ho, rfl⟩ (by decide) F.sub_dict_str F.slot_str_ne F.slot_dict_ne_refl
    (fun _ hq => call_meets F.slot_str_ne (typeIs_str s b u) F.entry_str_ne (F.args_str_ne_2 _ _) (str_ne_d l es ep b u) ⟨ho, hq⟩)
    (fun _ hq => call_meets F.slot_dict_ne_refl ⟨_, ho, rfl⟩ F.entry_dict_ne (F.args_dict_ne_2 _ _) (d_ne_str l es ep b u) ⟨ho, hq⟩)
    (fun _ hq => wpAny_of_eq (rfl : isSame (.str b u) (.ref l) = pure false) hq) (.inr hu) h
theorem RcNeAt_d_list {l : Addr} {es : Array DictEntry} {ep : Nat} {l2 : Addr} {items : Array Value} (ho : s.heap.get? l = some (dObj es ep)) (h2 : s.heap.IsList l2 items) (hu : A.units < cLine) : RcNeAt A s (.ref l) (.ref l2) true := fun prog w E Q h => by
  obtain ⟨⟨cls, dd, data, sl⟩, ho2, hc, n, hd⟩ := id h2
  simp only at hc hd
  subst hc hd
  have hne : l ≠ l2 := fun e => by subst e; rw [ho] at ho2; simp [dObj] at ho2
  exact rc_ne_decline_or (k := false) ⟨_, ho, rfl⟩ ⟨_, ho2, rfl⟩ (by decide) F.sub_list_dict F.slot_dict_ne F.slot_list_ne_refl
    (fun _ hq => call_meets F.slot_dict_ne ⟨_, ho, rfl⟩ F.entry_dict_ne (F.args_dict_ne_2 _ _) (d_ne_list l es ep l2 items n dd sl) ⟨ho, ho2, hq⟩)
    (fun _ hq => call_meets F.slot_list_ne_refl ⟨_, ho2, rfl⟩ F.entry_list_ne (F.args_list_ne_2 _ _) (list_ne_d l es ep l2 items n dd sl) ⟨ho, ho2, hq⟩)
    (fun _ hq => wpAny_isSame_ref_other' hne ho ho2 (by simp) hq) (.inr hu) h
theorem RcNeAt_list_d {l : Addr} {es : Array DictEntry} {ep : Nat} {l2 : Addr} {items : Array Value} (ho : s.heap.get? l = some (dObj es ep)) (h2 : s.heap.IsList l2 items) (hu : A.units < cLine) : RcNeAt A s (.ref l2) (.ref l) true := fun prog w E Q h => by
  obtain ⟨⟨cls, dd, data, sl⟩, ho2, hc, n, hd⟩ := id h2
  simp only at hc hd
  subst hc hd
  have hne : l ≠ l2 := fun e => by subst e; rw [ho] at ho2; simp [dObj] at ho2
  exact rc_ne_decline_or (k := false) ⟨_, ho2, rfl⟩ ⟨_, ho, rfl⟩ (by decide) F.sub_dict_list F.slot_list_ne F.slot_dict_ne_refl
    (fun _ hq => call_meets F.slot_list_ne ⟨_, ho2, rfl⟩ F.entry_list_ne (F.args_list_ne_2 _ _) (list_ne_d l es ep l2 items n dd sl) ⟨ho, ho2, hq⟩)
    (fun _ hq => call_meets F.slot_dict_ne_refl ⟨_, ho, rfl⟩ F.entry_dict_ne (F.args_dict_ne_2 _ _) (d_ne_list l es ep l2 items n dd sl) ⟨ho, ho2, hq⟩)
    (fun _ hq => wpAny_isSame_ref_other' hne.symm ho2 ho (by simp) hq) (.inr hu) h
theorem RcNeAt_d_tuple {l : Addr} {es : Array DictEntry} {ep : Nat} {l2 : Addr} {items : Array Value} (ho : s.heap.get? l = some (dObj es ep)) (h2 : s.heap.IsTuple l2 items) (hu : A.units < cLine) : RcNeAt A s (.ref l) (.ref l2) true := fun prog w E Q h => by
  obtain ⟨⟨cls, dd, data, sl⟩, ho2, hc, n, hd⟩ := id h2
  simp only at hc hd
  subst hc hd
  have hne : l ≠ l2 := fun e => by subst e; rw [ho] at ho2; simp [dObj] at ho2
  exact rc_ne_decline_or (k := false) ⟨_, ho, rfl⟩ ⟨_, ho2, rfl⟩ (by decide) F.sub_tuple_dict F.slot_dict_ne F.slot_tuple_ne_refl
    (fun _ hq => call_meets F.slot_dict_ne ⟨_, ho, rfl⟩ F.entry_dict_ne (F.args_dict_ne_2 _ _) (d_ne_tuple l es ep l2 items n dd sl) ⟨ho, ho2, hq⟩)
    (fun _ hq => call_meets F.slot_tuple_ne_refl ⟨_, ho2, rfl⟩ F.entry_tuple_ne (F.args_tuple_ne_2 _ _) (tuple_ne_d l es ep l2 items n dd sl) ⟨ho, ho2, hq⟩)
    (fun _ hq => wpAny_isSame_ref_other hne ho ho2 (by simp) hq) (.inr hu) h
theorem RcNeAt_tuple_d {l : Addr} {es : Array DictEntry} {ep : Nat} {l2 : Addr} {items : Array Value} (ho : s.heap.get? l = some (dObj es ep)) (h2 : s.heap.IsTuple l2 items) (hu : A.units < cLine) : RcNeAt A s (.ref l2) (.ref l) true := fun prog w E Q h => by
  obtain ⟨⟨cls, dd, data, sl⟩, ho2, hc, n, hd⟩ := id h2
  simp only at hc hd
  subst hc hd
  have hne : l ≠ l2 := fun e => by subst e; rw [ho] at ho2; simp [dObj] at ho2
  exact rc_ne_decline_or (k := false) ⟨_, ho2, rfl⟩ ⟨_, ho, rfl⟩ (by decide) F.sub_dict_tuple F.slot_tuple_ne F.slot_dict_ne_refl
    (fun _ hq => call_meets F.slot_tuple_ne ⟨_, ho2, rfl⟩ F.entry_tuple_ne (F.args_tuple_ne_2 _ _) (tuple_ne_d l es ep l2 items n dd sl) ⟨ho, ho2, hq⟩)
    (fun _ hq => call_meets F.slot_dict_ne_refl ⟨_, ho, rfl⟩ F.entry_dict_ne (F.args_dict_ne_2 _ _) (d_ne_tuple l es ep l2 items n dd sl) ⟨ho, ho2, hq⟩)
    (fun _ hq => wpAny_isSame_ref_other' hne.symm ho2 ho (by simp) hq) (.inr hu) h
end
end M

namespace M
open PySem PySem.Spec PyProof.Rows L2 PySem.SeqAt

/-! ### values by their kinds -/
inductive Vk (s : Shared) : Nat → Value → Prop
  | non : Vk s 0 .none
  | bl (b : Bool) : Vk s 1 (.bool b)
  | int (i : Int) (t : Tok) : Vk s 1 (.int i t)
  | str (x : Str) (t : Tok) : Vk s 2 (.str x t)
  | tup {l : Addr} {items : Array Value} (h : s.heap.IsTuple l items) : Vk s 3 (.ref l)
  | lst {l : Addr} {items : Array Value} (h : s.heap.IsList l items) : Vk s 4 (.ref l)
  | dic {l : Addr} {es : Array DictEntry} {ep : Nat} (h : s.heap.get? l = some (dObj es ep)) : Vk s 5 (.ref l)
theorem eq_kinds {A : Around} {s : Shared} (hu : A.units < cLine) : ∀ {i j : Nat} {u v : Value}, Vk s i u → Vk s j v → i ≠ j → EqAt A s u v false ∧ RcAt A s u v false ∧ RcNeAt A s u v true
  | _, _, _, _, .non, .bl b2, _ => ⟨(EqAt.none_bool b2), (RcAt.none_bool b2), (RcNeAt.none_bool b2)⟩
  | _, _, _, _, .non, .int b2 t2, _ => ⟨(EqAt.none_int b2 t2), (RcAt.none_int b2 t2), (RcNeAt.none_int b2 t2)⟩
  | _, _, _, _, .non, .str b2 t2, _ => ⟨(EqAt.none_str b2 t2), (RcAt.none_str b2 t2), (RcNeAt.none_str b2 t2)⟩
  | _, _, _, _, .non, .tup h2, _ => ⟨(EqAt.none_tuple h2 hu), (RcAt.none_tuple h2 hu), (RcNeAt.none_tuple h2 hu)⟩
  | _, _, _, _, .non, .lst h2, _ => ⟨(EqAt.none_list h2 hu), (RcAt.none_list h2 hu), (RcNeAt.none_list h2 hu)⟩
  | _, _, _, _, .non, .dic h2, _ => ⟨(M.EqAt_none_d h2 hu), (M.RcAt_none_d h2 hu), (M.RcNeAt_none_d h2 hu)⟩
  | _, _, _, _, .bl b1, .non, _ => ⟨(EqAt.bool_none b1), (RcAt.bool_none b1), (RcNeAt.bool_none b1)⟩
  | _, _, _, _, .bl b1, .str b2 t2, _ => ⟨(EqAt.bool_str b1 b2 t2), (RcAt.bool_str b1 b2 t2), (RcNeAt.bool_str b1 b2 t2)⟩
  | _, _, _, _, .bl b1, .tup h2, _ => ⟨(EqAt.bool_tuple b1 h2 hu), (RcAt.bool_tuple b1 h2 hu), (RcNeAt.bool_tuple b1 h2 hu)⟩
  | _, _, _, _, .bl b1, .lst h2, _ => ⟨(EqAt.bool_list b1 h2 hu), (RcAt.bool_list b1 h2 hu), (RcNeAt.bool_list b1 h2 hu)⟩
  | _, _, _, _, .bl b1, .dic h2, _ => ⟨(M.EqAt_bool_d b1 h2 hu), (M.RcAt_bool_d b1 h2 hu), (M.RcNeAt_bool_d b1 h2 hu)⟩
  | _, _, _, _, .int b1 t1, .non, _ => ⟨(EqAt.int_none b1 t1), (RcAt.int_none b1 t1), (RcNeAt.int_none b1 t1)⟩
  | _, _, _, _, .int b1 t1, .str b2 t2, _ => ⟨(EqAt.int_str b1 t1 b2 t2), (RcAt.int_str b1 t1 b2 t2), (RcNeAt.int_str b1 t1 b2 t2)⟩
  | _, _, _, _, .int b1 t1, .tup h2, _ => ⟨(EqAt.int_tuple b1 t1 h2 hu), (RcAt.int_tuple b1 t1 h2 hu), (RcNeAt.int_tuple b1 t1 h2 hu)⟩
  | _, _, _, _, .int b1 t1, .lst h2, _ => ⟨(EqAt.int_list b1 t1 h2 hu), (RcAt.int_list b1 t1 h2 hu), (RcNeAt.int_list b1 t1 h2 hu)⟩
  | _, _, _, _, .int b1 t1, .dic h2, _ => ⟨(M.EqAt_int_d b1 t1 h2 hu), (M.RcAt_int_d b1 t1 h2 hu), (M.RcNeAt_int_d b1 t1 h2 hu)⟩
  | _, _, _, _, .str b1 t1, .non, _ => ⟨(EqAt.str_none b1 t1), (RcAt.str_none b1 t1), (RcNeAt.str_none b1 t1)⟩
  | _, _, _, _, .str b1 t1, .bl b2, _ => ⟨(EqAt.str_bool b1 t1 b2), (RcAt.str_bool b1 t1 b2), (RcNeAt.str_bool b1 t1 b2)⟩
  | _, _, _, _, .str b1 t1, .int b2 t2, _ => ⟨(EqAt.str_int b1 t1 b2 t2), (RcAt.str_int b1 t1 b2 t2), (RcNeAt.str_int b1 t1 b2 t2)⟩
  | _, _, _, _, .str b1 t1, .tup h2, _ => ⟨(EqAt.str_tuple b1 t1 h2 hu), (RcAt.str_tuple b1 t1 h2 hu), (RcNeAt.str_tuple b1 t1 h2 hu)⟩
  | _, _, _, _, .str b1 t1, .lst h2, _ => ⟨(EqAt.str_list b1 t1 h2 hu), (RcAt.str_list b1 t1 h2 hu), (RcNeAt.str_list b1 t1 h2 hu)⟩
  | _, _, _, _, .str b1 t1, .dic h2, _ => ⟨(M.EqAt_str_d b1 t1 h2 hu), (M.RcAt_str_d b1 t1 h2 hu), (M.RcNeAt_str_d b1 t1 h2 hu)⟩
  | _, _, _, _, .tup h1, .non, _ => ⟨(EqAt.tuple_none h1 hu), (RcAt.tuple_none h1 hu), (RcNeAt.tuple_none h1 hu)⟩
  | _, _, _, _, .tup h1, .bl b2, _ => ⟨(EqAt.tuple_bool b2 h1 hu), (RcAt.tuple_bool b2 h1 hu), (RcNeAt.tuple_bool b2 h1 hu)⟩
  | _, _, _, _, .tup h1, .int b2 t2, _ => ⟨(EqAt.tuple_int b2 t2 h1 hu), (RcAt.tuple_int b2 t2 h1 hu), (RcNeAt.tuple_int b2 t2 h1 hu)⟩
  | _, _, _, _, .tup h1, .str b2 t2, _ => ⟨(EqAt.tuple_str b2 t2 h1 hu), (RcAt.tuple_str b2 t2 h1 hu), (RcNeAt.tuple_str b2 t2 h1 hu)⟩
  | _, _, _, _, .tup h1, .lst h2, _ => ⟨(EqAt.tuple_list h1 h2 hu), (RcAt.tuple_list h1 h2 hu), (RcNeAt.tuple_list h1 h2 hu)⟩
  | _, _, _, _, .tup h1, .dic h2, _ => ⟨(M.EqAt_tuple_d h2 h1 hu), (M.RcAt_tuple_d h2 h1 hu), (M.RcNeAt_tuple_d h2 h1 hu)⟩
  | _, _, _, _, .lst h1, .non, _ => ⟨(EqAt.list_none h1 hu), (RcAt.list_none h1 hu), (RcNeAt.list_none h1 hu)⟩
  | _, _, _, _, .lst h1, .bl b2, _ => ⟨(EqAt.list_bool b2 h1 hu), (RcAt.list_bool b2 h1 hu), (RcNeAt.list_bool b2 h1 hu)⟩
  | _, _, _, _, .lst h1, .int b2 t2, _ => ⟨(EqAt.list_int b2 t2 h1 hu), (RcAt.list_int b2 t2 h1 hu), (RcNeAt.list_int b2 t2 h1 hu)⟩
  | _, _, _, _, .lst h1, .str b2 t2, _ => ⟨(EqAt.list_str b2 t2 h1 hu), (RcAt.list_str b2 t2 h1 hu), (RcNeAt.list_str b2 t2 h1 hu)⟩
  | _, _, _, _, .lst h1, .tup h2, _ => ⟨(EqAt.list_tuple h1 h2 hu), (RcAt.list_tuple h1 h2 hu), (RcNeAt.list_tuple h1 h2 hu)⟩
  | _, _, _, _, .lst h1, .dic h2, _ => ⟨(M.EqAt_list_d h2 h1 hu), (M.RcAt_list_d h2 h1 hu), (M.RcNeAt_list_d h2 h1 hu)⟩
  | _, _, _, _, .dic h1, .non, _ => ⟨(M.EqAt_d_none h1 hu), (M.RcAt_d_none h1 hu), (M.RcNeAt_d_none h1 hu)⟩
  | _, _, _, _, .dic h1, .bl b2, _ => ⟨(M.EqAt_d_bool b2 h1 hu), (M.RcAt_d_bool b2 h1 hu), (M.RcNeAt_d_bool b2 h1 hu)⟩
  | _, _, _, _, .dic h1, .int b2 t2, _ => ⟨(M.EqAt_d_int b2 t2 h1 hu), (M.RcAt_d_int b2 t2 h1 hu), (M.RcNeAt_d_int b2 t2 h1 hu)⟩
  | _, _, _, _, .dic h1, .str b2 t2, _ => ⟨(M.EqAt_d_str b2 t2 h1 hu), (M.RcAt_d_str b2 t2 h1 hu), (M.RcNeAt_d_str b2 t2 h1 hu)⟩
  | _, _, _, _, .dic h1, .tup h2, _ => ⟨(M.EqAt_d_tuple h1 h2 hu), (M.RcAt_d_tuple h1 h2 hu), (M.RcNeAt_d_tuple h1 h2 hu)⟩
  | _, _, _, _, .dic h1, .lst h2, _ => ⟨(M.EqAt_d_list h1 h2 hu), (M.RcAt_d_list h1 h2 hu), (M.RcNeAt_d_list h1 h2 hu)⟩
  | _, _, _, _, .non, .non, h => absurd rfl h
  | _, _, _, _, .bl b1, .bl b2, h => absurd rfl h
  | _, _, _, _, .bl b1, .int b2 t2, h => absurd rfl h
  | _, _, _, _, .int b1 t1, .bl b2, h => absurd rfl h
  | _, _, _, _, .int b1 t1, .int b2 t2, h => absurd rfl h
  | _, _, _, _, .str b1 t1, .str b2 t2, h => absurd rfl h
  | _, _, _, _, .tup h1, .tup h2, h => absurd rfl h
  | _, _, _, _, .lst h1, .lst h2, h => absurd rfl h
  | _, _, _, _, .dic h1, .dic h2, h => absurd rfl h
/-- two empty dicts -/
theorem Rc_dd {A : Around} {s : Shared} {a b : Addr} {ep ep2 : Nat} (ha : s.heap.get? a = some (dObj #[] ep)) (hb : s.heap.get? b = some (dObj #[] ep2)) (sa : (a == sysModules) = false) (sb : (b == sysModules) = false) (hu : A.units < cLine) : RcAt A s (.ref a) (.ref b) true := fun prog w E Q h => by
  have d1 : s.heap.DictOf (mixKind prog w) a [] := ⟨_, #[], ep, ha, ⟨rfl, rfl, rfl⟩, rfl, fun e he => by simp at he, .nil, by simp⟩
  have d2 : s.heap.DictOf (mixKind prog w) b [] := ⟨_, #[], ep2, hb, ⟨rfl, rfl, rfl⟩, rfl, fun e he => by simp at he, .nil, by simp⟩
  exact PySem.W.rcP_dicts (knd := mixKind prog w) (r := true) sa sb d1 d2 hu (fun _ => .nil) E Q (by simpa using h)

/-! ### == of data, empty dicts in it -/
def knd : D → Option Nat
  | .non => some 0 | .bl _ => some 1 | .int _ => some 1 | .str _ => some 2 | .tup _ => some 3 | .lst _ => some 4 | .dic _ _ => some 5 | _ => none
def dqk (i : Nat) (e : D) : Option Bool := match knd e with | some j => if i == j then none else some false | none => none
mutual
def dq : D → D → Option Bool
  | .tup xs, e => (match e with | .tup ys => (dqs xs ys).map fun b => b && xs.length == ys.length | e => dqk 3 e)
  | .lst xs, e => (match e with | .lst ys => if xs.length == ys.length then dqs xs ys else some false | e => dqk 4 e)
  | .dic ks _, e => (match e with | .dic ks' _ => if ks.isEmpty && ks'.isEmpty then some true else none | e => dqk 5 e)
  | .non, e => (match e with | .non => some true | e => dqk 0 e)
  | .bl a, e => (match e with | .bl b => some (a == b) | .int b => some ((if a then 1 else 0) == b) | e => dqk 1 e)
  | .int a, e => (match e with | .int b => some (a == b) | .bl b => some (a == (if b then 1 else 0)) | e => dqk 1 e)
  | .str a, e => (match e with | .str b => some (a == b) | e => dqk 2 e)
  | _, _ => none
def dqs : List D → List D → Option Bool
  | [], _ => some true
  | x :: xs, l => (match l with | [] => some true | y :: ys => (match dq x y with | some b => (dqs xs ys).map (b && ·) | none => none))
end
mutual
def dep : D → Nat
  | .tup xs => deps xs + 1
  | .lst xs => deps xs + 1
  | .dic _ _ => 1
  | _ => 0
def deps : List D → Nat
  | [] => 0
  | x :: xs => max (dep x) (deps xs)
end
variable [Tabs]
section
variable {X : Cx} {pins : List (Addr × Obj)} {σ : L2.St} {H : Hp} {s : Shared}
theorem dic_at (I : Inv X pins σ H s) {a : Addr} {kvs : List (Key × V)} (h : H a = some (.dK kvs)) : (a == sysModules) = false ∧ ∃ es ep, s.heap.get? a = some (dObj es ep) ∧ (kvs = [] → es = #[]) := by
  obtain ⟨_, sm, vs, r, ⟨c, dd, dt, sl⟩, es, ep, e, ⟨e1, e2, e3⟩, e4, _, p, _⟩ := I.hok a _ h
  simp only at e1 e2 e3 e4
  subst e1 e2 e3 e4
  refine ⟨sm, es, ep, e, fun z => ?_⟩
  subst z
  have hv : vs = [] := by
    have := r.length
    exact List.eq_nil_of_length_eq_zero (by simpa using this.symm)
  subst hv
  have : es.toList = [] := by
    cases h0 : es.toList with
    | nil => rfl
    | cons x xs => rw [h0] at p; cases p
  exact Array.toList_inj.mp (by rw [this])
theorem vk_of (I : Inv X pins σ H s) {d : D} {v : V} {u : Value} {i : Nat} (r : Rep X.K H d v) (q : RelV v u) (h : knd d = some i) : Vk s i u := by
  cases d with
  | non => simp only [Rep] at r; subst r; cases h; cases q; exact .non
  | bl b => simp only [Rep] at r; subst r; cases h; cases q; exact .bl b
  | int b => simp only [Rep] at r; subst r; cases h; obtain ⟨t, rfl⟩ := q; exact .int b t
  | str b => simp only [Rep] at r; subst r; cases h; obtain ⟨t, rfl⟩ := q; exact .str b t
  | tup ds =>
    simp only [Rep] at r
    obtain ⟨a, vs, rfl, h1, _⟩ := r
    cases h; cases q
    obtain ⟨its, _, p, _⟩ := I.tuple h1
    exact .tup p
  | lst ds =>
    simp only [Rep] at r
    obtain ⟨a, vs, rfl, h1, _⟩ := r
    cases h; cases q
    obtain ⟨its, _, p, _⟩ := I.list (SqL.of h1)
    exact .lst p.isList
  | dic ks ds =>
    simp only [Rep] at r
    obtain ⟨a, us, vs, rfl, _, h1, _⟩ := r
    cases h; cases q
    obtain ⟨_, es, ep, e, _⟩ := dic_at I h1
    exact .dic e
  | _ => cases h
theorem dqk_of {i : Nat} {e : D} {b : Bool} (h : dqk i e = some b) : b = false ∧ ∃ j, knd e = some j ∧ i ≠ j := by
  unfold dqk at h
  cases q : knd e with
  | none => rw [q] at h; cases h
  | some j =>
    rw [q] at h
    dsimp only at h
    split at h
    · cases h
    · rename_i c
      cases h
      exact ⟨rfl, j, rfl, by simpa using c⟩
/-- one object, told twice -/
theorem ref_knd {d : D} {a : Addr} {i : Nat} (I : Inv X pins σ H s) (r : Rep X.K H d (.ref a)) (h : knd d = some i) : i = 3 ∨ i = 4 ∨ i = 5 := by
  have := vk_of I r (show RelV (.ref a) (.ref a) from rfl) h
  cases this <;> simp
mutual
theorem dq_same (I : Inv X pins σ H s) : ∀ (d e : D) (v : V) (b : Bool), Rep X.K H d v → Rep X.K H e v → dq d e = some b → b = true
  | .non, e, v, b, r, q, h => by
    simp only [Rep] at r; subst r
    cases e with
    | non => cases h; rfl
    | bl _ => simp [Rep] at q
    | int _ => simp [Rep] at q
    | str _ => simp [Rep] at q
    | tup _ => simp [Rep] at q
    | lst _ => simp [Rep] at q
    | dic _ _ => simp [Rep] at q
    | _ => cases h
  | .bl x, e, v, b, r, q, h => by
    simp only [Rep] at r; subst r
    cases e with
    | bl y => simp only [Rep] at q; cases q; cases h; simp
    | non => simp [Rep] at q
    | int _ => simp [Rep] at q
    | str _ => simp [Rep] at q
    | tup _ => simp [Rep] at q
    | lst _ => simp [Rep] at q
    | dic _ _ => simp [Rep] at q
    | _ => cases h
  | .int x, e, v, b, r, q, h => by
    simp only [Rep] at r; subst r
    cases e with
    | int y => simp only [Rep] at q; cases q; cases h; simp
    | non => simp [Rep] at q
    | bl _ => simp [Rep] at q
    | str _ => simp [Rep] at q
    | tup _ => simp [Rep] at q
    | lst _ => simp [Rep] at q
    | dic _ _ => simp [Rep] at q
    | _ => cases h
  | .str x, e, v, b, r, q, h => by
    simp only [Rep] at r; subst r
    cases e with
    | str y => simp only [Rep] at q; cases q; cases h; simp
    | non => simp [Rep] at q
    | bl _ => simp [Rep] at q
    | int _ => simp [Rep] at q
    | tup _ => simp [Rep] at q
    | lst _ => simp [Rep] at q
    | dic _ _ => simp [Rep] at q
    | _ => cases h
  | .tup xs, e, v, b, r, q, h => by
    cases e with
    | tup ys =>
      simp only [Rep] at r q
      obtain ⟨a, vs, rfl, h1, r1⟩ := r
      obtain ⟨a', ws, e1, h2, r2⟩ := q
      cases e1
      have := I.tuple_inj h1 h2
      subst this
      simp only [dq] at h
      cases z : dqs xs ys with
      | none => rw [z] at h; cases h
      | some c =>
        rw [z] at h; cases h
        rw [dqs_same I xs ys vs c r1 r2 z]
        simp [← r1.length, ← r2.length]
    | _ =>
      first
        | (simp only [dq] at h; obtain ⟨_, j, e1, e2⟩ := dqk_of h; cases e1; done)
        | (simp only [dq] at h
           obtain ⟨_, j, e1, e2⟩ := dqk_of h
           simp only [Rep] at r
           obtain ⟨a, vs, rfl, h1, r1⟩ := r
           obtain ⟨its, _, p, _⟩ := I.tuple h1
           have k2 := vk_of I q (show RelV (.ref a) (.ref a) from rfl) e1
           obtain ⟨o, ho, hc, _⟩ := p
           cases k2 with
           | tup _ => exact absurd rfl e2
           | lst p2 => obtain ⟨o2, ho2, hc2, _⟩ := p2; rw [ho] at ho2; cases ho2; rw [hc] at hc2; simp at hc2
           | dic p2 => rw [ho] at p2; cases p2; simp at hc)
  | .lst xs, e, v, b, r, q, h => by
    cases e with
    | lst ys =>
      simp only [Rep] at r q
      obtain ⟨a, vs, rfl, h1, r1⟩ := r
      obtain ⟨a', ws, e1, h2, r2⟩ := q
      cases e1
      rw [h1] at h2
      cases h2
      simp only [dq] at h
      rw [if_pos (by simp [← r1.length, ← r2.length])] at h
      exact dqs_same I xs ys vs b r1 r2 h
    | _ =>
      first
        | (simp only [dq] at h; obtain ⟨_, j, e1, e2⟩ := dqk_of h; cases e1; done)
        | (simp only [dq] at h
           obtain ⟨_, j, e1, e2⟩ := dqk_of h
           simp only [Rep] at r
           obtain ⟨a, vs, rfl, h1, r1⟩ := r
           obtain ⟨its, _, p, _⟩ := I.list (SqL.of h1)
           have k2 := vk_of I q (show RelV (.ref a) (.ref a) from rfl) e1
           obtain ⟨o, ho, hc, _⟩ := p.isList
           cases k2 with
           | lst _ => exact absurd rfl e2
           | tup p2 => obtain ⟨o2, ho2, hc2, _⟩ := p2; rw [ho] at ho2; cases ho2; rw [hc] at hc2; simp at hc2
           | dic p2 => rw [ho] at p2; cases p2; simp at hc)
  | .dic ks ds, e, v, b, r, q, h => by
    cases e with
    | dic ks' ds' =>
      simp only [dq] at h
      split at h
      · cases h; rfl
      · cases h
    | _ =>
      first
        | (simp only [dq] at h; obtain ⟨_, j, e1, e2⟩ := dqk_of h; cases e1; done)
        | (simp only [dq] at h
           obtain ⟨_, j, e1, e2⟩ := dqk_of h
           have k1 := r
           simp only [Rep] at r
           obtain ⟨a, us, vs, rfl, _, h1, _⟩ := r
           obtain ⟨_, es, ep, ho, _⟩ := dic_at I h1
           have k2 := vk_of I q (show RelV (.ref a) (.ref a) from rfl) e1
           cases k2 with
           | dic _ => exact absurd rfl e2
           | tup p2 => obtain ⟨o2, ho2, hc2, _⟩ := p2; rw [ho] at ho2; cases ho2; simp at hc2
           | lst p2 => obtain ⟨o2, ho2, hc2, _⟩ := p2; rw [ho] at ho2; cases ho2; simp at hc2)
  | .scr _, _, _, _, _, _, h => by simp [dq] at h
  | .con _, _, _, _, _, _, h => by simp [dq] at h
  | .ins _ _, _, _, _, _, _, h => by simp [dq] at h
theorem dqs_same (I : Inv X pins σ H s) : ∀ (ds es : List D) (vs : List V) (b : Bool), Reps X.K H ds vs → Reps X.K H es vs → dqs ds es = some b → b = true
  | [], _, _, b, _, _, h => by simp only [dqs] at h; cases h; rfl
  | x :: xs, [], _, b, _, _, h => by simp only [dqs] at h; cases h; rfl
  | x :: xs, y :: ys, vs, b, r, q, h => by
    simp only [Reps] at r q
    obtain ⟨v, w, rfl, r1, r2⟩ := r
    obtain ⟨v', w', e, q1, q2⟩ := q
    cases e
    simp only [dqs] at h
    cases z : dq x y with
    | none => rw [z] at h; cases h
    | some c =>
      rw [z] at h
      dsimp only at h
      cases z2 : dqs xs ys with
      | none => rw [z2] at h; cases h
      | some c2 =>
        rw [z2] at h; cases h
        rw [dq_same I x y v c r1 q1 z, dqs_same I xs ys w c2 r2 q2 z2]; rfl
end
end
end M

namespace M
open PySem PySem.Spec PyProof.Rows L2 PySem.SeqAt
variable [Tabs]
def pe (xs ys : List D) (j : Nat) : Bool := match xs[j]?, ys[j]? with | some x, some y => (dq x y).getD false | _, _ => false
theorem dqs_all : ∀ (xs ys : List D) (b : Bool), dqs xs ys = some b → (List.range (min xs.length ys.length)).all (pe xs ys) = b
  | [], ys, b, h => by simp only [dqs] at h; cases h; simp
  | x :: xs, [], b, h => by simp only [dqs] at h; cases h; simp
  | x :: xs, y :: ys, b, h => by
    simp only [dqs] at h
    cases z : dq x y with
    | none => rw [z] at h; cases h
    | some c =>
      rw [z] at h
      dsimp only at h
      cases z2 : dqs xs ys with
      | none => rw [z2] at h; cases h
      | some c2 =>
        rw [z2] at h; cases h
        have ih := dqs_all xs ys c2 z2
        have hm : min (x :: xs).length (y :: ys).length = min xs.length ys.length + 1 := by simp only [List.length_cons]; omega
        rw [hm, List.range_succ_eq_map, List.all_cons, List.all_map]
        have h0 : pe (x :: xs) (y :: ys) 0 = c := by simp [pe, z]
        have hs : (pe (x :: xs) (y :: ys) ∘ Nat.succ) = pe xs ys := by funext j; simp [pe]
        rw [h0, hs, ih]
theorem le_dep {x : D} {xs : List D} : dep x ≤ deps (x :: xs) ∧ deps xs ≤ deps (x :: xs) := by
  simp only [deps]; omega
section
variable {X : Cx} {pins : List (Addr × Obj)} {σ : L2.St} {H : Hp} {s : Shared}
/-- unlike kinds -/
theorem eq_unlike (I : Inv X pins σ H s) {A : Around} {d e : D} {v w : V} {u u' : Value} {i : Nat} {b : Bool} (hd : knd d = some i) (r : Rep X.K H d v) (q : Rep X.K H e w) (ru : RelV v u) (rq : RelV w u') (h : dqk i e = some b) (hu : A.units < cLine) :
    b = false ∧ EqAt A s u u' b ∧ RcAt A s u u' b ∧ RcNeAt A s u u' (!b) := by
  obtain ⟨rfl, j, e1, ne⟩ := dqk_of h
  exact ⟨rfl, eq_kinds hu (vk_of I r ru hd) (vk_of I q rq e1) ne⟩
mutual
theorem eq_ok (I : Inv X pins σ H s) : ∀ (d e : D) (v w : V) (u u' : Value) (b : Bool) (A : Around), Rep X.K H d v → Rep X.K H e w → RelV v u → RelV w u' → dq d e = some b → A.units + dep d < cLine → EqAt A s u u' b
  | .non, e, v, w, u, u', b, A, r, q, ru, rq, h, hu => by
    cases e with
    | non => simp only [dq] at h; cases h; simp only [Rep] at r q; subst r q; cases ru; cases rq; exact EqAt.same _
    | _ => simp only [dq] at h; exact (eq_unlike I (d := .non) rfl r q ru rq h (by simpa [dep] using hu)).2.1
  | .bl x, e, v, w, u, u', b, A, r, q, ru, rq, h, hu => by
    cases e with
    | bl y => simp only [dq] at h; cases h; simp only [Rep] at r q; subst r q; cases ru; cases rq; exact EqAt.bool_bool x y
    | int y => simp only [dq] at h; cases h; simp only [Rep] at r q; subst r q; cases ru; obtain ⟨t, rfl⟩ := rq; exact EqAt.bool_int x y t
    | _ => simp only [dq] at h; exact (eq_unlike I (d := .bl x) rfl r q ru rq h (by simpa [dep] using hu)).2.1
  | .int x, e, v, w, u, u', b, A, r, q, ru, rq, h, hu => by
    cases e with
    | bl y => simp only [dq] at h; cases h; simp only [Rep] at r q; subst r q; cases rq; obtain ⟨t, rfl⟩ := ru; exact EqAt.int_bool x t y
    | int y => simp only [dq] at h; cases h; simp only [Rep] at r q; subst r q; obtain ⟨t, rfl⟩ := ru; obtain ⟨t', rfl⟩ := rq; exact EqAt.int_int x t y t'
    | _ => simp only [dq] at h; exact (eq_unlike I (d := .int x) rfl r q ru rq h (by simpa [dep] using hu)).2.1
  | .str x, e, v, w, u, u', b, A, r, q, ru, rq, h, hu => by
    cases e with
    | str y => simp only [dq] at h; cases h; simp only [Rep] at r q; subst r q; obtain ⟨t, rfl⟩ := ru; obtain ⟨t', rfl⟩ := rq; exact EqAt.str_str x t y t'
    | _ => simp only [dq] at h; exact (eq_unlike I (d := .str x) rfl r q ru rq h (by simpa [dep] using hu)).2.1
  | .tup xs, e, v, w, u, u', b, A, r, q, ru, rq, h, hu => by
    cases e with
    | tup ys =>
      have r0 := r
      have q0 := q
      simp only [Rep] at r q
      obtain ⟨a, vs, rfl, h1, r1⟩ := r
      obtain ⟨a', ws, rfl, h2, r2⟩ := q
      cases ru; cases rq
      by_cases ne : a = a'
      · subst ne
        have := dq_same I (.tup xs) (.tup ys) _ b r0 q0 h
        subst this
        exact EqAt.same _
      · simp only [dq] at h
        cases z : dqs xs ys with
        | none => rw [z] at h; cases h
        | some c =>
          rw [z] at h; cases h
          obtain ⟨its, rv, p, _⟩ := I.tuple h1
          obtain ⟨its2, rv2, p2, _⟩ := I.tuple h2
          have l1 : xs.length = its.length := by rw [← r1.length]; exact rv.length
          have l2 : ys.length = its2.length := by rw [← r2.length]; exact rv2.length
          have key := RcAt.tuples (A := A) (e := pe xs ys) p p2 (by omega) fun j j1 j2 => by
            have := eqs_ok I xs ys vs ws its its2 c A.in1 r1 r2 rv rv2 z (by simp only [dep] at hu; show A.units + 1 + _ < _; omega) j (by simpa using j1) (by simpa using j2)
            simpa using this
          have hb : ((List.range (min its.toArray.size its2.toArray.size)).all (pe xs ys) && its.toArray.size == its2.toArray.size) = (c && xs.length == ys.length) := by
            simp only [List.size_toArray]
            rw [← l1, ← l2, dqs_all xs ys c z]
          rw [hb] at key
          exact EqAt.of_refs ne key
    | _ => simp only [dq] at h; exact (eq_unlike I (d := .tup xs) rfl r q ru rq h (by omega)).2.1
  | .lst xs, e, v, w, u, u', b, A, r, q, ru, rq, h, hu => by
    cases e with
    | lst ys =>
      have r0 := r
      have q0 := q
      simp only [Rep] at r q
      obtain ⟨a, vs, rfl, h1, r1⟩ := r
      obtain ⟨a', ws, rfl, h2, r2⟩ := q
      cases ru; cases rq
      by_cases ne : a = a'
      · subst ne
        have := dq_same I (.lst xs) (.lst ys) _ b r0 q0 h
        subst this
        exact EqAt.same _
      · simp only [dq] at h
        obtain ⟨its, rv, p, _⟩ := I.list (SqL.of h1)
        obtain ⟨its2, rv2, p2, _⟩ := I.list (SqL.of h2)
        have l1 : xs.length = its.length := by rw [← r1.length]; exact rv.length
        have l2 : ys.length = its2.length := by rw [← r2.length]; exact rv2.length
        by_cases hl : xs.length = ys.length
        · rw [if_pos (by simpa using hl)] at h
          have key := RcAt.lists (A := A) (e := pe xs ys) p.isList p2.isList (by simp; omega) (by omega) fun j j1 j2 => by
            have := eqs_ok I xs ys vs ws its its2 b A.in1 r1 r2 rv rv2 h (by simp only [dep] at hu; show A.units + 1 + _ < _; omega) j (by simpa using j1) (by simpa using j2)
            simpa using this
          have hb : (List.range its.toArray.size).all (pe xs ys) = b := by
            rw [List.size_toArray, ← l1, ← dqs_all xs ys b h, ← hl, Nat.min_self]
          rw [hb] at key
          exact EqAt.of_refs ne key
        · rw [if_neg (by simpa using hl)] at h
          cases h
          exact EqAt.of_refs ne (RcAt.lists_lengths p.isList p2.isList (by simp; omega) (by omega))
    | _ => simp only [dq] at h; exact (eq_unlike I (d := .lst xs) rfl r q ru rq h (by omega)).2.1
  | .dic ks ds, e, v, w, u, u', b, A, r, q, ru, rq, h, hu => by
    cases e with
    | dic ks' ds' =>
      simp only [dq] at h
      split at h
      · rename_i c
        cases h
        simp only [Rep] at r q
        obtain ⟨a, us, vs, rfl, l1, h1, k1, _⟩ := r
        obtain ⟨a', us', vs', rfl, l2, h2, k2, _⟩ := q
        cases ru; cases rq
        simp only [Bool.and_eq_true, List.isEmpty_iff] at c
        have e1 : us = [] := by have := k1.length; rw [c.1] at this; simpa using this
        have e2 : us' = [] := by have := k2.length; rw [c.2] at this; simpa using this
        subst e1 e2
        obtain ⟨s1, es, ep, g1, z1⟩ := dic_at I h1
        obtain ⟨s2, es', ep', g2, z2⟩ := dic_at I h2
        rw [z1 (by simp)] at g1
        rw [z2 (by simp)] at g2
        by_cases ne : a = a'
        · subst ne; exact EqAt.same _
        · exact EqAt.of_refs ne (Rc_dd g1 g2 s1 s2 (by omega))
      · cases h
    | _ => simp only [dq] at h; exact (eq_unlike I (d := .dic ks ds) rfl r q ru rq h (by omega)).2.1
  | .scr _, _, _, _, _, _, _, _, _, _, _, _, h, _ => by simp [dq] at h
  | .con _, _, _, _, _, _, _, _, _, _, _, _, h, _ => by simp [dq] at h
  | .ins _ _, _, _, _, _, _, _, _, _, _, _, _, h, _ => by simp [dq] at h
theorem eqs_ok (I : Inv X pins σ H s) : ∀ (xs ys : List D) (vs ws : List V) (us us' : List Value) (b : Bool) (A : Around), Reps X.K H xs vs → Reps X.K H ys ws → Vals vs us → Vals ws us' → dqs xs ys = some b → A.units + deps xs < cLine →
    ∀ (j : Nat) (h1 : j < us.length) (h2 : j < us'.length), EqAt A s us[j] us'[j] (pe xs ys j)
  | [], ys, vs, ws, us, us', b, A, r, q, rv, rw', h, hu, j, h1, h2 => by
    simp only [Reps] at r; subst r
    cases rv; exact absurd h1 (Nat.not_lt_zero _)
  | x :: xs, [], vs, ws, us, us', b, A, r, q, rv, rw', h, hu, j, h1, h2 => by
    simp only [Reps] at q; subst q
    cases rw'; exact absurd h2 (Nat.not_lt_zero _)
  | x :: xs, y :: ys, vs, ws, us, us', b, A, r, q, rv, rw', h, hu, j, h1, h2 => by
    simp only [Reps] at r q
    obtain ⟨v, vs', rfl, r1, r2⟩ := r
    obtain ⟨w, ws', rfl, q1, q2⟩ := q
    cases rv with
    | cons a1 a2 =>
      cases rw' with
      | cons b1 b2 =>
        simp only [dqs] at h
        cases z : dq x y with
        | none => rw [z] at h; cases h
        | some c =>
          rw [z] at h
          dsimp only at h
          cases z2 : dqs xs ys with
          | none => rw [z2] at h; cases h
          | some c2 =>
            have hd := le_dep (x := x) (xs := xs)
            cases j with
            | zero =>
              have e0 : pe (x :: xs) (y :: ys) 0 = c := by simp [pe, z]
              rw [e0]
              exact eq_ok I x y v w _ _ c A r1 q1 a1 b1 z (by omega)
            | succ j =>
              have e0 : pe (x :: xs) (y :: ys) (j + 1) = pe xs ys j := by simp [pe]
              rw [e0]
              exact eqs_ok I xs ys vs' ws' _ _ c2 A r2 q2 a2 b2 z2 (by omega) j (Nat.lt_of_succ_lt_succ h1) (Nat.lt_of_succ_lt_succ h2)
end
/-- == and != as operators -/
theorem rc_ok (I : Inv X pins σ H s) {d e : D} {v w : V} {u u' : Value} {b : Bool} {A : Around} (r : Rep X.K H d v) (q : Rep X.K H e w) (ru : RelV v u) (rq : RelV w u') (h : dq d e = some b) (hu : A.units + dep d < cLine) : RcAt A s u u' b ∧ (RcNeAt A s u u' (!b) ∨ knd d = some 5) := by
  cases d with
  | non =>
    cases e with
    | non => simp only [dq] at h; cases h; simp only [Rep] at r q; subst r q; cases ru; cases rq; exact ⟨RcAt.none_none, .inl RcNeAt.none_none⟩
    | _ => simp only [dq] at h; exact (eq_unlike I (d := .non) rfl r q ru rq h (by simpa [dep] using hu)).2.2.imp id .inl
  | bl x =>
    cases e with
    | bl y => simp only [dq] at h; cases h; simp only [Rep] at r q; subst r q; cases ru; cases rq; exact ⟨RcAt.bool_bool x y, .inl (RcNeAt.bool_bool x y)⟩
    | int y => simp only [dq] at h; cases h; simp only [Rep] at r q; subst r q; cases ru; obtain ⟨t, rfl⟩ := rq; exact ⟨RcAt.bool_int x y t, .inl (RcNeAt.bool_int x y t)⟩
    | _ => simp only [dq] at h; exact (eq_unlike I (d := .bl x) rfl r q ru rq h (by simpa [dep] using hu)).2.2.imp id .inl
  | int x =>
    cases e with
    | bl y => simp only [dq] at h; cases h; simp only [Rep] at r q; subst r q; cases rq; obtain ⟨t, rfl⟩ := ru; exact ⟨RcAt.int_bool x t y, .inl (RcNeAt.int_bool x t y)⟩
    | int y => simp only [dq] at h; cases h; simp only [Rep] at r q; subst r q; obtain ⟨t, rfl⟩ := ru; obtain ⟨t', rfl⟩ := rq; exact ⟨RcAt.int_int x t y t', .inl (RcNeAt.int_int x t y t')⟩
    | _ => simp only [dq] at h; exact (eq_unlike I (d := .int x) rfl r q ru rq h (by simpa [dep] using hu)).2.2.imp id .inl
  | str x =>
    cases e with
    | str y => simp only [dq] at h; cases h; simp only [Rep] at r q; subst r q; obtain ⟨t, rfl⟩ := ru; obtain ⟨t', rfl⟩ := rq; exact ⟨RcAt.str_str x t y t', .inl (RcNeAt.str_str x t y t')⟩
    | _ => simp only [dq] at h; exact (eq_unlike I (d := .str x) rfl r q ru rq h (by simpa [dep] using hu)).2.2.imp id .inl
  | tup xs =>
    cases e with
    | tup ys =>
      simp only [Rep] at r q
      obtain ⟨a, vs, rfl, h1, r1⟩ := r
      obtain ⟨a', ws, rfl, h2, r2⟩ := q
      cases ru; cases rq
      simp only [dq] at h
      cases z : dqs xs ys with
      | none => rw [z] at h; cases h
      | some c =>
        rw [z] at h; cases h
        obtain ⟨its, rv, p, _⟩ := I.tuple h1
        obtain ⟨its2, rv2, p2, _⟩ := I.tuple h2
        have l1 : xs.length = its.length := by rw [← r1.length]; exact rv.length
        have l2 : ys.length = its2.length := by rw [← r2.length]; exact rv2.length
        have he : ∀ j (j1 : j < its.toArray.size) (j2 : j < its2.toArray.size), EqAt A.in1 s its.toArray[j] its2.toArray[j] (pe xs ys j) := fun j j1 j2 => by
          have := eqs_ok I xs ys vs ws its its2 c A.in1 r1 r2 rv rv2 z (by simp only [dep] at hu; show A.units + 1 + _ < _; omega) j (by simpa using j1) (by simpa using j2)
          simpa using this
        have hb : ((List.range (min its.toArray.size its2.toArray.size)).all (pe xs ys) && its.toArray.size == its2.toArray.size) = (c && xs.length == ys.length) := by
          simp only [List.size_toArray]
          rw [← l1, ← l2, dqs_all xs ys c z]
        have k1 := RcAt.tuples (A := A) (e := pe xs ys) p p2 (by omega) he
        have k2 := RcNeAt.tuples (A := A) (e := pe xs ys) p p2 (by omega) he
        rw [hb] at k1 k2
        exact ⟨k1, .inl k2⟩
    | _ => simp only [dq] at h; exact (eq_unlike I (d := .tup xs) rfl r q ru rq h (by omega)).2.2.imp id .inl
  | lst xs =>
    cases e with
    | lst ys =>
      simp only [Rep] at r q
      obtain ⟨a, vs, rfl, h1, r1⟩ := r
      obtain ⟨a', ws, rfl, h2, r2⟩ := q
      cases ru; cases rq
      simp only [dq] at h
      obtain ⟨its, rv, p, _⟩ := I.list (SqL.of h1)
      obtain ⟨its2, rv2, p2, _⟩ := I.list (SqL.of h2)
      have l1 : xs.length = its.length := by rw [← r1.length]; exact rv.length
      have l2 : ys.length = its2.length := by rw [← r2.length]; exact rv2.length
      by_cases hl : xs.length = ys.length
      · rw [if_pos (by simpa using hl)] at h
        have he : ∀ j (j1 : j < its.toArray.size) (j2 : j < its2.toArray.size), EqAt A.in1 s its.toArray[j] its2.toArray[j] (pe xs ys j) := fun j j1 j2 => by
          have := eqs_ok I xs ys vs ws its its2 b A.in1 r1 r2 rv rv2 h (by simp only [dep] at hu; show A.units + 1 + _ < _; omega) j (by simpa using j1) (by simpa using j2)
          simpa using this
        have hb : (List.range its.toArray.size).all (pe xs ys) = b := by
          rw [List.size_toArray, ← l1, ← dqs_all xs ys b h, ← hl, Nat.min_self]
        have k1 := RcAt.lists (A := A) (e := pe xs ys) p.isList p2.isList (by simp; omega) (by omega) he
        have k2 := RcNeAt.lists (A := A) (e := pe xs ys) p.isList p2.isList (by simp; omega) (by omega) he
        rw [hb] at k1 k2
        exact ⟨k1, .inl k2⟩
      · rw [if_neg (by simpa using hl)] at h
        cases h
        exact ⟨RcAt.lists_lengths p.isList p2.isList (by simp; omega) (by omega), .inl (RcNeAt.lists_lengths p.isList p2.isList (by simp; omega) (by omega))⟩
    | _ => simp only [dq] at h; exact (eq_unlike I (d := .lst xs) rfl r q ru rq h (by omega)).2.2.imp id .inl
  | dic ks ds =>
    cases e with
    | dic ks' ds' =>
      simp only [dq] at h
      split at h
      · rename_i c
        cases h
        simp only [Rep] at r q
        obtain ⟨a, us, vs, rfl, l1, h1, k1, _⟩ := r
        obtain ⟨a', us', vs', rfl, l2, h2, k2, _⟩ := q
        cases ru; cases rq
        simp only [Bool.and_eq_true, List.isEmpty_iff] at c
        have e1 : us = [] := by have := k1.length; rw [c.1] at this; simpa using this
        have e2 : us' = [] := by have := k2.length; rw [c.2] at this; simpa using this
        subst e1 e2
        obtain ⟨s1, es, ep, g1, z1⟩ := dic_at I h1
        obtain ⟨s2, es', ep', g2, z2⟩ := dic_at I h2
        rw [z1 (by simp)] at g1
        rw [z2 (by simp)] at g2
        exact ⟨Rc_dd g1 g2 s1 s2 (by omega), .inr rfl⟩
      · cases h
    | _ => simp only [dq] at h; exact (eq_unlike I (d := .dic ks ds) rfl r q ru rq h (by omega)).2.2.imp id .inl
  | scr _ => simp [dq] at h
  | con _ => simp [dq] at h
  | ins _ _ => simp [dq] at h
end
/-! the rules -/
def eqX (d e : D) : Option D := if Nat.ble (dep d) 60 then (dq d e).map D.bl else none
/-- != (not of two dicts) -/
def neX (d e : D) : Option D := match knd d, knd e with
  | some 5, some 5 => none
  | _, _ => if Nat.ble (dep d) 60 then (dq d e).map fun b => D.bl (!b) else none
def rEqX (K : PySem.W.Frag) : R2 := fun x y H Q => ∃ d e b, Rep K H d x ∧ Rep K H e y ∧ dq d e = some b ∧ dep d ≤ 60 ∧ Q (.bl b) H
def rNeX (K : PySem.W.Frag) : R2 := fun x y H Q => ∃ d e b, Rep K H d x ∧ Rep K H e y ∧ dq d e = some b ∧ dep d ≤ 60 ∧ ¬ (knd d = some 5 ∧ knd e = some 5) ∧ Q (.bl (!b)) H
section
variable {X : Cx}
theorem op_eqX (hu : X.A.units + 64 < cLine) : OpR X (compareOp .Eq) (rEqX X.K) := by
  intro pins s σ H x y v u Q I rx ry h
  obtain ⟨d, e, b, r, q, z, hd, hq⟩ := h
  exact (rc_ok I r q rx ry z (by omega : X.A.units + dep d < cLine)).1 X.prog X.w _ _ ⟨.bl b, H, I, rfl, hq⟩
theorem op_neX (hu : X.A.units + 64 < cLine) : OpR X (compareOp .NotEq) (rNeX X.K) := by
  intro pins s σ H x y v u Q I rx ry h
  obtain ⟨d, e, b, r, q, z, hd, hne, hq⟩ := h
  rcases (rc_ok I r q rx ry z (by omega : X.A.units + dep d < cLine)).2 with k | k
  · exact k X.prog X.w _ _ ⟨.bl (!b), H, I, rfl, hq⟩
  · have hu' : X.A.units < cLine := by omega
    cases d with
    | dic ks ds =>
      have z' := z
      cases e with
      | dic _ _ => exact absurd ⟨rfl, rfl⟩ hne
      | _ => simp only [dq] at z'; exact (eq_unlike I (d := .dic ks ds) rfl r q rx ry z' hu').2.2.2 X.prog X.w _ _ ⟨.bl (!b), H, I, rfl, hq⟩
    | _ => cases k
theorem od_eqX {K : PySem.W.Frag} : OpD K (rEqX K) eqX := by
  intro G H d1 d2 d v1 v2 Q s r1 r2 e q
  unfold eqX at e
  split at e
  · rename_i c
    cases z : dq d1 d2 with
    | none => rw [z] at e; cases e
    | some b =>
      rw [z] at e; cases e
      exact ⟨d1, d2, b, Rep.mono s _ _ r1, Rep.mono s _ _ r2, z, by simpa using c, q _ H G (PStp.refl s) (rep_bl _)⟩
  · cases e
theorem od_neX {K : PySem.W.Frag} : OpD K (rNeX K) neX := by
  intro G H d1 d2 d v1 v2 Q s r1 r2 e q
  unfold neX at e
  split at e
  · cases e
  · rename_i hn
    split at e
    · rename_i c
      cases z : dq d1 d2 with
      | none => rw [z] at e; cases e
      | some b =>
        rw [z] at e; cases e
        exact ⟨d1, d2, b, Rep.mono s _ _ r1, Rep.mono s _ _ r2, z, by simpa using c, fun k => hn k.1 k.2, q _ H G (PStp.refl s) (rep_bl _)⟩
    · cases e
end
end M

namespace M
open PySem PySem.Spec PyProof.Rows L2
variable [Tabs]

/-! ### repr, empty dicts in it -/
mutual
def plainE : D → Bool
  | .tup ds => plainsE ds
  | .lst ds => plainsE ds
  | .dic ks ds => ks.isEmpty && ds.isEmpty
  | .scr _ => false
  | .con _ => false
  | .ins _ _ => false
  | _ => true
def plainsE : List D → Bool
  | [] => true
  | d :: ds => plainE d && plainsE ds
end
mutual
def noLst : D → Bool
  | .tup ds => noLsts ds
  | .lst _ => false
  | _ => true
def noLsts : List D → Bool
  | [] => true
  | d :: ds => noLst d && noLsts ds
end
section
variable {X : Cx} {pins : List (Addr × Obj)} {σ : L2.St} {H : Hp} {s : Shared}
mutual
theorem reads_of (I : Inv X pins σ H s) : ∀ (d : D) (v : V) (u : Value), plainE d = true → Rep X.K H d v → RelV v u → ∃ as, Reads s.heap u (pd d) as ∧ (noLst d = true → sysModules ∉ as)
  | .non, v, u, _, r, q => by simp only [Rep] at r; subst r; cases q; exact ⟨_, by simp only [pd]; exact Reads.none, fun _ => by simp⟩
  | .bl b, v, u, _, r, q => by simp only [Rep] at r; subst r; cases q; exact ⟨_, by simp only [pd]; exact Reads.bool b, fun _ => by simp⟩
  | .int i, v, u, _, r, q => by simp only [Rep] at r; subst r; obtain ⟨t, rfl⟩ := q; exact ⟨_, by simp only [pd]; exact Reads.int i t, fun _ => by simp⟩
  | .str x, v, u, _, r, q => by simp only [Rep] at r; subst r; obtain ⟨t, rfl⟩ := q; exact ⟨_, by simp only [pd]; exact Reads.str x t, fun _ => by simp⟩
  | .tup ds, v, u, p, r, q => by
    simp only [Rep] at r
    obtain ⟨a, vs, rfl, h1, r1⟩ := r
    cases q
    obtain ⟨its, rv, ⟨o, ho, hc, n, hd⟩, _⟩ := I.tuple h1
    obtain ⟨as, hr, hn⟩ := readsAll_of I ds vs its (by simpa only [plainE] using p) r1 rv
    exact ⟨_, by simp only [pd]; exact Reads.tuple ho hc hd (by simpa using hr), fun z => hn (by simpa only [noLst] using z)⟩
  | .lst ds, v, u, p, r, q => by
    simp only [Rep] at r
    obtain ⟨a, vs, rfl, h1, r1⟩ := r
    cases q
    obtain ⟨its, rv, ⟨o, n, ho, hc, _, hd⟩, _⟩ := I.list (SqL.of h1)
    obtain ⟨as, hr, _⟩ := readsAll_of I ds vs its (by simpa only [plainE] using p) r1 rv
    exact ⟨_, by simp only [pd]; exact Reads.list ho hc hd (by simpa using hr), fun z => by simp [noLst] at z⟩
  | .dic ks ds, v, u, p, r, q => by
    simp only [plainE, Bool.and_eq_true, List.isEmpty_iff] at p
    obtain ⟨rfl, rfl⟩ := p
    simp only [Rep, Reps] at r
    obtain ⟨a, us, vs, rfl, l, h1, k1, k2⟩ := r
    subst k2
    have e1 : us = [] := by simpa using k1
    subst e1
    cases q
    obtain ⟨sm, es, ep, g, z⟩ := dic_at I h1
    rw [z rfl] at g
    refine ⟨_, by simp only [pd, pds, List.zip_nil_left]; exact Reads.dict g rfl rfl .nil .nil, fun _ hm => ?_⟩
    have : sysModules = a := by simpa using hm
    rw [← this] at sm
    simp at sm
  | .scr _, _, _, p, _, _ => by simp [plainE] at p
  | .con _, _, _, p, _, _ => by simp [plainE] at p
  | .ins _ _, _, _, p, _, _ => by simp [plainE] at p
theorem readsAll_of (I : Inv X pins σ H s) : ∀ (ds : List D) (vs : List V) (us : List Value), plainsE ds = true → Reps X.K H ds vs → Vals vs us → ∃ as, ReadsAll s.heap us (pds ds) as ∧ (noLsts ds = true → sysModules ∉ as)
  | [], vs, us, _, r, q => by
    simp only [Reps] at r; subst r
    cases q
    exact ⟨_, by simp only [pds]; exact .nil, fun _ => by simp⟩
  | d :: ds, vs, us, p, r, q => by
    simp only [Reps] at r
    obtain ⟨v, w, rfl, r1, r2⟩ := r
    simp only [plainsE, Bool.and_eq_true] at p
    cases q with
    | cons q1 q2 =>
      obtain ⟨as, h1, n1⟩ := reads_of I d v _ p.1 r1 q1
      obtain ⟨bs, h2, n2⟩ := readsAll_of I ds w _ p.2 r2 q2
      refine ⟨_, by simp only [pds]; exact .cons h1 h2, fun z => ?_⟩
      simp only [noLsts, Bool.and_eq_true] at z
      rw [List.mem_append, not_or]
      exact ⟨n1 z.1, n2 z.2⟩
end
end
def showDX (d : D) : Bool := plainE d && (pd d).showable && (!(pd d).hasDict || noLst d) && Nat.ble (pd d).depth 60 && Nat.ble (pd d).shown.length sizeLine
def showX : D → Bool
  | .non => true
  | .bl _ => true
  | .int i => Nat.blt i.natAbs.log2 1920
  | .str x => Nat.ble (reprText x).length sizeLine
  | .tup ds => showDX (.tup ds)
  | .lst ds => showDX (.lst ds)
  | .dic ks ds => showDX (.dic ks ds)
  | _ => false
def reprX : List D → Option D
  | [d] => if showX d = true then some (.str (pd d).shown) else none
  | _ => none
section
variable {X : Cx}
def rReprX (K : PySem.W.Frag) : List V → Hp → VK → Prop := fun vs H Q => ∃ v d, vs = [v] ∧ Rep K H d v ∧ showX d = true ∧ Q (.str (pd d).shown) H
theorem cr_reprX (hg : X.A.guards = some []) (hu : X.A.units + 66 < cLine) : CallR X (.builtin "repr") (rReprX X.K) := by
  intro pins s σ H xs us Q I r h
  obtain ⟨v, d, rfl, hd, ok, q⟩ := h
  obtain ⟨u, rfl, ru⟩ := vals1 r
  have disp : ∀ a, u = .ref a → showDX d = true → wpAny (model X.prog X.w) X.A (call (.builtin "repr") [u]) (EP X pins σ Q) X.xe s := fun a e ok => by
    simp only [showDX, Bool.and_eq_true, Nat.ble_eq, Bool.or_eq_true, Bool.not_eq_true'] at ok
    obtain ⟨⟨⟨⟨o1, o2⟩, o3⟩, o4⟩, o5⟩ := ok
    obtain ⟨as, rd, hn⟩ := reads_of I d v u o1 hd ru
    subst e
    refine repr_of_reads' rd o2 (fun z => hn (o3.resolve_left fun k => by rw [z] at k; cases k)) hg (by omega) (fun _ _ e => e) (fun h' u tk hk => ⟨.str _, H, I.kept hk, ⟨u, rfl⟩, q⟩) o5
  cases d with
  | non => simp only [Rep] at hd; subst hd; cases ru; exact PySem.P.repr_of_none ⟨.str _, H, I.tok _, ⟨_, rfl⟩, q⟩
  | bl b =>
    simp only [Rep] at hd; subst hd; cases ru
    refine PySem.P.repr_of_bool ⟨.str (if b then "True" else "False"), H, I.tok _, ⟨_, by cases b <;> rfl⟩, ?_⟩
    simp only [pd, PyData.shown] at q
    cases b <;> simpa using q
  | int i =>
    simp only [Rep] at hd; subst hd
    obtain ⟨t, rfl⟩ := ru
    exact PySem.P.repr_of_int (by simpa [showX, Nat.blt, Nat.succ_le_iff] using ok) ⟨.str _, H, I.tok _, ⟨_, rfl⟩, q⟩
  | str x =>
    simp only [Rep] at hd; subst hd
    obtain ⟨t, rfl⟩ := ru
    exact PySem.P.repr_of_str ⟨.str _, H, I.tok _, ⟨_, rfl⟩, by simpa only [pd, PyData.shown] using q⟩ (by simpa [showX] using ok)
  | tup ds =>
    have hd' := hd
    simp only [Rep] at hd'
    obtain ⟨a, vs, rfl, _⟩ := hd'
    exact disp a ru ok
  | lst ds =>
    have hd' := hd
    simp only [Rep] at hd'
    obtain ⟨a, vs, rfl, _⟩ := hd'
    exact disp a ru ok
  | dic ks ds =>
    have hd' := hd
    simp only [Rep] at hd'
    obtain ⟨a, us, vs, rfl, _⟩ := hd'
    exact disp a ru ok
  | _ => cases ok
theorem cd_reprX {K : PySem.W.Frag} : CallD K (rReprX K) reprX := by
  intro G H ds d vs Q s r e q
  unfold reprX at e
  split at e
  · rename_i d0
    split at e
    · rename_i c
      obtain ⟨v, rfl, r1⟩ := reps1 r
      cases e
      exact ⟨v, d0, rfl, Rep.mono s _ _ r1, c, q _ H G (PStp.refl s) (rep_str _)⟩
    · cases e
  · cases e
end
/-! {} -/
theorem de_dic0 {X : Cx} {pos : Pos} : PE X (.Dict [] [] pos) (rd X.K (eC (.dic [] []))) := by
  refine pe_imp pe_dnewK fun σ H Q ⟨ρ, G, I, h⟩ p hp => ?_
  have P := PStp.laid (o := .dK []) I.sub hp
  refine h _ _ _ P.stp (I.pure P) ?_
  simp only [Rep]
  exact ⟨p, [], [], rfl, rfl, upd_same, Reps.nil, Reps.nil⟩
/-! min of a list, index of a list -/
def minL : List D → Option D
  | [.lst ds] => (match asInts ds with | some (n :: ns) => some (.int (ns.foldl (fun a b => if iLt b a then b else a) n)) | _ => none)
  | _ => none
theorem foldmin : ∀ (ns : List Int) (n : Int), (ns.foldl (fun a b => if iLt b a then b else a) n ∈ n :: ns) ∧ ∀ y ∈ n :: ns, ns.foldl (fun a b => if iLt b a then b else a) n ≤ y
  | [], n => by simp
  | m :: ns, n => by
    obtain ⟨h1, h2⟩ := foldmin ns (if iLt m n then m else n)
    simp only [List.foldl_cons]
    refine ⟨?_, fun y hy => ?_⟩
    · rcases List.mem_cons.mp h1 with e | e
      · rw [e]; split <;> simp
      · simp [e]
    · have h0 := h2 _ List.mem_cons_self
      rw [iLt_eq] at h0
      rcases List.mem_cons.mp hy with e | e
      · subst e
        rw [iLt_eq]
        by_cases c : m < y
        · simp only [c, decide_true, if_true] at h0 ⊢; omega
        · simp only [c, decide_false, if_false] at h0 ⊢; exact h0
      · rcases List.mem_cons.mp e with e | e
        · subst e
          rw [iLt_eq]
          by_cases c : y < n
          · simp only [c, decide_true, if_true] at h0 ⊢; exact h0
          · simp only [c, decide_false, if_false] at h0 ⊢; omega
        · exact h2 y (List.mem_cons_of_mem _ e)
theorem cd_minL {K : PySem.W.Frag} : CallD K (rMin K) minL := by
  intro G H ds d vs Q s r e q
  unfold minL at e
  split at e
  · rename_i ds'
    obtain ⟨v, rfl, r1⟩ := reps1 r
    simp only [Rep] at r1
    obtain ⟨a, us, rfl, h1, q1⟩ := r1
    split at e
    · rename_i n ns hi
      cases e
      rw [asInts_eq hi] at q1
      refine ⟨a, n :: ns, rfl, ?_, by simp, fun m hm hle => ?_⟩
      · rw [← q1.ints]; exact SqL.of (s _ _ h1)
      · obtain ⟨h2, h3⟩ := foldmin ns n
        have : m = ns.foldl (fun a b => if iLt b a then b else a) n := by
          have a1 := hle _ h2
          have a2 := h3 m hm
          omega
        subst this
        exact q _ H G (PStp.refl s) (rep_int _)
    · cases e
  · cases e
/-- where an item first stands -/
def idxF (x : D) : List D → Option Nat
  | [] => none
  | y :: ys => if eqF y x then some 0 else (idxF x ys).map (· + 1)
def idxD (l : D) (ds : List D) : Option D := match l, ds with
  | .lst ys, [x] => if flatD x = true ∧ ys.all flatD = true then (idxF x ys).map fun j => .int (j : Nat) else none
  | _, _ => none
theorem idxF_of {K : PySem.W.Frag} {G : Hp} {x : D} {w : V} (rx : Rep K G x w) (fx : flatD x = true) : ∀ {ys : List D} {vs : List V} {j : Nat}, Reps K G ys vs → ys.all flatD = true → idxF x ys = some j → ∃ z, vs[j]? = some z ∧ eqV z w = true ∧ ∀ (m : Nat) (z' : V), m < j → vs[m]? = some z' → eqV z' w = false
  | [], vs, j, r, _, h => by cases h
  | y :: ys, vs, j, r, hf, h => by
    simp only [Reps] at r
    obtain ⟨v, us, rfl, r1, r2⟩ := r
    rw [List.all_cons, Bool.and_eq_true] at hf
    unfold idxF at h
    by_cases c : eqF y x = true
    · rw [if_pos c] at h; cases h
      exact ⟨v, rfl, by rw [eqF_of r1 rx hf.1 fx]; exact c, fun m z' hm => absurd hm (Nat.not_lt_zero _)⟩
    · rw [if_neg c] at h
      cases z : idxF x ys with
      | none => rw [z] at h; cases h
      | some k =>
        rw [z] at h; cases h
        obtain ⟨z', e1, e2, e3⟩ := idxF_of rx fx r2 hf.2 z
        refine ⟨z', by simpa using e1, e2, fun m z'' hm e => ?_⟩
        cases m with
        | zero => simp at e; subst e; rw [eqF_of r1 rx hf.1 fx]; simpa using c
        | succ m => exact e3 m z'' (Nat.lt_of_succ_lt_succ hm) (by simpa using e)
/-- e.m(..), a method of a list that only reads -/
def eMet (op : D → List D → Option D) (fa : FE) (fs : FA) : FE := bnd fa fun x => bndA fs fun ds => fun ρ => ofO (op x ds) ρ
theorem de_index {X : Cx} {a e : Expr} {fa fe : FE} {pos apos : Pos} (ha : PE X a (rd X.K fa)) (he : PE X e (rd X.K fe)) (hbase : attributeBase a "index" X.env (eval a X.env) = eval a X.env := by rfl)
    (hse : starEach [e] X.env = (false, eval e X.env) :: starEach [] X.env := by rfl)
    (hfew : ((backTo pos (starEach [e] X.env)).all (fun x => !x.1) && (backToKw pos (keywordEach [] X.env)).all (fun x => x.1.isSome)
      && decide (([e] : List Expr).length + ([] : List Keyword).length + (if ([] : List Keyword).isEmpty then 0 else 1) < 30)) = true := by rfl)
    (hline : (apos.endLine == pos.line) = true := by rfl) : PE X (.Call (.Attribute a "index" apos) [e] [] pos) (rd X.K (eMet idxD fa (aCons fe aNil))) := by
  refine pe_imp (pe_bm PySem.F.plainAttrs_list PySem.F.slot_list_index PySem.F.type_list_index mt_index ha (pa_cons he pa_nil hse) hbase hfew hline hse) fun σ H Q ⟨ρ, G, I, h⟩ => ?_
  refine rd_of I (rdK_mono (rdK_bnd h) fun v H1 ⟨d1, ρ1, G1, s1, I1, r1, h1⟩ => ?_)
  have key : ∀ ys, d1 = .lst ys → ∃ a vs, v = .ref a ∧ G1 a = some (.lst vs) ∧ Reps X.K G1 ys vs := fun ys z => by
    subst z; simp only [Rep] at r1; exact r1
  -- the argument
  unfold rdK bndA aCons aNil at h1
  dsimp only [Rz.bind] at h1
  cases e1 : fe ρ1 with
  | ex _ _ => rw [e1] at h1; exact h1.elim
  | no => rw [e1] at h1; exact h1.elim
  | ok p =>
    obtain ⟨d2, ρ2⟩ := p
    rw [e1] at h1
    dsimp only at h1
    cases e2 : idxD d1 [d2] with
    | none => rw [e2] at h1; exact h1.elim
    | some d3 =>
      rw [e2] at h1
      dsimp only [ofO] at h1
      rw [frc_eq] at h1
      unfold idxD at e2
      split at e2
      · rename_i ys x hx
        cases hx
        split at e2
        · rename_i c
          cases e3 : idxF d2 ys with
          | none => rw [e3] at e2; cases e2
          | some j =>
            rw [e3] at e2; cases e2
            obtain ⟨a, vs, rfl, g1, rr⟩ := key ys rfl
            refine ⟨tyV_list (I1.sub _ _ g1), ?_⟩
            refine rd_of I1 ?_
            unfold rdK
            rw [e1]
            intro w H2 G2 s2 I2 r2
            have rr2 := Reps.mono s2.sub _ _ rr
            obtain ⟨z, k1, k2, k3⟩ := idxF_of r2 c.1 rr2 c.2 e3
            exact ⟨a, vs, w, j, z, rfl, rfl, SqL.of (I2.sub _ _ (s2.sub _ _ g1)), flat_of r2 c.1, flats_of rr2 c.2, k1, k2, k3, h1 _ H2 G2 s2 I2 (rep_int _)⟩
        · cases e2
      · cases e2
end M

namespace M
open PySem PySem.Spec PyProof.Rows L2
variable [Tabs]

/-! ### targets: a tuple of targets -/
def tAll : List TgD → List D → Rho → Option Rho
  | [], [], ρ => some ρ
  | t :: ts, d :: ds, ρ => (t d ρ).bind (tAll ts ds)
  | _, _, _ => none
def tTup (ts : List TgD) : TgD := fun d ρ => match d with | .tup ds => tAll ts ds ρ | _ => none
def rdGs (K : PySem.W.Frag) (is : List Nat) (ts : List TgD) : TGs := fun vs σ H Q => ∃ ρ G ds, SR K G H σ ρ ∧ Reps K G ds vs ∧ ∃ ρ', tAll ts ds ρ = some ρ' ∧
  ∀ σ', Stp σ ρ G H σ' ρ' G H → SR K G H σ' ρ' → Only is σ σ' → Q σ' H
theorem Only.trans {is : List Nat} {σ σ1 σ2 : L2.St} (a : Only is σ σ1) (b : Only is σ1 σ2) : Only is σ σ2 := ⟨b.1.trans a.1, fun k h => (b.2 k h).trans (a.2 k h)⟩
theorem tAll_len : ∀ {ts : List TgD} {ds : List D} {ρ ρ' : Rho}, tAll ts ds ρ = some ρ' → ds.length = ts.length
  | [], [], _, _, _ => rfl
  | [], _ :: _, _, _, h => by cases h
  | _ :: _, [], _, _, h => by cases h
  | t :: ts, d :: ds, ρ, ρ', h => by
    unfold tAll at h
    cases q : t d ρ with
    | none => rw [q] at h; cases h
    | some ρ1 => rw [q] at h; rw [List.length_cons, List.length_cons, tAll_len h]
section
variable {X : Cx} {e : Expr} {es : List Expr} {is : List Nat} {t : TgD} {ts : List TgD} {pos : Pos} {k : Nat}
theorem dgs_nil : PGs X [] (rdGs X.K is []) := by
  refine ⟨fun pins s σ H vs us Q I r ⟨ρ, G, ds, J, rd, ρ', e, q⟩ => pgs_nil.run pins s σ H vs us Q I r ?_⟩
  cases ds with
  | nil =>
    cases e
    simp only [Reps] at rd
    exact ⟨rd, q σ (Stp.refl _ _ _ _) J Only.refl⟩
  | cons _ _ => cases e
theorem dgs_cons (h : PG X e (rdG X.K is t)) (r : PGs X es (rdGs X.K is ts)) (hs : (assignEach (e :: es) X.env).map (·.2) = assign e X.env :: (assignEach es X.env).map (·.2) := by rfl) : PGs X (e :: es) (rdGs X.K is (t :: ts)) := by
  refine ⟨fun pins s σ H vs us Q I rv ⟨ρ, G, ds, J, rd, ρ', e0, q⟩ => (pgs_cons h r hs).run pins s σ H vs us Q I rv ?_⟩
  cases ds with
  | nil => cases e0
  | cons d ds =>
    unfold tAll at e0
    cases z : t d ρ with
    | none => rw [z] at e0; cases e0
    | some ρ1 =>
      rw [z] at e0
      simp only [Reps] at rd
      obtain ⟨v, w, rfl, r1, r2⟩ := rd
      exact ⟨v, w, rfl, ρ, G, d, J, r1, ρ1, z, fun σ1 s1 J1 o1 => ⟨ρ1, G, ds, J1, r2, ρ', e0, fun σ2 s2 J2 o2 => q σ2 (s1.trans s2) J2 (o1.trans o2)⟩⟩
theorem dg_tup (hc : X.calm = true) (h : PGs X es (rdGs X.K is ts)) (hn : (assignEach es X.env).length = ts.length := by rfl) (hst : (assignEach es X.env).findIdx? (·.1) = none := by rfl) : PG X (.Tuple es k pos) (rdG X.K is (tTup ts)) := by
  refine ⟨fun pins s σ H v u Q I r ⟨ρ, G, d, J, rd, ρ', e, q⟩ => (pg_tup hc h hn hst).run pins s σ H v u Q I r ?_⟩
  unfold tTup at e
  split at e
  · rename_i ds
    simp only [Rep] at rd
    obtain ⟨a, vs, rfl, h1, r1⟩ := rd
    exact ⟨a, vs, rfl, SqT.mono J.sub h1, by rw [r1.length, tAll_len e], ρ, G, ds, J, r1, ρ', e, q⟩
  · cases e
end
/-! target = value -/
def sAsg (tg : TgD) (fe : FE) : FS := bndS fe fun d => fun ρ => match tg d ρ with | some ρ' => .ok (.nx, ρ') | none => .no
theorem ds_asg {X : Cx} {tg e : Expr} {is : List Nat} {t : TgD} {fe : FE} {pos : Pos} (he : PE X e (rd X.K fe)) (hg : PG X tg (rdG X.K is t)) (hs : swapsWithSole [tg] e pos.line X.env = pure false := by rfl) (hw : swappedStores [tg] e X.env = pure none := by rfl)
    (h1 : (assignEach [tg] X.env).map (·.2) = [assign tg X.env] := by rfl) : PS X (.Assign [tg] e pos) (rdS X.K (sAsg t fe)) := by
  refine ps_imp (ps_asg he hg hs hw h1) fun D σ H ⟨ρ, G, I, h⟩ => ?_
  refine rd_of I (rdK_mono (rdSK_bnd h) fun v H1 ⟨d, ρ1, G1, s1, I1, r1, h1⟩ => ?_)
  unfold rdSK at h1
  dsimp only at h1
  cases z : t d ρ1 with
  | none => rw [z] at h1; exact h1.elim
  | some ρ2 =>
    rw [z] at h1
    exact ⟨ρ1, G1, d, I1, r1, ρ2, z, fun σ' s2 I2 _ => h1 σ' H1 G1 s2 I2⟩

/-! ### x[k] op= e, x one's own -/
theorem get_list {X : Cx} : PGet X (rIxL X.K) := by
  intro pins s σ H x y v u Q I rx ry h
  obtain ⟨p, xs, i, z, rfl, rfl, hq, he, q⟩ := h
  cases rx
  obtain ⟨t, rfl⟩ := ry
  obtain ⟨its, r, pl, hz⟩ := I.list hq
  obtain ⟨j, h1, h2, h3, h4, h5⟩ := atI_get he
  obtain ⟨w, ew, rw'⟩ := r.get h2
  have hl := r.length
  have hn := line63
  by_cases h0 : 0 ≤ i
  · have hj : i.toNat = j := by
      rw [seqIndex_of h0 h5] at h1
      exact Option.some.inj h1
    exact wpAny_getItem_list (x := w) pl.isList h0 (by omega) (by rw [hj]; simpa using ew) ⟨z, H, I, rw', q⟩
  · have hj : (i + (its.toArray.size : Int)).toNat = j := by
      rw [seqIndex_neg (by omega) h4] at h1
      rw [List.size_toArray, ← hl]
      exact Option.some.inj h1
    exact wpAny_getItem_list_neg (x := w) pl.isList (by omega) (by rw [List.size_toArray] <;> omega) (by omega) (by rw [hj]; simpa using ew) ⟨z, H, I, rw', q⟩
def sAugO (j : Nat) (op : D → D → Option D) (fk fe : FE) : FS := fun ρ => match ownL ρ j with
  | none => .no
  | some _ => (bndS fk fun i => fun ρ1 => match ownL ρ1 j, i with
    | some (_, ds), .int i => (match atI ds i with
      | some x => (bndS fe fun y => fun ρ2 => match ownL ρ2 j, op x y with
        | some (io, es), some z => (match ixN es.length i with | some n => .ok (.nx, ρ2.set j (some (.own io (es.set n z)))) | none => .no)
        | _, _ => .no) ρ1
      | none => .no)
    | _, _ => .no) ρ
theorem ds_augO {X : Cx} {k e : Expr} {fk fe : FE} {op : D → D → Option D} {o : Operator} {ti : TIp} {pos tpos px : Pos} {x : Str} (j : Nat) (hd : IpD X.K ti op) (ho : PIp X o ti) (hk : PE X k (rd X.K fk)) (he : PE X e (rd X.K fe)) (hN : X.N[j]? = some x := by rfl)
    (hv : Vis X.env.scope x := by first | exact Or.inl rfl | exact Or.inr (Or.inl rfl) | exact Or.inr (Or.inr rfl)) (hdb : (x == ("__debug__" : Str)) = false := by decide) (hcd : (x == ("__classdict__" : Str)) = false := by decide)
    (ha : ∀ ov iv new, augStore k ov iv new = (do holding [new, ov, iv] (setItem ov iv new); release [new, ov, iv] []; pure .next) := by intros; rfl) :
    PS X (.AugAssign (.Subscript (.Name x px) k tpos) o e pos) (rdS X.K (sAugO j op fk fe)) := by
  refine ps_imp (ps_augS (pe_var (i := j) hN hv hdb hcd) hk get_list he ho set_list ha) fun D σ H ⟨ρ, G, I, h⟩ => ?_
  unfold rdSK sAugO at h
  cases q : ownL ρ j with
  | none => rw [q] at h; exact h.elim
  | some p =>
    obtain ⟨io, ds⟩ := p
    rw [q] at h
    obtain ⟨a, vs, e1, e2, e3, r⟩ := I.own q
    refine ⟨.ref a, e1, ?_⟩
    refine rd_of I (rdK_mono (rdSK_bnd (σ := σ) (ρ := ρ) (G := G) (H := H) (Dn := D) h) fun u H1 ⟨di, ρ1, G1, s1, I1, r1, h1⟩ => ?_)
    unfold rdSK at h1
    dsimp only at h1
    cases q1 : ownL ρ1 j with
    | none => rw [q1] at h1; exact h1.elim
    | some p1 =>
      obtain ⟨io1, ds1⟩ := p1
      rw [q1] at h1
      obtain ⟨a1, vs1, f1, f2, f3, r3⟩ := I1.own q1
      rw [e1] at f1; cases f1
      cases di with
      | int i =>
        dsimp only at h1
        simp only [Rep] at r1
        subst r1
        cases qx : atI ds1 i with
        | none => rw [qx] at h1; exact h1.elim
        | some x0 =>
          rw [qx] at h1
          dsimp only at h1
          obtain ⟨v0, g1, g2⟩ := atI_reps r3 qx
          refine ⟨a, vs1, i, v0, rfl, rfl, SqL.of f2, g1, ?_⟩
          refine rd_of I1 (rdK_mono (rdSK_bnd (σ := σ) (ρ := ρ1) (G := G1) (H := H1) (Dn := D) h1) fun w H2 ⟨dy, ρ2, G2, s2, I2, r2, h2⟩ => ?_)
          unfold rdSK at h2
          dsimp only at h2
          cases q2 : ownL ρ2 j with
          | none => rw [q2] at h2; exact h2.elim
          | some p2 =>
            obtain ⟨io2, ds2⟩ := p2
            cases qo : op x0 dy with
            | none => rw [q2, qo] at h2; exact h2.elim
            | some z =>
              rw [q2, qo] at h2
              dsimp only at h2
              refine hd G2 H2 x0 dy z v0 w _ I2.sub (Rep.mono s2.sub _ _ g2) r2 qo fun v3 H3 G3 P3 r4 => ?_
              have I3 := I2.pure P3
              obtain ⟨a2, vs2, k1, k2, k3, r5⟩ := I3.own q2
              rw [e1] at k1; cases k1
              cases qn : ixN ds2.length i with
              | none => rw [qn] at h2; exact h2.elim
              | some n =>
                rw [qn] at h2
                obtain ⟨A, B⟩ := I3.mut' q2 e1 k2 k3 (Reps.set n r4 r5)
                exact ⟨a, vs2, i, n, rfl, rfl, k2, by rw [r5.length]; exact qn, h2 σ _ G3 (P3.stp.trans B) A⟩
      | _ => exact h1.elim

/-! ### enumerate(tuple), enumerate(list) -/
/-- the tuple at a, each item in a new pair -/
def IteT (K : PySem.W.Frag) (a : Addr) : It :=
  ⟨fun i H => ∃ (xs : List V) (x : V), SqT K H a xs ∧ xs[i]? = some x, fun i H v H' => ∃ T x, v = .ref T ∧ H T = none ∧ H' = upd H T (.tup [.int (i : Nat), x]) ∧ ∀ xs, SqT K H a xs → xs[i]? = some x, fun i H => ∃ xs : List V, SqT K H a xs ∧ xs.length ≤ i⟩
theorem meets_enum1 {v : Value} {o : Obj} {H : Heap → Prop} (B : Begins v o H) :
    Meets (Builtin.«enumerate.__new__» ⟨[.type "enumerate", v], []⟩) (fun _ R s => H s.heap ∧
      R (.ok (.ret (.ref (s.heap.push o).objs.size))) { s with heap := (s.heap.push o).push { cls := .type "enumerate", data := .fields #[.none, .bool false, .ref s.heap.objs.size, rawInt 0, .none, .none] } }) :=
  .of_wp fun prog w A R s h => by
    obtain ⟨hp, g, d, tk, os⟩ := s
    obtain ⟨h1, h⟩ := h
    have hsub := sub_enumerate
    have it : ∀ {A' : Around} {E : Value → Shared → Prop} {Q : Value → Shared → Prop}, Q (.ref hp.objs.size) ⟨hp.push o, g, d, tk, os⟩ → wpAny (model prog w) A' (pyIter v) Q E ⟨hp, g, d, tk, os⟩ :=
      fun q => B.iter prog w _ _ ⟨hp, g, d, tk, os⟩ _ h1 q
    wp_walk using it
    refine wpAny_stack_any fun st => wpAny_pure ?_
    split
    · rename_i c _ _ _ _ _
      cases (c == Value.type "enumerate") <;> (wp_walk using it; exact ⟨_, rfl, h⟩)
    · wp_walk using it
      exact ⟨_, rfl, h⟩
theorem enum_new {prog : Program} {w : World} {A : Around} {E : Value → Shared → Prop} {s : Shared} {v : Value} {o : Obj} {H : Heap → Prop} {Q : Value → Shared → Prop} (B : Begins v o H) (h1 : H s.heap)
    (h : ∀ h', IsEnum h' (s.heap.objs.size + 1) s.heap.objs.size 0 .none → h'.get? s.heap.objs.size = some o → (∀ b o, s.heap.get? b = some o → h'.get? b = some o) → Q (.ref (s.heap.objs.size + 1)) { s with heap := h' }) :
    wpAny (model prog w) A (call (.type "enumerate") [v]) Q E s := by
  refine callType_new F.called_enumerate (by decide) (F.typeCall_enumerate_1 _) (F.newCall_enumerate_1 _) (fun obj => F.args_object_init_2 obj _) F.entry_enumerate_new (meets_enum1 B) ⟨h1, ?_⟩
  have hz : (s.heap.push o).objs.size = s.heap.objs.size + 1 := Heap.size_push ..
  have he := Heap.get?_push_size (s.heap.push o) (o := { cls := .type "enumerate", data := .fields #[.none, .bool false, .ref s.heap.objs.size, rawInt 0, .none, .none] }) rfl
  rw [hz] at he
  show _ ∧ _
  rw [hz]
  exact ⟨⟨_, he, rfl⟩, h _ he (Heap.get?_push_of_some _ (Heap.get?_push_size _ B.free)) fun b o x => Heap.get?_push_of_some _ (Heap.get?_push_of_some _ x)⟩
theorem turn_enumT {P : Program} {w : World} {K : PySem.W.Frag} {elts : List Expr} {kk : Nat} {tpos : Pos} (a e it : Addr) :
    Turn P w K (.Tuple elts kk tpos) (IteT K a) [e, it] e (fun i h => (∃ old, IsEnum h e it ((i : Nat) : Int) old) ∧ h.IsTupleIter it a i ∧ e ≠ it) where
  mem := List.mem_cons_self
  obj := fun i h st b hb => by
    obtain ⟨⟨old, he⟩, ⟨o, ho, hc, hd⟩, _⟩ := st
    rcases List.mem_cons.mp hb with z | z
    · subst z; exact ⟨_, he, fun v q => nomatch q⟩
    · rw [List.mem_singleton.mp z]
      exact ⟨o, ho, fun v q => by rw [hd] at q; cases q⟩
  keep := fun i h h' st k => by
    obtain ⟨⟨old, he⟩, hi, hne⟩ := st
    exact ⟨⟨old, k e (by simp) _ he⟩, hi.at fun o q => k it (by simp) o q, hne⟩
  item := by
    intro X hP hw hK hc i pins s σ H E I hf st hg
    subst hP hw hK
    obtain ⟨⟨old, he⟩, hit, hne⟩ := st
    obtain ⟨xs, x, hq, hx⟩ := hg
    obtain ⟨its, rv, p, hz⟩ := I.tuple hq
    obtain ⟨u, hu, ru⟩ := rv.get hx
    have hlt : i < its.toArray.size := by simpa using (List.getElem?_eq_some_iff.mp hu).1
    have nea : e ≠ a := fun z => by
      subst z
      obtain ⟨o, ho, hc, _⟩ := p
      rw [he] at ho; cases ho; simp at hc
    have nit : a ≠ it := fun z => by
      subst z
      obtain ⟨o, ho, hc, _⟩ := p
      obtain ⟨o2, ho2, hc2, _⟩ := hit
      rw [ho] at ho2; cases ho2; rw [hc] at hc2; simp at hc2
    have D := Draws.tuple (prog := X.prog) (w := X.w) (A := X.A.in1) (I.ok.hd hc) it a nit its.toArray
    have hel : e < s.heap.objs.size := Heap.lt_size he
    have hil : it < s.heap.objs.size := by obtain ⟨_, q, _⟩ := hit; exact Heap.lt_size q
    refine wpAny_pyNext_enum_itemD D he ⟨hit, p⟩ hlt hne (by simp [nea, hne]) fun y h' tk hy ho st' hT hsz hk => ?_
    have ey : y = u := by
      have : its.toArray[i]? = some u := by simpa using hu
      rw [this] at hy; cases hy; rfl
    subst ey
    refine ⟨_, rfl, wpAny_letOwnedTupleGo_enum (s := { s with heap := h', toks := tk + 1 }) ho fun h'' he' sb => ?_⟩
    have hT2 : h''.get? s.heap.objs.size = some { cls := .type "tuple", data := .seq #[.int i tk, y] } := (sb.2 _ (Nat.ne_of_gt hel)).trans hT
    have new : ObjOk X.prog X.w (upd H s.heap.objs.size (.tup [.int (i : Nat), x])) h'' s.heap.objs.size (.tup [.int (i : Nat), x]) :=
      ⟨by show 2 ≤ sizeLine; decide, [.int i tk, y], .cons ⟨_, rfl⟩ (.cons ru .nil), ⟨_, hT2, rfl, _, rfl⟩⟩
    have I1 : Inv X pins σ (upd H s.heap.objs.size (.tup [.int (i : Nat), x])) { s with heap := h'', toks := tk + 1 } :=
      I.turnedNew (ch := [e, it]) (fun b ob hb q => (sb.2 b (fun z => hb (by simp [z]))).trans (hk b ob (fun z => hb (by simp [z])) (fun z => hb (by simp [z])) q)) hf (Nat.le_refl _) new
    refine ⟨.ref s.heap.objs.size, _, I1, rfl, ⟨_, x, rfl, I.hok.fresh (Nat.le_refl _), rfl, fun ys hy => by rw [I.tuple_inj hy hq]; exact hx⟩, ⟨⟨y, ?_⟩, st'.1.at fun o q => (sb.2 it (Ne.symm hne)).trans q, hne⟩, fun b hb => ?_⟩
    · have e1 : ((i + 1 : Nat) : Int) = (i : Int) + 1 := by omega
      rw [e1]; exact he'
    · have hb' : b < s.heap.objs.size := by
        rcases List.mem_cons.mp hb with z | z
        · rw [z]; exact hel
        · rw [List.mem_singleton.mp z]; exact hil
      rw [upd_ne (Nat.ne_of_lt hb')]
      exact (hf b hb).1
  done := by
    intro X hP hw hK hc i pins s σ H E I hf st hg
    subst hP hw hK
    obtain ⟨⟨old, he⟩, hit, hne⟩ := st
    obtain ⟨xs, hq, hx⟩ := hg
    obtain ⟨its, rv, p, hz⟩ := I.tuple hq
    obtain ⟨f0, f1, f2, f3, f4, f5⟩ := hf it (by simp)
    have hl := rv.length
    have nit : a ≠ it := fun z => by
      subst z
      obtain ⟨o, ho, hc, _⟩ := p
      obtain ⟨o2, ho2, hc2, _⟩ := hit
      rw [ho] at ho2; cases ho2; rw [hc] at hc2; simp at hc2
    have hend : its.toArray[i]? = none := by simp; omega
    have hT : s.TypeIs (.ref e) "enumerate" := ⟨_, he, rfl⟩
    unfold pyNext
    refine wpAny_bind (wpAny_attempt (wpAny_callSpecial?_slot (name := Str.ofString "__next__") hT F.slot_enumerate_next
      (wpAny_call_entry F.slot_enumerate_next hT F.entry_enumerate_next ?_ (F.args_enumerate_next_1 _))))
    show wpAny _ _ (field (.ref e) 2 >>= _) _ _ _
    refine wpAny_bind (wpAny_field he rfl (x := .ref it) rfl ?_)
    refine wpAny_bind (wpAny_nextOf_tuple_end (I.ok.hd hc) hit p hend fun h' x eb hx' => ?_)
    obtain ⟨o, ho, hco⟩ := hx'
    refine wpAny_bind (wpAny_isInstance (T := "StopIteration") (b := true) ⟨o, ho, hco⟩ isSubtype_stop ?_)
    exact wpAny_pure ⟨rfl, I.turned (t' := s.toks) (fun b o hb q => eb b o hb q) f0 f1 f3 f4 f5⟩
  self := fun A i s Q E st h => by
    obtain ⟨⟨old, he⟩, _⟩ := st
    exact wpAny_pyIter_enum he h
def iEnumT (K : PySem.W.Frag) (ta : TA) : TI := fun σ H R => ta σ H fun vs H1 => ∃ a xs, vs = [.ref a] ∧ SqT K H1 a xs ∧ R (IteT K a) H1
theorem pi_enumT {X : Cx} {e : Expr} {ta : TA} {p pos tpos : Pos} {elts : List Expr} {kk : Nat} (hg : Gl X "enumerate") (hm : X.mg "enumerate" = none) (ha : PA X [e] ta) (hs : starEach [e] X.env = [(false, eval e X.env)] := by rfl) :
    PI X (.Tuple elts kk tpos) (.Call (.Name "enumerate" p) [e] [] pos) (iEnumT X.K ta) := by
  refine ⟨fun pins s σ H R I h => ?_⟩
  refine Call_ (ld_blt I hg hm boot_enumerate (PyProof.Rows.callWith_type1 (thn (ha.run pos pins s σ H _ I h) fun us s1 ⟨vs, H1, I1, r1, q1⟩ => ?_) hs rfl))
  obtain ⟨a, xs, ex, hq, q⟩ := q1
  subst ex
  obtain ⟨u, rfl, ru⟩ := vals1 r1
  cases ru
  obtain ⟨its, rv, p', hz⟩ := I1.tuple hq
  refine enum_new (begins_tuple a its.toArray) p' fun h' he hit hk => wpAny_pyIter_enum he ?_
  have I2 : Inv X pins σ H1 { s1 with heap := h' } := I1.kept (t' := s1.toks) hk
  refine ⟨s1.heap.objs.size + 1, [s1.heap.objs.size + 1, s1.heap.objs.size], _, _, H1, rfl, I2, turn_enumT a (s1.heap.objs.size + 1) s1.heap.objs.size, ⟨⟨.none, he⟩, ⟨_, hit, rfl, rfl⟩, Nat.succ_ne_self _⟩, fun b hb => ?_, q⟩
  have hle : s1.heap.objs.size ≤ b := by
    rcases List.mem_cons.mp hb with z | z
    · rw [z]; exact Nat.le_add_right _ _
    · rw [List.mem_singleton.mp z]; exact Nat.le_refl _
  exact I1.fpOk hle (I1.hok.fresh hle)
/-- pairs (place, item) -/
def enD (ds : List D) : List D := ds.mapIdx fun i d => .tup [.int (i : Nat), d]
def enOf : List D → Option (List D) | [.tup ds] => some (enD ds) | [.lst ds] => some (enD ds) | _ => none
theorem enOf_of {l es : List D} (h : enOf l = some es) : (∃ ds, l = [.tup ds] ∧ es = enD ds) ∨ ∃ ds, l = [.lst ds] ∧ es = enD ds := by
  unfold enOf at h
  split at h
  · cases h; exact .inl ⟨_, rfl, rfl⟩
  · cases h; exact .inr ⟨_, rfl, rfl⟩
  · cases h
def iEn (fs : FA) : FI := fun ρ => (fs ρ).bind fun p => match enOf p.1 with | some es => .ok (es, p.2) | none => .no
theorem pair_rep {K : PySem.W.Frag} {G0 G H H' : Hp} {T : Addr} {v w : V} {d e : D} (s1 : Same G0 G) (s2 : Same G H) (hT : H T = none) (r1 : Rep K G0 d v) (r2 : Rep K G0 e w) (e1 : H' = upd H T (.tup [v, w])) : ∃ G', PStp G H G' H' ∧ Rep K G' (.tup [d, e]) (.ref T) := by
  subst e1
  exact ⟨_, PStp.laid s2 hT, Rep.tup_new (s2.free hT) (Reps.cons (Rep.mono s1 _ _ r1) (Reps.cons (Rep.mono s1 _ _ r2) Reps.nil))⟩
theorem itD_enL {K : PySem.W.Frag} {G0 : Hp} {a : Addr} {vs : List V} {ds : List D} (h : SqL K G0 a vs) (r : Reps K G0 ds vs) : ItD K G0 (Ite K a) (enD ds) := by
  intro i G H s1 s2
  have hH := SqL.mono s2 (SqL.mono s1 h)
  refine ⟨fun d e => ?_, fun e => ⟨vs, hH, by rw [r.length]; exact Nat.le_of_eq (by simpa [enD] using e)⟩⟩
  unfold enD at e
  rw [List.getElem?_mapIdx] at e
  cases q : ds[i]? with
  | none => rw [q] at e; cases e
  | some d0 =>
    rw [q] at e; cases e
    obtain ⟨v, e1, rv⟩ := r.get q
    refine ⟨⟨vs, v, hH, e1⟩, fun x H' y => ?_⟩
    obtain ⟨T, x0, rfl, hT, e2, y⟩ := y
    have := y vs hH
    rw [e1] at this
    cases this
    exact pair_rep s1 s2 hT (rep_int _) rv e2
theorem itD_enT {K : PySem.W.Frag} {G0 : Hp} {a : Addr} {vs : List V} {ds : List D} (h : SqT K G0 a vs) (r : Reps K G0 ds vs) : ItD K G0 (IteT K a) (enD ds) := by
  intro i G H s1 s2
  have hH := SqT.mono s2 (SqT.mono s1 h)
  refine ⟨fun d e => ?_, fun e => ⟨vs, hH, by rw [r.length]; exact Nat.le_of_eq (by simpa [enD] using e)⟩⟩
  unfold enD at e
  rw [List.getElem?_mapIdx] at e
  cases q : ds[i]? with
  | none => rw [q] at e; cases e
  | some d0 =>
    rw [q] at e; cases e
    obtain ⟨v, e1, rv⟩ := r.get q
    refine ⟨⟨vs, v, hH, e1⟩, fun x H' y => ?_⟩
    obtain ⟨T, x0, rfl, hT, e2, y⟩ := y
    have := y vs hH
    rw [e1] at this
    cases this
    exact pair_rep s1 s2 hT (rep_int _) rv e2
theorem di_enum {X : Cx} {e : Expr} {fs : FA} {p pos tpos : Pos} {elts : List Expr} {kk : Nat} (hg : Gl X "enumerate") (hm : X.mg "enumerate" = none) (ha : PA X [e] (rdA X.K fs)) (hs : starEach [e] X.env = [(false, eval e X.env)] := by rfl) :
    PI X (.Tuple elts kk tpos) (.Call (.Name "enumerate" p) [e] [] pos) (rdI X.K (iEn fs)) := by
  refine pi_imp (pi_or (pi_enum hg hm ha hs) (pi_enumT hg hm ha hs)) fun σ H R ⟨ρ, G, I, h⟩ => ?_
  unfold rdIK iEn at h
  cases e0 : fs ρ with
  | ex _ _ => rw [e0] at h; exact h.elim
  | no => rw [e0] at h; exact h.elim
  | ok q =>
    obtain ⟨ds, ρ1⟩ := q
    rw [e0] at h
    dsimp only [Rz.bind] at h
    cases z : enOf ds with
    | none => rw [z] at h; exact h.elim
    | some es =>
      rw [z] at h
      dsimp only at h
      rcases enOf_of z with ⟨ds0, rfl, rfl⟩ | ⟨ds0, rfl, rfl⟩
      · right
        refine rdA_of I ?_
        unfold rdAK
        rw [e0]
        intro vs H1 G1 s1 I1 r1
        obtain ⟨v, rfl, rv⟩ := reps1 r1
        simp only [Rep] at rv
        obtain ⟨a, us, rfl, h1, q1⟩ := rv
        exact ⟨a, us, rfl, SqT.mono I1.sub h1, h _ H1 G1 s1 I1 (itD_enT h1 q1)⟩
      · left
        refine rdA_of I ?_
        unfold rdAK
        rw [e0]
        intro vs H1 G1 s1 I1 r1
        obtain ⟨v, rfl, rv⟩ := reps1 r1
        simp only [Rep] at rv
        obtain ⟨a, us, rfl, h1, q1⟩ := rv
        exact ⟨a, us, rfl, SqL.of (I1.sub _ _ h1), h _ H1 G1 s1 I1 (itD_enL (SqL.of h1) q1)⟩
end M

namespace M
open PySem PySem.Spec PyProof.Rows L2

/-! ### zip(a, b), a and b lists or tuples; zip(a, b, strict=True) of equal lengths -/
/-- k: a tuple; else a list -/
def SIt (k : Bool) (h : Heap) (it a : Addr) (i : Nat) : Prop := if k then h.IsTupleIter it a i else h.IsListIter it a i
def SSq (k : Bool) (h : Heap) (a : Addr) (items : Array Value) : Prop := if k then h.IsTuple a items else h.IsList a items
def SqK (k : Bool) (K : PySem.W.Frag) (H : Hp) (a : Addr) (xs : List V) : Prop := if k then SqT K H a xs else SqL K H a xs
def itObj (k : Bool) (a : Addr) : Obj := if k then { cls := .type "tuple_iterator", data := .fields #[.ref a, .int 0 0] } else { cls := .type "list_iterator", data := .fields #[.ref a, .int 0 0] }
section
variable {k : Bool} {h h' : Heap} {it a : Addr} {i : Nat} {items : Array Value}
theorem SSq.obj (s : SSq k h a items) : ∃ o, h.get? a = some o ∧ (∃ n, o.data = .seq items n) := by
  cases k with
  | true => obtain ⟨o, e, _, n, d⟩ := (show h.IsTuple a items from s); exact ⟨o, e, n, d⟩
  | false => obtain ⟨o, e, _, n, d⟩ := (show h.IsList a items from s); exact ⟨o, e, n, d⟩
theorem SIt.obj (s : SIt k h it a i) : ∃ o, h.get? it = some o ∧ ∃ vs, o.data = .fields vs := by
  cases k with
  | true => obtain ⟨o, e, _, d⟩ := (show h.IsTupleIter it a i from s); exact ⟨o, e, _, d⟩
  | false => obtain ⟨o, e, _, d⟩ := (show h.IsListIter it a i from s); exact ⟨o, e, _, d⟩
theorem SIt.at (s : SIt k h it a i) (q : ∀ o, h.get? it = some o → h'.get? it = some o) : SIt k h' it a i := by
  cases k with
  | true => exact Heap.IsTupleIter.at (show h.IsTupleIter it a i from s) q
  | false => exact Heap.IsListIter.at (show h.IsListIter it a i from s) q
theorem SSq.at (s : SSq k h a items) (q : ∀ o, h.get? a = some o → h'.get? a = some o) : SSq k h' a items := by
  cases k with
  | true => exact Heap.IsTuple.at (show h.IsTuple a items from s) q
  | false => exact Heap.IsList.at (show h.IsList a items from s) q
theorem sit_new (s : h.get? it = some (itObj k a)) : SIt k h it a 0 := by
  cases k with
  | true => exact ⟨_, s, rfl, rfl⟩
  | false => exact ⟨_, s, rfl, rfl⟩
theorem sq_it (q : SSq k h a items) (s : SIt k h it (show Addr from it) i → False) (z : SIt k h it a i) : a ≠ it := fun e => by
  subst e
  exact s z
theorem sq_ne_it {k2 : Bool} {b : Addr} {j : Nat} (q : SSq k h a items) (s : SIt k2 h it b j) : a ≠ it := fun e => by
  subst e
  obtain ⟨o, e1, n, d1⟩ := q.obj
  obtain ⟨o2, e2, vs, d2⟩ := s.obj
  rw [e1] at e2; cases e2
  rw [d1] at d2; cases d2
end
theorem begins_k (k : Bool) (a : Addr) (items : Array Value) : Begins (.ref a) (itObj k a) fun h => SSq k h a items := by
  cases k with
  | true => exact begins_tuple a items
  | false => exact begins_list a items
theorem draws_k {prog : Program} {w : World} {A : Around} (k : Bool) (hh : A.handled = none) (it a : Addr) (ne : a ≠ it) (items : Array Value) :
    Draws prog w A it [it, a] items.size (fun i v => items[i]? = some v) (fun i h => SIt k h it a i ∧ SSq k h a items) := by
  cases k with
  | true => exact Draws.tuple hh it a ne items
  | false => exact Draws.list hh it a ne items
section
variable {X : Cx} {pins : List (Addr × Obj)} {σ : L2.St} {H : Hp} {s : Shared} {k : Bool} {a : Addr} {xs ys : List V}
theorem inv_sq (I : Inv X pins σ H s) (h : SqK k X.K H a xs) : ∃ its : List Value, Vals xs its ∧ SSq k s.heap a its.toArray := by
  cases k with
  | true => obtain ⟨its, r, p, _⟩ := I.tuple (show SqT X.K H a xs from h); exact ⟨its, r, p⟩
  | false => obtain ⟨its, r, p, _⟩ := I.list (show SqL X.K H a xs from h); exact ⟨its, r, p.isList⟩
theorem sq_inj (I : Inv X pins σ H s) (h : SqK k X.K H a xs) (h' : SqK k X.K H a ys) : xs = ys := by
  cases k with
  | true => exact I.tuple_inj h h'
  | false => exact I.list_inj h h'
end
/-- a zip object; b: strict -/
def ZipO (b : Bool) (h : Heap) (z TI TO : Addr) (f0 : Value) : Prop := h.get? z = some { cls := .type "zip", dict := none, data := .fields #[f0, .bool false, .bool b, .ref TI, .ref TO], slots := #[] }
/-! strict: one turn -/
section
variable {prog : Program} {w : World} {A : Around} {E : Value → Shared → Prop} {s : Shared}
theorem nextE_item {it : Addr} {fp : List Addr} {n i : Nat} {P : Nat → Value → Prop} {St : Nat → Heap → Prop} {Q : Option Value → Shared → Prop} (D : Draws prog w A it fp n P St) (hi : i < n) (st : St i s.heap)
    (h : ∀ x h' tk, P i x → St (i + 1) h' → Heap.SameBut it s.heap h' → Q (some x) { s with heap := h', toks := tk }) : wpAny (model prog w) A (Builtin.SmallTypes.nextOrEnd (.ref it)) Q E s := by
  unfold Builtin.SmallTypes.nextOrEnd
  exact wpAny_bind (wpAny_attempt (D.item i s _ _ hi st fun x h' tk a b c => wpAny_pure (h x h' tk a b c)))
theorem nextE_end {it : Addr} {fp : List Addr} {n : Nat} {P : Nat → Value → Prop} {St : Nat → Heap → Prop} {Q : Option Value → Shared → Prop} (D : Draws prog w A it fp n P St) (st : St n s.heap)
    (h : ∀ h', Heap.ExtBut it s.heap h' → Q none { s with heap := h' }) : wpAny (model prog w) A (Builtin.SmallTypes.nextOrEnd (.ref it)) Q E s := by
  unfold Builtin.SmallTypes.nextOrEnd
  refine wpAny_bind (wpAny_attempt (D.done s _ _ st fun h' e eb he => ?_))
  obtain ⟨o, ho, hc⟩ := he
  exact wpAny_bind (wpAny_isInstance (T := "StopIteration") (b := true) ⟨o, ho, hc⟩ isSubtype_stop (wpAny_pure (h h' eb)))
variable {z TI TO i1 i2 : Addr} {fp1 fp2 : List Addr} {n1 n2 i : Nat} {P1 P2 : Nat → Value → Prop} {St1 St2 : Nat → Heap → Prop} {a1 a2 : Value}
theorem zipS_item {Q : Value → Shared → Prop} (S : ZipSep2 z TI TO i1 i2 fp1 fp2) (D1 : Draws prog w A i1 fp1 n1 P1 St1) (D2 : Draws prog w A i2 fp2 n2 P2 St2)
    (hz : ZipO true s.heap z TI TO .none) (hTI : IsTupOf2 s.heap TI (.ref i1) (.ref i2)) (hTO : IsTupOf2 s.heap TO a1 a2) (st1 : St1 i s.heap) (st2 : St2 i s.heap) (l1 : i < n1) (l2 : i < n2)
    (hQ : ∀ x1 x2 h' tk, P1 i x1 → P2 i x2 → ZipO true h' z TI TO (rawInt s.heap.objs.size) → IsTupOf2 h' TO x1 x2 → St1 (i + 1) h' → St2 (i + 1) h' → IsTupOf2 h' s.heap.objs.size x1 x2 → h'.objs.size = s.heap.objs.size + 1 →
      (∀ c o, c ≠ z → c ≠ TO → c ≠ i1 → c ≠ i2 → s.heap.get? c = some o → h'.get? c = some o) → Q (.ref s.heap.objs.size) { s with heap := h', toks := tk }) :
    wpAny (model prog w) A (Builtin.«zip.__next__» ⟨[.ref z], []⟩) (fun fin s' => ∃ v, fin = .done (.ret v) ∧ Q v s') E s := by
  obtain ⟨hp, gn, dr, t0, os⟩ := s
  show wpAny _ _ (field (.ref z) 2 >>= _) _ _ _
  refine wpAny_bind (wpAny_field hz rfl (x := .bool true) rfl ?_)
  show wpAny _ _ (field (.ref z) 3 >>= _) _ _ _
  refine wpAny_bind (wpAny_field hz rfl (x := .ref TI) rfl (wpAny_bind (wpAny_seqItems hTI rfl ?_)))
  show wpAny _ _ (Builtin.SmallTypes.ownedTupleIsFree (.ref z) >>= _) _ _ _
  refine wpAny_bind ?_
  unfold Builtin.SmallTypes.ownedTupleIsFree
  refine wpAny_bind (wpAny_field hz rfl (x := .none) rfl (wpAny_pure ?_))
  simp only [if_true]
  refine wpAny_bind (wpAny_rule (wpAny_bind (wpAny_field hz rfl (x := .ref TO) rfl (wpAny_bind (wpAny_setField_rec hz (by simp) fun m0 hz0 k0 => ?_)))))
  replace hz0 : ZipO true m0 z TI TO .ellipsis := hz0
  replace k0 : Heap.SameBut z hp m0 := k0
  refine wpAny_bind ?_
  simp only [List.zipIdx_cons, List.zipIdx_nil, List.forIn_cons, List.forIn_nil]
  refine wpAny_bind (wpAny_bind (wpAny_onRaise ?_))
  show wpAny _ _ (Builtin.SmallTypes.nextOrEnd (.ref i1)) _ _ ⟨m0, gn, dr, t0, os⟩
  refine nextE_item D1 l1 (D1.over st1 k0 S.zf1) fun x1 p1 t1 hx1 q1 k1 => ?_
  replace k1 : Heap.SameBut i1 m0 p1 := k1
  have u1 : IsTupOf2 p1 TO a1 a2 := k1.extBut _ _ S.Ti1 (k0.extBut _ _ S.TOz hTO)
  refine wpAny_bind (wpAny_seqItems (s := ⟨p1, gn, dr, t1, os⟩) u1 rfl (wpAny_bind (updateSeq_IsTupOf2 (s := ⟨p1, gn, dr, t1, os⟩) u1 fun m1 v1 k2 => ?_)))
  replace v1 : IsTupOf2 m1 TO x1 a2 := v1
  replace k2 : Heap.SameBut TO p1 m1 := k2
  refine wpAny_bind (wpAny_letGo (wpAny_pure (wpAny_bind (wpAny_bind (wpAny_onRaise ?_)))))
  show wpAny _ _ (Builtin.SmallTypes.nextOrEnd (.ref i2)) _ _ ⟨m1, gn, dr, t1, os⟩
  refine nextE_item D2 l2 (D2.over (D2.over (D2.over st2 k0 S.zf2) k1 S.sep1_2) k2 S.Tf2) fun x2 p2 t2 hx2 q2 k3 => ?_
  replace k3 : Heap.SameBut i2 m1 p2 := k3
  have u2 : IsTupOf2 p2 TO x1 a2 := k3.extBut _ _ S.Ti2 v1
  refine wpAny_bind (wpAny_seqItems (s := ⟨p2, gn, dr, t2, os⟩) u2 rfl (wpAny_bind (updateSeq_IsTupOf2 (s := ⟨p2, gn, dr, t2, os⟩) u2 fun m2 v2 k4 => ?_)))
  replace v2 : IsTupOf2 m2 TO x1 x2 := v2
  replace k4 : Heap.SameBut TO p2 m2 := k4
  refine wpAny_bind (wpAny_letGo (wpAny_pure (wpAny_pure ?_)))
  refine wpAny_bind (wpAny_seqItems (s := ⟨m2, gn, dr, t2, os⟩) v2 rfl (wpAny_bind (wpAny_newTuple ?_)))
  have ez : m2.objs.size = hp.objs.size := by rw [k4.1, k3.1, k2.1, k1.1, k0.1]
  have z2 : ZipO true m2 z TI TO .ellipsis := k4.extBut _ _ S.TOz.symm (k3.extBut _ _ S.zi2 (k2.extBut _ _ S.TOz.symm (k1.extBut _ _ S.zi1 hz0)))
  have kk : ∀ c o, c ≠ z → c ≠ TO → c ≠ i1 → c ≠ i2 → hp.get? c = some o → m2.get? c = some o := fun c o n1 n2 n3 n4 e => k4.extBut _ _ n2 (k3.extBut _ _ n4 (k2.extBut _ _ n2 (k1.extBut _ _ n3 (k0.extBut _ _ n1 e))))
  have f1 : St1 (i + 1) m2 := D1.over (D1.over (D1.over q1 k2 S.Tf1) k3 S.sep2_1) k4 S.Tf1
  have f2 : St2 (i + 1) m2 := D2.over q2 k4 S.Tf2
  have zl : z < m2.objs.size := Heap.lt_size z2
  show wpAny _ _ (Builtin.SmallTypes.ownedTupleHandOut (.ref z) (.ref m2.objs.size) >>= _) _ _ ⟨m2.push { cls := .type "tuple", data := .seq #[x1, x2] }, gn, dr, t2, os⟩
  refine wpAny_bind ?_
  unfold Builtin.SmallTypes.ownedTupleHandOut
  have z3 : ZipO true (m2.push { cls := .type "tuple", data := .seq #[x1, x2] }) z TI TO .ellipsis := Heap.get?_push_of_some _ z2
  refine wpAny_bind (wpAny_setField_rec z3 (by simp) fun m4 z4 k5 => ?_)
  replace z4 : ZipO true m4 z TI TO (rawInt m2.objs.size) := z4
  refine wpAny_setField_rec z4 (by simp) fun m5 z5 k6 => ?_
  replace z5 : ZipO true m5 z TI TO (rawInt m2.objs.size) := z5
  replace k5 : Heap.SameBut z (m2.push { cls := .type "tuple", data := .seq #[x1, x2] }) m4 := k5
  replace k6 : Heap.SameBut z m4 m5 := k6
  have up : ∀ c o, c ≠ z → m2.get? c = some o → m5.get? c = some o := fun c o n e => k6.extBut _ _ n (k5.extBut _ _ n (Heap.get?_push_of_some _ e))
  have tT : IsTupOf2 m5 m2.objs.size x1 x2 := k6.extBut _ _ (Nat.ne_of_gt zl) (k5.extBut _ _ (Nat.ne_of_gt zl) (Heap.get?_push_size _ rfl))
  have e8 : m5.objs.size = m2.objs.size + 1 := by rw [k6.1, k5.1, Heap.size_push]
  rw [ez] at z5 tT e8
  refine wpAny_pure ⟨_, rfl, ?_⟩
  show Q (.ref m2.objs.size) ⟨m5, gn, dr, t2, os⟩
  rw [ez]
  exact hQ x1 x2 m5 t2 hx1 hx2 z5 (up _ _ S.TOz v2) (D1.frame _ _ _ f1 fun b hb o e => up b o (fun q => S.zf1 (q ▸ hb)) e) (D2.frame _ _ _ f2 fun b hb o e => up b o (fun q => S.zf2 (q ▸ hb)) e) tT e8 fun c o c1 c2 c3 c4 e => up c o c1 (kk c o c1 c2 c3 c4 e)
end
end M

namespace M
open PySem PySem.Spec PyProof.Rows L2
section
variable {prog : Program} {w : World} {A : Around} {E : Value → Shared → Prop} {s : Shared} {z TI TO i1 i2 : Addr} {fp1 fp2 : List Addr} {n : Nat} {P1 P2 : Nat → Value → Prop} {St1 St2 : Nat → Heap → Prop} {a1 a2 : Value}
theorem zipS_end {Q : Fin → Shared → Prop} (hh : A.handled = none) (S : ZipSep2 z TI TO i1 i2 fp1 fp2) (D1 : Draws prog w A i1 fp1 n P1 St1) (D2 : Draws prog w A i2 fp2 n P2 St2)
    (hz : ZipO true s.heap z TI TO .none) (hTI : IsTupOf2 s.heap TI (.ref i1) (.ref i2)) (hTO : IsTupOf2 s.heap TO a1 a2) (st1 : St1 n s.heap) (st2 : St2 n s.heap)
    (hE : ∀ h' e, (∀ c o, c ≠ z → c ≠ TO → c ≠ i1 → c ≠ i2 → s.heap.get? c = some o → h'.get? c = some o) → (∃ o, h'.get? e = some o ∧ o.cls = .type "StopIteration") → E (.ref e) { s with heap := h' }) :
    wpAny (model prog w) A (Builtin.«zip.__next__» ⟨[.ref z], []⟩) Q E s := by
  obtain ⟨hp, gn, dr, t0, os⟩ := s
  show wpAny _ _ (field (.ref z) 2 >>= _) _ _ _
  refine wpAny_bind (wpAny_field hz rfl (x := .bool true) rfl ?_)
  show wpAny _ _ (field (.ref z) 3 >>= _) _ _ _
  refine wpAny_bind (wpAny_field hz rfl (x := .ref TI) rfl (wpAny_bind (wpAny_seqItems hTI rfl ?_)))
  show wpAny _ _ (Builtin.SmallTypes.ownedTupleIsFree (.ref z) >>= _) _ _ _
  refine wpAny_bind ?_
  unfold Builtin.SmallTypes.ownedTupleIsFree
  refine wpAny_bind (wpAny_field hz rfl (x := .none) rfl (wpAny_pure ?_))
  simp only [if_true]
  refine wpAny_bind (wpAny_rule (wpAny_bind (wpAny_field hz rfl (x := .ref TO) rfl (wpAny_bind (wpAny_setField_rec hz (by simp) fun m0 hz0 k0 => ?_)))))
  replace hz0 : ZipO true m0 z TI TO .ellipsis := hz0
  replace k0 : Heap.SameBut z hp m0 := k0
  refine wpAny_bind ?_
  simp only [List.zipIdx_cons, List.zipIdx_nil, List.forIn_cons, List.forIn_nil]
  refine wpAny_bind (wpAny_bind (wpAny_onRaise ?_))
  show wpAny _ _ (Builtin.SmallTypes.nextOrEnd (.ref i1)) _ _ ⟨m0, gn, dr, t0, os⟩
  refine nextE_end D1 (D1.over st1 k0 S.zf1) fun p1 k1 => ?_
  replace k1 : Heap.ExtBut i1 m0 p1 := k1
  have z1 : ZipO true p1 z TI TO .ellipsis := k1 _ _ S.zi1 hz0
  show wpAny _ _ (setField (.ref z) 0 .none >>= _) _ _ ⟨p1, gn, dr, t0, os⟩
  refine wpAny_bind (wpAny_setField_rec (s := ⟨p1, gn, dr, t0, os⟩) z1 (by simp) fun m1 _ k2 => ?_)
  replace k2 : Heap.SameBut z p1 m1 := k2
  have keep : ∀ c o, c ≠ z → c ≠ TO → c ≠ i1 → hp.get? c = some o → m1.get? c = some o := fun c o c1 c2 c3 e => k2.extBut _ _ c1 (k1 _ _ c3 (k0.extBut _ _ c1 e))
  have st2' : St2 n m1 := D2.frame _ m0 m1 (D2.over st2 k0 S.zf2) fun b hb o e => k2.extBut _ _ (fun q => S.zf2 (q ▸ hb)) (k1 _ _ (fun q => S.sep1_2 (q ▸ hb)) e)
  refine wpAny_bind (wpAny_bind ?_)
  show wpAny _ _ (if (0 : Nat) > 0 then (pure PUnit.unit : Sem PUnit) else _) _ _ _
  rw [if_neg (by decide)]
  simp only [List.drop_succ_cons, List.drop_zero, List.zipIdx_cons, List.zipIdx_nil, List.forIn_cons, List.forIn_nil]
  refine wpAny_bind (wpAny_bind (nextE_end (s := ⟨m1, gn, dr, t0, os⟩) D2 st2' fun m2 k3 => ?_))
  replace k3 : Heap.ExtBut i2 m1 m2 := k3
  rw [if_neg (by decide)]
  refine wpAny_pure (wpAny_pure (wpAny_bind (wpAny_rule ?_)))
  show wpAny _ _ (newExc (.type "StopIteration") [] >>= _) _ _ _
  refine wpAny_bind ?_
  simp only [newExc, newTuple]
  refine wpAny_bind (wpAny_newObj_type ?_ (by size_fits))
  refine wpAny_bind (m := firstArgMember _ _) (wpAny_of_eq (a := Value.none) (by first | rfl | (simp only [firstArgMember]; rfl)) ?_)
  refine wpAny_newObj_type ?_ (by size_fits)
  simp only [raiseNew]
  refine wpAny_bind (wpAny_handled ?_)
  rw [hh]
  refine wpAny_bind (wpAny_pure (wpAny_throw ?_))
  refine hE _ _ (fun c o c1 c2 c3 c4 e => Heap.get?_push_of_some _ (Heap.get?_push_of_some _ (k3 _ _ c4 (keep c o c1 c2 c3 e)))) ⟨_, Heap.get?_push_size _ rfl, rfl⟩
end
end M

namespace M
open PySem PySem.Spec PyProof.Rows L2

/-- the sequences at a and b, their items in new pairs -/
def ItzM (k1 k2 : Bool) (K : PySem.W.Frag) (a b : Addr) : It :=
  ⟨fun i H => ∃ (xs ys : List V) (x y : V), SqK k1 K H a xs ∧ SqK k2 K H b ys ∧ xs[i]? = some x ∧ ys[i]? = some y ∧ xs.length = ys.length,
    fun i H v H' => ∃ T x y, v = .ref T ∧ H T = none ∧ H' = upd H T (.tup [x, y]) ∧ (∀ xs, SqK k1 K H a xs → xs[i]? = some x) ∧ ∀ ys, SqK k2 K H b ys → ys[i]? = some y,
    fun i H => ∃ xs ys : List V, SqK k1 K H a xs ∧ SqK k2 K H b ys ∧ i = xs.length ∧ i = ys.length⟩
section
variable {prog : Program} {w : World} {A : Around} {E : Value → Shared → Prop} {s : Shared} {z TI TO i1 i2 : Addr} {fp1 fp2 : List Addr} {n i : Nat} {P1 P2 : Nat → Value → Prop} {St1 St2 : Nat → Heap → Prop} {a1 a2 : Value}
theorem next_zip (b : Bool) {Q : Option Value → Shared → Prop} (S : ZipSep2 z TI TO i1 i2 fp1 fp2) (D1 : Draws prog w A.in1 i1 fp1 n P1 St1) (D2 : Draws prog w A.in1 i2 fp2 n P2 St2)
    (hz : ZipO b s.heap z TI TO .none) (hTI : IsTupOf2 s.heap TI (.ref i1) (.ref i2)) (hTO : IsTupOf2 s.heap TO a1 a2) (st1 : St1 i s.heap) (st2 : St2 i s.heap) (l1 : i < n)
    (hQ : ∀ x1 x2 h' tk, P1 i x1 → P2 i x2 → ZipO b h' z TI TO (rawInt s.heap.objs.size) → IsTupOf2 h' TO x1 x2 → St1 (i + 1) h' → St2 (i + 1) h' → IsTupOf2 h' s.heap.objs.size x1 x2 → h'.objs.size = s.heap.objs.size + 1 →
      (∀ c o, c ≠ z → c ≠ TO → c ≠ i1 → c ≠ i2 → s.heap.get? c = some o → h'.get? c = some o) → Q (some (.ref s.heap.objs.size)) { s with heap := h', toks := tk }) :
    wpAny (model prog w) A (pyNext (.ref z)) Q E s := by
  cases b with
  | false => exact wpAny_pyNext_zipD2_item S D1 D2 hz hTI hTO st1 st2 l1 l1 hQ
  | true =>
    have hT : s.TypeIs (.ref z) "zip" := ⟨_, hz, rfl⟩
    unfold pyNext
    exact wpAny_bind (wpAny_attempt (wpAny_callSpecial?_slot (name := Str.ofString "__next__") hT F.slot_zip_next (wpAny_call_entry F.slot_zip_next hT F.entry_zip_next
      (zipS_item S D1 D2 hz hTI hTO st1 st2 l1 l1 fun x1 x2 h' tk y1 y2 y3 y4 y5 y6 y7 y8 y9 => wpAny_pure (hQ x1 x2 h' tk y1 y2 y3 y4 y5 y6 y7 y8 y9)) (F.args_zip_next_1 _))))
theorem end_zip (b : Bool) {Q : Option Value → Shared → Prop} (hh : A.handled = none) (S : ZipSep2 z TI TO i1 i2 fp1 fp2) (D1 : Draws prog w A.in1 i1 fp1 n P1 St1) (D2 : Draws prog w A.in1 i2 fp2 n P2 St2)
    (hz : ZipO b s.heap z TI TO .none) (hTI : IsTupOf2 s.heap TI (.ref i1) (.ref i2)) (hTO : IsTupOf2 s.heap TO a1 a2) (st1 : St1 n s.heap) (st2 : St2 n s.heap)
    (hQ : ∀ h' tk, (∀ c o, c ≠ z → c ≠ TO → c ≠ i1 → c ≠ i2 → s.heap.get? c = some o → h'.get? c = some o) → Q none { s with heap := h', toks := tk }) :
    wpAny (model prog w) A (pyNext (.ref z)) Q E s := by
  cases b with
  | false => exact wpAny_pyNext_zipD2_end S D1 D2 hz hTI hTO st1 st2 (Nat.le_refl _) (Nat.le_refl _) (.inl rfl) hQ
  | true =>
    have hT : s.TypeIs (.ref z) "zip" := ⟨_, hz, rfl⟩
    unfold pyNext
    refine wpAny_bind (wpAny_attempt (wpAny_callSpecial?_slot (name := Str.ofString "__next__") hT F.slot_zip_next (wpAny_call_entry F.slot_zip_next hT F.entry_zip_next
      (zipS_end (show A.in1.handled = none from hh) S D1 D2 hz hTI hTO st1 st2 fun h' e hk he => ?_) (F.args_zip_next_1 _))))
    obtain ⟨o, ho, hc⟩ := he
    exact wpAny_bind (wpAny_isInstance (T := "StopIteration") (b := true) ⟨o, ho, hc⟩ isSubtype_stop (wpAny_pure (hQ h' s.toks hk)))
theorem go_zip (b : Bool) {elts : List Expr} {x1} {pos : Pos} {T : Addr} {Q : Unit → Shared → Prop} (hz : ZipO b s.heap z TI TO (rawInt T)) (hQ : ∀ h', ZipO b h' z TI TO .none → Heap.SameBut z s.heap h' → Q () { s with heap := h' }) :
    wpAny (model prog w) A (letOwnedTupleGo (.Tuple elts x1 pos) (.ref z) (.ref T)) Q E s := by
  unfold letOwnedTupleGo
  refine wpAny_bind (wpAny_load hz ?_)
  show wpAny _ _ (if (_ && (#[rawInt T, .bool false, .bool b, .ref TI, .ref TO] : Array Value)[0]? == some (rawInt T)) = true then _ else _) Q E s
  rw [if_pos (by simp)]
  refine wpAny_bind (wpAny_rule ?_)
  show wpAny _ _ (setField (.ref z) 0 .none) Q E s
  exact wpAny_setField_rec hz (by simp) fun h' h1 h2 => hQ h' h1 h2
theorem self_zip (b : Bool) {f0 : Value} {Q : Value → Shared → Prop} (hz : ZipO b s.heap z TI TO f0) (h : Q (.ref z) s) : wpAny (model prog w) A (pyIter (.ref z)) Q E s := by
  have hT : s.TypeIs (.ref z) "zip" := ⟨_, hz, rfl⟩
  refine wpAny_pyIter_slot hT F.slot_zip_iter (wpAny_call_entry F.slot_zip_iter hT F.entry_zip_iter ?_ (F.args_zip_iter_1 _))
  show wpAny _ _ (ret (.ref z)) _ _ s
  exact wpAny_pure ⟨_, rfl, "zip", _, hT, F.slot_zip_next.lookup, h⟩
end
theorem sep_zip {z TI TO i1 i2 a b : Addr} (D : ZipApart z TI TO i1 i2 a b) : ZipSep2 z TI TO i1 i2 [i1, a] [i2, b] :=
  ⟨D.TIz, D.TOz, D.TITO, D.TIi1, by simp, by simp [D.i1z.symm, D.l1z.symm], by simp [D.TOi1, D.l1TO.symm], D.TIi2, by simp, by simp [D.i2z.symm, D.l2z.symm], by simp [D.TOi2, D.l2TO.symm], by simp [D.i12, D.l2i1.symm], by simp [D.i12.symm, D.l1i2.symm]⟩
theorem turn_zipM {P : Program} {w : World} {K : PySem.W.Frag} {elts : List Expr} {kk : Nat} {tpos : Pos} (c k1 k2 : Bool) {a b z TI TO i1 i2 : Addr} (D : ZipApart z TI TO i1 i2 a b) :
    Turn P w K (.Tuple elts kk tpos) (ItzM k1 k2 K a b) [z, TI, TO, i1, i2] z (fun i h => ZipO c h z TI TO .none ∧ IsTupOf2 h TI (.ref i1) (.ref i2) ∧ (∃ x y, IsTupOf2 h TO x y) ∧ SIt k1 h i1 a i ∧ SIt k2 h i2 b i) where
  mem := by simp
  obj := fun i h st q hq => by
    obtain ⟨hz, hTI, ⟨x, y, hTO⟩, h1, h2⟩ := st
    obtain ⟨o1, e1, v1, d1⟩ := h1.obj
    obtain ⟨o2, e2, v2, d2⟩ := h2.obj
    simp only [List.mem_cons, List.mem_nil_iff, or_false] at hq
    rcases hq with q | q | q | q | q <;> subst q
    · exact ⟨_, hz, fun v z => nomatch z⟩
    · exact ⟨_, hTI, fun v z => nomatch z⟩
    · exact ⟨_, hTO, fun v z => nomatch z⟩
    · exact ⟨o1, e1, fun v z => by rw [d1] at z; cases z⟩
    · exact ⟨o2, e2, fun v z => by rw [d2] at z; cases z⟩
  keep := fun i h h' st k => by
    obtain ⟨hz, hTI, ⟨x, y, hTO⟩, h1, h2⟩ := st
    exact ⟨k z (by simp) _ hz, k TI (by simp) _ hTI, ⟨x, y, k TO (by simp) _ hTO⟩, h1.at fun o q => k i1 (by simp) o q, h2.at fun o q => k i2 (by simp) o q⟩
  item := by
    intro X hP hw hK hc i pins s σ H E I hf st hg
    subst hP hw hK
    obtain ⟨hz, hTI, ⟨x0, y0, hTO⟩, h1, h2⟩ := st
    obtain ⟨xs, ys, x, y, hqx, hqy, hx, hy, hlen⟩ := hg
    obtain ⟨its, rv, p⟩ := inv_sq I hqx
    obtain ⟨its2, rv2, p2⟩ := inv_sq I hqy
    obtain ⟨u, hu, ru⟩ := rv.get hx
    obtain ⟨u2, hu2, ru2⟩ := rv2.get hy
    have hzl : z < s.heap.objs.size := Heap.lt_size hz
    have l1 : i < its.toArray.size := by rw [List.size_toArray]; exact (List.getElem?_eq_some_iff.mp hu).1
    have l2 : its2.toArray.size = its.toArray.size := by rw [List.size_toArray, List.size_toArray, ← rv.length, ← rv2.length, hlen]
    have D1 := draws_k (prog := X.prog) (w := X.w) (A := X.A.in1) k1 (I.ok.hd hc) i1 a (sq_ne_it p h1) its.toArray
    have D2 := draws_k (prog := X.prog) (w := X.w) (A := X.A.in1) k2 (I.ok.hd hc) i2 b (sq_ne_it p2 h2) its2.toArray
    rw [l2] at D2
    refine next_zip c (sep_zip D) D1 D2 hz hTI hTO ⟨h1, p⟩ ⟨h2, p2⟩ l1 fun x1 x2 h' tk ex1 ex2 z' TO' st1' st2' hT hsz hk => ?_
    have q1 : x1 = u := by
      have : its.toArray[i]? = some u := by simpa using hu
      rw [this] at ex1; cases ex1; rfl
    have q2 : x2 = u2 := by
      have : its2.toArray[i]? = some u2 := by simpa using hu2
      rw [this] at ex2; cases ex2; rfl
    subst q1 q2
    refine ⟨_, rfl, go_zip c (s := { s with heap := h', toks := tk }) z' fun h'' z'' sb => ?_⟩
    have hT2 : h''.get? s.heap.objs.size = some { cls := .type "tuple", data := .seq #[x1, x2] } := (sb.2 _ (Nat.ne_of_gt hzl)).trans hT
    have new : ObjOk X.prog X.w (upd H s.heap.objs.size (.tup [x, y])) h'' s.heap.objs.size (.tup [x, y]) :=
      ⟨by show 2 ≤ sizeLine; decide, [x1, x2], .cons ru (.cons ru2 .nil), ⟨_, hT2, rfl, _, rfl⟩⟩
    have I1 : Inv X pins σ (upd H s.heap.objs.size (.tup [x, y])) { s with heap := h'', toks := tk } :=
      I.turnedNew (t' := tk) (ch := [z, TI, TO, i1, i2]) (fun c o hb q => (sb.2 c (fun q' => hb (by simp [q']))).trans (hk c o (fun q' => hb (by simp [q'])) (fun q' => hb (by simp [q'])) (fun q' => hb (by simp [q'])) (fun q' => hb (by simp [q'])) q)) hf (Nat.le_refl _) new
    refine ⟨.ref s.heap.objs.size, _, I1, rfl, ⟨_, x, y, rfl, I.hok.fresh (Nat.le_refl _), rfl, fun l hl => by rw [sq_inj I hl hqx]; exact hx, fun l hl => by rw [sq_inj I hl hqy]; exact hy⟩, ⟨z'', ?_, ⟨x1, x2, ?_⟩, ?_, ?_⟩, fun c hcm => ?_⟩
    · exact (sb.2 _ D.TIz).trans (hk _ _ D.TIz D.TITO D.TIi1 D.TIi2 hTI)
    · exact (sb.2 _ D.TOz).trans TO'
    · exact st1'.1.at fun o q => (sb.2 _ D.i1z).trans q
    · exact st2'.1.at fun o q => (sb.2 _ D.i2z).trans q
    · have hlt : c < s.heap.objs.size := by
        have e' : c = z ∨ c = TI ∨ c = TO ∨ c = i1 ∨ c = i2 := by simpa using hcm
        rcases e' with q | q | q | q | q
        · rw [q]; exact hzl
        · rw [q]; exact Heap.lt_size hTI
        · rw [q]; exact Heap.lt_size hTO
        · rw [q]; obtain ⟨_, e1, _⟩ := h1.obj; exact Heap.lt_size e1
        · rw [q]; obtain ⟨_, e2, _⟩ := h2.obj; exact Heap.lt_size e2
      rw [upd_ne (Nat.ne_of_lt hlt)]
      exact (hf c hcm).1
  done := by
    intro X hP hw hK hc i pins s σ H E I hf st hg
    subst hP hw hK
    obtain ⟨hz, hTI, ⟨x0, y0, hTO⟩, h1, h2⟩ := st
    obtain ⟨xs, ys, hqx, hqy, e1, e2⟩ := hg
    obtain ⟨its, rv, p⟩ := inv_sq I hqx
    obtain ⟨its2, rv2, p2⟩ := inv_sq I hqy
    have l1 : its.toArray.size = i := by rw [List.size_toArray, ← rv.length, e1]
    have l2 : its2.toArray.size = i := by rw [List.size_toArray, ← rv2.length, e2]
    have D1 := draws_k (prog := X.prog) (w := X.w) (A := X.A.in1) k1 (I.ok.hd hc) i1 a (sq_ne_it p h1) its.toArray
    have D2 := draws_k (prog := X.prog) (w := X.w) (A := X.A.in1) k2 (I.ok.hd hc) i2 b (sq_ne_it p2 h2) its2.toArray
    rw [l1] at D1
    rw [l2] at D2
    exact end_zip c (I.ok.hd hc) (sep_zip D) D1 D2 hz hTI hTO ⟨h1, p⟩ ⟨h2, p2⟩ fun h' tk hk => ⟨rfl, I.turnedL (t' := tk) (ch := [z, TI, TO, i1, i2]) (fun q o hb e =>
      hk q o (fun q' => hb (by simp [q'])) (fun q' => hb (by simp [q'])) (fun q' => hb (by simp [q'])) (fun q' => hb (by simp [q'])) e) hf⟩
  self := fun A i s Q E st h => self_zip c st.1 h
end M

namespace M
open PySem PySem.Spec PyProof.Rows L2

abbrev kwS (v : Value) : List (Str × Value) := [(Str.ofString "strict", v)]
theorem tcZS (a b c : Value) : checkTypeCall "zip" ⟨[a, b], kwS c⟩ = pure () := by kernel_rfl
theorem ncZS (a b c : Value) : checkBuiltinCall "zip.__new__" ⟨[.type "zip", a, b], kwS c⟩ = pure () := by kernel_rfl
theorem aoZS (obj a b c : Value) : argsOk "object.__init__" ⟨[obj, a, b], kwS c⟩ := by unfold argsOk; kernel_rfl
abbrev gzZs (h : Heap) (o1 o2 : Obj) : Heap := (gzO2 h o1 o2).push { cls := .type "zip", data := .fields #[.none, .bool false, .bool true, .ref ((h.push o1).push o2).objs.size, .ref (gzT2 h o1 o2).objs.size] }
theorem meets_zipS {v1 v2 : Value} {o1 o2 : Obj} {H1 H2 : Heap → Prop} (B1 : Begins v1 o1 H1) (B2 : Begins v2 o2 H2) :
    Meets (Builtin.«zip.__new__» ⟨[.type "zip", v1, v2], kwS (.bool true)⟩) (fun _ R s => (H1 s.heap ∧ H2 s.heap) ∧
      R (.ok (.ret (.ref (gzO2 s.heap o1 o2).objs.size))) { s with heap := gzZs s.heap o1 o2 }) :=
  .of_wp fun prog w A R s h => by
    obtain ⟨hp, g, d, tk, os⟩ := s; obtain ⟨⟨h1, h2⟩, h⟩ := h
    have hsub := sub_zip
    have q1 : ∀ {A' : Around} {E : Value → Shared → Prop} {Q : Value → Shared → Prop}, Q (.ref hp.objs.size) ⟨(hp.push o1), g, d, tk, os⟩ → wpAny (model prog w) A' (pyIter v1) Q E ⟨hp, g, d, tk, os⟩ :=
      fun q => B1.iter prog w _ _ ⟨hp, g, d, tk, os⟩ _ (B1.keeps _ _ h1 fun b o' e => e) q
    have q2 : ∀ {A' : Around} {E : Value → Shared → Prop} {Q : Value → Shared → Prop}, Q (.ref (hp.push o1).objs.size) ⟨((hp.push o1).push o2), g, d, tk, os⟩ → wpAny (model prog w) A' (pyIter v2) Q E ⟨(hp.push o1), g, d, tk, os⟩ :=
      fun q => B2.iter prog w _ _ ⟨(hp.push o1), g, d, tk, os⟩ _ (B2.keeps _ _ h2 fun b o' e => (Heap.get?_push_of_some _ e)) q
    have e1 : (Str.ofString "strict" == ("strict" : Str)) = true := by decide +kernel
    have e2 : (Str.ofString "strict" != ("strict" : Str)) = false := by decide +kernel
    wp_walk using q1, q2
    exact ⟨_, rfl, h⟩
section
variable {prog : Program} {w : World} {A : Around} {E : Value → Shared → Prop} {s : Shared}
theorem zipS_begins {v1 v2 : Value} {o1 o2 : Obj} {H1 H2 : Heap → Prop} {Q : Value → Shared → Prop} (B1 : Begins v1 o1 H1) (B2 : Begins v2 o2 H2) (h1 : H1 s.heap) (h2 : H2 s.heap)
    (h : ∀ h', ZipO true h' (s.heap.objs.size + 4) (s.heap.objs.size + 2) (s.heap.objs.size + 3) .none → IsTupOf2 h' (s.heap.objs.size + 2) (.ref s.heap.objs.size) (.ref (s.heap.objs.size + 1)) →
      IsTupOf2 h' (s.heap.objs.size + 3) .none .none → h'.get? s.heap.objs.size = some o1 → h'.get? (s.heap.objs.size + 1) = some o2 → h'.objs.size = s.heap.objs.size + 5 →
      (∀ c o, s.heap.get? c = some o → h'.get? c = some o) → Q (.ref (s.heap.objs.size + 4)) { s with heap := h' }) :
    wpAny (model prog w) A (call (.type "zip") [v1, v2] (kwS (.bool true))) Q E s := by
  refine callType_newKw F.called_zip (by decide) (tcZS _ _ _) (ncZS _ _ _) (fun obj => aoZS obj _ _ _) F.entry_zip_new
    (meets_zipS B1 B2) ⟨⟨h1, h2⟩, ?_⟩
  have z1 : (s.heap.push o1).objs.size = s.heap.objs.size + 1 := by rw [Heap.size_push]
  have z2 : ((s.heap.push o1).push o2).objs.size = s.heap.objs.size + 2 := by rw [Heap.size_push, z1]
  have zT : (gzT2 s.heap o1 o2).objs.size = s.heap.objs.size + 3 := by rw [Heap.size_push, z2]
  have zO : (gzO2 s.heap o1 o2).objs.size = s.heap.objs.size + 4 := by rw [Heap.size_push, zT]
  have zZ : (gzZs s.heap o1 o2).objs.size = s.heap.objs.size + 5 := by rw [Heap.size_push, zO]
  have gZ : (gzZs s.heap o1 o2).get? (gzO2 s.heap o1 o2).objs.size = some { cls := .type "zip", data := .fields #[.none, .bool false, .bool true, .ref ((s.heap.push o1).push o2).objs.size, .ref (gzT2 s.heap o1 o2).objs.size] } := Heap.get?_push_size _ rfl
  have gO : (gzZs s.heap o1 o2).get? (gzT2 s.heap o1 o2).objs.size = some { cls := .type "tuple", data := .seq #[.none, .none] } := Heap.get?_push_of_some _ (Heap.get?_push_size _ rfl)
  have gT : (gzZs s.heap o1 o2).get? ((s.heap.push o1).push o2).objs.size = some { cls := .type "tuple", data := .seq #[.ref s.heap.objs.size, .ref (s.heap.push o1).objs.size] } := Heap.get?_push_of_some _ (Heap.get?_push_of_some _ (Heap.get?_push_size _ rfl))
  have g1 : (gzZs s.heap o1 o2).get? s.heap.objs.size = some o1 := Heap.get?_push_of_some _ (Heap.get?_push_of_some _ (Heap.get?_push_of_some _ (Heap.get?_push_of_some _ (Heap.get?_push_size _ B1.free))))
  have g2 : (gzZs s.heap o1 o2).get? (s.heap.push o1).objs.size = some o2 := Heap.get?_push_of_some _ (Heap.get?_push_of_some _ (Heap.get?_push_of_some _ (Heap.get?_push_size _ B2.free)))
  rw [zO, zT, z2] at gZ
  rw [zT] at gO
  rw [z2, z1] at gT
  rw [z1] at g2
  show _ ∧ _
  rw [zO]
  exact ⟨⟨_, gZ, rfl⟩, h _ gZ gT gO g1 g2 zZ fun c o e => Heap.get?_push_of_some _ (Heap.get?_push_of_some _ (Heap.get?_push_of_some _ (Heap.get?_push_of_some _ (Heap.get?_push_of_some _ e))))⟩
end
section
variable {Mo : Model} {A : Around} {E : Value → Shared → Prop} {s : Shared} {env : Env}
theorem callWith_typeKw {pos : Pos} {T : String} {first : List Value} {args : List (Bool × Sem Value)} {keywords : List (Option Str × Sem Value)} {Q : Value → Shared → Prop}
    (hplain : args.any (·.1) = false) (hkw : keywords.any (·.1.isNone) = false)
    (h : wpAny Mo A (evalArgs (.type T) true args keywords) (fun a s₁ => wpAny Mo A (call (.type T) (first ++ a.pos) a.kw) Q E s₁) E s) :
    wpAny Mo A (callWith pos (.type T) first args keywords) Q E s := by
  unfold callWith
  refine wpAny_bind (wpAny_holding (wpAny_mono h (fun a s₁ h₁ => wpAny_bind (wpAny_standAt ?_)) fun _ _ x => x))
  simp only [hplain, hkw, Bool.or_false]
  refine wpAny_bind (wpAny_pure ?_)
  exact wpAny_bind (wpAny_mono h₁ (fun r s₂ hr => wpAny_bind (wpAny_holding (wpAny_point (wpAny_pure hr)))) fun _ _ x => x)
theorem callWith_zipS {pos kp kpos : Pos} {kk} {e : Expr} {rest : List Expr} {Q : Value → Shared → Prop}
    (h : wpAny Mo A (spliced (backTo pos (starEach (e :: rest) env))) (fun vs s₁ => wpAny Mo A (call (.type "zip") vs (kwS (.bool true))) Q E s₁) E s)
    (he : backTo pos (starEach (e :: rest) env) = (false, eval e env) :: backTo pos (starEach rest env) := by rfl)
    (hplain : (backTo pos (starEach (e :: rest) env)).any (·.1) = false := by rfl) :
    wpAny Mo A (callWith pos (.type "zip") [] (backTo pos (starEach (e :: rest) env)) (backToKw pos (keywordEach [⟨some (Str.ofString "strict"), .Constant (.bool true) kk kpos, kp⟩] env))) Q E s := by
  refine callWith_typeKw hplain rfl ?_
  rw [he] at h ⊢
  refine evalArgs_kwB rfl (wpAny_mono h (fun vs s1 h1 => ?_) fun _ _ x => x)
  exact kws_cons (Constant_bool (kws_nil h1))
end
def iZpM (k1 k2 : Bool) (K : PySem.W.Frag) (ta : TA) : TI := fun σ H R => ta σ H fun vs H1 => ∃ a b xs ys, vs = [.ref a, .ref b] ∧ SqK k1 K H1 a xs ∧ SqK k2 K H1 b ys ∧ R (ItzM k1 k2 K a b) H1
section
variable {X : Cx} {pins : List (Addr × Obj)} {σ : L2.St} {H1 : Hp} {s1 : Shared} {elts : List Expr} {kk : Nat} {tpos : Pos}
theorem fresh5 (I1 : Inv X pins σ H1 s1) : ∀ c, c ∈ [s1.heap.objs.size + 4, s1.heap.objs.size + 2, s1.heap.objs.size + 3, s1.heap.objs.size, s1.heap.objs.size + 1] → FpOk X pins H1 c := fun c hcm => by
  have e' : c = s1.heap.objs.size + 4 ∨ c = s1.heap.objs.size + 2 ∨ c = s1.heap.objs.size + 3 ∨ c = s1.heap.objs.size ∨ c = s1.heap.objs.size + 1 := by simpa using hcm
  have hle : s1.heap.objs.size ≤ c := by
    rcases e' with z | z | z | z | z
    · rw [z]; exact Nat.le_add_right _ _
    · rw [z]; exact Nat.le_add_right _ _
    · rw [z]; exact Nat.le_add_right _ _
    · rw [z]; exact Nat.le_refl _
    · rw [z]; exact Nat.le_add_right _ _
  exact I1.fpOk hle (I1.hok.fresh hle)
end
theorem pi_zipM {X : Cx} {e e2 : Expr} {ta : TA} {p pos tpos : Pos} {elts : List Expr} {kk : Nat} (k1 k2 : Bool) (hg : Gl X "zip") (hm : X.mg "zip" = none) (ha : PA X [e, e2] ta)
    (hs : starEach [e, e2] X.env = (false, eval e X.env) :: starEach [e2] X.env := by rfl) (hpl : (backTo pos (starEach [e2] X.env)).any (·.1) = false := by rfl) :
    PI X (.Tuple elts kk tpos) (.Call (.Name "zip" p) [e, e2] [] pos) (iZpM k1 k2 X.K ta) := by
  refine ⟨fun pins s σ H R I h => ?_⟩
  refine Call_ (ld_blt I hg hm PyProof.Rows.boot_zip (PyProof.Rows.callWith_type1 (thn (ha.run pos pins s σ H _ I h) fun us s1 ⟨vs, H1, I1, r1, q1⟩ => ?_) hs hpl))
  obtain ⟨a, b, xs, ys, ex, hqx, hqy, q⟩ := q1
  subst ex
  cases r1 with
  | cons r rr =>
    cases rr with
    | cons r' rr =>
      cases rr
      cases r
      cases r'
      obtain ⟨its, rv, p1⟩ := inv_sq I1 hqx
      obtain ⟨its2, rv2, p2⟩ := inv_sq I1 hqy
      obtain ⟨o1, ho1, _⟩ := p1.obj
      obtain ⟨o2, ho2, _⟩ := p2.obj
      refine zip_begins2 (begins_k k1 a its.toArray) (begins_k k2 b its2.toArray) p1 p2 fun h' hz hTI hTO h1 h2 hsz hk => self_zip false hz ?_
      have I2 : Inv X pins σ H1 { s1 with heap := h' } := I1.kept (t' := s1.toks) hk
      exact ⟨s1.heap.objs.size + 4, [s1.heap.objs.size + 4, s1.heap.objs.size + 2, s1.heap.objs.size + 3, s1.heap.objs.size, s1.heap.objs.size + 1], _, _, H1, rfl, I2, turn_zipM false k1 k2 (PySem.W.ktu_apart s1.heap.objs.size a b (Heap.lt_size ho1) (Heap.lt_size ho2)), ⟨hz, hTI, ⟨_, _, hTO⟩, sit_new h1, sit_new h2⟩, fresh5 I1, q⟩
theorem pi_zipS {X : Cx} {e e2 : Expr} {ta : TA} {p pos tpos kp kpos : Pos} {kc} {elts : List Expr} {kk : Nat} (k1 k2 : Bool) (hg : Gl X "zip") (hm : X.mg "zip" = none) (ha : PA X [e, e2] ta)
    (hs : starEach [e, e2] X.env = (false, eval e X.env) :: starEach [e2] X.env := by rfl) (hpl : (backTo pos (starEach [e2] X.env)).any (·.1) = false := by rfl) :
    PI X (.Tuple elts kk tpos) (.Call (.Name "zip" p) [e, e2] [⟨some (Str.ofString "strict"), .Constant (.bool true) kc kpos, kp⟩] pos) (iZpM k1 k2 X.K ta) := by
  refine ⟨fun pins s σ H R I h => ?_⟩
  refine wpAny_Call_Name_kw (ld_blt I hg hm PyProof.Rows.boot_zip (callWith_zipS (thn (ha.run pos pins s σ H _ I h) fun us s1 ⟨vs, H1, I1, r1, q1⟩ => ?_) (by rw [hs]; rfl) (by rw [hs]; exact hpl)))
  obtain ⟨a, b, xs, ys, ex, hqx, hqy, q⟩ := q1
  subst ex
  cases r1 with
  | cons r rr =>
    cases rr with
    | cons r' rr =>
      cases rr
      cases r
      cases r'
      obtain ⟨its, rv, p1⟩ := inv_sq I1 hqx
      obtain ⟨its2, rv2, p2⟩ := inv_sq I1 hqy
      obtain ⟨o1, ho1, _⟩ := p1.obj
      obtain ⟨o2, ho2, _⟩ := p2.obj
      refine zipS_begins (begins_k k1 a its.toArray) (begins_k k2 b its2.toArray) p1 p2 fun h' hz hTI hTO h1 h2 hsz hk => self_zip true hz ?_
      have I2 : Inv X pins σ H1 { s1 with heap := h' } := I1.kept (t' := s1.toks) hk
      exact ⟨s1.heap.objs.size + 4, [s1.heap.objs.size + 4, s1.heap.objs.size + 2, s1.heap.objs.size + 3, s1.heap.objs.size, s1.heap.objs.size + 1], _, _, H1, rfl, I2, turn_zipM true k1 k2 (PySem.W.ktu_apart s1.heap.objs.size a b (Heap.lt_size ho1) (Heap.lt_size ho2)), ⟨hz, hTI, ⟨_, _, hTO⟩, sit_new h1, sit_new h2⟩, fresh5 I1, q⟩
/-- pairs of items; only of two of one length -/
def sqOf : D → Option (Bool × List D) | .tup ds => some (true, ds) | .lst ds => some (false, ds) | _ => none
def zpD (ds es : List D) : List D := List.zipWith (fun a b => .tup [a, b]) ds es
def zpOf : List D → Option (Bool × Bool × List D)
  | [x, y] => match sqOf x, sqOf y with | some (k1, ds), some (k2, es) => if ds.length = es.length then some (k1, k2, zpD ds es) else none | _, _ => none
  | _ => none
theorem zpOf_of {l : List D} {r : Bool × Bool × List D} (h : zpOf l = some r) : ∃ x y ds es, l = [x, y] ∧ sqOf x = some (r.1, ds) ∧ sqOf y = some (r.2.1, es) ∧ ds.length = es.length ∧ r.2.2 = zpD ds es := by
  unfold zpOf at h
  split at h
  · split at h
    · split at h
      · cases h
        exact ⟨_, _, _, _, rfl, ‹_›, ‹_›, ‹_›, rfl⟩
      · cases h
    · cases h
  · cases h
theorem sqOf_rep {K : PySem.W.Frag} {G : Hp} {x : D} {k : Bool} {ds : List D} {v : V} (e : sqOf x = some (k, ds)) (r : Rep K G x v) : ∃ a us, v = .ref a ∧ SqK k K G a us ∧ Reps K G ds us := by
  unfold sqOf at e
  split at e
  · cases e
    simp only [Rep] at r
    obtain ⟨a, us, rfl, h1, q1⟩ := r
    exact ⟨a, us, rfl, h1, q1⟩
  · cases e
    simp only [Rep] at r
    obtain ⟨a, us, rfl, h1, q1⟩ := r
    exact ⟨a, us, rfl, SqL.of h1, q1⟩
  · cases e
theorem SqK.mono {k : Bool} {K : PySem.W.Frag} {G H : Hp} {a : Addr} {us : List V} (s : Same G H) (h : SqK k K G a us) : SqK k K H a us := by
  cases k with
  | true => exact SqT.mono s h
  | false => exact SqL.mono s h
theorem itD_zp [Tabs] {K : PySem.W.Frag} {G0 : Hp} {k1 k2 : Bool} {a b : Addr} {vs ws : List V} {ds es : List D} (ha : SqK k1 K G0 a vs) (hb : SqK k2 K G0 b ws) (r : Reps K G0 ds vs) (r2 : Reps K G0 es ws) (hl : ds.length = es.length) : ItD K G0 (ItzM k1 k2 K a b) (zpD ds es) := by
  intro i G H s1 s2
  have hA := SqK.mono s2 (SqK.mono s1 ha)
  have hB := SqK.mono s2 (SqK.mono s1 hb)
  have l1 := r.length
  have l2 := r2.length
  refine ⟨fun d e => ?_, fun e => ?_⟩
  · unfold zpD at e
    rw [List.getElem?_zipWith] at e
    cases q : ds[i]? with
    | none => rw [q] at e; cases e
    | some d0 =>
      cases q' : es[i]? with
      | none => rw [q, q'] at e; cases e
      | some e0 =>
        rw [q, q'] at e; cases e
        obtain ⟨v, e1, rv⟩ := r.get q
        obtain ⟨v2, e2, rv2⟩ := r2.get q'
        refine ⟨⟨vs, ws, v, v2, hA, hB, e1, e2, by omega⟩, fun x H' y => ?_⟩
        obtain ⟨T, x0, y0, rfl, hT, e3, y1, y2⟩ := y
        have h1 := y1 vs hA
        have h2 := y2 ws hB
        rw [e1] at h1; cases h1
        rw [e2] at h2; cases h2
        exact pair_rep s1 s2 hT rv rv2 e3
  · have : (zpD ds es).length = ds.length := by unfold zpD; rw [List.length_zipWith, ← hl, Nat.min_self]
    exact ⟨vs, ws, hA, hB, by omega, by omega⟩
def iZp (fs : FA) : FI := fun ρ => (fs ρ).bind fun p => match zpOf p.1 with | some r => .ok (r.2.2, p.2) | none => .no
theorem iZp_sound [Tabs] {K : PySem.W.Frag} {fs : FA} {σ : L2.St} {H : Hp} {R : It → Hp → Prop} (h : rdI K (iZp fs) σ H R) : ∃ k1 k2 : Bool, iZpM k1 k2 K (rdA K fs) σ H R := by
  obtain ⟨ρ, G, I, h⟩ := h
  unfold rdIK iZp at h
  cases e0 : fs ρ with
  | ex _ _ => rw [e0] at h; exact h.elim
  | no => rw [e0] at h; exact h.elim
  | ok q =>
    obtain ⟨ds, ρ1⟩ := q
    rw [e0] at h
    dsimp only [Rz.bind] at h
    cases z : zpOf ds with
    | none => rw [z] at h; exact h.elim
    | some r =>
      rw [z] at h
      dsimp only at h
      obtain ⟨x, y, xs, ys, rfl, ex, ey, hl, er⟩ := zpOf_of z
      rw [er] at h
      refine ⟨r.1, r.2.1, rdA_of I ?_⟩
      unfold rdAK
      rw [e0]
      intro vs H1 G1 s1 I1 r1
      obtain ⟨v, w, rfl, rv, rw'⟩ := reps2 r1
      obtain ⟨a, us, rfl, h1, q1⟩ := sqOf_rep ex rv
      obtain ⟨b, ws, rfl, h2, q2⟩ := sqOf_rep ey rw'
      exact ⟨a, b, us, ws, rfl, SqK.mono I1.sub h1, SqK.mono I1.sub h2, h _ H1 G1 s1 I1 (itD_zp h1 h2 q1 q2 hl)⟩
theorem di_zip [Tabs] {X : Cx} {e e2 : Expr} {fs : FA} {p pos tpos : Pos} {elts : List Expr} {kk : Nat} (hg : Gl X "zip") (hm : X.mg "zip" = none) (ha : PA X [e, e2] (rdA X.K fs))
    (hs : starEach [e, e2] X.env = (false, eval e X.env) :: starEach [e2] X.env := by rfl) (hpl : (backTo pos (starEach [e2] X.env)).any (·.1) = false := by rfl) :
    PI X (.Tuple elts kk tpos) (.Call (.Name "zip" p) [e, e2] [] pos) (rdI X.K (iZp fs)) :=
  ⟨fun pins s σ H R I h => by
    obtain ⟨k1, k2, q⟩ := iZp_sound h
    exact (pi_zipM k1 k2 hg hm ha hs hpl).run pins s σ H R I q⟩
theorem di_zipS [Tabs] {X : Cx} {e e2 : Expr} {fs : FA} {p pos tpos kp kpos : Pos} {kc} {elts : List Expr} {kk : Nat} (hg : Gl X "zip") (hm : X.mg "zip" = none) (ha : PA X [e, e2] (rdA X.K fs))
    (hs : starEach [e, e2] X.env = (false, eval e X.env) :: starEach [e2] X.env := by rfl) (hpl : (backTo pos (starEach [e2] X.env)).any (·.1) = false := by rfl) :
    PI X (.Tuple elts kk tpos) (.Call (.Name "zip" p) [e, e2] [⟨some "strict", .Constant (.bool true) kc kpos, kp⟩] pos) (rdI X.K (iZp fs)) :=
  ⟨fun pins s σ H R I h => by
    obtain ⟨k1, k2, q⟩ := iZp_sound h
    exact (pi_zipS k1 k2 hg hm ha hs hpl).run pins s σ H R I q⟩

end M

namespace M
open PySem PySem.Spec PyProof.Rows L2

/-! ### x not in range(..) -/
variable [Tabs]
section
variable {X : Cx} {a : Expr} {es : List Expr} {fa : FE} {fs : FA} {pos p rpos : Pos}
theorem op_notIn_rng : OpR X (compareOp .NotIn) (fun x y H Q => ∃ i a lo hi, x = V.int i ∧ y = V.ref a ∧ H a = some (.rng lo hi) ∧ Q (.bl (!decide (lo ≤ i ∧ i < hi))) H) := by
  intro pins s σ H x y v u Q I rx ry h
  obtain ⟨i, a, lo, hi, rfl, rfl, ha, q⟩ := h
  obtain ⟨k, rfl⟩ := rx
  obtain rfl : u = Value.ref a := ry
  obtain ⟨t1, t2, t3, ho⟩ := I.hok a _ ha
  show wpAny _ _ (do return Value.bool (!(← contains (Value.ref a) (Value.int i k)))) _ _ s
  refine wpAny_bind (wpAny_contains_slot (T := "range") ⟨_, ho, rfl⟩ F.slot_range_contains (call_meets F.slot_range_contains ⟨_, ho, rfl⟩ F.entry_range_contains (F.args_range_contains_2 _ _) (q_contains a lo hi i t1 t2 t3 k)
    ⟨ho, wpAny_truthy_bool (wpAny_pure ⟨.bl _, H, I, rfl, ?_⟩)⟩))
  rw [place1]
  exact q
def notInRgD (d : D) (ds : List D) : Option D := match d with
  | .int i => match rgPr ds with | some (a, b) => some (.bl (!(!iLt i a && iLt i b))) | none => none
  | _ => none
def eNotInRg (fa : FE) (fs : FA) : FE := bnd fa fun x => bndA fs fun ds => fun ρ => ofO (notInRgD x ds) ρ
def rNotInR : R2 := fun x y H Q => ∃ i a lo hi, x = V.int i ∧ y = V.ref a ∧ H a = some (.rng lo hi) ∧ Q (.bl (!decide (lo ≤ i ∧ i < hi))) H
theorem rd_notInRg (σ : L2.St) (H : Hp) (Q : VK) (h : rd X.K (eNotInRg fa fs) σ H Q) : tOp rNotInR (rd X.K fa) (tCB rRng (rdA X.K fs)) σ H Q := by
  obtain ⟨ρ, G, I, h⟩ := h
  refine rd_of I (rdK_mono (rdK_bnd h) fun v H1 ⟨d1, ρ1, G1, s1, I1, r1, h1⟩ => ?_)
  refine rdA_of I1 (rdAK_mono (rdK_bndA h1) fun vs H2 ⟨ds, ρ2, G2, s2, I2, r2, h2⟩ => ?_)
  obtain ⟨d, e, q⟩ := rdK_ofO h2 I2
  unfold notInRgD at e
  cases d1 with
  | int i =>
    dsimp only at e
    cases e3 : rgPr ds with
    | none => rw [e3] at e; cases e
    | some c =>
      obtain ⟨lo, hi⟩ := c
      rw [e3] at e; cases e
      simp only [Rep] at r1
      subst r1
      refine rRng_of r2 e3 fun p hp => ⟨i, p, lo, hi, rfl, rfl, upd_same, ?_⟩
      have eq : decide (lo ≤ i ∧ i < hi) = (!iLt i lo && iLt i hi) := by
        rw [not_iLt, iLt_eq, Bool.decide_and]
      rw [eq]
      exact q _ _ _ (PStp.laid I2.sub hp) (rep_bl _)
  | _ => cases e
theorem de_notInRg {e1 : Expr} {es : List Expr} (ha : PE X a (rd X.K fa)) (hg : Gl X "range") (hm : X.mg "range" = none) (hs : PA X (e1 :: es) (rdA X.K fs)) (hmk : behindInMarks .NotIn (.Call (.Name "range" p) (e1 :: es) [] rpos) = false)
    (he : starEach (e1 :: es) X.env = (false, eval e1 X.env) :: starEach es X.env := by rfl) (hpl : (backTo rpos (starEach es X.env)).any (·.1) = false := by rfl) :
    PE X (.Compare a [.NotIn] [.Call (.Name "range" p) (e1 :: es) [] rpos] pos) (rd X.K (eNotInRg fa fs)) :=
  pe_imp (pe_cmpR op_notIn_rng ha (pe_callTy cr_rng hg hm (by decide +kernel) hs (by decide) (by decide) he hpl) hmk) rd_notInRg
theorem dt_notInRg {e1 : Expr} {es : List Expr} (ha : PE X a (rd X.K fa)) (hg : Gl X "range") (hm : X.mg "range" = none) (hs : PA X (e1 :: es) (rdA X.K fs)) (hmk : behindInMarks .NotIn (.Call (.Name "range" p) (e1 :: es) [] rpos) = false)
    (he : starEach (e1 :: es) X.env = (false, eval e1 X.env) :: starEach es X.env := by rfl) (hpl : (backTo rpos (starEach es X.env)).any (·.1) = false := by rfl) :
    PT X (.Compare a [.NotIn] [.Call (.Name "range" p) (e1 :: es) [] rpos] pos) (rdT X.K (M.tB (eNotInRg fa fs))) :=
  pt_imp (pt_cmpR op_notIn_rng ha (pe_callTy cr_rng hg hm (by decide +kernel) hs (by decide) (by decide) he hpl) hmk) fun σ H Q h => rd_notInRg _ _ _ (rd_B _ _ _ h)
end
end M

namespace M
theorem filterMap_cong {α β : Type} {f g : α → Option β} : ∀ {l : List α}, (∀ x ∈ l, f x = g x) → l.filterMap f = l.filterMap g
  | [], _ => rfl
  | x :: l, h => by
    rw [List.filterMap_cons, List.filterMap_cons, h x (List.mem_cons_self ..), filterMap_cong (l := l) fun y hy => h y (List.mem_cons_of_mem _ hy)]
end M
namespace HT
open PySem PyProof.Rows
section
variable {prog : Program} {w : World} {A : Around} {E : Value → Shared → Prop} {s : Shared}
theorem places_rev (n : Nat) : Builtin.Slice.slicePlaces ((n : Int) - 1) (-1) (-1) = n := by
  unfold Builtin.Slice.slicePlaces
  have h1 : ¬ ((-1 : Int) > 0) := by decide
  simp only [h1, if_false]
  by_cases h : (n : Int) - 1 > -1
  · simp only [h, if_true]
    have e : ((n : Int) - 1 - -1 - 1) / (- -1) = (n : Int) - 1 := by
      rw [show (- -1 : Int) = 1 by decide, Int.ediv_one]; omega
    rw [e]; omega
  · simp only [h, if_false]; omega
theorem sliceApplied_rev {sl : Addr} {vl vu vs : Value} {n : Nat} {Q : Int × Int × Nat → Shared → Prop} (hs : s.heap.IsSliceOf sl vl vu vs) (pl : IsPart vl none) (pu : IsPart vu none) (ps : IsPart vs (some (-1)))
    (h : Q ((n : Int) - 1, -1, n) s) : wpAny (model prog w) A (Builtin.Slice.sliceApplied (.ref sl) (pure (n : Int))) Q E s := by
  obtain ⟨os, hos, hcs, hds⟩ := id hs
  unfold Builtin.Slice.sliceApplied Builtin.Slice.sliceFields
  refine wpAny_bind (wpAny_bind (wpAny_field hos hds (x := vl) rfl (wpAny_bind (wpAny_field hos hds (x := vu) rfl (wpAny_bind (wpAny_field hos hds (x := vs) rfl (wpAny_pure ?_)))))))
  refine wpAny_bind (slicePart_ ps ?_)
  show wpAny _ _ (if ((-1 : Int) == 0) = true then _ else _) _ _ s
  rw [if_neg (by decide)]
  refine wpAny_bind (slicePart_ pl (wpAny_bind (slicePart_ pu (wpAny_bind (wpAny_pure ?_)))))
  show wpAny _ _ (pure ((n : Int) - 1, (-1 : Int), Builtin.Slice.slicePlaces ((n : Int) - 1) (-1) (-1))) _ _ s
  rw [places_rev]
  exact wpAny_pure h
theorem pick_rev (xs : Array Value) : ((List.range xs.size).filterMap fun (m : Nat) => xs[((xs.size : Int) - 1 + (m : Int) * (-1)).toNat]?).toArray = xs.toList.reverse.toArray := by
  have e : ∀ m, m ∈ List.range xs.size → (fun (m : Nat) => xs[((xs.size : Int) - 1 + (m : Int) * (-1)).toNat]?) m = ((fun i => xs[i]?) ∘ fun k => xs.size - 1 - k) m := fun m hm => by
    have := List.mem_range.mp hm
    have z : ((xs.size : Int) - 1 + (m : Int) * (-1)).toNat = xs.size - 1 - m := by omega
    show xs[((xs.size : Int) - 1 + (m : Int) * (-1)).toNat]? = xs[xs.size - 1 - m]?
    rw [z]
  have e2 : (List.range xs.size).filterMap (fun (m : Nat) => xs[((xs.size : Int) - 1 + (m : Int) * (-1)).toNat]?) = (List.range xs.size).filterMap ((fun i => xs[i]?) ∘ fun k => xs.size - 1 - k) := M.filterMap_cong e
  rw [e2, ← List.filterMap_map, PySem.W.krv_range, List.filterMap_reverse, PySem.W.krv_all]
theorem getItem_tuple_rev {t sl : Addr} {items : Array Value} {vl vu vs : Value} {Q : Value → Shared → Prop} (ht : IsTup s.heap t items) (hs : s.heap.IsSliceOf sl vl vu vs) (pl : IsPart vl none) (pu : IsPart vu none) (ps : IsPart vs (some (-1)))
    (h : Q (.ref s.heap.objs.size) { s with heap := s.heap.push { cls := .type "tuple", data := .seq items.toList.reverse.toArray } })
    (hsz : items.size ≤ sizeLine) : wpAny (model prog w) A (getItem (.ref t) (.ref sl)) Q E s := by
  have htake : sizeOk (.seq items.toList.reverse.toArray) := by
    show items.toList.reverse.toArray.size ≤ sizeLine
    simpa using hsz
  obtain ⟨os, hos, hcs, hds⟩ := id hs
  have hTs : s.TypeIs (.ref sl) "slice" := ⟨os, hos, hcs⟩
  unfold getItem
  try with_reducible refine wpAny_holding ?_
  first | refine wpAny_bind (wpAny_pure ?_) | skip
  refine wpAny_bind (wpAny_sequenceKey ht.typeIs (by decide) ?_)
  refine wpAny_bind (wpAny_callSpecial?_slot (name := Str.ofString "__getitem__") ht.typeIs PyProof.Rows.slot_tuple_getitem
    (wpAny_call_entry PyProof.Rows.slot_tuple_getitem ht.typeIs entry_tuple_getitem ?_ (args_tuple_getitem _ _)))
  show wpAny _ _ (Builtin.Tuple.tupleItemsOf (.ref t) >>= _) _ _ s
  refine wpAny_bind (tupleItemsOf_ ht ?_)
  refine wpAny_bind (wpAny_typeOf hTs ?_)
  rw [if_pos (by decide)]
  refine wpAny_bind (sliceApplied_rev hs pl pu ps ?_)
  have hno : ¬ ((((items.size : Int) - 1) == 0 && (-1 : Int) == 1 && items.size == items.size) = true) := by
    intro q
    rw [Bool.and_eq_true, Bool.and_eq_true] at q
    exact absurd q.1.2 (by decide)
  show wpAny _ _ (if (((items.size : Int) - 1) == 0 && (-1 : Int) == 1 && items.size == items.size) = true then _ else _) _ _ s
  rw [if_neg hno, pick_rev]
  first
    | exact wpAny_bind (m := Builtin.Tuple.tupleExact _) (wpAny_newObj_type (wpAny_pure ⟨_, rfl, wpAny_pure h⟩) htake)
    | exact wpAny_bind (m := Builtin.Tuple.tupleExact _) (wpAny_newObj_type (wpAny_bind (wpAny_pure (wpAny_pure ⟨_, rfl, wpAny_pure h⟩))) htake)
    | exact wpAny_bind (wpAny_bind (m := Builtin.Tuple.tupleExact _) (wpAny_newObj_type (wpAny_pure (wpAny_pure ⟨_, rfl, wpAny_pure h⟩)) htake))
    | exact wpAny_bind (wpAny_bind (m := Builtin.Tuple.tupleExact _) (wpAny_newObj_type (wpAny_pure ⟨_, rfl, wpAny_pure h⟩) htake))
end
end HT
namespace M
open PySem PySem.Spec PyProof.Rows L2
variable [Tabs]
section
variable {X : Cx}
def tRevT (K : PySem.W.Frag) (te : TE) : TE := fun σ H Q => te σ H fun x H1 => ∃ a xs, x = .ref a ∧ SqT K H1 a xs ∧ ∀ p, H1 p = none → Q (.ref p) (upd H1 p (.tup xs.reverse))
theorem pe_revT {e : Expr} {te : TE} {k : Nat} {p1 p2 p3 pos : Pos} (he : PE X e te) : PE X (.Subscript e (.Slice none none (some (.UnaryOp .USub (.Constant (.int 1) k p1) p2)) p3) pos) (tRevT X.K te) := by
  refine ⟨fun pins s σ H Q I h => ?_⟩
  refine Subscript_ (thn (he.run pins s σ H _ I h) fun v s1 ⟨x, H1, I1, r1, q1⟩ => ?_)
  obtain ⟨a, xs, ex, hx, q⟩ := q1
  subst ex
  cases r1
  have hst : PO X (some (.UnaryOp .USub (.Constant (.int 1) k p1) p2)) (tPart (tUn (rU fun i => .int (-i)) (tC (.int 1)))) := po_some (pe_un un_neg pe_int)
  refine wpAny_Slice (thn (po_none.run pins s1 σ H1 (fun o H2 => o = none ∧ H2 = H1) I1 ⟨rfl, rfl⟩) fun vl s2 ⟨l, H2, I2, pl, el, e2⟩ => ?_)
  subst el e2
  refine thn (po_none.run pins s2 σ H2 (fun o H3 => o = none ∧ H3 = H2) I2 ⟨rfl, rfl⟩) fun vu s3 ⟨u, H3, I3, pu, eu, e3⟩ => ?_
  subst eu e3
  refine thn (hst.run pins s3 σ H3 (fun o H4 => o = some (-1) ∧ H4 = H3) I3 ⟨1, rfl, -1, rfl, rfl, rfl⟩) fun vs s4 ⟨o, H4, I4, ps, eo, e4⟩ => ?_
  subst eo e4
  have I5 : Inv X pins σ H4 { s4 with heap := s4.heap.push { cls := .type "slice", data := .fields #[vl, vu, vs] } } := I4.kept (t' := s4.toks) fun b ob q => Heap.get?_push_of_some _ q
  obtain ⟨its, r, ht, hz⟩ := I5.tuple hx
  have hlen := r.length
  show wpAny (model X.prog X.w) X.A (subscriptTail e (.Slice none none (some (.UnaryOp .USub (.Constant (.int 1) k p1) p2)) p3) (.ref a) (.ref s4.heap.objs.size)) (EP X pins σ Q) X.xe { s4 with heap := s4.heap.push { cls := .type "slice", data := .fields #[vl, vu, vs] } }
  refine tail_any (ops := [.ref a, .ref s4.heap.objs.size]) ht.typeIs (PyProof.Rows.slot_tuple_getitem.lookup) ?_ (by with_unfolding_all rfl)
  refine HT.getItem_tuple_rev ht (Heap.IsSliceOf.new _ vl vu vs) pl pu ps ?_ (by rw [List.size_toArray]; omega)
  refine ⟨.ref _, _, I5.laid (t' := s4.toks) (o := .tup xs.reverse) (fun b ob q => Heap.get?_push_of_some _ q) (Nat.le_refl _) ?_, rfl, q _ (I5.hok.fresh (Nat.le_refl _))⟩
  exact ⟨by rw [List.length_reverse]; exact hz, _, r.reverse, IsTup.new _ _⟩
/-- x[::-1] of lists and tuples -/
def revTD : D → Option D | .tup ds => some (.tup ds.reverse) | _ => none
theorem ud_revT {K : PySem.W.Frag} : UnD K (fun x H Q => ∃ a xs, x = .ref a ∧ SqT K H a xs ∧ ∀ p, H p = none → Q (.ref p) (upd H p (.tup xs.reverse))) revTD := by
  intro G H d1 d v1 Q s r1 e q
  unfold revTD at e
  split at e
  · simp only [Rep] at r1
    obtain ⟨a, vs, rfl, h1, q1⟩ := r1
    cases e
    exact ⟨a, _, rfl, SqT.mono s h1, fun p hp => q _ _ _ (PStp.laid s hp) (Rep.tup_new (s.free hp) q1.reverse)⟩
  · cases e
def revX : D → Option D | .tup ds => some (.tup ds.reverse) | .lst ds => some (.lst ds.reverse) | _ => none
theorem de_revX {a : Expr} {fa : FE} {pos : Pos} {k : Nat} {p1 p2 p3 : Pos} (ha : PE X a (rd X.K fa)) : PE X (.Subscript a (.Slice none none (some (.UnaryOp .USub (.Constant (.int 1) k p1) p2)) p3) pos) (rd X.K (e1 revX fa)) := by
  have hT := pe_imp (pe_revT (pos := pos) (k := k) (p1 := p1) (p2 := p2) (p3 := p3) ha) (rd_1 ud_revT)
  have hL := de_rev (pos := pos) (k := k) (p1 := p1) (p2 := p2) (p3 := p3) ha
  refine ⟨fun pins s σ H Q I h => ?_⟩
  obtain ⟨ρ, G, J, h⟩ := h
  have no : ∀ {d : D} {ρ1 : Rho}, fa ρ = .ok (d, ρ1) → revX d = none → False := fun e1' e2' => by
    unfold e1 bnd at h
    rw [e1'] at h
    simp only [Rz.bind, ofO, e2'] at h
  cases q : fa ρ with
  | ex _ _ => unfold e1 bnd at h; rw [q] at h; exact h.elim
  | no => unfold e1 bnd at h; rw [q] at h; exact h.elim
  | ok p =>
    obtain ⟨d, ρ1⟩ := p
    cases d with
    | tup ds =>
      refine hT.run pins s σ H Q I ⟨ρ, G, J, ?_⟩
      have e : e1 revTD fa ρ = e1 revX fa ρ := by simp only [e1, bnd, q, Rz.bind, revTD, revX]
      rw [e]; exact h
    | lst ds =>
      refine hL.run pins s σ H Q I ⟨ρ, G, J, ?_⟩
      have e : e1 revD fa ρ = e1 revX fa ρ := by simp only [e1, bnd, q, Rz.bind, revD, revX]
      rw [e]; exact h
    | _ => exact (no q rfl).elim
/-! a name of an own list that may have been handed on before -/
def eFrV (j : Nat) : FE := fun ρ => match ρ[j]? with | some (some (.dat d)) => .ok (d, ρ) | _ => eFrz j ρ
theorem de_frV (j : Nat) {x : Str} {pos : Pos} (hN : X.N[j]? = some x := by rfl) (hv : Vis X.env.scope x := by first | exact Or.inl rfl | exact Or.inr (Or.inl rfl) | exact Or.inr (Or.inr rfl)) (hd : (x == ("__debug__" : Str)) = false := by decide)
    (hcd : (x == ("__classdict__" : Str)) = false := by decide) : PE X (.Name x pos) (rd X.K (eFrV j)) := by
  refine ⟨fun pins s σ H Q I ⟨ρ, G, J, h⟩ => ?_⟩
  by_cases c : ∃ d, ρ[j]? = some (some (.dat d))
  · obtain ⟨d, c⟩ := c
    refine (de_var j hN hv hd hcd).run pins s σ H Q I ⟨ρ, G, J, ?_⟩
    have e : eV j ρ = eFrV j ρ := by simp only [eV, eFrV, c]
    rw [e]; exact h
  · refine (de_frz j hN hv hd hcd).run pins s σ H Q I ⟨ρ, G, J, ?_⟩
    have e : eFrz j ρ = eFrV j ρ := by
      unfold eFrV
      split
      · rename_i d e0
        exact absurd ⟨d, e0⟩ c
      · rfl
    rw [e]; exact h
end
end M

namespace M
open PySem PySem.Spec PyProof.Rows L2

/-! ### plain laws: a def of data as a plain function of values -/
def Fv (F : FD) (n : Nat) (ds : List D) : Option D := match F n (ds.map Sl.dat) with | some (.dat d, _) => some d | _ => none
theorem ofO_some {d : D} {ρ : Rho} : ofO (some d) ρ = .ok (d, ρ) := by simp only [ofO, frc_eq]
theorem ofO_none {ρ : Rho} : ofO none ρ = .no := rfl
theorem callD_d (F : FD) (n : Nat) (ds : List D) (ρ : Rho) : callD F n (ds.map Ar.d) ρ = ofO (Fv F n ds) ρ := by
  unfold callD Fv
  rw [if_pos (onceO_d (allDat_map ds)), argsOf_d]
  cases e : F n (ds.map Sl.dat) with
  | none => simp only [e]; rfl
  | some r =>
    obtain ⟨s, as'⟩ := r
    cases s with
    | dat d => simp only [e, backO_d (allDat_map ds), ofO_some]
    | own io es => simp only [e]; rfl
theorem eCall1 (F : FD) (n : Nat) (fa : FE) (ρ : Rho) : eCall F n (rCons fa rNil) ρ = (fa ρ).bind fun p => ofO (Fv F n [p.1]) p.2 := by
  unfold eCall rCons rNil
  cases fa ρ with
  | ok p => exact callD_d F n [p.1] p.2
  | ex _ _ => rfl
  | no => rfl
theorem eCall2 (F : FD) (n : Nat) (fa fb : FE) (ρ : Rho) : eCall F n (rCons fa (rCons fb rNil)) ρ = (fa ρ).bind fun p => (fb p.2).bind fun q => ofO (Fv F n [p.1, q.1]) q.2 := by
  unfold eCall rCons rNil
  cases fa ρ with
  | ok p =>
    simp only [Rz.bind]
    cases fb p.2 with
    | ok q => exact callD_d F n [p.1, q.1] q.2
    | ex _ _ => rfl
    | no => rfl
  | ex _ _ => rfl
  | no => rfl
theorem eCall3 (F : FD) (n : Nat) (fa fb fc : FE) (ρ : Rho) : eCall F n (rCons fa (rCons fb (rCons fc rNil))) ρ = (fa ρ).bind fun p => (fb p.2).bind fun q => (fc q.2).bind fun r => ofO (Fv F n [p.1, q.1, r.1]) r.2 := by
  unfold eCall rCons rNil
  cases fa ρ with
  | ok p =>
    simp only [Rz.bind]
    cases fb p.2 with
    | ok q =>
      simp only [Rz.bind]
      cases fc q.2 with
      | ok r => exact callD_d F n [p.1, q.1, r.1] r.2
      | ex _ _ => rfl
      | no => rfl
    | ex _ _ => rfl
    | no => rfl
  | ex _ _ => rfl
  | no => rfl
theorem Fv_rt {F : FD} {n : Nat} {g : FS} {L np : Nat} {ds : List D} {d : D} {ρ : Rho} (hF : F n (ds.map Sl.dat) = runB g L np (ds.map Sl.dat)) (hl : ds.length = np) (h : g (startR L (ds.map Sl.dat)) = .ok (.rt (.dat d), ρ)) : Fv F n ds = some d := by
  unfold Fv
  rw [hF, runB_rt (by rw [List.length_map]; exact hl) h]
theorem Fv_nx {F : FD} {n : Nat} {g : FS} {L np : Nat} {ds : List D} {ρ : Rho} (hF : F n (ds.map Sl.dat) = runB g L np (ds.map Sl.dat)) (hl : ds.length = np) (h : g (startR L (ds.map Sl.dat)) = .ok (.nx, ρ)) : Fv F n ds = some .non := by
  unfold Fv
  rw [hF, runB_nx (by rw [List.length_map]; exact hl) h]
theorem Fv_ex {F : FD} {n : Nat} {ds : List D} {d : D} (h : ∃ as', F n (ds.map Sl.dat) = some (.dat d, as')) : Fv F n ds = some d := by
  obtain ⟨as', e⟩ := h
  unfold Fv; rw [e]
theorem ex_Fv {F : FD} {n : Nat} {ds : List D} {d : D} (h : Fv F n ds = some d) : ∃ as', F n (ds.map Sl.dat) = some (.dat d, as') := by
  unfold Fv at h
  split at h
  · rename_i d' as' e
    cases h
    exact ⟨as', e⟩
  · cases h
/-- list comprehensions without test: each item's value -/
theorem lc_all {fi : FI} {tg : TgD} {fe : FE} {vs : List Nat} {ρ ρ0 : Rho} {ds : List D} (f : D → D) (h1 : fi ρ = .ok (ds, ρ0)) (hn : noIo vs ρ0 = true) (h : ∀ d ∈ ds, ∃ ρ1 ρ2, tg d (wipeR vs ρ0) = some ρ1 ∧ fe ρ1 = .ok (f d, ρ2) ∧ noIo vs ρ2 = true ∧ wipeR vs ρ2 = wipeR vs ρ0)
    (hl : ds.length ≤ sizeLine) : oLc fi tg tYesD fe vs ρ = .ok (ds.map f, restR vs ρ0 (wipeR vs ρ0)) := by
  unfold oLc
  rw [h1]
  simp only [Rz.bind, if_pos hn]
  rw [lcL_map f ds [] h (by simpa using hl)]
  simp only [List.nil_append]
/-- .. with a test -/
theorem lcL_filter {tg : TgD} {ft : FT} {fe : FE} {vs : List Nat} {ρ : Rho} (p : D → Bool) : ∀ (ds acc : List D), (∀ d ∈ ds, ∃ ρ1 ρ2, tg d ρ = some ρ1 ∧ ft ρ1 = .ok (p d, ρ2) ∧ noIo vs ρ2 = true ∧ wipeR vs ρ2 = ρ ∧ fe ρ2 = .ok (d, ρ2)) → acc.length + ds.length ≤ sizeLine →
    lcL tg ft fe vs ds acc ρ = .ok (acc ++ ds.filter p, ρ)
  | [], acc, _, _ => by unfold lcL; rw [frcL_eq, List.filter_nil, List.append_nil]
  | d :: ds, acc, h, hl => by
    obtain ⟨ρ1, ρ2, e1, e2, e3, e4, e5⟩ := h d (List.mem_cons_self ..)
    rw [List.length_cons] at hl
    have ih := fun acc' hl' => lcL_filter p ds acc' (fun x hx => h x (List.mem_cons_of_mem _ hx)) hl'
    unfold lcL
    rw [frc_eq, nrmR_eq, e1]
    simp only [e2, Rz.bind]
    cases q : p d with
    | true =>
      simp only [e5, if_true, e3, and_true, e4]
      rw [if_pos (by omega), ih _ (by rw [List.length_append, List.length_singleton]; omega), List.filter_cons_of_pos q, List.append_assoc]
      rfl
    | false =>
      simp only [Bool.false_eq_true, if_false, e3, if_true, e4]
      rw [ih _ (by omega), List.filter_cons_of_neg (by rw [q]; exact Bool.false_ne_true)]
theorem lc_filter {fi : FI} {tg : TgD} {ft : FT} {fe : FE} {vs : List Nat} {ρ ρ0 : Rho} {ds : List D} (p : D → Bool) (h1 : fi ρ = .ok (ds, ρ0)) (hn : noIo vs ρ0 = true)
    (h : ∀ d ∈ ds, ∃ ρ1 ρ2, tg d (wipeR vs ρ0) = some ρ1 ∧ ft ρ1 = .ok (p d, ρ2) ∧ noIo vs ρ2 = true ∧ wipeR vs ρ2 = wipeR vs ρ0 ∧ fe ρ2 = .ok (d, ρ2)) (hl : ds.length ≤ sizeLine) : oLc fi tg ft fe vs ρ = .ok (ds.filter p, restR vs ρ0 (wipeR vs ρ0)) := by
  unfold oLc
  rw [h1]
  simp only [Rz.bind, if_pos hn]
  rw [lcL_filter p ds [] h (by simpa using hl)]
  simp only [List.nil_append]
/-- a for loop that may return -/
theorem forL_find {tg : TgD} {body : FS} (J : Rho → Prop) (p : D → Bool) (s : Sl) : ∀ (ds : List D), (∀ d ∈ ds, ∀ ρ, J ρ → ∃ ρ1 ρ2, tg d ρ = some ρ1 ∧ J ρ2 ∧ body ρ1 = .ok (if p d = true then (.rt s, ρ2) else (.nx, ρ2))) → ∀ ρ, J ρ →
    ∃ ρ', J ρ' ∧ forL tg body ds ρ = .ok (if ds.any p = true then (.rt s, ρ') else (.nx, ρ'))
  | [], _, ρ, j => ⟨ρ, j, by simp [forL]⟩
  | d :: ds, h, ρ, j => by
    obtain ⟨ρ1, ρ2, e1, j2, e2⟩ := h d (List.mem_cons_self ..) ρ j
    unfold forL
    rw [frc_eq, nrmR_eq, e1]
    dsimp only
    rw [e2]
    cases q : p d with
    | true => exact ⟨ρ2, j2, by simp [Rz.bind, q]⟩
    | false =>
      obtain ⟨ρ', j', e'⟩ := forL_find J p s ds (fun x hx => h x (List.mem_cons_of_mem _ hx)) ρ2 j2
      refine ⟨ρ', j', ?_⟩
      simp only [Bool.false_eq_true, if_false, Rz.bind, List.any_cons, q, Bool.false_or]
      exact e'
end M

namespace M
open PySem PySem.Spec PyProof.Rows L2
variable [Tabs]

/-! ### what may raise: readings with a wish about exceptions -/
/-- an own exception without payload, by its class's name -/
def XcR (K : PySem.W.Frag) : Exn → Value → Option Addr → Prop
  | .mk c none, cls, d => cls = .ref (He.ga K c) ∧ d = none
  | .mk _ (some _), _, _ => False
/-- it lies in the air: the step so far, then the wish -/
def AirX (K : PySem.W.Frag) (W : WX) (σ : L2.St) (ρ : Rho) (G H : Hp) (x : Exn) (ρ' : Rho) : Prop :=
  ∀ (σ' : L2.St) (H' G' : Hp) (cls : Value) (d : Option Addr), Stp σ ρ G H σ' ρ' G' H' → SR K G' H' σ' ρ' → XcR K x cls d → W cls d σ' H'
def OutX (K : PySem.W.Frag) (W : WX) (Dn : Ends) (σ : L2.St) (ρ : Rho) (G H : Hp) : Rz (Fl × Rho) → Prop
  | .ex x ρ' => AirX K W σ ρ G H x ρ'
  | .ok p => OutS K Dn σ ρ G H (.ok p)
  | .no => False
def rdSX (K : PySem.W.Frag) (W : WX) (g : FS) : TS := fun Dn σ H => ∃ ρ G, SR K G H σ ρ ∧ OutX K W Dn σ ρ G H (g ρ)
/-- an expression that may raise -/
def rdXK (K : PySem.W.Frag) (W : WX) (f : FE) (σ : L2.St) (ρ : Rho) (G H : Hp) (Q : VK) : Prop := match f ρ with
  | .ok (d, ρ') => ∀ v H' G', Stp σ ρ G H σ ρ' G' H' → SR K G' H' σ ρ' → Rep K G' d v → Q v H'
  | .ex x ρ' => ∀ (H' G' : Hp) (cls : Value) (d : Option Addr), Stp σ ρ G H σ ρ' G' H' → SR K G' H' σ ρ' → XcR K x cls d → W cls d σ H'
  | .no => False
def rdX (K : PySem.W.Frag) (W : WX) (f : FE) : TE := fun σ H Q => ∃ ρ G, SR K G H σ ρ ∧ rdXK K W f σ ρ G H Q
/-- what of it does not raise -/
def noxE (f : FE) : FE := fun ρ => match f ρ with | .ok p => .ok p | _ => .no
def noxS (g : FS) : FS := fun ρ => match g ρ with | .ok p => .ok p | _ => .no
section
variable {K : PySem.W.Frag} {σ σ1 : L2.St} {ρ ρ1 : Rho} {G H G1 H1 : Hp} {W : WX}
theorem AirX.after {x : Exn} {ρ' : Rho} (st : Stp σ ρ G H σ1 ρ1 G1 H1) (h : AirX K W σ ρ G H x ρ') : AirX K W σ1 ρ1 G1 H1 x ρ' := fun σ' H' G' cls d a b c => h σ' H' G' cls d (st.trans a) b c
theorem OutX.after {g : FS} {Dn : Ends} (st : Stp σ ρ G H σ1 ρ1 G1 H1) (h : OutX K W Dn σ ρ G H (g ρ1)) : OutX K W Dn σ1 ρ1 G1 H1 (g ρ1) := by
  cases e : g ρ1 with
  | ok p =>
    rw [e] at h
    have := rdSK_after (g := fun _ => .ok p) st h
    exact this
  | ex x ρ' => rw [e] at h; exact AirX.after st h
  | no => rw [e] at h; exact h
end
section
variable {X : Cx} {W : WX} {e c : Expr} {fe : FE} {ft : FT} {pos : Pos} {st : Stmt} {rest a b : List Stmt} {ga gb : FS}
theorem dx_of (h : PE X e (rd X.K fe)) : PE X e (rdX X.K W (noxE fe)) := pe_imp h fun σ H Q ⟨ρ, G, I, q⟩ => by
  refine rd_of I ?_
  unfold rdXK noxE at q
  unfold rdK
  cases z : fe ρ with
  | ok p => rw [z] at q; exact q
  | ex _ _ => rw [z] at q; exact q
  | no => rw [z] at q; exact q
theorem dsx_of (h : PS X st (rdS X.K ga)) : PS X st (rdSX X.K W (noxS ga)) := ps_imp h fun D σ H ⟨ρ, G, I, q⟩ => by
  refine rdS_of I ?_
  unfold noxS at q
  unfold rdSK
  cases z : ga ρ with
  | ok p => rw [z] at q; exact q
  | ex _ _ => rw [z] at q; exact q
  | no => rw [z] at q; exact q
theorem dssx_nil : PSs X [] (rdSX X.K W sNx) := pss_imp pss_nil fun D σ H ⟨ρ, G, I, h⟩ => h σ H G (Stp.refl _ _ _ _) I
theorem dssx_one (h : PS X st (rdSX X.K W ga)) : PSs X [st] (rdSX X.K W ga) := pss_one h
theorem dssx_cons (h : PS X st (rdSX X.K W ga)) (t : PSs X rest (rdSX X.K W gb)) : PSs X (st :: rest) (rdSX X.K W (sSeq ga gb)) := by
  refine pss_imp (pss_cons h t) fun D σ H ⟨ρ, G, I, q⟩ => ?_
  refine ⟨ρ, G, I, ?_⟩
  unfold sSeq at q
  cases e : ga ρ with
  | ok p =>
    obtain ⟨f, ρ1⟩ := p
    rw [e] at q
    dsimp only [Rz.bind] at q ⊢
    cases f with
    | nx => exact fun σ' H' G' s1 I1 => ⟨ρ1, G', I1, OutX.after s1 q⟩
    | bk => exact q
    | ct => exact q
    | rt s => exact q
  | ex _ _ => rw [e] at q; exact q
  | no => rw [e] at q; exact q
theorem dsx_if (hc : PT X c (rdT X.K ft)) (ha : PSs X a (rdSX X.K W ga)) (hb : PSs X b (rdSX X.K W gb)) : PS X (.If c a b pos) (rdSX X.K W (fun ρ => match ft ρ with | .ok (t, ρ1) => if t = true then ga ρ1 else gb ρ1 | _ => .no)) := by
  refine ps_imp (ps_if hc ha hb) fun D σ H ⟨ρ, G, I, h⟩ => ?_
  refine rdT_of I ?_
  unfold rdTK
  dsimp only at h
  cases e : ft ρ with
  | ex _ _ => rw [e] at h; exact h
  | no => rw [e] at h; exact h
  | ok p =>
    obtain ⟨t, ρ1⟩ := p
    rw [e] at h
    dsimp only at h ⊢
    intro H1 G1 s1 I1
    cases t with
    | true => exact ⟨ρ1, G1, I1, OutX.after (g := ga) s1 h⟩
    | false => exact ⟨ρ1, G1, I1, OutX.after (g := gb) s1 h⟩
/-- an expression's value, then a statement's end -/
theorem rdSX_bnd {K : PySem.W.Frag} {σ : L2.St} {ρ : Rho} {G H : Hp} {k : D → FS} {Dn : Ends} {T : VK} (I : SR K G H σ ρ) (h : OutX K W Dn σ ρ G H ((fe ρ).bind fun p => k p.1 p.2))
    (q : ∀ v H1 d ρ1 G1, Stp σ ρ G H σ ρ1 G1 H1 → SR K G1 H1 σ ρ1 → Rep K G1 d v → OutX K W Dn σ ρ1 G1 H1 (k d ρ1) → T v H1) : rdX K W fe σ H T := by
  refine ⟨ρ, G, I, ?_⟩
  unfold rdXK
  cases e : fe ρ with
  | ok p =>
    obtain ⟨d, ρ1⟩ := p
    rw [e] at h
    dsimp only [Rz.bind] at h ⊢
    intro v H1 G1 a b c
    exact q v H1 d ρ1 G1 a b c (OutX.after (g := k d) a h)
  | ex _ _ => rw [e] at h; exact fun H' G' cls d a b c => h σ H' G' cls d a b c
  | no => rw [e] at h; exact h
theorem dsx_ret (he : PE X e (rdX X.K W fe)) : PS X (.Return (some e) pos) (rdSX X.K W (sRet fe)) := by
  refine ps_imp (ps_ret he) fun D σ H ⟨ρ, G, I, h⟩ => ?_
  exact rdSX_bnd (k := fun d => fun ρ => .ok (.rt (.dat d), ρ)) (Dn := D) I h fun v H1 d ρ1 G1 a b c z => z v σ H1 G1 (Stp.refl _ _ _ _) b c
theorem dsx_expr (he : PE X e (rdX X.K W fe)) (hs : swapsWith e none pos.line X.env = pure false := by rfl) : PS X (.Expr e pos) (rdSX X.K W (sDrop fe)) := by
  refine ps_imp (ps_expr he hs) fun D σ H ⟨ρ, G, I, h⟩ => ?_
  exact rdSX_bnd (k := fun _ => sNx) (Dn := D) I h fun v H1 d ρ1 G1 a b c z => z σ H1 G1 (Stp.refl _ _ _ _) b
theorem dsx_set (i : Nat) {x : Str} {pos' : Pos} (he : PE X e (rdX X.K W fe)) (hN : X.N.Nodup) (hi : X.N[i]? = some x := by rfl) (hx : Loc X.env.scope x := by first | exact .inl rfl | exact .inr rfl) (hs : swapsWith e (some (.Name x pos')) pos.line X.env = pure false := by rfl)
    (hf : X.fn x = true ∨ X.env.scope.names.lookup x = some .local := by first | exact .inl rfl | exact .inr rfl | assumption) : PS X (.Assign [.Name x pos'] e pos) (rdSX X.K W (sSet i fe)) := by
  refine ps_imp (ps_set hN hi hx he hs hf) fun D σ H ⟨ρ, G, I, h⟩ => ?_
  refine rdSX_bnd (k := fun d => fun ρ => if isIo ρ i = true then .no else .ok (.nx, ρ.set i (some (.dat d)))) (Dn := D) I h fun v H1 d ρ1 G1 a b c z => ?_
  by_cases y : isIo ρ1 i = true
  · simp only [if_pos y] at z
    exact False.elim z
  · simp only [if_neg y] at z
    exact z _ H1 G1 (Stp.set (by simpa using y)) (b.set c)
/-- raise C('..') -/
def sRaise (c : Str) : FS := fun ρ => .ex (.mk c none) ρ
theorem dsx_raise {x m : Str} {j : Nat} {p p2 cpos : Pos} {bmB : List Value} {B newId initId : String} (F : ExcBaseFacts B newId initId bmB) (q : PySem.W.excIn X.K (He.ga X.K x) bmB newId = true) (gC : X.mg x = some (.ref (He.ga X.K x))) (kC : PySem.W.keepIn X.K (.ref (He.ga X.K x)) = true) (r : Raises X (.ref (He.ga X.K x)))
    (hc : X.calm = true) (tk : Takes X W) (hg : Gl X x) (hdb : (x == ("__debug__" : Str)) = false := by decide) : PS X (.Raise (some (.Call (.Name x p) [.Constant (.str m) j p2] [] cpos)) none pos) (rdSX X.K W (sRaise x)) := by
  refine ps_imp (ps_raise hc tk (pmk_own F q gC kC r hg hdb)) fun D σ H ⟨ρ, G, I, h⟩ => ?_
  exact h σ H G _ _ (Stp.refl _ _ _ _) I ⟨rfl, rfl⟩
end
end M

namespace M
open PySem PySem.Spec PyProof.Rows L2
variable [Tabs]

/-! ### defs that may raise -/
abbrev FDX := Nat → Args → Option (Except Exn Sl × Args)
/-- what a call comes to -/
def EndX (K : PySem.W.Frag) (vs : List V) (as as' : Args) (G H : Hp) (Q : VK) (E : XK) : Except Exn Sl → Prop
  | .ok s => ∀ v H' G', Stp (vs.map some) (as.map some) G H (vs.map some) (as'.map some) G' H' → SR K G' H' (vs.map some) (as'.map some) → RetR K (vs.map some) (as.map some) H G' H' v s → Q v H'
  | .error x => ∀ H' G' cls d, Stp (vs.map some) (as.map some) G H (vs.map some) (as'.map some) G' H' → SR K G' H' (vs.map some) (as'.map some) → XcR K x cls d → E cls d H'
def spX (K : PySem.W.Frag) (np : Nat) (F : FDX) : Sp := fun vs H Q E => ∃ (n : Nat) (G : Hp) (as : Args) (r : Except Exn Sl) (as' : Args), vs.length = np ∧ SR K G H (vs.map some) (as.map some) ∧ allIo as = true ∧ F n as = some (r, as') ∧ EndX K vs as as' G H Q E r
def runBX (g : FS) (L np : Nat) (as : Args) : Option (Except Exn Sl × Args) := if as.length = np then frcA as fun as => (match g (startR L as) with
  | .ok (.nx, ρ') => frcA (ends as ρ') fun es => some (.ok (.dat .non), es)
  | .ok (.rt s, ρ') => frcT s fun s => frcA (ends as ρ') fun es => some (.ok s, es)
  | .ex x ρ' => frcA (ends as ρ') fun es => some (.error x, es)
  | _ => none) else none
theorem runBX_len {g : FS} {L np : Nat} {as as' : Args} {r : Except Exn Sl} (h : runBX g L np as = some (r, as')) : as.length = np := by
  unfold runBX at h
  by_cases z : as.length = np
  · exact z
  · rw [if_neg z] at h; cases h
section
variable {K : PySem.W.Frag} {G H : Hp} {vs : List V} {as : Args} {N : List Str}
theorem rdSX_runB {g : FS} {np : Nat} {Q : VK} {E : XK} {r : Except Exn Sl} {as' : Args} (hio : allIo as = true) (I : SR K G H (vs.map some) (as.map some)) (h : runBX g N.length np as = some (r, as'))
    (q : EndX K vs as as' G H Q E r) :
    rdSX K (fun cls d _ H => E cls d H) g { nx := fun _ H' => Q .non H', rt := Q } (L2.start N vs) H := by
  refine ⟨startR N.length as, G, I.start, ?_⟩
  have hl := runBX_len h
  unfold runBX at h
  rw [if_pos hl, frcA_eq] at h
  simp only [frcA_eq, frcT_eq] at h
  cases e : g (startR N.length as) with
  | ex x ρ' =>
    rw [e] at h
    cases h
    intro σ' H' G' cls d st I' c
    obtain ⟨A, B⟩ := back_of hio I st I'
    exact q H' G' cls d A B c
  | no => rw [e] at h; cases h
  | ok p =>
    obtain ⟨f, ρ'⟩ := p
    rw [e] at h
    cases f with
    | nx =>
      cases h
      intro σ' H' G' st I'
      obtain ⟨A, B⟩ := back_of hio I st I'
      exact q .non H' G' A B (rep_non (K := K) (G := G'))
    | bk => cases h
    | ct => cases h
    | rt s =>
      cases h
      intro v σ' H' G' st I' r
      obtain ⟨A, B⟩ := back_of hio I st I'
      exact q v H' G' A B (ret_of hio r)
end
/-- the context of the body of a def that may raise -/
abbrev bodyXX (P : Program) (w : World) (K : PySem.W.Frag) (mg : Str → Option Value) (base : Heap) (N : List Str) (qual : Str) (sc : Scope) (f : Addr) (cdv : Value) (A : Around) (outer : List Env) (s : Shared) (H : Hp) (E : XK) : Cx :=
  cxOf (L2.CX P w) P w K mg base N qual sc f cdv A outer s H E
structure FnX (P : Program) (w : World) (K : PySem.W.Frag) (mg : Str → Option Value) (base : Heap) (k : Nat) (f : Addr) (fd : FuncData) (ps : List Str) (sp : Sp) : Prop where
  size : ∀ xs H Q E, sp xs H Q E → xs.length = ps.length
  go : ∀ (A : Around) (below : List Env) (t : Shared) (H : Hp) (args : PySem.Args) (us : List Value) (xs : List V) (Q : VK) (E : XK), Rm k A → Env0 P w K mg base A below t H → BindsTo t fd args (ps.zip us) → Vals xs us → sp xs H Q E → codeAny (model P w) A (.call (.ref f) args) (CR (L2.CX P w) below P w H t Q E) t
section
variable {P : Program} {w : World} {K : PySem.W.Frag} {mg : Str → Option Value} {base : Heap}
omit [Tabs] in
theorem fnX_of {k : Nat} {f : Addr} {name qual : Str} {params : Arguments} {body : List Stmt} {sc : Scope} {dV kV doc pm cdv ct oc : Value} {an od : Option Addr} {osl : Array (Option Value)} {N ps : List Str} {sp : Sp}
    (lk : K.lookup f = some ⟨oc, od, .func (PySem.W.fnOf name qual params body sc dV kV doc pm an cdv ct), osl⟩) (hc : PySem.W.codeIn K cdv qual = true) (S : FnScope N ps sc) (size : ∀ xs H Q E, sp xs H Q E → xs.length = ps.length)
    (hb : ∀ (A : Around) (below : List Env) (t : Shared) (H : Hp) (xs : List V) (Q : VK) (E : XK), Rm k (A.deeper (envOfC qual sc t.heap.objs.size f cdv)) → sp xs H Q E →
      ∃ T, PSs (bodyXX P w K mg base N qual sc f cdv A below t H E) body T ∧ T { nx := fun _ H' => Q .non H', rt := Q } (L2.start N xs) H) : FnX P w K mg base (k + 1) f (PySem.W.fnOf name qual params body sc dV kV doc pm an cdv ct) ps sp := by
  refine ⟨size, fun A below t H args us xs Q E rm env bt vv sps => ?_⟩
  have inB : ∀ b o, base.get? b = some o → t.heap.get? b = some o := fun b o q => (env.bs b o q).1
  have KT : K.In t.heap := env.mod.kin.keeps inB
  refine codeAny_call_function rm.r.depth (KT _ _ lk) rfl S.co S.gen rfl (PySem.W.codeRec_of KT hc) (bt _ _ _ _ ?_)
  refine wpAny_newFunctionEnv_cells S.kind (fun y hy => ?_) fun e he t1 z => ?_
  · have hm := (List.of_mem_zip (show (y.1, y.2) ∈ ps.zip us from hy)).1
    exact (S.par _ hm).elim .inl fun q => .inr ⟨q, PySem.W.cellsFrom_some _ _ _ (.inl q)⟩
  · subst he
    refine ⟨(env.mod.nolimit.keeps inB).keeps z.toInCall.keep, codeAny_func ?_⟩
    obtain ⟨T, hT, hq⟩ := hb A below t H xs Q E ⟨rm.r.deeper _, rm.g⟩ sps
    have J := inv_start (CX := L2.CX P w) (P := P) (w := w) (E := E) S rm.r.hd env (size _ _ _ _ sps) vv z
    refine wpAny_mono (hT.run [] t1 _ H _ J hq) (fun fl t2 z2 => ?_) fun _ _ q => q
    match fl, z2 with
    | .ret u, ⟨v, _, H', J', rv, q⟩ => exact ⟨v, H', J'.os, J'.bare, J'.base, J'.hok, rv, q⟩
    | .next, ⟨_, H', J', q⟩ => exact ⟨.non, H', J'.os, J'.bare, J'.base, J'.hok, rfl, q⟩
    | .brk, ⟨_, _, _, q⟩ => exact q.elim
    | .cont, ⟨_, _, _, q⟩ => exact q.elim
omit [Tabs] in
/-- what a def's body takes of exceptions -/
theorem takesX {N : List Str} {qual : Str} {sc : Scope} {f : Addr} {cdv : Value} {A : Around} {outer : List Env} {s : Shared} {H : Hp} {E : XK} : Takes (bodyXX P w K mg base N qual sc f cdv A outer s H E) (fun cls d _ H => E cls d H) :=
  takes_of rfl rfl rfl rfl
theorem dfnX_ok {x qual : Str} {st : Stmt} {f : Addr} {fd : FuncData} {cdv : Value} {N ps : List Str} {k : Nat} {g : Nat → FS} (F : FunC K x qual st f fd cdv) (S : FnScope N ps (defScope st))
    (hbody : ∀ (n : Nat) (A : Around) (outer : List Env) (s : Shared) (H : Hp) (E : XK), Rm k (A.deeper (envOfC qual (defScope st) s.heap.objs.size f cdv)) →
      PSs (bodyXX P w K mg base N qual (defScope st) f cdv A outer s H E) (defBody st) (rdSX K (fun cls d _ H => E cls d H) (g n))) : FnX P w K mg base (k + 1) f fd ps (spX K ps.length fun n as => runBX (g n) N.length ps.length as) := by
  obtain ⟨oc, od, kV, doc, pm, an, ct, osl, rfl, lk, hcd⟩ := F.ex
  refine fnX_of lk hcd S (fun vs H Q E ⟨_, _, _, _, _, h, _⟩ => h) fun A outer s H vs Q E hr hsp => ?_
  obtain ⟨n, G, as, r, as', hl, I, hio, h, q⟩ := hsp
  exact ⟨_, hbody n A outer s H E hr, rdSX_runB hio I h q⟩
end
/-- a def of the module that may be called by its name, and may raise -/
structure ClX (P : Program) (w : World) (K : PySem.W.Frag) (mg : Str → Option Value) (base : Heap) (k : Nat) (x : Str) (np : Nat) (F : FDX) : Prop where
  ex : ∃ (f : Addr) (fd : FuncData) (ps : List Str), FnX P w K mg base k f fd ps (spX K np F) ∧ mg x = some (.ref f) ∧ PySem.W.keepIn K (.ref f) = true ∧ Binds K fd ps []
  len : ∀ n as s as', F n as = some (s, as') → as.length = np
def callX (F : FDX) (n : Nat) (xs : List Ar) : Rho → Rz (D × Rho) := fun ρ => if onceO xs = true then (match argsOf ρ xs with
  | some as => (match F n as with
    | some (.ok (.dat d), as') => .ok (d, backO xs as' ρ)
    | some (.error x, as') => .ex x (backO xs as' ρ)
    | _ => .no)
  | none => .no) else .no
def eCallX (F : FDX) (n : Nat) (fr : FAr) : FE := fun ρ => match fr ρ with | .ok p => callX F n p.1 p.2 | _ => .no
section
variable {X : Cx} {W : WX} {k : Nat} {x : Str} {p pos : Pos} {e : Expr} {es : List Expr} {fr : FAr} {F : FDX}
theorem dx_call (n : Nat) {np j : Nat} (c : ClX X.prog X.w X.K X.mg X.base k x np F) (hr : Rm j X.A) (hk : k ≤ j) (hg : Gl X x) (tk : Takes X W) (ha : PA X (e :: es) (rdR X.K fr))
    (hdb : (x == ("__debug__" : Str)) = false := by decide) (he : starEach (e :: es) X.env = (false, eval e X.env) :: starEach es X.env := by rfl) (hpl : (backTo pos (starEach es X.env)).any (·.1) = false := by rfl) :
    PE X (.Call (.Name x p) (e :: es) [] pos) (rdX X.K W (eCallX F n fr)) := by
  obtain ⟨f, fd, ps, FO, hm, kp, hb⟩ := c.ex
  refine ⟨fun pins s σ H Q I h => wpAny_Call_Name_kw (ld_glob I hg hm (PySem.W.callWith_K (h₀ := X.base) I.ok.mod.kin kp (thn (ha.run pos pins s σ H (fun vs H1 => spX X.K np F vs H1 Q fun cls d H' => W cls d σ H') I ?_) fun us s1 ⟨vs, H1, I1, r, q⟩ => ⟨I1.kIn, ?_⟩) he hpl) hdb)⟩
  · obtain ⟨ρ, G, J, h⟩ := h
    refine ⟨ρ, G, J, ?_⟩
    unfold rdXK eCallX at h
    unfold rdRK
    cases e1 : fr ρ with
    | ex _ _ => rw [e1] at h; exact h
    | no => rw [e1] at h; exact h
    | ok q =>
      obtain ⟨xs, ρ1⟩ := q
      rw [e1] at h
      dsimp only at h ⊢
      intro vs H1 G1 s1 I1 r1
      unfold callX at h
      by_cases o : onceO xs = true
      · rw [if_pos o] at h
        cases ea : argsOf ρ1 xs with
        | none => rw [ea] at h; exact h.elim
        | some as =>
          rw [ea] at h
          dsimp only at h
          cases ef : F n as with
          | none => rw [ef] at h; exact h.elim
          | some q =>
            obtain ⟨sl, as'⟩ := q
            rw [ef] at h
            obtain ⟨l1, l2, _⟩ := args_get r1 ea
            cases sl with
            | error y =>
              dsimp only at h
              refine ⟨n, G1, as, .error y, as', by rw [l1]; exact c.len n as _ _ ef, args_SR I1 r1 ea o, args_io ea, ef, fun H' G' cls d st I' cc => ?_⟩
              obtain ⟨A, B, _⟩ := call_back I1 r1 ea o st I'
              exact h H' G' cls d (s1.trans A) B cc
            | ok sl =>
              cases sl with
              | own io ds => exact h.elim
              | dat d =>
                dsimp only at h
                refine ⟨n, G1, as, .ok (.dat d), as', by rw [l1]; exact c.len n as _ _ ef, args_SR I1 r1 ea o, args_io ea, ef, fun v H' G' st I' rr => ?_⟩
                obtain ⟨A, B, _⟩ := call_back I1 r1 ea o st I'
                exact h v H' G' (s1.trans A) B rr
      · rw [if_neg o] at h; exact h.elim
  · show wpAny _ _ (call (.ref f) us) _ _ _
    have hl : us.length = ps.length := by rw [← r.length]; exact FO.size _ _ _ _ q
    have bt := hb s1 us I1.kIn (by simpa using hl)
    rw [List.append_nil] at bt
    refine wpAny_call (codeAny_mono (FO.go X.A X.stack s1 H1 ⟨us, []⟩ us vs Q _ (hr.mono hk) I1.env0 bt r q) fun rr s2 z => ?_)
    match rr, z with
    | .ok (.ret u), z => exact I1.after z
    | .ok .next, z => exact z.elim
    | .ok .brk, z => exact z.elim
    | .ok .cont, z => exact z.elim
    | .error u, z => exact tk u s2 (XE.of_call I1 (fun _ _ _ w => w) z)
end
end M

namespace M
open PySem PySem.Spec PyProof.Rows L2
variable [Tabs]

/-! ### try: .. except C: .. -/
/-- ct: which of the own classes the clause catches -/
def sTry (ct : Str → Option Bool) (g gs : FS) : FS := fun ρ => match g ρ with
  | .ok p => .ok p
  | .ex (.mk c none) ρ' => (match ct c with | some true => noxS gs ρ' | some false => .ex (.mk c none) ρ' | none => .no)
  | .ex (.mk _ (some _)) _ => .no
  | .no => .no
section
variable {X : Cx} {W : WX} {x : Str} {C : Addr} {body suite : List Stmt} {b₀ : Stmt} {np pos pos' : Pos} {g gs : FS} {ct : Str → Option Bool}
theorem dsx_try (hs : X.stack = X.env :: X.outer) (hf : X.env.frame = some X.env.locals) (hc : Names X x (.ref C)) (tk : Takes X W) (hct : ∀ c b, ct c = some b → PySem.W.exmOne X.K (.ref (He.ga X.K c)) (.ref C) = some b)
    (hb : ∀ (W : WX) (pn : List (Addr × Obj)) (xe : Value → Shared → Prop), Takes (X.tr pn xe) W → PSs (X.tr pn xe) body (rdSX X.K W g)) (hsu : ∀ (a : Addr) (q : Addr × Obj) (pn : List (Addr × Obj)), PSs (X.suite a (q :: pn)) (b₀ :: suite) (rdS X.K gs)) :
    PS X (.Try body [.ExceptHandler (some (.Name x np)) none (b₀ :: suite) pos'] [] [] pos) (rdSX X.K W (sTry ct g gs)) := by
  refine ps_imp (ps_try_only (c := .ref C) (tb := fun W' => rdSX X.K W' g) (ts := fun _ _ _ => rdS X.K gs) hs hf hc tk (fun W' pn xe t _ => hb W' pn xe t) (fun a oe cls d pn _ _ => hsu a (a, oe) pn)) fun D σ H ⟨ρ, G, I, h⟩ => ?_
  refine ⟨ρ, G, I, ?_⟩
  unfold sTry at h
  cases e : g ρ with
  | ok p => rw [e] at h; exact h
  | no => rw [e] at h; exact h
  | ex y ρ' =>
    rw [e] at h
    obtain ⟨c, o⟩ := y
    cases o with
    | some d => exact h.elim
    | none =>
      dsimp only at h
      intro σ' H' G' cls d st I' cc
      obtain ⟨rfl, rfl⟩ := cc
      cases z : ct c with
      | none => rw [z] at h; exact h.elim
      | some b =>
        rw [z] at h
        refine ⟨b, hct c b z, fun hb a _ => ?_, fun hb => ?_⟩
        · subst hb
          refine ⟨ρ', G', I', ?_⟩
          have h' : OutX X.K W D σ ρ G H (noxS gs ρ') := h
          unfold noxS at h'
          unfold rdSK
          cases e2 : gs ρ' with
          | ok p =>
            rw [e2] at h'
            have := rdSK_after (g := fun _ => .ok p) st h'
            exact this
          | ex _ _ => rw [e2] at h'; exact h'
          | no => rw [e2] at h'; exact h'
        · subst hb
          exact h σ' H' G' _ _ st I' ⟨rfl, rfl⟩
/-- a reading with a wish, where nothing is let out -/
theorem ds_ofX {st : Stmt} {ga : FS} (h : PS X st (rdSX X.K W ga)) : PS X st (rdS X.K ga) := ps_imp h fun D σ H ⟨ρ, G, I, q⟩ => by
  refine ⟨ρ, G, I, ?_⟩
  unfold rdSK at q
  cases z : ga ρ with
  | ok p => rw [z] at q; exact q
  | ex _ _ => rw [z] at q; exact q.elim
  | no => rw [z] at q; exact q
theorem de_ofX {e : Expr} {fe : FE} (h : PE X e (rdX X.K W fe)) : PE X e (rd X.K fe) := pe_imp h fun σ H Q ⟨ρ, G, I, q⟩ => by
  refine ⟨ρ, G, I, ?_⟩
  unfold rdXK
  cases z : fe ρ with
  | ok p => rw [z] at q; exact q
  | ex _ _ => rw [z] at q; exact q.elim
  | no => rw [z] at q; exact q
end
end M

namespace M
open PySem PySem.Spec PyProof.Rows L2

/-! ### a lambda without parameters, handed to a def that calls it -/
/-- a lambda was made: the maker's table may have grown -/
structure LamStep (H H1 : Hp) (P : Addr) (q : Str) : Prop where
  keep : ∀ b o, b ≠ P → H b = some o → H1 b = some o
  tab : LamX.TabS H1 P q
section
variable {X : Cx} {pins : List (Addr × Obj)} {σ : L2.St} {H : Hp} {s : Shared}
/-- an address that is new to the heap is no frame's -/
theorem no_frame (I : Inv X pins σ H s) {f : Addr} (hf : s.heap.objs.size ≤ f) : f ∉ frs X.stack := fun z => by
  rcases List.mem_cons.mp (I.stkSub _ z) with e | e
  · have h1 := I.lt
    rw [← e] at h1
    exact absurd h1 (Nat.not_lt.mpr hf)
  · exact I.nofs hf e
theorem lam_make3 {c P : Addr} {params : Arguments} {body : Expr} {scope : Scope} {pos : Pos} {E : Value → Shared → Prop} {Q : Value → Shared → Prop} (I : Inv X pins σ H s) (TB : LamX.TabB X.base X.mg c P) (hcode : X.env.code = .ref c)
    (hT : LamX.TabS H P (X.env.qual ++ "<lambda>")) (hdef : defaultsOf params X.env = ([], [])) (hfree : ∀ y ∈ scope.names, y.2 = .free → ∃ c, X.env.cells.lookup y.1 = some c)
    (h : ∀ (f c' : Addr) (pm ctv : Value) (H1 : Hp) (s' : Shared), Inv X pins σ H1 s' → LamStep H H1 P (X.env.qual ++ "<lambda>") → s'.heap.get? f = some (PySem.W.kla_obj "<lambda>" (X.env.qual ++ "<lambda>") params body scope (cloFrom X.env.cells scope.names []) pm c' ctv) →
      H1 f = none → f ∉ frs X.stack → H1 c' = some (LamX.CodeO c' (X.env.qual ++ "<lambda>")) → Q (.ref f) s') : wpAny (model X.prog X.w) X.A (eval (.Lambda params body scope pos) X.env) Q E s := by
  obtain ⟨ps, hP, ht, ha⟩ := id hT
  have hP' : s.heap.get? P = some { cls := .none, data := .fields ps } := I.hok P _ hP
  refine PySem.W.kla_eval hdef ?_
  cases hc : codeAmong pos ps.toList with
  | some cv =>
    -- the code object stands in the table
    obtain ⟨c', rfl, hco⟩ := ha pos cv hc
    refine PySem.W.kla_makeFunctionHit (mg := X.mg) (c := c) (P := P) (ps := ps) (closure_ok hfree) I.ok.glob (I.mod.glob.keeps I.bk) hcode (TB.code.keeps I.bk) hP' ht hc (TB.bm.keeps I.bk) fun ctv h' tk hx hsz => ?_
    exact h h'.objs.size c' ((X.mg "__name__").getD .none) ctv H _ (I.kept fun b o e => Heap.get?_push_of_some _ (hx b o e)) ⟨fun _ _ _ e => e, hT⟩ (Heap.get?_push_size _ rfl) (I.hok.fresh hsz) (no_frame I hsz) hco
  | none =>
    refine PySem.W.kla_makeFunction (mg := X.mg) (c := c) (P := P) (ps := ps) (closure_ok hfree) I.ok.glob (I.mod.glob.keeps I.bk) hcode (TB.code.keeps I.bk) hP' ht hc TB.gP (TB.bm.keeps I.bk) fun c' ctv h' tk hx hge hlt hrec htb => ?_
    obtain ⟨c2, oc, vs, t, e2, hoc, hd, hv⟩ := hrec
    cases e2
    have hsz : s.heap.objs.size ≤ h'.objs.size := Nat.le_trans hge (Nat.le_of_lt hlt)
    have nC : H c' = none := I.hok.fresh hge
    have I1 := LamX.inv_table (t' := tk) (more := #[rawInt pos.line, rawInt pos.col, .ref c']) (h' := h'.push (PySem.W.kla_obj "<lambda>" (X.env.qual ++ "<lambda>") params body scope (cloFrom X.env.cells scope.names []) ((X.mg "__name__").getD .none) c' ctv)) I hP
      (fun b o hb e => Heap.get?_push_of_some _ (hx b o hb e)) (Heap.get?_push_of_some _ htb) hge ⟨oc, vs, t, Heap.get?_push_of_some _ hoc, hd, hv⟩
    have kp : ∀ b o, b ≠ P → H b = some o → upd (upd H P (.tbl (ps ++ #[rawInt pos.line, rawInt pos.col, .ref c']))) c' (LamX.CodeO c' (X.env.qual ++ "<lambda>")) b = some o := fun b o hb e => by
      rw [upd_ne (ne_of_none e nC), upd_ne hb]; exact e
    have eL : (ps ++ #[rawInt pos.line, rawInt pos.col, .ref c']).toList = ps.toList ++ [rawInt pos.line, rawInt pos.col, .ref c'] := by simp
    refine h h'.objs.size c' ((X.mg "__name__").getD .none) ctv _ _ I1 ⟨kp, _, by rw [upd_ne (ne_of_none hP nC), upd_same], by rw [eL]; exact PySem.TriplesOk_snoc _ _ _ _ ht, fun p' cv hcv => ?_⟩ (Heap.get?_push_size _ rfl) ?_ (no_frame I hsz) upd_same
    · rw [eL] at hcv
      rcases LamX.among_app _ ht hcv with z | z
      · obtain ⟨c0, e1, e2⟩ := ha p' cv z
        refine ⟨c0, e1, kp _ _ (fun y => ?_) e2⟩
        rw [y, hP] at e2
        exact LamX.codeO_ne ps (Option.some.inj e2).symm
      · exact ⟨c', z, upd_same⟩
    · rw [upd_ne (Nat.ne_of_gt hlt), upd_ne (Nat.ne_of_gt (Nat.lt_of_lt_of_le (Heap.lt_size hP') hsz))]
      exact I.hok.fresh hsz
end
/-- what told makes of the lambda's reading: None where C is raised -/
def TToldN (K : PySem.W.Frag) (CS : Addr) : (XK → Hp → VK → Prop) → Hp → VK → Prop := fun tl H Q =>
  tl (fun cls _ H' => ∃ b, PySem.W.exmOne K cls (.ref CS) = some b ∧ (b = true → Q .non H') ∧ (b = false → False)) H Q
section
variable {X : Cx}
theorem told_givesN {Ng : List Str} {x a e q : Str} {sg : Scope} {g CS : Addr} {cdg : Value} {j : Nat} {p1 p2 p3 p4 p5 p6 p7 p8 : Pos} (hge : sg.names.lookup e = some .globalImplicit) (hme : X.mg e = some (.ref CS)) (hde : (e == ("__debug__" : Str)) = false) (h0 : ∀ f : Addr, (L2.start Ng [V.ref f])[0]? = some (some (V.ref f))) :
    LamX.GivesTo X Ng x sg g cdg [.Try [.Return (some (.Call (.Name a p1) [] [] p2)) p3] [.ExceptHandler (some (.Name e p4)) none [.Return (some (.Constant .none j p5)) p6] p7] [] [] p8] a q (TToldN X.K CS) := by
  intro f c' s H Q tl act hc h
  have hgl : Gl (cxOf C8.CX0 X.prog X.w X.K X.mg X.base Ng x sg g cdg X.A X.stack s H C8.E0).nox e := hge
  refine ⟨_, pss_one (ps_try_only (X := (cxOf C8.CX0 X.prog X.w X.K X.mg X.base Ng x sg g cdg X.A X.stack s H C8.E0).nox) (c := .ref CS)
      (tb := fun W D σ H => ∃ Ech : XK, (∀ cls d σ' H', Ech cls d H' → W cls d σ' H') ∧ σ[0]? = some (some (.ref f)) ∧ H c' = some (LamX.CodeO c' q) ∧ tl Ech H D.rt)
      rfl rfl ⟨hgl, hde, .inl hme⟩ LamX.takes0 (fun W pn xe tk _ => ⟨fun pins s' σ H' D I h' => ?_⟩) (fun a oe cls d pn _ _ => pss_one (ps_ret pe_non))),
    fun cls _ H' => ∃ b, PySem.W.exmOne X.K cls (.ref CS) = some b ∧ (b = true → Q .non H') ∧ (b = false → False), fun cls d σ' H' ⟨b, e1, e2, e3⟩ => ⟨b, e1, fun hb a _ => e2 hb, fun hb => e3 hb⟩, h0 f, hc, h⟩
  obtain ⟨Ech, hW, h1, h2, h3⟩ := h'
  exact (pss_one (ps_ret (pos := p3) (act W pn xe Ech p1 p2 tk hW))).run pins s' σ H' D I ⟨h1, h2, h3⟩
end
end M

namespace M
open PySem PySem.Spec PyProof.Rows L2

section
variable {X : Cx} {pins : List (Addr × Obj)} {σ : L2.St} {H HZ : Hp} {s s1 : Shared}
/-- the parameter that holds the lambda is called: nothing is under repr there either -/
theorem act_G {CXg : CXT} {Eg : XK} {Ng : List Str} {qg : Str} {sg : Scope} {g f c' : Addr} {cdg pm ctv : Value} {params : Arguments} {body : Expr} {scope : Scope} {k i : Nat} {a : Str} {pn : List (Addr × Obj)} {xe : Value → Shared → Prop} {W : WX} {E : XK} {tb : TE} {p1 p2 : Pos}
    (I : Inv X pins σ H s) (L : LamX.LamS X.env.scope scope) (hf : s.heap.get? f = some (PySem.W.kla_obj "<lambda>" (X.env.qual ++ "<lambda>") params body scope (cloFrom X.env.cells scope.names []) pm c' ctv)) (hfn : H f = none) (hfr : f ∉ frs X.stack)
    (hbind : bindArgs (PySem.W.kla_fn "<lambda>" (X.env.qual ++ "<lambda>") params body scope (cloFrom X.env.cells scope.names []) pm (.ref c') ctv) ⟨[], []⟩ = pure [])
    (tk : Takes ((cxOf CXg X.prog X.w X.K X.mg X.base Ng qg sg g cdg X.A X.stack s H Eg).tr pn xe) W) (hW : ∀ cls d σ' H', E cls d H' → W cls d σ' H') (hr : Rm (k + 1) (X.A.deeper (envOfC qg sg s.heap.objs.size g cdg)))
    (hbody : ∀ (A : Around) (outer : List Env) (s : Shared) (H : Hp), Rm k (A.deeper (LamX.lamEnv X scope s.heap.objs.size f c')) → PE (LamX.lamCx X A outer s H E scope f c') body tb)
    (hN : Ng[i]? = some a) (hv : Vis sg a) (hd : (a == ("__debug__" : Str)) = false) (hcd : (a == ("__classdict__" : Str)) = false) :
    PE ((cxOf CXg X.prog X.w X.K X.mg X.base Ng qg sg g cdg X.A X.stack s H Eg).tr pn xe) (.Call (.Name a p1) [] [] p2)
      (fun σZ HZ Q => σZ[i]? = some (some (.ref f)) ∧ HZ c' = some (LamX.CodeO c' (X.env.qual ++ "<lambda>")) ∧ tb σ HZ Q) := by
  refine ⟨fun pinsZ sZ σZ HZ Q IZ ⟨hs, hc, ht⟩ => wpAny_Call_Name_kw (thn ((pe_var (pos := p1) (i := i) hN hv hd hcd).run pinsZ sZ σZ HZ (fun v H1 => v = .ref f ∧ H1 = HZ) IZ ⟨.ref f, hs, rfl, rfl⟩) fun u s1 ⟨v, H1, I1, r1, q1⟩ => ?_)⟩
  obtain ⟨rfl, rfl⟩ := q1
  obtain rfl : u = Value.ref f := r1
  have of1 := I1.base.keep f _ hf hfn hfr (fun z => nomatch (show f ∈ ([] : List Addr) from z))
  refine PySem.W.callWith_F0 ⟨_, _, _, _, of1⟩ ?_
  obtain ⟨⟨oc, vs, t, hoc, hdc, hvc⟩, _, _⟩ := I1.hok c' _ hc
  have rc : codeAny (model X.prog X.w) (X.A.deeper (envOfC qg sg s.heap.objs.size g cdg)) (.call (.ref f) ⟨[], []⟩) (CR (L2.CX X.prog X.w) (envOfC qg sg s.heap.objs.size g cdg :: X.stack) X.prog X.w H1 s1 Q E) s1 := by
    refine PySem.W.kla_callFunE hr.r.depth of1 rfl L.co L.gen rfl ⟨c', oc, vs, t, rfl, hoc, hdc, hvc⟩ ?_
    rw [hbind]
    refine wpAny_pure (wpAny_newFunctionEnv (fun y hy => (L.own y hy).2) (fun y hy => absurd hy (by simp)) (fun h₁ hns hsb => ⟨I1.nolimit.fresh _ hsb, ?_⟩) L.kind)
    have J := LamX.lam_start2 (c' := c') (f := f) (E := E) (tk := s1.toks + ([] : List (Str × Value)).length) I L I1.env0 hr.r.hd I1.base hns fun b o e => hsb.extBut b o (Nat.ne_of_lt (Heap.lt_size e)) (Heap.get?_push_of_some _ e)
    exact PySem.W.kla_codeExpr (wpAny_mono ((hbody _ _ s1 H1 ⟨hr.r.deeper _, hr.g⟩).run [] _ _ H1 Q J ht) (fun v s' ⟨w', H', J', rv, q⟩ => ⟨w', H', J'.os, J'.bare, J'.base, J'.hok, rv, q⟩) fun _ _ q => q)
  have hx : Passes (L2.CX X.prog X.w) ((cxOf CXg X.prog X.w X.K X.mg X.base Ng qg sg g cdg X.A X.stack s H Eg).tr pn xe) E := passes_call tk hW
  refine wpAny_call (codeAny_mono rc fun r s' hq => ?_)
  match r, hq with
  | .error e, hq => exact hx pinsZ σZ H1 s1 e s' I1 hq
  | .ok (.ret u), hq => exact I1.after hq
  | .ok .next, hq => exact hq.elim
  | .ok .brk, hq => exact hq.elim
  | .ok .cont, hq => exact hq.elim
end
section
variable {X : Cx}
/-- x(lambda: body), the table's growth told -/
theorem pe_lam3 {TT : (XK → Hp → VK → Prop) → Hp → VK → Prop} {x a : Str} {g c P : Addr} {k : Nat} {pg : Arguments} {bg : List Stmt} {sg : Scope} {dV kV doc pm cdv ct oc : Value} {an od : Option Addr} {osl : Array (Option Value)} {Ng : List Str}
    {params : Arguments} {body : Expr} {scope : Scope} {t : XK → TE} {p lpos pos : Pos} (hg : Gl X x) (hm : X.mg x = some (.ref g)) (hk : PySem.W.keepIn X.K (.ref g) = true)
    (lk : X.K.lookup g = some ⟨oc, od, .func (PySem.W.fnOf x x pg bg sg dV kV doc pm an cdv ct), osl⟩) (hcg : PySem.W.codeIn X.K cdv x = true) (hb : L2.Binds X.K (PySem.W.fnOf x x pg bg sg dV kV doc pm an cdv ct) [a] []) (Sg : FnScope Ng [a] sg) (hNg : Ng[0]? = some a) (hva : Vis sg a)
    (hG : LamX.GivesTo X Ng x sg g cdv bg a (X.env.qual ++ "<lambda>") TT)
    (TB : LamX.TabB X.base X.mg c P) (hcode : X.env.code = .ref c) (hr : Rm (k + 2) X.A) (L : LamX.LamS X.env.scope scope) (hdef : defaultsOf params X.env = ([], []))
    (hbind : ∀ (q : Str) (cl : List (Str × Addr)) (pm cv ctv : Value), bindArgs (PySem.W.kla_fn "<lambda>" q params body scope cl pm cv ctv) ⟨[], []⟩ = pure [])
    (hbody : ∀ (A : Around) (outer : List Env) (s : Shared) (H : Hp) (E : XK) (f c' : Addr), Rm k (A.deeper (LamX.lamEnv X scope s.heap.objs.size f c')) → PE (LamX.lamCx X A outer s H E scope f c') body (t E))
    (hdb : (x == ("__debug__" : Str)) = false) (hd : (a == ("__debug__" : Str)) = false) (hcd : (a == ("__classdict__" : Str)) = false) :
    PE X (.Call (.Name x p) [.Lambda params body scope lpos] [] pos) (fun σ H Q => LamX.TabS H P (X.env.qual ++ "<lambda>") ∧ ∀ H1, LamStep H H1 P (X.env.qual ++ "<lambda>") → TT (fun E H' Q' => t E σ H' Q') H1 Q) := by
  refine ⟨fun pins s σ H Q I ⟨hT, h⟩ => ?_⟩
  refine wpAny_Call_Name_kw (ld_glob I hg hm (PySem.W.callWith_K (h₀ := X.base) I.ok.mod.kin hk ?_ (by rfl) (by rfl)) hdb)
  show wpAny _ _ (spliced ((false, eval (.Lambda params body scope lpos) X.env) :: backTo pos (starEach [] X.env))) _ _ s
  refine Calls.spliced_cons (lam_make3 I TB hcode hT hdef (L.has I.ok) fun f c' pm' ctv H1 s' I1 st hf hfn hfr hco => Calls.spliced_nil ⟨I1.kIn, ?_⟩)
  have rc : codeAny (model X.prog X.w) X.A (.call (.ref g) ⟨[.ref f], []⟩) (CR C8.CX0 X.stack X.prog X.w H1 s' Q C8.E0) s' :=
    LamX.run_ofS (N := Ng) (ps := [a]) (us := [.ref f]) (vs := [.ref f]) lk hcg Sg hr.r I1.env0 (hb s' [.ref f] I1.kIn rfl) (.cons rfl .nil) rfl fun hr' => by
      obtain ⟨t', ht', hq'⟩ := hG f c' s' H1 Q (fun E H' Q' => t E σ H' Q') (fun W pn xe E p1 p2 tk hW => act_G (i := 0) I1 L hf hfn hfr (hbind _ _ _ _ _) tk hW ⟨hr', hr.g⟩ (fun A outer s H hr2 => hbody A outer s H E f c' hr2) hNg hva hd hcd) hco (h H1 st)
      exact ⟨t', ht'.nox, hq'⟩
  refine wpAny_call (codeAny_mono rc fun r s2 hq => ?_)
  match r, hq with
  | .ok (.ret u), hq => exact I1.after hq
  | .ok .next, hq => exact hq.elim
  | .ok .brk, hq => exact hq.elim
  | .ok .cont, hq => exact hq.elim
  | .error e, hq => exact (show False from hq).elim
end
variable [Tabs]
/-- the maker's table grows by the lambda's code object -/
theorem lamStep_stp {K : PySem.W.Frag} {σ : L2.St} {ρ : Rho} {G H H1 : Hp} {P : Addr} {q : Str} (I : SR K G H σ ρ) (hT : P ∈ Tabs.T) (hP : (P, q) ∈ Tabs.L) (hu : ∀ p ∈ Tabs.L, p.1 = P → p.2 = q) (st : LamStep H H1 P q) :
    Stp σ ρ G H σ ρ G H1 ∧ SR K G H1 σ ρ := by
  obtain ⟨ps, e0, t0, _⟩ := I.lam _ hP
  obtain ⟨qs, e1, t1, _⟩ := id st.tab
  have nb : ∀ a o, H a = some o → isTb o = false → a ≠ P := fun a o e t z => by rw [z, e0] at e; cases e; cases t
  have kp : ∀ a o, H a = some o → isTb o = false → H1 a = some o := fun a o e t => st.keep a o (nb a o e t) e
  have gr : Grow H H1 := fun a rs e => by
    by_cases z : a = P
    · subst z
      exact ⟨qs, e1, fun _ => t1, fun q' m _ => by have z : q' = q := hu _ m rfl; rw [z]; exact st.tab⟩
    · refine ⟨rs, st.keep a _ z e, id, fun q' _ t => tabS_to t (fun ps h => st.keep a _ z h) fun c h => st.keep c _ (fun y => ?_) h⟩
      rw [y, e0] at h
      exact LamX.codeO_ne ps (Option.some.inj h).symm
  have dm : ∀ a, H a ≠ none → H1 a ≠ none := fun a n => by
    cases e : H a with
    | none => exact absurd e n
    | some o =>
      by_cases z : a = P
      · rw [z, e1]; exact fun z => by cases z
      · rw [st.keep a o z e]; exact fun z => by cases z
  have own : ∀ (a : Addr) (vs : List V), H a = some (.lst vs) → H1 a = some (.lst vs) := fun a vs e => kp a _ e rfl
  have sub : Same G H1 := fun a o e => by
    have e2 := I.sub a o e
    by_cases z : a = P
    · rw [z, (I.tab P hT).2] at e; cases e
    · exact st.keep a o z e2
  exact ⟨⟨fun _ _ h => h, fun _ _ _ => rfl, fun a o e _ t => kp a o e t, gr, dm, fun _ h => .inl h, fun _ h => .inl h, fun i ds h => ⟨rfl, ds, h⟩⟩,
    I.tabs' gr fun _ _ _ => rfl, I.lam' gr, I.len, sub, fun i s o e1 e2 => (by
      have r := I.slot i s o e1 e2
      match s, r with
      | none, _ => trivial
      | some (.dat d), r => exact r
      | some (.own _ ds), ⟨a, vs, e, e2, e3, r⟩ => exact ⟨a, vs, e, own a vs e2, e3, r⟩), I.inj⟩

/-! ### told: try: return call() / except C: return None -/
/-- ct: the classes that are caught -/
def eTold (ct : Str → Option Bool) (f : FE) : FE := fun ρ => match f ρ with
  | .ok p => .ok p
  | .ex (.mk c none) ρ' => if ct c = some true then .ok (.non, ρ') else .no
  | .ex (.mk _ (some _)) _ => .no
  | .no => .no
/-- a lambda's reading: an exception at the very names -/
def rdL (K : PySem.W.Frag) (f : FE) (E : XK) : TE := rdX K (fun cls d _ H => E cls d H) f
section
variable {X : Cx}
theorem takesL {A : Around} {outer : List Env} {s : Shared} {H : Hp} {E : XK} {scope : Scope} {f c' : Addr} : Takes (LamX.lamCx X A outer s H E scope f c') (fun cls d _ H => E cls d H) :=
  takes_of rfl rfl rfl rfl
theorem de_told {x a e : Str} {st : Stmt} {g CS c P : Addr} {fd : FuncData} {cdv : Value} {k : Nat} {Ng : List Str} {params : Arguments} {body : Expr} {scope : Scope} {p lpos pos : Pos} {fe : FE} {ct : Str → Option Bool} {j : Nat} {p1 p2 p3 p4 p5 p6 p7 p8 : Pos}
    (F : FunC X.K x x st g fd cdv) (hb : L2.Binds X.K fd [a] []) (Sg : FnScope Ng [a] (defScope st))
    (hst : defBody st = [.Try [.Return (some (.Call (.Name a p1) [] [] p2)) p3] [.ExceptHandler (some (.Name e p4)) none [.Return (some (.Constant .none j p5)) p6] p7] [] [] p8])
    (hge : (defScope st).names.lookup e = some .globalImplicit) (hme : X.mg e = some (.ref CS)) (hde : (e == ("__debug__" : Str)) = false)
    (h0 : ∀ f : Addr, (L2.start Ng [V.ref f])[0]? = some (some (V.ref f))) (hNg : Ng[0]? = some a) (hva : Vis (defScope st) a)
    (hct : ∀ c b, ct c = some b → PySem.W.exmOne X.K (.ref (He.ga X.K c)) (.ref CS) = some b)
    (hg : Gl X x) (hm : X.mg x = some (.ref g)) (TB : GxR.TabB X.base X.mg c P) (hT : P ∈ Tabs.T) (hcode : X.env.code = .ref c) (hL : (P, X.env.qual ++ "<lambda>") ∈ Tabs.L) (hu : ∀ p ∈ Tabs.L, p.1 = P → p.2 = X.env.qual ++ "<lambda>")
    (hr : Rm (k + 2) X.A) (L : LamX.LamS X.env.scope scope) (hdef : defaultsOf params X.env = ([], []))
    (hbind : ∀ (q : Str) (cl : List (Str × Addr)) (pm cv ctv : Value), bindArgs (PySem.W.kla_fn "<lambda>" q params body scope cl pm cv ctv) ⟨[], []⟩ = pure [])
    (hbody : ∀ (A : Around) (outer : List Env) (s : Shared) (H : Hp) (E : XK) (f c' : Addr), Rm k (A.deeper (LamX.lamEnv X scope s.heap.objs.size f c')) → PE (LamX.lamCx X A outer s H E scope f c') body (rdL X.K fe E))
    (hdb : (x == ("__debug__" : Str)) = false) (hd : (a == ("__debug__" : Str)) = false) (hcd : (a == ("__classdict__" : Str)) = false) :
    PE X (.Call (.Name x p) [.Lambda params body scope lpos] [] pos) (rd X.K (eTold ct fe)) := by
  obtain ⟨oc, od, kV, doc, pm, an, ctv, osl, rfl, lk, hcd'⟩ := F.ex
  have hG : LamX.GivesTo X Ng x (defScope st) g cdv (defBody st) a (X.env.qual ++ "<lambda>") (TToldN X.K CS) := by
    rw [hst]; exact told_givesN hge hme hde h0
  refine pe_imp (pe_lam3 (t := rdL X.K fe) hg hm F.kp lk hcd' hb Sg hNg hva hG ⟨TB.code, TB.bm, TB.gP⟩ hcode hr L hdef hbind hbody hdb hd hcd) fun σ H Q ⟨ρ, G, I, h⟩ => ?_
  refine ⟨I.lam _ hL, fun H1 ls => ?_⟩
  obtain ⟨S1, I1⟩ := lamStep_stp I hT hL hu ls
  refine ⟨ρ, G, I1, ?_⟩
  unfold eTold at h
  unfold rdXK
  cases z : fe ρ with
  | ok p =>
    rw [z] at h
    exact fun v H' G' a b c => h v H' G' (S1.trans a) b c
  | no => rw [z] at h; exact h
  | ex y ρ' =>
    rw [z] at h
    obtain ⟨c0, o⟩ := y
    cases o with
    | some d => exact h.elim
    | none =>
      dsimp only at h ⊢
      by_cases q : ct c0 = some true
      · rw [if_pos q] at h
        intro H' G' cls d a b cc
        obtain ⟨rfl, rfl⟩ := cc
        exact ⟨true, hct c0 true q, fun _ => h .non H' G' (S1.trans a) b (by simp only [Rep]), fun y => by cases y⟩
      · rw [if_neg q] at h; exact h.elim
end
end M

namespace M
open PySem PySem.Spec PyProof.Rows L2
def sIfX (ft : FT) (ga gb : FS) : FS := fun ρ => match ft ρ with | .ok (t, ρ1) => if t = true then ga ρ1 else gb ρ1 | _ => .no
/-- no two defs have one table -/
def tabsNd (tf : List He.Defn) (K : PySem.W.Frag) : Bool := decide (((tf.map (He.cT K)).map (·.2)).Nodup)
theorem nodup_inj {α β : Type} {f : α → β} : ∀ {l : List α}, (l.map f).Nodup → ∀ {p q : α}, p ∈ l → q ∈ l → f p = f q → p = q
  | [], _, p, _, h, _, _ => by cases h
  | x :: l, nd, p, q, hp, hq, e => by
    rw [List.map_cons, List.nodup_cons] at nd
    rcases List.mem_cons.mp hp with h1 | h1
    · rcases List.mem_cons.mp hq with h2 | h2
      · rw [h1, h2]
      · exact absurd (List.mem_map.mpr ⟨q, h2, by rw [← e, h1]⟩) nd.1
    · rcases List.mem_cons.mp hq with h2 | h2
      · exact absurd (List.mem_map.mpr ⟨p, h1, by rw [e, h2]⟩) nd.1
      · exact nodup_inj nd.2 h1 h2 e
theorem tabsNd_inj {tf : List He.Defn} {K : PySem.W.Frag} (h : tabsNd tf K = true) {p q : He.Defn} (hp : p ∈ tf) (hq : q ∈ tf) (e : (He.cT K p).2 = (He.cT K q).2) : p = q := by
  have nd := of_decide_eq_true h
  rw [List.map_map] at nd
  exact nodup_inj nd hp hq e
end M

namespace Lk
open PySem PySem.Spec PyProof.Rows L2 M
def topS (i : Nat) : Stmt := PySem.Challenge.pw_fewnames_k36_whole_barred_numbers_and_pa.main.body.getD i (.Pass ⟨0, 0, 0, 0⟩)
abbrev s__law_dish : Stmt := topS 30
abbrev s__law_allowed : Stmt := topS 35
abbrev s__law_gcd : Stmt := topS 34
abbrev s__law_pascal : Stmt := topS 33
abbrev s__law_barred : Stmt := topS 36
abbrev s__law_binom : Stmt := topS 38
abbrev s__law_told : Stmt := topS 37
abbrev s_allowed_in : Stmt := topS 17
abbrev s_choose : Stmt := topS 14
abbrev s_factor_of : Stmt := topS 15
abbrev s_common_in : Stmt := topS 16
abbrev s_barring_group : Stmt := topS 19
abbrev s_is_integer : Stmt := topS 6
abbrev s_is_between : Stmt := topS 7
abbrev s_require_number : Stmt := topS 8
abbrev s_require_both : Stmt := topS 18
abbrev s_barred_paper : Stmt := topS 22
abbrev s_is_barred_in : Stmt := topS 20
abbrev s_whole_sum : Stmt := topS 24
abbrev s_near_zero : Stmt := topS 25
abbrev s_free_paper : Stmt := topS 26
abbrev s_is_barred : Stmt := topS 21
abbrev s_is_barred_paper : Stmt := topS 23
abbrev s_is_free_row : Stmt := topS 27
abbrev s_is_free_paper : Stmt := topS 28
abbrev s__law_pair_right : Stmt := topS 39
abbrev s__law_spoon : Stmt := topS 31
abbrev s__law_pick_of : Stmt := topS 32
abbrev s_law : Stmt := topS 40
theorem sc__law_dish : FnScope ["script", "at", "cell", "great", "seed"] ["script", "at"] (defScope s__law_dish) := ⟨rfl, rfl, rfl, by decide +kernel, rfl, by decide +kernel, by decide +kernel⟩
theorem sc__law_allowed : FnScope ["size", "names", "group"] ["size", "names", "group"] (defScope s__law_allowed) := ⟨rfl, rfl, rfl, by decide +kernel, rfl, by decide +kernel, by decide +kernel⟩
theorem sc__law_gcd : FnScope ["numbers", "found", "number", "one", "other"] ["numbers"] (defScope s__law_gcd) := ⟨rfl, rfl, rfl, by decide +kernel, rfl, by decide +kernel, by decide +kernel⟩
theorem sc__law_pascal : FnScope ["top", "row", "turn", "at"] ["top"] (defScope s__law_pascal) := ⟨rfl, rfl, rfl, by decide +kernel, rfl, by decide +kernel, by decide +kernel⟩
theorem sc__law_barred : FnScope ["size", "names", "row", "group", "k"] ["size", "names"] (defScope s__law_barred) := ⟨rfl, rfl, rfl, by decide +kernel, rfl, by decide +kernel, by decide +kernel⟩
theorem sc__law_binom : FnScope ["top", "low", "row"] ["top", "low"] (defScope s__law_binom) := ⟨rfl, rfl, rfl, by decide +kernel, rfl, by decide +kernel, by decide +kernel⟩
theorem sc__law_told : FnScope ["call"] ["call"] (defScope s__law_told) := ⟨rfl, rfl, rfl, by decide +kernel, rfl, by decide +kernel, by decide +kernel⟩
theorem sc_allowed_in : FnScope ["size", "names", "group_size"] ["size", "names", "group_size"] (defScope s_allowed_in) := ⟨rfl, rfl, rfl, by decide +kernel, rfl, by decide +kernel, by decide +kernel⟩
theorem sc_choose : FnScope ["top", "low", "found", "step"] ["top", "low"] (defScope s_choose) := ⟨rfl, rfl, rfl, by decide +kernel, rfl, by decide +kernel, by decide +kernel⟩
theorem sc_factor_of : FnScope ["one", "other"] ["one", "other"] (defScope s_factor_of) := ⟨rfl, rfl, rfl, by decide +kernel, rfl, by decide +kernel, by decide +kernel⟩
theorem sc_common_in : FnScope ["size", "numbers", "found", "low"] ["size", "numbers"] (defScope s_common_in) := ⟨rfl, rfl, rfl, by decide +kernel, rfl, by decide +kernel, by decide +kernel⟩
theorem sc_barring_group : FnScope ["size", "names", "one"] ["size", "names"] (defScope s_barring_group) := ⟨rfl, rfl, rfl, by decide +kernel, rfl, by decide +kernel, by decide +kernel⟩
theorem sc_is_integer : FnScope ["value"] ["value"] (defScope s_is_integer) := ⟨rfl, rfl, rfl, by decide +kernel, rfl, by decide +kernel, by decide +kernel⟩
theorem sc_is_between : FnScope ["value", "low", "high"] ["value", "low", "high"] (defScope s_is_between) := ⟨rfl, rfl, rfl, by decide +kernel, rfl, by decide +kernel, by decide +kernel⟩
theorem sc_require_number : FnScope ["value", "low", "high"] ["value", "low", "high"] (defScope s_require_number) := ⟨rfl, rfl, rfl, by decide +kernel, rfl, by decide +kernel, by decide +kernel⟩
theorem sc_require_both : FnScope ["size", "names"] ["size", "names"] (defScope s_require_both) := ⟨rfl, rfl, rfl, by decide +kernel, rfl, by decide +kernel, by decide +kernel⟩
theorem sc_barred_paper : FnScope ["size", "names", "group_size"] ["size", "names"] (defScope s_barred_paper) := ⟨rfl, rfl, rfl, by decide +kernel, rfl, by decide +kernel, by decide +kernel⟩
theorem sc_is_barred_in : FnScope ["size", "names"] ["size", "names"] (defScope s_is_barred_in) := ⟨rfl, rfl, rfl, by decide +kernel, rfl, by decide +kernel, by decide +kernel⟩
theorem sc_whole_sum : FnScope ["numbers", "number", "row", "found", "one", "other", "left", "right", "ahead", "behind", "times", "part"] ["numbers"] (defScope s_whole_sum) := ⟨rfl, rfl, rfl, by decide +kernel, rfl, by decide +kernel, by decide +kernel⟩
theorem sc_near_zero : FnScope ["numbers", "row", "pivot", "place", "other", "number", "times"] ["numbers"] (defScope s_near_zero) := ⟨rfl, rfl, rfl, by decide +kernel, rfl, by decide +kernel, by decide +kernel⟩
theorem sc_free_paper : FnScope ["size", "names", "rows", "one", "low", "row"] ["size", "names"] (defScope s_free_paper) := ⟨rfl, rfl, rfl, by decide +kernel, rfl, by decide +kernel, by decide +kernel⟩
theorem sc_is_barred : FnScope ["size", "names"] ["size", "names"] (defScope s_is_barred) := ⟨rfl, rfl, rfl, by decide +kernel, rfl, by decide +kernel, by decide +kernel⟩
theorem sc_is_barred_paper : FnScope ["size", "names", "value", "low"] ["size", "names", "value"] (defScope s_is_barred_paper) := ⟨rfl, rfl, rfl, by decide +kernel, rfl, by decide +kernel, by decide +kernel⟩
theorem sc_is_free_row : FnScope ["size", "allowed", "value", "one", "low"] ["size", "allowed", "value"] (defScope s_is_free_row) := ⟨rfl, rfl, rfl, by decide +kernel, rfl, by decide +kernel, by decide +kernel⟩
theorem sc_is_free_paper : FnScope ["size", "names", "value", "place", "row"] ["size", "names", "value"] (defScope s_is_free_paper) := ⟨rfl, rfl, rfl, by decide +kernel, rfl, by decide +kernel, by decide +kernel⟩
theorem sc__law_pair_right : FnScope ["size", "names", "due", "barred", "free", "group", "factor", "row", "marks", "k", "one"] ["size", "names"] (defScope s__law_pair_right) := ⟨rfl, rfl, rfl, by decide +kernel, rfl, by decide +kernel, by decide +kernel⟩
theorem sc__law_spoon : FnScope ["dish", "total", "one", "two", "three", "found"] ["dish", "total"] (defScope s__law_spoon) := ⟨rfl, rfl, rfl, by decide +kernel, rfl, by decide +kernel, by decide +kernel⟩
theorem sc__law_pick_of : FnScope ["dish", "items"] ["dish", "items"] (defScope s__law_pick_of) := ⟨rfl, rfl, rfl, by decide +kernel, rfl, by decide +kernel, by decide +kernel⟩
theorem sc_law : FnScope ["script", "at", "written", "dish", "turn", "size", "names", "near"] ["script"] (defScope s_law) := ⟨rfl, rfl, rfl, by decide +kernel, rfl, by decide +kernel, by decide +kernel⟩
/-! ### what the defs compute -/
def ct : Str → Option Bool := fun c => if c = "InvalidOperation" then some true else none
def g__law_dish (n : Nat) : FS := (sSeq (sSet 2 (eIf (M.tB (e2 ltD (eV 1) (eB lenD (aCons (eV 0) aNil)))) (e2 ixD (eV 0) (eV 1)) (e2 addD (e2 mulD (eC (.int 89)) (eV 1)) (eC (.int 31)))))
  (sSeq (sSet 3 (e2 modD (eB intD (aCons (eB absD (aCons (eV 2) aNil)) aNil)) (e2 powD (e2 powD (eC (.int 10)) (eC (.int 60))) (eC (.int 9)))))
  (sSeq (sSet 4 (e2 modD (eB intD (aCons (e2 addD (e2 addD (e2 addD (e2 mulD (eV 3) (eC (.int 3))) (e2 mulD (eC (.int 10007)) (eV 1))) (eB intD (aCons (e2 ltD (eV 2) (eC (.int 0))) aNil))) (eC (.int 40487))) aNil)) (e2 addD (e2 powD (eC (.int 10)) (eC (.int 18))) (eC (.int 3)))))
  (sRetO (oLst (aCons (eIf (M.tB (e2 gtD (eV 3) (e2 powD (eC (.int 10)) (eC (.int 18))))) (e2 subD (eV 3) (e2 powD (eC (.int 10)) (eC (.int 18)))) (eC (.int 0))) (aCons (eV 4) (aCons (eC (.int 0)) aNil))))))))
def F__law_dish : FD := fun n as => runB (g__law_dish n) (["script", "at", "cell", "great", "seed"] : List Str).length (["script", "at"] : List Str).length as
def g__law_allowed (n : Nat) : FS := (sRet (eRgL (aCons (eB maxD (aCons (eC (.int 0)) (aCons (e2 addD (e2 subD (eV 0) (eV 1)) (eV 2)) aNil))) (aCons (e2 addD (eB minD (aCons (eV 0) (aCons (eV 2) aNil))) (eC (.int 1))) aNil))))
def F__law_allowed : FD := fun n as => runB (g__law_allowed n) (["size", "names", "group"] : List Str).length (["size", "names", "group"] : List Str).length as
def g__law_gcd (n : Nat) : FS := (sSeq (sSet 1 (eC (.int 0)))
  (sSeq (sFor (iSeq (eV 0)) (tName 2) (sSeq (sPar 3 4 (aCons (eV 1) (aCons (eV 2) aNil)))
  (sSeq (whl (M.tB (e2 gtD (eV 4) (eC (.int 0)))) (sPar 3 4 (aCons (eV 4) (aCons (e2 modD (eV 3) (eV 4)) aNil))) n)
  (sSet 1 (eV 3)))))
  (sRet (eV 1))))
def F__law_gcd : FD := fun n as => runB (g__law_gcd n) (["numbers", "found", "number", "one", "other"] : List Str).length (["numbers"] : List Str).length as
def g__law_pascal (n : Nat) : FS := (sSeq (sSet 1 (eLst (aCons (eC (.int 1)) aNil)))
  (sSeq (sFor (iRg rg1 (aCons (eV 0) aNil)) (tName 2) (sSet 1 (e2 addD (e2 addD (eLst (aCons (eC (.int 1)) aNil)) (eFz (oLc (iRg rg1 (aCons (e2 subD (eB lenD (aCons (eV 1) aNil)) (eC (.int 1))) aNil)) (tName 3) tYesD (e2 addD (e2 ixD (eV 1) (eV 3)) (e2 ixD (eV 1) (e2 addD (eV 3) (eC (.int 1))))) [3]))) (eLst (aCons (eC (.int 1)) aNil)))))
  (sRet (eV 1))))
def F__law_pascal : FD := fun n as => runB (g__law_pascal n) (["top", "row", "turn", "at"] : List Str).length (["top"] : List Str).length as
def g__law_barred (n : Nat) : FS := (sSeq (sIf (M.tB (e2 ltD (eV 1) (eV 0))) (sRet (eC (.bl true))) sNx)
  (sSeq (sSet 2 (eCall F__law_pascal n (rCons (eV 0) rNil)))
  (sSeq (sFor (iRg rg2 (aCons (eC (.int 1)) (aCons (eV 1) aNil))) (tName 3) (sIf (M.tB (e2 gtD (eCall F__law_gcd n (rCons (eFz (oLc (iSeq (eCall F__law_allowed n (rCons (eV 0) (rCons (eV 1) (rCons (eV 3) rNil))))) (tName 4) tYesD (e2 ixD (eV 2) (eV 4)) [4])) rNil)) (eC (.int 1)))) (sRet (eC (.bl true))) sNx))
  (sRet (eC (.bl false))))))
def F__law_barred : FD := fun n as => runB (g__law_barred n) (["size", "names", "row", "group", "k"] : List Str).length (["size", "names"] : List Str).length as
def g__law_binom (n : Nat) : FS := (sSeq (sSet 2 (eCall F__law_pascal n (rCons (eV 0) rNil)))
  (sRet (eIf (M.tB (eInRg (eV 1) (aCons (e2 addD (eV 0) (eC (.int 1))) aNil))) (e2 ixD (eV 2) (eV 1)) (eC (.int 0)))))
def F__law_binom : FD := fun n as => runB (g__law_binom n) (["top", "low", "row"] : List Str).length (["top", "low"] : List Str).length as
def g_allowed_in (n : Nat) : FS := (sRet (eRgT (aCons (eB maxD (aCons (eC (.int 0)) (aCons (e2 addD (e2 subD (eV 0) (eV 1)) (eV 2)) aNil))) (aCons (e2 addD (eB minD (aCons (eV 0) (aCons (eV 2) aNil))) (eC (.int 1))) aNil))))
def F_allowed_in : FD := fun n as => runB (g_allowed_in n) (["size", "names", "group_size"] : List Str).length (["size", "names", "group_size"] : List Str).length as
def g_choose (n : Nat) : FS := (sSeq (sSet 2 (eC (.int 1)))
  (sSeq (sFor (iRg rg1 (aCons (eV 1) aNil)) (tName 3) (sSet 2 (e2 fdivD (e2 mulD (eV 2) (e2 subD (eV 0) (eV 3))) (e2 addD (eV 3) (eC (.int 1))))))
  (sRet (eV 2))))
def F_choose : FD := fun n as => runB (g_choose n) (["top", "low", "found", "step"] : List Str).length (["top", "low"] : List Str).length as
def g_factor_of (n : Nat) : FS := (sSeq (whl (M.tB (e2 gtD (eV 1) (eC (.int 0)))) (sPar 0 1 (aCons (eV 1) (aCons (e2 modD (eV 0) (eV 1)) aNil))) n)
  (sRet (eV 0)))
def F_factor_of : FD := fun n as => runB (g_factor_of n) (["one", "other"] : List Str).length (["one", "other"] : List Str).length as
def g_common_in (n : Nat) : FS := (sSeq (sSet 2 (eC (.int 0)))
  (sSeq (sFor (iSeq (eV 1)) (tName 3) (sSet 2 (eCall F_factor_of n (rCons (eCall F_choose n (rCons (eV 0) (rCons (eV 3) rNil))) (rCons (eV 2) rNil)))))
  (sRet (eV 2))))
def F_common_in : FD := fun n as => runB (g_common_in n) (["size", "numbers", "found", "low"] : List Str).length (["size", "numbers"] : List Str).length as
def g_barring_group (n : Nat) : FS := (sRet (eNext (iRg rg2 (aCons (eC (.int 1)) (aCons (eV 1) aNil))) (tName 2) (M.tB (e2 gtD (eCall F_common_in n (rCons (eV 0) (rCons (eCall F_allowed_in n (rCons (eV 0) (rCons (eV 1) (rCons (eV 2) rNil)))) rNil))) (eC (.int 1)))) (eV 2) .non [2]))
def F_barring_group : FD := fun n as => runB (g_barring_group n) (["size", "names", "one"] : List Str).length (["size", "names"] : List Str).length as
def g_is_integer (n : Nat) : FS := (sRet (eAnd (eB isiD (aCons (eV 0) (aCons (eC (.con (.ty "int"))) aNil))) (eAnd (eNot (eB isiD (aCons (eV 0) (aCons (eC (.con (.ty "bool"))) aNil)))) (eCh ltD ltD (e1 negD (eC (.int 1000000000000000000000000000000000000000000000000000000000000))) (eV 0) (eC (.int 1000000000000000000000000000000000000000000000000000000000000))))))
def F_is_integer : FD := fun n as => runB (g_is_integer n) (["value"] : List Str).length (["value"] : List Str).length as
def g_is_between (n : Nat) : FS := (sRet (eAnd (eCall F_is_integer n (rCons (eV 0) rNil)) (eCh leD leD (eV 1) (eV 0) (eV 2))))
def F_is_between : FD := fun n as => runB (g_is_between n) (["value", "low", "high"] : List Str).length (["value", "low", "high"] : List Str).length as
def g_require_number (n : Nat) : FS := (sIf (tNotD (tTr (eCall F_is_between n (rCons (eV 0) (rCons (eV 1) (rCons (eV 2) rNil)))))) sNo sNx)
def F_require_number : FD := fun n as => runB (g_require_number n) (["value", "low", "high"] : List Str).length (["value", "low", "high"] : List Str).length as
def g_require_both (n : Nat) : FS := (sSeq (sDrop (eCall F_require_number n (rCons (eV 0) (rCons (eC (.int 1)) (rCons (eC (.int 60)) rNil)))))
  (sDrop (eCall F_require_number n (rCons (eV 1) (rCons (eC (.int 1)) (rCons (eC (.int 200)) rNil))))))
def F_require_both : FD := fun n as => runB (g_require_both n) (["size", "names"] : List Str).length (["size", "names"] : List Str).length as
def g_barred_paper (n : Nat) : FS := (sSeq (noxS (sDrop (eCall F_require_both n (rCons (eV 0) (rCons (eV 1) rNil)))))
  (sSeq (noxS (sIf (M.tB (e2 ltD (eV 1) (eV 0))) (sRet (eTup (aCons (eC (.str "few")) aNil))) sNx))
  (sSeq (noxS (sSet 2 (eCall F_barring_group n (rCons (eV 0) (rCons (eV 1) rNil)))))
  (sSeq (sIfX (M.tB (e2 isND (eV 2) (eC .non))) (sRaise "InvalidOperation") sNx)
  (noxS (sRet (eTup (aCons (eC (.str "group")) (aCons (eV 2) (aCons (eCall F_common_in n (rCons (eV 0) (rCons (eCall F_allowed_in n (rCons (eV 0) (rCons (eV 1) (rCons (eV 2) rNil)))) rNil))) aNil))))))))))
def F_barred_paper : FDX := fun n as => runBX (g_barred_paper n) (["size", "names", "group_size"] : List Str).length (["size", "names"] : List Str).length as
def g_is_barred_in (n : Nat) : FS := (sRet (eOr (e2 ltD (eV 1) (eV 0)) (e2 notND (eCall F_barring_group n (rCons (eV 0) (rCons (eV 1) rNil))) (eC .non))))
def F_is_barred_in : FD := fun n as => runB (g_is_barred_in n) (["size", "names"] : List Str).length (["size", "names"] : List Str).length as
def g_whole_sum (n : Nat) : FS := (sSeq (sPar 2 3 (aCons (eLst (aCons (eC (.int 1)) aNil)) (aCons (e2 ixD (eV 0) (eC (.int 0))) aNil)))
  (sSeq (sFor (iSeq (eSl (eV 0) (pSome (eC (.int 1))) pNone)) (tName 1) (sSeq (sAsg (tTup [tName 4, tName 5, tName 6, tName 7]) (eTup (aCons (eC (.int 1)) (aCons (eC (.int 0)) (aCons (eV 3) (aCons (eV 1) aNil))))))
  (sSeq (sAsg (tTup [tName 8, tName 9]) (eTup (aCons (eC (.int 0)) (aCons (eC (.int 1)) aNil))))
  (sSeq (whl (M.tB (e2 neS (eV 7) (eC (.int 0)))) (sSeq (sSet 10 (e2 fdivD (eV 6) (eV 7)))
  (sSeq (sPar 6 7 (aCons (eV 7) (aCons (e2 subD (eV 6) (e2 mulD (eV 10) (eV 7))) aNil)))
  (sSeq (sAsg (tTup [tName 4, tName 8]) (eTup (aCons (eV 8) (aCons (e2 subD (eV 4) (e2 mulD (eV 10) (eV 8))) aNil))))
  (sPar 5 9 (aCons (eV 9) (aCons (e2 subD (eV 5) (e2 mulD (eV 10) (eV 9))) aNil)))))) n)
  (sSeq (sSet 2 (eLst (aStar (eFz (oLc (iSeq (eV 2)) (tName 11) tYesD (e2 mulD (eV 11) (eV 4)) [11])) (aCons (eV 5) aNil))))
  (sSet 3 (eV 6)))))))
  (sRet (e1 tupD (eV 2)))))
def F_whole_sum : FD := fun n as => runB (g_whole_sum n) (["numbers", "number", "row", "found", "one", "other", "left", "right", "ahead", "behind", "times", "part"] : List Str).length (["numbers"] : List Str).length as
def g_near_zero (n : Nat) : FS := (sSeq (sOwn 1 (oLstOf (eCall F_whole_sum n (rCons (eV 0) rNil))))
  (sSeq (sSet 2 (eB minL (aCons (eV 0) aNil)))
  (sSeq (sSet 3 (eMet idxD (eV 0) (aCons (eV 2) aNil)))
  (sSeq (sFor (iEn (aCons (eV 0) aNil)) (tPair 4 5) (sIf (M.tB (e2 neS (eV 4) (eV 3))) (sSeq (sSet 6 (e2 fdivD (eIxO 1 (eV 4)) (eV 2)))
  (sSeq (sAugO 1 subD (eV 4) (e2 mulD (eV 6) (eV 2)))
  (sAugO 1 addI (eV 3) (e2 mulD (eV 6) (eV 5))))) sNx))
  (sRet (e1 tupD (eFrz 1)))))))
def F_near_zero : FD := fun n as => runB (g_near_zero n) (["numbers", "row", "pivot", "place", "other", "number", "times"] : List Str).length (["numbers"] : List Str).length as
def g_free_paper (n : Nat) : FS := (sSeq (noxS (sDrop (eCall F_require_both n (rCons (eV 0) (rCons (eV 1) rNil)))))
  (sSeq (sIfX (tTr (eCall F_is_barred_in n (rCons (eV 0) (rCons (eV 1) rNil)))) (sRaise "InvalidOperation") sNx)
  (sSeq (noxS (sSet 2 (eFz (oLc (iRg rg2 (aCons (eC (.int 1)) (aCons (eV 1) aNil))) (tName 3) tYesD (eFz (oLc (iSeq (eCall F_allowed_in n (rCons (eV 0) (rCons (eV 1) (rCons (eV 3) rNil))))) (tName 4) tYesD (eCall F_choose n (rCons (eV 0) (rCons (eV 4) rNil))) [4])) [3]))))
  (noxS (sRet (e1 tupD (eFz (oLc (iSeq (eV 2)) (tName 5) tYesD (eCall F_near_zero n (rCons (eV 5) rNil)) [5]))))))))
def F_free_paper : FDX := fun n as => runBX (g_free_paper n) (["size", "names", "rows", "one", "low", "row"] : List Str).length (["size", "names"] : List Str).length as
def g_is_barred (n : Nat) : FS := (sSeq (sDrop (eCall F_require_both n (rCons (eV 0) (rCons (eV 1) rNil))))
  (sRet (eCall F_is_barred_in n (rCons (eV 0) (rCons (eV 1) rNil)))))
def F_is_barred : FD := fun n as => runB (g_is_barred n) (["size", "names"] : List Str).length (["size", "names"] : List Str).length as
def g_is_barred_paper (n : Nat) : FS := (sSeq (sDrop (eCall F_require_both n (rCons (eV 0) (rCons (eV 1) rNil))))
  (sSeq (sIf (tOrD (tNotD (tTr (eB isiD (aCons (eV 2) (aCons (eC (.con (.ty "tuple"))) aNil))))) (tOrD (M.tB (e2 notInD (eB lenD (aCons (eV 2) aNil)) (eTup (aCons (eC (.int 1)) (aCons (eC (.int 3)) aNil))))) (tNotD (tTr (eB isiD (aCons (e2 ixD (eV 2) (eC (.int 0))) (aCons (eC (.con (.ty "str"))) aNil))))))) (sRet (eC (.bl false))) sNx)
  (sSeq (sIf (M.tB (e2 eqS (eB lenD (aCons (eV 2) aNil)) (eC (.int 1)))) (sRet (eAnd (e2 eqS (e2 ixD (eV 2) (eC (.int 0))) (eC (.str "few"))) (e2 ltD (eV 1) (eV 0)))) sNx)
  (sSeq (sIf (tOrD (M.tB (e2 neS (e2 ixD (eV 2) (eC (.int 0))) (eC (.str "group")))) (tOrD (M.tB (e2 ltD (eV 1) (eV 0))) (tNotD (tTr (eCall F_is_between n (rCons (e2 ixD (eV 2) (eC (.int 1))) (rCons (eC (.int 1)) (rCons (e2 subD (eV 1) (eC (.int 1))) rNil)))))))) (sRet (eC (.bl false))) sNx)
  (sSeq (sIf (tOrD (tNotD (tTr (eCall F_is_integer n (rCons (e2 ixD (eV 2) (eC (.int 2))) rNil)))) (M.tB (e2 ltD (e2 ixD (eV 2) (eC (.int 2))) (eC (.int 2))))) (sRet (eC (.bl false))) sNx)
  (sRet (eB allD (aCons (eFz (oLc (iSeq (eCall F_allowed_in n (rCons (eV 0) (rCons (eV 1) (rCons (e2 ixD (eV 2) (eC (.int 1))) rNil))))) (tName 3) tYesD (e2 eqS (e2 modD (eCall F_choose n (rCons (eV 0) (rCons (eV 3) rNil))) (e2 ixD (eV 2) (eC (.int 2)))) (eC (.int 0))) [3])) aNil))))))))
def F_is_barred_paper : FD := fun n as => runB (g_is_barred_paper n) (["size", "names", "value", "low"] : List Str).length (["size", "names", "value"] : List Str).length as
def g_is_free_row (n : Nat) : FS := (sSeq (sIf (tOrD (tNotD (tTr (eB isiD (aCons (eV 2) (aCons (eC (.con (.ty "tuple"))) aNil))))) (tOrD (M.tB (e2 neS (eB lenD (aCons (eV 2) aNil)) (eB lenD (aCons (eV 1) aNil)))) (tNotD (tTr (eB allD (aCons (eFz (oLc (iSeq (eV 2)) (tName 3) tYesD (eCall F_is_integer n (rCons (eV 3) rNil)) [3])) aNil)))))) (sRet (eC (.bl false))) sNx)
  (sRet (e2 eqS (eB sumD (aCons (eFz (oLc (iZp (aCons (eV 2) (aCons (eV 1) aNil))) (tPair 3 4) tYesD (e2 mulD (eV 3) (eCall F_choose n (rCons (eV 0) (rCons (eV 4) rNil)))) [3, 4])) aNil)) (eC (.int 1)))))
def F_is_free_row : FD := fun n as => runB (g_is_free_row n) (["size", "allowed", "value", "one", "low"] : List Str).length (["size", "allowed", "value"] : List Str).length as
def g_is_free_paper (n : Nat) : FS := (sSeq (sDrop (eCall F_require_both n (rCons (eV 0) (rCons (eV 1) rNil))))
  (sSeq (sIf (tOrD (M.tB (e2 ltD (eV 1) (eV 0))) (tOrD (tNotD (tTr (eB isiD (aCons (eV 2) (aCons (eC (.con (.ty "tuple"))) aNil))))) (M.tB (e2 neS (eB lenD (aCons (eV 2) aNil)) (e2 subD (eV 1) (eC (.int 1))))))) (sRet (eC (.bl false))) sNx)
  (sRet (eB allD (aCons (eFz (oLc (iEn (aCons (eV 2) aNil)) (tPair 3 4) tYesD (eCall F_is_free_row n (rCons (eV 0) (rCons (eCall F_allowed_in n (rCons (eV 0) (rCons (eV 1) (rCons (e2 addD (eV 3) (eC (.int 1))) rNil)))) (rCons (eV 4) rNil)))) [3, 4])) aNil)))))
def F_is_free_paper : FD := fun n as => runB (g_is_free_paper n) (["size", "names", "value", "place", "row"] : List Str).length (["size", "names", "value"] : List Str).length as
def g__law_pair_right (n : Nat) : FS := (sSeq (sSet 2 (eCall F__law_barred n (rCons (eV 0) (rCons (eV 1) rNil))))
  (sSeq (sIf (M.tB (e2 neS (eB reprX (aCons (eCall F_is_barred n (rCons (eV 0) (rCons (eV 1) rNil))) aNil)) (eB reprX (aCons (eV 2) aNil)))) (sRet (eC (.bl false))) sNx)
  (sSeq (sSet 3 (eTold ct (eCallX F_barred_paper n (rCons (eV 0) (rCons (eV 1) rNil)))))
  (sSeq (sSet 4 (eTold ct (eCallX F_free_paper n (rCons (eV 0) (rCons (eV 1) rNil)))))
  (sSeq (sIf (tOrD (M.tB (e2 eqS (e2 isND (eV 3) (eC .non)) (eV 2))) (M.tB (e2 neS (e2 isND (eV 4) (eC .non)) (eV 2)))) (sRet (eC (.bl false))) sNx)
  (sSeq (sIf (tTr (eV 2)) (sSeq (sIf (tOrD (tNotD (tTr (eCall F_is_barred_paper n (rCons (eV 0) (rCons (eV 1) (rCons (eV 3) rNil)))))) (tTr (eCall F_is_free_paper n (rCons (eV 0) (rCons (eV 1) (rCons (eV 3) rNil)))))) (sRet (eC (.bl false))) sNx)
  (sSeq (sIf (M.tB (e2 ltD (eV 1) (eV 0))) (sRet (e2 eqS (eV 3) (eTup (aCons (eC (.str "few")) aNil)))) sNx)
  (sSeq (sAsg (tTup [tName 5, tName 6]) (eTup (aCons (e2 ixD (eV 3) (eC (.int 1))) (aCons (e2 ixD (eV 3) (eC (.int 2))) aNil))))
  (sSeq (sIf (tOrD (M.tB (e2 neS (e2 ixD (eV 3) (eC (.int 0))) (eC (.str "group")))) (tOrD (M.tB (e2 ltD (eV 5) (eC (.int 1)))) (tOrD (M.tB (e2 geD (eV 5) (eV 1))) (M.tB (e2 ltD (eV 6) (eC (.int 2))))))) (sRet (eC (.bl false))) sNx)
  (sRet (e2 eqS (eFz (oLc (iSeq (eCall F__law_allowed n (rCons (eV 0) (rCons (eV 1) (rCons (eV 5) rNil))))) (tName 9) (M.tB (e2 neS (e2 modD (eCall F__law_binom n (rCons (eV 0) (rCons (eV 9) rNil))) (eV 6)) (eC (.int 0)))) (eV 9) [9])) (eLst aNil))))))) sNx)
  (sSeq (sIf (tOrD (tNotD (tTr (eCall F_is_free_paper n (rCons (eV 0) (rCons (eV 1) (rCons (eV 4) rNil)))))) (tOrD (tTr (eCall F_is_barred_paper n (rCons (eV 0) (rCons (eV 1) (rCons (eV 4) rNil))))) (M.tB (e2 neS (eB lenD (aCons (eV 4) aNil)) (e2 subD (eV 1) (eC (.int 1))))))) (sRet (eC (.bl false))) sNx)
  (sSeq (sFor (iRg rg2 (aCons (eC (.int 1)) (aCons (eV 1) aNil))) (tName 5) (sSeq (sPar 7 8 (aCons (e2 ixD (eV 4) (e2 subD (eV 5) (eC (.int 1)))) (aCons (eCall F__law_allowed n (rCons (eV 0) (rCons (eV 1) (rCons (eV 5) rNil)))) aNil)))
  (sSeq (sIf (tOrD (M.tB (e2 neS (eB lenD (aCons (eV 7) aNil)) (eB lenD (aCons (eV 8) aNil)))) (M.tB (e2 neS (eFz (oLc (iSeq (eV 7)) (tName 10) (M.tB (e2 geD (eB absD (aCons (eV 10) aNil)) (e2 powD (eC (.int 10)) (eC (.int 40))))) (eV 10) [10])) (eLst aNil)))) (sRet (eC (.bl false))) sNx)
  (sIf (M.tB (e2 neS (eB sumD (aCons (eFz (oLc (iZp (aCons (eV 7) (aCons (eV 8) aNil))) (tPair 10 9) tYesD (e2 mulD (eV 10) (eCall F__law_binom n (rCons (eV 0) (rCons (eV 9) rNil)))) [10, 9])) aNil)) (eC (.int 1)))) (sRet (eC (.bl false))) sNx))))
  (sRet (eC (.bl true)))))))))))
def F__law_pair_right : FD := fun n as => runB (g__law_pair_right n) (["size", "names", "due", "barred", "free", "group", "factor", "row", "marks", "k", "one"] : List Str).length (["size", "names"] : List Str).length as
def g__law_spoon (n : Nat) : FS := (sSeq (sIf (M.tB (e2 gtD (eIxO 0 (eC (.int 0))) (eC (.int 0)))) (sSeq (sSet 5 (e2 modD (eB intD (aCons (eIxO 0 (eC (.int 0))) aNil)) (eV 1)))
  (sSeq (sItO 0 (e2 fdivD (eIxO 0 (eC (.int 0))) (eV 1)) (eC (.int 0)))
  (sRet (eV 5)))) sNx)
  (sSeq (sItO 0 (e2 addD (eIxO 0 (eC (.int 2))) (eC (.int 1))) (eC (.int 2)))
  (sSeq (sSet 2 (e2 modD (eB intD (aCons (e2 addD (eIxO 0 (eC (.int 1))) (e2 mulD (eC (.int 32452843)) (eIxO 0 (eC (.int 2))))) aNil)) (eC (.int 1000000087))))
  (sSeq (sSet 3 (e2 modD (eB intD (aCons (e2 addD (e2 addD (e2 mulD (eV 2) (eV 2)) (e2 fdivD (eIxO 0 (eC (.int 1))) (eC (.int 1000003)))) (e2 mulD (eC (.int 6151)) (eIxO 0 (eC (.int 2))))) aNil)) (eC (.int 998244353))))
  (sSeq (sSet 4 (e2 modD (eB intD (aCons (e2 addD (e2 mulD (eV 3) (eV 3)) (eV 2)) aNil)) (eC (.int 1000000093))))
  (sRet (e2 modD (eB intD (aCons (e2 fdivD (eV 4) (eC (.int 128))) aNil)) (eV 1))))))))
def F__law_spoon : FD := fun n as => runB (g__law_spoon n) (["dish", "total", "one", "two", "three", "found"] : List Str).length (["dish", "total"] : List Str).length as
def g__law_pick_of (n : Nat) : FS := (sRet (e2 ixD (eV 1) (eCall F__law_spoon n (rOwn 0 (rCons (eB lenD (aCons (eV 1) aNil)) rNil)))))
def F__law_pick_of : FD := fun n as => runB (g__law_pick_of n) (["dish", "items"] : List Str).length (["dish", "items"] : List Str).length as
def g_law (n : Nat) : FS := (sSeq (sFor (iRg rg1 (aCons (eB maxD (aCons (eC (.int 1)) (aCons (eB minD (aCons (eC (.int 4)) (aCons (eB lenD (aCons (eV 0) aNil)) aNil))) aNil))) aNil)) (tName 1) (sSeq (sOwn 3 (oCall F__law_dish n (rCons (eV 0) (rCons (eV 1) rNil))))
  (sFor (iRg rg1 (aCons (eC (.int 4)) aNil)) (tName 4) (sSeq (sSet 5 (e2 addD (eC (.int 1)) (eCall F__law_spoon n (rOwn 3 (rCons (eCall F__law_pick_of n (rOwn 3 (rCons (eLst (aCons (eC (.int 6)) (aCons (eC (.int 12)) (aCons (eC (.int 20)) aNil)))) rNil))) rNil)))))
  (sSeq (sOwn 7 (oLst (aCons (eV 5) (aCons (e2 subD (e2 mulD (eC (.int 2)) (eV 5)) (eC (.int 2))) (aCons (e2 subD (e2 mulD (eC (.int 2)) (eV 5)) (eC (.int 1))) (aCons (e2 mulD (eC (.int 2)) (eV 5)) (aCons (e2 addD (eV 5) (eC (.int 1))) (aCons (e2 subD (eV 5) (eC (.int 1))) aNil))))))))
  (sSeq (sApp 7 (e2 subD (e2 subD (e2 mulD (eC (.int 2)) (eV 5)) (eC (.int 1))) (eCall F__law_spoon n (rOwn 3 (rCons (eV 5) rNil)))))
  (sIf (tNotD (tTr (eCall F__law_pair_right n (rCons (eV 5) (rCons (eB maxD (aCons (eC (.int 1)) (aCons (eCall F__law_pick_of n (rOwn 3 (rCons (eFrz 7) rNil))) aNil))) rNil))))) (sRet (eC (.bl false))) sNx)))))))
  (sSeq (sSet 2 (eLst (aCons (eTup (aCons (eC (.int 6)) (aCons (eC (.int 8)) aNil))) (aCons (eTup (aCons (eC (.int 6)) (aCons (eC (.int 9)) aNil))) (aCons (eTup (aCons (eC (.int 6)) (aCons (eC (.int 10)) aNil))) (aCons (eTup (aCons (eC (.int 1)) (aCons (eC (.int 1)) aNil))) (aCons (eTup (aCons (eC (.int 2)) (aCons (eC (.int 1)) aNil))) (aCons (eTup (aCons (eC (.int 2)) (aCons (eC (.int 3)) aNil))) (aCons (eTup (aCons (eC (.int 12)) (aCons (eC (.int 22)) aNil))) (aCons (eTup (aCons (eC (.int 10)) (aCons (eC (.int 18)) aNil))) (aCons (eTup (aCons (eC (.int 30)) (aCons (eC (.int 40)) aNil))) (aCons (eTup (aCons (eC (.int 36)) (aCons (eC (.int 50)) aNil))) aNil))))))))))))
  (sSeq (sSet 2 (e2 addD (eV 2) (eLst (aCons (eTup (aCons (eC (.int 3)) (aCons (eC (.int 50)) aNil))) (aCons (eTup (aCons (eC (.int 5)) (aCons (eC (.int 200)) aNil))) aNil)))))
  (sSeq (sFor (iSeq (eV 2)) (tPair 5 6) (sIf (tNotD (tTr (eCall F__law_pair_right n (rCons (eV 5) (rCons (eV 6) rNil))))) (sRet (eC (.bl false))) sNx))
  (sRet (e2 eqS (eFz (oLc (iSeq (eTup (aCons (eC (.int 2)) (aCons (eC (.int 3)) (aCons (eC (.int 4)) (aCons (eC (.int 5)) (aCons (eC (.int 6)) aNil))))))) (tName 5) tYesD (eCall F_is_barred n (rCons (eV 5) (rCons (e2 subD (e2 mulD (eC (.int 2)) (eV 5)) (eC (.int 2))) rNil))) [5])) (eLst (aCons (eC (.bl true)) (aCons (eC (.bl true)) (aCons (eC (.bl true)) (aCons (eC (.bl true)) (aCons (eC (.bl false)) aNil))))))))))))
def F_law : FD := fun n as => runB (g_law n) (["script", "at", "written", "dish", "turn", "size", "names", "near"] : List Str).length (["script"] : List Str).length as
/-! ### what the top has made -/
structure Fx [Tabs] (K : PySem.W.Frag) (mg : Str → Option Value) (base : Heap) : Prop where
  fc__law_dish : ∃ fd, FunC K "_law_dish" "_law_dish" s__law_dish (He.ga K "_law_dish") fd (.ref (He.codeOf K ("_law_dish", none)))
  m__law_dish : mg "_law_dish" = some (.ref (He.ga K "_law_dish"))
  fc__law_allowed : ∃ fd, FunC K "_law_allowed" "_law_allowed" s__law_allowed (He.ga K "_law_allowed") fd (.ref (He.codeOf K ("_law_allowed", none)))
  m__law_allowed : mg "_law_allowed" = some (.ref (He.ga K "_law_allowed"))
  fc__law_gcd : ∃ fd, FunC K "_law_gcd" "_law_gcd" s__law_gcd (He.ga K "_law_gcd") fd (.ref (He.codeOf K ("_law_gcd", none)))
  m__law_gcd : mg "_law_gcd" = some (.ref (He.ga K "_law_gcd"))
  fc__law_pascal : ∃ fd, FunC K "_law_pascal" "_law_pascal" s__law_pascal (He.ga K "_law_pascal") fd (.ref (He.codeOf K ("_law_pascal", none)))
  m__law_pascal : mg "_law_pascal" = some (.ref (He.ga K "_law_pascal"))
  fc__law_barred : ∃ fd, FunC K "_law_barred" "_law_barred" s__law_barred (He.ga K "_law_barred") fd (.ref (He.codeOf K ("_law_barred", none)))
  m__law_barred : mg "_law_barred" = some (.ref (He.ga K "_law_barred"))
  fc__law_binom : ∃ fd, FunC K "_law_binom" "_law_binom" s__law_binom (He.ga K "_law_binom") fd (.ref (He.codeOf K ("_law_binom", none)))
  m__law_binom : mg "_law_binom" = some (.ref (He.ga K "_law_binom"))
  fc__law_told : ∃ fd, FunC K "_law_told" "_law_told" s__law_told (He.ga K "_law_told") fd (.ref (He.codeOf K ("_law_told", none)))
  m__law_told : mg "_law_told" = some (.ref (He.ga K "_law_told"))
  fc_allowed_in : ∃ fd, FunC K "allowed_in" "allowed_in" s_allowed_in (He.ga K "allowed_in") fd (.ref (He.codeOf K ("allowed_in", none)))
  m_allowed_in : mg "allowed_in" = some (.ref (He.ga K "allowed_in"))
  fc_choose : ∃ fd, FunC K "choose" "choose" s_choose (He.ga K "choose") fd (.ref (He.codeOf K ("choose", none)))
  m_choose : mg "choose" = some (.ref (He.ga K "choose"))
  fc_factor_of : ∃ fd, FunC K "factor_of" "factor_of" s_factor_of (He.ga K "factor_of") fd (.ref (He.codeOf K ("factor_of", none)))
  m_factor_of : mg "factor_of" = some (.ref (He.ga K "factor_of"))
  fc_common_in : ∃ fd, FunC K "common_in" "common_in" s_common_in (He.ga K "common_in") fd (.ref (He.codeOf K ("common_in", none)))
  m_common_in : mg "common_in" = some (.ref (He.ga K "common_in"))
  fc_barring_group : ∃ fd, FunC K "barring_group" "barring_group" s_barring_group (He.ga K "barring_group") fd (.ref (He.codeOf K ("barring_group", none)))
  m_barring_group : mg "barring_group" = some (.ref (He.ga K "barring_group"))
  tb_barring_group : GxR.TabB base mg (He.codeOf K ("barring_group", none)) (He.cT K ("barring_group", none)).2
  tt_barring_group : (He.cT K ("barring_group", none)).2 ∈ Tabs.T
  tl_barring_group : ∀ q, ((He.cT K ("barring_group", none)).2, q) ∉ Tabs.L
  fc_is_integer : ∃ fd, FunC K "is_integer" "is_integer" s_is_integer (He.ga K "is_integer") fd (.ref (He.codeOf K ("is_integer", none)))
  m_is_integer : mg "is_integer" = some (.ref (He.ga K "is_integer"))
  fc_is_between : ∃ fd, FunC K "is_between" "is_between" s_is_between (He.ga K "is_between") fd (.ref (He.codeOf K ("is_between", none)))
  m_is_between : mg "is_between" = some (.ref (He.ga K "is_between"))
  fc_require_number : ∃ fd, FunC K "require_number" "require_number" s_require_number (He.ga K "require_number") fd (.ref (He.codeOf K ("require_number", none)))
  m_require_number : mg "require_number" = some (.ref (He.ga K "require_number"))
  fc_require_both : ∃ fd, FunC K "require_both" "require_both" s_require_both (He.ga K "require_both") fd (.ref (He.codeOf K ("require_both", none)))
  m_require_both : mg "require_both" = some (.ref (He.ga K "require_both"))
  fc_barred_paper : ∃ fd, FunC K "barred_paper" "barred_paper" s_barred_paper (He.ga K "barred_paper") fd (.ref (He.codeOf K ("barred_paper", none)))
  m_barred_paper : mg "barred_paper" = some (.ref (He.ga K "barred_paper"))
  fc_is_barred_in : ∃ fd, FunC K "is_barred_in" "is_barred_in" s_is_barred_in (He.ga K "is_barred_in") fd (.ref (He.codeOf K ("is_barred_in", none)))
  m_is_barred_in : mg "is_barred_in" = some (.ref (He.ga K "is_barred_in"))
  fc_whole_sum : ∃ fd, FunC K "whole_sum" "whole_sum" s_whole_sum (He.ga K "whole_sum") fd (.ref (He.codeOf K ("whole_sum", none)))
  m_whole_sum : mg "whole_sum" = some (.ref (He.ga K "whole_sum"))
  fc_near_zero : ∃ fd, FunC K "near_zero" "near_zero" s_near_zero (He.ga K "near_zero") fd (.ref (He.codeOf K ("near_zero", none)))
  m_near_zero : mg "near_zero" = some (.ref (He.ga K "near_zero"))
  fc_free_paper : ∃ fd, FunC K "free_paper" "free_paper" s_free_paper (He.ga K "free_paper") fd (.ref (He.codeOf K ("free_paper", none)))
  m_free_paper : mg "free_paper" = some (.ref (He.ga K "free_paper"))
  fc_is_barred : ∃ fd, FunC K "is_barred" "is_barred" s_is_barred (He.ga K "is_barred") fd (.ref (He.codeOf K ("is_barred", none)))
  m_is_barred : mg "is_barred" = some (.ref (He.ga K "is_barred"))
  fc_is_barred_paper : ∃ fd, FunC K "is_barred_paper" "is_barred_paper" s_is_barred_paper (He.ga K "is_barred_paper") fd (.ref (He.codeOf K ("is_barred_paper", none)))
  m_is_barred_paper : mg "is_barred_paper" = some (.ref (He.ga K "is_barred_paper"))
  fc_is_free_row : ∃ fd, FunC K "is_free_row" "is_free_row" s_is_free_row (He.ga K "is_free_row") fd (.ref (He.codeOf K ("is_free_row", none)))
  m_is_free_row : mg "is_free_row" = some (.ref (He.ga K "is_free_row"))
  fc_is_free_paper : ∃ fd, FunC K "is_free_paper" "is_free_paper" s_is_free_paper (He.ga K "is_free_paper") fd (.ref (He.codeOf K ("is_free_paper", none)))
  m_is_free_paper : mg "is_free_paper" = some (.ref (He.ga K "is_free_paper"))
  fc__law_pair_right : ∃ fd, FunC K "_law_pair_right" "_law_pair_right" s__law_pair_right (He.ga K "_law_pair_right") fd (.ref (He.codeOf K ("_law_pair_right", none)))
  m__law_pair_right : mg "_law_pair_right" = some (.ref (He.ga K "_law_pair_right"))
  tb__law_pair_right : GxR.TabB base mg (He.codeOf K ("_law_pair_right", none)) (He.cT K ("_law_pair_right", none)).2
  tt__law_pair_right : (He.cT K ("_law_pair_right", none)).2 ∈ Tabs.T
  ll__law_pair_right : ((He.cT K ("_law_pair_right", none)).2, (("_law_pair_right" : Str) ++ Str.ofString ".<locals>.") ++ ("<lambda>" : Str)) ∈ Tabs.L
  lu__law_pair_right : ∀ p ∈ Tabs.L, p.1 = (He.cT K ("_law_pair_right", none)).2 → p.2 = (("_law_pair_right" : Str) ++ Str.ofString ".<locals>.") ++ ("<lambda>" : Str)
  fc__law_spoon : ∃ fd, FunC K "_law_spoon" "_law_spoon" s__law_spoon (He.ga K "_law_spoon") fd (.ref (He.codeOf K ("_law_spoon", none)))
  m__law_spoon : mg "_law_spoon" = some (.ref (He.ga K "_law_spoon"))
  fc__law_pick_of : ∃ fd, FunC K "_law_pick_of" "_law_pick_of" s__law_pick_of (He.ga K "_law_pick_of") fd (.ref (He.codeOf K ("_law_pick_of", none)))
  m__law_pick_of : mg "_law_pick_of" = some (.ref (He.ga K "_law_pick_of"))
  fc_law : ∃ fd, FunC K "law" "law" s_law (He.ga K "law") fd (.ref (He.codeOf K ("law", none)))
  m_law : mg "law" = some (.ref (He.ga K "law"))
  x_InvalidOperation : PySem.W.excIn K (He.ga K "InvalidOperation") He.veBase "ValueError.__new__" = true ∧ PySem.W.keepIn K (.ref (He.ga K "InvalidOperation")) = true ∧ PySem.W.subIn K (.ref (He.ga K "InvalidOperation")) (.type "BaseException") = some true ∧ PySem.W.typeIn K (.ref (He.ga K "InvalidOperation")) = some (.type "type") ∧ mg "InvalidOperation" = some (.ref (He.ga K "InvalidOperation"))
  ct : ∀ c b, ct c = some b → PySem.W.exmOne K (.ref (He.ga K c)) (.ref (He.ga K "InvalidOperation")) = some b
  z_abs : mg "abs" = none
  z_all : mg "all" = none
  z_bool : mg "bool" = none
  z_enumerate : mg "enumerate" = none
  z_int : mg "int" = none
  z_isinstance : mg "isinstance" = none
  z_len : mg "len" = none
  z_list : mg "list" = none
  z_max : mg "max" = none
  z_min : mg "min" = none
  z_next : mg "next" = none
  z_range : mg "range" = none
  z_repr : mg "repr" = none
  z_str : mg "str" = none
  z_sum : mg "sum" = none
  z_tuple : mg "tuple" = none
  z_zip : mg "zip" = none
  i_FEW : ∃ t, mg "FEW" = some (.str "few" t)
  i_GREATEST : ∃ t, mg "GREATEST" = some (.int 1000000000000000000000000000000000000000000000000000000000000 t)
  i_GROUP : ∃ t, mg "GROUP" = some (.str "group" t)
  i_MAX_LIST : ∃ t, mg "MAX_LIST" = some (.int 200 t)
  i_MAX_SIZE : ∃ t, mg "MAX_SIZE" = some (.int 60 t)
/-! ### the walk -/
section
variable [Tabs] {P : Program} {w : World} {K : PySem.W.Frag} {mg : Str → Option Value} {base : Heap}
theorem d__law_dish (h : Fx K mg base) {fa : Addr} (n : Nat) {A : Around} {outer : List Env} {s : Shared} {H : Hp} {E : XK} (hr : Rm 0 (A.deeper (envOfC "_law_dish" (defScope s__law_dish) s.heap.objs.size fa (.ref (He.codeOf K ("_law_dish", none)))))) :
    PSs (bodyX P w K mg base ["script", "at", "cell", "great", "seed"] "_law_dish" (defScope s__law_dish) fa (.ref (He.codeOf K ("_law_dish", none))) A outer s H E) (defBody s__law_dish) (rdS K (g__law_dish n)) :=
  (dss_cons (ds_set 2 (de_if (dt_cmp op_lt od_lt (de_var 1) (de_callB call_len_seq cd_len (by rfl) h.z_len (by decide +kernel) (da_cons (de_var 0) da_nil)) (nomark _)) (de_ix (de_var 0) (de_var 1) (fun _ _ => rfl)) (de_op op_addA od_add (de_op op_mul od_mul de_int (de_var 1)) de_int)) sc__law_dish.nd)
  (dss_cons (ds_set 3 (de_op op_mod od_mod (de_callTy call_int1 cd_int (by rfl) h.z_int (by decide +kernel) (da_cons (de_callB call_abs cd_abs (by rfl) h.z_abs (by decide +kernel) (da_cons (de_var 2) da_nil)) da_nil)) (de_op op_powW od_pow (de_op op_powW od_pow de_int de_int) de_int)) sc__law_dish.nd)
  (dss_cons (ds_set 4 (de_op op_mod od_mod (de_callTy call_int1 cd_int (by rfl) h.z_int (by decide +kernel) (da_cons (de_op op_addA od_add (de_op op_addA od_add (de_op op_addA od_add (de_op op_mul od_mul (de_var 3) de_int) (de_op op_mul od_mul de_int (de_var 1))) (de_callTy call_int1 cd_int (by rfl) h.z_int (by decide +kernel) (da_cons (de_cmp op_lt od_lt (de_var 2) de_int (nomark _)) da_nil))) de_int) da_nil)) (de_op op_addA od_add (de_op op_powW od_pow de_int de_int) de_int)) sc__law_dish.nd)
  (dss_one (ds_retO (do_lst (da_cons (de_if (dt_cmp op_gt od_gt (de_var 3) (de_op op_powW od_pow de_int de_int) (nomark _)) (de_op op_sub od_sub (de_var 3) (de_op op_powW od_pow de_int de_int)) de_int) (da_cons (de_var 4) (da_cons de_int da_nil)))))))))
theorem cl__law_dish (h : Fx K mg base) : Cl P w K mg base 1 "_law_dish" 2 F__law_dish := by
  obtain ⟨fd, F⟩ := h.fc__law_dish
  exact ⟨⟨_, fd, ["script", "at"], dfn_ok (g := g__law_dish) F sc__law_dish (fun n A outer s H E hr => d__law_dish h n hr), h.m__law_dish, F.kp, F.binds (fun _ _ _ _ _ _ us hl => match us, hl with | [_, _], _ => rfl)⟩, fun n as s as' e => runB_len e⟩
theorem d__law_allowed (h : Fx K mg base) {fa : Addr} (n : Nat) {A : Around} {outer : List Env} {s : Shared} {H : Hp} {E : XK} (hr : Rm 0 (A.deeper (envOfC "_law_allowed" (defScope s__law_allowed) s.heap.objs.size fa (.ref (He.codeOf K ("_law_allowed", none)))))) :
    PSs (bodyX P w K mg base ["size", "names", "group"] "_law_allowed" (defScope s__law_allowed) fa (.ref (He.codeOf K ("_law_allowed", none))) A outer s H E) (defBody s__law_allowed) (rdS K (g__law_allowed n)) :=
  (dss_one (ds_ret (de_lstRg2 (de_callB (call_max2 rfl) cd_max (by rfl) h.z_max (by decide +kernel) (da_cons de_int (da_cons (de_op op_addA od_add (de_op op_sub od_sub (de_var 0) (de_var 1)) (de_var 2)) da_nil))) (de_op op_addA od_add (de_callB (call_min2 rfl) cd_min (by rfl) h.z_min (by decide +kernel) (da_cons (de_var 0) (da_cons (de_var 2) da_nil))) de_int) rfl (by rfl) h.z_list (by rfl) h.z_range)))
theorem cl__law_allowed (h : Fx K mg base) : Cl P w K mg base 1 "_law_allowed" 3 F__law_allowed := by
  obtain ⟨fd, F⟩ := h.fc__law_allowed
  exact ⟨⟨_, fd, ["size", "names", "group"], dfn_ok (g := g__law_allowed) F sc__law_allowed (fun n A outer s H E hr => d__law_allowed h n hr), h.m__law_allowed, F.kp, F.binds (fun _ _ _ _ _ _ us hl => match us, hl with | [_, _, _], _ => rfl)⟩, fun n as s as' e => runB_len e⟩
theorem d__law_gcd (h : Fx K mg base) {fa : Addr} (n : Nat) {A : Around} {outer : List Env} {s : Shared} {H : Hp} {E : XK} (hr : Rm 0 (A.deeper (envOfC "_law_gcd" (defScope s__law_gcd) s.heap.objs.size fa (.ref (He.codeOf K ("_law_gcd", none)))))) :
    PSs (bodyX P w K mg base ["numbers", "found", "number", "one", "other"] "_law_gcd" (defScope s__law_gcd) fa (.ref (He.codeOf K ("_law_gcd", none))) A outer s H E) (defBody s__law_gcd) (rdS K (g__law_gcd n)) :=
  (dss_cons (ds_set 1 de_int sc__law_gcd.nd)
  (dss_cons (ds_for PassesOwn.never rfl (di_seq (de_var 0)) (dg_name (is := [2]) 2 (by decide) sc__law_gcd.nd) (dss_cons (ds_par 3 4 (da_cons (de_var 1) (da_cons (de_var 2) da_nil)) rfl sc__law_gcd.nd)
  (dss_cons (ds_while n PassesOwn.never (dt_cmp op_gt od_gt (de_var 4) de_int (nomark _)) (dss_one (ds_par 3 4 (da_cons (de_var 4) (da_cons (de_op op_mod od_mod (de_var 3) (de_var 4)) da_nil)) rfl sc__law_gcd.nd)))
  (dss_one (ds_set 1 (de_var 3) sc__law_gcd.nd)))))
  (dss_one (ds_ret (de_var 1)))))
theorem cl__law_gcd (h : Fx K mg base) : Cl P w K mg base 1 "_law_gcd" 1 F__law_gcd := by
  obtain ⟨fd, F⟩ := h.fc__law_gcd
  exact ⟨⟨_, fd, ["numbers"], dfn_ok (g := g__law_gcd) F sc__law_gcd (fun n A outer s H E hr => d__law_gcd h n hr), h.m__law_gcd, F.kp, F.binds (fun _ _ _ _ _ _ us hl => match us, hl with | [_], _ => rfl)⟩, fun n as s as' e => runB_len e⟩
theorem d__law_pascal (h : Fx K mg base) {fa : Addr} (n : Nat) {A : Around} {outer : List Env} {s : Shared} {H : Hp} {E : XK} (hr : Rm 0 (A.deeper (envOfC "_law_pascal" (defScope s__law_pascal) s.heap.objs.size fa (.ref (He.codeOf K ("_law_pascal", none)))))) :
    PSs (bodyX P w K mg base ["top", "row", "turn", "at"] "_law_pascal" (defScope s__law_pascal) fa (.ref (He.codeOf K ("_law_pascal", none))) A outer s H E) (defBody s__law_pascal) (rdS K (g__law_pascal n)) :=
  (dss_cons (ds_set 1 (de_lst (da_cons de_int da_nil)) sc__law_pascal.nd)
  (dss_cons (ds_for PassesOwn.never rfl (di_range1 (by rfl) h.z_range (da_cons (de_var 0) da_nil)) (dg_name (is := [2]) 2 (by decide) sc__law_pascal.nd) (dss_one (ds_set 1 (de_op op_addA od_add (de_op op_addA od_add (de_lst (da_cons de_int da_nil)) (de_ofO (do_lc (own := [("at", 3)]) rfl sc__law_pascal.nd (di_range1 (by rfl) h.z_range (da_cons (de_op op_sub od_sub (de_callB call_len_seq cd_len (by rfl) h.z_len (by decide +kernel) (da_cons (de_var 1) da_nil)) de_int) da_nil)) (blkOk_by (N := ["top", "row", "turn", "at"]) (sc := defScope s__law_pascal) (by decide +kernel)) (by decide) (fun _ _ _ _ _ => (dg_name (is := [3]) 3 (by decide) sc__law_pascal.nd)) (fun _ _ _ _ _ => dts_nil) (fun _ _ _ _ _ => (de_op op_addA od_add (de_ix (de_var 1) (de_var 3) (fun _ _ => rfl)) (de_ix (de_var 1) (de_op op_addA od_add (de_var 3) de_int) (fun _ _ => rfl))))))) (de_lst (da_cons de_int da_nil))) sc__law_pascal.nd)))
  (dss_one (ds_ret (de_var 1)))))
theorem cl__law_pascal (h : Fx K mg base) : Cl P w K mg base 1 "_law_pascal" 1 F__law_pascal := by
  obtain ⟨fd, F⟩ := h.fc__law_pascal
  exact ⟨⟨_, fd, ["top"], dfn_ok (g := g__law_pascal) F sc__law_pascal (fun n A outer s H E hr => d__law_pascal h n hr), h.m__law_pascal, F.kp, F.binds (fun _ _ _ _ _ _ us hl => match us, hl with | [_], _ => rfl)⟩, fun n as s as' e => runB_len e⟩
theorem d__law_barred (h : Fx K mg base) {fa : Addr} (n : Nat) {A : Around} {outer : List Env} {s : Shared} {H : Hp} {E : XK} (hr : Rm 1 (A.deeper (envOfC "_law_barred" (defScope s__law_barred) s.heap.objs.size fa (.ref (He.codeOf K ("_law_barred", none)))))) :
    PSs (bodyX P w K mg base ["size", "names", "row", "group", "k"] "_law_barred" (defScope s__law_barred) fa (.ref (He.codeOf K ("_law_barred", none))) A outer s H E) (defBody s__law_barred) (rdS K (g__law_barred n)) :=
  (dss_cons (ds_if (dt_cmp op_lt od_lt (de_var 1) (de_var 0) (nomark _)) (dss_one (ds_ret de_bl)) dss_nil)
  (dss_cons (ds_set 2 (de_call n (cl__law_pascal h) hr (by decide) (by rfl) (dr_cons (de_var 0) dr_nil)) sc__law_barred.nd)
  (dss_cons (ds_for PassesOwn.never rfl (di_range2 (by rfl) h.z_range (da_cons de_int (da_cons (de_var 1) da_nil))) (dg_name (is := [3]) 3 (by decide) sc__law_barred.nd) (dss_one (ds_if (dt_cmp op_gt od_gt (de_call n (cl__law_gcd h) hr (by decide) (by rfl) (dr_cons (de_ofO (do_lc (own := [("k", 4)]) rfl sc__law_barred.nd (di_seq (de_call n (cl__law_allowed h) hr (by decide) (by rfl) (dr_cons (de_var 0) (dr_cons (de_var 1) (dr_cons (de_var 3) dr_nil))))) (blkOk_by (N := ["size", "names", "row", "group", "k"]) (sc := defScope s__law_barred) (by decide +kernel)) (by decide) (fun _ _ _ _ _ => (dg_name (is := [4]) 4 (by decide) sc__law_barred.nd)) (fun _ _ _ _ _ => dts_nil) (fun _ _ _ _ _ => (de_ix (de_var 2) (de_var 4) (fun _ _ => rfl))))) dr_nil)) de_int (nomark _)) (dss_one (ds_ret de_bl)) dss_nil)))
  (dss_one (ds_ret de_bl)))))
theorem cl__law_barred (h : Fx K mg base) : Cl P w K mg base 2 "_law_barred" 2 F__law_barred := by
  obtain ⟨fd, F⟩ := h.fc__law_barred
  exact ⟨⟨_, fd, ["size", "names"], dfn_ok (g := g__law_barred) F sc__law_barred (fun n A outer s H E hr => d__law_barred h n hr), h.m__law_barred, F.kp, F.binds (fun _ _ _ _ _ _ us hl => match us, hl with | [_, _], _ => rfl)⟩, fun n as s as' e => runB_len e⟩
theorem d__law_binom (h : Fx K mg base) {fa : Addr} (n : Nat) {A : Around} {outer : List Env} {s : Shared} {H : Hp} {E : XK} (hr : Rm 1 (A.deeper (envOfC "_law_binom" (defScope s__law_binom) s.heap.objs.size fa (.ref (He.codeOf K ("_law_binom", none)))))) :
    PSs (bodyX P w K mg base ["top", "low", "row"] "_law_binom" (defScope s__law_binom) fa (.ref (He.codeOf K ("_law_binom", none))) A outer s H E) (defBody s__law_binom) (rdS K (g__law_binom n)) :=
  (dss_cons (ds_set 2 (de_call n (cl__law_pascal h) hr (by decide) (by rfl) (dr_cons (de_var 0) dr_nil)) sc__law_binom.nd)
  (dss_one (ds_ret (de_if (dt_inRg (de_var 1) (by rfl) h.z_range (da_cons (de_op op_addA od_add (de_var 0) de_int) da_nil) (by rfl)) (de_ix (de_var 2) (de_var 1) (fun _ _ => rfl)) de_int))))
theorem cl__law_binom (h : Fx K mg base) : Cl P w K mg base 2 "_law_binom" 2 F__law_binom := by
  obtain ⟨fd, F⟩ := h.fc__law_binom
  exact ⟨⟨_, fd, ["top", "low"], dfn_ok (g := g__law_binom) F sc__law_binom (fun n A outer s H E hr => d__law_binom h n hr), h.m__law_binom, F.kp, F.binds (fun _ _ _ _ _ _ us hl => match us, hl with | [_, _], _ => rfl)⟩, fun n as s as' e => runB_len e⟩
theorem d_allowed_in (h : Fx K mg base) {fa : Addr} (n : Nat) {A : Around} {outer : List Env} {s : Shared} {H : Hp} {E : XK} (hr : Rm 0 (A.deeper (envOfC "allowed_in" (defScope s_allowed_in) s.heap.objs.size fa (.ref (He.codeOf K ("allowed_in", none)))))) :
    PSs (bodyX P w K mg base ["size", "names", "group_size"] "allowed_in" (defScope s_allowed_in) fa (.ref (He.codeOf K ("allowed_in", none))) A outer s H E) (defBody s_allowed_in) (rdS K (g_allowed_in n)) :=
  (dss_one (ds_ret (de_tupRg2 (de_callB (call_max2 rfl) cd_max (by rfl) h.z_max (by decide +kernel) (da_cons de_int (da_cons (de_op op_addA od_add (de_op op_sub od_sub (de_var 0) (de_var 1)) (de_var 2)) da_nil))) (de_op op_addA od_add (de_callB (call_min2 rfl) cd_min (by rfl) h.z_min (by decide +kernel) (da_cons (de_var 0) (da_cons (de_var 2) da_nil))) de_int) rfl (by rfl) h.z_tuple (by rfl) h.z_range)))
theorem cl_allowed_in (h : Fx K mg base) : Cl P w K mg base 1 "allowed_in" 3 F_allowed_in := by
  obtain ⟨fd, F⟩ := h.fc_allowed_in
  exact ⟨⟨_, fd, ["size", "names", "group_size"], dfn_ok (g := g_allowed_in) F sc_allowed_in (fun n A outer s H E hr => d_allowed_in h n hr), h.m_allowed_in, F.kp, F.binds (fun _ _ _ _ _ _ us hl => match us, hl with | [_, _, _], _ => rfl)⟩, fun n as s as' e => runB_len e⟩
theorem d_choose (h : Fx K mg base) {fa : Addr} (n : Nat) {A : Around} {outer : List Env} {s : Shared} {H : Hp} {E : XK} (hr : Rm 0 (A.deeper (envOfC "choose" (defScope s_choose) s.heap.objs.size fa (.ref (He.codeOf K ("choose", none)))))) :
    PSs (bodyX P w K mg base ["top", "low", "found", "step"] "choose" (defScope s_choose) fa (.ref (He.codeOf K ("choose", none))) A outer s H E) (defBody s_choose) (rdS K (g_choose n)) :=
  (dss_cons (ds_set 2 de_int sc_choose.nd)
  (dss_cons (ds_for PassesOwn.never rfl (di_range1 (by rfl) h.z_range (da_cons (de_var 1) da_nil)) (dg_name (is := [3]) 3 (by decide) sc_choose.nd) (dss_one (ds_set 2 (de_op op_fdivW od_fdiv (de_op op_mul od_mul (de_var 2) (de_op op_sub od_sub (de_var 0) (de_var 3))) (de_op op_addA od_add (de_var 3) de_int)) sc_choose.nd)))
  (dss_one (ds_ret (de_var 2)))))
theorem cl_choose (h : Fx K mg base) : Cl P w K mg base 1 "choose" 2 F_choose := by
  obtain ⟨fd, F⟩ := h.fc_choose
  exact ⟨⟨_, fd, ["top", "low"], dfn_ok (g := g_choose) F sc_choose (fun n A outer s H E hr => d_choose h n hr), h.m_choose, F.kp, F.binds (fun _ _ _ _ _ _ us hl => match us, hl with | [_, _], _ => rfl)⟩, fun n as s as' e => runB_len e⟩
theorem d_factor_of (h : Fx K mg base) {fa : Addr} (n : Nat) {A : Around} {outer : List Env} {s : Shared} {H : Hp} {E : XK} (hr : Rm 0 (A.deeper (envOfC "factor_of" (defScope s_factor_of) s.heap.objs.size fa (.ref (He.codeOf K ("factor_of", none)))))) :
    PSs (bodyX P w K mg base ["one", "other"] "factor_of" (defScope s_factor_of) fa (.ref (He.codeOf K ("factor_of", none))) A outer s H E) (defBody s_factor_of) (rdS K (g_factor_of n)) :=
  (dss_cons (ds_while n PassesOwn.never (dt_cmp op_gt od_gt (de_var 1) de_int (nomark _)) (dss_one (ds_par 0 1 (da_cons (de_var 1) (da_cons (de_op op_mod od_mod (de_var 0) (de_var 1)) da_nil)) rfl sc_factor_of.nd)))
  (dss_one (ds_ret (de_var 0))))
theorem cl_factor_of (h : Fx K mg base) : Cl P w K mg base 1 "factor_of" 2 F_factor_of := by
  obtain ⟨fd, F⟩ := h.fc_factor_of
  exact ⟨⟨_, fd, ["one", "other"], dfn_ok (g := g_factor_of) F sc_factor_of (fun n A outer s H E hr => d_factor_of h n hr), h.m_factor_of, F.kp, F.binds (fun _ _ _ _ _ _ us hl => match us, hl with | [_, _], _ => rfl)⟩, fun n as s as' e => runB_len e⟩
theorem d_common_in (h : Fx K mg base) {fa : Addr} (n : Nat) {A : Around} {outer : List Env} {s : Shared} {H : Hp} {E : XK} (hr : Rm 1 (A.deeper (envOfC "common_in" (defScope s_common_in) s.heap.objs.size fa (.ref (He.codeOf K ("common_in", none)))))) :
    PSs (bodyX P w K mg base ["size", "numbers", "found", "low"] "common_in" (defScope s_common_in) fa (.ref (He.codeOf K ("common_in", none))) A outer s H E) (defBody s_common_in) (rdS K (g_common_in n)) :=
  (dss_cons (ds_set 2 de_int sc_common_in.nd)
  (dss_cons (ds_for PassesOwn.never rfl (di_seq (de_var 1)) (dg_name (is := [3]) 3 (by decide) sc_common_in.nd) (dss_one (ds_set 2 (de_call n (cl_factor_of h) hr (by decide) (by rfl) (dr_cons (de_call n (cl_choose h) hr (by decide) (by rfl) (dr_cons (de_var 0) (dr_cons (de_var 3) dr_nil))) (dr_cons (de_var 2) dr_nil))) sc_common_in.nd)))
  (dss_one (ds_ret (de_var 2)))))
theorem cl_common_in (h : Fx K mg base) : Cl P w K mg base 2 "common_in" 2 F_common_in := by
  obtain ⟨fd, F⟩ := h.fc_common_in
  exact ⟨⟨_, fd, ["size", "numbers"], dfn_ok (g := g_common_in) F sc_common_in (fun n A outer s H E hr => d_common_in h n hr), h.m_common_in, F.kp, F.binds (fun _ _ _ _ _ _ us hl => match us, hl with | [_, _], _ => rfl)⟩, fun n as s as' e => runB_len e⟩
theorem d_barring_group (h : Fx K mg base) {fa : Addr} (n : Nat) {A : Around} {outer : List Env} {s : Shared} {H : Hp} {E : XK} (hr : Rm 3 (A.deeper (envOfC "barring_group" (defScope s_barring_group) s.heap.objs.size fa (.ref (He.codeOf K ("barring_group", none)))))) :
    PSs (bodyX P w K mg base ["size", "names", "one"] "barring_group" (defScope s_barring_group) fa (.ref (He.codeOf K ("barring_group", none))) A outer s H E) (defBody s_barring_group) (rdS K (g_barring_group n)) :=
  (dss_one (ds_ret (de_next (own := [("one", 2)]) (k := 2) hr rfl sc_barring_group.nd (by rfl) h.z_next h.tb_barring_group h.tt_barring_group h.tl_barring_group rfl (di_range2 (by rfl) h.z_range (da_cons de_int (da_cons (de_var 1) da_nil))) (blkOk_by (N := ["size", "names", "one"]) (sc := defScope s_barring_group) (by decide +kernel)) (by decide) dfl_none (fun _ _ _ _ _ _ _ _ => (dg_name (is := [2]) 2 (by decide) sc_barring_group.nd)) (fun _ _ _ _ _ _ _ _ hr2 => (dts_one (dt_cmp op_gt od_gt (de_call n (cl_common_in h) hr2 (by decide) (by rfl) (dr_cons (de_var 0) (dr_cons (de_call n (cl_allowed_in h) hr2 (by decide) (by rfl) (dr_cons (de_var 0) (dr_cons (de_var 1) (dr_cons (de_var 2) dr_nil)))) dr_nil))) de_int (nomark _)))) (fun _ _ _ _ _ _ _ _ hr2 => (de_var 2)))))
theorem cl_barring_group (h : Fx K mg base) : Cl P w K mg base 4 "barring_group" 2 F_barring_group := by
  obtain ⟨fd, F⟩ := h.fc_barring_group
  exact ⟨⟨_, fd, ["size", "names"], dfn_ok (g := g_barring_group) F sc_barring_group (fun n A outer s H E hr => d_barring_group h n hr), h.m_barring_group, F.kp, F.binds (fun _ _ _ _ _ _ us hl => match us, hl with | [_, _], _ => rfl)⟩, fun n as s as' e => runB_len e⟩
theorem d_is_integer (h : Fx K mg base) {fa : Addr} (n : Nat) {A : Around} {outer : List Env} {s : Shared} {H : Hp} {E : XK} (hr : Rm 0 (A.deeper (envOfC "is_integer" (defScope s_is_integer) s.heap.objs.size fa (.ref (He.codeOf K ("is_integer", none)))))) :
    PSs (bodyX P w K mg base ["value"] "is_integer" (defScope s_is_integer) fa (.ref (He.codeOf K ("is_integer", none))) A outer s H E) (defBody s_is_integer) (rdS K (g_is_integer n)) :=
  (dss_one (ds_ret (de_and (de_callB call_isi cd_isi (by rfl) h.z_isinstance (by decide +kernel) (da_cons (de_var 0) (da_cons (de_ty (by rfl) h.z_int (by decide +kernel)) da_nil))) (de_and (de_not (de_callB call_isi cd_isi (by rfl) h.z_isinstance (by decide +kernel) (da_cons (de_var 0) (da_cons (de_ty (by rfl) h.z_bool (by decide +kernel)) da_nil)))) (de_one (de_chain op_lt od_lt op_lt od_lt (de_un un_neg ud_neg (de_gint (by rfl) h.i_GREATEST)) (de_var 0) (de_gint (by rfl) h.i_GREATEST)))))))
theorem cl_is_integer (h : Fx K mg base) : Cl P w K mg base 1 "is_integer" 1 F_is_integer := by
  obtain ⟨fd, F⟩ := h.fc_is_integer
  exact ⟨⟨_, fd, ["value"], dfn_ok (g := g_is_integer) F sc_is_integer (fun n A outer s H E hr => d_is_integer h n hr), h.m_is_integer, F.kp, F.binds (fun _ _ _ _ _ _ us hl => match us, hl with | [_], _ => rfl)⟩, fun n as s as' e => runB_len e⟩
theorem d_is_between (h : Fx K mg base) {fa : Addr} (n : Nat) {A : Around} {outer : List Env} {s : Shared} {H : Hp} {E : XK} (hr : Rm 1 (A.deeper (envOfC "is_between" (defScope s_is_between) s.heap.objs.size fa (.ref (He.codeOf K ("is_between", none)))))) :
    PSs (bodyX P w K mg base ["value", "low", "high"] "is_between" (defScope s_is_between) fa (.ref (He.codeOf K ("is_between", none))) A outer s H E) (defBody s_is_between) (rdS K (g_is_between n)) :=
  (dss_one (ds_ret (de_and (de_call n (cl_is_integer h) hr (by decide) (by rfl) (dr_cons (de_var 0) dr_nil)) (de_one (de_chain op_le od_le op_le od_le (de_var 1) (de_var 0) (de_var 2))))))
theorem cl_is_between (h : Fx K mg base) : Cl P w K mg base 2 "is_between" 3 F_is_between := by
  obtain ⟨fd, F⟩ := h.fc_is_between
  exact ⟨⟨_, fd, ["value", "low", "high"], dfn_ok (g := g_is_between) F sc_is_between (fun n A outer s H E hr => d_is_between h n hr), h.m_is_between, F.kp, F.binds (fun _ _ _ _ _ _ us hl => match us, hl with | [_, _, _], _ => rfl)⟩, fun n as s as' e => runB_len e⟩
theorem d_require_number (h : Fx K mg base) {fa : Addr} (n : Nat) {A : Around} {outer : List Env} {s : Shared} {H : Hp} {E : XK} (hr : Rm 2 (A.deeper (envOfC "require_number" (defScope s_require_number) s.heap.objs.size fa (.ref (He.codeOf K ("require_number", none)))))) :
    PSs (bodyX P w K mg base ["value", "low", "high"] "require_number" (defScope s_require_number) fa (.ref (He.codeOf K ("require_number", none))) A outer s H E) (defBody s_require_number) (rdS K (g_require_number n)) :=
  (dss_one (ds_if (dt_not (dt_truth (de_call n (cl_is_between h) hr (by decide) (by rfl) (dr_cons (de_var 0) (dr_cons (de_var 1) (dr_cons (de_var 2) dr_nil)))))) (dss_one ds_never) dss_nil))
theorem cl_require_number (h : Fx K mg base) : Cl P w K mg base 3 "require_number" 3 F_require_number := by
  obtain ⟨fd, F⟩ := h.fc_require_number
  exact ⟨⟨_, fd, ["value", "low", "high"], dfn_ok (g := g_require_number) F sc_require_number (fun n A outer s H E hr => d_require_number h n hr), h.m_require_number, F.kp, F.binds (fun _ _ _ _ _ _ us hl => match us, hl with | [_, _, _], _ => rfl)⟩, fun n as s as' e => runB_len e⟩
theorem d_require_both (h : Fx K mg base) {fa : Addr} (n : Nat) {A : Around} {outer : List Env} {s : Shared} {H : Hp} {E : XK} (hr : Rm 3 (A.deeper (envOfC "require_both" (defScope s_require_both) s.heap.objs.size fa (.ref (He.codeOf K ("require_both", none)))))) :
    PSs (bodyX P w K mg base ["size", "names"] "require_both" (defScope s_require_both) fa (.ref (He.codeOf K ("require_both", none))) A outer s H E) (defBody s_require_both) (rdS K (g_require_both n)) :=
  (dss_cons (ds_expr (de_call n (cl_require_number h) hr (by decide) (by rfl) (dr_cons (de_var 0) (dr_cons de_int (dr_cons (de_gint (by rfl) h.i_MAX_SIZE) dr_nil)))))
  (dss_one (ds_expr (de_call n (cl_require_number h) hr (by decide) (by rfl) (dr_cons (de_var 1) (dr_cons de_int (dr_cons (de_gint (by rfl) h.i_MAX_LIST) dr_nil)))))))
theorem cl_require_both (h : Fx K mg base) : Cl P w K mg base 4 "require_both" 2 F_require_both := by
  obtain ⟨fd, F⟩ := h.fc_require_both
  exact ⟨⟨_, fd, ["size", "names"], dfn_ok (g := g_require_both) F sc_require_both (fun n A outer s H E hr => d_require_both h n hr), h.m_require_both, F.kp, F.binds (fun _ _ _ _ _ _ us hl => match us, hl with | [_, _], _ => rfl)⟩, fun n as s as' e => runB_len e⟩
theorem d_barred_paper (h : Fx K mg base) {fa : Addr} (n : Nat) {A : Around} {outer : List Env} {s : Shared} {H : Hp} {E : XK} (hr : Rm 4 (A.deeper (envOfC "barred_paper" (defScope s_barred_paper) s.heap.objs.size fa (.ref (He.codeOf K ("barred_paper", none)))))) :
    PSs (bodyXX P w K mg base ["size", "names", "group_size"] "barred_paper" (defScope s_barred_paper) fa (.ref (He.codeOf K ("barred_paper", none))) A outer s H E) (defBody s_barred_paper) (rdSX K (fun cls d _ H => E cls d H) (g_barred_paper n)) :=
  (dssx_cons (dsx_of (ds_expr (de_call n (cl_require_both h) hr (by decide) (by rfl) (dr_cons (de_var 0) (dr_cons (de_var 1) dr_nil)))))
  (dssx_cons (dsx_of (ds_if (dt_cmp op_lt od_lt (de_var 1) (de_var 0) (nomark _)) (dss_one (ds_ret (de_tup (da_cons (de_gstr (by rfl) h.i_FEW) da_nil)))) dss_nil))
  (dssx_cons (dsx_of (ds_set 2 (de_call n (cl_barring_group h) hr (by decide) (by rfl) (dr_cons (de_var 0) (dr_cons (de_var 1) dr_nil))) sc_barred_paper.nd))
  (dssx_cons (dsx_if (dt_cmp op_isN od_isN (de_var 2) de_non (nomark _)) (dssx_one (dsx_raise F.excBase_ValueError h.x_InvalidOperation.1 h.x_InvalidOperation.2.2.2.2 h.x_InvalidOperation.2.1 (raises_own h.x_InvalidOperation.2.2.1 h.x_InvalidOperation.2.2.2.1) rfl takesX (by rfl))) dssx_nil)
  (dssx_one (dsx_of (ds_ret (de_tup (da_cons (de_gstr (by rfl) h.i_GROUP) (da_cons (de_var 2) (da_cons (de_call n (cl_common_in h) hr (by decide) (by rfl) (dr_cons (de_var 0) (dr_cons (de_call n (cl_allowed_in h) hr (by decide) (by rfl) (dr_cons (de_var 0) (dr_cons (de_var 1) (dr_cons (de_var 2) dr_nil)))) dr_nil))) da_nil)))))))))))
theorem cl_barred_paper (h : Fx K mg base) : ClX P w K mg base 5 "barred_paper" 2 F_barred_paper := by
  obtain ⟨fd, F⟩ := h.fc_barred_paper
  exact ⟨⟨_, fd, ["size", "names"], dfnX_ok (g := g_barred_paper) F sc_barred_paper (fun n A outer s H E hr => d_barred_paper h n hr), h.m_barred_paper, F.kp, F.binds (fun _ _ _ _ _ _ us hl => match us, hl with | [_, _], _ => rfl)⟩, fun n as s as' e => runBX_len e⟩
theorem d_is_barred_in (h : Fx K mg base) {fa : Addr} (n : Nat) {A : Around} {outer : List Env} {s : Shared} {H : Hp} {E : XK} (hr : Rm 4 (A.deeper (envOfC "is_barred_in" (defScope s_is_barred_in) s.heap.objs.size fa (.ref (He.codeOf K ("is_barred_in", none)))))) :
    PSs (bodyX P w K mg base ["size", "names"] "is_barred_in" (defScope s_is_barred_in) fa (.ref (He.codeOf K ("is_barred_in", none))) A outer s H E) (defBody s_is_barred_in) (rdS K (g_is_barred_in n)) :=
  (dss_one (ds_ret (de_or (de_cmp op_lt od_lt (de_var 1) (de_var 0) (nomark _)) (de_one (de_cmp op_notN od_notN (de_call n (cl_barring_group h) hr (by decide) (by rfl) (dr_cons (de_var 0) (dr_cons (de_var 1) dr_nil))) de_non (nomark _))))))
theorem cl_is_barred_in (h : Fx K mg base) : Cl P w K mg base 5 "is_barred_in" 2 F_is_barred_in := by
  obtain ⟨fd, F⟩ := h.fc_is_barred_in
  exact ⟨⟨_, fd, ["size", "names"], dfn_ok (g := g_is_barred_in) F sc_is_barred_in (fun n A outer s H E hr => d_is_barred_in h n hr), h.m_is_barred_in, F.kp, F.binds (fun _ _ _ _ _ _ us hl => match us, hl with | [_, _], _ => rfl)⟩, fun n as s as' e => runB_len e⟩
theorem d_whole_sum (h : Fx K mg base) {fa : Addr} (n : Nat) {A : Around} {outer : List Env} {s : Shared} {H : Hp} {E : XK} (hr : Rm 0 (A.deeper (envOfC "whole_sum" (defScope s_whole_sum) s.heap.objs.size fa (.ref (He.codeOf K ("whole_sum", none)))))) :
    PSs (bodyX P w K mg base ["numbers", "number", "row", "found", "one", "other", "left", "right", "ahead", "behind", "times", "part"] "whole_sum" (defScope s_whole_sum) fa (.ref (He.codeOf K ("whole_sum", none))) A outer s H E) (defBody s_whole_sum) (rdS K (g_whole_sum n)) :=
  (dss_cons (ds_par 2 3 (da_cons (de_lst (da_cons de_int da_nil)) (da_cons (de_ix (de_var 0) de_int (fun _ _ => rfl)) da_nil)) rfl sc_whole_sum.nd)
  (dss_cons (ds_for PassesOwn.never rfl (di_seq (de_slice (de_var 0) (dp_some de_int) dp_none)) (dg_name (is := [1]) 1 (by decide) sc_whole_sum.nd) (dss_cons (ds_asg (de_tup (da_cons de_int (da_cons de_int (da_cons (de_var 3) (da_cons (de_var 1) da_nil))))) (dg_tup rfl (dgs_cons (dg_name (is := [4, 5, 6, 7]) 4 (by decide) sc_whole_sum.nd) (dgs_cons (dg_name (is := [4, 5, 6, 7]) 5 (by decide) sc_whole_sum.nd) (dgs_cons (dg_name (is := [4, 5, 6, 7]) 6 (by decide) sc_whole_sum.nd) (dgs_cons (dg_name (is := [4, 5, 6, 7]) 7 (by decide) sc_whole_sum.nd) dgs_nil))))))
  (dss_cons (ds_asg (de_tup (da_cons de_int (da_cons de_int da_nil))) (dg_tup rfl (dgs_cons (dg_name (is := [8, 9]) 8 (by decide) sc_whole_sum.nd) (dgs_cons (dg_name (is := [8, 9]) 9 (by decide) sc_whole_sum.nd) dgs_nil))))
  (dss_cons (ds_while n PassesOwn.never (dt_cmp (op_neS (hu64 hr)) od_neS (de_var 7) de_int (nomark _)) (dss_cons (ds_set 10 (de_op op_fdivW od_fdiv (de_var 6) (de_var 7)) sc_whole_sum.nd)
  (dss_cons (ds_par 6 7 (da_cons (de_var 7) (da_cons (de_op op_sub od_sub (de_var 6) (de_op op_mul od_mul (de_var 10) (de_var 7))) da_nil)) rfl sc_whole_sum.nd)
  (dss_cons (ds_asg (de_tup (da_cons (de_var 8) (da_cons (de_op op_sub od_sub (de_var 4) (de_op op_mul od_mul (de_var 10) (de_var 8))) da_nil))) (dg_tup rfl (dgs_cons (dg_name (is := [4, 8]) 4 (by decide) sc_whole_sum.nd) (dgs_cons (dg_name (is := [4, 8]) 8 (by decide) sc_whole_sum.nd) dgs_nil))))
  (dss_one (ds_par 5 9 (da_cons (de_var 9) (da_cons (de_op op_sub od_sub (de_var 5) (de_op op_mul od_mul (de_var 10) (de_var 9))) da_nil)) rfl sc_whole_sum.nd))))))
  (dss_cons (ds_set 2 (de_lst (da_star (de_ofO (do_lc (own := [("part", 11)]) rfl sc_whole_sum.nd (di_seq (de_var 2)) (blkOk_by (N := ["numbers", "number", "row", "found", "one", "other", "left", "right", "ahead", "behind", "times", "part"]) (sc := defScope s_whole_sum) (by decide +kernel)) (by decide) (fun _ _ _ _ _ => (dg_name (is := [11]) 11 (by decide) sc_whole_sum.nd)) (fun _ _ _ _ _ => dts_nil) (fun _ _ _ _ _ => (de_op op_mul od_mul (de_var 11) (de_var 4))))) (da_cons (de_var 5) da_nil))) sc_whole_sum.nd)
  (dss_one (ds_set 3 (de_var 6) sc_whole_sum.nd)))))))
  (dss_one (ds_ret (de_tuple (de_var 2) (by rfl) h.z_tuple)))))
theorem cl_whole_sum (h : Fx K mg base) : Cl P w K mg base 1 "whole_sum" 1 F_whole_sum := by
  obtain ⟨fd, F⟩ := h.fc_whole_sum
  exact ⟨⟨_, fd, ["numbers"], dfn_ok (g := g_whole_sum) F sc_whole_sum (fun n A outer s H E hr => d_whole_sum h n hr), h.m_whole_sum, F.kp, F.binds (fun _ _ _ _ _ _ us hl => match us, hl with | [_], _ => rfl)⟩, fun n as s as' e => runB_len e⟩
theorem d_near_zero (h : Fx K mg base) {fa : Addr} (n : Nat) {A : Around} {outer : List Env} {s : Shared} {H : Hp} {E : XK} (hr : Rm 1 (A.deeper (envOfC "near_zero" (defScope s_near_zero) s.heap.objs.size fa (.ref (He.codeOf K ("near_zero", none)))))) :
    PSs (bodyX P w K mg base ["numbers", "row", "pivot", "place", "other", "number", "times"] "near_zero" (defScope s_near_zero) fa (.ref (He.codeOf K ("near_zero", none))) A outer s H E) (defBody s_near_zero) (rdS K (g_near_zero n)) :=
  (dss_cons (ds_own 1 (do_listOf (de_call n (cl_whole_sum h) hr (by decide) (by rfl) (dr_cons (de_var 0) dr_nil)) (by rfl) h.z_list) sc_near_zero.nd)
  (dss_cons (ds_set 2 (de_callB (cr_min rfl) cd_minL (by rfl) h.z_min (by decide +kernel) (da_cons (de_var 0) da_nil)) sc_near_zero.nd)
  (dss_cons (ds_set 3 (de_index (de_var 0) (de_var 2)) sc_near_zero.nd)
  (dss_cons (ds_for PassesOwn.never rfl (di_enum (by rfl) h.z_enumerate (da_cons (de_var 0) da_nil)) (dg_pair (is := [4, 5]) 4 5 (by decide) (by decide) rfl sc_near_zero.nd) (dss_one (ds_if (dt_cmp (op_neS (hu64 hr)) od_neS (de_var 4) (de_var 3) (nomark _)) (dss_cons (ds_set 6 (de_op op_fdivW od_fdiv (de_ixO 1 (de_var 4) (fun _ _ => rfl)) (de_var 2)) sc_near_zero.nd)
  (dss_cons (ds_augO 1 ipd_sub ip_sub (de_var 4) (de_op op_mul od_mul (de_var 6) (de_var 2)))
  (dss_one (ds_augO 1 ipd_add ip_add (de_var 3) (de_op op_mul od_mul (de_var 6) (de_var 5)))))) dss_nil)))
  (dss_one (ds_ret (de_tuple (de_frz 1) (by rfl) h.z_tuple)))))))
theorem cl_near_zero (h : Fx K mg base) : Cl P w K mg base 2 "near_zero" 1 F_near_zero := by
  obtain ⟨fd, F⟩ := h.fc_near_zero
  exact ⟨⟨_, fd, ["numbers"], dfn_ok (g := g_near_zero) F sc_near_zero (fun n A outer s H E hr => d_near_zero h n hr), h.m_near_zero, F.kp, F.binds (fun _ _ _ _ _ _ us hl => match us, hl with | [_], _ => rfl)⟩, fun n as s as' e => runB_len e⟩
theorem d_free_paper (h : Fx K mg base) {fa : Addr} (n : Nat) {A : Around} {outer : List Env} {s : Shared} {H : Hp} {E : XK} (hr : Rm 5 (A.deeper (envOfC "free_paper" (defScope s_free_paper) s.heap.objs.size fa (.ref (He.codeOf K ("free_paper", none)))))) :
    PSs (bodyXX P w K mg base ["size", "names", "rows", "one", "low", "row"] "free_paper" (defScope s_free_paper) fa (.ref (He.codeOf K ("free_paper", none))) A outer s H E) (defBody s_free_paper) (rdSX K (fun cls d _ H => E cls d H) (g_free_paper n)) :=
  (dssx_cons (dsx_of (ds_expr (de_call n (cl_require_both h) hr (by decide) (by rfl) (dr_cons (de_var 0) (dr_cons (de_var 1) dr_nil)))))
  (dssx_cons (dsx_if (dt_truth (de_call n (cl_is_barred_in h) hr (by decide) (by rfl) (dr_cons (de_var 0) (dr_cons (de_var 1) dr_nil)))) (dssx_one (dsx_raise F.excBase_ValueError h.x_InvalidOperation.1 h.x_InvalidOperation.2.2.2.2 h.x_InvalidOperation.2.1 (raises_own h.x_InvalidOperation.2.2.1 h.x_InvalidOperation.2.2.2.1) rfl takesX (by rfl))) dssx_nil)
  (dssx_cons (dsx_of (ds_setLc (own := [("one", 3)]) 2 rfl sc_free_paper.nd (di_range2 (by rfl) h.z_range (da_cons de_int (da_cons (de_var 1) da_nil))) (blkOk_by (N := ["size", "names", "rows", "one", "low", "row"]) (sc := defScope s_free_paper) (by decide +kernel)) (by decide) (fun _ _ _ _ _ => (dg_name (is := [3]) 3 (by decide) sc_free_paper.nd)) (fun _ _ _ _ _ => dts_nil) (fun _ _ _ _ _ => (de_ofO (do_lc (own := [("low", 4)]) rfl sc_free_paper.nd (di_seq (de_call n (cl_allowed_in h) hr (by decide) (by rfl) (dr_cons (de_var 0) (dr_cons (de_var 1) (dr_cons (de_var 3) dr_nil))))) (blkOk_by (N := ["size", "names", "rows", "one", "low", "row"]) (by rfl)) (by decide) (fun _ _ _ _ _ => (dg_name (is := [4]) 4 (by decide) sc_free_paper.nd)) (fun _ _ _ _ _ => dts_nil) (fun _ _ _ _ _ => (de_call n (cl_choose h) hr (by decide) (by rfl) (dr_cons (de_var 0) (dr_cons (de_var 4) dr_nil)))))))))
  (dssx_one (dsx_of (ds_ret (de_tuple (de_ofO (do_lc (own := [("row", 5)]) rfl sc_free_paper.nd (di_seq (de_var 2)) (blkOk_by (N := ["size", "names", "rows", "one", "low", "row"]) (sc := defScope s_free_paper) (by decide +kernel)) (by decide) (fun _ _ _ _ _ => (dg_name (is := [5]) 5 (by decide) sc_free_paper.nd)) (fun _ _ _ _ _ => dts_nil) (fun _ _ _ _ _ => (de_call n (cl_near_zero h) hr (by decide) (by rfl) (dr_cons (de_var 5) dr_nil))))) (by rfl) h.z_tuple)))))))
theorem cl_free_paper (h : Fx K mg base) : ClX P w K mg base 6 "free_paper" 2 F_free_paper := by
  obtain ⟨fd, F⟩ := h.fc_free_paper
  exact ⟨⟨_, fd, ["size", "names"], dfnX_ok (g := g_free_paper) F sc_free_paper (fun n A outer s H E hr => d_free_paper h n hr), h.m_free_paper, F.kp, F.binds (fun _ _ _ _ _ _ us hl => match us, hl with | [_, _], _ => rfl)⟩, fun n as s as' e => runBX_len e⟩
theorem d_is_barred (h : Fx K mg base) {fa : Addr} (n : Nat) {A : Around} {outer : List Env} {s : Shared} {H : Hp} {E : XK} (hr : Rm 5 (A.deeper (envOfC "is_barred" (defScope s_is_barred) s.heap.objs.size fa (.ref (He.codeOf K ("is_barred", none)))))) :
    PSs (bodyX P w K mg base ["size", "names"] "is_barred" (defScope s_is_barred) fa (.ref (He.codeOf K ("is_barred", none))) A outer s H E) (defBody s_is_barred) (rdS K (g_is_barred n)) :=
  (dss_cons (ds_expr (de_call n (cl_require_both h) hr (by decide) (by rfl) (dr_cons (de_var 0) (dr_cons (de_var 1) dr_nil))))
  (dss_one (ds_ret (de_call n (cl_is_barred_in h) hr (by decide) (by rfl) (dr_cons (de_var 0) (dr_cons (de_var 1) dr_nil))))))
theorem cl_is_barred (h : Fx K mg base) : Cl P w K mg base 6 "is_barred" 2 F_is_barred := by
  obtain ⟨fd, F⟩ := h.fc_is_barred
  exact ⟨⟨_, fd, ["size", "names"], dfn_ok (g := g_is_barred) F sc_is_barred (fun n A outer s H E hr => d_is_barred h n hr), h.m_is_barred, F.kp, F.binds (fun _ _ _ _ _ _ us hl => match us, hl with | [_, _], _ => rfl)⟩, fun n as s as' e => runB_len e⟩
theorem d_is_barred_paper (h : Fx K mg base) {fa : Addr} (n : Nat) {A : Around} {outer : List Env} {s : Shared} {H : Hp} {E : XK} (hr : Rm 4 (A.deeper (envOfC "is_barred_paper" (defScope s_is_barred_paper) s.heap.objs.size fa (.ref (He.codeOf K ("is_barred_paper", none)))))) :
    PSs (bodyX P w K mg base ["size", "names", "value", "low"] "is_barred_paper" (defScope s_is_barred_paper) fa (.ref (He.codeOf K ("is_barred_paper", none))) A outer s H E) (defBody s_is_barred_paper) (rdS K (g_is_barred_paper n)) :=
  (dss_cons (ds_expr (de_call n (cl_require_both h) hr (by decide) (by rfl) (dr_cons (de_var 0) (dr_cons (de_var 1) dr_nil))))
  (dss_cons (ds_if ((dw_or (dt_not (dt_truth (de_callB call_isi cd_isi (by rfl) h.z_isinstance (by decide +kernel) (da_cons (de_var 2) (da_cons (de_ty (by rfl) h.z_tuple (by decide +kernel)) da_nil))))) (dw_or (dt_cmp op_notIn_seq od_notIn (de_callB call_len_seq cd_len (by rfl) h.z_len (by decide +kernel) (da_cons (de_var 2) da_nil)) (de_tup (da_cons de_int (da_cons de_int da_nil))) (by rfl)) (dw_or1 (dt_not (dt_truth (de_callB call_isi cd_isi (by rfl) h.z_isinstance (by decide +kernel) (da_cons (de_ix (de_var 2) de_int (fun _ _ => rfl)) (da_cons (de_ty (by rfl) h.z_str (by decide +kernel)) da_nil))))))))).pt (dss_one (ds_ret de_bl)) dss_nil)
  (dss_cons (ds_if (dt_cmp (op_eqS (hu64 hr)) od_eqS (de_callB call_len_seq cd_len (by rfl) h.z_len (by decide +kernel) (da_cons (de_var 2) da_nil)) de_int (nomark _)) (dss_one (ds_ret (de_and (de_cmp (op_eqS (hu64 hr)) od_eqS (de_ix (de_var 2) de_int (fun _ _ => rfl)) (de_gstr (by rfl) h.i_FEW) (nomark _)) (de_one (de_cmp op_lt od_lt (de_var 1) (de_var 0) (nomark _)))))) dss_nil)
  (dss_cons (ds_if ((dw_or (dt_cmp (op_neS (hu64 hr)) od_neS (de_ix (de_var 2) de_int (fun _ _ => rfl)) (de_gstr (by rfl) h.i_GROUP) (nomark _)) (dw_or (dt_cmp op_lt od_lt (de_var 1) (de_var 0) (nomark _)) (dw_or1 (dt_not (dt_truth (de_call n (cl_is_between h) hr (by decide) (by rfl) (dr_cons (de_ix (de_var 2) de_int (fun _ _ => rfl)) (dr_cons de_int (dr_cons (de_op op_sub od_sub (de_var 1) de_int) dr_nil)))))))))).pt (dss_one (ds_ret de_bl)) dss_nil)
  (dss_cons (ds_if ((dw_or (dt_not (dt_truth (de_call n (cl_is_integer h) hr (by decide) (by rfl) (dr_cons (de_ix (de_var 2) de_int (fun _ _ => rfl)) dr_nil)))) (dw_or1 (dt_cmp op_lt od_lt (de_ix (de_var 2) de_int (fun _ _ => rfl)) de_int (nomark _))))).pt (dss_one (ds_ret de_bl)) dss_nil)
  (dss_one (ds_ret (de_callB (cr_all rfl) cd_all (by rfl) h.z_all (by decide +kernel) (da_cons (de_ofO (do_lc (own := [("low", 3)]) rfl sc_is_barred_paper.nd (di_seq (de_call n (cl_allowed_in h) hr (by decide) (by rfl) (dr_cons (de_var 0) (dr_cons (de_var 1) (dr_cons (de_ix (de_var 2) de_int (fun _ _ => rfl)) dr_nil))))) (blkOk_by (N := ["size", "names", "value", "low"]) (sc := defScope s_is_barred_paper) (by decide +kernel)) (by decide) (fun _ _ _ _ _ => (dg_name (is := [3]) 3 (by decide) sc_is_barred_paper.nd)) (fun _ _ _ _ _ => dts_nil) (fun _ _ _ _ _ => (de_cmp (op_eqS (hu64 hr)) od_eqS (de_op op_mod od_mod (de_call n (cl_choose h) hr (by decide) (by rfl) (dr_cons (de_var 0) (dr_cons (de_var 3) dr_nil))) (de_ix (de_var 2) de_int (fun _ _ => rfl))) de_int (nomark _))))) da_nil)))))))))
theorem cl_is_barred_paper (h : Fx K mg base) : Cl P w K mg base 5 "is_barred_paper" 3 F_is_barred_paper := by
  obtain ⟨fd, F⟩ := h.fc_is_barred_paper
  exact ⟨⟨_, fd, ["size", "names", "value"], dfn_ok (g := g_is_barred_paper) F sc_is_barred_paper (fun n A outer s H E hr => d_is_barred_paper h n hr), h.m_is_barred_paper, F.kp, F.binds (fun _ _ _ _ _ _ us hl => match us, hl with | [_, _, _], _ => rfl)⟩, fun n as s as' e => runB_len e⟩
theorem d_is_free_row (h : Fx K mg base) {fa : Addr} (n : Nat) {A : Around} {outer : List Env} {s : Shared} {H : Hp} {E : XK} (hr : Rm 1 (A.deeper (envOfC "is_free_row" (defScope s_is_free_row) s.heap.objs.size fa (.ref (He.codeOf K ("is_free_row", none)))))) :
    PSs (bodyX P w K mg base ["size", "allowed", "value", "one", "low"] "is_free_row" (defScope s_is_free_row) fa (.ref (He.codeOf K ("is_free_row", none))) A outer s H E) (defBody s_is_free_row) (rdS K (g_is_free_row n)) :=
  (dss_cons (ds_if ((dw_or (dt_not (dt_truth (de_callB call_isi cd_isi (by rfl) h.z_isinstance (by decide +kernel) (da_cons (de_var 2) (da_cons (de_ty (by rfl) h.z_tuple (by decide +kernel)) da_nil))))) (dw_or (dt_cmp (op_neS (hu64 hr)) od_neS (de_callB call_len_seq cd_len (by rfl) h.z_len (by decide +kernel) (da_cons (de_var 2) da_nil)) (de_callB call_len_seq cd_len (by rfl) h.z_len (by decide +kernel) (da_cons (de_var 1) da_nil)) (nomark _)) (dw_or1 (dt_not (dt_truth (de_callB (cr_all rfl) cd_all (by rfl) h.z_all (by decide +kernel) (da_cons (de_ofO (do_lc (own := [("one", 3)]) rfl sc_is_free_row.nd (di_seq (de_var 2)) (blkOk_by (N := ["size", "allowed", "value", "one", "low"]) (sc := defScope s_is_free_row) (by decide +kernel)) (by decide) (fun _ _ _ _ _ => (dg_name (is := [3]) 3 (by decide) sc_is_free_row.nd)) (fun _ _ _ _ _ => dts_nil) (fun _ _ _ _ _ => (de_call n (cl_is_integer h) hr (by decide) (by rfl) (dr_cons (de_var 3) dr_nil))))) da_nil)))))))).pt (dss_one (ds_ret de_bl)) dss_nil)
  (dss_one (ds_ret (de_cmp (op_eqS (hu64 hr)) od_eqS (de_callB (cr_sum rfl) cd_sum (by rfl) h.z_sum (by decide +kernel) (da_cons (de_ofO (do_lc (own := [("one", 3), ("low", 4)]) rfl sc_is_free_row.nd (di_zipS (by rfl) h.z_zip (da_cons (de_var 2) (da_cons (de_var 1) da_nil))) (blkOk_by (N := ["size", "allowed", "value", "one", "low"]) (sc := defScope s_is_free_row) (by decide +kernel)) (by decide) (fun _ _ _ _ _ => (dg_pair (is := [3, 4]) 3 4 (by decide) (by decide) rfl sc_is_free_row.nd)) (fun _ _ _ _ _ => dts_nil) (fun _ _ _ _ _ => (de_op op_mul od_mul (de_var 3) (de_call n (cl_choose h) hr (by decide) (by rfl) (dr_cons (de_var 0) (dr_cons (de_var 4) dr_nil))))))) da_nil)) de_int (nomark _)))))
theorem cl_is_free_row (h : Fx K mg base) : Cl P w K mg base 2 "is_free_row" 3 F_is_free_row := by
  obtain ⟨fd, F⟩ := h.fc_is_free_row
  exact ⟨⟨_, fd, ["size", "allowed", "value"], dfn_ok (g := g_is_free_row) F sc_is_free_row (fun n A outer s H E hr => d_is_free_row h n hr), h.m_is_free_row, F.kp, F.binds (fun _ _ _ _ _ _ us hl => match us, hl with | [_, _, _], _ => rfl)⟩, fun n as s as' e => runB_len e⟩
theorem d_is_free_paper (h : Fx K mg base) {fa : Addr} (n : Nat) {A : Around} {outer : List Env} {s : Shared} {H : Hp} {E : XK} (hr : Rm 4 (A.deeper (envOfC "is_free_paper" (defScope s_is_free_paper) s.heap.objs.size fa (.ref (He.codeOf K ("is_free_paper", none)))))) :
    PSs (bodyX P w K mg base ["size", "names", "value", "place", "row"] "is_free_paper" (defScope s_is_free_paper) fa (.ref (He.codeOf K ("is_free_paper", none))) A outer s H E) (defBody s_is_free_paper) (rdS K (g_is_free_paper n)) :=
  (dss_cons (ds_expr (de_call n (cl_require_both h) hr (by decide) (by rfl) (dr_cons (de_var 0) (dr_cons (de_var 1) dr_nil))))
  (dss_cons (ds_if ((dw_or (dt_cmp op_lt od_lt (de_var 1) (de_var 0) (nomark _)) (dw_or (dt_not (dt_truth (de_callB call_isi cd_isi (by rfl) h.z_isinstance (by decide +kernel) (da_cons (de_var 2) (da_cons (de_ty (by rfl) h.z_tuple (by decide +kernel)) da_nil))))) (dw_or1 (dt_cmp (op_neS (hu64 hr)) od_neS (de_callB call_len_seq cd_len (by rfl) h.z_len (by decide +kernel) (da_cons (de_var 2) da_nil)) (de_op op_sub od_sub (de_var 1) de_int) (nomark _)))))).pt (dss_one (ds_ret de_bl)) dss_nil)
  (dss_one (ds_ret (de_callB (cr_all rfl) cd_all (by rfl) h.z_all (by decide +kernel) (da_cons (de_ofO (do_lc (own := [("place", 3), ("row", 4)]) rfl sc_is_free_paper.nd (di_enum (by rfl) h.z_enumerate (da_cons (de_var 2) da_nil)) (blkOk_by (N := ["size", "names", "value", "place", "row"]) (sc := defScope s_is_free_paper) (by decide +kernel)) (by decide) (fun _ _ _ _ _ => (dg_pair (is := [3, 4]) 3 4 (by decide) (by decide) rfl sc_is_free_paper.nd)) (fun _ _ _ _ _ => dts_nil) (fun _ _ _ _ _ => (de_call n (cl_is_free_row h) hr (by decide) (by rfl) (dr_cons (de_var 0) (dr_cons (de_call n (cl_allowed_in h) hr (by decide) (by rfl) (dr_cons (de_var 0) (dr_cons (de_var 1) (dr_cons (de_op op_addA od_add (de_var 3) de_int) dr_nil)))) (dr_cons (de_var 4) dr_nil))))))) da_nil))))))
theorem cl_is_free_paper (h : Fx K mg base) : Cl P w K mg base 5 "is_free_paper" 3 F_is_free_paper := by
  obtain ⟨fd, F⟩ := h.fc_is_free_paper
  exact ⟨⟨_, fd, ["size", "names", "value"], dfn_ok (g := g_is_free_paper) F sc_is_free_paper (fun n A outer s H E hr => d_is_free_paper h n hr), h.m_is_free_paper, F.kp, F.binds (fun _ _ _ _ _ _ us hl => match us, hl with | [_, _, _], _ => rfl)⟩, fun n as s as' e => runB_len e⟩
theorem d__law_pair_right (h : Fx K mg base) {fa : Addr} (n : Nat) {A : Around} {outer : List Env} {s : Shared} {H : Hp} {E : XK} (hr : Rm 8 (A.deeper (envOfC "_law_pair_right" (defScope s__law_pair_right) s.heap.objs.size fa (.ref (He.codeOf K ("_law_pair_right", none)))))) :
    PSs (bodyX P w K mg base ["size", "names", "due", "barred", "free", "group", "factor", "row", "marks", "k", "one"] "_law_pair_right" (defScope s__law_pair_right) fa (.ref (He.codeOf K ("_law_pair_right", none))) A outer s H E) (defBody s__law_pair_right) (rdS K (g__law_pair_right n)) :=
  (dss_cons (ds_set 2 (de_call n (cl__law_barred h) hr (by decide) (by rfl) (dr_cons (de_var 0) (dr_cons (de_var 1) dr_nil))) sc__law_pair_right.nd)
  (dss_cons (ds_if (dt_cmp (op_neS (hu64 hr)) od_neS (de_callB (cr_reprX hr.g (hu66 hr)) cd_reprX (by rfl) h.z_repr (by decide +kernel) (da_cons (de_call n (cl_is_barred h) hr (by decide) (by rfl) (dr_cons (de_var 0) (dr_cons (de_var 1) dr_nil))) da_nil)) (de_callB (cr_reprX hr.g (hu66 hr)) cd_reprX (by rfl) h.z_repr (by decide +kernel) (da_cons (de_var 2) da_nil)) (nomark _)) (dss_one (ds_ret de_bl)) dss_nil)
  (dss_cons (ds_set 3 (de_told (k := 6) h.fc__law_told.choose_spec (FunC.binds (ps := ["call"]) h.fc__law_told.choose_spec (fun _ _ _ _ _ _ us hl => match us, hl with | [_], _ => rfl)) sc__law_told rfl rfl h.x_InvalidOperation.2.2.2.2 (by decide) (fun _ => rfl) rfl (by first | exact Or.inl rfl | exact Or.inr (Or.inl rfl)) h.ct (by rfl) h.m__law_told h.tb__law_pair_right h.tt__law_pair_right rfl h.ll__law_pair_right h.lu__law_pair_right hr (LamX.lamS_by (sc := defScope s__law_pair_right) (by decide +kernel)) rfl (fun _ _ _ _ _ => rfl) (fun A outer s H E f c' hr2 => dx_call n (cl_barred_paper h) hr2 (by decide) (by rfl) takesL (dr_cons (de_var 0) (dr_cons (de_var 1) dr_nil))) (by decide) (by decide) (by decide)) sc__law_pair_right.nd)
  (dss_cons (ds_set 4 (de_told (k := 6) h.fc__law_told.choose_spec (FunC.binds (ps := ["call"]) h.fc__law_told.choose_spec (fun _ _ _ _ _ _ us hl => match us, hl with | [_], _ => rfl)) sc__law_told rfl rfl h.x_InvalidOperation.2.2.2.2 (by decide) (fun _ => rfl) rfl (by first | exact Or.inl rfl | exact Or.inr (Or.inl rfl)) h.ct (by rfl) h.m__law_told h.tb__law_pair_right h.tt__law_pair_right rfl h.ll__law_pair_right h.lu__law_pair_right hr (LamX.lamS_by (sc := defScope s__law_pair_right) (by decide +kernel)) rfl (fun _ _ _ _ _ => rfl) (fun A outer s H E f c' hr2 => dx_call n (cl_free_paper h) hr2 (by decide) (by rfl) takesL (dr_cons (de_var 0) (dr_cons (de_var 1) dr_nil))) (by decide) (by decide) (by decide)) sc__law_pair_right.nd)
  (dss_cons (ds_if ((dw_or (dt_cmp (op_eqS (hu64 hr)) od_eqS (de_cmp op_isN od_isN (de_var 3) de_non (nomark _)) (de_var 2) (nomark _)) (dw_or1 (dt_cmp (op_neS (hu64 hr)) od_neS (de_cmp op_isN od_isN (de_var 4) de_non (nomark _)) (de_var 2) (nomark _))))).pt (dss_one (ds_ret de_bl)) dss_nil)
  (dss_cons (ds_if (dt_truth (de_var 2)) (dss_cons (ds_if ((dw_or (dt_not (dt_truth (de_call n (cl_is_barred_paper h) hr (by decide) (by rfl) (dr_cons (de_var 0) (dr_cons (de_var 1) (dr_cons (de_var 3) dr_nil)))))) (dw_or1 (dt_truth (de_call n (cl_is_free_paper h) hr (by decide) (by rfl) (dr_cons (de_var 0) (dr_cons (de_var 1) (dr_cons (de_var 3) dr_nil)))))))).pt (dss_one (ds_ret de_bl)) dss_nil)
  (dss_cons (ds_if (dt_cmp op_lt od_lt (de_var 1) (de_var 0) (nomark _)) (dss_one (ds_ret (de_cmp (op_eqS (hu64 hr)) od_eqS (de_var 3) (de_tup (da_cons de_str da_nil)) (nomark _)))) dss_nil)
  (dss_cons (ds_asg (de_tup (da_cons (de_ix (de_var 3) de_int (fun _ _ => rfl)) (da_cons (de_ix (de_var 3) de_int (fun _ _ => rfl)) da_nil))) (dg_tup rfl (dgs_cons (dg_name (is := [5, 6]) 5 (by decide) sc__law_pair_right.nd) (dgs_cons (dg_name (is := [5, 6]) 6 (by decide) sc__law_pair_right.nd) dgs_nil))))
  (dss_cons (ds_if ((dw_or (dt_cmp (op_neS (hu64 hr)) od_neS (de_ix (de_var 3) de_int (fun _ _ => rfl)) de_str (nomark _)) (dw_or (dt_cmp op_lt od_lt (de_var 5) de_int (nomark _)) (dw_or (dt_cmp op_ge od_ge (de_var 5) (de_var 1) (nomark _)) (dw_or1 (dt_cmp op_lt od_lt (de_var 6) de_int (nomark _))))))).pt (dss_one (ds_ret de_bl)) dss_nil)
  (dss_one (ds_ret (de_cmp (op_eqS (hu64 hr)) od_eqS (de_ofO (do_lc (own := [("k", 9)]) rfl sc__law_pair_right.nd (di_seq (de_call n (cl__law_allowed h) hr (by decide) (by rfl) (dr_cons (de_var 0) (dr_cons (de_var 1) (dr_cons (de_var 5) dr_nil))))) (blkOk_by (N := ["size", "names", "due", "barred", "free", "group", "factor", "row", "marks", "k", "one"]) (sc := defScope s__law_pair_right) (by decide +kernel)) (by decide) (fun _ _ _ _ _ => (dg_name (is := [9]) 9 (by decide) sc__law_pair_right.nd)) (fun _ _ _ _ _ => (dts_one (dt_cmp (op_neS (hu64 hr)) od_neS (de_op op_mod od_mod (de_call n (cl__law_binom h) hr (by decide) (by rfl) (dr_cons (de_var 0) (dr_cons (de_var 9) dr_nil))) (de_var 6)) de_int (nomark _)))) (fun _ _ _ _ _ => (de_var 9)))) (de_lst da_nil) (nomark _)))))))) dss_nil)
  (dss_cons (ds_if ((dw_or (dt_not (dt_truth (de_call n (cl_is_free_paper h) hr (by decide) (by rfl) (dr_cons (de_var 0) (dr_cons (de_var 1) (dr_cons (de_var 4) dr_nil)))))) (dw_or (dt_truth (de_call n (cl_is_barred_paper h) hr (by decide) (by rfl) (dr_cons (de_var 0) (dr_cons (de_var 1) (dr_cons (de_var 4) dr_nil))))) (dw_or1 (dt_cmp (op_neS (hu64 hr)) od_neS (de_callB call_len_seq cd_len (by rfl) h.z_len (by decide +kernel) (da_cons (de_var 4) da_nil)) (de_op op_sub od_sub (de_var 1) de_int) (nomark _)))))).pt (dss_one (ds_ret de_bl)) dss_nil)
  (dss_cons (ds_for PassesOwn.never rfl (di_range2 (by rfl) h.z_range (da_cons de_int (da_cons (de_var 1) da_nil))) (dg_name (is := [5]) 5 (by decide) sc__law_pair_right.nd) (dss_cons (ds_par 7 8 (da_cons (de_ix (de_var 4) (de_op op_sub od_sub (de_var 5) de_int) (fun _ _ => rfl)) (da_cons (de_call n (cl__law_allowed h) hr (by decide) (by rfl) (dr_cons (de_var 0) (dr_cons (de_var 1) (dr_cons (de_var 5) dr_nil)))) da_nil)) rfl sc__law_pair_right.nd)
  (dss_cons (ds_if ((dw_or (dt_cmp (op_neS (hu64 hr)) od_neS (de_callB call_len_seq cd_len (by rfl) h.z_len (by decide +kernel) (da_cons (de_var 7) da_nil)) (de_callB call_len_seq cd_len (by rfl) h.z_len (by decide +kernel) (da_cons (de_var 8) da_nil)) (nomark _)) (dw_or1 (dt_cmp (op_neS (hu64 hr)) od_neS (de_ofO (do_lc (own := [("one", 10)]) rfl sc__law_pair_right.nd (di_seq (de_var 7)) (blkOk_by (N := ["size", "names", "due", "barred", "free", "group", "factor", "row", "marks", "k", "one"]) (sc := defScope s__law_pair_right) (by decide +kernel)) (by decide) (fun _ _ _ _ _ => (dg_name (is := [10]) 10 (by decide) sc__law_pair_right.nd)) (fun _ _ _ _ _ => (dts_one (dt_cmp op_ge od_ge (de_callB call_abs cd_abs (by rfl) h.z_abs (by decide +kernel) (da_cons (de_var 10) da_nil)) (de_op op_powW od_pow de_int de_int) (nomark _)))) (fun _ _ _ _ _ => (de_var 10)))) (de_lst da_nil) (nomark _))))).pt (dss_one (ds_ret de_bl)) dss_nil)
  (dss_one (ds_if (dt_cmp (op_neS (hu64 hr)) od_neS (de_callB (cr_sum rfl) cd_sum (by rfl) h.z_sum (by decide +kernel) (da_cons (de_ofO (do_lc (own := [("one", 10), ("k", 9)]) rfl sc__law_pair_right.nd (di_zip (by rfl) h.z_zip (da_cons (de_var 7) (da_cons (de_var 8) da_nil))) (blkOk_by (N := ["size", "names", "due", "barred", "free", "group", "factor", "row", "marks", "k", "one"]) (sc := defScope s__law_pair_right) (by decide +kernel)) (by decide) (fun _ _ _ _ _ => (dg_pair (is := [10, 9]) 10 9 (by decide) (by decide) rfl sc__law_pair_right.nd)) (fun _ _ _ _ _ => dts_nil) (fun _ _ _ _ _ => (de_op op_mul od_mul (de_var 10) (de_call n (cl__law_binom h) hr (by decide) (by rfl) (dr_cons (de_var 0) (dr_cons (de_var 9) dr_nil))))))) da_nil)) de_int (nomark _)) (dss_one (ds_ret de_bl)) dss_nil)))))
  (dss_one (ds_ret de_bl))))))))))
theorem cl__law_pair_right (h : Fx K mg base) : Cl P w K mg base 9 "_law_pair_right" 2 F__law_pair_right := by
  obtain ⟨fd, F⟩ := h.fc__law_pair_right
  exact ⟨⟨_, fd, ["size", "names"], dfn_ok (g := g__law_pair_right) F sc__law_pair_right (fun n A outer s H E hr => d__law_pair_right h n hr), h.m__law_pair_right, F.kp, F.binds (fun _ _ _ _ _ _ us hl => match us, hl with | [_, _], _ => rfl)⟩, fun n as s as' e => runB_len e⟩
theorem d__law_spoon (h : Fx K mg base) {fa : Addr} (n : Nat) {A : Around} {outer : List Env} {s : Shared} {H : Hp} {E : XK} (hr : Rm 0 (A.deeper (envOfC "_law_spoon" (defScope s__law_spoon) s.heap.objs.size fa (.ref (He.codeOf K ("_law_spoon", none)))))) :
    PSs (bodyX P w K mg base ["dish", "total", "one", "two", "three", "found"] "_law_spoon" (defScope s__law_spoon) fa (.ref (He.codeOf K ("_law_spoon", none))) A outer s H E) (defBody s__law_spoon) (rdS K (g__law_spoon n)) :=
  (dss_cons (ds_if (dt_cmp op_gt od_gt (de_ixO 0 de_int (fun _ _ => rfl)) de_int (nomark _)) (dss_cons (ds_set 5 (de_op op_mod od_mod (de_callTy call_int1 cd_int (by rfl) h.z_int (by decide +kernel) (da_cons (de_ixO 0 de_int (fun _ _ => rfl)) da_nil)) (de_var 1)) sc__law_spoon.nd)
  (dss_cons (ds_itO 0 (de_op op_fdivW od_fdiv (de_ixO 0 de_int (fun _ _ => rfl)) (de_var 1)) de_int)
  (dss_one (ds_ret (de_var 5))))) dss_nil)
  (dss_cons (ds_itO 0 (de_op op_addA od_add (de_ixO 0 de_int (fun _ _ => rfl)) de_int) de_int)
  (dss_cons (ds_set 2 (de_op op_mod od_mod (de_callTy call_int1 cd_int (by rfl) h.z_int (by decide +kernel) (da_cons (de_op op_addA od_add (de_ixO 0 de_int (fun _ _ => rfl)) (de_op op_mul od_mul de_int (de_ixO 0 de_int (fun _ _ => rfl)))) da_nil)) de_int) sc__law_spoon.nd)
  (dss_cons (ds_set 3 (de_op op_mod od_mod (de_callTy call_int1 cd_int (by rfl) h.z_int (by decide +kernel) (da_cons (de_op op_addA od_add (de_op op_addA od_add (de_op op_mul od_mul (de_var 2) (de_var 2)) (de_op op_fdivW od_fdiv (de_ixO 0 de_int (fun _ _ => rfl)) de_int)) (de_op op_mul od_mul de_int (de_ixO 0 de_int (fun _ _ => rfl)))) da_nil)) de_int) sc__law_spoon.nd)
  (dss_cons (ds_set 4 (de_op op_mod od_mod (de_callTy call_int1 cd_int (by rfl) h.z_int (by decide +kernel) (da_cons (de_op op_addA od_add (de_op op_mul od_mul (de_var 3) (de_var 3)) (de_var 2)) da_nil)) de_int) sc__law_spoon.nd)
  (dss_one (ds_ret (de_op op_mod od_mod (de_callTy call_int1 cd_int (by rfl) h.z_int (by decide +kernel) (da_cons (de_op op_fdivW od_fdiv (de_var 4) de_int) da_nil)) (de_var 1)))))))))
theorem cl__law_spoon (h : Fx K mg base) : Cl P w K mg base 1 "_law_spoon" 2 F__law_spoon := by
  obtain ⟨fd, F⟩ := h.fc__law_spoon
  exact ⟨⟨_, fd, ["dish", "total"], dfn_ok (g := g__law_spoon) F sc__law_spoon (fun n A outer s H E hr => d__law_spoon h n hr), h.m__law_spoon, F.kp, F.binds (fun _ _ _ _ _ _ us hl => match us, hl with | [_, _], _ => rfl)⟩, fun n as s as' e => runB_len e⟩
theorem d__law_pick_of (h : Fx K mg base) {fa : Addr} (n : Nat) {A : Around} {outer : List Env} {s : Shared} {H : Hp} {E : XK} (hr : Rm 1 (A.deeper (envOfC "_law_pick_of" (defScope s__law_pick_of) s.heap.objs.size fa (.ref (He.codeOf K ("_law_pick_of", none)))))) :
    PSs (bodyX P w K mg base ["dish", "items"] "_law_pick_of" (defScope s__law_pick_of) fa (.ref (He.codeOf K ("_law_pick_of", none))) A outer s H E) (defBody s__law_pick_of) (rdS K (g__law_pick_of n)) :=
  (dss_one (ds_ret (de_ix (de_var 1) (de_call n (cl__law_spoon h) hr (by decide) (by rfl) (dr_own 0 (dr_cons (de_callB call_len_seq cd_len (by rfl) h.z_len (by decide +kernel) (da_cons (de_var 1) da_nil)) dr_nil))) (fun _ _ => rfl))))
theorem cl__law_pick_of (h : Fx K mg base) : Cl P w K mg base 2 "_law_pick_of" 2 F__law_pick_of := by
  obtain ⟨fd, F⟩ := h.fc__law_pick_of
  exact ⟨⟨_, fd, ["dish", "items"], dfn_ok (g := g__law_pick_of) F sc__law_pick_of (fun n A outer s H E hr => d__law_pick_of h n hr), h.m__law_pick_of, F.kp, F.binds (fun _ _ _ _ _ _ us hl => match us, hl with | [_, _], _ => rfl)⟩, fun n as s as' e => runB_len e⟩
theorem d_law (h : Fx K mg base) {fa : Addr} (n : Nat) {A : Around} {outer : List Env} {s : Shared} {H : Hp} {E : XK} (hr : Rm 9 (A.deeper (envOfC "law" (defScope s_law) s.heap.objs.size fa (.ref (He.codeOf K ("law", none)))))) :
    PSs (bodyX P w K mg base ["script", "at", "written", "dish", "turn", "size", "names", "near"] "law" (defScope s_law) fa (.ref (He.codeOf K ("law", none))) A outer s H E) (defBody s_law) (rdS K (g_law n)) :=
  (dss_cons (ds_for PassesOwn.never rfl (di_range1 (by rfl) h.z_range (da_cons (de_callB (call_max2 rfl) cd_max (by rfl) h.z_max (by decide +kernel) (da_cons de_int (da_cons (de_callB (call_min2 rfl) cd_min (by rfl) h.z_min (by decide +kernel) (da_cons de_int (da_cons (de_callB call_len_seq cd_len (by rfl) h.z_len (by decide +kernel) (da_cons (de_var 0) da_nil)) da_nil))) da_nil))) da_nil)) (dg_name (is := [1]) 1 (by decide) sc_law.nd) (dss_cons (ds_own 3 (do_call n (cl__law_dish h) hr (by decide) (by rfl) (dr_cons (de_var 0) (dr_cons (de_var 1) dr_nil))) sc_law.nd)
  (dss_one (ds_for PassesOwn.never rfl (di_range1 (by rfl) h.z_range (da_cons de_int da_nil)) (dg_name (is := [4]) 4 (by decide) sc_law.nd) (dss_cons (ds_set 5 (de_op op_addA od_add de_int (de_call n (cl__law_spoon h) hr (by decide) (by rfl) (dr_own 3 (dr_cons (de_call n (cl__law_pick_of h) hr (by decide) (by rfl) (dr_own 3 (dr_cons (de_lst (da_cons de_int (da_cons de_int (da_cons de_int da_nil)))) dr_nil))) dr_nil)))) sc_law.nd)
  (dss_cons (ds_own 7 (do_lst (da_cons (de_var 5) (da_cons (de_op op_sub od_sub (de_op op_mul od_mul de_int (de_var 5)) de_int) (da_cons (de_op op_sub od_sub (de_op op_mul od_mul de_int (de_var 5)) de_int) (da_cons (de_op op_mul od_mul de_int (de_var 5)) (da_cons (de_op op_addA od_add (de_var 5) de_int) (da_cons (de_op op_sub od_sub (de_var 5) de_int) da_nil))))))) sc_law.nd)
  (dss_cons (ds_app 7 (de_op op_sub od_sub (de_op op_sub od_sub (de_op op_mul od_mul de_int (de_var 5)) de_int) (de_call n (cl__law_spoon h) hr (by decide) (by rfl) (dr_own 3 (dr_cons (de_var 5) dr_nil)))))
  (dss_one (ds_if (dt_not (dt_truth (de_call n (cl__law_pair_right h) hr (by decide) (by rfl) (dr_cons (de_var 5) (dr_cons (de_callB (call_max2 rfl) cd_max (by rfl) h.z_max (by decide +kernel) (da_cons de_int (da_cons (de_call n (cl__law_pick_of h) hr (by decide) (by rfl) (dr_own 3 (dr_cons (de_frz 7) dr_nil))) da_nil))) dr_nil))))) (dss_one (ds_ret de_bl)) dss_nil)))))))))
  (dss_cons (ds_set 2 (de_lst (da_cons (de_tup (da_cons de_int (da_cons de_int da_nil))) (da_cons (de_tup (da_cons de_int (da_cons de_int da_nil))) (da_cons (de_tup (da_cons de_int (da_cons de_int da_nil))) (da_cons (de_tup (da_cons de_int (da_cons de_int da_nil))) (da_cons (de_tup (da_cons de_int (da_cons de_int da_nil))) (da_cons (de_tup (da_cons de_int (da_cons de_int da_nil))) (da_cons (de_tup (da_cons de_int (da_cons de_int da_nil))) (da_cons (de_tup (da_cons de_int (da_cons de_int da_nil))) (da_cons (de_tup (da_cons de_int (da_cons de_int da_nil))) (da_cons (de_tup (da_cons de_int (da_cons de_int da_nil))) da_nil))))))))))) sc_law.nd)
  (dss_cons (ds_set 2 (de_op op_addA od_add (de_var 2) (de_lst (da_cons (de_tup (da_cons de_int (da_cons de_int da_nil))) (da_cons (de_tup (da_cons de_int (da_cons de_int da_nil))) da_nil)))) sc_law.nd)
  (dss_cons (ds_for PassesOwn.never rfl (di_seq (de_var 2)) (dg_pair (is := [5, 6]) 5 6 (by decide) (by decide) rfl sc_law.nd) (dss_one (ds_if (dt_not (dt_truth (de_call n (cl__law_pair_right h) hr (by decide) (by rfl) (dr_cons (de_var 5) (dr_cons (de_var 6) dr_nil))))) (dss_one (ds_ret de_bl)) dss_nil)))
  (dss_one (ds_ret (de_cmp (op_eqS (hu64 hr)) od_eqS (de_ofO (do_lc (own := [("size", 5)]) rfl sc_law.nd (di_seq (de_tup (da_cons de_int (da_cons de_int (da_cons de_int (da_cons de_int (da_cons de_int da_nil))))))) (blkOk_by (N := ["script", "at", "written", "dish", "turn", "size", "names", "near"]) (sc := defScope s_law) (by decide +kernel)) (by decide) (fun _ _ _ _ _ => (dg_name (is := [5]) 5 (by decide) sc_law.nd)) (fun _ _ _ _ _ => dts_nil) (fun _ _ _ _ _ => (de_call n (cl_is_barred h) hr (by decide) (by rfl) (dr_cons (de_var 5) (dr_cons (de_op op_sub od_sub (de_op op_mul od_mul de_int (de_var 5)) de_int) dr_nil)))))) (de_lst (da_cons de_bl (da_cons de_bl (da_cons de_bl (da_cons de_bl (da_cons de_bl da_nil)))))) (nomark _))))))))
theorem cl_law (h : Fx K mg base) : Cl P w K mg base 10 "law" 1 F_law := by
  obtain ⟨fd, F⟩ := h.fc_law
  exact ⟨⟨_, fd, ["script"], dfn_ok (g := g_law) F sc_law (fun n A outer s H E hr => d_law h n hr), h.m_law, F.kp, F.binds (fun _ _ _ _ _ _ us hl => match us, hl with | [_], _ => rfl)⟩, fun n as s as' e => runB_len e⟩
end
/-! ### the head -/
def dd__law_dish : He.DefD := ⟨("_law_dish", none), "_law_dish", "_law_dish", defArgs s__law_dish, defBody s__law_dish, defScope s__law_dish, [], []⟩
def dd__law_allowed : He.DefD := ⟨("_law_allowed", none), "_law_allowed", "_law_allowed", defArgs s__law_allowed, defBody s__law_allowed, defScope s__law_allowed, [], []⟩
def dd__law_gcd : He.DefD := ⟨("_law_gcd", none), "_law_gcd", "_law_gcd", defArgs s__law_gcd, defBody s__law_gcd, defScope s__law_gcd, [], []⟩
def dd__law_pascal : He.DefD := ⟨("_law_pascal", none), "_law_pascal", "_law_pascal", defArgs s__law_pascal, defBody s__law_pascal, defScope s__law_pascal, [], []⟩
def dd__law_barred : He.DefD := ⟨("_law_barred", none), "_law_barred", "_law_barred", defArgs s__law_barred, defBody s__law_barred, defScope s__law_barred, [], []⟩
def dd__law_binom : He.DefD := ⟨("_law_binom", none), "_law_binom", "_law_binom", defArgs s__law_binom, defBody s__law_binom, defScope s__law_binom, [], []⟩
def dd__law_told : He.DefD := ⟨("_law_told", none), "_law_told", "_law_told", defArgs s__law_told, defBody s__law_told, defScope s__law_told, [], []⟩
def dd_allowed_in : He.DefD := ⟨("allowed_in", none), "allowed_in", "allowed_in", defArgs s_allowed_in, defBody s_allowed_in, defScope s_allowed_in, [], []⟩
def dd_choose : He.DefD := ⟨("choose", none), "choose", "choose", defArgs s_choose, defBody s_choose, defScope s_choose, [], []⟩
def dd_factor_of : He.DefD := ⟨("factor_of", none), "factor_of", "factor_of", defArgs s_factor_of, defBody s_factor_of, defScope s_factor_of, [], []⟩
def dd_common_in : He.DefD := ⟨("common_in", none), "common_in", "common_in", defArgs s_common_in, defBody s_common_in, defScope s_common_in, [], []⟩
def dd_barring_group : He.DefD := ⟨("barring_group", none), "barring_group", "barring_group", defArgs s_barring_group, defBody s_barring_group, defScope s_barring_group, [], []⟩
def dd_is_integer : He.DefD := ⟨("is_integer", none), "is_integer", "is_integer", defArgs s_is_integer, defBody s_is_integer, defScope s_is_integer, [], []⟩
def dd_is_between : He.DefD := ⟨("is_between", none), "is_between", "is_between", defArgs s_is_between, defBody s_is_between, defScope s_is_between, [], []⟩
def dd_require_number : He.DefD := ⟨("require_number", none), "require_number", "require_number", defArgs s_require_number, defBody s_require_number, defScope s_require_number, [], []⟩
def dd_require_both : He.DefD := ⟨("require_both", none), "require_both", "require_both", defArgs s_require_both, defBody s_require_both, defScope s_require_both, [], []⟩
def dd_barred_paper : He.DefD := ⟨("barred_paper", none), "barred_paper", "barred_paper", defArgs s_barred_paper, defBody s_barred_paper, defScope s_barred_paper, [], []⟩
def dd_is_barred_in : He.DefD := ⟨("is_barred_in", none), "is_barred_in", "is_barred_in", defArgs s_is_barred_in, defBody s_is_barred_in, defScope s_is_barred_in, [], []⟩
def dd_whole_sum : He.DefD := ⟨("whole_sum", none), "whole_sum", "whole_sum", defArgs s_whole_sum, defBody s_whole_sum, defScope s_whole_sum, [], []⟩
def dd_near_zero : He.DefD := ⟨("near_zero", none), "near_zero", "near_zero", defArgs s_near_zero, defBody s_near_zero, defScope s_near_zero, [], []⟩
def dd_free_paper : He.DefD := ⟨("free_paper", none), "free_paper", "free_paper", defArgs s_free_paper, defBody s_free_paper, defScope s_free_paper, [], []⟩
def dd_is_barred : He.DefD := ⟨("is_barred", none), "is_barred", "is_barred", defArgs s_is_barred, defBody s_is_barred, defScope s_is_barred, [], []⟩
def dd_is_barred_paper : He.DefD := ⟨("is_barred_paper", none), "is_barred_paper", "is_barred_paper", defArgs s_is_barred_paper, defBody s_is_barred_paper, defScope s_is_barred_paper, [], []⟩
def dd_is_free_row : He.DefD := ⟨("is_free_row", none), "is_free_row", "is_free_row", defArgs s_is_free_row, defBody s_is_free_row, defScope s_is_free_row, [], []⟩
def dd_is_free_paper : He.DefD := ⟨("is_free_paper", none), "is_free_paper", "is_free_paper", defArgs s_is_free_paper, defBody s_is_free_paper, defScope s_is_free_paper, [], []⟩
def dd__law_pair_right : He.DefD := ⟨("_law_pair_right", none), "_law_pair_right", "_law_pair_right", defArgs s__law_pair_right, defBody s__law_pair_right, defScope s__law_pair_right, [], []⟩
def dd__law_spoon : He.DefD := ⟨("_law_spoon", none), "_law_spoon", "_law_spoon", defArgs s__law_spoon, defBody s__law_spoon, defScope s__law_spoon, [], []⟩
def dd__law_pick_of : He.DefD := ⟨("_law_pick_of", none), "_law_pick_of", "_law_pick_of", defArgs s__law_pick_of, defBody s__law_pick_of, defScope s__law_pick_of, [], []⟩
def dd_law : He.DefD := ⟨("law", none), "law", "law", defArgs s_law, defBody s_law, defScope s_law, [], []⟩
def fn : List He.DefD := [dd__law_dish, dd__law_allowed, dd__law_gcd, dd__law_pascal, dd__law_barred, dd__law_binom, dd__law_told, dd_allowed_in, dd_choose, dd_factor_of, dd_common_in, dd_barring_group, dd_is_integer, dd_is_between, dd_require_number, dd_require_both, dd_barred_paper, dd_is_barred_in, dd_whole_sum, dd_near_zero, dd_free_paper, dd_is_barred, dd_is_barred_paper, dd_is_free_row, dd_is_free_paper, dd__law_pair_right, dd__law_spoon, dd__law_pick_of, dd_law]
def fa : List He.Fa := [.glo "_law_dish", .glo "_law_allowed", .glo "_law_gcd", .glo "_law_pascal", .glo "_law_barred", .glo "_law_binom", .glo "_law_told", .glo "allowed_in", .glo "choose", .glo "factor_of", .glo "common_in", .glo "barring_group", .glo "is_integer", .glo "is_between", .glo "require_number", .glo "require_both", .glo "barred_paper", .glo "is_barred_in", .glo "whole_sum", .glo "near_zero", .glo "free_paper", .glo "is_barred", .glo "is_barred_paper", .glo "is_free_row", .glo "is_free_paper", .glo "_law_pair_right", .glo "_law_spoon", .glo "_law_pick_of", .glo "law", .free "abs", .free "all", .free "bool", .free "enumerate", .free "int", .free "isinstance", .free "len", .free "list", .free "max", .free "min", .free "next", .free "range", .free "repr", .free "str", .free "sum", .free "tuple", .free "zip", .str "FEW" "few", .int "GREATEST" 1000000000000000000000000000000000000000000000000000000000000, .str "GROUP" "group", .int "MAX_LIST" 200, .int "MAX_SIZE" 60, .exc "InvalidOperation", .glo "InvalidOperation", .exm "InvalidOperation" "InvalidOperation" true]
def tf : List He.Defn := [("barring_group", none), ("_law_pair_right", none)]
def names0 : List PySem.Str := ["FewError", "InvalidOperation", "InvalidNumber", "GREATEST", "is_integer", "is_between", "require_number", "MAX_SIZE", "MAX_LIST", "FEW", "GROUP", "choose", "factor_of", "common_in", "allowed_in", "require_both", "barring_group", "is_barred_in", "is_barred", "barred_paper", "is_barred_paper", "whole_sum", "near_zero", "free_paper", "is_free_row", "is_free_paper", "_law_dish", "_law_spoon", "_law_pick_of", "_law_pascal"]
def names1 : List PySem.Str := ["_law_gcd", "_law_allowed", "_law_barred", "_law_told", "_law_binom", "_law_pair_right"]
def names : List PySem.Str := names0 ++ names1
def lamL (K : PySem.W.Frag) : List (Addr × Str) := [((He.cT K ("_law_pair_right", none)).2, (("_law_pair_right" : Str) ++ Str.ofString ".<locals>.") ++ ("<lambda>" : Str))]
abbrev R : PySem.W.OpenRow := PySem.W.OpenLaw.row PySem.Challenge.rw_fewnames_k36_whole_barred_numbers_and_pa
abbrev hk : PySem.W.Hook := He.hookX 4 fa fn [] tf (tabsNd tf)
def ob (s : PySem.W.SharedT) : He.AlX := He.obsX 4 fa fn [] tf (tabsNd tf) (HandSHeadRun.getT s)
theorem ob_eq (s : PySem.W.SharedT) : ob s = hk.obs s.abs := He.obsX_eq (HandSHeadRun.getT_eq s)
theorem run (w : World) : HandSHeadRun.RunEq R (PySem.W.view R.prog [40]) hk ob 6000 names w := by
  intro os
  kernel_rfl
theorem fx {K : PySem.W.Frag} {h base : Heap} {mg : Str → Option Value} {w : World} (X : K.In h) (G : h.Ns mainGlobals mg) (c : He.SaysX fa fn [] tf (tabsNd tf) w h K) (tb : ∀ p ∈ tf.map (He.cT K), LamX.TabB base mg p.1 p.2) :
    @Fx ⟨(tf.map (He.cT K)).map (·.2), lamL K⟩ K mg base := by
  letI : Tabs := ⟨(tf.map (He.cT K)).map (·.2), lamL K⟩
  have c1 := c.t.d
  refine ⟨
(by obtain ⟨fd, F⟩ := c1.def_ 0 (d := dd__law_dish) rfl; exact ⟨fd, funC_of F⟩),
    He.glo_ok X G (c1.fact 0 (f := .glo "_law_dish") rfl),
    (by obtain ⟨fd, F⟩ := c1.def_ 1 (d := dd__law_allowed) rfl; exact ⟨fd, funC_of F⟩),
    He.glo_ok X G (c1.fact 1 (f := .glo "_law_allowed") rfl),
    (by obtain ⟨fd, F⟩ := c1.def_ 2 (d := dd__law_gcd) rfl; exact ⟨fd, funC_of F⟩),
    He.glo_ok X G (c1.fact 2 (f := .glo "_law_gcd") rfl),
    (by obtain ⟨fd, F⟩ := c1.def_ 3 (d := dd__law_pascal) rfl; exact ⟨fd, funC_of F⟩),
    He.glo_ok X G (c1.fact 3 (f := .glo "_law_pascal") rfl),
    (by obtain ⟨fd, F⟩ := c1.def_ 4 (d := dd__law_barred) rfl; exact ⟨fd, funC_of F⟩),
    He.glo_ok X G (c1.fact 4 (f := .glo "_law_barred") rfl),
    (by obtain ⟨fd, F⟩ := c1.def_ 5 (d := dd__law_binom) rfl; exact ⟨fd, funC_of F⟩),
    He.glo_ok X G (c1.fact 5 (f := .glo "_law_binom") rfl),
    (by obtain ⟨fd, F⟩ := c1.def_ 6 (d := dd__law_told) rfl; exact ⟨fd, funC_of F⟩),
    He.glo_ok X G (c1.fact 6 (f := .glo "_law_told") rfl),
    (by obtain ⟨fd, F⟩ := c1.def_ 7 (d := dd_allowed_in) rfl; exact ⟨fd, funC_of F⟩),
    He.glo_ok X G (c1.fact 7 (f := .glo "allowed_in") rfl),
    (by obtain ⟨fd, F⟩ := c1.def_ 8 (d := dd_choose) rfl; exact ⟨fd, funC_of F⟩),
    He.glo_ok X G (c1.fact 8 (f := .glo "choose") rfl),
    (by obtain ⟨fd, F⟩ := c1.def_ 9 (d := dd_factor_of) rfl; exact ⟨fd, funC_of F⟩),
    He.glo_ok X G (c1.fact 9 (f := .glo "factor_of") rfl),
    (by obtain ⟨fd, F⟩ := c1.def_ 10 (d := dd_common_in) rfl; exact ⟨fd, funC_of F⟩),
    He.glo_ok X G (c1.fact 10 (f := .glo "common_in") rfl),
    (by obtain ⟨fd, F⟩ := c1.def_ 11 (d := dd_barring_group) rfl; exact ⟨fd, funC_of F⟩),
    He.glo_ok X G (c1.fact 11 (f := .glo "barring_group") rfl),
    tabB_of (tb (He.cT K ("barring_group", none)) (List.mem_map.mpr ⟨("barring_group", none), by simp [tf], rfl⟩)),
    List.mem_map.mpr ⟨He.cT K ("barring_group", none), List.mem_map.mpr ⟨("barring_group", none), by simp [tf], rfl⟩, rfl⟩,
    fun q hq => by
      have hq : _ ∈ lamL K := hq
      simp only [lamL, List.mem_cons, List.not_mem_nil, or_false, Prod.mk.injEq] at hq
      rcases hq with ⟨e, _⟩
      · exact absurd (tabsNd_inj c.more (p := ("barring_group", none)) (q := ("_law_pair_right", none)) (by simp [tf]) (by simp [tf]) e) (by decide +kernel),
    (by obtain ⟨fd, F⟩ := c1.def_ 12 (d := dd_is_integer) rfl; exact ⟨fd, funC_of F⟩),
    He.glo_ok X G (c1.fact 12 (f := .glo "is_integer") rfl),
    (by obtain ⟨fd, F⟩ := c1.def_ 13 (d := dd_is_between) rfl; exact ⟨fd, funC_of F⟩),
    He.glo_ok X G (c1.fact 13 (f := .glo "is_between") rfl),
    (by obtain ⟨fd, F⟩ := c1.def_ 14 (d := dd_require_number) rfl; exact ⟨fd, funC_of F⟩),
    He.glo_ok X G (c1.fact 14 (f := .glo "require_number") rfl),
    (by obtain ⟨fd, F⟩ := c1.def_ 15 (d := dd_require_both) rfl; exact ⟨fd, funC_of F⟩),
    He.glo_ok X G (c1.fact 15 (f := .glo "require_both") rfl),
    (by obtain ⟨fd, F⟩ := c1.def_ 16 (d := dd_barred_paper) rfl; exact ⟨fd, funC_of F⟩),
    He.glo_ok X G (c1.fact 16 (f := .glo "barred_paper") rfl),
    (by obtain ⟨fd, F⟩ := c1.def_ 17 (d := dd_is_barred_in) rfl; exact ⟨fd, funC_of F⟩),
    He.glo_ok X G (c1.fact 17 (f := .glo "is_barred_in") rfl),
    (by obtain ⟨fd, F⟩ := c1.def_ 18 (d := dd_whole_sum) rfl; exact ⟨fd, funC_of F⟩),
    He.glo_ok X G (c1.fact 18 (f := .glo "whole_sum") rfl),
    (by obtain ⟨fd, F⟩ := c1.def_ 19 (d := dd_near_zero) rfl; exact ⟨fd, funC_of F⟩),
    He.glo_ok X G (c1.fact 19 (f := .glo "near_zero") rfl),
    (by obtain ⟨fd, F⟩ := c1.def_ 20 (d := dd_free_paper) rfl; exact ⟨fd, funC_of F⟩),
    He.glo_ok X G (c1.fact 20 (f := .glo "free_paper") rfl),
    (by obtain ⟨fd, F⟩ := c1.def_ 21 (d := dd_is_barred) rfl; exact ⟨fd, funC_of F⟩),
    He.glo_ok X G (c1.fact 21 (f := .glo "is_barred") rfl),
    (by obtain ⟨fd, F⟩ := c1.def_ 22 (d := dd_is_barred_paper) rfl; exact ⟨fd, funC_of F⟩),
    He.glo_ok X G (c1.fact 22 (f := .glo "is_barred_paper") rfl),
    (by obtain ⟨fd, F⟩ := c1.def_ 23 (d := dd_is_free_row) rfl; exact ⟨fd, funC_of F⟩),
    He.glo_ok X G (c1.fact 23 (f := .glo "is_free_row") rfl),
    (by obtain ⟨fd, F⟩ := c1.def_ 24 (d := dd_is_free_paper) rfl; exact ⟨fd, funC_of F⟩),
    He.glo_ok X G (c1.fact 24 (f := .glo "is_free_paper") rfl),
    (by obtain ⟨fd, F⟩ := c1.def_ 25 (d := dd__law_pair_right) rfl; exact ⟨fd, funC_of F⟩),
    He.glo_ok X G (c1.fact 25 (f := .glo "_law_pair_right") rfl),
    tabB_of (tb (He.cT K ("_law_pair_right", none)) (List.mem_map.mpr ⟨("_law_pair_right", none), by simp [tf], rfl⟩)),
    List.mem_map.mpr ⟨He.cT K ("_law_pair_right", none), List.mem_map.mpr ⟨("_law_pair_right", none), by simp [tf], rfl⟩, rfl⟩,
    by show _ ∈ lamL K; simp [lamL],
    fun p hp e => by
      have hp : p ∈ lamL K := hp
      simp only [lamL, List.mem_cons, List.not_mem_nil, or_false] at hp
      rcases hp with rfl
      · rfl,
    (by obtain ⟨fd, F⟩ := c1.def_ 26 (d := dd__law_spoon) rfl; exact ⟨fd, funC_of F⟩),
    He.glo_ok X G (c1.fact 26 (f := .glo "_law_spoon") rfl),
    (by obtain ⟨fd, F⟩ := c1.def_ 27 (d := dd__law_pick_of) rfl; exact ⟨fd, funC_of F⟩),
    He.glo_ok X G (c1.fact 27 (f := .glo "_law_pick_of") rfl),
    (by obtain ⟨fd, F⟩ := c1.def_ 28 (d := dd_law) rfl; exact ⟨fd, funC_of F⟩),
    He.glo_ok X G (c1.fact 28 (f := .glo "law") rfl),
    (by obtain ⟨a, b, c, d⟩ := He.exc_ok (c1.fact 51 (f := .exc "InvalidOperation") rfl); exact ⟨a, b, c, d, He.glo_ok X G (c1.fact 52 (f := .glo "InvalidOperation") rfl)⟩),
    (fun c b e => by
      unfold ct at e
      by_cases z0 : c = "InvalidOperation"
      · rw [if_pos z0] at e; cases e; rw [z0]; exact He.exm_ok (c1.fact 53 (f := .exm "InvalidOperation" "InvalidOperation" true) rfl)
      rw [if_neg z0] at e
      cases e),
    He.free_ok X G (c1.fact 29 (f := .free "abs") rfl),
    He.free_ok X G (c1.fact 30 (f := .free "all") rfl),
    He.free_ok X G (c1.fact 31 (f := .free "bool") rfl),
    He.free_ok X G (c1.fact 32 (f := .free "enumerate") rfl),
    He.free_ok X G (c1.fact 33 (f := .free "int") rfl),
    He.free_ok X G (c1.fact 34 (f := .free "isinstance") rfl),
    He.free_ok X G (c1.fact 35 (f := .free "len") rfl),
    He.free_ok X G (c1.fact 36 (f := .free "list") rfl),
    He.free_ok X G (c1.fact 37 (f := .free "max") rfl),
    He.free_ok X G (c1.fact 38 (f := .free "min") rfl),
    He.free_ok X G (c1.fact 39 (f := .free "next") rfl),
    He.free_ok X G (c1.fact 40 (f := .free "range") rfl),
    He.free_ok X G (c1.fact 41 (f := .free "repr") rfl),
    He.free_ok X G (c1.fact 42 (f := .free "str") rfl),
    He.free_ok X G (c1.fact 43 (f := .free "sum") rfl),
    He.free_ok X G (c1.fact 44 (f := .free "tuple") rfl),
    He.free_ok X G (c1.fact 45 (f := .free "zip") rfl),
    He.str_ok X G (c1.fact 46 (f := .str "FEW" "few") rfl),
    He.int_ok X G (c1.fact 47 (f := .int "GREATEST" 1000000000000000000000000000000000000000000000000000000000000) rfl),
    He.str_ok X G (c1.fact 48 (f := .str "GROUP" "group") rfl),
    He.int_ok X G (c1.fact 49 (f := .int "MAX_LIST" 200) rfl),
    He.int_ok X G (c1.fact 50 (f := .int "MAX_SIZE" 60) rfl)⟩
theorem fin {w : World} {mg : Str → Option Value} {f : Addr} {h : Heap} {K : PySem.W.Frag} (KX : K.In h) (G : h.Ns mainGlobals mg) (hmg : mg ("law" : Str) = some (.ref f)) (c : He.SaysX fa fn [] tf (tabsNd tf) w h K)
    (hF : ∀ ns : List Int, ns.length ≤ 63 → (∀ z ∈ ns, Builtin.Int.intBits z ≤ 1048576) → ∃ m as', F_law m [.dat (.scr ns)] = some (.dat (.bl true), as')) : LawAtG PySem.Challenge.rw_fewnames_k36_whole_barred_numbers_and_pa w K 10 63 "script" mg f h := by
  letI : Tabs := ⟨(tf.map (He.cT K)).map (·.2), lamL K⟩
  have e1 := hmg.symm.trans (He.glo_ok KX G (c.t.d.fact 28 (f := .glo "law") rfl))
  cases e1
  obtain ⟨fd, F⟩ := c.t.d.def_ 28 (d := dd_law) rfl
  have b := FunD.bindsA (ps := ["script"]) F fun _ _ _ _ _ _ us hl => match us, hl with | [_], _ => rfl
  refine ⟨fd, tf.map (He.cT K), spI K 1 F_law, fun p hp => ?_, fun p hp => ?_, fun p hp => ?_, fun s v => b s [v] rfl, fun H a ns hl hz hT hS => sp_law (L := lamL K) (fun p hp => by simp only [lamL, List.mem_cons, List.not_mem_nil, or_false] at hp; first | exact absurd hp (by simp) | (subst hp; simp [tf])) hF H a ns hl hz hT hS, fun base KB GB TB => ?_⟩
  · obtain ⟨q, hq, e⟩ := List.mem_map.mp hp
    rw [← e]; exact c.empty q hq
  · obtain ⟨q, hq, e⟩ := List.mem_map.mp hp
    rw [← e]; exact c.out q hq
  · obtain ⟨q, hq, e⟩ := List.mem_map.mp hp
    rw [← e]; exact PySem.W.codeHd_of_K KX (c.hd q hq)
  · have hx := fx KX G c TB
    exact dfn_ok (g := g_law) (funC_of (x := "law") (st := s_law) F) sc_law (fun n A outer s H E hr => d_law hx n hr)
/-- the law, from the plain one -/
theorem law_holds (hF : ∀ ns : List Int, ns.length ≤ 63 → (∀ z ∈ ns, Builtin.Int.intBits z ≤ 1048576) → ∃ m as', F_law m [.dat (.scr ns)] = some (.dat (.bl true), as')) : PySem.Challenge.rw_fewnames_k36_whole_barred_numbers_and_pa.Holds := by
  open PySem.W PySem.Calls in
  w_on; o_law
  refine HandSHeadRun.head_any (r := PySem.W.OpenLaw.row PySem.Challenge.rw_fewnames_k36_whole_barred_numbers_and_pa) (q := PySem.W.view (PySem.W.OpenLaw.row PySem.Challenge.rw_fewnames_k36_whole_barred_numbers_and_pa).prog [40]) (H := hk) (ob := ob) (M := 6000) (loose := names) (d := HandSHeadRun.topDef (PySem.W.OpenLaw.row PySem.Challenge.rw_fewnames_k36_whole_barred_numbers_and_pa).prog 40) (kwd := []) ob_eq
    (by kernel_rfl) (fun s => by kernel_rfl) run (by kernel_rfl) (by kernel_rfl) (by kernel_rfl) (by rfl) (by first | assumption | decide +kernel) (by decide +kernel) ⟨rfl, rfl, rfl, rfl, rfl, by decide +kernel⟩ ?hw ?hc
  case hw => w_witness2
  case hc =>
    refine M.walk_G (l := PySem.Challenge.rw_fewnames_k36_whole_barred_numbers_and_pa) (n := 63) (k := 10) (x := "script") rfl (by decide) (by kernel_rfl) ⟨⟨rfl, by decide, by decide⟩, rfl⟩ ?F
    intro w mg f h Y G hmg0
    obtain ⟨K, KX, c⟩ := Y
    have hmg : mg ("law" : PySem.Str) = some (.ref f) := by
      have e : (HandSHeadRun.topDef (PySem.W.OpenLaw.row PySem.Challenge.rw_fewnames_k36_whole_barred_numbers_and_pa).prog 40).name = ("law" : PySem.Str) := by kernel_rfl
      rw [← e]
      exact hmg0
    exact ⟨K, KX, fin KX G hmg c hF⟩
end Lk

namespace Lk
open PySem PySem.Spec PyProof.Rows L2 M
/-! choose -/
def chM (t : Int) : Nat → Int
  | 0 => 1
  | k + 1 => chM t k * (t - k) / (k + 1)
theorem small_le {i : Int} (h1 : -1000 ≤ i) (h2 : i ≤ 1000) : small i = true := by rw [small_iff]; omega
theorem small62_le {i : Int} (h1 : -1000 ≤ i) (h2 : i ≤ 1000) : small62 i = true := by rw [small62_iff]; omega
theorem log_le {i : Int} (h1 : 0 ≤ i) (h2 : i ≤ 1000) : i.natAbs.log2 < 9000 := by
  have : i.natAbs < 2 ^ 9000 := Nat.lt_of_le_of_lt (show i.natAbs ≤ 1000 by omega) (by decide +kernel)
  by_cases z : i.natAbs = 0
  · rw [z]; decide
  · exact (Nat.log2_lt z).mpr this
theorem choose_eq (n : Nat) (t : Int) (k : Nat) (ht : 0 ≤ t) (ht2 : t ≤ 60) (hk : k ≤ 60) : ∃ as', F_choose n [.dat (.int t), .dat (.int k)] = some (.dat (.int (chM t k)), as') := by
  let R : Nat → Rho → Prop := fun m ρ => ∃ s, ρ = [some (.dat (.int t)), some (.dat (.int k)), some (.dat (.int (chM t m))), s] ∧ isIo ρ 3 = false
  obtain ⟨ρ', e, s, rfl, hs⟩ := forL_rg (tg := tName 3) (body := sSet 2 (e2 fdivD (e2 mulD (eV 2) (e2 subD (eV 0) (eV 3))) (e2 addD (eV 3) (eC (.int 1))))) R 0 k (fun m hm ρ ⟨s, e, hs⟩ => by
    subst e
    have h1 : small (t - m) = true := small_le (by omega) (by omega)
    have h2 : (0 : Int) < m + 1 := by omega
    have h3 : ((m : Int) + 1).natAbs.log2 < 9000 := log_le (by omega) (by omega)
    refine ⟨[some (.dat (.int t)), some (.dat (.int k)), some (.dat (.int (chM t m))), some (.dat (.int m))], [some (.dat (.int t)), some (.dat (.int k)), some (.dat (.int (chM t (m + 1)))), some (.dat (.int m))], ?_, ?_, ⟨_, rfl, rfl⟩⟩
    · simp only [tName, hs, Int.zero_add]; rfl
    · simp [sSet, bndS, e2, bnd, eV, eC, Rz.bind, ofO, frc_eq, subD, addD, mulD, fdivD, h1, h2, h3, isIo, chM]) [some (.dat (.int t)), some (.dat (.int k)), some (.dat (.int 1)), none] ⟨none, rfl, rfl⟩
  refine ⟨_, runB_rt (s := .dat (.int (chM t k))) (ρ := [some (.dat (.int t)), some (.dat (.int k)), some (.dat (.int (chM t k))), s]) rfl ?_⟩
  show g_choose n [some (.dat (.int t)), some (.dat (.int k)), none, none] = _
  have hr : small62 k = true := small62_le (by omega) (by omega)
  unfold g_choose
  rw [seq_nx (ρ1 := [some (.dat (.int t)), some (.dat (.int k)), some (.dat (.int 1)), none]) (by simp [sSet, bndS, eC, Rz.bind, isIo])]
  rw [seq_nx (ρ1 := [some (.dat (.int t)), some (.dat (.int k)), some (.dat (.int (chM t k))), s]) (by
    simp only [sFor, iRg, aCons, aNil, eV, Rz.bind, List.getElem?_cons_succ, List.getElem?_cons_zero, rg1, hr, if_true, Int.toNat_natCast]
    exact e)]
  simp [sRet, bndS, eV, Rz.bind]
/-! rows of Pascal -/
def nextRow (r : List Int) : List Int := [1] ++ (List.range (r.length - 1)).map (fun i => r.getD i 0 + r.getD (i + 1) 0) ++ [1]
def pasc : Nat → List Int
  | 0 => [1]
  | m + 1 => nextRow (pasc m)
theorem pasc_len : ∀ m, (pasc m).length = m + 1
  | 0 => rfl
  | m + 1 => by simp [pasc, nextRow, pasc_len m]
theorem row_step (ρ0 ρ2 : Option Sl) (r : List Int) (hl : 0 < r.length) (hl2 : r.length ≤ 100) :
    sSet 1 (e2 addD (e2 addD (eLst (aCons (eC (.int 1)) aNil)) (eFz (oLc (iRg rg1 (aCons (e2 subD (eB lenD (aCons (eV 1) aNil)) (eC (.int 1))) aNil)) (tName 3) tYesD (e2 addD (e2 ixD (eV 1) (eV 3)) (e2 ixD (eV 1) (e2 addD (eV 3) (eC (.int 1))))) [3]))) (eLst (aCons (eC (.int 1)) aNil))) [ρ0, some (.dat (.lst (r.map D.int))), ρ2, none] =
      .ok (.nx, [ρ0, some (.dat (.lst ((nextRow r).map D.int))), ρ2, none]) := by
  have h62 : small62 ((r.length : Int) - 1) = true := small62_le (by omega) (by omega)
  have hlc := lc_map (fi := iRg rg1 (aCons (e2 subD (eB lenD (aCons (eV 1) aNil)) (eC (.int 1))) aNil)) (tg := tName 3) (fe := e2 addD (e2 ixD (eV 1) (eV 3)) (e2 ixD (eV 1) (e2 addD (eV 3) (eC (.int 1))))) (vs := [3]) (ρ := [ρ0, some (.dat (.lst (r.map D.int))), ρ2, none]) (ρ0 := [ρ0, some (.dat (.lst (r.map D.int))), ρ2, none])
    (ds := rgD 0 (r.length - 1)) (fun d => match d with | .int i => .int (r.getD i.toNat 0 + r.getD (i.toNat + 1) 0) | d => d)
    (by simp [iRg, aCons, aNil, e2, bnd, eB, bndA, eV, eC, Rz.bind, ofO, frc_eq, lenD, subD, rg1, h62]) rfl (fun d hd => by
      obtain ⟨k, hk, rfl⟩ := rgD_mem hd
      have k1 : k < r.length := by omega
      have k2 : k + 1 < r.length := by omega
      have k3 : (k : Int) + 1 < r.length := by omega
      refine ⟨[ρ0, some (.dat (.lst (r.map D.int))), ρ2, some (.dat (.int k))], [ρ0, some (.dat (.lst (r.map D.int))), ρ2, some (.dat (.int k))], ?_, ?_, rfl, rfl⟩
      · simp [tName, wipeR, isIo]
      · have c1 : ((k : Int) + 1).toNat = k + 1 := by omega
        have c2 : (0 : Int) ≤ (k : Int) + 1 := by omega
        simp [e2, bnd, eV, eC, Rz.bind, ofO, frc_eq, addD, ixD, atI, ixN, iLt_eq, k1, k2, k3, c1, c2]) rfl (by simp [rgD, sizeLine]; omega)
  have hm : (rgD 0 (r.length - 1)).map (fun d => match d with | .int i => D.int (r.getD i.toNat 0 + r.getD (i.toNat + 1) 0) | d => d) = ((List.range (r.length - 1)).map (fun i => r.getD i 0 + r.getD (i + 1) 0)).map D.int := by
    simp [rgD]
  rw [hm] at hlc
  have z0 : (500 : Nat) ≤ sizeLine := by decide +kernel
  have a1 : addD (.lst [.int 1]) (.lst (((List.range (r.length - 1)).map (fun i => r.getD i 0 + r.getD (i + 1) 0)).map D.int)) = some (.lst ([D.int 1] ++ ((List.range (r.length - 1)).map (fun i => r.getD i 0 + r.getD (i + 1) 0)).map D.int)) := if_pos (by simp; omega)
  have a2 : addD (.lst ([D.int 1] ++ ((List.range (r.length - 1)).map (fun i => r.getD i 0 + r.getD (i + 1) 0)).map D.int)) (.lst [.int 1]) = some (.lst ([D.int 1] ++ ((List.range (r.length - 1)).map (fun i => r.getD i 0 + r.getD (i + 1) 0)).map D.int ++ [D.int 1])) := if_pos (by simp; omega)
  have l1 : ∀ ρ, eLst (aCons (eC (.int 1)) aNil) ρ = .ok (.lst [.int 1], ρ) := fun ρ => by simp [eLst, bndA, aCons, aNil, eC, Rz.bind, sizeLine]
  rw [set_ok (e2_ok (e2_ok (l1 _) (fz_ok hlc) a1) (l1 _) a2) rfl]
  simp [nextRow]
theorem pascal_eq (n m : Nat) (hm : m ≤ 60) : ∃ as', F__law_pascal n [.dat (.int m)] = some (.dat (.lst ((pasc m).map D.int)), as') := by
  let R : Nat → Rho → Prop := fun k ρ => ∃ s, ρ = [some (.dat (.int m)), some (.dat (.lst ((pasc k).map D.int))), s, none] ∧ isIo ρ 2 = false
  obtain ⟨ρ', e, s, rfl, hs⟩ := forL_rg (tg := tName 2) (body := sSet 1 (e2 addD (e2 addD (eLst (aCons (eC (.int 1)) aNil)) (eFz (oLc (iRg rg1 (aCons (e2 subD (eB lenD (aCons (eV 1) aNil)) (eC (.int 1))) aNil)) (tName 3) tYesD (e2 addD (e2 ixD (eV 1) (eV 3)) (e2 ixD (eV 1) (e2 addD (eV 3) (eC (.int 1))))) [3]))) (eLst (aCons (eC (.int 1)) aNil)))) R 0 m (fun k hk ρ ⟨s, e, hs⟩ => by
    subst e
    refine ⟨[some (.dat (.int m)), some (.dat (.lst ((pasc k).map D.int))), some (.dat (.int k)), none], _, ?_, row_step _ _ (pasc k) (by rw [pasc_len]; omega) (by rw [pasc_len]; omega), ⟨_, rfl, rfl⟩⟩
    simp only [tName, hs, Int.zero_add]; rfl) [some (.dat (.int m)), some (.dat (.lst [.int 1])), none, none] ⟨none, rfl, rfl⟩
  refine ⟨_, runB_rt (s := .dat (.lst ((pasc m).map D.int))) (ρ := [some (.dat (.int m)), some (.dat (.lst ((pasc m).map D.int))), s, none]) rfl ?_⟩
  show g__law_pascal n [some (.dat (.int m)), none, none, none] = _
  have hr : small62 m = true := small62_le (by omega) (by omega)
  unfold g__law_pascal
  rw [seq_nx (ρ1 := [some (.dat (.int m)), some (.dat (.lst [.int 1])), none, none]) (by simp [sSet, bndS, eLst, bndA, aCons, aNil, eC, Rz.bind, isIo, sizeLine])]
  rw [seq_nx (ρ1 := [some (.dat (.int m)), some (.dat (.lst ((pasc m).map D.int))), s, none]) (by
    simp only [sFor, iRg, aCons, aNil, eV, Rz.bind, List.getElem?_cons_succ, List.getElem?_cons_zero, rg1, hr, if_true, Int.toNat_natCast]
    exact e)]
  simp [sRet, bndS, eV, Rz.bind]
theorem binom_eq (n m k : Nat) (hm : m ≤ 60) (hk : k ≤ m) : ∃ as', F__law_binom n [.dat (.int m), .dat (.int k)] = some (.dat (.int ((pasc m).getD k 0)), as') := by
  obtain ⟨as', hp⟩ := pascal_eq n m hm
  refine ⟨_, runB_rt (s := .dat (.int ((pasc m).getD k 0))) (ρ := [some (.dat (.int m)), some (.dat (.int k)), some (.dat (.lst ((pasc m).map D.int)))]) rfl ?_⟩
  show g__law_binom n [some (.dat (.int m)), some (.dat (.int k)), none] = _
  have e1 : eCall F__law_pascal n (rCons (eV 0) rNil) [some (.dat (.int m)), some (.dat (.int k)), none] = .ok (.lst ((pasc m).map D.int), [some (.dat (.int m)), some (.dat (.int k)), none]) :=
    call_d (ds := [.int m]) (by simp [rCons, rNil, eV, Rz.bind]) hp
  have hl : k < (pasc m).length := by rw [pasc_len]; omega
  have h1 : (k : Int) < m + 1 := by omega
  have h2 : ¬ ((k : Int) < 0) := by omega
  unfold g__law_binom
  simp [sSeq, sSet, bndS, e1, Rz.bind, isIo, sRet, eIf, bndT, M.tB, bnd_T, eInRg, bnd, bndA, aCons, aNil, e2, eV, eC, ofO, frc_eq, addD, inRgD, rgPr, iLt_eq, h1, h2, ixD, atI, ixN, hl]
/-! tables -/
theorem tab1 : (List.range 61).all (fun m => (List.range (m + 1)).all fun k => chM m k == (pasc m).getD k 0) = true := by decide +kernel
end Lk

namespace Lk
open PySem PySem.Spec PyProof.Rows L2 M
/-! spoons -/
def spoonA (x y z t : Int) : Int × Int × Int := if 0 < x then (x % t, x / t, z) else
  (((((y + 32452843 * (z + 1)) % 1000000087 * ((y + 32452843 * (z + 1)) % 1000000087) + y / 1000003 + 6151 * (z + 1)) % 998244353 * (((y + 32452843 * (z + 1)) % 1000000087 * ((y + 32452843 * (z + 1)) % 1000000087) + y / 1000003 + 6151 * (z + 1)) % 998244353) + (y + 32452843 * (z + 1)) % 1000000087) % 1000000093) / 128 % t, x, z + 1)
theorem spoon_eq (n : Nat) (x y z t : Int) (ht : 0 < t) (ht2 : t.natAbs.log2 < 9000) :
    F__law_spoon n [.own true [.int x, .int y, .int z], .dat (.int t)] = some (.dat (.int (spoonA x y z t).1), [.own true [.int (spoonA x y z t).2.1, .int y, .int (spoonA x y z t).2.2], .dat (.int t)]) := by
  have h1 : small 32452843 = true := by decide
  have h2 : small 6151 = true := by decide
  have h3 : ∀ x, small (x % 1000000087) = true := fun x => small_mod x _ (by decide) (by decide)
  have h4 : ∀ x, small (x % 998244353) = true := fun x => small_mod x _ (by decide) (by decide)
  have h5 : (1000003 : Int).natAbs.log2 < 9000 := by decide +kernel
  have h6 : (128 : Int).natAbs.log2 < 9000 := by decide +kernel
  have h5' : Nat.log2 1000003 < 9000 := by decide +kernel
  have h6' : Nat.log2 128 < 9000 := by decide +kernel
  by_cases hx : 0 < x
  · refine (runB_rt (ρ := [some (.own true [.int (x / t), .int y, .int z]), some (.dat (.int t)), none, none, none, some (.dat (.int (x % t)))]) (s := .dat (.int (x % t))) rfl ?_).trans ?_
    · show g__law_spoon n [some (.own true [.int x, .int y, .int z]), some (.dat (.int t)), none, none, none, none] = _
      simp [hx, g__law_spoon, sSeq, sIf, bndTS, M.tB, bnd_T, bnd, e2, eIxO, eC, eV, ownL, Rz.bind, ofO, frc_eq, iLt_eq, ixD, atI, ixN, gtD, sSet, bndS, eB, bndA, aCons, aNil, M.intD, modD, ht, isIo, sItO, fdivD, ht2, sRet]
    · simp [spoonA, hx, ends]
  · refine (runB_rt (ρ := _) (s := .dat (.int (spoonA x y z t).1)) rfl (by
      show g__law_spoon n [some (.own true [.int x, .int y, .int z]), some (.dat (.int t)), none, none, none, none] = _
      simp [hx, g__law_spoon, sSeq, sIf, bndTS, M.tB, bnd_T, bnd, e2, eIxO, eC, eV, ownL, Rz.bind, ofO, frc_eq, iLt_eq, ixD, atI, ixN, gtD, sSet, bndS, eB, bndA, aCons, aNil, M.intD, modD, ht, isIo, sItO, fdivD, ht2, sRet, sNx, addD, mulD, h1, h2, h3, h4, h5, h6, h5', h6']
      exact ⟨by simp [spoonA, hx], rfl⟩)).trans ?_
    simp [spoonA, hx, ends]
theorem spoonA_rng (x y z t : Int) (ht : 0 < t) : 0 ≤ (spoonA x y z t).1 ∧ (spoonA x y z t).1 < t := by
  unfold spoonA
  split
  · exact ⟨Int.emod_nonneg _ (by omega), Int.emod_lt_of_pos _ ht⟩
  · exact ⟨Int.emod_nonneg _ (by omega), Int.emod_lt_of_pos _ ht⟩
/-- a dish: three ints -/
def dish (p : Int × Int × Int) : List D := [.int p.1, .int p.2.1, .int p.2.2]
/-- a spoon from a dish, in short -/
theorem spoon_ex (n : Nat) (p : Int × Int × Int) (t : Int) (ht : 0 < t) (ht2 : t ≤ 1000) : ∃ (r : Nat) (q : Int × Int × Int) (as' : M.Args), (r : Int) < t ∧ F__law_spoon n [.own true (dish p), .dat (.int t)] = some (.dat (.int r), .own true (dish q) :: as') := by
  obtain ⟨x, y, z⟩ := p
  have e := spoon_eq n x y z t ht (log_le (by omega) ht2)
  obtain ⟨h1, h2⟩ := spoonA_rng x y z t ht
  refine ⟨(spoonA x y z t).1.toNat, ((spoonA x y z t).2.1, y, (spoonA x y z t).2.2), [.dat (.int t)], by omega, ?_⟩
  have : (((spoonA x y z t).1.toNat : Nat) : Int) = (spoonA x y z t).1 := by omega
  rw [this]
  exact e
/-- .. as a call: the dish at slot j -/
theorem spoon_call (n j : Nat) (ρ : Rho) (io : Bool) (p : Int × Int × Int) (fe : FE) (t : Int) (hj : ownL ρ j = some (io, dish p)) (he : fe ρ = .ok (.int t, ρ)) (ht : 0 < t) (ht2 : t ≤ 1000) :
    ∃ (r : Nat) (q : Int × Int × Int), (r : Int) < t ∧ eCall F__law_spoon n (rOwn j (rCons fe rNil)) ρ = .ok (.int r, ρ.set j (some (.own io (dish q)))) := by
  obtain ⟨r, q, as', h1, h2⟩ := spoon_ex n p t ht ht2
  refine ⟨r, q, h1, call_o1 (ds := [.int t]) hj ?_ h2⟩
  simp [rOwn, rCons, rNil, he, Rz.bind, hj]
end Lk

namespace Lk
open PySem PySem.Spec PyProof.Rows L2 M
mutual
def okD : D → Bool
  | .non => true | .bl _ => true | .int _ => true | .str _ => true
  | .tup ds => okDs ds
  | .lst ds => okDs ds
  | .dic ks vs => ks.isEmpty && vs.isEmpty
  | _ => false
def okDs : List D → Bool
  | [] => true
  | d :: ds => okD d && okDs ds
end
theorem okDs_mem : ∀ {ds : List D} {d : D}, okDs ds = true → d ∈ ds → okD d = true
  | x :: xs, d, h, m => by
    simp only [okDs, Bool.and_eq_true] at h
    rcases List.mem_cons.mp m with e | e
    · rw [e]; exact h.1
    · exact okDs_mem h.2 e
theorem okDs_of : ∀ {ds : List D}, (∀ d ∈ ds, okD d = true) → okDs ds = true
  | [], _ => rfl
  | x :: xs, h => by
    simp only [okDs, Bool.and_eq_true]
    exact ⟨h x (List.mem_cons_self ..), okDs_of fun d m => h d (List.mem_cons_of_mem _ m)⟩
/-- an int below 10 ** 60 -/
def num : D → Bool | .int i => decide ((-1000000000000000000000000000000000000000000000000000000000000) < i) && decide (i < (1000000000000000000000000000000000000000000000000000000000000)) | _ => false
theorem isi_ty (d : D) (h : okD d = true) (c : String) (hc : c = "int" ∨ c = "bool" ∨ c = "str" ∨ c = "tuple") : isiD [d, .con (.ty c)] = some (.bl (match d, c with | .int _, "int" => true | .bl _, "int" => true | .bl _, "bool" => true | .str _, "str" => true | .tup _, "tuple" => true | _, _ => false)) := by
  rcases hc with e | e | e | e <;> subst e <;> cases d <;> first | rfl | (simp [okD] at h)
theorem isint_v (n : Nat) (d : D) (h : okD d = true) : Fv F_is_integer n [d] = some (.bl (num d)) := by
  refine Fv_rt (g := g_is_integer n) rfl rfl (ρ := [some (.dat d)]) ?_
  show g_is_integer n [some (.dat d)] = _
  have q1 := isi_ty d h "int" (.inl rfl)
  have q2 := isi_ty d h "bool" (.inr (.inl rfl))
  cases d with
  | int i =>
    by_cases a1 : (-1000000000000000000000000000000000000000000000000000000000000) < i
    · simp [g_is_integer, sRet, bndS, eAnd, eNot, eCh, eB, bndA, aCons, aNil, eV, eC, Rz.bind, ofO, frc_eq, q1, q2, bnd, trD, e1, negD, ltD, iLt_eq, a1, num]
    · simp [g_is_integer, sRet, bndS, eAnd, eNot, eCh, eB, bndA, aCons, aNil, eV, eC, Rz.bind, ofO, frc_eq, q1, q2, bnd, trD, e1, negD, ltD, iLt_eq, a1, num]
  | bl b => simp [g_is_integer, sRet, bndS, eAnd, eNot, eCh, eB, bndA, aCons, aNil, eV, eC, Rz.bind, ofO, frc_eq, q1, q2, bnd, trD, e1, num]
  | _ => simp [g_is_integer, sRet, bndS, eAnd, eNot, eCh, eB, bndA, aCons, aNil, eV, eC, Rz.bind, ofO, frc_eq, q1, q2, bnd, trD, e1, num]
def btw (lo hi : Int) : D → Bool | .int i => decide (lo ≤ i) && decide (i ≤ hi) | _ => false
theorem between_v (n : Nat) (d : D) (lo hi : Int) (h : okD d = true) : Fv F_is_between n [d, .int lo, .int hi] = some (.bl (num d && btw lo hi d)) := by
  refine Fv_rt (g := g_is_between n) rfl rfl (ρ := [some (.dat d), some (.dat (.int lo)), some (.dat (.int hi))]) ?_
  show g_is_between n [some (.dat d), some (.dat (.int lo)), some (.dat (.int hi))] = _
  have q := isint_v n d h
  cases d with
  | int i =>
    have l1 : leD (.int lo) (.int i) = some (.bl (decide (lo ≤ i))) := by show some (D.bl (!iLt i lo)) = _; rw [not_iLt]
    have l2 : leD (.int i) (.int hi) = some (.bl (decide (i ≤ hi))) := by show some (D.bl (!iLt hi i)) = _; rw [not_iLt]
    cases z : num (.int i) <;> by_cases a1 : lo ≤ i <;> by_cases a2 : i ≤ hi <;> rw [z] at q <;> simp only [a1, a2, decide_true, decide_false] at l1 l2 <;> simp [g_is_between, sRet, bndS, eAnd, eCall1, q, eCh, eV, eC, Rz.bind, ofO, frc_eq, bnd, l1, l2, btw, a1, a2]
  | _ => simp [g_is_between, sRet, bndS, eAnd, eCall1, q, eV, eC, Rz.bind, ofO, frc_eq, bnd, num, btw]
theorem reqnum_v (n : Nat) (i lo hi : Int) (h1 : -1000 ≤ lo) (h2 : lo ≤ i) (h3 : i ≤ hi) (h4 : hi ≤ 1000) : Fv F_require_number n [.int i, .int lo, .int hi] = some .non := by
  refine Fv_nx (g := g_require_number n) rfl rfl (ρ := [some (.dat (.int i)), some (.dat (.int lo)), some (.dat (.int hi))]) ?_
  show g_require_number n [some (.dat (.int i)), some (.dat (.int lo)), some (.dat (.int hi))] = _
  have q := between_v n (.int i) lo hi rfl
  have z : num (.int i) = true := by simp [num]; omega
  have z2 : btw lo hi (.int i) = true := by simp [btw, h2, h3]
  rw [z, z2] at q
  simp [g_require_number, sIf, bndTS, tNotD, bndT_T, tTr, bnd_T, eCall3, eV, q, ofO, frc_eq, Rz.bind, trD, sNx]
theorem reqboth_v (n : Nat) (s nm : Nat) (hs0 : 1 ≤ s) (hs : s ≤ 60) (hn0 : 1 ≤ nm) (hn : nm ≤ 200) : Fv F_require_both n [.int s, .int nm] = some .non := by
  refine Fv_nx (g := g_require_both n) rfl rfl (ρ := [some (.dat (.int s)), some (.dat (.int nm))]) ?_
  show g_require_both n [some (.dat (.int s)), some (.dat (.int nm))] = _
  have q1 := reqnum_v n s 1 60 (by omega) (by omega) (by omega) (by omega)
  have q2 := reqnum_v n nm 1 200 (by omega) (by omega) (by omega) (by omega)
  simp [g_require_both, sSeq, sDrop, bndS, eCall3, eV, eC, q1, q2, ofO, frc_eq, Rz.bind, sNx]
end Lk

namespace Lk
open PySem PySem.Spec PyProof.Rows L2 M
theorem eqS_ii (a b : Int) : eqS (.int a) (.int b) = some (.bl (a == b)) := by
  simp [eqS, eqD, deq, M.plain, pd, SeqAt.shaped, PyData.canLay0, PyData.depth, PyData.eqv]
theorem neS_ii (a b : Int) : neS (.int a) (.int b) = some (.bl (!(a == b))) := by
  simp [neS, neD, deq, M.plain, pd, SeqAt.shaped, PyData.canLay0, PyData.depth, PyData.eqv]
def nd (x : Nat) : D := .int x
def alw (s nm g : Nat) : List Nat := (List.range (min s g + 1 - (s + g - nm))).map fun i => (s + g - nm) + i
theorem alw_le {s nm g x : Nat} (h : x ∈ alw s nm g) : x ≤ s := by
  obtain ⟨i, hi, rfl⟩ := List.mem_map.mp h
  have := List.mem_range.mp hi
  omega
theorem alw_len (s nm g : Nat) : (alw s nm g).length ≤ s + 1 := by
  unfold alw; rw [List.length_map, List.length_range]; omega
def fsA : FA := aCons (eB maxD (aCons (eC (.int 0)) (aCons (M.e2 addD (M.e2 subD (eV 0) (eV 1)) (eV 2)) aNil))) (aCons (M.e2 addD (eB minD (aCons (eV 0) (aCons (eV 2) aNil))) (eC (.int 1))) aNil)
theorem fsA_eq (s nm g : Nat) : fsA [some (.dat (.int s)), some (.dat (.int nm)), some (.dat (.int g))] = .ok ([.int (s + g - nm : Nat), .int (min s g + 1 : Nat)], [some (.dat (.int s)), some (.dat (.int nm)), some (.dat (.int g))]) := by
  have m1 : maxD [.int 0, .int ((s : Int) - nm + g)] = some (.int (s + g - nm : Nat)) := by
    show some (D.int (if (s : Int) - nm + g > 0 then (s : Int) - nm + g else 0)) = _
    congr 2
    split <;> omega
  have m2 : minD [.int s, .int g] = some (.int (min s g : Nat)) := by
    show some (D.int (if (g : Int) < s then (g : Int) else s)) = _
    congr 2
    split <;> omega
  simp only [fsA, aCons, aNil, eB, bndA, M.e2, bnd, eV, eC, Rz.bind, ofO, frc_eq, List.getElem?_cons_succ, List.getElem?_cons_zero, subD, addD, m1, m2]
  rfl
theorem rg_alw (s nm g : Nat) : rgD ((s + g - nm : Nat) : Int) (((min s g + 1 : Nat) : Int) - (s + g - nm : Nat)).toNat = (alw s nm g).map nd := by
  have e : (((min s g + 1 : Nat) : Int) - (s + g - nm : Nat)).toNat = min s g + 1 - (s + g - nm) := by omega
  rw [e]
  unfold rgD alw
  rw [List.map_map]
  apply List.map_congr_left
  intro i _
  show D.int _ = D.int _
  congr 1
theorem ok_rg (s nm g : Nat) (hs : s ≤ 60) (hg : g ≤ 200) : rgOk ((s + g - nm : Nat) : Int) ((min s g + 1 : Nat) : Int) = true := by
  simp only [rgOk, Bool.and_eq_true, Nat.ble_eq]
  exact ⟨⟨small62_le (by omega) (by omega), small62_le (by omega) (by omega)⟩, by omega⟩
theorem allowed_v (n s nm g : Nat) (hs : s ≤ 60) (hg : g ≤ 200) : Fv F_allowed_in n [.int s, .int nm, .int g] = some (.tup ((alw s nm g).map nd)) := by
  refine Fv_rt (g := g_allowed_in n) rfl rfl (ρ := [some (.dat (.int s)), some (.dat (.int nm)), some (.dat (.int g))]) ?_
  show sRet (eRgT fsA) [some (.dat (.int s)), some (.dat (.int nm)), some (.dat (.int g))] = _
  simp only [sRet, bndS, eRgT, bndA, fsA_eq, Rz.bind, rgPr, ok_rg s nm g hs hg, if_true, rg_alw]
theorem lallowed_v (n s nm g : Nat) (hs : s ≤ 60) (hg : g ≤ 200) : Fv F__law_allowed n [.int s, .int nm, .int g] = some (.lst ((alw s nm g).map nd)) := by
  refine Fv_rt (g := g__law_allowed n) rfl rfl (ρ := [some (.dat (.int s)), some (.dat (.int nm)), some (.dat (.int g))]) ?_
  show sRet (eRgL fsA) [some (.dat (.int s)), some (.dat (.int nm)), some (.dat (.int g))] = _
  simp only [sRet, bndS, eRgL, bndA, fsA_eq, Rz.bind, rgPr, ok_rg s nm g hs hg, if_true, rg_alw]
theorem choose_v (n s k : Nat) (hs : s ≤ 60) (hk : k ≤ s) : Fv F_choose n [.int s, .int k] = some (.int (chM s k)) := Fv_ex (ds := [.int s, .int k]) (choose_eq n s k (by omega) (by omega) (by omega))
theorem row_ch {m k : Nat} (hm : m ≤ 60) (hk : k ≤ m) : (pasc m).getD k 0 = chM m k := by
  have h := List.all_eq_true.mp tab1 m (List.mem_range.mpr (by omega))
  have h2 := List.all_eq_true.mp h k (List.mem_range.mpr (by omega))
  exact (eq_of_beq h2).symm
theorem binom_v (n s k : Nat) (hs : s ≤ 60) (hk : k ≤ s) : Fv F__law_binom n [.int s, .int k] = some (.int (chM s k)) := by
  rw [← row_ch hs hk]
  exact Fv_ex (ds := [.int s, .int k]) (binom_eq n s k hs hk)
/-! == of any values -/
mutual
theorem dq_tot : ∀ (d e : D), okD d = true → okD e = true → ∃ b, dq d e = some b
  | .non, e, h, k => by cases e <;> first | exact ⟨_, rfl⟩ | (simp [okD] at k)
  | .bl _, e, h, k => by cases e <;> first | exact ⟨_, rfl⟩ | (simp [okD] at k)
  | .int _, e, h, k => by cases e <;> first | exact ⟨_, rfl⟩ | (simp [okD] at k)
  | .str _, e, h, k => by cases e <;> first | exact ⟨_, rfl⟩ | (simp [okD] at k)
  | .tup xs, e, h, k => by
    cases e with
    | tup ys =>
      obtain ⟨b, e⟩ := dqs_tot xs ys (by simpa only [okD] using h) (by simpa only [okD] using k)
      exact ⟨_, by simp only [dq, e, Option.map_some]; rfl⟩
    | _ => first | exact ⟨_, by simp only [dq]; rfl⟩ | (simp [okD] at k)
  | .lst xs, e, h, k => by
    cases e with
    | lst ys =>
      obtain ⟨b, e⟩ := dqs_tot xs ys (by simpa only [okD] using h) (by simpa only [okD] using k)
      by_cases z : (xs.length == ys.length) = true
      · exact ⟨_, by simp only [dq, if_pos z]; exact e⟩
      · exact ⟨_, by simp only [dq, if_neg z]; rfl⟩
    | _ => first | exact ⟨_, by simp only [dq]; rfl⟩ | (simp [okD] at k)
  | .dic ks vs, e, h, k => by
    simp only [okD, Bool.and_eq_true, List.isEmpty_iff] at h
    obtain ⟨rfl, rfl⟩ := h
    cases e with
    | dic ks' vs' =>
      simp only [okD, Bool.and_eq_true, List.isEmpty_iff] at k
      obtain ⟨rfl, rfl⟩ := k
      exact ⟨true, by simp [dq]⟩
    | _ => first | exact ⟨_, by simp only [dq]; rfl⟩ | (simp [okD] at k)
  | .scr _, _, h, _ => by simp [okD] at h
  | .con _, _, h, _ => by simp [okD] at h
  | .ins _ _, _, h, _ => by simp [okD] at h
theorem dqs_tot : ∀ (xs ys : List D), okDs xs = true → okDs ys = true → ∃ b, dqs xs ys = some b
  | [], _, _, _ => ⟨true, by simp only [dqs]⟩
  | x :: xs, [], _, _ => ⟨true, by simp only [dqs]⟩
  | x :: xs, y :: ys, h, k => by
    simp only [okDs, Bool.and_eq_true] at h k
    obtain ⟨b, e⟩ := dq_tot x y h.1 k.1
    obtain ⟨c, f⟩ := dqs_tot xs ys h.2 k.2
    exact ⟨_, by simp only [dqs, e, f, Option.map_some]; rfl⟩
end
def isS (y : Str) : D → Bool | .str x => x == y | _ => false
theorem dq_str (d : D) (y : Str) (h : okD d = true) : dq d (.str y) = some (isS y d) := by
  cases d <;> first | rfl | (simp [okD] at h) | (simp only [dq]; rfl)
theorem eqX_str (d : D) (y : Str) (h : okD d = true) (hd : dep d ≤ 60) : eqX d (.str y) = some (.bl (isS y d)) := by
  unfold eqX
  rw [if_pos (Nat.ble_eq_true_of_le hd), dq_str d y h]; rfl
theorem neX_of {d e : D} {b : Bool} (h : dq d e = some b) (hd : dep d ≤ 60) (hk : knd d ≠ some 5 ∨ knd e ≠ some 5) : neX d e = some (.bl (!b)) := by
  unfold neX
  split
  · rename_i a c
    rcases hk with z | z
    · exact absurd a z
    · exact absurd c z
  · rw [if_pos (Nat.ble_eq_true_of_le hd), h]; rfl
theorem neX_str (d : D) (y : Str) (h : okD d = true) (hd : dep d ≤ 60) : neX d (.str y) = some (.bl (!isS y d)) := neX_of (dq_str d y h) hd (.inr (by simp [knd]))
theorem deps_le {x : D} : ∀ {xs : List D}, x ∈ xs → dep x ≤ deps xs
  | y :: ys, h => by
    simp only [deps]
    rcases List.mem_cons.mp h with e | e
    · rw [e]; exact Nat.le_max_left _ _
    · exact Nat.le_trans (deps_le e) (Nat.le_max_right _ _)
theorem deps_filter (p : D → Bool) : ∀ xs : List D, deps (xs.filter p) ≤ deps xs
  | [] => Nat.le_refl _
  | x :: xs => by
    rw [List.filter_cons]
    have ih := deps_filter p xs
    split
    · simp only [deps]; omega
    · simp only [deps]; omega
end Lk

namespace Lk
open PySem PySem.Spec PyProof.Rows L2 M
/-- c divides the sums of group b -/
def dvs (s nm : Nat) : D → D → Bool
  | .int g, .int m => decide (2 ≤ m) && (alw s nm g.toNat).all fun k => chM s k % m == 0
  | _, _ => false
def Bp (s nm : Nat) : D → Bool
  | .tup [a] => isS "few" a && decide (nm < s)
  | .tup [a, b, c] => isS "group" a && !decide (nm < s) && (num b && btw 1 ((nm : Int) - 1) b) && num c && dvs s nm b c
  | _ => false
theorem notIn13 (k : Int) : notInD (.int k) (.tup [.int 1, .int 3]) = some (.bl (!(k == 1 || k == 3))) := by
  have e1 : ((1 : Int) == k) = (k == 1) := by rw [Bool.eq_iff_iff, beq_iff_eq, beq_iff_eq]; exact eq_comm
  have e3 : ((3 : Int) == k) = (k == 3) := by rw [Bool.eq_iff_iff, beq_iff_eq, beq_iff_eq]; exact eq_comm
  show (some (([D.int 1, D.int 3] : List D).any fun y => eqF y (.int k))).map _ = _
  simp only [List.any_cons, List.any_nil, eqF, e1, e3, Bool.or_false, Option.map_some]
theorem allD_bl (xs : List Bool) : allD [.lst (xs.map D.bl)] = some (.bl (xs.all id)) := by
  have : asBools (xs.map D.bl) = some xs := by
    induction xs with
    | nil => rfl
    | cons x xs ih => simp only [List.map_cons, asBools, ih, Option.map_some]
  simp only [allD, this, Option.map_some]
section
variable (n s nm : Nat) (hs0 : 1 ≤ s) (hs : s ≤ 60) (hn0 : 1 ≤ nm) (hn : nm ≤ 200)
/-- the last line: all sums are divided -/
theorem all_div (v : D) (g m : Int) (hg0 : 1 ≤ g) (hg : g ≤ nm - 1) (hm : 2 ≤ m) (hv : ixD v (.int 1) = some (.int g)) (hv2 : ixD v (.int 2) = some (.int m)) (hs : s ≤ 60) (hn : nm ≤ 200) :
    eB allD (aCons (eFz (oLc (iSeq (eCall F_allowed_in n (rCons (eV 0) (rCons (eV 1) (rCons (M.e2 ixD (eV 2) (eC (.int 1))) rNil))))) (tName 3) tYesD (M.e2 eqS (M.e2 modD (eCall F_choose n (rCons (eV 0) (rCons (eV 3) rNil))) (M.e2 ixD (eV 2) (eC (.int 2)))) (eC (.int 0))) [3])) aNil)
      [some (.dat (.int s)), some (.dat (.int nm)), some (.dat v), none] = .ok (.bl ((alw s nm g.toNat).all fun k => chM s k % m == 0), [some (.dat (.int s)), some (.dat (.int nm)), some (.dat v), none]) := by
  have gn : g = (g.toNat : Nat) := by omega
  have q1 := allowed_v n s nm g.toNat hs (by omega)
  rw [← gn] at q1
  have c := lc_all (fi := iSeq (eCall F_allowed_in n (rCons (eV 0) (rCons (eV 1) (rCons (M.e2 ixD (eV 2) (eC (.int 1))) rNil))))) (tg := tName 3) (fe := M.e2 eqS (M.e2 modD (eCall F_choose n (rCons (eV 0) (rCons (eV 3) rNil))) (M.e2 ixD (eV 2) (eC (.int 2)))) (eC (.int 0))) (vs := [3])
    (ρ := [some (.dat (.int s)), some (.dat (.int nm)), some (.dat v), none]) (ρ0 := [some (.dat (.int s)), some (.dat (.int nm)), some (.dat v), none]) (ds := (alw s nm g.toNat).map nd) (fun d => match d with | .int k => .bl (chM s k.toNat % m == 0) | d => d)
    (by simp [iSeq, eCall3, eV, eC, M.e2, bnd, Rz.bind, ofO, frc_eq, hv, q1]) rfl (fun d hd => by
      obtain ⟨k, hk, rfl⟩ := List.mem_map.mp hd
      have kl := alw_le hk
      have q2 := choose_v n s k hs kl
      refine ⟨[some (.dat (.int s)), some (.dat (.int nm)), some (.dat v), some (.dat (.int k))], [some (.dat (.int s)), some (.dat (.int nm)), some (.dat v), some (.dat (.int k))], rfl, ?_, rfl, rfl⟩
      have hm' : 0 < m := by omega
      have hk0 : ((k : Nat) : Int).toNat = k := rfl
      simp [eCall2, eV, eC, M.e2, bnd, Rz.bind, ofO, frc_eq, hv2, q2, modD, hm', eqS_ii, nd]) (by
      have h1 := alw_len s nm g.toNat
      have h2 : 61 ≤ sizeLine := by decide
      rw [List.length_map]
      omega)
  have e : ((alw s nm g.toNat).map nd).map (fun d => match d with | .int k => D.bl (chM s k.toNat % m == 0) | d => d) = ((alw s nm g.toNat).map fun k => (chM s k % m == 0 : Bool)).map D.bl := by
    rw [List.map_map, List.map_map]
    apply List.map_congr_left
    intro k _
    simp [nd]
  rw [e] at c
  refine eB1_ok (fz_ok c) ?_
  rw [allD_bl]
  simp [List.all_map, Function.comp_def]
include hs0 hs hn0 hn in
theorem barred_v (d : D) (hd : okD d = true) : Fv F_is_barred_paper n [.int s, .int nm, d] = some (.bl (Bp s nm d)) := by
  refine Fv_rt (g := g_is_barred_paper n) rfl rfl (ρ := [some (.dat (.int s)), some (.dat (.int nm)), some (.dat d), none]) ?_
  show g_is_barred_paper n [some (.dat (.int s)), some (.dat (.int nm)), some (.dat d), none] = _
  have q0 := reqboth_v n s nm hs0 hs hn0 hn
  have q1 := isi_ty d hd "tuple" (.inr (.inr (.inr rfl)))
  have s2 : 2 ≤ sizeLine := by decide
  have key : ∀ ds : List D, d = .tup ds → g_is_barred_paper n [some (.dat (.int s)), some (.dat (.int nm)), some (.dat (.tup ds)), none] = .ok (.rt (.dat (.bl (Bp s nm (.tup ds)))), [some (.dat (.int s)), some (.dat (.int nm)), some (.dat (.tup ds)), none]) := fun ds e => by
    subst e
    simp only at q1
    have hds : okDs ds = true := by simpa only [okD] using hd
    match ds, hds, q1 with
    | [], _, q1 => simp [g_is_barred_paper, sSeq, sDrop, bndS, sIf, bndTS, tOrD, tNotD, bndT_T, tTr, bnd_T, M.tB, M.e2, e1, eB, bndA, aCons, aNil, bnd, eV, eC, Rz.bind, ofO, frc_eq, trD, sRet, sNx, eTup, s2, lenD, ixD, atI, ixN, eCall2, q0, q1, notIn13, Bp]
    | [a], hds, q1 =>
      simp only [okDs, Bool.and_eq_true] at hds
      have q2 := isi_ty a hds.1 "str" (.inr (.inr (.inl rfl)))
      cases a with
      | str x =>
        have q3 : eqS (.str x) (.str "few") = some (.bl (x == "few")) := rfl
        cases z : (x == ("few" : Str)) <;> rw [z] at q3 <;> simp [g_is_barred_paper, sSeq, sDrop, bndS, sIf, bndTS, tOrD, tNotD, bndT_T, tTr, bnd_T, M.tB, M.e2, e1, eB, bndA, aCons, aNil, bnd, eV, eC, Rz.bind, ofO, frc_eq, trD, sRet, sNx, eTup, s2, lenD, ixD, atI, ixN, eCall2, q0, q1, q2, notIn13, eqS_ii, q3, eAnd, ltD, iLt_eq, Bp, isS, z]
      | _ => simp [g_is_barred_paper, sSeq, sDrop, bndS, sIf, bndTS, tOrD, tNotD, bndT_T, tTr, bnd_T, M.tB, M.e2, e1, eB, bndA, aCons, aNil, bnd, eV, eC, Rz.bind, ofO, frc_eq, trD, sRet, sNx, eTup, s2, lenD, ixD, atI, ixN, eCall2, q0, q1, q2, notIn13, Bp, isS]
    | [a, b], _, q1 => simp [g_is_barred_paper, sSeq, sDrop, bndS, sIf, bndTS, tOrD, tNotD, bndT_T, tTr, bnd_T, M.tB, M.e2, e1, eB, bndA, aCons, aNil, bnd, eV, eC, Rz.bind, ofO, frc_eq, trD, sRet, sNx, eTup, s2, lenD, ixD, atI, ixN, eCall2, q0, q1, notIn13, Bp]
    | [a, b, c], hds, q1 =>
      simp only [okDs, Bool.and_eq_true] at hds
      obtain ⟨ha, hb, hc, _⟩ := hds
      have q2 := isi_ty a ha "str" (.inr (.inr (.inl rfl)))
      cases a with
      | str x =>
        have q3 : neS (.str x) (.str "group") = some (.bl (!(x == "group"))) := rfl
        have q4 := between_v n b 1 ((nm : Int) - 1) hb
        have q5 := isint_v n c hc
        have cc : g_is_barred_paper n [some (.dat (.int s)), some (.dat (.int nm)), some (.dat (.tup [.str x, b, c])), none] = sSeq (sIf (tOrD (M.tB (M.e2 neS (M.e2 ixD (eV 2) (eC (.int 0))) (eC (.str "group")))) (tOrD (M.tB (M.e2 ltD (eV 1) (eV 0))) (tNotD (tTr (eCall F_is_between n (rCons (M.e2 ixD (eV 2) (eC (.int 1))) (rCons (eC (.int 1)) (rCons (M.e2 subD (eV 1) (eC (.int 1))) rNil)))))))) (sRet (eC (.bl false))) sNx)
            (sSeq (sIf (tOrD (tNotD (tTr (eCall F_is_integer n (rCons (M.e2 ixD (eV 2) (eC (.int 2))) rNil)))) (M.tB (M.e2 ltD (M.e2 ixD (eV 2) (eC (.int 2))) (eC (.int 2))))) (sRet (eC (.bl false))) sNx)
            (sRet (eB allD (aCons (eFz (oLc (iSeq (eCall F_allowed_in n (rCons (eV 0) (rCons (eV 1) (rCons (M.e2 ixD (eV 2) (eC (.int 1))) rNil))))) (tName 3) tYesD (M.e2 eqS (M.e2 modD (eCall F_choose n (rCons (eV 0) (rCons (eV 3) rNil))) (M.e2 ixD (eV 2) (eC (.int 2)))) (eC (.int 0))) [3])) aNil)))) [some (.dat (.int s)), some (.dat (.int nm)), some (.dat (.tup [.str x, b, c])), none] := by
          unfold g_is_barred_paper
          rw [seq_nx (ρ1 := [some (.dat (.int s)), some (.dat (.int nm)), some (.dat (.tup [.str x, b, c])), none]) (by simp [sDrop, bndS, eCall2, eV, q0, Rz.bind, ofO, frc_eq, sNx])]
          rw [seq_nx (ρ1 := [some (.dat (.int s)), some (.dat (.int nm)), some (.dat (.tup [.str x, b, c])), none]) (by simp [sIf, bndTS, tOrD, tNotD, bndT_T, tTr, bnd_T, M.tB, M.e2, e1, eB, bndA, aCons, aNil, bnd, eV, eC, Rz.bind, ofO, frc_eq, trD, sNx, eTup, s2, lenD, ixD, atI, ixN, q1, q2, notIn13])]
          rw [seq_nx (ρ1 := [some (.dat (.int s)), some (.dat (.int nm)), some (.dat (.tup [.str x, b, c])), none]) (by simp [sIf, bndTS, M.tB, bnd_T, M.e2, eB, bndA, aCons, aNil, bnd, eV, eC, Rz.bind, ofO, frc_eq, sNx, lenD, eqS_ii])]
        rw [cc]
        by_cases h1 : (x == ("group" : Str)) = true
        · by_cases h2 : (nm : Int) < s
          · have h2' : nm < s := by omega
            rw [h1] at q3
            simp [sSeq, bndS, sIf, bndTS, tOrD, bndT_T, bnd_T, M.tB, M.e2, bnd, eV, eC, Rz.bind, ofO, frc_eq, sRet, ixD, atI, ixN, q3, ltD, iLt_eq, h2, h2', Bp]
          · have h2' : ¬ nm < s := by omega
            cases hz : num b && btw 1 ((nm : Int) - 1) b with
            | false =>
              rw [h1] at q3
              rw [hz] at q4
              simp [sSeq, bndS, sIf, bndTS, tOrD, tNotD, tTr, bndT_T, bnd_T, M.tB, M.e2, bnd, eV, eC, Rz.bind, ofO, frc_eq, sRet, ixD, atI, ixN, q3, ltD, iLt_eq, h2, h2', Bp, eCall3, subD, q4, trD, hz]
            | true =>
              rw [h1] at q3
              rw [hz] at q4
              have hB : Bp s nm (.tup [.str x, b, c]) = (num c && dvs s nm b c) := by
                have h1' : isS "group" (.str x) = true := h1
                simp only [Bp, h1', hz, h2', decide_false, Bool.not_false, Bool.true_and]
              rw [hB]
              rw [seq_nx (ρ1 := [some (.dat (.int s)), some (.dat (.int nm)), some (.dat (.tup [.str x, b, c])), none]) (by simp [sIf, bndTS, tOrD, tNotD, tTr, bndT_T, bnd_T, M.tB, M.e2, bnd, eV, eC, Rz.bind, ofO, frc_eq, sNx, ixD, atI, ixN, q3, ltD, iLt_eq, h2, h2', eCall3, subD, q4, trD])]
              cases hn1 : num c with
              | false =>
                rw [hn1] at q5
                simp [sSeq, bndS, sIf, bndTS, tOrD, tNotD, tTr, bndT_T, bnd_T, M.e2, bnd, eV, eC, Rz.bind, ofO, frc_eq, sRet, ixD, atI, ixN, eCall1, q5, trD]
              | true =>
                rw [hn1] at q5
                cases c with
                | int m =>
                  cases b with
                  | int g =>
                    by_cases hm : m < 2
                    · have hm' : ¬ 2 ≤ m := by omega
                      simp [sSeq, bndS, sIf, bndTS, tOrD, tNotD, tTr, M.tB, bndT_T, bnd_T, M.e2, bnd, eV, eC, Rz.bind, ofO, frc_eq, sRet, ixD, atI, ixN, eCall1, q5, trD, ltD, iLt_eq, hm, hm', dvs]
                    · have hm' : 2 ≤ m := by omega
                      have hg : 1 ≤ g ∧ g ≤ (nm : Int) - 1 := by
                        simp only [btw, Bool.and_eq_true, decide_eq_true_eq] at hz
                        exact hz.2
                      rw [seq_nx (ρ1 := [some (.dat (.int s)), some (.dat (.int nm)), some (.dat (.tup [.str x, .int g, .int m])), none]) (by simp [sIf, bndTS, tOrD, tNotD, tTr, M.tB, bndT_T, bnd_T, M.e2, bnd, eV, eC, Rz.bind, ofO, frc_eq, sNx, ixD, atI, ixN, eCall1, q5, trD, ltD, iLt_eq, hm])]
                      have c1 := all_div n s nm (.tup [.str x, .int g, .int m]) g m hg.1 hg.2 hm' rfl rfl hs hn
                      simp only [sRet, bndS, c1, Rz.bind, dvs, hm', decide_true, Bool.true_and]
                  | _ => simp [num] at hz
                | _ => simp [num] at hn1
        · have h1' : (x == ("group" : Str)) = false := by simpa using h1
          rw [h1'] at q3
          simp [sSeq, bndS, sIf, bndTS, tOrD, bndT_T, bnd_T, M.tB, M.e2, bnd, eV, eC, Rz.bind, ofO, frc_eq, sRet, ixD, atI, ixN, q3, Bp, isS, h1']
      | _ => simp [g_is_barred_paper, sSeq, sDrop, bndS, sIf, bndTS, tOrD, tNotD, bndT_T, tTr, bnd_T, M.tB, M.e2, e1, eB, bndA, aCons, aNil, bnd, eV, eC, Rz.bind, ofO, frc_eq, trD, sRet, sNx, eTup, s2, lenD, ixD, atI, ixN, eCall2, q0, q1, q2, notIn13, Bp, isS]
    | a :: b :: c :: e :: r, _, q1 =>
      have z1 : ((((a :: b :: c :: e :: r : List D).length : Nat) : Int) == 1) = false := by simp; omega
      have z3 : ((((a :: b :: c :: e :: r : List D).length : Nat) : Int) == 3) = false := by simp; omega
      have z := notIn13 ((a :: b :: c :: e :: r : List D).length : Nat)
      rw [z1, z3] at z
      have hB : Bp s nm (.tup (a :: b :: c :: e :: r)) = false := rfl
      rw [hB]
      generalize a :: b :: c :: e :: r = l at z q1
      simp [g_is_barred_paper, sSeq, sDrop, bndS, sIf, bndTS, tOrD, tNotD, bndT_T, tTr, bnd_T, M.tB, M.e2, e1, eB, bndA, aCons, aNil, bnd, eV, eC, Rz.bind, ofO, frc_eq, trD, sRet, sNx, eTup, s2, lenD, eCall2, q0, q1, z]
  cases d with
  | tup ds => exact key ds rfl
  | _ => simp [g_is_barred_paper, sSeq, sDrop, bndS, sIf, bndTS, tOrD, tNotD, bndT_T, tTr, bnd_T, M.tB, M.e2, e1, eB, bndA, aCons, aNil, bnd, eV, eC, Rz.bind, ofO, frc_eq, trD, sRet, sNx, eCall2, q0, q1, Bp]
end
end Lk

namespace Lk
open PySem PySem.Spec PyProof.Rows L2 M
theorem ret_if {t : FT} {d : D} {ρ ρ1 : Rho} {b : FS} (h : t ρ = .ok (true, ρ1)) : sIf t (sRet (eC d)) b ρ = .ok (.rt (.dat d), ρ1) := by simp [sIf, bndTS, h, Rz.bind, sRet, bndS, eC]
theorem skip_if {t : FT} {ρ ρ1 : Rho} {a : FS} (h : t ρ = .ok (false, ρ1)) : sIf t a sNx ρ = .ok (.nx, ρ1) := by simp [sIf, bndTS, h, Rz.bind, sNx]
theorem or_t {a b : FT} {ρ ρ1 : Rho} (h : a ρ = .ok (true, ρ1)) : tOrD a b ρ = .ok (true, ρ1) := by simp [tOrD, bndT_T, h, Rz.bind]
theorem or_f {a b : FT} {ρ ρ1 : Rho} (h : a ρ = .ok (false, ρ1)) : tOrD a b ρ = b ρ1 := by simp [tOrD, bndT_T, h, Rz.bind]
theorem cut1 (ds : List D) : M.cutD ds none (some 1) = ds.take 1 := by
  cases ds with
  | nil => rfl
  | cons x xs =>
    unfold M.cutD
    have e1 : HT.sIx (x :: xs).length 0 none = 0 := rfl
    have e2 : HT.sIx (x :: xs).length (x :: xs).length (some 1) = 1 := (HT.sIx_nat _ _ 1).trans (by rw [List.length_cons]; omega)
    rw [e1, e2]; rfl
def nn (d : D) : Bool := !num d
section
variable (n s nm : Nat) (v : D)
abbrev ρv (s nm : Nat) (v : D) : Rho := [some (.dat (.int s)), some (.dat (.int nm)), some (.dat v), none, none]
theorem ltn (v : D) : M.tB (M.e2 ltD (eV 1) (eV 0)) (ρv s nm v) = .ok (decide (nm < s), ρv s nm v) := by
  have lt : ltD (.int nm) (.int s) = some (.bl (decide ((nm : Int) < s))) := by simp only [ltD, iLt_eq]
  have e : decide ((nm : Int) < s) = decide (nm < s) := by simp
  rw [← e]
  exact tB_ok (e2_ok (eV_ok rfl) (eV_ok rfl) lt)
end
end Lk

namespace Lk
open PySem PySem.Spec PyProof.Rows L2 M
theorem tab2 : (List.range 61).all (fun m => (List.range (m + 1)).all fun k => decide (0 < chM m k) && decide (chM m k < 2 ^ 60)) = true := by decide +kernel
theorem ch_rng {m k : Nat} (hm : m ≤ 60) (hk : k ≤ m) : 0 < chM m k ∧ chM m k < 2 ^ 60 := by
  have h := List.all_eq_true.mp tab2 m (List.mem_range.mpr (by omega))
  have h2 := List.all_eq_true.mp h k (List.mem_range.mpr (by omega))
  simpa using h2
theorem ch_small {m k : Nat} (hm : m ≤ 60) (hk : k ≤ m) : small (chM m k) = true := by
  have := ch_rng hm hk
  rw [small_iff]; omega
theorem zp_mem : ∀ {ds es : List D} {d : D}, d ∈ zpD ds es → ∃ x ∈ ds, ∃ y ∈ es, d = .tup [x, y]
  | [], _, _, h => by simp [zpD] at h
  | _ :: _, [], _, h => by simp [zpD] at h
  | x :: xs, y :: ys, d, h => by
    unfold zpD at h
    rw [List.zipWith_cons_cons] at h
    rcases List.mem_cons.mp h with e | e
    · exact ⟨x, List.mem_cons_self .., y, List.mem_cons_self .., e⟩
    · obtain ⟨x', hx, y', hy, e⟩ := zp_mem (ds := xs) (es := ys) e
      exact ⟨x', List.mem_cons_of_mem _ hx, y', List.mem_cons_of_mem _ hy, e⟩
theorem zp_len (ds es : List D) : (zpD ds es).length ≤ ds.length := by unfold zpD; rw [List.length_zipWith]; omega
def pz (s : Nat) : D → Int | .tup [.int i, .int k] => i * chM s k.toNat | _ => 0
def sumz (s : Nat) (ds : List D) (al : List Nat) : Int := ((zpD ds (al.map nd)).map (pz s)).sum
def frow (s : Nat) (al : List Nat) : D → Bool
  | .tup ds => ds.length == al.length && ds.all num && sumz s ds al == 1
  | _ => false
theorem sumD_map (xs : List Int) : sumD [.lst (xs.map D.int)] = some (.int xs.sum) := by
  have : asInts (xs.map D.int) = some xs := by
    induction xs with
    | nil => rfl
    | cons x xs ih => simp only [List.map_cons, asInts, ih, Option.map_some]
  simp only [sumD, this, Option.map_some]
theorem not_tr {f : FE} {b : Bool} {ρ ρ1 : Rho} (h : f ρ = .ok (.bl b, ρ1)) : tNotD (tTr f) ρ = .ok (!b, ρ1) := by simp only [tNotD, bndT_T, tTr, bnd_T, h, Rz.bind, trD]
section
variable (n s : Nat) (al : List Nat)
/-- the sum of products, over a zip; fc: what tells the binomials -/
theorem sum_lc {ρ : Rho} {fi : FI} {fe : FE} {i j : Nat} {ds : List D} (hz : fi ρ = .ok (zpD ds (al.map nd), ρ)) (hall : ds.all num = true) (hal : ∀ k ∈ al, k ≤ s) (hs : s ≤ 60) (hl : ds.length ≤ 1000)
    (hn : noIo [i, j] ρ = true) (hw : restR [i, j] ρ (wipeR [i, j] ρ) = ρ) (hfe : ∀ (x : Int) (k : Nat), k ≤ s → ∃ ρ1, tPair i j (.tup [.int x, .int k]) (wipeR [i, j] ρ) = some ρ1 ∧ fe ρ1 = .ok (.int (x * chM s k), ρ1) ∧ noIo [i, j] ρ1 = true ∧ wipeR [i, j] ρ1 = wipeR [i, j] ρ) :
    eB sumD (aCons (eFz (oLc fi (tPair i j) tYesD fe [i, j])) aNil) ρ = .ok (.int (sumz s ds al), ρ) := by
  have hsz : 1000 ≤ sizeLine := by decide
  have c := lc_all (fi := fi) (tg := tPair i j) (fe := fe) (vs := [i, j]) (ρ := ρ) (ρ0 := ρ) (ds := zpD ds (al.map nd)) (fun d => .int (pz s d)) hz hn (fun d hd => by
    obtain ⟨x, hx, y, hy, rfl⟩ := zp_mem hd
    obtain ⟨k, hk, rfl⟩ := List.mem_map.mp hy
    have nx := List.all_eq_true.mp hall x hx
    cases x with
    | int x =>
      obtain ⟨ρ1, a1, a2, a3, a4⟩ := hfe x k (hal k hk)
      exact ⟨ρ1, ρ1, a1, a2, a3, a4⟩
    | _ => simp [num] at nx) (by have := zp_len ds (al.map nd); omega)
  rw [hw] at c
  refine eB1_ok (fz_ok c) ?_
  have e : (zpD ds (al.map nd)).map (fun d => D.int (pz s d)) = ((zpD ds (al.map nd)).map (pz s)).map D.int := by rw [List.map_map]; rfl
  rw [e, sumD_map]; rfl
theorem isi_tup (v : D) : (∃ ds, v = .tup ds) ∨ ((∀ ds, v ≠ .tup ds)) := by
  cases v <;> first | exact .inl ⟨_, rfl⟩ | exact .inr fun ds e => by cases e
theorem notTup {v : D} (hk : okD v = true) (h : ∀ ds, v ≠ .tup ds) {ρ : Rho} {i : Nat} (hi : ρ[i]? = some (some (.dat v))) : tNotD (tTr (eB isiD (aCons (eV i) (aCons (eC (.con (.ty "tuple"))) aNil)))) ρ = .ok (true, ρ) := by
  have q1 := isi_ty v hk "tuple" (.inr (.inr (.inr rfl)))
  have : isiD [v, .con (.ty "tuple")] = some (.bl false) := by
    rw [q1]
    cases v <;> first | rfl | exact absurd rfl (h _)
  have e := eB2_ok (ρ := ρ) (eV_ok hi) (eC_ok (d := .con (.ty "tuple"))) this
  simp only [tNotD, bndT_T, tTr, bnd_T, e, Rz.bind, trD, Bool.not_false]
theorem isTup {ds : List D} {ρ : Rho} {i : Nat} (hi : ρ[i]? = some (some (.dat (.tup ds)))) : tNotD (tTr (eB isiD (aCons (eV i) (aCons (eC (.con (.ty "tuple"))) aNil)))) ρ = .ok (false, ρ) := by
  have e := eB2_ok (ρ := ρ) (eV_ok hi) (eC_ok (d := .con (.ty "tuple"))) (show isiD [.tup ds, .con (.ty "tuple")] = some (.bl true) from rfl)
  simp only [tNotD, bndT_T, tTr, bnd_T, e, Rz.bind, trD, Bool.not_true]
theorem frow_v (row : D) (hs : s ≤ 60) (hal : ∀ k ∈ al, k ≤ s) (hk : okD row = true) (hl : ∀ ds, row = .tup ds → ds.length ≤ 1000) : Fv F_is_free_row n [.int s, .tup (al.map nd), row] = some (.bl (frow s al row)) := by
  refine Fv_rt (g := g_is_free_row n) rfl rfl (ρ := [some (.dat (.int s)), some (.dat (.tup (al.map nd))), some (.dat row), none, none]) ?_
  show g_is_free_row n [some (.dat (.int s)), some (.dat (.tup (al.map nd))), some (.dat row), none, none] = _
  unfold g_is_free_row
  rcases isi_tup row with ⟨ds, rfl⟩ | ht
  · have hds : okDs ds = true := by simpa only [okD] using hk
    have hll := hl ds rfl
    have hsz : 1000 ≤ sizeLine := by decide
    have iT := isTup (ds := ds) (ρ := [some (.dat (.int s)), some (.dat (.tup (al.map nd))), some (.dat (.tup ds)), none, none]) (i := 2) rfl
    have hn : M.tB (M.e2 neS (eB lenD (aCons (eV 2) aNil)) (eB lenD (aCons (eV 1) aNil))) [some (.dat (.int s)), some (.dat (.tup (al.map nd))), some (.dat (.tup ds)), none, none] = .ok (!(ds.length == al.length), [some (.dat (.int s)), some (.dat (.tup (al.map nd))), some (.dat (.tup ds)), none, none]) := by
      refine tB_ok (e2_ok (eB1_ok (eV_ok rfl) rfl) (eB1_ok (eV_ok rfl) rfl) ?_)
      rw [neS_ii, List.length_map]
      congr 3
      rw [Bool.eq_iff_iff, beq_iff_eq, beq_iff_eq]
      omega
    by_cases hle : ds.length = al.length
    · have hle' : (ds.length == al.length) = true := by simpa using hle
      rw [hle'] at hn
      have c : oLc (iSeq (eV 2)) (tName 3) tYesD (eCall F_is_integer n (rCons (eV 3) rNil)) [3] [some (.dat (.int s)), some (.dat (.tup (al.map nd))), some (.dat (.tup ds)), none, none] = .ok (ds.map (fun d => D.bl (num d)), [some (.dat (.int s)), some (.dat (.tup (al.map nd))), some (.dat (.tup ds)), none, none]) := lc_all (fi := iSeq (eV 2)) (tg := tName 3) (fe := eCall F_is_integer n (rCons (eV 3) rNil)) (vs := [3]) (ρ := [some (.dat (.int s)), some (.dat (.tup (al.map nd))), some (.dat (.tup ds)), none, none]) (ρ0 := [some (.dat (.int s)), some (.dat (.tup (al.map nd))), some (.dat (.tup ds)), none, none]) (ds := ds) (fun d => .bl (num d)) rfl rfl (fun d hd => by
        have q := isint_v n d (okDs_mem hds hd)
        exact ⟨[some (.dat (.int s)), some (.dat (.tup (al.map nd))), some (.dat (.tup ds)), some (.dat d), none], [some (.dat (.int s)), some (.dat (.tup (al.map nd))), some (.dat (.tup ds)), some (.dat d), none], rfl, by simp [eCall1, eV, q, Rz.bind, ofO, frc_eq], rfl, rfl⟩) (by omega)
      have e : ds.map (fun d => D.bl (num d)) = (ds.map num).map D.bl := by rw [List.map_map]; rfl
      rw [e] at c
      have c2 := eB1_ok (op := allD) (fz_ok c) (allD_bl _)
      rw [show (ds.map num).all id = ds.all num by simp [List.all_map, Function.comp_def]] at c2
      cases ha : ds.all num with
      | false =>
        rw [ha] at c2
        have hF : frow s al (.tup ds) = false := by simp only [frow, ha, Bool.and_false, Bool.false_and]
        rw [hF]
        exact seq_rt (ret_if ((or_f iT).trans ((or_f hn).trans (not_tr c2))))
      | true =>
        rw [ha] at c2
        have hF : frow s al (.tup ds) = (sumz s ds al == 1) := by simp only [frow, ha, hle', Bool.true_and]
        rw [hF]
        refine (seq_nx (skip_if ((or_f iT).trans ((or_f hn).trans (not_tr c2))))).trans ?_
        have hz : iZp (aCons (eV 2) (aCons (eV 1) aNil)) [some (.dat (.int s)), some (.dat (.tup (al.map nd))), some (.dat (.tup ds)), none, none] = .ok (zpD ds (al.map nd), [some (.dat (.int s)), some (.dat (.tup (al.map nd))), some (.dat (.tup ds)), none, none]) := by
          simp [iZp, aCons, aNil, eV, Rz.bind, zpOf, sqOf, hle]
        have c3 := sum_lc s al (i := 3) (j := 4) (fe := M.e2 mulD (eV 3) (eCall F_choose n (rCons (eV 0) (rCons (eV 4) rNil)))) hz ha hal hs hll rfl rfl (fun x k hk => by
          have q := choose_v n s k hs hk
          have sm := ch_small hs hk
          exact ⟨[some (.dat (.int s)), some (.dat (.tup (al.map nd))), some (.dat (.tup ds)), some (.dat (.int x)), some (.dat (.int k))], rfl, by simp [M.e2, bnd, eCall2, eV, q, Rz.bind, ofO, frc_eq, mulD, sm], rfl, rfl⟩)
        have c4 := e2_ok c3 (eC_ok (d := .int 1)) (eqS_ii _ _)
        simp only [sRet, bndS, c4, Rz.bind]
    · have hle' : (ds.length == al.length) = false := by simpa using hle
      rw [hle'] at hn
      have hF : frow s al (.tup ds) = false := by simp only [frow, hle', Bool.false_and]
      rw [hF]
      exact seq_rt (ret_if ((or_f iT).trans (or_t hn)))
  · have hF : frow s al row = false := by cases row <;> first | rfl | exact absurd rfl (ht _)
    rw [hF]
    exact seq_rt (ret_if (or_t (notTup hk ht rfl)))
end
end Lk

namespace Lk
open PySem PySem.Spec PyProof.Rows L2 M
def fre (s nm : Nat) : D → Bool | .tup [.int i, x] => frow s (alw s nm (i + 1).toNat) x | _ => false
def Fp (s nm : Nat) : D → Bool
  | .tup ds => !decide (nm < s) && ds.length + 1 == nm && (enD ds).all (fre s nm)
  | _ => false
theorem en_mem {ds : List D} {d : D} (h : d ∈ enD ds) : ∃ (i : Nat) (x : D), ds[i]? = some x ∧ d = .tup [.int i, x] := by
  unfold enD at h
  obtain ⟨i, hi, e⟩ := List.mem_mapIdx.mp h
  exact ⟨i, ds[i], List.getElem?_eq_getElem hi, e.symm⟩
theorem en_len (ds : List D) : (enD ds).length = ds.length := by simp [enD]
theorem gt_mem {ds : List D} {i : Nat} {x : D} (h : ds[i]? = some x) : x ∈ ds := List.mem_of_getElem? h
section
variable (n s nm : Nat)
theorem lens (ds : List D) (hn0 : 1 ≤ nm) : (!(((ds.length : Nat) : Int) == (nm : Int) - 1)) = !(ds.length + 1 == nm) := by
  congr 1
  rw [Bool.eq_iff_iff, beq_iff_eq, beq_iff_eq]
  omega
theorem free_v (v : D) (hs0 : 1 ≤ s) (hs : s ≤ 60) (hn0 : 1 ≤ nm) (hn : nm ≤ 200) (hk : okD v = true) (hl : ∀ ds es, v = .tup ds → .tup es ∈ ds → es.length ≤ 1000) : Fv F_is_free_paper n [.int s, .int nm, v] = some (.bl (Fp s nm v)) := by
  refine Fv_rt (g := g_is_free_paper n) rfl rfl (ρ := ρv s nm v) ?_
  show g_is_free_paper n (ρv s nm v) = _
  unfold g_is_free_paper
  have q0 := reqboth_v n s nm hs0 hs hn0 hn
  refine (seq_nx (ρ1 := ρv s nm v) (by simp [sDrop, bndS, eCall2, eV, q0, Rz.bind, ofO, frc_eq, sNx, ρv])).trans ?_
  have tl := ltn s nm v
  by_cases c : nm < s
  · rw [decide_eq_true c] at tl
    have hF : Fp s nm v = false := by cases v <;> first | rfl | (simp only [Fp, decide_eq_true c, Bool.not_true, Bool.false_and])
    rw [hF]
    exact seq_rt (ret_if (or_t tl))
  · rw [decide_eq_false c] at tl
    rcases isi_tup v with ⟨ds, hv⟩ | ht
    · subst hv
      have hds : okDs ds = true := by simpa only [okD] using hk
      have iT := isTup (ds := ds) (ρ := ρv s nm (.tup ds)) (i := 2) rfl
      have hn2 : M.tB (M.e2 neS (eB lenD (aCons (eV 2) aNil)) (M.e2 subD (eV 1) (eC (.int 1)))) (ρv s nm (.tup ds)) = .ok (!(ds.length + 1 == nm), ρv s nm (.tup ds)) := by
        refine tB_ok (e2_ok (eB1_ok (eV_ok rfl) rfl) (e2_ok (eV_ok rfl) eC_ok rfl) ?_)
        rw [neS_ii, lens nm ds hn0]
      by_cases hle : ds.length + 1 = nm
      · have hle' : (ds.length + 1 == nm) = true := by simpa using hle
        rw [hle'] at hn2
        have hF : Fp s nm (.tup ds) = (enD ds).all (fre s nm) := by simp only [Fp, decide_eq_false c, hle', Bool.not_false, Bool.true_and]
        rw [hF]
        refine (seq_nx (skip_if ((or_f tl).trans ((or_f iT).trans hn2)))).trans ?_
        have hsz : 200 ≤ sizeLine := by decide
        have cc : oLc (iEn (aCons (eV 2) aNil)) (tPair 3 4) tYesD (eCall F_is_free_row n (rCons (eV 0) (rCons (eCall F_allowed_in n (rCons (eV 0) (rCons (eV 1) (rCons (M.e2 addD (eV 3) (eC (.int 1))) rNil)))) (rCons (eV 4) rNil)))) [3, 4] (ρv s nm (.tup ds)) = .ok ((enD ds).map (fun d => D.bl (fre s nm d)), ρv s nm (.tup ds)) :=
          lc_all (ρ0 := ρv s nm (.tup ds)) (fun d => D.bl (fre s nm d)) (by simp [iEn, aCons, aNil, eV, Rz.bind, enOf, ρv]) rfl (fun d hd => by
            obtain ⟨i, x, hx, rfl⟩ := en_mem hd
            have hxm := gt_mem hx
            have hi : i < ds.length := (List.getElem?_eq_some_iff.mp hx).1
            have q1 := allowed_v n s nm (i + 1) hs (by omega)
            have ci : ((i + 1 : Nat) : Int) = (i : Int) + 1 := by omega
            rw [ci] at q1
            have q2 := frow_v n s (alw s nm (i + 1)) x hs (fun k hk => alw_le hk) (okDs_mem hds hxm) (fun es e => hl ds es rfl (e ▸ hxm))
            refine ⟨[some (.dat (.int s)), some (.dat (.int nm)), some (.dat (.tup ds)), some (.dat (.int i)), some (.dat x)], [some (.dat (.int s)), some (.dat (.int nm)), some (.dat (.tup ds)), some (.dat (.int i)), some (.dat x)], rfl, ?_, rfl, rfl⟩
            have ti : ((i : Int) + 1).toNat = i + 1 := by omega
            simp [eCall3, eV, eC, M.e2, bnd, addD, q1, q2, Rz.bind, ofO, frc_eq, fre, ti]) (by rw [en_len]; omega)
        have e : (enD ds).map (fun d => D.bl (fre s nm d)) = ((enD ds).map (fre s nm)).map D.bl := by rw [List.map_map]; rfl
        rw [e] at cc
        have c2 := eB1_ok (op := allD) (fz_ok cc) (allD_bl _)
        rw [show ((enD ds).map (fre s nm)).all id = (enD ds).all (fre s nm) by simp [List.all_map, Function.comp_def]] at c2
        simp only [sRet, bndS, c2, Rz.bind]
      · have hle' : (ds.length + 1 == nm) = false := by simpa using hle
        rw [hle'] at hn2
        have hF : Fp s nm (.tup ds) = false := by simp only [Fp, hle', Bool.and_false, Bool.false_and]
        rw [hF]
        exact seq_rt (ret_if ((or_f tl).trans ((or_f iT).trans hn2)))
    · have hF : Fp s nm v = false := by cases v <;> first | rfl | exact absurd rfl (ht _)
      rw [hF]
      exact seq_rt (ret_if ((or_f tl).trans (or_t (notTup hk ht rfl))))
/-! the law's own -/
end
end Lk

namespace Lk
open PySem PySem.Spec PyProof.Rows L2 M
theorem euclid (st : Nat → Nat → Rho) (t : FT) (body : FS) (ht : ∀ a b, t (st a b) = .ok (decide (0 < b), st a b)) (hb : ∀ a b, 0 < b → body (st a b) = .ok (.nx, st b (a % b))) :
    ∀ (k a b n : Nat), b < 2 ^ k → 2 * k + 1 ≤ n → whl t body n (st a b) = .ok (.nx, st (Nat.gcd a b) 0) := by
  intro k
  induction k with
  | zero =>
    intro a b n h1 h2
    have : b = 0 := by omega
    subst this
    obtain ⟨m, rfl⟩ : ∃ m, n = m + 1 := ⟨n - 1, by omega⟩
    rw [whl_end (by rw [ht]; rfl), Nat.gcd_zero_right]
  | succ k ih =>
    intro a b n h1 h2
    by_cases z : b = 0
    · subst z
      obtain ⟨m, rfl⟩ : ∃ m, n = m + 1 := ⟨n - 1, by omega⟩
      rw [whl_end (by rw [ht]; rfl), Nat.gcd_zero_right]
    · obtain ⟨m, rfl⟩ : ∃ m, n = m + 2 := ⟨n - 2, by omega⟩
      rw [whl_step (by rw [ht, decide_eq_true (by omega : 0 < b)]) (hb a b (by omega))]
      have lt : a % b < b := Nat.mod_lt _ (by omega)
      have g1 : Nat.gcd a b = Nat.gcd b (a % b) := by rw [Nat.gcd_comm a b, Nat.gcd_rec b a, Nat.gcd_comm]
      by_cases z2 : a % b = 0
      · rw [z2, whl_end (by rw [ht]; rfl), g1, z2, Nat.gcd_zero_right]
      · rw [whl_step (by rw [ht, decide_eq_true (by omega : 0 < a % b)]) (hb b (a % b) (by omega))]
        have lt2 : b % (a % b) < a % b := Nat.mod_lt _ (by omega)
        have le2 : b % (a % b) + (a % b) ≤ b := by
          have h3 := Nat.div_add_mod b (a % b)
          have h4 : 1 ≤ b / (a % b) := (Nat.le_div_iff_mul_le (by omega)).mpr (by omega)
          have h5 : a % b * 1 ≤ a % b * (b / (a % b)) := Nat.mul_le_mul_left _ h4
          omega
        rw [ih (a % b) (b % (a % b)) m (by rw [Nat.pow_succ] at h1; omega) (by omega), g1]
        congr 3
        rw [Nat.gcd_comm b (a % b), Nat.gcd_rec (a % b) b, Nat.gcd_comm]
theorem factor_eq (n a b : Nat) (hb : b < 2 ^ 60) (hn : 121 ≤ n) : ∃ as', F_factor_of n [.dat (.int a), .dat (.int b)] = some (.dat (.int (Nat.gcd a b)), as') := by
  refine ⟨_, runB_rt (s := .dat (.int (Nat.gcd a b))) (ρ := [some (.dat (.int (Nat.gcd a b))), some (.dat (.int (0 : Nat)))]) rfl ?_⟩
  show g_factor_of n [some (.dat (.int a)), some (.dat (.int b))] = _
  unfold g_factor_of
  rw [seq_nx (euclid (fun a b => [some (.dat (.int a)), some (.dat (.int b))]) _ _ (fun a b => by
      simp only [M.tB, bnd_T, e2, bnd, eV, eC, List.getElem?_cons_succ, List.getElem?_cons_zero, Rz.bind, ofO, gtD, frc_eq, iLt_eq]
      congr 2
      simp) (fun a b h => by
      have h0 : (0 : Int) < b := by omega
      simp [sPar, aCons, aNil, e2, bnd, eV, Rz.bind, ofO, frc_eq, modD, h, isIo]) 60 a b n hb hn)]
  simp [sRet, bndS, eV, Rz.bind]
def gcds (C : List Nat) : Nat := C.foldl (fun f c => Nat.gcd f c) 0
theorem lgcd_eq (n : Nat) (C : List Nat) (hC : ∀ c ∈ C, c < 2 ^ 60) (hn : 121 ≤ n) : ∃ as', F__law_gcd n [.dat (.lst (C.map fun c => .int (c : Nat)))] = some (.dat (.int (gcds C)), as') := by
  let L : D := .lst (C.map fun c => .int (c : Nat))
  let R : Nat → Rho → Prop := fun f ρ => ∃ s2 s3 s4, ρ = [some (.dat L), some (.dat (.int f)), s2, s3, s4] ∧ isIo ρ 2 = false ∧ isIo ρ 3 = false ∧ isIo ρ 4 = false
  obtain ⟨ρ', e, s2, s3, s4, rfl, _⟩ := forL_rel (tg := tName 2) (body := sSeq (sPar 3 4 (aCons (eV 1) (aCons (eV 2) aNil))) (sSeq (whl (M.tB (e2 gtD (eV 4) (eC (.int 0)))) (sPar 3 4 (aCons (eV 4) (aCons (e2 modD (eV 3) (eV 4)) aNil))) n) (sSet 1 (eV 3)))) R
    (fun f d => match d with | .int i => Nat.gcd f i.toNat | _ => f) (C.map fun c => D.int (c : Nat)) (fun d hd f ρ ⟨s2, s3, s4, e, i2, i3, i4⟩ => by
      subst e
      obtain ⟨c, hc, rfl⟩ := List.mem_map.mp hd
      refine ⟨[some (.dat L), some (.dat (.int f)), some (.dat (.int c)), s3, s4], [some (.dat L), some (.dat (.int (Nat.gcd f c))), some (.dat (.int c)), some (.dat (.int (Nat.gcd f c))), some (.dat (.int (0 : Nat)))], ?_, ?_, ⟨_, _, _, rfl, rfl, rfl, rfl⟩⟩
      · simp only [tName, i2]; rfl
      · have i3' : isIo [some (.dat L), some (.dat (.int f)), some (.dat (.int c)), s3, s4] 3 = false := i3
        have i4' : isIo [some (.dat L), some (.dat (.int f)), some (.dat (.int c)), s3, s4] 4 = false := i4
        rw [seq_nx (ρ1 := [some (.dat L), some (.dat (.int f)), some (.dat (.int c)), some (.dat (.int f)), some (.dat (.int c))]) (by
          simp [sPar, aCons, aNil, eV, Rz.bind, i3', i4'])]
        rw [seq_nx (euclid (fun a b => [some (.dat L), some (.dat (.int f)), some (.dat (.int c)), some (.dat (.int a)), some (.dat (.int b))]) _ _ (fun a b => by
          simp only [M.tB, bnd_T, e2, bnd, eV, eC, List.getElem?_cons_succ, List.getElem?_cons_zero, Rz.bind, ofO, gtD, frc_eq, iLt_eq]
          congr 2
          simp) (fun a b h => by
          have h0 : (0 : Int) < b := by omega
          simp [sPar, aCons, aNil, e2, bnd, eV, Rz.bind, ofO, frc_eq, modD, h, isIo]) 60 f c n (hC c hc) hn)]
        simp [sSet, bndS, eV, Rz.bind, isIo]) 0 [some (.dat L), some (.dat (.int (0 : Nat))), none, none, none] ⟨none, none, none, rfl, rfl, rfl, rfl⟩
  have hf : (C.map fun c => D.int (c : Nat)).foldl (fun f d => match d with | .int i => Nat.gcd f i.toNat | _ => f) 0 = gcds C := by
    rw [List.foldl_map]; rfl
  rw [hf] at e
  refine ⟨_, runB_rt (s := .dat (.int (gcds C))) (ρ := [some (.dat L), some (.dat (.int (gcds C))), s2, s3, s4]) rfl ?_⟩
  show g__law_gcd n [some (.dat L), none, none, none, none] = _
  unfold g__law_gcd
  rw [seq_nx (ρ1 := [some (.dat L), some (.dat (.int (0 : Nat))), none, none, none]) (by simp [sSet, bndS, eC, Rz.bind, isIo])]
  rw [seq_nx (ρ1 := [some (.dat L), some (.dat (.int (gcds C))), s2, s3, s4]) (by
    simp only [sFor, iSeq, eV, Rz.bind, List.getElem?_cons_zero]
    exact e)]
  simp [sRet, bndS, eV, Rz.bind]
def chN (m k : Nat) : Nat := (chM m k).toNat
theorem chN_eq {m k : Nat} (hm : m ≤ 60) (hk : k ≤ m) : chM m k = (chN m k : Nat) := by
  have := (ch_rng hm hk).1
  unfold chN; omega
theorem chN_rng {m k : Nat} (hm : m ≤ 60) (hk : k ≤ m) : 0 < chN m k ∧ chN m k < 2 ^ 60 := by
  have := ch_rng hm hk
  unfold chN; omega
theorem gcds_map (s : Nat) (xs : List Nat) : xs.foldl (fun f x => Nat.gcd (chN s x) f) 0 = gcds (xs.map (chN s)) := by
  unfold gcds
  rw [List.foldl_map]
  congr 1
  funext f x
  exact Nat.gcd_comm _ _
theorem commonin_eq (n s : Nat) (xs : List Nat) (hs : s ≤ 60) (hx : ∀ x ∈ xs, x ≤ s) (hn : 121 ≤ n) : ∃ as', F_common_in n [.dat (.int s), .dat (.tup (xs.map nd))] = some (.dat (.int (gcds (xs.map (chN s)))), as') := by
  let L : D := .tup (xs.map nd)
  let R : Nat → Rho → Prop := fun f ρ => f < 2 ^ 60 ∧ ∃ s3, ρ = [some (.dat (.int s)), some (.dat L), some (.dat (.int f)), s3] ∧ isIo ρ 3 = false
  obtain ⟨ρ', e, _, s3, rfl, _⟩ := forL_rel (tg := tName 3) (body := sSet 2 (eCall F_factor_of n (rCons (eCall F_choose n (rCons (eV 0) (rCons (eV 3) rNil))) (rCons (eV 2) rNil)))) R
    (fun f d => match d with | .int i => Nat.gcd (chN s i.toNat) f | _ => f) (xs.map nd) (fun d hd f ρ ⟨hf, s3, e, i3⟩ => by
      subst e
      obtain ⟨x, hx0, rfl⟩ := List.mem_map.mp hd
      have hxs := hx x hx0
      obtain ⟨a1, e1⟩ := choose_eq n s x (by omega) (by omega) (by omega)
      rw [chN_eq hs hxs] at e1
      obtain ⟨a2, e2⟩ := factor_eq n (chN s x) f hf hn
      refine ⟨[some (.dat (.int s)), some (.dat L), some (.dat (.int f)), some (.dat (.int x))], [some (.dat (.int s)), some (.dat L), some (.dat (.int (Nat.gcd (chN s x) f))), some (.dat (.int x))], ?_, ?_, Nat.lt_of_le_of_lt (Nat.gcd_le_left _ (chN_rng hs hxs).1) (chN_rng hs hxs).2, _, rfl, rfl⟩
      · simp only [tName, i3]; rfl
      · have c1 : eCall F_choose n (rCons (eV 0) (rCons (eV 3) rNil)) [some (.dat (.int s)), some (.dat L), some (.dat (.int f)), some (.dat (.int x))] = .ok (.int (chN s x), [some (.dat (.int s)), some (.dat L), some (.dat (.int f)), some (.dat (.int x))]) :=
          call_d (ds := [.int s, .int x]) (by simp [rCons, rNil, eV, Rz.bind]) e1
        have c2 : eCall F_factor_of n (rCons (eCall F_choose n (rCons (eV 0) (rCons (eV 3) rNil))) (rCons (eV 2) rNil)) [some (.dat (.int s)), some (.dat L), some (.dat (.int f)), some (.dat (.int x))] = .ok (.int (Nat.gcd (chN s x) f), [some (.dat (.int s)), some (.dat L), some (.dat (.int f)), some (.dat (.int x))]) :=
          call_d (ds := [.int (chN s x), .int f]) (by simp [rCons, rNil, c1, eV, Rz.bind]) e2
        simp [sSet, bndS, c2, Rz.bind, isIo]) 0 [some (.dat (.int s)), some (.dat L), some (.dat (.int (0 : Nat))), none] ⟨by decide, none, rfl, rfl⟩
  have hf : (xs.map nd).foldl (fun f d => match d with | .int i => Nat.gcd (chN s i.toNat) f | _ => f) 0 = gcds (xs.map (chN s)) := by
    rw [← gcds_map, List.foldl_map]; rfl
  rw [hf] at e
  refine ⟨_, runB_rt (s := .dat (.int (gcds (xs.map (chN s))))) (ρ := [some (.dat (.int s)), some (.dat L), some (.dat (.int (gcds (xs.map (chN s))))), s3]) rfl ?_⟩
  show g_common_in n [some (.dat (.int s)), some (.dat L), none, none] = _
  unfold g_common_in
  rw [seq_nx (ρ1 := [some (.dat (.int s)), some (.dat L), some (.dat (.int (0 : Nat))), none]) (by simp [sSet, bndS, eC, Rz.bind, isIo])]
  rw [seq_nx (ρ1 := [some (.dat (.int s)), some (.dat L), some (.dat (.int (gcds (xs.map (chN s))))), s3]) (by
    simp only [sFor, iSeq, eV, Rz.bind, List.getElem?_cons_succ, List.getElem?_cons_zero]
    exact e)]
  simp [sRet, bndS, eV, Rz.bind]
theorem commonin_v (n s : Nat) (xs : List Nat) (hs : s ≤ 60) (hx : ∀ x ∈ xs, x ≤ s) (hn : 121 ≤ n) : Fv F_common_in n [.int s, .tup (xs.map nd)] = some (.int (gcds (xs.map (chN s)))) := Fv_ex (ds := [.int s, .tup (xs.map nd)]) (commonin_eq n s xs hs hx hn)
theorem lgcd_v (n : Nat) (C : List Nat) (hC : ∀ c ∈ C, c < 2 ^ 60) (hn : 121 ≤ n) : Fv F__law_gcd n [.lst (C.map nd)] = some (.int (gcds C)) := Fv_ex (ds := [.lst (C.map nd)]) (lgcd_eq n C hC hn)
theorem pascal_v (n m : Nat) (hm : m ≤ 60) : Fv F__law_pascal n [.int m] = some (.lst ((pasc m).map D.int)) := Fv_ex (ds := [.int m]) (pascal_eq n m hm)
end Lk

namespace Lk
open PySem PySem.Spec PyProof.Rows L2 M
theorem nxL_find {tg : TgD} {ft : FT} {fe : FE} {vs : List Nat} {ρ : Rho} (p : D → Bool) : ∀ ds : List D, (∀ d ∈ ds, ∃ ρ1 ρ2, tg d ρ = some ρ1 ∧ ft ρ1 = .ok (p d, ρ2) ∧ noIo vs ρ2 = true ∧ wipeR vs ρ2 = ρ ∧ fe ρ2 = .ok (d, ρ2)) → nxL tg ft fe vs ds ρ = .ok (ds.find? p, ρ)
  | [], _ => by simp [nxL]
  | d :: ds, h => by
    obtain ⟨ρ1, ρ2, e1, e2, e3, e4, e5⟩ := h d (List.mem_cons_self ..)
    unfold nxL
    rw [frc_eq, nrmR_eq, e1]
    simp only [e2, Rz.bind]
    cases q : p d with
    | true => simp only [if_true, e5, e3, e4, List.find?_cons, q]
    | false => simp only [Bool.false_eq_true, if_false, e3, if_true, e4, List.find?_cons, q]; exact nxL_find p ds fun x hx => h x (List.mem_cons_of_mem _ hx)
/-- the common factor of a group -/
def cg (s nm g : Nat) : Nat := gcds ((alw s nm g).map (chN s))
/-- the first group that bars -/
def fg (s nm : Nat) : Option Nat := (List.range (nm - 1)).findSome? fun i => if 1 < cg s nm (i + 1) then some (i + 1) else none
def brd (s nm : Nat) : Bool := decide (nm < s) || (fg s nm).isSome
theorem fg_some {s nm g : Nat} (h : fg s nm = some g) : 1 ≤ g ∧ g < nm ∧ 1 < cg s nm g := by
  unfold fg at h
  obtain ⟨i, hi, e⟩ := List.exists_of_findSome?_eq_some h
  have := List.mem_range.mp hi
  split at e
  · cases e; exact ⟨by omega, by omega, by assumption⟩
  · cases e
theorem fg_none {s nm : Nat} (h : fg s nm = none) {g : Nat} (h1 : 1 ≤ g) (h2 : g < nm) : ¬ 1 < cg s nm g := by
  unfold fg at h
  rw [List.findSome?_eq_none_iff] at h
  have := h (g - 1) (List.mem_range.mpr (by omega))
  rw [show g - 1 + 1 = g by omega] at this
  intro z
  rw [if_pos z] at this
  cases this
def oD : Option Nat → D | some g => .int g | none => .non
section
variable (n s nm : Nat) (hs : s ≤ 60) (hn : nm ≤ 200) (hf : 121 ≤ n)
theorem rg_grp (hn : nm ≤ 200) (ρ : Rho) (i : Nat) (hi : ρ[i]? = some (some (.dat (.int nm)))) : iRg rg2 (aCons (eC (.int 1)) (aCons (eV i) aNil)) ρ = .ok (rgD 1 (nm - 1), ρ) := by
  have h1 : small62 (nm : Int) = true := small62_le (by omega) (by omega)
  have h0 : small62 1 = true := small62_le (by omega) (by omega)
  have e : ((nm : Int) - 1).toNat = nm - 1 := by omega
  simp [iRg, aCons, aNil, eC, eV, hi, Rz.bind, rg2, h0, h1, e]
theorem find_fg (s nm : Nat) : ∀ l : List Nat, (l.map fun (i : Nat) => D.int (1 + (i : Int))).find? (fun d => match d with | .int g => decide (1 < cg s nm g.toNat) | _ => false) = (l.findSome? fun i => if 1 < cg s nm (i + 1) then some (i + 1) else none).map fun (g : Nat) => D.int g
  | [] => rfl
  | i :: l => by
    have ih := find_fg s nm l
    have e : ((1 : Int) + i).toNat = i + 1 := by omega
    have e2 : ((1 : Int) + i) = ((i + 1 : Nat) : Int) := by omega
    rw [List.map_cons, List.find?_cons, List.findSome?_cons]
    simp only [e]
    by_cases z : 1 < cg s nm (i + 1)
    · simp only [z, decide_true, if_true, Option.map_some, e2]
    · simp only [z, decide_false, if_false]; exact ih
include hs hn hf in
theorem barring_v : Fv F_barring_group n [.int s, .int nm] = some (oD (fg s nm)) := by
  refine Fv_rt (g := g_barring_group n) rfl rfl (ρ := [some (.dat (.int s)), some (.dat (.int nm)), none]) ?_
  show g_barring_group n [some (.dat (.int s)), some (.dat (.int nm)), none] = _
  have c := nxL_find (tg := tName 2) (ft := M.tB (M.e2 gtD (eCall F_common_in n (rCons (eV 0) (rCons (eCall F_allowed_in n (rCons (eV 0) (rCons (eV 1) (rCons (eV 2) rNil)))) rNil))) (eC (.int 1)))) (fe := eV 2) (vs := [2]) (ρ := [some (.dat (.int s)), some (.dat (.int nm)), none])
    (fun d => match d with | .int g => decide (1 < cg s nm g.toNat) | _ => false) (rgD 1 (nm - 1)) (fun d hd => by
      obtain ⟨k, hk, rfl⟩ := rgD_mem hd
      have ek : (1 : Int) + k = ((k + 1 : Nat) : Int) := by omega
      rw [ek]
      have q1 := allowed_v n s nm (k + 1) hs (by omega)
      have q2 := commonin_v n s (alw s nm (k + 1)) hs (fun x hx => alw_le hx) hf
      refine ⟨[some (.dat (.int s)), some (.dat (.int nm)), some (.dat (.int (k + 1 : Nat)))], [some (.dat (.int s)), some (.dat (.int nm)), some (.dat (.int (k + 1 : Nat)))], rfl, ?_, rfl, rfl, rfl⟩
      have e3 : (((k + 1 : Nat) : Int)).toNat = k + 1 := rfl
      have c1 : eCall F_common_in n (rCons (eV 0) (rCons (eCall F_allowed_in n (rCons (eV 0) (rCons (eV 1) (rCons (eV 2) rNil)))) rNil)) [some (.dat (.int s)), some (.dat (.int nm)), some (.dat (.int (k + 1 : Nat)))] = .ok (.int (cg s nm (k + 1)), [some (.dat (.int s)), some (.dat (.int nm)), some (.dat (.int (k + 1 : Nat)))]) := by
        rw [eCall2, eV_ok rfl]
        simp only [Rz.bind]
        rw [eCall3, eV_ok rfl]
        simp only [Rz.bind]
        rw [eV_ok (i := 1) rfl]
        simp only [Rz.bind]
        rw [eV_ok (i := 2) rfl]
        simp only [Rz.bind, q1, ofO_some, q2]
        rfl
      refine tB_ok (e2_ok c1 eC_ok ?_)
      show gtD (.int (cg s nm (k + 1) : Nat)) (.int 1) = _
      simp only [gtD, iLt_eq, e3]
      congr 2
      rw [decide_eq_decide]; omega)
  rw [rgD, find_fg] at c
  show sRet (eNext _ _ _ _ _ _) _ = _
  simp only [sRet, bndS, eNext, rg_grp nm hn [some (.dat (.int s)), some (.dat (.int nm)), none] 1 rfl, Rz.bind]
  rw [if_pos (by rfl)]
  rw [show wipeR [2] [some (.dat (.int s)), some (.dat (.int nm)), none] = [some (.dat (.int s)), some (.dat (.int nm)), none] from rfl, rgD, c]
  show Rz.ok _ = _
  cases z : fg s nm with
  | none => rw [show (List.findSome? _ (List.range (nm - 1))) = none from z]; rfl
  | some g => rw [show (List.findSome? _ (List.range (nm - 1))) = some g from z]; rfl
include hs hn hf in
theorem barredin_v : Fv F_is_barred_in n [.int s, .int nm] = some (.bl (brd s nm)) := by
  refine Fv_rt (g := g_is_barred_in n) rfl rfl (ρ := [some (.dat (.int s)), some (.dat (.int nm))]) ?_
  show g_is_barred_in n [some (.dat (.int s)), some (.dat (.int nm))] = _
  have q := barring_v n s nm hs hn hf
  by_cases c : nm < s
  · have c' : (nm : Int) < s := by omega
    simp [g_is_barred_in, sRet, bndS, eOr, bnd, M.e2, eV, eC, Rz.bind, ofO, frc_eq, ltD, iLt_eq, c, c', brd]
  · have c' : ¬ (nm : Int) < s := by omega
    cases z : fg s nm <;> rw [z] at q <;> simp [g_is_barred_in, sRet, bndS, eOr, bnd, M.e2, eV, eC, Rz.bind, ofO, frc_eq, ltD, iLt_eq, c, c', brd, eCall2, q, z, oD, notND, isNone]
include hs hn hf in
theorem isbarred_v (hs0 : 1 ≤ s) (hn0 : 1 ≤ nm) : Fv F_is_barred n [.int s, .int nm] = some (.bl (brd s nm)) := by
  refine Fv_rt (g := g_is_barred n) rfl rfl (ρ := [some (.dat (.int s)), some (.dat (.int nm))]) ?_
  show g_is_barred n [some (.dat (.int s)), some (.dat (.int nm))] = _
  have q := barredin_v n s nm hs hn hf
  have q0 := reqboth_v n s nm hs0 hs hn0 hn
  simp [g_is_barred, sSeq, sDrop, sNx, sRet, bndS, eV, Rz.bind, ofO, frc_eq, eCall2, q, q0]
theorem rg_any (s nm : Nat) : (rgD 1 (nm - 1)).any (fun d => match d with | .int g => decide (1 < cg s nm g.toNat) | _ => false) = (fg s nm).isSome := by
  have h := find_fg s nm (List.range (nm - 1))
  rw [Bool.eq_iff_iff, List.any_eq_true, ← List.find?_isSome, show rgD 1 (nm - 1) = (List.range (nm - 1)).map fun (i : Nat) => D.int (1 + (i : Int)) from rfl, h]
  unfold fg
  rw [Option.isSome_map]
include hs hn hf in
theorem lbarred_v : Fv F__law_barred n [.int s, .int nm] = some (.bl (brd s nm)) := by
  have lt : M.tB (M.e2 ltD (eV 1) (eV 0)) [some (.dat (.int s)), some (.dat (.int nm)), none, none, none] = .ok (decide (nm < s), [some (.dat (.int s)), some (.dat (.int nm)), none, none, none]) := by
    refine tB_ok (e2_ok (eV_ok rfl) (eV_ok rfl) ?_)
    simp only [ltD, iLt_eq]
    congr 2
    rw [decide_eq_decide]; omega
  by_cases c : nm < s
  · refine Fv_rt (g := g__law_barred n) rfl rfl (ρ := [some (.dat (.int s)), some (.dat (.int nm)), none, none, none]) ?_
    show g__law_barred n [some (.dat (.int s)), some (.dat (.int nm)), none, none, none] = _
    rw [decide_eq_true c] at lt
    have hb : brd s nm = true := by simp [brd, c]
    rw [hb]
    exact seq_rt (ret_if lt)
  · rw [decide_eq_false c] at lt
    have hb : brd s nm = (fg s nm).isSome := by simp [brd, c]
    let J : Rho → Prop := fun ρ => ∃ a, ρ = [some (.dat (.int s)), some (.dat (.int nm)), some (.dat (.lst ((pasc s).map D.int))), a, none] ∧ isIo ρ 3 = false
    obtain ⟨ρ', ⟨a, rfl, _⟩, e⟩ := forL_find (tg := tName 3) (body := (sIf (M.tB (M.e2 gtD (eCall F__law_gcd n (rCons (eFz (oLc (iSeq (eCall F__law_allowed n (rCons (eV 0) (rCons (eV 1) (rCons (eV 3) rNil))))) (tName 4) tYesD (M.e2 ixD (eV 2) (eV 4)) [4])) rNil)) (eC (.int 1)))) (sRet (eC (.bl true))) sNx)) J
      (fun d => match d with | .int g => decide (1 < cg s nm g.toNat) | _ => false) (.dat (.bl true)) (rgD 1 (nm - 1)) (fun d hd ρ ⟨a, e, hio⟩ => by
        subst e
        obtain ⟨k, hk, rfl⟩ := rgD_mem hd
        have ek : (1 : Int) + k = ((k + 1 : Nat) : Int) := by omega
        rw [ek]
        refine ⟨[some (.dat (.int s)), some (.dat (.int nm)), some (.dat (.lst ((pasc s).map D.int))), some (.dat (.int (k + 1 : Nat))), none], [some (.dat (.int s)), some (.dat (.int nm)), some (.dat (.lst ((pasc s).map D.int))), some (.dat (.int (k + 1 : Nat))), none], ?_, ⟨_, rfl, rfl⟩, ?_⟩
        · simp only [tName, hio]; rfl
        have hsz : 61 ≤ sizeLine := by decide
        have hal := alw_len s nm (k + 1)
        have q1 := lallowed_v n s nm (k + 1) hs (by omega)
        have c1 := lc_all (fi := iSeq (eCall F__law_allowed n (rCons (eV 0) (rCons (eV 1) (rCons (eV 3) rNil))))) (tg := tName 4) (fe := M.e2 ixD (eV 2) (eV 4)) (vs := [4]) (ρ := [some (.dat (.int s)), some (.dat (.int nm)), some (.dat (.lst ((pasc s).map D.int))), some (.dat (.int (k + 1 : Nat))), none]) (ρ0 := [some (.dat (.int s)), some (.dat (.int nm)), some (.dat (.lst ((pasc s).map D.int))), some (.dat (.int (k + 1 : Nat))), none]) (ds := (alw s nm (k + 1)).map nd)
          (fun d => match d with | .int x => nd (chN s x.toNat) | d => d) (by
            simp only [iSeq]
            rw [eCall3, eV_ok rfl]
            simp only [Rz.bind]
            rw [eV_ok (i := 1) rfl]
            simp only [Rz.bind]
            rw [eV_ok (i := 3) rfl]
            simp only [Rz.bind, q1, ofO_some]) rfl (fun d hd => by
            obtain ⟨x, hx, rfl⟩ := List.mem_map.mp hd
            have hxs := alw_le hx
            refine ⟨[some (.dat (.int s)), some (.dat (.int nm)), some (.dat (.lst ((pasc s).map D.int))), some (.dat (.int (k + 1 : Nat))), some (.dat (.int x))], _, rfl, e2_ok (eV_ok rfl) (eV_ok rfl) (d := nd (chN s x)) ?_, rfl, rfl⟩
            have hl : x < (pasc s).length := by rw [pasc_len]; omega
            have h1 := row_ch hs hxs
            rw [chN_eq hs hxs] at h1
            rw [List.getD_eq_getElem?_getD, List.getElem?_eq_getElem hl, Option.getD_some] at h1
            show atI ((pasc s).map D.int) (x : Int) = _
            simp [atI, ixN, hl, h1, nd]) (by rw [List.length_map]; omega)
        have e1 : ((alw s nm (k + 1)).map nd).map (fun d => match d with | .int x => nd (chN s x.toNat) | d => d) = ((alw s nm (k + 1)).map (chN s)).map nd := by
          rw [List.map_map, List.map_map]; rfl
        rw [e1] at c1
        have q2 := lgcd_v n ((alw s nm (k + 1)).map (chN s)) (fun c hc => by
          obtain ⟨x, hx, rfl⟩ := List.mem_map.mp hc
          exact (chN_rng hs (alw_le hx)).2) hf
        have c2 : eCall F__law_gcd n (rCons (eFz (oLc (iSeq (eCall F__law_allowed n (rCons (eV 0) (rCons (eV 1) (rCons (eV 3) rNil))))) (tName 4) tYesD (M.e2 ixD (eV 2) (eV 4)) [4])) rNil) [some (.dat (.int s)), some (.dat (.int nm)), some (.dat (.lst ((pasc s).map D.int))), some (.dat (.int (k + 1 : Nat))), none] = .ok (.int (cg s nm (k + 1)), [some (.dat (.int s)), some (.dat (.int nm)), some (.dat (.lst ((pasc s).map D.int))), some (.dat (.int (k + 1 : Nat))), none]) := by
          rw [eCall1, fz_ok c1]
          simp only [Rz.bind, q2]
          rw [ofO_some]
          rfl
        have c3 : M.tB (M.e2 gtD (eCall F__law_gcd n (rCons (eFz (oLc (iSeq (eCall F__law_allowed n (rCons (eV 0) (rCons (eV 1) (rCons (eV 3) rNil))))) (tName 4) tYesD (M.e2 ixD (eV 2) (eV 4)) [4])) rNil)) (eC (.int 1))) [some (.dat (.int s)), some (.dat (.int nm)), some (.dat (.lst ((pasc s).map D.int))), some (.dat (.int (k + 1 : Nat))), none] = .ok (decide (1 < cg s nm (k + 1)), [some (.dat (.int s)), some (.dat (.int nm)), some (.dat (.lst ((pasc s).map D.int))), some (.dat (.int (k + 1 : Nat))), none]) := by
          refine tB_ok (e2_ok c2 eC_ok ?_)
          show gtD (.int (cg s nm (k + 1) : Nat)) (.int 1) = _
          simp only [gtD, iLt_eq]
          congr 2
          rw [decide_eq_decide]; omega
        have e3 : (((k + 1 : Nat) : Int)).toNat = k + 1 := rfl
        simp only [e3]
        by_cases z : 1 < cg s nm (k + 1)
        · rw [decide_eq_true z] at c3 ⊢
          rw [if_pos rfl]
          exact ret_if c3
        · rw [decide_eq_false z] at c3 ⊢
          rw [if_neg (by simp)]
          exact skip_if c3) [some (.dat (.int s)), some (.dat (.int nm)), some (.dat (.lst ((pasc s).map D.int))), none, none] ⟨none, rfl, rfl⟩
    rw [rg_any] at e
    have q1 := pascal_v n s hs
    have st : ∀ x : FS, sSeq (sIf (M.tB (M.e2 ltD (eV 1) (eV 0))) (sRet (eC (.bl true))) sNx) (sSeq (sSet 2 (eCall F__law_pascal n (rCons (eV 0) rNil))) x) [some (.dat (.int s)), some (.dat (.int nm)), none, none, none] = x [some (.dat (.int s)), some (.dat (.int nm)), some (.dat (.lst ((pasc s).map D.int))), none, none] := fun x => by
      rw [seq_nx (skip_if lt)]
      refine seq_nx ?_
      refine (set_ok (d := .lst ((pasc s).map D.int)) (ρ1 := [some (.dat (.int s)), some (.dat (.int nm)), none, none, none]) ?_ rfl).trans rfl
      rw [eCall1, eV_ok rfl]
      simp only [Rz.bind, q1, ofO_some]
    rw [hb]
    cases z : (fg s nm).isSome with
    | true =>
      rw [z, if_pos rfl] at e
      refine Fv_rt (g := g__law_barred n) rfl rfl (ρ := [some (.dat (.int s)), some (.dat (.int nm)), some (.dat (.lst ((pasc s).map D.int))), a, none]) ?_
      show g__law_barred n [some (.dat (.int s)), some (.dat (.int nm)), none, none, none] = _
      unfold g__law_barred
      rw [st]
      refine seq_rt ?_
      simp only [sFor, rg_grp nm hn [some (.dat (.int s)), some (.dat (.int nm)), some (.dat (.lst ((pasc s).map D.int))), none, none] 1 rfl, Rz.bind]
      exact e
    | false =>
      rw [z, if_neg (by simp)] at e
      refine Fv_rt (g := g__law_barred n) rfl rfl (ρ := [some (.dat (.int s)), some (.dat (.int nm)), some (.dat (.lst ((pasc s).map D.int))), a, none]) ?_
      show g__law_barred n [some (.dat (.int s)), some (.dat (.int nm)), none, none, none] = _
      unfold g__law_barred
      rw [st, seq_nx (ρ1 := [some (.dat (.int s)), some (.dat (.int nm)), some (.dat (.lst ((pasc s).map D.int))), a, none]) (by
        simp only [sFor, rg_grp nm hn [some (.dat (.int s)), some (.dat (.int nm)), some (.dat (.lst ((pasc s).map D.int))), none, none] 1 rfl, Rz.bind]
        exact e)]
      rfl
end
end Lk

namespace Lk
open PySem PySem.Spec PyProof.Rows L2 M
/-! Euclid's loop with more beside it -/
theorem euclidX (St : Nat → Nat → Rho → Prop) (t : FT) (body : FS) (ht : ∀ a b ρ, St a b ρ → t ρ = .ok (decide (0 < b), ρ)) (hb : ∀ a b ρ, 0 < b → St a b ρ → ∃ ρ', body ρ = .ok (.nx, ρ') ∧ St b (a % b) ρ') :
    ∀ (k a b n : Nat) (ρ : Rho), b < 2 ^ k → 2 * k + 1 ≤ n → St a b ρ → ∃ ρ', whl t body n ρ = .ok (.nx, ρ') ∧ St (Nat.gcd a b) 0 ρ' := by
  intro k
  induction k with
  | zero =>
    intro a b n ρ h1 h2 h3
    have : b = 0 := by omega
    subst this
    obtain ⟨m, rfl⟩ : ∃ m, n = m + 1 := ⟨n - 1, by omega⟩
    rw [whl_end (by rw [ht _ _ _ h3]; rfl), Nat.gcd_zero_right]
    exact ⟨_, rfl, h3⟩
  | succ k ih =>
    intro a b n ρ h1 h2 h3
    by_cases z : b = 0
    · subst z
      obtain ⟨m, rfl⟩ : ∃ m, n = m + 1 := ⟨n - 1, by omega⟩
      rw [whl_end (by rw [ht _ _ _ h3]; rfl), Nat.gcd_zero_right]
      exact ⟨_, rfl, h3⟩
    · obtain ⟨m, rfl⟩ : ∃ m, n = m + 2 := ⟨n - 2, by omega⟩
      obtain ⟨ρ1, e1, s1⟩ := hb a b ρ (by omega) h3
      rw [whl_step (by rw [ht _ _ _ h3, decide_eq_true (by omega : 0 < b)]) e1]
      have lt : a % b < b := Nat.mod_lt _ (by omega)
      have g1 : Nat.gcd a b = Nat.gcd b (a % b) := by rw [Nat.gcd_comm a b, Nat.gcd_rec b a, Nat.gcd_comm]
      by_cases z2 : a % b = 0
      · rw [g1, z2, Nat.gcd_zero_right]
        rw [z2] at s1
        rw [whl_end (by rw [ht _ _ _ s1]; rfl)]
        exact ⟨_, rfl, s1⟩
      · obtain ⟨ρ2, e2, s2⟩ := hb b (a % b) ρ1 (by omega) s1
        rw [whl_step (by rw [ht _ _ _ s1, decide_eq_true (by omega : 0 < a % b)]) e2]
        have lt2 : b % (a % b) < a % b := Nat.mod_lt _ (by omega)
        have le2 : b % (a % b) + (a % b) ≤ b := by
          have h3 := Nat.div_add_mod b (a % b)
          have h4 : 1 ≤ b / (a % b) := (Nat.le_div_iff_mul_le (by omega)).mpr (by omega)
          have h5 : a % b * 1 ≤ a % b * (b / (a % b)) := Nat.mul_le_mul_left _ h4
          omega
        obtain ⟨ρ3, e3, s3⟩ := ih (a % b) (b % (a % b)) m ρ2 (by rw [Nat.pow_succ] at h1; omega) (by omega) s2
        refine ⟨ρ3, e3, ?_⟩
        rw [g1, Nat.gcd_comm b (a % b), Nat.gcd_rec (a % b) b, Nat.gcd_comm]
        exact s3
/-! sums of products -/
def dot : List Int → List Nat → Int
  | x :: xs, c :: cs => x * c + dot xs cs
  | _, _ => 0
theorem dot_snoc (o p : Int) (c : Nat) : ∀ (xs : List Int) (cs : List Nat), xs.length = cs.length → dot (xs.map (· * o) ++ [p]) (cs ++ [c]) = o * dot xs cs + p * c
  | [], [], _ => by simp [dot]
  | x :: xs, d :: cs, h => by
    have ih := dot_snoc o p c xs cs (by simpa using h)
    simp only [List.map_cons, List.cons_append, dot, ih]
    grind
  | [], _ :: _, h => by simp at h
  | _ :: _, [], h => by simp at h
theorem dot_set (y : Int) : ∀ (xs : List Int) (cs : List Nat) (i : Nat) (x : Int) (c : Nat), xs[i]? = some x → cs[i]? = some c → dot (xs.set i y) cs = dot xs cs + (y - x) * c
  | x :: xs, d :: cs, 0, z, c, h1, h2 => by
    simp at h1 h2
    subst h1 h2
    simp only [List.set_cons_zero, dot]
    grind
  | x :: xs, d :: cs, i + 1, z, c, h1, h2 => by
    simp only [List.getElem?_cons_succ] at h1 h2
    have ih := dot_set y xs cs i z c h1 h2
    simp only [List.set_cons_succ, dot, ih]
    omega
  | [], _, i, z, c, h1, _ => by simp at h1
  | _ :: _, [], i, z, c, _, h2 => by simp at h2
theorem dot_rng (p B : Nat) : ∀ (xs : List Int) (cs : List Nat), (∀ x ∈ xs, 0 ≤ x ∧ x ≤ p) → (∀ c ∈ cs, c ≤ B) → 0 ≤ dot xs cs ∧ dot xs cs ≤ xs.length * (p * B : Nat)
  | [], _, _, _ => by simp [dot]
  | x :: xs, [], _, _ => by
    simp only [dot]
    exact ⟨Int.le_refl _, Int.mul_nonneg (by omega) (by omega)⟩
  | x :: xs, c :: cs, h1, h2 => by
    obtain ⟨a, b⟩ := dot_rng p B xs cs (fun y hy => h1 y (List.mem_cons_of_mem _ hy)) (fun y hy => h2 y (List.mem_cons_of_mem _ hy))
    obtain ⟨x0, x1⟩ := h1 x (List.mem_cons_self ..)
    have hc := h2 c (List.mem_cons_self ..)
    have m1 : 0 ≤ x * (c : Int) := Int.mul_nonneg x0 (by omega)
    have m2 : x * (c : Int) ≤ ((p * B : Nat) : Int) := by
      rw [Int.natCast_mul]
      exact Int.mul_le_mul x1 (by omega) (by omega) (by omega)
    simp only [dot, List.length_cons]
    refine ⟨by omega, ?_⟩
    have : (((xs.length + 1 : Nat) : Int)) * ((p * B : Nat) : Int) = xs.length * ((p * B : Nat) : Int) + ((p * B : Nat) : Int) := by
      rw [Int.natCast_add, Int.add_mul]; simp
    omega
/-- what the loop keeps: the two rows, their signs, their sizes -/
structure Bz (f c a b : Nat) (one other ahead behind : Int) : Prop where
  l : one * f + other * c = a
  r : ahead * f + behind * c = b
  s : ∃ (e u v : Int), (e = 1 ∨ e = -1) ∧ one = e * u ∧ ahead = -e * v ∧ 0 ≤ u ∧ 0 ≤ v ∧ u * b + v * a = c
  a0 : 0 < a
  u : -(c : Int) ≤ one ∧ one ≤ c
theorem Bz.start (f c : Nat) (hf : 0 < f) (hc : 0 < c) : Bz f c f c 1 0 0 1 := ⟨by simp, by simp, ⟨1, 1, 0, .inl rfl, by simp, by simp, by omega, by omega, by simp⟩, hf, by omega⟩
theorem Bz.step {f c a b : Nat} {one other ahead behind : Int} (hb : 0 < b) (h : Bz f c a b one other ahead behind) : Bz f c b (a % b) ahead behind (one - (a / b : Nat) * ahead) (other - (a / b : Nat) * behind) := by
  obtain ⟨hl, hr, ⟨e, u, v, he, h1, h2, hu, hv, hs⟩, ha, hub⟩ := h
  have hm : ((a % b : Nat) : Int) = (a : Int) - ((a / b : Nat) : Int) * (b : Int) := by
    have := Nat.div_add_mod a b
    have z : ((b * (a / b) + a % b : Nat) : Int) = a := by rw [this]
    rw [Int.natCast_add, Int.natCast_mul] at z
    grind
  generalize hq : ((a / b : Nat) : Int) = q at hm ⊢
  have hq0 : 0 ≤ q := by rw [← hq]; exact Int.natCast_nonneg _
  refine ⟨hr, by rw [hm]; grind, ⟨-e, v, u + q * v, by omega, by rw [h2], ?_, hv, ?_, by rw [hm]; grind⟩, hb, ?_⟩
  · rw [h1, h2]; grind
  · have := Int.mul_nonneg hq0 hv; omega
  · -- |ahead| = v, and v * a ≤ c with a > 0
    have m1 : 0 ≤ u * (b : Int) := Int.mul_nonneg hu (by omega)
    have m2 : v * 1 ≤ v * (a : Int) := Int.mul_le_mul_of_nonneg_left (by omega) hv
    have hv2 : v ≤ c := by omega
    rcases he with rfl | rfl
    · rw [h2]; omega
    · rw [h2]; omega
end Lk

namespace Lk
open PySem PySem.Spec PyProof.Rows L2 M
def wsB : FS := (sSeq (sSet 10 (M.e2 fdivD (eV 6) (eV 7)))
  (sSeq (sPar 6 7 (aCons (eV 7) (aCons (M.e2 subD (eV 6) (M.e2 mulD (eV 10) (eV 7))) aNil)))
  (sSeq (sAsg (M.tTup [tName 4, tName 8]) (eTup (aCons (eV 8) (aCons (M.e2 subD (eV 4) (M.e2 mulD (eV 10) (eV 8))) aNil))))
  (sPar 5 9 (aCons (eV 9) (aCons (M.e2 subD (eV 5) (M.e2 mulD (eV 10) (eV 9))) aNil))))))
def wsF (n : Nat) : FS := (sSeq (sAsg (M.tTup [tName 4, tName 5, tName 6, tName 7]) (eTup (aCons (eC (.int 1)) (aCons (eC (.int 0)) (aCons (eV 3) (aCons (eV 1) aNil))))))
  (sSeq (sAsg (M.tTup [tName 8, tName 9]) (eTup (aCons (eC (.int 0)) (aCons (eC (.int 1)) aNil))))
  (sSeq (whl (M.tB (M.e2 neS (eV 7) (eC (.int 0)))) wsB n)
  (sSeq (sSet 2 (eLst (aStar (eFz (oLc (iSeq (eV 2)) (tName 11) tYesD (M.e2 mulD (eV 11) (eV 4)) [11])) (aCons (eV 5) aNil))))
  (sSet 3 (eV 6))))))
theorem ws_eq (n : Nat) : g_whole_sum n = sSeq (sPar 2 3 (aCons (eLst (aCons (eC (.int 1)) aNil)) (aCons (M.e2 ixD (eV 0) (eC (.int 0))) aNil))) (sSeq (sFor (iSeq (eSl (eV 0) (pSome (eC (.int 1))) pNone)) (tName 1) (wsF n)) (sRet (e1 tupD (eV 2)))) := rfl
abbrev dI (i : Int) : Option Sl := some (.dat (.int i))
abbrev dL (xs : List Int) : Option Sl := some (.dat (.lst (xs.map D.int)))
theorem small_of60 {c : Nat} (h : c < 2 ^ 60) : small (c : Int) = true := by rw [small_iff]; omega
theorem log60 {b : Nat} (h0 : 0 < b) (h : b < 2 ^ 60) : (b : Int).natAbs.log2 < 9000 := by
  have : (b : Int).natAbs < 2 ^ 9000 := Nat.lt_of_lt_of_le (show (b : Int).natAbs < 2 ^ 60 by omega) (Nat.pow_le_pow_right (by decide) (by decide))
  exact (Nat.log2_lt (by omega)).mpr this
section
variable (L : D) (row : List Int) (f c : Nat)
def WS (a b : Nat) (ρ : Rho) : Prop := a < 2 ^ 60 ∧ b < 2 ^ 60 ∧ ∃ (one other ahead behind : Int) (a10 : Option Sl), isIo [a10] 0 = false ∧ Bz f c a b one other ahead behind ∧ ρ = [some (.dat L), dI c, dL row, dI f, dI one, dI other, dI a, dI b, dI ahead, dI behind, a10, none]
theorem ws_test (a b : Nat) (ρ : Rho) (h : WS L row f c a b ρ) : M.tB (M.e2 neS (eV 7) (eC (.int 0))) ρ = .ok (decide (0 < b), ρ) := by
  obtain ⟨_, _, one, other, ahead, behind, a10, _, _, rfl⟩ := h
  refine tB_ok (e2_ok (eV_ok rfl) eC_ok ?_)
  rw [neS_ii]
  congr 2
  by_cases z : 0 < b
  · rw [decide_eq_true z, Bool.not_eq_true', beq_eq_false_iff_ne]; omega
  · rw [decide_eq_false z, Bool.not_eq_false', beq_iff_eq]; omega
theorem ws_body (a b : Nat) (ρ : Rho) (hb : 0 < b) (h : WS L row f c a b ρ) : ∃ ρ', wsB ρ = .ok (.nx, ρ') ∧ WS L row f c b (a % b) ρ' := by
  obtain ⟨ha, hb2, one, other, ahead, behind, a10, i10, bz, rfl⟩ := h
  have bz' := bz.step hb
  have hq : a / b < 2 ^ 60 := Nat.lt_of_le_of_lt (Nat.div_le_self _ _) ha
  have hlt : a % b < b := Nat.mod_lt _ hb
  have hm : (a : Int) - ((a / b : Nat) : Int) * (b : Int) = ((a % b : Nat) : Int) := by
    have := Nat.div_add_mod a b
    have z : ((b * (a / b) + a % b : Nat) : Int) = a := by rw [this]
    rw [Int.natCast_add, Int.natCast_mul] at z
    grind
  have s1 : small ((a / b : Nat) : Int) = true := small_of60 hq
  have hb' : (0 : Int) < b := by omega
  have s2 : 2 ≤ sizeLine := by decide
  have i10' : ∀ x0 x1 x2 x3 x4 x5 x6 x7 x8 x9 x11, isIo [x0, x1, x2, x3, x4, x5, x6, x7, x8, x9, a10, x11] 10 = false := fun _ _ _ _ _ _ _ _ _ _ _ => i10
  refine ⟨[some (.dat L), dI c, dL row, dI f, dI ahead, dI behind, dI b, dI (a % b : Nat), dI (one - (a / b : Nat) * ahead), dI (other - (a / b : Nat) * behind), dI (a / b : Nat), none], ?_, hb2, by omega, ahead, behind, _, _, _, rfl, bz', rfl⟩
  have e10 : ((a : Int) / (b : Int)) = ((a / b : Nat) : Int) := (Int.natCast_ediv a b).symm
  unfold wsB
  rw [seq_nx (ρ1 := [some (.dat L), dI c, dL row, dI f, dI one, dI other, dI a, dI b, dI ahead, dI behind, dI (a / b : Nat), none]) (by
    refine (set_ok (d := .int (a / b : Nat)) (e2_ok (eV_ok rfl) (eV_ok rfl) ?_) (i10' _ _ _ _ _ _ _ _ _ _ _)).trans rfl
    show (if (0 : Int) < b ∧ (b : Int).natAbs.log2 < 9000 then some (D.int ((a : Int) / (b : Int))) else none) = _
    rw [if_pos ⟨hb', log60 hb hb2⟩, e10])]
  have m1 : mulD (.int (a / b : Nat)) (.int b) = some (.int ((a / b : Nat) * b)) := if_pos (.inl s1)
  have m2 : mulD (.int (a / b : Nat)) (.int ahead) = some (.int ((a / b : Nat) * ahead)) := if_pos (.inl s1)
  have m3 : mulD (.int (a / b : Nat)) (.int behind) = some (.int ((a / b : Nat) * behind)) := if_pos (.inl s1)
  rw [seq_nx (ρ1 := [some (.dat L), dI c, dL row, dI f, dI one, dI other, dI b, dI (a % b : Nat), dI ahead, dI behind, dI (a / b : Nat), none]) (by
    simp only [sPar, aCons, aNil, M.e2, bnd, eV, Rz.bind, List.getElem?_cons_succ, List.getElem?_cons_zero, ofO, frc_eq, m1, subD, hm, isIo]
    rfl)]
  rw [seq_nx (ρ1 := [some (.dat L), dI c, dL row, dI f, dI ahead, dI other, dI b, dI (a % b : Nat), dI (one - (a / b : Nat) * ahead), dI behind, dI (a / b : Nat), none]) (by
    simp only [sAsg, eTup, bndS, bndA, aCons, aNil, M.e2, bnd, eV, Rz.bind, List.getElem?_cons_succ, List.getElem?_cons_zero, ofO, frc_eq, m2, subD, List.length_cons, List.length_nil]
    simp [s2, M.tTup, tAll, tName, isIo])]
  simp only [sPar, aCons, aNil, M.e2, bnd, eV, Rz.bind, List.getElem?_cons_succ, List.getElem?_cons_zero, ofO, frc_eq, m3, subD, isIo]
  rfl
/-- one number more -/
theorem ws_turn (n : Nat) (cs : List Nat) (a4 a5 a6 a7 a8 a9 a10 : Option Sl) (i : ∀ x ∈ [a4, a5, a6, a7, a8, a9, a10], isIo [x] 0 = false) (hn : 121 ≤ n) (hf : 0 < f) (hf2 : f < 2 ^ 60) (hc : 0 < c) (hc2 : c < 2 ^ 60) (hl : row.length = cs.length) (hl2 : cs.length ≤ 100) (hd : dot row cs = f) :
    ∃ (row' : List Int) (b4 b5 b6 b7 b8 b9 b10 : Option Sl), wsF n [some (.dat L), dI c, dL row, dI f, a4, a5, a6, a7, a8, a9, a10, none] = .ok (.nx, [some (.dat L), dI c, dL row', dI (Nat.gcd f c), b4, b5, b6, b7, b8, b9, b10, none]) ∧ (∀ x ∈ [b4, b5, b6, b7, b8, b9, b10], isIo [x] 0 = false) ∧
      row'.length = (cs ++ [c]).length ∧ dot row' (cs ++ [c]) = Nat.gcd f c := by
  have s4 : 4 ≤ sizeLine := by decide
  have s2 : 2 ≤ sizeLine := by decide
  have hsz : 200 ≤ sizeLine := by decide
  have j4 : ∀ x0 x1 x2 x3 x5 x6 x7 x8 x9 x10 x11, isIo [x0, x1, x2, x3, a4, x5, x6, x7, x8, x9, x10, x11] 4 = false := fun _ _ _ _ _ _ _ _ _ _ _ => i a4 (by simp)
  have j5 : ∀ x0 x1 x2 x3 x4 x6 x7 x8 x9 x10 x11, isIo [x0, x1, x2, x3, x4, a5, x6, x7, x8, x9, x10, x11] 5 = false := fun _ _ _ _ _ _ _ _ _ _ _ => i a5 (by simp)
  have j6 : ∀ x0 x1 x2 x3 x4 x5 x7 x8 x9 x10 x11, isIo [x0, x1, x2, x3, x4, x5, a6, x7, x8, x9, x10, x11] 6 = false := fun _ _ _ _ _ _ _ _ _ _ _ => i a6 (by simp)
  have j7 : ∀ x0 x1 x2 x3 x4 x5 x6 x8 x9 x10 x11, isIo [x0, x1, x2, x3, x4, x5, x6, a7, x8, x9, x10, x11] 7 = false := fun _ _ _ _ _ _ _ _ _ _ _ => i a7 (by simp)
  have j8 : ∀ x0 x1 x2 x3 x4 x5 x6 x7 x9 x10 x11, isIo [x0, x1, x2, x3, x4, x5, x6, x7, a8, x9, x10, x11] 8 = false := fun _ _ _ _ _ _ _ _ _ _ _ => i a8 (by simp)
  have j9 : ∀ x0 x1 x2 x3 x4 x5 x6 x7 x8 x10 x11, isIo [x0, x1, x2, x3, x4, x5, x6, x7, x8, a9, x10, x11] 9 = false := fun _ _ _ _ _ _ _ _ _ _ _ => i a9 (by simp)
  obtain ⟨ρ', ew, hA, _, one, other, ahead, behind, b10, i10, bz, rfl⟩ := euclidX (WS L row f c) (M.tB (M.e2 neS (eV 7) (eC (.int 0)))) wsB (fun a b ρ h => ws_test L row f c a b ρ h) (fun a b ρ hb h => ws_body L row f c a b ρ hb h) 60 f c n
    [some (.dat L), dI c, dL row, dI f, dI 1, dI 0, dI f, dI c, dI 0, dI 1, a10, none] hc2 hn ⟨hf2, hc2, 1, 0, 0, 1, a10, i a10 (by simp), Bz.start f c hf hc, rfl⟩
  have so : small one = true := by rw [small_iff]; have := bz.u; omega
  refine ⟨row.map (· * one) ++ [other], dI one, dI other, dI (Nat.gcd f c), dI (0 : Nat), dI ahead, dI behind, b10, ?_, ?_, ?_, ?_⟩
  · unfold wsF
    rw [seq_nx (ρ1 := [some (.dat L), dI c, dL row, dI f, dI 1, dI 0, dI f, dI c, a8, a9, a10, none]) (by
      simp only [sAsg, eTup, bndS, bndA, aCons, aNil, eV, eC, Rz.bind, List.getElem?_cons_succ, List.getElem?_cons_zero, List.length_cons, List.length_nil]
      simp [s4, M.tTup, tAll, tName, j4, j5, j6, j7])]
    rw [seq_nx (ρ1 := [some (.dat L), dI c, dL row, dI f, dI 1, dI 0, dI f, dI c, dI 0, dI 1, a10, none]) (by
      simp only [sAsg, eTup, bndS, bndA, aCons, aNil, eV, eC, Rz.bind, List.getElem?_cons_succ, List.getElem?_cons_zero, List.length_cons, List.length_nil]
      simp [s2, M.tTup, tAll, tName, j8, j9])]
    rw [seq_nx ew]
    have cc := lc_all (fi := iSeq (eV 2)) (tg := tName 11) (fe := M.e2 mulD (eV 11) (eV 4)) (vs := [11]) (ρ := [some (.dat L), dI c, dL row, dI f, dI one, dI other, dI (Nat.gcd f c), dI (0 : Nat), dI ahead, dI behind, b10, none]) (ρ0 := [some (.dat L), dI c, dL row, dI f, dI one, dI other, dI (Nat.gcd f c), dI (0 : Nat), dI ahead, dI behind, b10, none]) (ds := row.map D.int)
      (fun d => match d with | .int x => .int (x * one) | d => d) rfl rfl (fun d hd => by
        obtain ⟨x, _, rfl⟩ := List.mem_map.mp hd
        exact ⟨[some (.dat L), dI c, dL row, dI f, dI one, dI other, dI (Nat.gcd f c), dI (0 : Nat), dI ahead, dI behind, b10, dI x], _, rfl, e2_ok (eV_ok rfl) (eV_ok rfl) (if_pos (.inr so)), rfl, rfl⟩) (by rw [List.length_map]; omega)
    have e1 : (row.map D.int).map (fun d => match d with | .int x => D.int (x * one) | d => d) = (row.map (· * one)).map D.int := by rw [List.map_map, List.map_map]; rfl
    rw [e1] at cc
    have er : restR [11] [some (.dat L), dI c, dL row, dI f, dI one, dI other, dI (Nat.gcd f c), dI (0 : Nat), dI ahead, dI behind, b10, none] (wipeR [11] [some (.dat L), dI c, dL row, dI f, dI one, dI other, dI (Nat.gcd f c), dI (0 : Nat), dI ahead, dI behind, b10, none]) = [some (.dat L), dI c, dL row, dI f, dI one, dI other, dI (Nat.gcd f c), dI (0 : Nat), dI ahead, dI behind, b10, none] := rfl
    rw [er] at cc
    have cf := fz_ok cc
    have ll : (row.map (· * one)).length + 1 ≤ sizeLine := by rw [List.length_map]; omega
    rw [seq_nx (ρ1 := [some (.dat L), dI c, dL (row.map (· * one) ++ [other]), dI f, dI one, dI other, dI (Nat.gcd f c), dI (0 : Nat), dI ahead, dI behind, b10, none]) (by
      refine (set_ok (d := .lst ((row.map (· * one) ++ [other]).map D.int)) (ρ1 := [some (.dat L), dI c, dL row, dI f, dI one, dI other, dI (Nat.gcd f c), dI (0 : Nat), dI ahead, dI behind, b10, none]) ?_ rfl).trans rfl
      simp only [eLst, bndA, aStar, cf, Rz.bind, aCons, aNil, eV, List.getElem?_cons_succ, List.getElem?_cons_zero]
      rw [List.map_append]
      simp only [List.map_cons, List.map_nil]
      rw [if_pos (by simp only [List.length_append, List.length_map, List.length_cons, List.length_nil]; omega)])]
    rfl
  · intro x hx
    simp only [List.mem_cons, List.not_mem_nil, or_false] at hx
    rcases hx with rfl | rfl | rfl | rfl | rfl | rfl | rfl <;> first | rfl | exact i10
  · simp [hl]
  · rw [dot_snoc _ _ _ _ _ hl, hd]
    exact bz.l
end
theorem gcds_snoc (cs : List Nat) (c : Nat) : gcds (cs ++ [c]) = Nat.gcd (gcds cs) c := by simp [gcds, List.foldl_append]
theorem gcds_pos : ∀ (cs : List Nat), cs ≠ [] → (∀ c ∈ cs, 0 < c) → 0 < gcds cs := fun cs h1 h2 => by
  obtain ⟨xs, c, rfl⟩ : ∃ xs c, cs = xs ++ [c] := ⟨cs.dropLast, cs.getLast h1, (List.dropLast_concat_getLast h1).symm⟩
  rw [gcds_snoc]
  exact Nat.gcd_pos_of_pos_right _ (h2 c (by simp))
theorem gcds_lt (cs : List Nat) (h1 : cs ≠ []) (h2 : ∀ c ∈ cs, 0 < c ∧ c < 2 ^ 60) : gcds cs < 2 ^ 60 := by
  obtain ⟨xs, c, rfl⟩ : ∃ xs c, cs = xs ++ [c] := ⟨cs.dropLast, cs.getLast h1, (List.dropLast_concat_getLast h1).symm⟩
  rw [gcds_snoc]
  have := h2 c (by simp)
  exact Nat.lt_of_le_of_lt (Nat.gcd_le_right _ this.1) this.2
/-- whole numbers that sum to the common factor -/
theorem whole_ex (n : Nat) (c0 : Nat) (cs : List Nat) (hn : 121 ≤ n) (h : ∀ c ∈ c0 :: cs, 0 < c ∧ c < 2 ^ 60) (hl : cs.length ≤ 90) : ∃ row : List Int, Fv F_whole_sum n [.lst ((c0 :: cs).map nd)] = some (.tup (row.map D.int)) ∧ row.length = (c0 :: cs).length ∧ dot row (c0 :: cs) = gcds (c0 :: cs) := by
  let L : D := .lst ((c0 :: cs).map nd)
  have h0 := h c0 (List.mem_cons_self ..)
  let R : List Nat → Rho → Prop := fun ps ρ => ps ≠ [] ∧ (∀ p ∈ ps, 0 < p ∧ p < 2 ^ 60) ∧ ps.length + 0 ≤ 100 ∧ ∃ (row : List Int) (a1 a4 a5 a6 a7 a8 a9 a10 : Option Sl), isIo [a1] 0 = false ∧ (∀ x ∈ [a4, a5, a6, a7, a8, a9, a10], isIo [x] 0 = false) ∧ row.length = ps.length ∧ dot row ps = gcds ps ∧ ρ = [some (.dat L), a1, dL row, dI (gcds ps), a4, a5, a6, a7, a8, a9, a10, none]
  have go : ∀ (qs ps : List Nat) (ρ : Rho), (∀ c ∈ qs, 0 < c ∧ c < 2 ^ 60) → ps.length + qs.length ≤ 100 → R ps ρ → ∃ ρ', forL (tName 1) (wsF n) (qs.map nd) ρ = .ok (.nx, ρ') ∧ R (ps ++ qs) ρ' := by
    intro qs
    induction qs with
    | nil => intro ps ρ _ _ r; exact ⟨ρ, by simp [forL], by simpa using r⟩
    | cons q qs ih =>
      intro ps ρ hq hlen ⟨r1, r2, r3, row, a1, a4, a5, a6, a7, a8, a9, a10, i1, i4, r5, r6, e⟩
      subst e
      have hq0 := hq q (List.mem_cons_self ..)
      simp only [List.length_cons] at hlen
      obtain ⟨row', b4, b5, b6, b7, b8, b9, b10, e1, e2, e3, e4⟩ := ws_turn L row (gcds ps) q n ps a4 a5 a6 a7 a8 a9 a10 i4 hn (gcds_pos ps r1 fun c hc => (r2 c hc).1) (gcds_lt ps r1 r2) hq0.1 hq0.2 r5 (by omega) r6
      rw [← gcds_snoc] at e1 e4
      obtain ⟨ρ', e5, r'⟩ := ih (ps ++ [q]) [some (.dat L), dI q, dL row', dI (gcds (ps ++ [q])), b4, b5, b6, b7, b8, b9, b10, none] (fun c hc => hq c (List.mem_cons_of_mem _ hc)) (by simp; omega)
        ⟨by simp, fun p hp => by
          rcases List.mem_append.mp hp with z | z
          · exact r2 p z
          · rw [List.mem_singleton.mp z]; exact hq0, by simp; omega, row', dI q, b4, b5, b6, b7, b8, b9, b10, rfl, e2, e3, e4, rfl⟩
      refine ⟨ρ', ?_, by simpa using r'⟩
      have tn : tName 1 (nd q) [some (.dat L), a1, dL row, dI (gcds ps), a4, a5, a6, a7, a8, a9, a10, none] = some [some (.dat L), dI q, dL row, dI (gcds ps), a4, a5, a6, a7, a8, a9, a10, none] := by
        have : isIo [some (.dat L), a1, dL row, dI (gcds ps), a4, a5, a6, a7, a8, a9, a10, none] 1 = false := i1
        simp only [tName, this]; rfl
      rw [List.map_cons]
      unfold forL
      rw [frc_eq, nrmR_eq, tn]
      dsimp only
      rw [e1]
      simp only [Rz.bind]
      exact e5
  have g0 : gcds [c0] = c0 := by simp [gcds]
  obtain ⟨ρ', e, _, _, _, row, a1, a4, a5, a6, a7, a8, a9, a10, _, _, l1, l2, rfl⟩ := go cs [c0] [some (.dat L), none, dL [1], dI (gcds [c0]), none, none, none, none, none, none, none, none] (fun c hc => h c (List.mem_cons_of_mem _ hc)) (by simp; omega)
    ⟨by simp, fun p hp => by rw [List.mem_singleton.mp hp]; exact h0, by simp, [1], none, none, none, none, none, none, none, none, rfl, by simp [isIo], rfl, by simp [dot, g0], rfl⟩
  refine ⟨row, Fv_rt (g := g_whole_sum n) rfl rfl (ρ := [some (.dat L), a1, dL row, dI (gcds (c0 :: cs)), a4, a5, a6, a7, a8, a9, a10, none]) ?_, by simpa using l1, l2⟩
  show g_whole_sum n [some (.dat L), none, none, none, none, none, none, none, none, none, none, none] = _
  rw [ws_eq]
  have s1 : 1 ≤ sizeLine := by decide
  rw [seq_nx (ρ1 := [some (.dat L), none, dL [1], dI (gcds [c0]), none, none, none, none, none, none, none, none]) (by
    have hx : ixD L (.int 0) = some (.int c0) := by
      show atI ((c0 :: cs).map nd) 0 = _
      simp [atI, ixN, nd]
    rw [g0]
    have l1 : eLst (aCons (eC (.int 1)) aNil) [some (.dat L), none, none, none, none, none, none, none, none, none, none, none] = .ok (.lst [.int 1], [some (.dat L), none, none, none, none, none, none, none, none, none, none, none]) := by
      simp [eLst, bndA, aCons, aNil, eC, Rz.bind, s1]
    have c1 : M.e2 ixD (eV 0) (eC (.int 0)) [some (.dat L), none, none, none, none, none, none, none, none, none, none, none] = .ok (.int c0, [some (.dat L), none, none, none, none, none, none, none, none, none, none, none]) := e2_ok (eV_ok rfl) eC_ok hx
    simp only [sPar]
    rw [show aCons (eLst (aCons (eC (.int 1)) aNil)) (aCons (M.e2 ixD (eV 0) (eC (.int 0))) aNil) [some (.dat L), none, none, none, none, none, none, none, none, none, none, none] = .ok ([.lst [.int 1], .int c0], [some (.dat L), none, none, none, none, none, none, none, none, none, none, none]) by
      rw [aCons, l1]; simp only [Rz.bind]; rw [aCons, c1]; rfl]
    simp only [Rz.bind]
    rfl)]
  rw [seq_nx (ρ1 := [some (.dat L), a1, dL row, dI (gcds (c0 :: cs)), a4, a5, a6, a7, a8, a9, a10, none]) (by
    have hc : slD L (some 1) none = some (.lst (cs.map nd)) := by
      show some (D.lst (M.cutD ((c0 :: cs).map nd) (some 1) none)) = _
      congr 2
      unfold M.cutD
      have e1 : HT.sIx ((c0 :: cs).map nd).length 0 (some 1) = 1 := (HT.sIx_nat _ _ 1).trans (by rw [List.length_map, List.length_cons]; omega)
      rw [e1, HT.sIx_none]
      simp
      exact List.take_of_length_le (by simp)
    simp only [sFor, iSeq, eSl, pSome, pNone, eV, eC, Rz.bind, List.getElem?_cons_zero, ofO, frc_eq, hc]
    exact e)]
  have ht : M.e1 tupD (eV 2) [some (.dat L), a1, dL row, dI (gcds (c0 :: cs)), a4, a5, a6, a7, a8, a9, a10, none] = .ok (.tup (row.map D.int), [some (.dat L), a1, dL row, dI (gcds (c0 :: cs)), a4, a5, a6, a7, a8, a9, a10, none]) := e1_ok (eV_ok rfl) rfl
  simp only [sRet, bndS, ht, Rz.bind]
end Lk

namespace Lk
open PySem PySem.Spec PyProof.Rows L2 M
/-- a loop: what holds ahead of the item at k -/
theorem forL_ix {tg : TgD} {body : FS} (J : Nat → Rho → Prop) : ∀ (ds : List D) (j : Nat), (∀ k d, ds[k]? = some d → ∀ ρ, J (j + k) ρ → ∃ ρ1 ρ2, tg d ρ = some ρ1 ∧ body ρ1 = .ok (.nx, ρ2) ∧ J (j + k + 1) ρ2) → ∀ ρ, J j ρ → ∃ ρ', forL tg body ds ρ = .ok (.nx, ρ') ∧ J (j + ds.length) ρ'
  | [], j, _, ρ, r => ⟨ρ, by simp [forL], r⟩
  | d :: ds, j, h, ρ, r => by
    obtain ⟨ρ1, ρ2, e1, e2, r2⟩ := h 0 d rfl ρ r
    obtain ⟨ρ', e3, r3⟩ := forL_ix J ds (j + 1) (fun k x hx ρ0 h0 => by
      have := h (k + 1) x (by simpa using hx) ρ0 (by rw [show j + (k + 1) = j + 1 + k by omega]; exact h0)
      rw [show j + (k + 1) + 1 = j + 1 + k + 1 by omega] at this
      exact this) ρ2 r2
    refine ⟨ρ', ?_, by rw [List.length_cons, show j + (ds.length + 1) = j + 1 + ds.length by omega]; exact r3⟩
    unfold forL
    rw [frc_eq, nrmR_eq, e1]
    simp only [e2, Rz.bind]
    exact e3
theorem ints_nd : ∀ (C : List Nat), asInts (C.map nd) = some (C.map fun c : Nat => (c : Int))
  | [] => rfl
  | c :: cs => by simp only [List.map_cons, nd, asInts, ints_nd cs, Option.map_some]
theorem min_ex (c0 : Nat) (cs : List Nat) : ∃ p ∈ c0 :: cs, (∀ c ∈ c0 :: cs, p ≤ c) ∧ minL [.lst ((c0 :: cs).map nd)] = some (.int p) := by
  have key : ∀ (cs : List Nat) (a : Nat), ∃ p ∈ a :: cs, (∀ c ∈ a :: cs, p ≤ c) ∧ (cs.map fun c : Nat => (c : Int)).foldl (fun a b => if iLt b a = true then b else a) (a : Int) = p := by
    intro cs
    induction cs with
    | nil => intro a; exact ⟨a, by simp, by simp, rfl⟩
    | cons c cs ih =>
      intro a
      simp only [List.map_cons, List.foldl_cons, iLt_eq]
      by_cases z : c < a
      · have z' : (c : Int) < a := by omega
        rw [if_pos (by simpa using z')]
        obtain ⟨p, h1, h2, h3⟩ := ih c
        simp only [iLt_eq] at h3
        refine ⟨p, List.mem_cons_of_mem _ h1, fun x hx => ?_, h3⟩
        rcases List.mem_cons.mp hx with rfl | hx
        · have := h2 c (List.mem_cons_self ..); omega
        · exact h2 x hx
      · have z' : ¬ (c : Int) < a := by omega
        rw [if_neg (by simpa using z')]
        obtain ⟨p, h1, h2, h3⟩ := ih a
        simp only [iLt_eq] at h3
        refine ⟨p, ?_, fun x hx => ?_, h3⟩
        · rcases List.mem_cons.mp h1 with rfl | h1
          · exact List.mem_cons_self ..
          · exact List.mem_cons_of_mem _ (List.mem_cons_of_mem _ h1)
        · rcases List.mem_cons.mp hx with rfl | hx
          · exact h2 _ (List.mem_cons_self ..)
          · rcases List.mem_cons.mp hx with rfl | hx
            · have := h2 a (List.mem_cons_self ..); omega
            · exact h2 x (List.mem_cons_of_mem _ hx)
  obtain ⟨p, h1, h2, h3⟩ := key cs c0
  refine ⟨p, h1, h2, ?_⟩
  show (match asInts ((c0 :: cs).map nd) with | some (n :: ns) => some (D.int (ns.foldl (fun a b => if iLt b a = true then b else a) n)) | _ => none) = _
  rw [ints_nd (c0 :: cs)]
  simp only [List.map_cons, h3]
theorem idx_ex (p : Nat) : ∀ (C : List Nat), p ∈ C → ∃ k, C[k]? = some p ∧ idxF (.int p) (C.map nd) = some k
  | [], h => by cases h
  | c :: cs, h => by
    by_cases z : c = p
    · subst z
      exact ⟨0, rfl, by simp [idxF, nd, eqF]⟩
    · have hm : p ∈ cs := by
        rcases List.mem_cons.mp h with e | e
        · exact absurd e.symm z
        · exact e
      obtain ⟨k, h1, h2⟩ := idx_ex p cs hm
      have z' : ¬ (c : Int) = p := by omega
      exact ⟨k + 1, by simpa using h1, by simp [idxF, nd, eqF, z']; exact h2⟩
theorem flat_nd : ∀ (C : List Nat), (C.map nd).all flatD = true
  | [] => rfl
  | c :: cs => by simp only [List.map_cons, List.all_cons, flat_nd cs, Bool.and_true]; rfl
def nzB : FS := (sIf (M.tB (M.e2 neS (eV 4) (eV 3))) (sSeq (sSet 6 (M.e2 fdivD (eIxO 1 (eV 4)) (eV 2)))
  (sSeq (sAugO 1 subD (eV 4) (M.e2 mulD (eV 6) (eV 2)))
  (sAugO 1 addI (eV 3) (M.e2 mulD (eV 6) (eV 5))))) sNx)
theorem nz_eq (n : Nat) : g_near_zero n = sSeq (sOwn 1 (oLstOf (eCall F_whole_sum n (rCons (eV 0) rNil)))) (sSeq (sSet 2 (eB minL (aCons (eV 0) aNil))) (sSeq (sSet 3 (eMet idxD (eV 0) (aCons (eV 2) aNil))) (sSeq (sFor (iEn (aCons (eV 0) aNil)) (tPair 4 5) nzB) (sRet (e1 tupD (eFrz 1)))))) := rfl
theorem at_map {row : List Int} {k : Nat} {x : Int} (h : row[k]? = some x) : L2.atI (row.map D.int) (k : Int) = some (.int x) ∧ L2.ixN (row.map D.int).length (k : Int) = some k := by
  have hk : k < row.length := (List.getElem?_eq_some_iff.mp h).1
  constructor
  · simp [atI, ixN, hk, List.getElem?_map, h]
    exact (List.getElem?_eq_some_iff.mp h).2
  · simp [ixN, hk]
theorem set_map (row : List Int) (k : Nat) (x : Int) : (row.map D.int).set k (.int x) = (row.set k x).map D.int := (List.map_set).symm
theorem aug_ok {ρ ρ1 : Rho} {j k : Nat} {row : List Int} {io : Bool} {op : D → D → Option D} {fk fe : FE} {x y z : Int} (h0 : ownL ρ j = some (io, row.map D.int)) (hk : fk ρ = .ok (.int k, ρ)) (hx : row[k]? = some x) (he : fe ρ = .ok (.int y, ρ)) (ho : op (.int x) (.int y) = some (.int z)) (h1 : ρ.set j (some (.own io ((row.set k z).map D.int))) = ρ1) : sAugO j op fk fe ρ = .ok (.nx, ρ1) := by
  obtain ⟨a1, a2⟩ := at_map hx
  unfold sAugO
  simp only [h0, bndS, hk, Rz.bind, a1, he, ho, a2, set_map, h1]
section
variable (L : D) (C : List Nat) (p pl : Nat)
def NZ (m : Nat) (ρ : Rho) : Prop := ∃ (row : List Int) (a4 a5 a6 : Option Sl), (∀ x ∈ [a4, a5, a6], isIo [x] 0 = false) ∧ row.length = C.length ∧ dot row C = 1 ∧ (∀ i < m, i ≠ pl → ∀ x, row[i]? = some x → 0 ≤ x ∧ x ≤ p) ∧ ρ = [some (.dat L), some (.own false (row.map D.int)), dI p, dI pl, a4, a5, a6]
theorem nz_step (hp0 : 0 < p) (hp : p < 2 ^ 60) (hpl : C[pl]? = some p) (m c : Nat) (hc : C[m]? = some c) (hc2 : c < 2 ^ 60) (ρ : Rho) (h : NZ L C p pl m ρ) : ∃ ρ1 ρ2, tPair 4 5 (.tup [.int m, nd c]) ρ = some ρ1 ∧ nzB ρ1 = .ok (.nx, ρ2) ∧ NZ L C p pl (m + 1) ρ2 := by
  obtain ⟨row, a4, a5, a6, hi, hl, hd, hr, rfl⟩ := h
  have i4 : isIo [a4] 0 = false := hi a4 (by simp)
  have i5 : isIo [a5] 0 = false := hi a5 (by simp)
  have i6 : ∀ x0 x1 x2 x3 x4 x5, isIo [x0, x1, x2, x3, x4, x5, a6] 6 = false := fun _ _ _ _ _ _ => hi a6 (by simp)
  have j4 : ∀ x0 x1 x2 x3 x5 x6, isIo [x0, x1, x2, x3, a4, x5, x6] 4 = false := fun _ _ _ _ _ _ => i4
  have j5 : ∀ x0 x1 x2 x3 x4 x6, isIo [x0, x1, x2, x3, x4, a5, x6] 5 = false := fun _ _ _ _ _ _ => i5
  have hm : m < row.length := by rw [hl]; exact (List.getElem?_eq_some_iff.mp hc).1
  obtain ⟨x, hx⟩ : ∃ x, row[m]? = some x := ⟨row[m], List.getElem?_eq_getElem hm⟩
  have tne : ∀ (r : List Int), M.tB (M.e2 neS (eV 4) (eV 3)) [some (.dat L), some (.own false (r.map D.int)), dI p, dI pl, dI m, dI c, a6] = .ok (!decide (m = pl), [some (.dat L), some (.own false (r.map D.int)), dI p, dI pl, dI m, dI c, a6]) := fun r => by
    refine tB_ok (e2_ok (eV_ok rfl) (eV_ok rfl) ?_)
    rw [neS_ii]
    congr 3
    rw [Bool.eq_iff_iff, beq_iff_eq, decide_eq_true_iff]; omega
  refine ⟨[some (.dat L), some (.own false (row.map D.int)), dI p, dI pl, dI m, dI c, a6], ?_⟩
  have ht : tPair 4 5 (.tup [.int m, nd c]) [some (.dat L), some (.own false (row.map D.int)), dI p, dI pl, a4, a5, a6] = some [some (.dat L), some (.own false (row.map D.int)), dI p, dI pl, dI m, dI c, a6] := by
    simp [tPair, tName, j4, j5, nd]
  by_cases z : m = pl
  · refine ⟨_, ht, skip_if (by rw [tne row, decide_eq_true z]; rfl), row, dI m, dI c, a6, ?_, hl, hd, fun i hi2 hne => hr i (by omega) hne, rfl⟩
    intro y hy
    simp only [List.mem_cons, List.not_mem_nil, or_false] at hy
    rcases hy with rfl | rfl | rfl
    · rfl
    · rfl
    · exact hi y (by simp)
  · -- the item is brought between 0 and the pivot
    have hpl2 : pl < row.length := by rw [hl]; exact (List.getElem?_eq_some_iff.mp hpl).1
    obtain ⟨y, hy⟩ : ∃ y, row[pl]? = some y := ⟨row[pl], List.getElem?_eq_getElem hpl2⟩
    have sp : small (p : Int) = true := small_of60 hp
    have sc : small (c : Int) = true := small_of60 hc2
    let t : Int := x / p
    let r1 := row.set m (x - t * p)
    have hy1 : r1[pl]? = some y := by rw [List.getElem?_set_ne z]; exact hy
    let r2 := r1.set pl (y + t * c)
    have d1 : dot r1 C = dot row C + ((x - t * p) - x) * c := dot_set _ row C m x c hx hc
    have d2 : dot r2 C = dot r1 C + ((y + t * c) - y) * p := dot_set _ r1 C pl y p hy1 hpl
    have d3 : dot r2 C = 1 := by rw [d2, d1, hd]; grind
    refine ⟨[some (.dat L), some (.own false (r2.map D.int)), dI p, dI pl, dI m, dI c, dI t], ht, ?_, r2, dI m, dI c, dI t, by simp [isIo], by simp [r2, r1, hl], d3, fun i hi2 hne v hv => ?_, rfl⟩
    · unfold nzB
      have t1 := tne row
      rw [decide_eq_false z] at t1
      simp only [sIf, bndTS, t1, Rz.bind, Bool.not_false, if_true]
      have hix : eIxO 1 (eV 4) [some (.dat L), some (.own false (row.map D.int)), dI p, dI pl, dI m, dI c, a6] = .ok (.int x, [some (.dat L), some (.own false (row.map D.int)), dI p, dI pl, dI m, dI c, a6]) := by
        have := (at_map hx).1
        have hixD : ixD (.lst (row.map D.int)) (.int m) = some (.int x) := this
        simp only [eIxO, ownL, List.getElem?_cons_succ, List.getElem?_cons_zero, bnd, eV, Rz.bind, hixD, ofO_some]
      have hp0' : (0 : Int) < p := by omega
      rw [seq_nx (ρ1 := [some (.dat L), some (.own false (row.map D.int)), dI p, dI pl, dI m, dI c, dI t]) ((set_ok (d := .int t) (e2_ok hix (eV_ok rfl) (if_pos ⟨hp0', log60 hp0 hp⟩)) (i6 _ _ _ _ _ _)).trans rfl)]
      rw [seq_nx (ρ1 := [some (.dat L), some (.own false (r1.map D.int)), dI p, dI pl, dI m, dI c, dI t]) (aug_ok (op := subD) (x := x) (y := t * p) (k := m) (z := x - t * p) rfl (eV_ok rfl) hx (e2_ok (eV_ok rfl) (eV_ok rfl) (if_pos (.inr sp))) rfl rfl)]
      exact aug_ok (op := addI) (x := y) (y := t * c) (k := pl) (z := y + t * c) rfl (eV_ok rfl) hy1 (e2_ok (eV_ok rfl) (eV_ok rfl) (if_pos (.inr sc))) rfl rfl
    · have hv1 : r1[i]? = some v := by rw [← hv]; exact (List.getElem?_set_ne (fun e => hne e.symm)).symm
      by_cases q : i = m
      · subst q
        rw [List.getElem?_set_self (by omega)] at hv1
        cases hv1
        have e1 := Int.emod_nonneg x (show (p : Int) ≠ 0 by omega)
        have e2 := Int.emod_lt_of_pos x (show (0 : Int) < p by omega)
        have e3 := Int.emod_add_mul_ediv x p
        have e4 : x - t * p = x % p := by
          have : (p : Int) * (x / p) = t * p := Int.mul_comm _ _
          omega
        omega
      · rw [List.getElem?_set_ne (fun e => q e.symm)] at hv1
        exact hr i (by omega) hne v hv1
end
/-- a row of numbers near zero that sums to 1 -/
theorem near_ex (n : Nat) (c0 : Nat) (cs : List Nat) (hn : 121 ≤ n) (h : ∀ c ∈ c0 :: cs, 0 < c ∧ c < 2 ^ 60) (hl : cs.length ≤ 60) (hg : gcds (c0 :: cs) = 1) :
    ∃ row : List Int, Fv F_near_zero n [.lst ((c0 :: cs).map nd)] = some (.tup (row.map D.int)) ∧ row.length = (c0 :: cs).length ∧ dot row (c0 :: cs) = 1 ∧ ∀ x ∈ row, -(10 ^ 30) < x ∧ x < 10 ^ 30 := by
  obtain ⟨row0, e0, l0, d0⟩ := whole_ex n c0 cs hn h (by omega)
  rw [hg] at d0
  obtain ⟨p, hp, hmin, em⟩ := min_ex c0 cs
  obtain ⟨pl, hpl, ei⟩ := idx_ex p (c0 :: cs) hp
  obtain ⟨hp0, hp2⟩ := h p hp
  let L : D := .lst ((c0 :: cs).map nd)
  obtain ⟨ρ', e, row, a4, a5, a6, _, hrl, hrd, hr, rfl⟩ := forL_ix (tg := tPair 4 5) (body := nzB) (NZ L (c0 :: cs) p pl) (enD ((c0 :: cs).map nd)) 0 (fun k d hd ρ r => by
    obtain ⟨c, hc, rfl⟩ : ∃ c, (c0 :: cs)[k]? = some c ∧ d = .tup [.int k, nd c] := by
      rw [enD, List.getElem?_mapIdx, List.getElem?_map] at hd
      cases z : (c0 :: cs)[k]? with
      | none => rw [z] at hd; cases hd
      | some c => rw [z] at hd; exact ⟨c, rfl, (Option.some.inj hd).symm⟩
    rw [Nat.zero_add] at r ⊢
    exact nz_step L (c0 :: cs) p pl hp0 hp2 hpl k c hc (h c (List.mem_of_getElem? hc)).2 ρ r)
    [some (.dat L), some (.own false (row0.map D.int)), dI p, dI pl, none, none, none] ⟨row0, none, none, none, by simp [isIo], l0, d0, fun i hi => by omega, rfl⟩
  have hlen : (enD ((c0 :: cs).map nd)).length = row.length := by rw [en_len, List.length_map, hrl]
  rw [hlen, Nat.zero_add] at hr
  refine ⟨row, Fv_rt (g := g_near_zero n) rfl rfl (ρ := [some (.dat L), some (.dat (.lst (row.map D.int))), dI p, dI pl, a4, a5, a6]) ?_, hrl, hrd, ?_⟩
  · show g_near_zero n [some (.dat L), none, none, none, none, none, none] = _
    rw [nz_eq]
    have q0 : eCall F_whole_sum n (rCons (eV 0) rNil) [some (.dat L), none, none, none, none, none, none] = .ok (.tup (row0.map D.int), [some (.dat L), none, none, none, none, none, none]) := by
      rw [eCall1, eV_ok rfl]
      simp only [Rz.bind]
      rw [show Fv F_whole_sum n [L] = some (.tup (row0.map D.int)) from e0, ofO_some]
    rw [seq_nx (ρ1 := [some (.dat L), some (.own false (row0.map D.int)), none, none, none, none, none]) (by
      simp only [sOwn, oLstOf, q0, Rz.bind, lstD]; rfl)]
    rw [seq_nx (ρ1 := [some (.dat L), some (.own false (row0.map D.int)), dI p, none, none, none, none]) ((set_ok (d := .int p) (eB1_ok (eV_ok rfl) em) rfl).trans rfl)]
    rw [seq_nx (ρ1 := [some (.dat L), some (.own false (row0.map D.int)), dI p, dI pl, none, none, none]) (by
      refine (set_ok (d := .int pl) (ρ1 := [some (.dat L), some (.own false (row0.map D.int)), dI p, none, none, none, none]) ?_ rfl).trans rfl
      have : idxD L [.int p] = some (.int pl) := by
        show (if flatD (.int p) = true ∧ ((c0 :: cs).map nd).all flatD = true then (idxF (.int p) ((c0 :: cs).map nd)).map fun j => D.int (j : Nat) else none) = _
        rw [if_pos ⟨rfl, flat_nd _⟩, ei]; rfl
      simp only [eMet, bnd, bndA, aCons, aNil, eV, Rz.bind, List.getElem?_cons_succ, List.getElem?_cons_zero, this, ofO_some])]
    rw [seq_nx (ρ1 := [some (.dat L), some (.own false (row.map D.int)), dI p, dI pl, a4, a5, a6]) (by
      simp only [sFor, iEn, aCons, aNil, eV, Rz.bind, List.getElem?_cons_zero, enOf]
      exact e)]
    have ht : M.e1 tupD (eFrz 1) [some (.dat L), some (.own false (row.map D.int)), dI p, dI pl, a4, a5, a6] = .ok (.tup (row.map D.int), [some (.dat L), some (.dat (.lst (row.map D.int))), dI p, dI pl, a4, a5, a6]) := e1_ok (ρ1 := [some (.dat L), some (.dat (.lst (row.map D.int))), dI p, dI pl, a4, a5, a6]) (a := .lst (row.map D.int)) rfl rfl
    simp only [sRet, bndS, ht, Rz.bind]
  · -- how great they are
    have hpl2 : pl < row.length := by rw [hrl]; exact (List.getElem?_eq_some_iff.mp hpl).1
    obtain ⟨y, hy⟩ : ∃ y, row[pl]? = some y := ⟨row[pl], List.getElem?_eq_getElem hpl2⟩
    have d1 := dot_set 0 row (c0 :: cs) pl y p hy hpl
    rw [hrd] at d1
    obtain ⟨b1, b2⟩ := dot_rng p (2 ^ 60) (row.set pl 0) (c0 :: cs) (fun x hx => by
      obtain ⟨i, hi, e⟩ := List.mem_iff_getElem.mp hx
      have hi2 : (row.set pl 0)[i]? = some x := by rw [List.getElem?_eq_getElem hi, e]
      by_cases z : i = pl
      · subst z
        rw [List.getElem?_set_self hpl2] at hi2
        cases hi2; omega
      · rw [List.getElem?_set_ne (fun e => z e.symm)] at hi2
        rw [List.length_set] at hi
        exact hr i hi z x hi2) (fun c hc => by have := (h c hc).2; omega)
    rw [List.length_set, hrl] at b2
    -- y * p is near zero
    have hyp : (0 - y) * (p : Int) = - (y * p) := by grind
    rw [hyp] at d1
    have b3 : ((p * 2 ^ 60 : Nat) : Int) = (p : Int) * 2 ^ 60 := by rw [Int.natCast_mul]; rfl
    have hlc : (((c0 :: cs).length : Nat) : Int) ≤ 61 := by simp; omega
    have b4 : (((c0 :: cs).length : Nat) : Int) * ((p * 2 ^ 60 : Nat) : Int) ≤ 61 * ((p : Int) * 2 ^ 60) := by
      rw [b3]
      exact Int.mul_le_mul_of_nonneg_right hlc (Int.mul_nonneg (by omega) (by omega))
    have hy1 : y ≤ 1 := by
      have : y * (p : Int) ≤ 1 := by omega
      by_cases z : y ≤ 1
      · exact z
      · have m : 2 * (p : Int) ≤ y * p := Int.mul_le_mul_of_nonneg_right (by omega) (by omega)
        omega
    have hy2 : -(61 * 2 ^ 60) ≤ y := by
      by_cases z : -(61 * 2 ^ 60) ≤ y
      · exact z
      · have m : y * (p : Int) ≤ (-(61 * 2 ^ 60) - 1) * p := Int.mul_le_mul_of_nonneg_right (by omega) (by omega)
        have : (-(61 * 2 ^ 60) - 1) * (p : Int) = -(61 * ((p : Int) * 2 ^ 60)) - p := by grind
        omega
    intro x hx
    obtain ⟨i, hi, e⟩ := List.mem_iff_getElem.mp hx
    have hi2 : row[i]? = some x := by rw [List.getElem?_eq_getElem hi, e]
    by_cases z : i = pl
    · subst z
      rw [hy] at hi2
      cases hi2
      have : (61 * 2 ^ 60 : Int) < 10 ^ 30 := by decide +kernel
      omega
    · have := hr i hi z x hi2
      omega
end Lk

namespace Lk
open PySem PySem.Spec PyProof.Rows L2 M
/-! defs that may raise -/
theorem runBX_rt {g : FS} {L np : Nat} {as : M.Args} {s : Sl} {ρ : Rho} (hl : as.length = np) (h : g (startR L as) = .ok (.rt s, ρ)) : runBX g L np as = some (.ok s, ends as ρ) := by
  unfold runBX
  rw [if_pos hl, frcA_eq]
  simp only [h, frcA_eq, frcT_eq]
theorem runBX_ex {g : FS} {L np : Nat} {as : M.Args} {x : Exn} {ρ : Rho} (hl : as.length = np) (h : g (startR L as) = .ex x ρ) : runBX g L np as = some (.error x, ends as ρ) := by
  unfold runBX
  rw [if_pos hl, frcA_eq]
  simp only [h, frcA_eq]
theorem seq_ex {ga gb : FS} {ρ ρ1 : Rho} {x : Exn} (h : ga ρ = .ex x ρ1) : sSeq ga gb ρ = .ex x ρ1 := by simp only [sSeq, h, Rz.bind]
theorem nox_ok {g : FS} {ρ : Rho} {p : Fl × Rho} (h : g ρ = .ok p) : noxS g ρ = .ok p := by simp only [noxS, h]
theorem callX_ok {F : FDX} {n : Nat} {fr : FAr} {ρ ρ1 : Rho} {ds : List D} {d : D} {as' : M.Args} (h : fr ρ = .ok (ds.map Ar.d, ρ1)) (hF : F n (ds.map Sl.dat) = some (.ok (.dat d), as')) : eCallX F n fr ρ = .ok (d, ρ1) := by
  unfold eCallX callX
  simp only [h]
  rw [if_pos (onceO_d (allDat_map ds)), argsOf_d]
  simp only [hF, backO_d (allDat_map ds)]
theorem callX_ex {F : FDX} {n : Nat} {fr : FAr} {ρ ρ1 : Rho} {ds : List D} {x : Exn} {as' : M.Args} (h : fr ρ = .ok (ds.map Ar.d, ρ1)) (hF : F n (ds.map Sl.dat) = some (.error x, as')) : eCallX F n fr ρ = .ex x ρ1 := by
  unfold eCallX callX
  simp only [h]
  rw [if_pos (onceO_d (allDat_map ds)), argsOf_d]
  simp only [hF, backO_d (allDat_map ds)]
/-- what an X-def answers: a value or None -/
def XV (F : FDX) (n : Nat) (ds : List D) (o : Option D) : Prop := match o with
  | some d => ∃ as', F n (ds.map Sl.dat) = some (.ok (.dat d), as')
  | none => ∃ as', F n (ds.map Sl.dat) = some (.error (.mk "InvalidOperation" none), as')
theorem told_v {F : FDX} {n : Nat} {fr : FAr} {ρ ρ1 : Rho} {ds : List D} {o : Option D} (h : fr ρ = .ok (ds.map Ar.d, ρ1)) (x : XV F n ds o) : eTold ct (eCallX F n fr) ρ = .ok (o.getD .non, ρ1) := by
  cases o with
  | some d =>
    obtain ⟨as', e⟩ := x
    simp only [eTold, callX_ok h e, Option.getD_some]
  | none =>
    obtain ⟨as', e⟩ := x
    have : ct "InvalidOperation" = some true := if_pos rfl
    simp only [eTold, callX_ex h e, this, if_true, Option.getD_none]
/-! the paper of a barred number -/
def bP (s nm : Nat) : Option D := if nm < s then some (.tup [.str "few"]) else (fg s nm).map fun (g : Nat) => .tup [.str "group", .int g, .int (cg s nm g : Nat)]
section
variable (n s nm : Nat) (hs0 : 1 ≤ s) (hs : s ≤ 60) (hn0 : 1 ≤ nm) (hn : nm ≤ 200) (hf : 121 ≤ n)
theorem call2_2 {F : FD} {n : Nat} {a b d : D} {ρ : Rho} (h0 : ρ[0]? = some (some (.dat a))) (h1 : ρ[1]? = some (some (.dat b))) (h : Fv F n [a, b] = some d) : eCall F n (rCons (eV 0) (rCons (eV 1) rNil)) ρ = .ok (d, ρ) := by
  rw [eCall2, eV_ok h0]; simp only [Rz.bind]; rw [eV_ok h1]; simp only [Rz.bind, h, ofO_some]
theorem call3_i {F : FD} {n i : Nat} {a b c d : D} {ρ : Rho} (h0 : ρ[0]? = some (some (.dat a))) (h1 : ρ[1]? = some (some (.dat b))) (h2 : ρ[i]? = some (some (.dat c))) (h : Fv F n [a, b, c] = some d) : eCall F n (rCons (eV 0) (rCons (eV 1) (rCons (eV i) rNil))) ρ = .ok (d, ρ) := by
  rw [eCall3, eV_ok h0]; simp only [Rz.bind]; rw [eV_ok h1]; simp only [Rz.bind]; rw [eV_ok h2]; simp only [Rz.bind, h, ofO_some]
theorem call2_i {F : FD} {n i : Nat} {a b d : D} {ρ : Rho} (h0 : ρ[0]? = some (some (.dat a))) (h1 : ρ[i]? = some (some (.dat b))) (h : Fv F n [a, b] = some d) : eCall F n (rCons (eV 0) (rCons (eV i) rNil)) ρ = .ok (d, ρ) := by
  rw [eCall2, eV_ok h0]; simp only [Rz.bind]; rw [eV_ok h1]; simp only [Rz.bind, h, ofO_some]
theorem drop_ok {fe : FE} {ρ ρ1 : Rho} {d : D} (h : fe ρ = .ok (d, ρ1)) : sDrop fe ρ = .ok (.nx, ρ1) := by simp only [sDrop, bndS, h, Rz.bind, sNx]
theorem ret_ok {fe : FE} {ρ ρ1 : Rho} {d : D} (h : fe ρ = .ok (d, ρ1)) : sRet fe ρ = .ok (.rt (.dat d), ρ1) := by simp only [sRet, bndS, h, Rz.bind]
theorem lt10 {ρ : Rho} {s nm : Nat} (h0 : ρ[0]? = some (dI s)) (h1 : ρ[1]? = some (dI nm)) : M.tB (M.e2 ltD (eV 1) (eV 0)) ρ = .ok (decide (nm < s), ρ) := by
  refine tB_ok (e2_ok (eV_ok h1) (eV_ok h0) ?_)
  simp only [ltD, iLt_eq]
  congr 2
  rw [decide_eq_decide]; omega
include hs0 hs hn0 hn hf in
theorem bpaper_v : XV F_barred_paper n [.int s, .int nm] (bP s nm) := by
  have q0 := reqboth_v n s nm hs0 hs hn0 hn
  have q1 := barring_v n s nm hs hn hf
  have st : ∀ x : FS, sSeq (noxS (sDrop (eCall F_require_both n (rCons (eV 0) (rCons (eV 1) rNil))))) x [dI s, dI nm, none] = x [dI s, dI nm, none] := fun x => seq_nx (nox_ok (drop_ok (call2_2 rfl rfl q0)))
  have lt := lt10 (ρ := [dI s, dI nm, none]) (s := s) (nm := nm) rfl rfl
  by_cases c : nm < s
  · rw [decide_eq_true c] at lt
    unfold bP
    rw [if_pos c]
    refine ⟨_, runBX_rt (s := .dat (.tup [.str "few"])) (ρ := [dI s, dI nm, none]) rfl ?_⟩
    show g_barred_paper n [dI s, dI nm, none] = _
    unfold g_barred_paper
    rw [st]
    refine seq_rt (nox_ok ?_)
    rw [sIf]
    simp only [bndTS, lt, Rz.bind, if_true]
    refine ret_ok ?_
    have s1 : 1 ≤ sizeLine := by decide
    simp [eTup, bndA, aCons, aNil, eC, Rz.bind, s1]
  · rw [decide_eq_false c] at lt
    unfold bP
    rw [if_neg c]
    have st2 : ∀ x : FS, sSeq (noxS (sIf (M.tB (M.e2 ltD (eV 1) (eV 0))) (sRet (eTup (aCons (eC (.str "few")) aNil))) sNx)) x [dI s, dI nm, none] = x [dI s, dI nm, none] := fun x => seq_nx (nox_ok (skip_if lt))
    have st3 : ∀ x : FS, sSeq (noxS (sSet 2 (eCall F_barring_group n (rCons (eV 0) (rCons (eV 1) rNil))))) x [dI s, dI nm, none] = x [dI s, dI nm, some (.dat (oD (fg s nm)))] := fun x => seq_nx (nox_ok ((set_ok (call2_2 (ρ := [dI s, dI nm, none]) rfl rfl q1) rfl).trans rfl))
    cases z : fg s nm with
    | none =>
      refine ⟨_, runBX_ex (ρ := [dI s, dI nm, some (.dat .non)]) rfl ?_⟩
      show g_barred_paper n [dI s, dI nm, none] = _
      unfold g_barred_paper
      rw [st, st2, st3, z]
      refine seq_ex ?_
      have t : M.tB (M.e2 isND (eV 2) (eC .non)) [dI s, dI nm, some (.dat .non)] = .ok (true, [dI s, dI nm, some (.dat .non)]) := tB_ok (e2_ok (eV_ok rfl) eC_ok rfl)
      show sIfX _ _ _ [dI s, dI nm, some (.dat .non)] = _
      simp only [sIfX, t, if_true, sRaise]
    | some g =>
      obtain ⟨g1, g2, g3⟩ := fg_some z
      refine ⟨_, runBX_rt (s := .dat (.tup [.str "group", .int g, .int (cg s nm g : Nat)])) (ρ := [dI s, dI nm, dI g]) rfl ?_⟩
      show g_barred_paper n [dI s, dI nm, none] = _
      unfold g_barred_paper
      rw [st, st2, st3, z]
      have t : M.tB (M.e2 isND (eV 2) (eC .non)) [dI s, dI nm, dI g] = .ok (false, [dI s, dI nm, dI g]) := tB_ok (e2_ok (eV_ok rfl) eC_ok rfl)
      refine (seq_nx (ρ1 := [dI s, dI nm, dI g]) ?_).trans ?_
      · show sIfX _ _ _ [dI s, dI nm, dI g] = _
        simp only [sIfX, t, Bool.false_eq_true, if_false, sNx]
      · refine nox_ok (ret_ok ?_)
        have q2 := allowed_v n s nm g hs (by omega)
        have q3 := commonin_v n s (alw s nm g) hs (fun x hx => alw_le hx) hf
        have c1 : eCall F_common_in n (rCons (eV 0) (rCons (eCall F_allowed_in n (rCons (eV 0) (rCons (eV 1) (rCons (eV 2) rNil)))) rNil)) [dI s, dI nm, dI g] = .ok (.int (cg s nm g : Nat), [dI s, dI nm, dI g]) := by
          rw [eCall2, eV_ok rfl]
          simp only [Rz.bind]
          rw [call3_i (ρ := [dI s, dI nm, dI g]) rfl rfl rfl q2]
          simp only [Rz.bind, q3, ofO_some]
          rfl
        have s3 : 3 ≤ sizeLine := by decide
        simp [eTup, bndA, aCons, aNil, eC, eV, Rz.bind, s3, c1]
end
/-! the paper of a number that is not barred -/
def toN : D → Nat | .int i => i.toNat | _ => 0
theorem toN_nd (C : List Nat) : (C.map nd).map toN = C := by
  rw [List.map_map]
  exact (List.map_congr_left (fun c _ => rfl)).trans (List.map_id C)
def NR (C : List Nat) (n : Nat) (row : List Int) : Prop := Fv F_near_zero n [.lst (C.map nd)] = some (.tup (row.map D.int)) ∧ row.length = C.length ∧ dot row C = 1 ∧ ∀ x ∈ row, -(10 ^ 30) < x ∧ x < 10 ^ 30
open Classical in
noncomputable def nzr (n : Nat) (C : List Nat) : List Int := if h : ∃ row, NR C n row then choose h else []
def CG (s nm g : Nat) : List Nat := (alw s nm g).map (chN s)
theorem alw_ne {s nm g : Nat} (h : s ≤ nm) (h1 : 1 ≤ g) (h2 : g < nm) : alw s nm g ≠ [] := by
  unfold alw
  intro e
  have := congrArg List.length e
  rw [List.length_map, List.length_range, List.length_nil] at this
  omega
theorem nzr_ok {n s nm g : Nat} (hs : s ≤ 60) (hf : 121 ≤ n) (h : s ≤ nm) (h1 : 1 ≤ g) (h2 : g < nm) (hg : ¬ 1 < cg s nm g) : NR (CG s nm g) n (nzr n (CG s nm g)) := by
  have hC : ∀ c ∈ CG s nm g, 0 < c ∧ c < 2 ^ 60 := fun c hc => by
    obtain ⟨x, hx, rfl⟩ := List.mem_map.mp hc
    exact chN_rng hs (alw_le hx)
  have hne : CG s nm g ≠ [] := fun e => alw_ne h h1 h2 (List.map_eq_nil_iff.mp e)
  have hl : (CG s nm g).length ≤ 61 := by unfold CG; rw [List.length_map]; have := alw_len s nm g; omega
  have hg1 : gcds (CG s nm g) = 1 := by
    have := gcds_pos _ hne fun c hc => (hC c hc).1
    have e : cg s nm g = gcds (CG s nm g) := rfl
    omega
  have ex : ∃ row, NR (CG s nm g) n row := by
    generalize CG s nm g = C at hC hne hl hg1
    match C, hne with
    | c0 :: cs, _ => exact near_ex n c0 cs hf hC (by simpa using hl) hg1
  unfold nzr
  rw [dif_pos ex]
  exact Classical.choose_spec ex
noncomputable def fP (n s nm : Nat) : List D := (List.range (nm - 1)).map fun i => .tup ((nzr n (CG s nm (i + 1))).map D.int)
section
variable (n s nm : Nat) (hs0 : 1 ≤ s) (hs : s ≤ 60) (hn0 : 1 ≤ nm) (hn : nm ≤ 200) (hf : 121 ≤ n)
include hs0 hs hn0 hn hf in
theorem fpaper_v : XV F_free_paper n [.int s, .int nm] (if brd s nm = true then none else some (.tup (fP n s nm))) := by
  have q0 := reqboth_v n s nm hs0 hs hn0 hn
  have q1 := barredin_v n s nm hs hn hf
  let ρ0 : Rho := [dI s, dI nm, none, none, none, none]
  have st : ∀ x : FS, sSeq (noxS (sDrop (eCall F_require_both n (rCons (eV 0) (rCons (eV 1) rNil))))) x ρ0 = x ρ0 := fun x => seq_nx (nox_ok (drop_ok (call2_2 rfl rfl q0)))
  have t : tTr (eCall F_is_barred_in n (rCons (eV 0) (rCons (eV 1) rNil))) ρ0 = .ok (brd s nm, ρ0) := by
    simp only [tTr, bnd_T, call2_2 (ρ := ρ0) rfl rfl q1, Rz.bind, trD]
  by_cases z : brd s nm = true
  · rw [if_pos z]
    refine ⟨_, runBX_ex (ρ := ρ0) rfl ?_⟩
    show g_free_paper n ρ0 = _
    unfold g_free_paper
    rw [st]
    refine seq_ex ?_
    rw [z] at t
    simp only [sIfX, t, if_true, sRaise]
  · rw [if_neg z]
    have hb : brd s nm = false := by simpa using z
    rw [hb] at t
    have hsn : s ≤ nm := by
      unfold brd at hb
      simp only [Bool.or_eq_false_iff, decide_eq_false_iff_not] at hb
      omega
    have hfg : fg s nm = none := by
      unfold brd at hb
      simp only [Bool.or_eq_false_iff] at hb
      cases y : fg s nm with
      | none => rfl
      | some g => rw [y] at hb; simp at hb
    let rows : List D := (List.range (nm - 1)).map fun i => .lst ((CG s nm (i + 1)).map nd)
    have hsz : 300 ≤ sizeLine := by decide
    have lc1 : oLc (iRg rg2 (aCons (eC (.int 1)) (aCons (eV 1) aNil))) (tName 3) tYesD (eFz (oLc (iSeq (eCall F_allowed_in n (rCons (eV 0) (rCons (eV 1) (rCons (eV 3) rNil))))) (tName 4) tYesD (eCall F_choose n (rCons (eV 0) (rCons (eV 4) rNil))) [4])) [3] ρ0 = .ok (rows, ρ0) := by
      have c := lc_all (fi := iRg rg2 (aCons (eC (.int 1)) (aCons (eV 1) aNil))) (tg := tName 3) (fe := eFz (oLc (iSeq (eCall F_allowed_in n (rCons (eV 0) (rCons (eV 1) (rCons (eV 3) rNil))))) (tName 4) tYesD (eCall F_choose n (rCons (eV 0) (rCons (eV 4) rNil))) [4])) (vs := [3]) (ρ := ρ0) (ρ0 := ρ0) (ds := rgD 1 (nm - 1))
        (fun d => match d with | .int i => .lst ((CG s nm i.toNat).map nd) | d => d) (rg_grp nm hn ρ0 1 rfl) rfl (fun d hd => by
          obtain ⟨k, hk, rfl⟩ := rgD_mem hd
          have ek : (1 : Int) + k = ((k + 1 : Nat) : Int) := by omega
          rw [ek]
          let ρk : Rho := [dI s, dI nm, none, dI (k + 1 : Nat), none, none]
          have q2 := allowed_v n s nm (k + 1) hs (by omega)
          have hal := alw_len s nm (k + 1)
          have c2 := lc_all (fi := iSeq (eCall F_allowed_in n (rCons (eV 0) (rCons (eV 1) (rCons (eV 3) rNil))))) (tg := tName 4) (fe := eCall F_choose n (rCons (eV 0) (rCons (eV 4) rNil))) (vs := [4]) (ρ := ρk) (ρ0 := ρk) (ds := (alw s nm (k + 1)).map nd)
            (fun d => match d with | .int x => nd (chN s x.toNat) | d => d) (by
              simp only [iSeq, call3_i (ρ := ρk) (i := 3) rfl rfl rfl q2, Rz.bind]) rfl (fun d hd => by
              obtain ⟨x, hx, rfl⟩ := List.mem_map.mp hd
              have hxs := alw_le hx
              have q3 := choose_v n s x hs hxs
              rw [chN_eq hs hxs] at q3
              exact ⟨[dI s, dI nm, none, dI (k + 1 : Nat), dI x, none], _, rfl, call2_i (ρ := [dI s, dI nm, none, dI (k + 1 : Nat), dI x, none]) (i := 4) rfl rfl q3, rfl, rfl⟩) (by rw [List.length_map]; omega)
          have e1 : ((alw s nm (k + 1)).map nd).map (fun d => match d with | .int x => nd (chN s x.toNat) | d => d) = (CG s nm (k + 1)).map nd := by
            unfold CG; rw [List.map_map, List.map_map]; rfl
          rw [e1] at c2
          exact ⟨ρk, ρk, rfl, fz_ok c2, rfl, rfl⟩) (by simp [rgD]; omega)
      have e2 : (rgD 1 (nm - 1)).map (fun d => match d with | .int i => D.lst ((CG s nm i.toNat).map nd) | d => d) = rows := by
        unfold rgD
        rw [List.map_map]
        apply List.map_congr_left
        intro i _
        have : ((1 : Int) + i).toNat = i + 1 := by omega
        simp only [Function.comp_def, this]
      rw [e2] at c
      exact c
    let ρ1 : Rho := [dI s, dI nm, some (.dat (.lst rows)), none, none, none]
    have lc2 : oLc (iSeq (eV 2)) (tName 5) tYesD (eCall F_near_zero n (rCons (eV 5) rNil)) [5] ρ1 = .ok (fP n s nm, ρ1) := by
      have c := lc_all (fi := iSeq (eV 2)) (tg := tName 5) (fe := eCall F_near_zero n (rCons (eV 5) rNil)) (vs := [5]) (ρ := ρ1) (ρ0 := ρ1) (ds := rows)
        (fun d => match d with | .lst ds => .tup ((nzr n (ds.map toN)).map D.int) | d => d) rfl rfl (fun d hd => by
          obtain ⟨i, hi, rfl⟩ := List.mem_map.mp hd
          have hi2 := List.mem_range.mp hi
          have r := nzr_ok hs hf hsn (by omega) (show i + 1 < nm by omega) (fg_none hfg (by omega) (by omega))
          refine ⟨[dI s, dI nm, some (.dat (.lst rows)), none, none, some (.dat (.lst ((CG s nm (i + 1)).map nd)))], [dI s, dI nm, some (.dat (.lst rows)), none, none, some (.dat (.lst ((CG s nm (i + 1)).map nd)))], rfl, ?_, rfl, rfl⟩
          rw [eCall1, eV_ok rfl]
          simp only [Rz.bind, r.1, ofO_some]
          show Rz.ok (D.tup ((nzr n (CG s nm (i + 1))).map D.int), _) = Rz.ok (D.tup ((nzr n (((CG s nm (i + 1)).map nd).map toN)).map D.int), _)
          rw [toN_nd]) (by simp [rows]; omega)
      have e : rows.map (fun d => match d with | .lst ds => D.tup ((nzr n (ds.map toN)).map D.int) | d => d) = fP n s nm := by
        unfold fP
        rw [List.map_map]
        apply List.map_congr_left
        intro i _
        simp only [Function.comp_def, toN_nd]
      rw [e] at c
      exact c
    refine ⟨_, runBX_rt (s := .dat (.tup (fP n s nm))) (ρ := ρ1) rfl ?_⟩
    show g_free_paper n ρ0 = _
    unfold g_free_paper
    rw [st]
    refine (seq_nx (ρ1 := ρ0) (by simp only [sIfX, t, Bool.false_eq_true, if_false, sNx])).trans ?_
    refine (seq_nx (ρ1 := ρ1) (nox_ok ((set_ok (fz_ok lc1) rfl).trans rfl))).trans ?_
    exact nox_ok (ret_ok (e1_ok (fz_ok lc2) rfl))
end
end Lk

namespace Lk
open PySem PySem.Spec PyProof.Rows L2 M
theorem gcds_dvd : ∀ (C : List Nat) (c : Nat), c ∈ C → gcds C ∣ c := by
  have key : ∀ (C : List Nat) (a : Nat), (C.foldl (fun f c => Nat.gcd f c) a) ∣ a ∧ ∀ c ∈ C, (C.foldl (fun f c => Nat.gcd f c) a) ∣ c := by
    intro C
    induction C with
    | nil => intro a; exact ⟨Nat.dvd_refl _, by simp⟩
    | cons d C ih =>
      intro a
      obtain ⟨h1, h2⟩ := ih (Nat.gcd a d)
      refine ⟨Nat.dvd_trans h1 (Nat.gcd_dvd_left _ _), fun c hc => ?_⟩
      rcases List.mem_cons.mp hc with rfl | hc
      · exact Nat.dvd_trans h1 (Nat.gcd_dvd_right _ _)
      · exact h2 c hc
  exact fun C c hc => (key C 0).2 c hc
theorem Bp_tups (s nm : Nat) : ∀ ds : List D, (∀ d ∈ ds, ∃ es, d = .tup es) → Bp s nm (.tup ds) = false
  | [], _ => rfl
  | [a], h => by obtain ⟨es, rfl⟩ := h a (by simp); rfl
  | [a, b], _ => rfl
  | [a, b, c], h => by obtain ⟨es, rfl⟩ := h a (by simp); rfl
  | a :: b :: c :: d :: r, _ => rfl
theorem sumz_dot (s : Nat) (hs : s ≤ 60) : ∀ (row : List Int) (al : List Nat), (∀ k ∈ al, k ≤ s) → sumz s (row.map D.int) al = dot row (al.map (chN s))
  | [], al, _ => by cases al <;> rfl
  | x :: xs, [], _ => rfl
  | x :: xs, k :: al, h => by
    have ih := sumz_dot s hs xs al fun j hj => h j (List.mem_cons_of_mem _ hj)
    have hk := chN_eq hs (h k (List.mem_cons_self ..))
    unfold sumz at ih ⊢
    simp only [zpD, List.map_cons, List.zipWith_cons_cons, List.sum_cons, dot] at ih ⊢
    rw [ih]
    show x * chM s ((k : Int)).toNat + _ = _
    rw [show ((k : Int)).toNat = k from rfl, hk]
theorem num_of {x : Int} (h : -(10 ^ 30) < x ∧ x < 10 ^ 30) : num (.int x) = true := by
  simp only [num, Bool.and_eq_true, decide_eq_true_eq]
  have e1 : (10 ^ 30 : Int) < 1000000000000000000000000000000000000000000000000000000000000 := by decide +kernel
  omega
theorem row_fr {n s nm g : Nat} (hs : s ≤ 60) (row : List Int) (h : NR (CG s nm g) n row) : frow s (alw s nm g) (.tup (row.map D.int)) = true := by
  obtain ⟨_, h2, h3, h4⟩ := h
  simp only [frow, Bool.and_eq_true, beq_iff_eq]
  refine ⟨⟨by rw [List.length_map, h2]; simp [CG], ?_⟩, by rw [sumz_dot s hs row _ fun k hk => alw_le hk]; exact h3⟩
  rw [List.all_eq_true]
  intro d hd
  obtain ⟨x, hx, rfl⟩ := List.mem_map.mp hd
  exact num_of (h4 x hx)
theorem brd_false {s nm : Nat} (h : brd s nm = false) : s ≤ nm ∧ fg s nm = none := by
  unfold brd at h
  simp only [Bool.or_eq_false_iff, decide_eq_false_iff_not] at h
  refine ⟨by omega, ?_⟩
  cases y : fg s nm with
  | none => rfl
  | some g => rw [y] at h; simp at h
theorem okDs_ints : ∀ row : List Int, okDs (row.map D.int) = true
  | [] => rfl
  | x :: xs => by simp only [List.map_cons, okDs, okD, okDs_ints xs, Bool.and_self]
section
variable (n s nm : Nat) (hs0 : 1 ≤ s) (hs : s ≤ 60) (hn0 : 1 ≤ nm) (hn : nm ≤ 200) (hf : 121 ≤ n)
theorem fP_len : (fP n s nm).length = nm - 1 := by simp [fP]
theorem fP_get {g : Nat} (h1 : 1 ≤ g) (h2 : g < nm) : (fP n s nm)[g - 1]? = some (.tup ((nzr n (CG s nm g)).map D.int)) := by
  unfold fP
  rw [List.getElem?_map, List.getElem?_range (by omega), Option.map_some, show g - 1 + 1 = g by omega]
theorem fP_ok : okD (.tup (fP n s nm)) = true := by
  simp only [okD]
  refine okDs_of fun d hd => ?_
  obtain ⟨i, _, rfl⟩ := List.mem_map.mp hd
  simp only [okD]; exact okDs_ints _
include hs hf in
theorem fP_row (hb : brd s nm = false) {g : Nat} (h1 : 1 ≤ g) (h2 : g < nm) : NR (CG s nm g) n (nzr n (CG s nm g)) := by
  obtain ⟨a, b⟩ := brd_false hb
  exact nzr_ok hs hf a h1 h2 (fg_none b h1 h2)
include hs hn0 hf in
theorem fP_Fp (hb : brd s nm = false) : Fp s nm (.tup (fP n s nm)) = true := by
  obtain ⟨a, b⟩ := brd_false hb
  have hl : (fP n s nm).length + 1 = nm := by rw [fP_len]; omega
  simp only [Fp, Bool.and_eq_true, Bool.not_eq_true', decide_eq_false_iff_not, beq_iff_eq]
  refine ⟨⟨by omega, hl⟩, ?_⟩
  rw [List.all_eq_true]
  intro d hd
  obtain ⟨i, x, hx, rfl⟩ := en_mem hd
  have hi : i < nm - 1 := by rw [← fP_len n s nm]; exact (List.getElem?_eq_some_iff.mp hx).1
  have e := fP_get n s nm (g := i + 1) (by omega) (by omega)
  rw [show i + 1 - 1 = i by omega, hx] at e
  cases e
  simp only [fre]
  rw [show (((i : Nat) : Int) + 1).toNat = i + 1 by omega]
  exact row_fr hs _ (fP_row n s nm hs hf hb (by omega) (by omega))
theorem fP_Bp : Bp s nm (.tup (fP n s nm)) = false := Bp_tups s nm _ fun d hd => by
  obtain ⟨i, _, rfl⟩ := List.mem_map.mp hd
  exact ⟨_, rfl⟩
include hs hf in
theorem fP_lens (hb : brd s nm = false) : ∀ ds es, (D.tup (fP n s nm)) = .tup ds → D.tup es ∈ ds → es.length ≤ 1000 := fun ds es e m => by
  cases e
  obtain ⟨i, hi, e2⟩ := List.mem_map.mp m
  cases e2
  have hi2 := List.mem_range.mp hi
  have r := (fP_row n s nm hs hf hb (g := i + 1) (by omega) (by omega)).2.1
  have := alw_len s nm (i + 1)
  rw [List.length_map, r, CG, List.length_map]; omega
/-! the paper of a barred number is judged right -/
theorem bP_ok {v : D} (h : bP s nm = some v) : okD v = true ∧ (∀ ds es, v = .tup ds → D.tup es ∈ ds → es.length ≤ 1000) := by
  unfold bP at h
  split at h
  · cases h
    exact ⟨rfl, fun ds es e m => by cases e; simp at m⟩
  · cases z : fg s nm with
    | none => rw [z] at h; cases h
    | some g =>
      rw [z] at h; cases h
      exact ⟨rfl, fun ds es e m => by cases e; simp at m⟩
theorem bP_Fp {v : D} (h : bP s nm = some v) : Fp s nm v = false := by
  unfold bP at h
  split at h
  · rename_i c
    cases h
    simp only [Fp, decide_eq_true c, Bool.not_true, Bool.false_and]
  · cases z : fg s nm with
    | none => rw [z] at h; cases h
    | some g =>
      rw [z] at h; cases h
      simp [Fp, enD, List.mapIdx, List.mapIdx.go, fre, frow]
include hs in
theorem bP_Bp {v : D} (h : bP s nm = some v) (hn : nm ≤ 200) : Bp s nm v = true := by
  unfold bP at h
  split at h
  · rename_i c
    cases h
    simp only [Bp, decide_eq_true c, Bool.and_true]
    rfl
  · rename_i c
    cases z : fg s nm with
    | none => rw [z] at h; cases h
    | some g =>
      rw [z] at h; cases h
      obtain ⟨g1, g2, g3⟩ := fg_some z
      have hC : ∀ x ∈ CG s nm g, 0 < x ∧ x < 2 ^ 60 := fun x hx => by
        obtain ⟨y, hy, rfl⟩ := List.mem_map.mp hx
        exact chN_rng hs (alw_le hy)
      have hne : CG s nm g ≠ [] := fun e => by
        have : cg s nm g = gcds (CG s nm g) := rfl
        rw [e] at this
        simp [gcds] at this
        omega
      have hlt : cg s nm g < 2 ^ 60 := gcds_lt _ hne hC
      have n1 : num (.int g) = true := num_of (by
        have : (200 : Int) < 10 ^ 30 := by decide +kernel
        omega)
      have n2 : num (.int (cg s nm g : Nat)) = true := num_of (by
        have : ((2 ^ 60 : Nat) : Int) < 10 ^ 30 := by decide +kernel
        omega)
      have b1 : btw 1 ((nm : Int) - 1) (.int g) = true := by simp only [btw, Bool.and_eq_true, decide_eq_true_eq]; omega
      have d1 : dvs s nm (.int g) (.int (cg s nm g : Nat)) = true := by
        simp only [dvs, Bool.and_eq_true, decide_eq_true_eq]
        refine ⟨by omega, ?_⟩
        rw [List.all_eq_true]
        intro k hk
        have hk2 : k ∈ alw s nm g := hk
        have := gcds_dvd (CG s nm g) (chN s k) (List.mem_map.mpr ⟨k, hk2, rfl⟩)
        rw [beq_iff_eq, chN_eq hs (alw_le hk2)]
        exact Int.emod_eq_zero_of_dvd (Int.natCast_dvd_natCast.mpr this)
      have g0 : isS "group" (.str "group") = true := rfl
      simp only [Bp, g0, decide_eq_false c, n1, n2, b1, d1, Bool.not_false, Bool.and_self]
end
end Lk

namespace Lk
open PySem PySem.Spec PyProof.Rows L2 M
def pBar (n : Nat) : FS := (sSeq (sIf (tOrD (tNotD (tTr (eCall F_is_barred_paper n (rCons (eV 0) (rCons (eV 1) (rCons (eV 3) rNil)))))) (tTr (eCall F_is_free_paper n (rCons (eV 0) (rCons (eV 1) (rCons (eV 3) rNil)))))) (sRet (eC (.bl false))) sNx)
  (sSeq (sIf (M.tB (M.e2 ltD (eV 1) (eV 0))) (sRet (M.e2 eqS (eV 3) (eTup (aCons (eC (.str "few")) aNil)))) sNx)
  (sSeq (sAsg (M.tTup [tName 5, tName 6]) (eTup (aCons (M.e2 ixD (eV 3) (eC (.int 1))) (aCons (M.e2 ixD (eV 3) (eC (.int 2))) aNil))))
  (sSeq (sIf (tOrD (M.tB (M.e2 neS (M.e2 ixD (eV 3) (eC (.int 0))) (eC (.str "group")))) (tOrD (M.tB (M.e2 ltD (eV 5) (eC (.int 1)))) (tOrD (M.tB (M.e2 geD (eV 5) (eV 1))) (M.tB (M.e2 ltD (eV 6) (eC (.int 2))))))) (sRet (eC (.bl false))) sNx)
  (sRet (M.e2 eqS (eFz (oLc (iSeq (eCall F__law_allowed n (rCons (eV 0) (rCons (eV 1) (rCons (eV 5) rNil))))) (tName 9) (M.tB (M.e2 neS (M.e2 modD (eCall F__law_binom n (rCons (eV 0) (rCons (eV 9) rNil))) (eV 6)) (eC (.int 0)))) (eV 9) [9])) (eLst aNil)))))))
def pLoop (n : Nat) : FS := (sSeq (sPar 7 8 (aCons (M.e2 ixD (eV 4) (M.e2 subD (eV 5) (eC (.int 1)))) (aCons (eCall F__law_allowed n (rCons (eV 0) (rCons (eV 1) (rCons (eV 5) rNil)))) aNil)))
  (sSeq (sIf (tOrD (M.tB (M.e2 neS (eB lenD (aCons (eV 7) aNil)) (eB lenD (aCons (eV 8) aNil)))) (M.tB (M.e2 neS (eFz (oLc (iSeq (eV 7)) (tName 10) (M.tB (M.e2 geD (eB absD (aCons (eV 10) aNil)) (M.e2 powD (eC (.int 10)) (eC (.int 40))))) (eV 10) [10])) (eLst aNil)))) (sRet (eC (.bl false))) sNx)
  (sIf (M.tB (M.e2 neS (eB sumD (aCons (eFz (oLc (iZp (aCons (eV 7) (aCons (eV 8) aNil))) (tPair 10 9) tYesD (M.e2 mulD (eV 10) (eCall F__law_binom n (rCons (eV 0) (rCons (eV 9) rNil)))) [10, 9])) aNil)) (eC (.int 1)))) (sRet (eC (.bl false))) sNx)))
def pFree (n : Nat) : FS := (sSeq (sIf (tOrD (tNotD (tTr (eCall F_is_free_paper n (rCons (eV 0) (rCons (eV 1) (rCons (eV 4) rNil)))))) (tOrD (tTr (eCall F_is_barred_paper n (rCons (eV 0) (rCons (eV 1) (rCons (eV 4) rNil))))) (M.tB (M.e2 neS (eB lenD (aCons (eV 4) aNil)) (M.e2 subD (eV 1) (eC (.int 1))))))) (sRet (eC (.bl false))) sNx)
  (sSeq (sFor (iRg rg2 (aCons (eC (.int 1)) (aCons (eV 1) aNil))) (tName 5) (pLoop n))
  (sRet (eC (.bl true)))))
theorem pr_eq (n : Nat) : g__law_pair_right n = (sSeq (sSet 2 (eCall F__law_barred n (rCons (eV 0) (rCons (eV 1) rNil))))
  (sSeq (sIf (M.tB (M.e2 neS (eB reprX (aCons (eCall F_is_barred n (rCons (eV 0) (rCons (eV 1) rNil))) aNil)) (eB reprX (aCons (eV 2) aNil)))) (sRet (eC (.bl false))) sNx)
  (sSeq (sSet 3 (eTold ct (eCallX F_barred_paper n (rCons (eV 0) (rCons (eV 1) rNil)))))
  (sSeq (sSet 4 (eTold ct (eCallX F_free_paper n (rCons (eV 0) (rCons (eV 1) rNil)))))
  (sSeq (sIf (tOrD (M.tB (M.e2 eqS (M.e2 isND (eV 3) (eC .non)) (eV 2))) (M.tB (M.e2 neS (M.e2 isND (eV 4) (eC .non)) (eV 2)))) (sRet (eC (.bl false))) sNx)
  (sSeq (sIf (tTr (eV 2)) (pBar n) sNx) (pFree n))))))) := rfl
theorem repr_bl (b : Bool) : ∃ t, reprX [.bl b] = some (.str t) := ⟨(pd (.bl b)).shown, by unfold reprX; rfl⟩
theorem neS_same (t : Str) : neS (.str t) (.str t) = some (.bl false) := by simp [neS]
theorem eqS_bb (a b : Bool) : eqS (.bl a) (.bl b) = some (.bl (a == b)) := by cases a <;> cases b <;> rfl
theorem neS_bb (a b : Bool) : neS (.bl a) (.bl b) = some (.bl (!(a == b))) := by cases a <;> cases b <;> rfl
theorem eqS_few : eqS (.tup [.str "few"]) (.tup [.str "few"]) = some (.bl true) := by
  show eqD _ _ = _
  unfold eqD deq
  rw [if_pos (by decide +kernel)]
  simp [pd, pds, PyData.eqv, PyData.eqvAll]
theorem eqS_l0 : eqS (.lst []) (.lst []) = some (.bl true) := rfl
theorem neS_l0 : neS (.lst []) (.lst []) = some (.bl false) := rfl
theorem filter_none {p : D → Bool} {ds : List D} (h : ∀ d ∈ ds, p d = false) : ds.filter p = [] := by
  rw [List.filter_eq_nil_iff]
  intro d hd
  rw [h d hd]; exact Bool.false_ne_true
section
variable (n s nm : Nat) (hs0 : 1 ≤ s) (hs : s ≤ 60) (hn0 : 1 ≤ nm) (hn : nm ≤ 200) (hf : 121 ≤ n)
theorem tr_call3 {F : FD} {n i : Nat} {a b c : D} {r : Bool} {ρ : Rho} (h0 : ρ[0]? = some (some (.dat a))) (h1 : ρ[1]? = some (some (.dat b))) (h2 : ρ[i]? = some (some (.dat c))) (h : Fv F n [a, b, c] = some (.bl r)) : tTr (eCall F n (rCons (eV 0) (rCons (eV 1) (rCons (eV i) rNil)))) ρ = .ok (r, ρ) := by
  simp only [tTr, bnd_T, call3_i h0 h1 h2 h, Rz.bind, trD]
theorem not_f {t : FT} {ρ ρ1 : Rho} {b : Bool} (h : t ρ = .ok (b, ρ1)) : tNotD t ρ = .ok (!b, ρ1) := by simp only [tNotD, bndT_T, h, Rz.bind]
include hs0 hs hn0 hn hf in
/-- .. the barred ones -/
theorem bar_ok {v : D} (h : bP s nm = some v) (a4 : Option Sl) : ∃ ρ', pBar n [dI s, dI nm, some (.dat (.bl true)), some (.dat v), a4, none, none, none, none, none, none] = .ok (.rt (.dat (.bl true)), ρ') := by
  let ρ : Rho := [dI s, dI nm, some (.dat (.bl true)), some (.dat v), a4, none, none, none, none, none, none]
  obtain ⟨ok1, ok2⟩ := bP_ok s nm h
  have b1 := barred_v n s nm hs0 hs hn0 hn v ok1
  rw [bP_Bp s nm hs h hn] at b1
  have f1 := free_v n s nm v hs0 hs hn0 hn ok1 ok2
  rw [bP_Fp s nm h] at f1
  have t1 := (or_f (not_f (tr_call3 (ρ := ρ) (i := 3) rfl rfl rfl b1))).trans (tr_call3 (ρ := ρ) (i := 3) rfl rfl rfl f1)
  have lt := lt10 (ρ := ρ) (s := s) (nm := nm) rfl rfl
  have s1 : 1 ≤ sizeLine := by decide
  have s2 : 2 ≤ sizeLine := by decide
  have hsz : 300 ≤ sizeLine := by decide
  unfold pBar
  rw [seq_nx (skip_if t1)]
  unfold bP at h
  split at h
  · rename_i c
    cases h
    rw [decide_eq_true c] at lt
    refine ⟨ρ, seq_rt ?_⟩
    rw [sIf]
    simp only [bndTS]
    rw [show M.tB (M.e2 ltD (eV 1) (eV 0)) [dI s, dI nm, some (.dat (.bl true)), some (.dat (.tup [.str "few"])), a4, none, none, none, none, none, none] = .ok (true, ρ) from lt]
    simp only [Rz.bind, if_true]
    refine ret_ok (e2_ok (eV_ok rfl) ?_ eqS_few)
    simp [eTup, bndA, aCons, aNil, eC, Rz.bind, s1]
  · rename_i c
    rw [decide_eq_false c] at lt
    cases z : fg s nm with
    | none => rw [z] at h; cases h
    | some g =>
      rw [z] at h; cases h
      obtain ⟨g1, g2, g3⟩ := fg_some z
      rw [seq_nx (skip_if lt)]
      let ρ1 : Rho := [dI s, dI nm, some (.dat (.bl true)), some (.dat (.tup [.str "group", .int g, .int (cg s nm g : Nat)])), a4, dI g, dI (cg s nm g : Nat), none, none, none, none]
      have x0 : ∀ ρ : Rho, ρ[3]? = some (some (.dat (.tup [.str "group", .int g, .int (cg s nm g : Nat)]))) → M.e2 ixD (eV 3) (eC (.int 0)) ρ = .ok (.str "group", ρ) := fun ρ h => e2_ok (eV_ok h) eC_ok rfl
      have x1 : ∀ ρ : Rho, ρ[3]? = some (some (.dat (.tup [.str "group", .int g, .int (cg s nm g : Nat)]))) → M.e2 ixD (eV 3) (eC (.int 1)) ρ = .ok (.int g, ρ) := fun ρ h => e2_ok (eV_ok h) eC_ok rfl
      have x2 : ∀ ρ : Rho, ρ[3]? = some (some (.dat (.tup [.str "group", .int g, .int (cg s nm g : Nat)]))) → M.e2 ixD (eV 3) (eC (.int 2)) ρ = .ok (.int (cg s nm g : Nat), ρ) := fun ρ h => e2_ok (eV_ok h) eC_ok rfl
      refine ⟨ρ1, (seq_nx (ρ1 := ρ1) ?_).trans ?_⟩
      · have et : eTup (aCons (M.e2 ixD (eV 3) (eC (.int 1))) (aCons (M.e2 ixD (eV 3) (eC (.int 2))) aNil)) ρ = .ok (.tup [.int g, .int (cg s nm g : Nat)], ρ) := by
          simp only [eTup, bndA, aCons, aNil, x1 ρ rfl, x2 ρ rfl, Rz.bind]
          rw [if_pos (by simp only [List.length_cons, List.length_nil]; omega)]
        show sAsg _ _ ρ = _
        simp only [sAsg, bndS, et, Rz.bind]
        rfl
      · have u0 : M.tB (M.e2 neS (M.e2 ixD (eV 3) (eC (.int 0))) (eC (.str "group"))) ρ1 = .ok (false, ρ1) := tB_ok (e2_ok (x0 ρ1 rfl) eC_ok (neS_same _))
        have u1 : M.tB (M.e2 ltD (eV 5) (eC (.int 1))) ρ1 = .ok (false, ρ1) := tB_ok (e2_ok (eV_ok rfl) eC_ok (by
          simp only [ltD, iLt_eq]; rw [decide_eq_false (by omega)]))
        have u2 : M.tB (M.e2 geD (eV 5) (eV 1)) ρ1 = .ok (false, ρ1) := tB_ok (e2_ok (eV_ok rfl) (eV_ok rfl) (by
          simp only [geD, iLt_eq]; rw [decide_eq_true (show (g : Int) < nm by omega)]; rfl))
        have u3 : M.tB (M.e2 ltD (eV 6) (eC (.int 2))) ρ1 = .ok (false, ρ1) := tB_ok (e2_ok (eV_ok rfl) eC_ok (by
          simp only [ltD, iLt_eq]; rw [decide_eq_false (by omega)]))
        rw [seq_nx (skip_if ((or_f u0).trans ((or_f u1).trans ((or_f u2).trans u3))))]
        have q1 := lallowed_v n s nm g hs (by omega)
        have hal := alw_len s nm g
        have c1 := lc_filter (fi := iSeq (eCall F__law_allowed n (rCons (eV 0) (rCons (eV 1) (rCons (eV 5) rNil))))) (tg := tName 9) (ft := M.tB (M.e2 neS (M.e2 modD (eCall F__law_binom n (rCons (eV 0) (rCons (eV 9) rNil))) (eV 6)) (eC (.int 0)))) (fe := eV 9) (vs := [9]) (ρ := ρ1) (ρ0 := ρ1) (ds := (alw s nm g).map nd) (fun _ => false)
          (by simp only [iSeq, call3_i (ρ := ρ1) (i := 5) rfl rfl rfl q1, Rz.bind]) rfl (fun d hd => by
            obtain ⟨k, hk, rfl⟩ := List.mem_map.mp hd
            have q2 := binom_v n s k hs (alw_le hk)
            rw [chN_eq hs (alw_le hk)] at q2
            let ρ2 : Rho := [dI s, dI nm, some (.dat (.bl true)), some (.dat (.tup [.str "group", .int g, .int (cg s nm g : Nat)])), a4, dI g, dI (cg s nm g : Nat), none, none, dI k, none]
            refine ⟨ρ2, ρ2, rfl, ?_, rfl, rfl, rfl⟩
            have hdv := gcds_dvd (CG s nm g) (chN s k) (List.mem_map.mpr ⟨k, hk, rfl⟩)
            have hdv2 : ((chN s k : Nat) : Int) % ((cg s nm g : Nat) : Int) = 0 := Int.emod_eq_zero_of_dvd (Int.natCast_dvd_natCast.mpr hdv)
            have hm : modD (.int (chN s k : Nat)) (.int (cg s nm g : Nat)) = some (.int 0) := by
              have : (0 : Int) < (cg s nm g : Nat) := by omega
              show (if (0 : Int) < (cg s nm g : Nat) then some (D.int _) else none) = _
              rw [if_pos this, hdv2]
            exact tB_ok (e2_ok (e2_ok (call2_i (ρ := ρ2) (i := 9) rfl rfl q2) (eV_ok rfl) hm) eC_ok (neS_ii 0 0))) (by rw [List.length_map]; omega)
        rw [filter_none (fun _ _ => rfl)] at c1
        exact ret_ok (e2_ok (fz_ok c1) rfl eqS_l0)
include hs0 hs hn0 hn hf in
/-- .. one turn through the groups -/
theorem loop_ok (hb : brd s nm = false) {g : Nat} (h1 : 1 ≤ g) (h2 : g < nm) (a2 a3 a6 a7 a8 : Option Sl) (i7 : isIo [a7] 0 = false) (i8 : isIo [a8] 0 = false) : ∃ b7 b8 : Option Sl, isIo [b7] 0 = false ∧ isIo [b8] 0 = false ∧
    pLoop n [dI s, dI nm, a2, a3, some (.dat (.tup (fP n s nm))), dI g, a6, a7, a8, none, none] = .ok (.nx, [dI s, dI nm, a2, a3, some (.dat (.tup (fP n s nm))), dI g, a6, b7, b8, none, none]) := by
  obtain ⟨_, rl, rd, rb⟩ := fP_row n s nm hs hf hb h1 h2
  let row := nzr n (CG s nm g)
  let rowD : D := .tup (row.map D.int)
  let ρ : Rho := [dI s, dI nm, a2, a3, some (.dat (.tup (fP n s nm))), dI g, a6, a7, a8, none, none]
  let ρ1 : Rho := [dI s, dI nm, a2, a3, some (.dat (.tup (fP n s nm))), dI g, a6, some (.dat rowD), some (.dat (.lst ((alw s nm g).map nd))), none, none]
  have hsz : 300 ≤ sizeLine := by decide
  have hal := alw_len s nm g
  have q1 := lallowed_v n s nm g hs (by omega)
  have hl : row.length = (alw s nm g).length := by show (nzr n (CG s nm g)).length = _; rw [rl]; simp [CG]
  refine ⟨some (.dat rowD), some (.dat (.lst ((alw s nm g).map nd))), rfl, rfl, ?_⟩
  have e0 : M.e2 ixD (eV 4) (M.e2 subD (eV 5) (eC (.int 1))) ρ = .ok (rowD, ρ) := by
    refine e2_ok (eV_ok rfl) (e2_ok (eV_ok rfl) eC_ok rfl) ?_
    have e := fP_get n s nm h1 h2
    have hg : (g : Int) - 1 = ((g - 1 : Nat) : Int) := by omega
    rw [hg]
    show atI (fP n s nm) ((g - 1 : Nat) : Int) = _
    have hk : g - 1 < (fP n s nm).length := by rw [fP_len]; omega
    rw [List.getElem?_eq_getElem hk] at e
    simp only [atI, ixN]
    simp [hk]
    exact Option.some.inj e
  unfold pLoop
  refine (seq_nx (ρ1 := ρ1) ?_).trans ?_
  · show sPar 7 8 _ ρ = _
    have j7 : isIo ρ 7 = false := i7
    have j8 : isIo ρ 8 = false := i8
    simp only [sPar, aCons, aNil, e0, call3_i (ρ := ρ) (i := 5) rfl rfl rfl q1, Rz.bind, j7, j8]
    rfl
  · have u1 : M.tB (M.e2 neS (eB lenD (aCons (eV 7) aNil)) (eB lenD (aCons (eV 8) aNil))) ρ1 = .ok (false, ρ1) := by
      refine tB_ok (e2_ok (eB1_ok (eV_ok rfl) rfl) (eB1_ok (eV_ok rfl) rfl) ?_)
      rw [neS_ii, List.length_map, List.length_map, hl]
      simp
    have c1 := lc_filter (fi := iSeq (eV 7)) (tg := tName 10) (ft := M.tB (M.e2 geD (eB absD (aCons (eV 10) aNil)) (M.e2 powD (eC (.int 10)) (eC (.int 40))))) (fe := eV 10) (vs := [10]) (ρ := ρ1) (ρ0 := ρ1) (ds := row.map D.int) (fun _ => false)
      rfl rfl (fun d hd => by
        obtain ⟨x, hx, rfl⟩ := List.mem_map.mp hd
        have hxb := rb x hx
        let ρ2 : Rho := [dI s, dI nm, a2, a3, some (.dat (.tup (fP n s nm))), dI g, a6, some (.dat rowD), some (.dat (.lst ((alw s nm g).map nd))), none, dI x]
        refine ⟨ρ2, ρ2, rfl, ?_, rfl, rfl, rfl⟩
        have pw : powD (.int 10) (.int 40) = some (.int (10 ^ (40 : Int).toNat)) := powD_of (by decide +kernel)
        refine tB_ok (e2_ok (eB1_ok (op := absD) (d := .int x.natAbs) (eV_ok rfl) (by
          show some (D.int (if x < 0 then -x else x)) = _
          congr 2
          split <;> omega)) (e2_ok eC_ok eC_ok pw) ?_)
        have e1 : (10 ^ 30 : Int) ≤ 10 ^ (40 : Int).toNat := by decide +kernel
        have e2 : ((x.natAbs : Nat) : Int) < 10 ^ (40 : Int).toNat := by omega
        simp only [geD, iLt_eq]
        rw [decide_eq_true e2]; rfl) (by rw [List.length_map]; omega)
    rw [filter_none (fun _ _ => rfl)] at c1
    have u2 : M.tB (M.e2 neS (eFz (oLc (iSeq (eV 7)) (tName 10) (M.tB (M.e2 geD (eB absD (aCons (eV 10) aNil)) (M.e2 powD (eC (.int 10)) (eC (.int 40))))) (eV 10) [10])) (eLst aNil)) ρ1 = .ok (false, ρ1) := tB_ok (e2_ok (fz_ok c1) rfl neS_l0)
    refine (seq_nx (skip_if ((or_f u1).trans u2))).trans ?_
    have hz : iZp (aCons (eV 7) (aCons (eV 8) aNil)) ρ1 = .ok (zpD (row.map D.int) ((alw s nm g).map nd), ρ1) := by
      simp [iZp, aCons, aNil, eV, Rz.bind, zpOf, sqOf, ρ1, rowD, hl]
    have hall : (row.map D.int).all num = true := by
      rw [List.all_eq_true]
      intro d hd
      obtain ⟨x, hx, rfl⟩ := List.mem_map.mp hd
      exact num_of (rb x hx)
    have c3 := sum_lc s (alw s nm g) (i := 10) (j := 9) (fe := M.e2 mulD (eV 10) (eCall F__law_binom n (rCons (eV 0) (rCons (eV 9) rNil)))) hz hall (fun k hk => alw_le hk) hs (by rw [List.length_map]; omega) rfl rfl (fun x k hk => by
      have q := binom_v n s k hs hk
      have sm := ch_small hs hk
      let ρ2 : Rho := [dI s, dI nm, a2, a3, some (.dat (.tup (fP n s nm))), dI g, a6, some (.dat rowD), some (.dat (.lst ((alw s nm g).map nd))), dI k, dI x]
      exact ⟨ρ2, rfl, e2_ok (eV_ok rfl) (call2_i (ρ := ρ2) (i := 9) rfl rfl q) (if_pos (.inr sm)), rfl, rfl⟩)
    rw [sumz_dot s hs row _ fun k hk => alw_le hk] at c3
    rw [show dot row ((alw s nm g).map (chN s)) = 1 from rd] at c3
    exact skip_if (tB_ok (e2_ok c3 eC_ok (neS_ii 1 1)))
include hs0 hs hn0 hn hf in
/-- .. the others -/
theorem free_ok (hb : brd s nm = false) (a2 a3 : Option Sl) : ∃ ρ', pFree n [dI s, dI nm, a2, a3, some (.dat (.tup (fP n s nm))), none, none, none, none, none, none] = .ok (.rt (.dat (.bl true)), ρ') := by
  let ρ : Rho := [dI s, dI nm, a2, a3, some (.dat (.tup (fP n s nm))), none, none, none, none, none, none]
  have f1 := free_v n s nm (.tup (fP n s nm)) hs0 hs hn0 hn (fP_ok n s nm) (fP_lens n s nm hs hf hb)
  rw [fP_Fp n s nm hs hn0 hf hb] at f1
  have b1 := barred_v n s nm hs0 hs hn0 hn (.tup (fP n s nm)) (fP_ok n s nm)
  rw [fP_Bp n s nm] at b1
  have u3 : M.tB (M.e2 neS (eB lenD (aCons (eV 4) aNil)) (M.e2 subD (eV 1) (eC (.int 1)))) ρ = .ok (false, ρ) := by
    refine tB_ok (e2_ok (eB1_ok (eV_ok rfl) rfl) (e2_ok (eV_ok rfl) eC_ok rfl) ?_)
    rw [neS_ii, fP_len]
    have : (((nm - 1 : Nat) : Int) == (nm : Int) - 1) = true := by rw [beq_iff_eq]; omega
    rw [this]; rfl
  have t1 := (or_f (not_f (tr_call3 (ρ := ρ) (i := 4) rfl rfl rfl f1))).trans ((or_f (tr_call3 (ρ := ρ) (i := 4) rfl rfl rfl b1)).trans u3)
  unfold pFree
  let J : Rho → Prop := fun ρ => ∃ a5 a7 a8, isIo [a5] 0 = false ∧ isIo [a7] 0 = false ∧ isIo [a8] 0 = false ∧ ρ = [dI s, dI nm, a2, a3, some (.dat (.tup (fP n s nm))), a5, none, a7, a8, none, none]
  obtain ⟨ρ', e, j⟩ := forL_nx (tg := tName 5) (body := pLoop n) J (rgD 1 (nm - 1)) (fun d hd ρ ⟨a5, a7, a8, i5, i7, i8, e⟩ => by
    subst e
    obtain ⟨k, hk, rfl⟩ := rgD_mem hd
    have ek : (1 : Int) + k = ((k + 1 : Nat) : Int) := by omega
    rw [ek]
    obtain ⟨b7, b8, j7, j8, e⟩ := loop_ok n s nm hs0 hs hn0 hn hf hb (g := k + 1) (by omega) (by omega) a2 a3 none a7 a8 i7 i8
    refine ⟨[dI s, dI nm, a2, a3, some (.dat (.tup (fP n s nm))), dI (k + 1 : Nat), none, a7, a8, none, none], _, ?_, e, dI (k + 1 : Nat), b7, b8, rfl, j7, j8, rfl⟩
    have : isIo [dI s, dI nm, a2, a3, some (.dat (.tup (fP n s nm))), a5, none, a7, a8, none, none] 5 = false := i5
    simp only [tName, this]; rfl) ρ ⟨none, none, none, rfl, rfl, rfl, rfl⟩
  refine ⟨ρ', (seq_nx (skip_if t1)).trans ((seq_nx (ρ1 := ρ') ?_).trans rfl)⟩
  simp only [sFor, rg_grp nm hn ρ 1 rfl, Rz.bind]
  exact e
include hs0 hs hn0 hn hf in
theorem pair_v : Fv F__law_pair_right n [.int s, .int nm] = some (.bl true) := by
  have q1 := lbarred_v n s nm hs hn hf
  have q2 := isbarred_v n s nm hs hn hf hs0 hn0
  have x1 := bpaper_v n s nm hs0 hs hn0 hn hf
  have x2 := fpaper_v n s nm hs0 hs hn0 hn hf
  obtain ⟨t, ht⟩ := repr_bl (brd s nm)
  let ρ0 : Rho := [dI s, dI nm, none, none, none, none, none, none, none, none, none]
  let ρ2 : Rho := [dI s, dI nm, some (.dat (.bl (brd s nm))), none, none, none, none, none, none, none, none]
  have st1 : ∀ x : FS, sSeq (sSet 2 (eCall F__law_barred n (rCons (eV 0) (rCons (eV 1) rNil)))) x ρ0 = x ρ2 := fun x => seq_nx ((set_ok (call2_2 (ρ := ρ0) rfl rfl q1) rfl).trans rfl)
  have st2 : ∀ x : FS, sSeq (sIf (M.tB (M.e2 neS (eB reprX (aCons (eCall F_is_barred n (rCons (eV 0) (rCons (eV 1) rNil))) aNil)) (eB reprX (aCons (eV 2) aNil)))) (sRet (eC (.bl false))) sNx) x ρ2 = x ρ2 := fun x =>
    seq_nx (skip_if (tB_ok (e2_ok (eB1_ok (call2_2 (ρ := ρ2) rfl rfl q2) ht) (eB1_ok (eV_ok rfl) ht) (neS_same t))))
  let v3 : D := (bP s nm).getD .non
  let v4 : D := (if brd s nm = true then none else some (D.tup (fP n s nm))).getD .non
  let ρ3 : Rho := [dI s, dI nm, some (.dat (.bl (brd s nm))), some (.dat v3), none, none, none, none, none, none, none]
  let ρ4 : Rho := [dI s, dI nm, some (.dat (.bl (brd s nm))), some (.dat v3), some (.dat v4), none, none, none, none, none, none]
  have rr : ∀ ρ : Rho, ρ[0]? = some (dI s) → ρ[1]? = some (dI nm) → (rCons (eV 0) (rCons (eV 1) rNil)) ρ = .ok ([D.int s, D.int nm].map Ar.d, ρ) := fun ρ h0 h1 => by
    simp only [rCons, rNil, eV_ok h0, eV_ok h1, Rz.bind]; rfl
  have st3 : ∀ x : FS, sSeq (sSet 3 (eTold ct (eCallX F_barred_paper n (rCons (eV 0) (rCons (eV 1) rNil))))) x ρ2 = x ρ3 := fun x => seq_nx ((set_ok (told_v (rr ρ2 rfl rfl) x1) rfl).trans rfl)
  have st4 : ∀ x : FS, sSeq (sSet 4 (eTold ct (eCallX F_free_paper n (rCons (eV 0) (rCons (eV 1) rNil))))) x ρ3 = x ρ4 := fun x => seq_nx ((set_ok (told_v (rr ρ3 rfl rfl) x2) rfl).trans rfl)
  have fin : ∃ ρ', g__law_pair_right n ρ0 = .ok (.rt (.dat (.bl true)), ρ') := by
    rw [pr_eq, st1, st2, st3, st4]
    have tD : tTr (eV 2) ρ4 = .ok (brd s nm, ρ4) := by simp only [tTr, bnd_T, eV_ok (ρ := ρ4) (i := 2) rfl, Rz.bind, trD]
    cases hb : brd s nm with
    | true =>
      -- barred
      have hx : ∃ v, bP s nm = some v := by
        unfold bP
        split
        · exact ⟨_, rfl⟩
        · rename_i c
          unfold brd at hb
          rw [decide_eq_false c, Bool.false_or] at hb
          obtain ⟨g, hg⟩ := Option.isSome_iff_exists.mp hb
          rw [hg]; exact ⟨_, rfl⟩
      obtain ⟨v, hv⟩ := hx
      have e3 : v3 = v := by show (bP s nm).getD .non = v; rw [hv]; rfl
      have e4 : v4 = .non := by show (if brd s nm = true then none else some (D.tup (fP n s nm))).getD .non = _; rw [hb]; rfl
      have i3 : isND v3 .non = some (.bl false) := by
        rw [e3]
        unfold bP at hv
        split at hv
        · cases hv; rfl
        · cases z : fg s nm with
          | none => rw [z] at hv; cases hv
          | some g => rw [z] at hv; cases hv; rfl
      have i4 : isND v4 .non = some (.bl true) := by rw [e4]; rfl
      have u1 : M.tB (M.e2 eqS (M.e2 isND (eV 3) (eC .non)) (eV 2)) ρ4 = .ok (false, ρ4) := tB_ok (e2_ok (e2_ok (eV_ok rfl) eC_ok i3) (eV_ok rfl) (by rw [eqS_bb, hb]; rfl))
      have u2 : M.tB (M.e2 neS (M.e2 isND (eV 4) (eC .non)) (eV 2)) ρ4 = .ok (false, ρ4) := tB_ok (e2_ok (e2_ok (eV_ok rfl) eC_ok i4) (eV_ok rfl) (by rw [neS_bb, hb]; rfl))
      rw [seq_nx (skip_if ((or_f u1).trans u2))]
      obtain ⟨ρ', e⟩ := bar_ok n s nm hs0 hs hn0 hn hf hv (some (.dat v4))
      refine ⟨ρ', seq_rt ?_⟩
      rw [hb] at tD
      simp only [sIf, bndTS, tD, Rz.bind, if_true]
      have : ρ4 = [dI s, dI nm, some (.dat (.bl true)), some (.dat v), some (.dat v4), none, none, none, none, none, none] := by
        show [dI s, dI nm, some (.dat (.bl (brd s nm))), some (.dat v3), some (.dat v4), none, none, none, none, none, none] = _
        rw [hb, e3]
      rw [this]; exact e
    | false =>
      have hx : bP s nm = none := by
        obtain ⟨a, b⟩ := brd_false hb
        unfold bP
        rw [if_neg (by omega), b]; rfl
      have e3 : v3 = .non := by show (bP s nm).getD .non = _; rw [hx]; rfl
      have e4 : v4 = .tup (fP n s nm) := by show (if brd s nm = true then none else some (D.tup (fP n s nm))).getD .non = _; rw [hb]; rfl
      have i3 : isND v3 .non = some (.bl true) := by rw [e3]; rfl
      have i4 : isND v4 .non = some (.bl false) := by rw [e4]; rfl
      have u1 : M.tB (M.e2 eqS (M.e2 isND (eV 3) (eC .non)) (eV 2)) ρ4 = .ok (false, ρ4) := tB_ok (e2_ok (e2_ok (eV_ok rfl) eC_ok i3) (eV_ok rfl) (by rw [eqS_bb, hb]; rfl))
      have u2 : M.tB (M.e2 neS (M.e2 isND (eV 4) (eC .non)) (eV 2)) ρ4 = .ok (false, ρ4) := tB_ok (e2_ok (e2_ok (eV_ok rfl) eC_ok i4) (eV_ok rfl) (by rw [neS_bb, hb]; rfl))
      rw [seq_nx (skip_if ((or_f u1).trans u2))]
      rw [hb] at tD
      rw [seq_nx (skip_if tD)]
      obtain ⟨ρ', e⟩ := free_ok n s nm hs0 hs hn0 hn hf hb (some (.dat (.bl (brd s nm)))) (some (.dat v3))
      refine ⟨ρ', ?_⟩
      have : ρ4 = [dI s, dI nm, some (.dat (.bl (brd s nm))), some (.dat v3), some (.dat (.tup (fP n s nm))), none, none, none, none, none, none] := by
        show [dI s, dI nm, some (.dat (.bl (brd s nm))), some (.dat v3), some (.dat v4), none, none, none, none, none, none] = _
        rw [e4]
      rw [this]; exact e
  obtain ⟨ρ', e⟩ := fin
  exact Fv_rt (g := g__law_pair_right n) rfl rfl e
end
end Lk

namespace Lk
open PySem PySem.Spec PyProof.Rows L2 M
theorem call_o2 {F : FD} {n j : Nat} {fr : FAr} {ρ0 ρ : Rho} {ds es es' : List D} {d : D} {io : Bool} {as' : M.Args} (ho : ownL ρ j = some (io, es)) (h : fr ρ0 = .ok (.o j :: ds.map Ar.d, ρ)) (hF : F n (.own true es :: ds.map Sl.dat) = some (.dat d, .own true es' :: as')) : eCall F n fr ρ0 = .ok (d, ρ.set j (some (.own io es'))) := by
  have := call_o1 (fr := fun _ => .ok (.o j :: ds.map Ar.d, ρ)) (ρ := ρ) (F := F) (n := n) ho rfl hF
  unfold eCall at this ⊢
  rw [h]
  exact this
/-- one of a list's items -/
theorem pick_ex (n : Nat) (p : Int × Int × Int) (ds : List D) (h1 : 0 < ds.length) (h2 : ds.length ≤ 1000) : ∃ d ∈ ds, ∃ (q : Int × Int × Int) (as' : M.Args), F__law_pick_of n [.own true (dish p), .dat (.lst ds)] = some (.dat d, .own true (dish q) :: as') := by
  obtain ⟨r, q, h3, h4⟩ := spoon_call n 0 [some (.own true (dish p)), some (.dat (.lst ds))] true p (eB lenD (aCons (eV 1) aNil)) ds.length rfl (eB1_ok (eV_ok rfl) rfl) (by omega) (by omega)
  have hr : r < ds.length := by omega
  refine ⟨ds[r], List.getElem_mem hr, q, [.dat (.lst ds)], (runB_rt (s := .dat ds[r]) (ρ := [some (.own true (dish q)), some (.dat (.lst ds))]) rfl ?_).trans (by simp [ends])⟩
  show g__law_pick_of n [some (.own true (dish p)), some (.dat (.lst ds))] = _
  have hv : ixD (.lst ds) (.int r) = some ds[r] := by
    show atI ds (r : Int) = _
    simp [atI, ixN, hr]
  have c1 := e2_ok (op := ixD) (fa := eV 1) (ρ := [some (.own true (dish p)), some (.dat (.lst ds))]) (eV_ok rfl) h4 hv
  unfold g__law_pick_of
  simp only [sRet, bndS, c1, Rz.bind]
  rfl
theorem pick_call (n j : Nat) (ρ0 ρ : Rho) (io io0 : Bool) (p : Int × Int × Int) (es0 : List D) (fe : FE) (ds : List D) (hj0 : ownL ρ0 j = some (io0, es0)) (hj : ownL ρ j = some (io, dish p)) (he : fe ρ0 = .ok (.lst ds, ρ)) (h1 : 0 < ds.length) (h2 : ds.length ≤ 1000) :
    ∃ d ∈ ds, ∃ (q : Int × Int × Int), eCall F__law_pick_of n (rOwn j (rCons fe rNil)) ρ0 = .ok (d, ρ.set j (some (.own io (dish q)))) := by
  obtain ⟨d, hd, q, as', e⟩ := pick_ex n p ds h1 h2
  refine ⟨d, hd, q, call_o2 (ds := [.lst ds]) hj ?_ e⟩
  simp [rOwn, rCons, rNil, he, Rz.bind, hj0]
theorem spoon_call2 (n j : Nat) (ρ0 ρ : Rho) (io io0 : Bool) (p : Int × Int × Int) (es0 : List D) (fe : FE) (t : Int) (hj0 : ownL ρ0 j = some (io0, es0)) (hj : ownL ρ j = some (io, dish p)) (he : fe ρ0 = .ok (.int t, ρ)) (ht : 0 < t) (ht2 : t ≤ 1000) :
    ∃ (r : Nat) (q : Int × Int × Int), (r : Int) < t ∧ eCall F__law_spoon n (rOwn j (rCons fe rNil)) ρ0 = .ok (.int r, ρ.set j (some (.own io (dish q)))) := by
  obtain ⟨r, q, as', h1, h2⟩ := spoon_ex n p t ht ht2
  refine ⟨r, q, h1, call_o2 (ds := [.int t]) hj ?_ h2⟩
  simp [rOwn, rCons, rNil, he, Rz.bind, hj0]
/-- 1 + spoon(dish, pick(dish, [a, b, c])) -/
theorem dish_eq (n : Nat) (ns : List Int) (k : Nat) : ∃ x y, F__law_dish n [.dat (.scr ns), .dat (.int k)] = some (.own false [.int x, .int y, .int 0], [.dat (.scr ns), .dat (.int k)]) := by
  have h1 : small 89 = true := by decide
  have h2 : small 3 = true := by decide
  have h3 : small 10007 = true := by decide
  have hc : ∃ c : Int, (eIf (M.tB (M.e2 ltD (eV 1) (eB lenD (aCons (eV 0) aNil)))) (M.e2 ixD (eV 0) (eV 1)) (M.e2 addD (M.e2 mulD (eC (.int 89)) (eV 1)) (eC (.int 31)))) [some (.dat (.scr ns)), some (.dat (.int k)), none, none, none] = .ok (.int c, [some (.dat (.scr ns)), some (.dat (.int k)), none, none, none]) := by
    by_cases hk : k < ns.length
    · refine ⟨ns[k], ?_⟩
      simp [eIf, bndT, M.tB, bnd_T, bnd, e2, eV, eB, bndA, aCons, aNil, lenD, ltD, ofO, frc_eq, iLt_eq, Rz.bind, hk, ixD, atI, ixN]
    · refine ⟨89 * k + 31, ?_⟩
      simp [eIf, bndT, M.tB, bnd_T, bnd, e2, eV, eC, eB, bndA, aCons, aNil, lenD, ltD, ofO, frc_eq, iLt_eq, Rz.bind, hk, mulD, addD, h1]
  obtain ⟨c, hc⟩ := hc
  have m1 : (0 : Int) < (10 ^ (60 : Int).toNat) ^ (9 : Int).toNat := by decide +kernel
  have m2 : (0 : Int) < 10 ^ (18 : Int).toNat + 3 := by decide +kernel
  have key : ∀ (fc : FE) (Q9 E : Int), fc [some (.dat (.scr ns)), some (.dat (.int k)), none, none, none] = .ok (.int c, [some (.dat (.scr ns)), some (.dat (.int k)), none, none, none]) → 0 < Q9 → 0 < E + 3 → ∃ x y ρ, (sSeq (sSet 2 fc)
  (sSeq (sSet 3 (M.e2 modD (eB M.intD (aCons (eB absD (aCons (eV 2) aNil)) aNil)) (eC (.int Q9))))
  (sSeq (sSet 4 (M.e2 modD (eB M.intD (aCons (M.e2 addD (M.e2 addD (M.e2 addD (M.e2 mulD (eV 3) (eC (.int 3))) (M.e2 mulD (eC (.int 10007)) (eV 1))) (eB M.intD (aCons (M.e2 ltD (eV 2) (eC (.int 0))) aNil))) (eC (.int 40487))) aNil)) (M.e2 addD (eC (.int E)) (eC (.int 3)))))
  (sRetO (oLst (aCons (eIf (M.tB (M.e2 gtD (eV 3) (eC (.int E)))) (M.e2 subD (eV 3) (eC (.int E))) (eC (.int 0))) (aCons (eV 4) (aCons (eC (.int 0)) aNil)))))))) [some (.dat (.scr ns)), some (.dat (.int k)), none, none, none] = .ok (.rt (.own false [.int x, .int y, .int 0]), some (.dat (.scr ns)) :: some (.dat (.int k)) :: ρ) := by
    intro fc Q9 E hc hM hE
    by_cases hz : E < (if c < 0 then -c else c) % Q9
    · simp [sSeq, sSet, bndS, hc, Rz.bind, isIo, e2, bnd, eB, bndA, aCons, aNil, eV, eC, absD, M.intD, modD, mulD, addD, subD, gtD, ltD, ofO, frc_eq, iLt_eq, h2, h3, sRetO, oLst, eIf, bndT, M.tB, bnd_T, hM, hE, hz, sizeLine]
    · simp [sSeq, sSet, bndS, hc, Rz.bind, isIo, e2, bnd, eB, bndA, aCons, aNil, eV, eC, absD, M.intD, modD, mulD, addD, subD, gtD, ltD, ofO, frc_eq, iLt_eq, h2, h3, sRetO, oLst, eIf, bndT, M.tB, bnd_T, hM, hE, hz, sizeLine]
  obtain ⟨x, y, ρ, e⟩ := key _ _ _ hc m1 m2
  refine ⟨x, y, (runB_rt (ρ := some (.dat (.scr ns)) :: some (.dat (.int k)) :: ρ) (s := .own false [.int x, .int y, .int 0]) rfl (by
      show g__law_dish n [some (.dat (.scr ns)), some (.dat (.int k)), none, none, none] = _
      unfold g__law_dish
      rw [e2_C pw1, e2_C pw2, e2_C pw3]
      exact e)).trans ?_⟩
  simp [ends]


theorem lst_ok {fs : FA} {ρ ρ1 : Rho} {ds : List D} (h : fs ρ = .ok (ds, ρ1)) (hl : ds.length ≤ 1000) : eLst fs ρ = .ok (.lst ds, ρ1) := by
  have z : 1000 ≤ sizeLine := by decide
  have : ds.length ≤ sizeLine := by omega
  simp [eLst, bndA, h, Rz.bind, this]
theorem ac {fa : FE} {fr : FA} {ρ ρ1 ρ2 : Rho} {d : D} {ds : List D} (h : fa ρ = .ok (d, ρ1)) (h2 : fr ρ1 = .ok (ds, ρ2)) : aCons fa fr ρ = .ok (d :: ds, ρ2) := by simp only [aCons, h, h2, Rz.bind]
theorem an {ρ : Rho} : aNil ρ = .ok ([], ρ) := rfl
theorem as {fa : FE} {fr : FA} {ρ : Rho} {d : D} {ds : List D} (h : fa ρ = .ok (d, ρ)) (h2 : fr ρ = .ok (ds, ρ)) : aCons fa fr ρ = .ok (d :: ds, ρ) := ac h h2
theorem tup_ok {fs : FA} {ρ : Rho} {ds : List D} (h : fs ρ = .ok (ds, ρ)) (hl : ds.length ≤ 1000) : eTup fs ρ = .ok (.tup ds, ρ) := by
  have z : 1000 ≤ sizeLine := by decide
  have : ds.length ≤ sizeLine := by omega
  simp [eTup, bndA, h, Rz.bind, this]
def io0 (a : Option Sl) : Prop := isIo [a] 0 = false
abbrev ρl (ns : List Int) (a1 a2 a3 a4 a5 a6 a7 : Option Sl) : Rho := [some (.dat (.scr ns)), a1, a2, a3, a4, a5, a6, a7]
def lb : FS := (sSeq (sSet 5 (M.e2 addD (eC (.int 1)) (eCall F__law_spoon 200 (rOwn 3 (rCons (eCall F__law_pick_of 200 (rOwn 3 (rCons (eLst (aCons (eC (.int 6)) (aCons (eC (.int 12)) (aCons (eC (.int 20)) aNil)))) rNil))) rNil)))))
  (sSeq (sOwn 7 (oLst (aCons (eV 5) (aCons (M.e2 subD (M.e2 mulD (eC (.int 2)) (eV 5)) (eC (.int 2))) (aCons (M.e2 subD (M.e2 mulD (eC (.int 2)) (eV 5)) (eC (.int 1))) (aCons (M.e2 mulD (eC (.int 2)) (eV 5)) (aCons (M.e2 addD (eV 5) (eC (.int 1))) (aCons (M.e2 subD (eV 5) (eC (.int 1))) aNil))))))))
  (sSeq (sApp 7 (M.e2 subD (M.e2 subD (M.e2 mulD (eC (.int 2)) (eV 5)) (eC (.int 1))) (eCall F__law_spoon 200 (rOwn 3 (rCons (eV 5) rNil)))))
  (sIf (tNotD (tTr (eCall F__law_pair_right 200 (rCons (eV 5) (rCons (eB maxD (aCons (eC (.int 1)) (aCons (eCall F__law_pick_of 200 (rOwn 3 (rCons (eFrz 7) rNil))) aNil))) rNil))))) (sRet (eC (.bl false))) sNx))))
def nearI (s : Nat) : List Int := [s, 2 * s - 2, 2 * s - 1, 2 * s, s + 1, s - 1]
theorem lb_ok (ns : List Int) (a1 a4 a5 a7 : Option Sl) (p : Int × Int × Int) (i5 : io0 a5) (i7 : io0 a7) : ∃ (q : Int × Int × Int) (b5 b7 : Option Sl), lb (ρl ns a1 none (some (.own false (dish p))) a4 a5 none a7) = .ok (.nx, ρl ns a1 none (some (.own false (dish q))) a4 b5 none b7) ∧ io0 b5 ∧ io0 b7 := by
  have h2 : small 2 = true := by decide
  have hsz : 300 ≤ sizeLine := by decide
  let A : (Int × Int × Int) → Option Sl → Option Sl → Rho := fun p b5 b7 => ρl ns a1 none (some (.own false (dish p))) a4 b5 none b7
  have l0 : eLst (aCons (eC (.int 6)) (aCons (eC (.int 12)) (aCons (eC (.int 20)) aNil))) (A p a5 a7) = .ok (.lst [.int 6, .int 12, .int 20], A p a5 a7) := lst_ok (as eC_ok (as eC_ok (as eC_ok an))) (show 3 ≤ 1000 by decide)
  obtain ⟨d, hd, p1, c1⟩ := pick_call 200 3 (A p a5 a7) (A p a5 a7) false false p (dish p) _ [.int 6, .int 12, .int 20] rfl rfl l0 (show 0 < 3 by decide) (show 3 ≤ 1000 by decide)
  obtain ⟨t, rfl, ht1, ht2⟩ : ∃ t : Int, d = .int t ∧ 0 < t ∧ t ≤ 20 := by
    simp only [List.mem_cons, List.not_mem_nil, or_false] at hd
    rcases hd with rfl | rfl | rfl
    · exact ⟨6, rfl, by omega, by omega⟩
    · exact ⟨12, rfl, by omega, by omega⟩
    · exact ⟨20, rfl, by omega, by omega⟩
  have c1' : eCall F__law_pick_of 200 (rOwn 3 (rCons (eLst (aCons (eC (.int 6)) (aCons (eC (.int 12)) (aCons (eC (.int 20)) aNil)))) rNil)) (A p a5 a7) = .ok (.int t, A p1 a5 a7) := c1
  obtain ⟨r, p2, hr, c2⟩ := spoon_call2 200 3 (A p a5 a7) (A p1 a5 a7) false false p1 (dish p) _ t rfl rfl c1' ht1 (by omega)
  have c2' : eCall F__law_spoon 200 (rOwn 3 (rCons (eCall F__law_pick_of 200 (rOwn 3 (rCons (eLst (aCons (eC (.int 6)) (aCons (eC (.int 12)) (aCons (eC (.int 20)) aNil)))) rNil))) rNil)) (A p a5 a7) = .ok (.int r, A p2 a5 a7) := c2
  obtain ⟨s, hs⟩ : ∃ s : Nat, s = 1 + r := ⟨_, rfl⟩
  have hs0 : 1 ≤ s := by omega
  have hs1 : s ≤ 20 := by omega
  have es : (1 : Int) + (r : Nat) = (s : Nat) := by omega
  have s5 : sSet 5 (M.e2 addD (eC (.int 1)) (eCall F__law_spoon 200 (rOwn 3 (rCons (eCall F__law_pick_of 200 (rOwn 3 (rCons (eLst (aCons (eC (.int 6)) (aCons (eC (.int 12)) (aCons (eC (.int 20)) aNil)))) rNil))) rNil)))) (A p a5 a7) = .ok (.nx, A p2 (dI s) a7) :=
    set_ok (e2_ok (eC_ok (d := .int 1)) c2' (show some (D.int (1 + (r : Nat))) = some (.int (s : Nat)) by rw [es])) (by exact i5)
  have v5 : ∀ q b7, eV 5 (A q (dI s) b7) = .ok (.int s, A q (dI s) b7) := fun _ _ => rfl
  have m2 : ∀ q b7, M.e2 mulD (eC (.int 2)) (eV 5) (A q (dI s) b7) = .ok (.int (2 * (s : Nat)), A q (dI s) b7) := fun q b7 => e2_ok eC_ok (v5 q b7) (by simp [mulD, h2])
  have n7 : oLst (aCons (eV 5) (aCons (M.e2 subD (M.e2 mulD (eC (.int 2)) (eV 5)) (eC (.int 2))) (aCons (M.e2 subD (M.e2 mulD (eC (.int 2)) (eV 5)) (eC (.int 1))) (aCons (M.e2 mulD (eC (.int 2)) (eV 5)) (aCons (M.e2 addD (eV 5) (eC (.int 1))) (aCons (M.e2 subD (eV 5) (eC (.int 1))) aNil)))))) (A p2 (dI s) a7) = .ok ((nearI s).map D.int, A p2 (dI s) a7) := by
    have e := as (v5 p2 a7) (as (e2_ok (m2 p2 a7) (eC_ok (d := .int 2)) (show subD _ _ = some _ from rfl)) (as (e2_ok (m2 p2 a7) (eC_ok (d := .int 1)) (show subD _ _ = some _ from rfl)) (as (m2 p2 a7) (as (e2_ok (v5 p2 a7) (eC_ok (d := .int 1)) (show addD _ _ = some _ from rfl)) (as (e2_ok (v5 p2 a7) (eC_ok (d := .int 1)) (show subD _ _ = some _ from rfl)) an)))))
    simp only [oLst, e, Rz.bind]
    refine (if_pos (e := Rz.no) (show Nat.ble 6 sizeLine = true by decide)).trans ?_
    rfl
  let N7 : Option Sl := some (.own false ((nearI s).map D.int))
  have o7 : sOwn 7 (oLst (aCons (eV 5) (aCons (M.e2 subD (M.e2 mulD (eC (.int 2)) (eV 5)) (eC (.int 2))) (aCons (M.e2 subD (M.e2 mulD (eC (.int 2)) (eV 5)) (eC (.int 1))) (aCons (M.e2 mulD (eC (.int 2)) (eV 5)) (aCons (M.e2 addD (eV 5) (eC (.int 1))) (aCons (M.e2 subD (eV 5) (eC (.int 1))) aNil))))))) (A p2 (dI s) a7) = .ok (.nx, A p2 (dI s) N7) := by
    have i7' : isIo (A p2 (dI s) a7) 7 = false := i7
    simp only [sOwn, n7, Rz.bind, i7']
    rfl
  obtain ⟨r2, p3, hr2, c3⟩ := spoon_call 200 3 (A p2 (dI s) N7) false p2 (eV 5) s rfl (v5 _ _) (by omega) (by omega)
  have c3' : eCall F__law_spoon 200 (rOwn 3 (rCons (eV 5) rNil)) (A p2 (dI s) N7) = .ok (.int r2, A p3 (dI s) N7) := c3
  let L7 : List Int := nearI s ++ [2 * (s : Int) - 1 - r2]
  have a7' : sApp 7 (M.e2 subD (M.e2 subD (M.e2 mulD (eC (.int 2)) (eV 5)) (eC (.int 1))) (eCall F__law_spoon 200 (rOwn 3 (rCons (eV 5) rNil)))) (A p2 (dI s) N7) = .ok (.nx, A p3 (dI s) (some (.own false (L7.map D.int)))) := by
    have e : M.e2 subD (M.e2 subD (M.e2 mulD (eC (.int 2)) (eV 5)) (eC (.int 1))) (eCall F__law_spoon 200 (rOwn 3 (rCons (eV 5) rNil))) (A p2 (dI s) N7) = .ok (.int (2 * (s : Int) - 1 - r2), A p3 (dI s) N7) := e2_ok (e2_ok (m2 _ _) (eC_ok (d := .int 1)) rfl) c3' rfl
    have ow : ownL (A p2 (dI s) N7) 7 = some (false, (nearI s).map D.int) := rfl
    have ow2 : ownL (A p3 (dI s) N7) 7 = some (false, (nearI s).map D.int) := rfl
    unfold sApp
    rw [ow]
    simp only [bndS, e, Rz.bind, ow2]
    rw [if_pos (by show 6 < sizeLine; decide)]
    have : L7.map D.int = (nearI s).map D.int ++ [D.int (2 * (s : Int) - 1 - r2)] := by simp [L7]
    rw [this]; rfl
  have hL : ∀ m ∈ L7, 0 ≤ m ∧ m ≤ 100 := fun m hm => by
    simp only [L7, nearI, List.mem_append, List.mem_cons, List.not_mem_nil, or_false] at hm
    omega
  let F7 : Option Sl := some (.dat (.lst (L7.map D.int)))
  obtain ⟨d, hd, p4, c4⟩ := pick_call 200 3 (A p3 (dI s) (some (.own false (L7.map D.int)))) (A p3 (dI s) F7) false false p3 (dish p3) (eFrz 7) (L7.map D.int) rfl rfl rfl (by simp [L7]) (by simp [L7, nearI])
  obtain ⟨m, hm, rfl⟩ := List.mem_map.mp hd
  have hm2 := hL m hm
  have c4' : eCall F__law_pick_of 200 (rOwn 3 (rCons (eFrz 7) rNil)) (A p3 (dI s) (some (.own false (L7.map D.int)))) = .ok (.int m, A p4 (dI s) F7) := c4
  obtain ⟨nm, hn⟩ : ∃ nm : Nat, nm = max 1 m.toNat := ⟨_, rfl⟩
  have mx : maxD [.int 1, .int m] = some (.int nm) := by
    show some (D.int (if m > 1 then m else 1)) = _
    congr 2
    split <;> omega
  have c5 : eB maxD (aCons (eC (.int 1)) (aCons (eCall F__law_pick_of 200 (rOwn 3 (rCons (eFrz 7) rNil))) aNil)) (A p3 (dI s) (some (.own false (L7.map D.int)))) = .ok (.int nm, A p4 (dI s) F7) := eB2_ok eC_ok c4' mx
  have pr := pair_v 200 s nm hs0 (by omega) (by omega) (by omega) (by omega)
  have c6 : eCall F__law_pair_right 200 (rCons (eV 5) (rCons (eB maxD (aCons (eC (.int 1)) (aCons (eCall F__law_pick_of 200 (rOwn 3 (rCons (eFrz 7) rNil))) aNil))) rNil)) (A p3 (dI s) (some (.own false (L7.map D.int)))) = .ok (.bl true, A p4 (dI s) F7) := by
    rw [eCall2, v5]
    simp only [Rz.bind, c5, pr, ofO_some]
  refine ⟨p4, dI s, F7, ?_, rfl, rfl⟩
  unfold lb
  refine (seq_nx s5).trans ((seq_nx o7).trans ((seq_nx a7').trans ?_))
  exact skip_if (not_tr c6)
def J2 (ns : List Int) (ρ : Rho) : Prop := ∃ a1 a3 a4 a5 a7, ρ = ρl ns a1 none a3 a4 a5 none a7 ∧ io0 a1 ∧ io0 a3 ∧ io0 a4 ∧ io0 a5 ∧ io0 a7
theorem turns (ns : List Int) (a1 a4 a5 a7 : Option Sl) (p : Int × Int × Int) (i1 : io0 a1) (i4 : io0 a4) (i5 : io0 a5) (i7 : io0 a7) : ∃ ρ', sFor (iRg rg1 (aCons (eC (.int 4)) aNil)) (tName 4) lb (ρl ns a1 none (some (.own false (dish p))) a4 a5 none a7) = .ok (.nx, ρ') ∧ J2 ns ρ' := by
  obtain ⟨ρ', e, q, b4, b5, b7, rfl, j4, j5, j7⟩ := forL_nx (tg := tName 4) (body := lb) (fun ρ => ∃ (q : Int × Int × Int) (a4 a5 a7 : Option Sl), ρ = ρl ns a1 none (some (.own false (dish q))) a4 a5 none a7 ∧ io0 a4 ∧ io0 a5 ∧ io0 a7) (rgD 0 4) (fun d hd ρ ⟨q, a4, a5, a7, e, i4, i5, i7⟩ => by
    subst e
    obtain ⟨q2, b5, b7, e, j5, j7⟩ := lb_ok ns a1 (some (.dat d)) a5 a7 q i5 i7
    refine ⟨ρl ns a1 none (some (.own false (dish q))) (some (.dat d)) a5 none a7, _, ?_, e, q2, _, b5, b7, rfl, rfl, j5, j7⟩
    have i4' : isIo (ρl ns a1 none (some (.own false (dish q))) a4 a5 none a7) 4 = false := i4
    simp only [tName, i4']; rfl) (ρl ns a1 none (some (.own false (dish p))) a4 a5 none a7) ⟨p, a4, a5, a7, rfl, i4, i5, i7⟩
  refine ⟨_, ?_, a1, some (.own false (dish q)), b4, b5, b7, rfl, i1, rfl, j4, j5, j7⟩
  have h62 : small62 4 = true := by decide
  simp only [sFor, iRg, aCons, aNil, eC, Rz.bind, rg1, h62, if_true]
  exact e
theorem cells (ns : List Int) : ∃ ρ', sFor (iRg rg1 (aCons (eB maxD (aCons (eC (.int 1)) (aCons (eB minD (aCons (eC (.int 4)) (aCons (eB lenD (aCons (eV 0) aNil)) aNil))) aNil))) aNil)) (tName 1) (sSeq (sOwn 3 (oCall F__law_dish 200 (rCons (eV 0) (rCons (eV 1) rNil)))) (sFor (iRg rg1 (aCons (eC (.int 4)) aNil)) (tName 4) lb)) (ρl ns none none none none none none none) = .ok (.nx, ρ') ∧ J2 ns ρ' := by
  have hr : ∃ m : Nat, (iRg rg1 (aCons (eB maxD (aCons (eC (.int 1)) (aCons (eB minD (aCons (eC (.int 4)) (aCons (eB lenD (aCons (eV 0) aNil)) aNil))) aNil))) aNil)) (ρl ns none none none none none none none) = .ok (rgD 0 m, ρl ns none none none none none none none) := by
    have key : ∀ v : Int, v = (if (if (ns.length : Int) < 4 then (ns.length : Int) else 4) > 1 then (if (ns.length : Int) < 4 then (ns.length : Int) else 4) else 1) → small62 v = true := fun v hv => by
      rw [small62_iff]
      split at hv <;> (try split at hv) <;> omega
    have k2 := key _ rfl
    refine ⟨(if (if (ns.length : Int) < 4 then (ns.length : Int) else 4) > 1 then (if (ns.length : Int) < 4 then (ns.length : Int) else 4) else 1).toNat, ?_⟩
    simp only [iRg, aCons, aNil, eB, bndA, eC, eV, Rz.bind, ofO, frc_eq, lenD, minD, maxD, List.getElem?_cons_zero, rg1, k2, if_true]
  obtain ⟨m, hr⟩ := hr
  obtain ⟨ρ', e, j⟩ := forL_nx (tg := tName 1) (body := sSeq (sOwn 3 (oCall F__law_dish 200 (rCons (eV 0) (rCons (eV 1) rNil)))) (sFor (iRg rg1 (aCons (eC (.int 4)) aNil)) (tName 4) lb)) (J2 ns) (rgD 0 m) (fun d hd ρ ⟨a1, a3, a4, a5, a7, e, i1, i3, i4, i5, i7⟩ => by
    subst e
    obtain ⟨k, _, rfl⟩ := rgD_mem hd
    rw [Int.zero_add]
    obtain ⟨x, y, hdish⟩ := dish_eq 200 ns k
    have c1 : oCall F__law_dish 200 (rCons (eV 0) (rCons (eV 1) rNil)) (ρl ns (some (.dat (.int k))) none a3 a4 a5 none a7) = .ok ([.int x, .int y, .int 0], ρl ns (some (.dat (.int k))) none a3 a4 a5 none a7) :=
      call_do (ds := [.scr ns, .int k]) (by simp [rCons, rNil, eV, Rz.bind]) hdish
    have i3' : isIo (ρl ns (some (.dat (.int k))) none a3 a4 a5 none a7) 3 = false := i3
    have eo : sOwn 3 (oCall F__law_dish 200 (rCons (eV 0) (rCons (eV 1) rNil))) (ρl ns (some (.dat (.int k))) none a3 a4 a5 none a7) = .ok (.nx, ρl ns (some (.dat (.int k))) none (some (.own false (dish (x, y, 0)))) a4 a5 none a7) := by
      simp [sOwn, c1, Rz.bind, i3', dish]
    obtain ⟨ρ2, e2, j2⟩ := turns ns (some (.dat (.int k))) a4 a5 a7 (x, y, 0) rfl i4 i5 i7
    refine ⟨ρl ns (some (.dat (.int k))) none a3 a4 a5 none a7, ρ2, ?_, (seq_nx eo).trans e2, j2⟩
    have i1' : isIo (ρl ns a1 none a3 a4 a5 none a7) 1 = false := i1
    simp only [tName, i1']; rfl) (ρl ns none none none none none none none) ⟨none, none, none, none, none, rfl, rfl, rfl, rfl, rfl, rfl⟩
  refine ⟨ρ', ?_, j⟩
  simp only [sFor, hr, Rz.bind]
  exact e
def W1 : List (Nat × Nat) := [(6, 8), (6, 9), (6, 10), (1, 1), (2, 1), (2, 3), (12, 22), (10, 18), (30, 40), (36, 50)]
def W2 : List (Nat × Nat) := [(3, 50), (5, 200)]
def pD (p : Nat × Nat) : D := .tup [.int p.1, .int p.2]
theorem eqS_five : eqS (.lst [.bl true, .bl true, .bl true, .bl true, .bl false]) (.lst [.bl true, .bl true, .bl true, .bl true, .bl false]) = some (.bl true) := by
  show eqD _ _ = _
  unfold eqD deq
  rw [if_pos (by decide +kernel)]
  simp [pd, pds, PyData.eqv, PyData.eqvAll]
theorem brds : [brd 2 2, brd 3 4, brd 4 6, brd 5 8, brd 6 10] = [true, true, true, true, false] := by decide +kernel
theorem law_eq (ns : List Int) : ∃ as', F_law 200 [.dat (.scr ns)] = some (.dat (.bl true), as') := by
  obtain ⟨ρ', ec, a1, a3, a4, a5, a7, rfl, i1, i3, i4, i5, i7⟩ := cells ns
  have hsz : 300 ≤ sizeLine := by decide
  have t2 : ∀ (a b : Int) (ρ : Rho), eTup (aCons (eC (.int a)) (aCons (eC (.int b)) aNil)) ρ = .ok (.tup [.int a, .int b], ρ) := fun a b ρ => tup_ok (as eC_ok (as eC_ok an)) (show 2 ≤ 1000 by decide)
  let R : Option Sl → Option Sl → Option Sl → Rho := fun t b5 b6 => ρl ns a1 t a3 a4 b5 b6 a7
  let w1 : Option Sl := some (.dat (.lst (W1.map pD)))
  let w2 : Option Sl := some (.dat (.lst ((W1 ++ W2).map pD)))
  have e1 : sSet 2 (eLst (aCons (eTup (aCons (eC (.int 6)) (aCons (eC (.int 8)) aNil))) (aCons (eTup (aCons (eC (.int 6)) (aCons (eC (.int 9)) aNil))) (aCons (eTup (aCons (eC (.int 6)) (aCons (eC (.int 10)) aNil))) (aCons (eTup (aCons (eC (.int 1)) (aCons (eC (.int 1)) aNil))) (aCons (eTup (aCons (eC (.int 2)) (aCons (eC (.int 1)) aNil))) (aCons (eTup (aCons (eC (.int 2)) (aCons (eC (.int 3)) aNil))) (aCons (eTup (aCons (eC (.int 12)) (aCons (eC (.int 22)) aNil))) (aCons (eTup (aCons (eC (.int 10)) (aCons (eC (.int 18)) aNil))) (aCons (eTup (aCons (eC (.int 30)) (aCons (eC (.int 40)) aNil))) (aCons (eTup (aCons (eC (.int 36)) (aCons (eC (.int 50)) aNil))) aNil))))))))))) (R none a5 none) = .ok (.nx, R w1 a5 none) :=
    set_ok (lst_ok (as (t2 6 8 _) (as (t2 6 9 _) (as (t2 6 10 _) (as (t2 1 1 _) (as (t2 2 1 _) (as (t2 2 3 _) (as (t2 12 22 _) (as (t2 10 18 _) (as (t2 30 40 _) (as (t2 36 50 _) an)))))))))) (show 10 ≤ 1000 by decide)) rfl
  have e2 : sSet 2 (M.e2 addD (eV 2) (eLst (aCons (eTup (aCons (eC (.int 3)) (aCons (eC (.int 50)) aNil))) (aCons (eTup (aCons (eC (.int 5)) (aCons (eC (.int 200)) aNil))) aNil)))) (R w1 a5 none) = .ok (.nx, R w2 a5 none) := by
    refine set_ok (e2_ok (eV_ok rfl) (lst_ok (as (t2 3 50 _) (as (t2 5 200 _) an)) (show 2 ≤ 1000 by decide)) (d := .lst ((W1 ++ W2).map pD)) ?_) rfl
    show (if (W1.map pD).length + 2 ≤ sizeLine then some (D.lst (W1.map pD ++ [.tup [.int 3, .int 50], .tup [.int 5, .int 200]])) else none) = _
    rw [if_pos (by show 10 + 2 ≤ sizeLine; omega)]
    rfl
  have hw : ∀ p ∈ W1 ++ W2, 1 ≤ p.1 ∧ p.1 ≤ 60 ∧ 1 ≤ p.2 ∧ p.2 ≤ 200 := by decide
  obtain ⟨ρ', e3, b5, b6, rfl, j5, j6⟩ := forL_nx (tg := tPair 5 6) (body := sIf (tNotD (tTr (eCall F__law_pair_right 200 (rCons (eV 5) (rCons (eV 6) rNil))))) (sRet (eC (.bl false))) sNx) (fun ρ => ∃ b5 b6 : Option Sl, ρ = R w2 b5 b6 ∧ io0 b5 ∧ io0 b6) ((W1 ++ W2).map pD) (fun d hd ρ ⟨b5, b6, e, j5, j6⟩ => by
    subst e
    obtain ⟨⟨s, nm⟩, hp, rfl⟩ := List.mem_map.mp hd
    obtain ⟨h1, h2, h3, h4⟩ := hw _ hp
    have pr := pair_v 200 s nm h1 h2 h3 h4 (by omega)
    have c6 : eCall F__law_pair_right 200 (rCons (eV 5) (rCons (eV 6) rNil)) (R w2 (dI s) (dI nm)) = .ok (.bl true, R w2 (dI s) (dI nm)) := by
      rw [eCall2, eV_ok (i := 5) rfl]
      simp only [Rz.bind]
      rw [eV_ok (i := 6) rfl]
      simp only [Rz.bind, pr, ofO_some]
    refine ⟨R w2 (dI s) (dI nm), R w2 (dI s) (dI nm), ?_, skip_if (not_tr c6), dI s, dI nm, rfl, rfl, rfl⟩
    have j5' : isIo (R w2 b5 b6) 5 = false := j5
    have j6' : isIo (R w2 (dI s) b6) 6 = false := j6
    have x1 : tName 5 (.int s) (R w2 b5 b6) = some (R w2 (dI s) b6) := by simp only [tName, j5']; rfl
    have x2 : tName 6 (.int nm) (R w2 (dI s) b6) = some (R w2 (dI s) (dI nm)) := by simp only [tName, j6']; rfl
    show (tName 5 (.int s) (R w2 b5 b6)).bind (tName 6 (.int nm)) = _
    rw [x1, Option.bind_some, x2]) (R w2 a5 none) ⟨a5, none, rfl, i5, rfl⟩
  have tu : eTup (aCons (eC (.int 2)) (aCons (eC (.int 3)) (aCons (eC (.int 4)) (aCons (eC (.int 5)) (aCons (eC (.int 6)) aNil))))) (R w2 b5 b6) = .ok (.tup [.int 2, .int 3, .int 4, .int 5, .int 6], R w2 b5 b6) := tup_ok (as eC_ok (as eC_ok (as eC_ok (as eC_ok (as eC_ok an))))) (show 5 ≤ 1000 by decide)
  have h2 : small 2 = true := by decide
  have j5' : isIo (R w2 b5 b6) 5 = false := j5
  have c7 := lc_all (fi := iSeq (eTup (aCons (eC (.int 2)) (aCons (eC (.int 3)) (aCons (eC (.int 4)) (aCons (eC (.int 5)) (aCons (eC (.int 6)) aNil))))))) (tg := tName 5) (fe := eCall F_is_barred 200 (rCons (eV 5) (rCons (M.e2 subD (M.e2 mulD (eC (.int 2)) (eV 5)) (eC (.int 2))) rNil))) (vs := [5]) (ρ := R w2 b5 b6) (ρ0 := R w2 b5 b6) (ds := [2, 3, 4, 5, 6].map nd)
    (fun d => match d with | .int i => .bl (brd i.toNat (2 * i.toNat - 2)) | d => d) (by simp only [iSeq, tu, Rz.bind]; rfl) (by simp only [noIo, List.all_cons, List.all_nil, j5']; rfl) (fun d hd => by
      obtain ⟨s, hs, rfl⟩ := List.mem_map.mp hd
      have hs2 : 2 ≤ s ∧ s ≤ 6 := by
        simp only [List.mem_cons, List.not_mem_nil, or_false] at hs; omega
      have q := isbarred_v 200 s (2 * s - 2) (by omega) (by omega) (by omega) (by omega) (by omega)
      refine ⟨R w2 (dI s) b6, R w2 (dI s) b6, ?_, ?_, rfl, ?_⟩
      · have hw : wipeR [5] (R w2 b5 b6) = R w2 none b6 := by
          have j5'' := j5
          cases b5 with
          | none => rfl
          | some x => cases x <;> rfl
        rw [hw]; rfl
      · rw [eCall2, eV_ok (i := 5) rfl]
        simp only [Rz.bind]
        have m2 : M.e2 mulD (eC (.int 2)) (eV 5) (R w2 (dI s) b6) = .ok (.int (2 * (s : Nat)), R w2 (dI s) b6) := e2_ok eC_ok (eV_ok rfl) (by simp [mulD, h2])
        have m3 : M.e2 subD (M.e2 mulD (eC (.int 2)) (eV 5)) (eC (.int 2)) (R w2 (dI s) b6) = .ok (.int (2 * s - 2 : Nat), R w2 (dI s) b6) := e2_ok m2 eC_ok (by
          show some (D.int (2 * (s : Int) - 2)) = _
          congr 2; omega)
        rw [m3]
        simp only [Rz.bind, q, ofO_some]
        rfl
      · cases b5 with
        | none => rfl
        | some x => cases x <;> rfl) (by show 5 ≤ sizeLine; omega)
  have e7 : ([2, 3, 4, 5, 6].map nd).map (fun d => match d with | .int i => D.bl (brd i.toNat (2 * i.toNat - 2)) | d => d) = [.bl true, .bl true, .bl true, .bl true, .bl false] := by
    have := congrArg (List.map D.bl) brds
    exact this
  rw [e7] at c7
  refine ⟨_, runB_rt (s := .dat (.bl true)) (ρ := restR [5] (R w2 b5 b6) (wipeR [5] (R w2 b5 b6))) rfl ?_⟩
  show g_law 200 (ρl ns none none none none none none none) = _
  unfold g_law
  refine (seq_nx ec).trans ((seq_nx e1).trans ((seq_nx e2).trans ((seq_nx (ρ1 := R w2 b5 b6) ?_).trans ?_)))
  · have iv : iSeq (eV 2) (R w2 a5 none) = .ok ((W1 ++ W2).map pD, R w2 a5 none) := rfl
    simp only [sFor, iv, Rz.bind]
    exact e3
  · exact ret_ok (e2_ok (fz_ok c7) (lst_ok (as eC_ok (as eC_ok (as eC_ok (as eC_ok (as eC_ok an))))) (show 5 ≤ 1000 by decide)) eqS_five)
end Lk
theorem PySem.Challenge.cw_fewnames_k36_whole_barred_numbers_and_pa_holds : PySem.Challenge.rw_fewnames_k36_whole_barred_numbers_and_pa.Holds :=
  Lk.law_holds fun ns _ _ => ⟨200, Lk.law_eq ns⟩

