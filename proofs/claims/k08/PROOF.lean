import PyProof.Rows.All
import Wide.All
import OpenK.AllK
import Wide.FinOn
import HandS.ForMost
import HandS.Wide
import HandS.IsInst
import HandS.Conv
import HandS.Exc
import HandS.WordsExc
import HandS.Slots
import HandS.HeadHook4
import HandS.Lambda
import HandS.TupAny
import HandS.Style
import KE.SortData
import HandS.SetFor
import HandS.Strs
import HandS.SortInts
import HandS.Rev
import HandS.AnyAll
import HandS.GenOver
import HandS.Iter
import HandS.IterVal
import PyProof.CodeObjX
import KE.KDictIter
import HandS.HeadWalk
import HandS.Head2
import HandS.RaiseMore
import PyProof.Rows.NestShow
import HandS.TupMul
import HandS.Zip
import HandS.Star
import KE.GoesMore
import PyProof.NeKinds
import PyProof.NeData
import HandS.DictEq
import KE.GoesEnumKw
import KE.KTurns
import HandS.TryOnly
import HandS.ExcOwn
import HandS.SlotsOwn
import HandS.SortOrd
import KE.KOwnIter
import PyProof.InstNe
import KE.KFmtOwn
import HandS.OwnEq
import PySem.Challenge.RW_fewnames_k08_whole_hidden_threads
set_option Elab.async false
set_option linter.all false
set_option maxRecDepth 100000
set_option maxHeartbeats 0
/-! A layer of values as data: what an expression, a statement, a def computes, as plain functions over trees. -/
namespace M
open PySem PySem.Spec PyProof.Rows L2
/-- the tables of code objects that stand -/
class Tabs where
  T : List Addr
  /-- those of defs that make lambdas, with their codes' name -/
  L : List (Addr × Str) := []

/-! ### data -/
inductive D where
  | non | bl (b : Bool) | int (i : Int) | str (x : Str) | tup (xs : List D) | lst (xs : List D) | scr (ns : List Int) | con (v : V) | dic (ks ds : List D) | ins (c : Str) (fs : List D)

mutual
def Rep (K : PySem.W.Frag) (G : Hp) : D → V → Prop
  | .non, v => v = .non
  | .bl b, v => v = .bl b
  | .int i, v => v = .int i
  | .str x, v => v = .str x
  | .con u, v => v = u
  | .tup ds, v => ∃ a vs, v = .ref a ∧ SqT K G a vs ∧ Reps K G ds vs
  | .lst ds, v => ∃ a vs, v = .ref a ∧ G a = some (.lst vs) ∧ Reps K G ds vs
  | .scr ns, v => ∃ a, v = .ref a ∧ SqL K G a (ns.map V.int)
  | .dic ks ds, v => ∃ (a : Addr) (us : List Key) (vs : List V), v = .ref a ∧ us.length = vs.length ∧ G a = some (.dK (us.zip vs)) ∧ Reps K G ks (us.map kV) ∧ Reps K G ds vs
  | .ins c fs, v => ∃ a dx vs, v = .ref a ∧ G a = some (SlX.SlO a (He.ga K c) dx (vs.map some)) ∧ G dx = some (.xd []) ∧ Reps K G fs vs
def Reps (K : PySem.W.Frag) (G : Hp) : List D → List V → Prop
  | [], vs => vs = []
  | d :: ds, vs => ∃ v r, vs = v :: r ∧ Rep K G d v ∧ Reps K G ds r
end

theorem Rd.mono {H H' : Hp} {a : Addr} {u : HO} (s : Same H H') (h : Rd H a u) : Rd H' a u := by
  rcases h with h | ⟨o, h⟩
  · exact .inl (s _ _ h)
  · exact .inr ⟨o, s _ _ h⟩
theorem SqL.mono {K : PySem.W.Frag} {H H' : Hp} {a : Addr} {xs : List V} (s : Same H H') (h : SqL K H a xs) : SqL K H' a xs := h.imp (Rd.mono s) id
theorem SqT.mono {K : PySem.W.Frag} {H H' : Hp} {a : Addr} {xs : List V} (s : Same H H') (h : SqT K H a xs) : SqT K H' a xs := h.imp (Rd.mono s) id
mutual
theorem Rep.mono {K : PySem.W.Frag} {G G' : Hp} (s : Same G G') : ∀ (d : D) (v : V), Rep K G d v → Rep K G' d v
  | .non, v, h => by simpa only [Rep] using h
  | .bl b, v, h => by simpa only [Rep] using h
  | .int i, v, h => by simpa only [Rep] using h
  | .str x, v, h => by simpa only [Rep] using h
  | .con u, v, h => by simpa only [Rep] using h
  | .tup ds, v, h => by
    simp only [Rep] at h ⊢
    obtain ⟨a, vs, e, q, r⟩ := h
    exact ⟨a, vs, e, SqT.mono s q, Reps.mono s ds vs r⟩
  | .lst ds, v, h => by
    simp only [Rep] at h ⊢
    obtain ⟨a, vs, e, q, r⟩ := h
    exact ⟨a, vs, e, s _ _ q, Reps.mono s ds vs r⟩
  | .scr ns, v, h => by
    simp only [Rep] at h ⊢
    obtain ⟨a, e, q⟩ := h
    exact ⟨a, e, SqL.mono s q⟩
  | .dic ks ds, v, h => by
    simp only [Rep] at h ⊢
    obtain ⟨a, us, vs, e, l, q, r1, r2⟩ := h
    exact ⟨a, us, vs, e, l, s _ _ q, Reps.mono s ks _ r1, Reps.mono s ds _ r2⟩
  | .ins c fs, v, h => by
    simp only [Rep] at h ⊢
    obtain ⟨a, dx, vs, e, q1, q2, r⟩ := h
    exact ⟨a, dx, vs, e, s _ _ q1, s _ _ q2, Reps.mono s fs _ r⟩
theorem Reps.mono {K : PySem.W.Frag} {G G' : Hp} (s : Same G G') : ∀ (ds : List D) (vs : List V), Reps K G ds vs → Reps K G' ds vs
  | [], vs, h => by simpa only [Reps] using h
  | d :: ds, vs, h => by
    simp only [Reps] at h ⊢
    obtain ⟨v, r, e, h1, h2⟩ := h
    exact ⟨v, r, e, Rep.mono s d v h1, Reps.mono s ds r h2⟩
end
theorem Reps.length {K : PySem.W.Frag} {G : Hp} : ∀ {ds : List D} {vs : List V}, Reps K G ds vs → vs.length = ds.length
  | [], vs, h => by simp only [Reps] at h; subst h; rfl
  | d :: ds, vs, h => by
    simp only [Reps] at h
    obtain ⟨v, r, rfl, _, h2⟩ := h
    rw [List.length_cons, List.length_cons, Reps.length h2]
theorem Reps.nil {K : PySem.W.Frag} {G : Hp} : Reps K G [] [] := by simp only [Reps]
theorem Reps.cons {K : PySem.W.Frag} {G : Hp} {d : D} {v : V} {ds : List D} {vs : List V} (h : Rep K G d v) (t : Reps K G ds vs) : Reps K G (d :: ds) (v :: vs) := by
  simp only [Reps]; exact ⟨v, vs, rfl, h, t⟩
theorem Reps.append {K : PySem.W.Frag} {G : Hp} : ∀ {ds es : List D} {vs us : List V}, Reps K G ds vs → Reps K G es us → Reps K G (ds ++ es) (vs ++ us)
  | [], es, vs, us, h, t => by simp only [Reps] at h; subst h; exact t
  | d :: ds, es, vs, us, h, t => by
    simp only [Reps] at h
    obtain ⟨v, r, rfl, h1, h2⟩ := h
    exact Reps.cons h1 (Reps.append h2 t)
theorem Reps.get {K : PySem.W.Frag} {G : Hp} : ∀ {ds : List D} {vs : List V} {i : Nat} {d : D}, Reps K G ds vs → ds[i]? = some d → ∃ v, vs[i]? = some v ∧ Rep K G d v
  | [], vs, i, d, h, e => by simp at e
  | c :: ds, vs, 0, d, h, e => by
    simp only [Reps] at h
    obtain ⟨v, r, rfl, h1, h2⟩ := h
    simp at e; subst e
    exact ⟨v, rfl, h1⟩
  | c :: ds, vs, i + 1, d, h, e => by
    simp only [Reps] at h
    obtain ⟨v, r, rfl, h1, h2⟩ := h
    simp at e
    obtain ⟨u, e1, e2⟩ := Reps.get h2 e
    exact ⟨u, by simpa using e1, e2⟩
theorem Reps.getV {K : PySem.W.Frag} {G : Hp} : ∀ {ds : List D} {vs : List V} {i : Nat} {v : V}, Reps K G ds vs → vs[i]? = some v → ∃ d, ds[i]? = some d ∧ Rep K G d v
  | [], vs, i, v, h, e => by simp only [Reps] at h; subst h; simp at e
  | c :: ds, vs, 0, v, h, e => by
    simp only [Reps] at h
    obtain ⟨u, r, rfl, h1, h2⟩ := h
    simp at e; subst e
    exact ⟨c, rfl, h1⟩
  | c :: ds, vs, i + 1, v, h, e => by
    simp only [Reps] at h
    obtain ⟨u, r, rfl, h1, h2⟩ := h
    simp at e
    obtain ⟨u, e1, e2⟩ := Reps.getV h2 e
    exact ⟨u, by simpa using e1, e2⟩
theorem Reps.take {K : PySem.W.Frag} {G : Hp} : ∀ {ds : List D} {vs : List V} (n : Nat), Reps K G ds vs → Reps K G (ds.take n) (vs.take n)
  | ds, vs, 0, h => by simp only [List.take_zero]; exact Reps.nil
  | [], vs, n + 1, h => by simp only [Reps] at h; subst h; exact Reps.nil
  | d :: ds, vs, n + 1, h => by
    simp only [Reps] at h
    obtain ⟨v, r, rfl, h1, h2⟩ := h
    exact Reps.cons h1 (Reps.take n h2)
theorem Reps.drop {K : PySem.W.Frag} {G : Hp} : ∀ {ds : List D} {vs : List V} (n : Nat), Reps K G ds vs → Reps K G (ds.drop n) (vs.drop n)
  | ds, vs, 0, h => h
  | [], vs, n + 1, h => by simp only [Reps] at h; subst h; exact Reps.nil
  | d :: ds, vs, n + 1, h => by
    simp only [Reps] at h
    obtain ⟨v, r, rfl, h1, h2⟩ := h
    exact Reps.drop n h2
theorem Reps.set {K : PySem.W.Frag} {G : Hp} : ∀ {ds : List D} {vs : List V} {d : D} {v : V} (i : Nat), Rep K G d v → Reps K G ds vs → Reps K G (ds.set i d) (vs.set i v)
  | [], vs, d, v, i, r, h => by simp only [Reps] at h; subst h; exact Reps.nil
  | c :: ds, vs, d, v, 0, r, h => by
    simp only [Reps] at h
    obtain ⟨u, t, rfl, h1, h2⟩ := h
    exact Reps.cons r h2
  | c :: ds, vs, d, v, i + 1, r, h => by
    simp only [Reps] at h
    obtain ⟨u, t, rfl, h1, h2⟩ := h
    exact Reps.cons h1 (Reps.set i r h2)
theorem Reps.reverse {K : PySem.W.Frag} {G : Hp} : ∀ {ds : List D} {vs : List V}, Reps K G ds vs → Reps K G ds.reverse vs.reverse
  | [], vs, h => by simp only [Reps] at h; subst h; exact Reps.nil
  | d :: ds, vs, h => by
    simp only [Reps] at h
    obtain ⟨v, r, rfl, h1, h2⟩ := h
    rw [List.reverse_cons, List.reverse_cons]
    exact Reps.append (Reps.reverse h2) (Reps.cons h1 Reps.nil)
theorem Reps.ints {K : PySem.W.Frag} {G : Hp} : ∀ {ns : List Int} {vs : List V}, Reps K G (ns.map D.int) vs → vs = ns.map V.int
  | [], vs, h => by simp only [List.map_nil, Reps] at h; exact h
  | n :: ns, vs, h => by
    simp only [List.map_cons, Reps, Rep] at h
    obtain ⟨v, r, rfl, rfl, h2⟩ := h
    rw [Reps.ints h2, List.map_cons]
theorem Reps.of_ints {K : PySem.W.Frag} {G : Hp} : ∀ (ns : List Int), Reps K G (ns.map D.int) (ns.map V.int)
  | [] => Reps.nil
  | n :: ns => Reps.cons (by simp only [Rep]) (Reps.of_ints ns)

/-! ### the names' values as data -/
/-- a name holds data, or a list of its own, which no other holds (io: one that was handed in and is handed back; such a name is never bound anew) -/
inductive Sl where
  | dat (d : D) | own (io : Bool) (ds : List D)
abbrev Rho := List (Option Sl)
def SlRep (K : PySem.W.Frag) (G H : Hp) : Option Sl → Option V → Prop
  | none, _ => True
  | some (.dat d), o => ∃ v, o = some v ∧ Rep K G d v
  | some (.own _ ds), o => ∃ a vs, o = some (.ref a) ∧ H a = some (.lst vs) ∧ G a = none ∧ Reps K G ds vs
def OwnAt (σ : L2.St) (ρ : Rho) (a : Addr) : Prop := ∃ (i : Nat) (io : Bool) (ds : List D), ρ[i]? = some (some (.own io ds)) ∧ σ[i]? = some (some (.ref a))
/-- .. one that was not handed in -/
def OwnN (σ : L2.St) (ρ : Rho) (a : Addr) : Prop := ∃ (i : Nat) (ds : List D), ρ[i]? = some (some (.own false ds)) ∧ σ[i]? = some (some (.ref a))
def isTb : HO → Bool | .tbl _ => true | _ => false
section
variable [Tabs]
/-- a table: as it was, or grown -/
def Grow (H H' : Hp) : Prop := ∀ a ps, H a = some (.tbl ps) → ∃ qs, H' a = some (.tbl qs) ∧ (TriplesOk ps.toList → TriplesOk qs.toList) ∧ ∀ q, (a, q) ∈ Tabs.L → LamX.TabS H a q → LamX.TabS H' a q
theorem codeO_lst {c : Addr} {q : Str} (us : List V) : LamX.CodeO c q ≠ .lst us := fun z => by
  unfold LamX.CodeO at z
  cases z
theorem tabS_to {H H' : Hp} {a : Addr} {q : Str} (t : LamX.TabS H a q) (e1 : ∀ ps, H a = some (.tbl ps) → H' a = some (.tbl ps)) (e2 : ∀ c, H c = some (LamX.CodeO c q) → H' c = some (LamX.CodeO c q)) : LamX.TabS H' a q := by
  obtain ⟨ps, h1, h2, h3⟩ := t
  refine ⟨ps, e1 ps h1, h2, fun pos cv hc => ?_⟩
  obtain ⟨c, e3, e4⟩ := h3 pos cv hc
  exact ⟨c, e3, e2 c e4⟩
theorem Grow.refl (H : Hp) : Grow H H := fun _ ps h => ⟨ps, h, id, fun _ _ z => z⟩
theorem Grow.trans {H H1 H2 : Hp} (a : Grow H H1) (b : Grow H1 H2) : Grow H H2 := fun x ps h => by
  obtain ⟨qs, h1, f, f'⟩ := a x ps h
  obtain ⟨rs, h2, g, g'⟩ := b x qs h1
  exact ⟨rs, h2, fun z => g (f z), fun q m z => g' q m (f' q m z)⟩
structure SR (K : PySem.W.Frag) (G H : Hp) (σ : L2.St) (ρ : Rho) : Prop where
  tab : ∀ P ∈ Tabs.T, (∃ ps, H P = some (.tbl ps) ∧ TriplesOk ps.toList) ∧ G P = none
  lam : ∀ p ∈ Tabs.L, LamX.TabS H p.1 p.2
  len : ρ.length = σ.length
  sub : Same G H
  slot : ∀ (i : Nat) (s : Option Sl) (o : Option V), ρ[i]? = some s → σ[i]? = some o → SlRep K G H s o
  inj : ∀ (i j : Nat) (io jo : Bool) (ds es : List D) (a : Addr), ρ[i]? = some (some (.own io ds)) → ρ[j]? = some (some (.own jo es)) → σ[i]? = some (some (.ref a)) → σ[j]? = some (some (.ref a)) → i = j
/-- a step: what is seen grows, what is not one's own is kept -/
structure Stp (σ : L2.St) (ρ : Rho) (G H : Hp) (σ' : L2.St) (ρ' : Rho) (G' H' : Hp) : Prop where
  sub : Same G G'
  new : ∀ a, H a ≠ none → ¬ OwnAt σ ρ a → G' a = G a
  keep : ∀ a o, H a = some o → ¬ OwnAt σ ρ a → isTb o = false → H' a = some o
  grow : Grow H H'
  dom : ∀ a, H a ≠ none → H' a ≠ none
  own : ∀ a, OwnAt σ' ρ' a → OwnAt σ ρ a ∨ H a = none
  ownN : ∀ a, OwnN σ' ρ' a → OwnN σ ρ a ∨ H a = none
  stay : ∀ (i : Nat) (ds : List D), ρ[i]? = some (some (.own true ds)) → σ'[i]? = σ[i]? ∧ ∃ es, ρ'[i]? = some (some (.own true es))
theorem Stp.refl (σ : L2.St) (ρ : Rho) (G H : Hp) : Stp σ ρ G H σ ρ G H := ⟨fun _ _ h => h, fun _ _ _ => rfl, fun _ _ h _ _ => h, Grow.refl _, fun _ h => h, fun _ h => .inl h, fun _ h => .inl h, fun _ ds h => ⟨rfl, ds, h⟩⟩
theorem Stp.trans {σ σ1 σ2 : L2.St} {ρ ρ1 ρ2 : Rho} {G H G1 H1 G2 H2 : Hp} (a : Stp σ ρ G H σ1 ρ1 G1 H1) (b : Stp σ1 ρ1 G1 H1 σ2 ρ2 G2 H2) : Stp σ ρ G H σ2 ρ2 G2 H2 where
  sub := fun x o h => b.sub x o (a.sub x o h)
  new := fun x h n => by
    rw [b.new x (a.dom x h) fun z => (a.own x z).elim n h, a.new x h n]
  keep := fun x o h n t => b.keep x o (a.keep x o h n t) (fun z => (a.own x z).elim n fun e => by rw [e] at h; cases h) t
  grow := a.grow.trans b.grow
  dom := fun x h => b.dom x (a.dom x h)
  own := fun x h => by
    rcases b.own x h with z | z
    · exact a.own x z
    · right
      cases q : H x with
      | none => rfl
      | some o => exact absurd z (a.dom x (by rw [q]; exact fun z => by cases z))
  ownN := fun x h => by
    rcases b.ownN x h with z | z
    · exact a.ownN x z
    · right
      cases q : H x with
      | none => rfl
      | some o => exact absurd z (a.dom x (by rw [q]; exact fun z => by cases z))
  stay := fun i ds h => by
    obtain ⟨e1, es, h1⟩ := a.stay i ds h
    obtain ⟨e2, fs, h2⟩ := b.stay i es h1
    exact ⟨e2.trans e1, fs, h2⟩
/-- a step that changes nothing that stood -/
structure PStp (G H G' H' : Hp) : Prop where
  sub : Same G G'
  new : ∀ a, H a ≠ none → G' a = G a
  keep : ∀ a o, H a = some o → isTb o = false → H' a = some o
  grow : Grow H H'
  le : Same G' H'
theorem PStp.refl {G H : Hp} (h : Same G H) : PStp G H G H := ⟨fun _ _ h => h, fun _ _ => rfl, fun _ _ h _ => h, Grow.refl _, h⟩
theorem PStp.dom {G H G' H' : Hp} (h : PStp G H G' H') {a : Addr} (n : H a ≠ none) : H' a ≠ none := by
  cases q : H a with
  | none => exact absurd q n
  | some o =>
    cases t : isTb o with
    | false => rw [h.keep a o q t]; exact fun z => by cases z
    | true =>
      cases o with
      | tbl ps => obtain ⟨qs, e, _⟩ := h.grow a ps q; rw [e]; exact fun z => by cases z
      | _ => cases t
theorem PStp.trans {G H G1 H1 G2 H2 : Hp} (a : PStp G H G1 H1) (b : PStp G1 H1 G2 H2) : PStp G H G2 H2 where
  sub := fun x o h => b.sub x o (a.sub x o h)
  new := fun x h => by rw [b.new x (a.dom h), a.new x h]
  keep := fun x o h t => b.keep x o (a.keep x o h t) t
  grow := a.grow.trans b.grow
  le := b.le
theorem same_upd {H : Hp} {p : Addr} {o : HO} (h : H p = none) : Same H (upd H p o) := fun b x e => by
  rw [upd_ne (ne_of_none e h)]; exact e
/-- a new object, seen -/
theorem PStp.laid {G H : Hp} {p : Addr} {o : HO} (h : Same G H) (n : H p = none) : PStp G H (upd G p o) (upd H p o) where
  sub := same_upd (h.free n)
  new := fun a ha => upd_ne fun e => ha (by rw [e]; exact n)
  keep := fun a x e _ => same_upd n a x e
  grow := fun a ps e => ⟨ps, same_upd n a _ e, id, fun q _ z => z.ext fun b x e => same_upd n b x e⟩
  le := fun a x e => by
    by_cases z : a = p
    · subst z; rw [upd_same] at e ⊢; exact e
    · rw [upd_ne z] at e ⊢; exact h a x e
theorem PStp.stp {σ : L2.St} {ρ : Rho} {G H G' H' : Hp} (h : PStp G H G' H') : Stp σ ρ G H σ ρ G' H' where
  sub := h.sub
  new := fun a ha _ => h.new a ha
  keep := fun a o e _ t => h.keep a o e t
  grow := h.grow
  dom := fun a ha => h.dom ha
  own := fun _ z => .inl z
  ownN := fun _ z => .inl z
  stay := fun _ ds h => ⟨rfl, ds, h⟩
theorem SlRep.pure {K : PySem.W.Frag} {G H G' H' : Hp} (h : PStp G H G' H') {s : Option Sl} {o : Option V} (r : SlRep K G H s o) : SlRep K G' H' s o := by
  match s, r with
  | none, _ => trivial
  | some (.dat d), ⟨v, e, r⟩ => exact ⟨v, e, Rep.mono h.sub _ _ r⟩
  | some (.own _ ds), ⟨a, vs, e, e2, e3, r⟩ => exact ⟨a, vs, e, h.keep _ _ e2 rfl, (h.new a (by rw [e2]; exact fun z => by cases z)).trans e3, Reps.mono h.sub _ _ r⟩
end
/-! ### values made plain: the same, for the evaluation's sake -/
def frcI {α : Type} (i : Int) (k : Int → α) : α := match i with
  | .ofNat 0 => k (.ofNat 0)
  | .ofNat (n + 1) => k (.ofNat (n + 1))
  | .negSucc 0 => k (.negSucc 0)
  | .negSucc (n + 1) => k (.negSucc (n + 1))
theorem frcI_eq {α : Type} (i : Int) (k : Int → α) : frcI i k = k i := by
  rcases i with (_ | n) | (_ | n) <;> rfl
mutual
def frc {α : Type} : D → (D → α) → α
  | .int i, k => frcI i fun j => k (.int j)
  | .bl b, k => (match b with | true => k (.bl true) | false => k (.bl false))
  | .tup ds, k => frcM ds fun es => k (.tup es)
  | .lst ds, k => frcM ds fun es => k (.lst es)
  | .dic ks ds, k => frcM ks fun es => frcM ds fun fs => k (.dic es fs)
  | .ins c ds, k => frcM ds fun es => k (.ins c es)
  | d, k => k d
def frcM {α : Type} : List D → (List D → α) → α
  | [], k => k []
  | d :: ds, k => frc d fun e => frcM ds fun es => k (e :: es)
end
mutual
theorem frc_eq {α : Type} : ∀ (d : D) (k : D → α), frc d k = k d
  | .int i, k => by simp only [frc, frcI_eq]
  | .bl b, k => by cases b <;> simp only [frc]
  | .tup ds, k => by simp only [frc]; exact frcM_eq ds _
  | .lst ds, k => by simp only [frc]; exact frcM_eq ds _
  | .non, k => by simp only [frc]
  | .str _, k => by simp only [frc]
  | .scr _, k => by simp only [frc]
  | .con _, k => by simp only [frc]
  | .dic ks ds, k => by simp only [frc]; rw [frcM_eq ks, frcM_eq ds]
  | .ins c ds, k => by simp only [frc]; exact frcM_eq ds _
theorem frcM_eq {α : Type} : ∀ (ds : List D) (k : List D → α), frcM ds k = k ds
  | [], k => by simp only [frcM]
  | d :: ds, k => by simp only [frcM]; rw [frc_eq d, frcM_eq ds]
end
/-- a list's spine -/
def frcL {α β : Type} : List β → (List β → α) → α
  | [], k => k []
  | d :: ds, k => frcL ds fun es => k (d :: es)
theorem frcL_eq {α β : Type} : ∀ (ds : List β) (k : List β → α), frcL ds k = k ds
  | [], k => rfl
  | d :: ds, k => by unfold frcL; rw [frcL_eq ds]
def frcS {α : Type} : Sl → (Sl → α) → α
  | .dat d, k => k (.dat d)
  | .own io ds, k => frcL ds fun es => k (.own io es)
theorem frcS_eq {α : Type} : ∀ (s : Sl) (k : Sl → α), frcS s k = k s
  | .dat d, k => rfl
  | .own io ds, k => frcL_eq ds (fun es => k (.own io es))
/-- .. to the ground -/
def frcT {α : Type} : Sl → (Sl → α) → α
  | .dat d, k => frc d fun e => k (.dat e)
  | .own io ds, k => frcM ds fun es => k (.own io es)
theorem frcT_eq {α : Type} : ∀ (s : Sl) (k : Sl → α), frcT s k = k s
  | .dat d, k => frc_eq d (fun e => k (.dat e))
  | .own io ds, k => frcM_eq ds (fun es => k (.own io es))
def frcA {α : Type} : List Sl → (List Sl → α) → α
  | [], k => k []
  | s :: r, k => frcT s fun t => frcA r fun r' => k (t :: r')
theorem frcA_eq {α : Type} : ∀ (s : List Sl) (k : List Sl → α), frcA s k = k s
  | [], k => rfl
  | s :: r, k => by unfold frcA; rw [frcT_eq, frcA_eq r]
def nrmR {α : Type} : Rho → (Rho → α) → α
  | [], k => k []
  | none :: r, k => nrmR r fun r' => k (none :: r')
  | some s :: r, k => frcS s fun t => nrmR r fun r' => k (some t :: r')
theorem nrmR_eq {α : Type} : ∀ (ρ : Rho) (k : Rho → α), nrmR ρ k = k ρ
  | [], k => rfl
  | none :: r, k => by unfold nrmR; rw [nrmR_eq r]
  | some s :: r, k => by unfold nrmR; rw [frcS_eq, nrmR_eq r]

variable [Tabs]
theorem SR.tabs' {K : PySem.W.Frag} {G H G' H' : Hp} {σ : L2.St} {ρ : Rho} (I : SR K G H σ ρ) (g : Grow H H') (n : ∀ P, H P ≠ none → (∃ ps, H P = some (.tbl ps)) → G' P = G P) : ∀ P ∈ Tabs.T, (∃ ps, H' P = some (.tbl ps) ∧ TriplesOk ps.toList) ∧ G' P = none := fun P hP => by
  obtain ⟨⟨ps, e, t⟩, e2⟩ := I.tab P hP
  obtain ⟨qs, e3, f, _⟩ := g P ps e
  exact ⟨⟨qs, e3, f t⟩, (n P (by rw [e]; exact fun z => by cases z) ⟨ps, e⟩).trans e2⟩
theorem SR.lam' {K : PySem.W.Frag} {G H H' : Hp} {σ : L2.St} {ρ : Rho} (I : SR K G H σ ρ) (g : Grow H H') : ∀ p ∈ Tabs.L, LamX.TabS H' p.1 p.2 := fun p hp => by
  have z := I.lam p hp
  obtain ⟨ps, e, _⟩ := id z
  obtain ⟨_, _, _, f⟩ := g p.1 ps e
  exact f p.2 hp z
theorem SR.pure {K : PySem.W.Frag} {G H G' H' : Hp} {σ : L2.St} {ρ : Rho} (I : SR K G H σ ρ) (h : PStp G H G' H') : SR K G' H' σ ρ :=
  ⟨I.tabs' h.grow fun P z _ => h.new P z, I.lam' h.grow, I.len, h.le, fun i s o e1 e2 => SlRep.pure h (I.slot i s o e1 e2), I.inj⟩

/-! ### what code computes -/
/-- an exception: its class's name, what it keeps -/
inductive Exn where
  | mk (cls : Str) (arg : Option D)
inductive Rz (α : Type) where
  | ok (a : α) | ex (x : Exn) (ρ : Rho) | no
def Rz.bind {α β : Type} (m : Rz α) (k : α → Rz β) : Rz β := match m with | .ok a => k a | .ex x ρ => .ex x ρ | .no => .no
abbrev FE := Rho → Rz (D × Rho)
abbrev FA := Rho → Rz (List D × Rho)
abbrev FT := Rho → Rz (Bool × Rho)
def ofO (o : Option D) (ρ : Rho) : Rz (D × Rho) := match o with | some d => frc d fun d => .ok (d, ρ) | none => .no
/-- the wish about exceptions -/
abbrev WD (K : PySem.W.Frag) := Exn → Rho → L2.St → Hp → Hp → WX
/-- an expression's reading -/
def rd (K : PySem.W.Frag) (f : FE) : TE := fun σ H Q => ∃ ρ G, SR K G H σ ρ ∧ match f ρ with
  | .ok (d, ρ') => ∀ v H' G', Stp σ ρ G H σ ρ' G' H' → SR K G' H' σ ρ' → Rep K G' d v → Q v H'
  | .ex _ _ => False
  | .no => False
def rdA (K : PySem.W.Frag) (f : FA) : TA := fun σ H Q => ∃ ρ G, SR K G H σ ρ ∧ match f ρ with
  | .ok (ds, ρ') => ∀ vs H' G', Stp σ ρ G H σ ρ' G' H' → SR K G' H' σ ρ' → Reps K G' ds vs → Q vs H'
  | .ex _ _ => False
  | .no => False
def rdT (K : PySem.W.Frag) (f : FT) : TT := fun σ H Q => ∃ ρ G, SR K G H σ ρ ∧ match f ρ with
  | .ok (b, ρ') => ∀ H' G', Stp σ ρ G H σ ρ' G' H' → SR K G' H' σ ρ' → Q b H'
  | .ex _ _ => False
  | .no => False
end M

namespace M
open PySem PySem.Spec L2
variable [Tabs]

/-! ### readings, step by step -/
def rdK (K : PySem.W.Frag) (f : FE) (σ : L2.St) (ρ : Rho) (G H : Hp) (Q : VK) : Prop := match f ρ with
  | .ok (d, ρ') => ∀ v H' G', Stp σ ρ G H σ ρ' G' H' → SR K G' H' σ ρ' → Rep K G' d v → Q v H'
  | .ex _ _ => False
  | .no => False
def rdAK (K : PySem.W.Frag) (f : FA) (σ : L2.St) (ρ : Rho) (G H : Hp) (Q : List V → Hp → Prop) : Prop := match f ρ with
  | .ok (ds, ρ') => ∀ vs H' G', Stp σ ρ G H σ ρ' G' H' → SR K G' H' σ ρ' → Reps K G' ds vs → Q vs H'
  | .ex _ _ => False
  | .no => False
def rdTK (K : PySem.W.Frag) (f : FT) (σ : L2.St) (ρ : Rho) (G H : Hp) (Q : Bool → Hp → Prop) : Prop := match f ρ with
  | .ok (b, ρ') => ∀ H' G', Stp σ ρ G H σ ρ' G' H' → SR K G' H' σ ρ' → Q b H'
  | .ex _ _ => False
  | .no => False
def bnd (fa : FE) (k : D → FE) : FE := fun ρ => (fa ρ).bind fun p => k p.1 p.2
def bndA (fa : FA) (k : List D → FE) : FE := fun ρ => (fa ρ).bind fun p => k p.1 p.2
def bndT (fa : FT) (k : Bool → FE) : FE := fun ρ => (fa ρ).bind fun p => k p.1 p.2
def bnd_T (fa : FE) (k : D → FT) : FT := fun ρ => (fa ρ).bind fun p => k p.1 p.2
def bndT_T (fa : FT) (k : Bool → FT) : FT := fun ρ => (fa ρ).bind fun p => k p.1 p.2

section
variable {K : PySem.W.Frag} {σ : L2.St} {ρ : Rho} {G H : Hp}
theorem rdK_mono {f : FE} {Q Q' : VK} (h : rdK K f σ ρ G H Q) (hq : ∀ v H', Q v H' → Q' v H') : rdK K f σ ρ G H Q' := by
  unfold rdK at h ⊢
  split <;> rename_i e <;> rw [e] at h
  · exact fun v H' G' a b c => hq _ _ (h v H' G' a b c)
  · exact h
  · exact h
theorem rdAK_mono {f : FA} {Q Q' : List V → Hp → Prop} (h : rdAK K f σ ρ G H Q) (hq : ∀ v H', Q v H' → Q' v H') : rdAK K f σ ρ G H Q' := by
  unfold rdAK at h ⊢
  split <;> rename_i e <;> rw [e] at h
  · exact fun v H' G' a b c => hq _ _ (h v H' G' a b c)
  · exact h
  · exact h
theorem rdTK_mono {f : FT} {Q Q' : Bool → Hp → Prop} (h : rdTK K f σ ρ G H Q) (hq : ∀ v H', Q v H' → Q' v H') : rdTK K f σ ρ G H Q' := by
  unfold rdTK at h ⊢
  split <;> rename_i e <;> rw [e] at h
  · exact fun H' G' a b => hq _ _ (h H' G' a b)
  · exact h
  · exact h
theorem rdK_bnd {fa : FE} {k : D → FE} {Q : VK} (h : rdK K (bnd fa k) σ ρ G H Q) :
    rdK K fa σ ρ G H fun v H1 => ∃ d ρ1 G1, Stp σ ρ G H σ ρ1 G1 H1 ∧ SR K G1 H1 σ ρ1 ∧ Rep K G1 d v ∧ rdK K (k d) σ ρ1 G1 H1 Q := by
  unfold rdK at h ⊢
  unfold bnd at h
  cases e : fa ρ with
  | ok p =>
    obtain ⟨d, ρ1⟩ := p
    rw [e] at h
    dsimp only [Rz.bind] at h ⊢
    intro v H1 G1 a b c
    refine ⟨d, ρ1, G1, a, b, c, ?_⟩
    cases e2 : k d ρ1 with
    | ok p2 =>
      obtain ⟨d2, ρ2⟩ := p2
      rw [e2] at h
      dsimp only at h ⊢
      exact fun u H2 G2 a2 b2 c2 => h u H2 G2 (a.trans a2) b2 c2
    | ex _ _ => rw [e2] at h; exact h
    | no => rw [e2] at h; exact h
  | ex _ _ => rw [e] at h; exact h
  | no => rw [e] at h; exact h
theorem rdK_bndT {fa : FT} {k : Bool → FE} {Q : VK} (h : rdK K (bndT fa k) σ ρ G H Q) :
    rdTK K fa σ ρ G H fun b H1 => ∃ ρ1 G1, Stp σ ρ G H σ ρ1 G1 H1 ∧ SR K G1 H1 σ ρ1 ∧ rdK K (k b) σ ρ1 G1 H1 Q := by
  unfold rdK at h
  unfold rdTK
  unfold bndT at h
  cases e : fa ρ with
  | ok p =>
    obtain ⟨d, ρ1⟩ := p
    rw [e] at h
    dsimp only [Rz.bind] at h ⊢
    intro H1 G1 a b
    refine ⟨ρ1, G1, a, b, ?_⟩
    unfold rdK
    cases e2 : k d ρ1 with
    | ok p2 =>
      obtain ⟨d2, ρ2⟩ := p2
      rw [e2] at h
      dsimp only at h ⊢
      exact fun u H2 G2 a2 b2 c2 => h u H2 G2 (a.trans a2) b2 c2
    | ex _ _ => rw [e2] at h; exact h
    | no => rw [e2] at h; exact h
  | ex _ _ => rw [e] at h; exact h
  | no => rw [e] at h; exact h
theorem rdK_bndA {fa : FA} {k : List D → FE} {Q : VK} (h : rdK K (bndA fa k) σ ρ G H Q) :
    rdAK K fa σ ρ G H fun vs H1 => ∃ ds ρ1 G1, Stp σ ρ G H σ ρ1 G1 H1 ∧ SR K G1 H1 σ ρ1 ∧ Reps K G1 ds vs ∧ rdK K (k ds) σ ρ1 G1 H1 Q := by
  unfold rdK at h
  unfold rdAK
  unfold bndA at h
  cases e : fa ρ with
  | ok p =>
    obtain ⟨d, ρ1⟩ := p
    rw [e] at h
    dsimp only [Rz.bind] at h ⊢
    intro vs H1 G1 a b c
    refine ⟨d, ρ1, G1, a, b, c, ?_⟩
    unfold rdK
    cases e2 : k d ρ1 with
    | ok p2 =>
      obtain ⟨d2, ρ2⟩ := p2
      rw [e2] at h
      dsimp only at h ⊢
      exact fun u H2 G2 a2 b2 c2 => h u H2 G2 (a.trans a2) b2 c2
    | ex _ _ => rw [e2] at h; exact h
    | no => rw [e2] at h; exact h
  | ex _ _ => rw [e] at h; exact h
  | no => rw [e] at h; exact h
theorem rdTK_bnd {fa : FE} {k : D → FT} {Q : Bool → Hp → Prop} (h : rdTK K (bnd_T fa k) σ ρ G H Q) :
    rdK K fa σ ρ G H fun v H1 => ∃ d ρ1 G1, Stp σ ρ G H σ ρ1 G1 H1 ∧ SR K G1 H1 σ ρ1 ∧ Rep K G1 d v ∧ rdTK K (k d) σ ρ1 G1 H1 Q := by
  unfold rdTK at h
  unfold rdK
  unfold bnd_T at h
  cases e : fa ρ with
  | ok p =>
    obtain ⟨d, ρ1⟩ := p
    rw [e] at h
    dsimp only [Rz.bind] at h ⊢
    intro v H1 G1 a b c
    refine ⟨d, ρ1, G1, a, b, c, ?_⟩
    unfold rdTK
    cases e2 : k d ρ1 with
    | ok p2 =>
      obtain ⟨d2, ρ2⟩ := p2
      rw [e2] at h
      dsimp only at h ⊢
      exact fun H2 G2 a2 b2 => h H2 G2 (a.trans a2) b2
    | ex _ _ => rw [e2] at h; exact h
    | no => rw [e2] at h; exact h
  | ex _ _ => rw [e] at h; exact h
  | no => rw [e] at h; exact h
theorem rdTK_bndT {fa : FT} {k : Bool → FT} {Q : Bool → Hp → Prop} (h : rdTK K (bndT_T fa k) σ ρ G H Q) :
    rdTK K fa σ ρ G H fun b H1 => ∃ ρ1 G1, Stp σ ρ G H σ ρ1 G1 H1 ∧ SR K G1 H1 σ ρ1 ∧ rdTK K (k b) σ ρ1 G1 H1 Q := by
  unfold rdTK at h
  unfold rdTK
  unfold bndT_T at h
  cases e : fa ρ with
  | ok p =>
    obtain ⟨d, ρ1⟩ := p
    rw [e] at h
    dsimp only [Rz.bind] at h ⊢
    intro H1 G1 a b
    refine ⟨ρ1, G1, a, b, ?_⟩
    cases e2 : k d ρ1 with
    | ok p2 =>
      obtain ⟨d2, ρ2⟩ := p2
      rw [e2] at h
      dsimp only at h ⊢
      exact fun H2 G2 a2 b2 => h H2 G2 (a.trans a2) b2
    | ex _ _ => rw [e2] at h; exact h
    | no => rw [e2] at h; exact h
  | ex _ _ => rw [e] at h; exact h
  | no => rw [e] at h; exact h
theorem rd_of {f : FE} {Q : VK} (I : SR K G H σ ρ) (h : rdK K f σ ρ G H Q) : rd K f σ H Q := ⟨ρ, G, I, h⟩
theorem rdA_of {f : FA} {Q : List V → Hp → Prop} (I : SR K G H σ ρ) (h : rdAK K f σ ρ G H Q) : rdA K f σ H Q := ⟨ρ, G, I, h⟩
theorem rdT_of {f : FT} {Q : Bool → Hp → Prop} (I : SR K G H σ ρ) (h : rdTK K f σ ρ G H Q) : rdT K f σ H Q := ⟨ρ, G, I, h⟩
/-- an operation's end -/
theorem rdK_ofO {o : Option D} {Q : VK} (h : rdK K (fun ρ => ofO o ρ) σ ρ G H Q) (I : SR K G H σ ρ) :
    ∃ d, o = some d ∧ ∀ v H' G', PStp G H G' H' → Rep K G' d v → Q v H' := by
  unfold rdK ofO at h
  cases o with
  | none => exact False.elim h
  | some d =>
    dsimp only at h
    rw [frc_eq] at h
    exact ⟨d, rfl, fun v H' G' p r => h v H' G' p.stp (I.pure p) r⟩
end

section
variable {X : Cx}
theorem pe_imp {e : Expr} {t t' : TE} (h : PE X e t) (hi : ∀ σ H Q, t' σ H Q → t σ H Q) : PE X e t' := ⟨fun pins s σ H Q I q => h.run pins s σ H Q I (hi σ H Q q)⟩
theorem pt_imp {e : Expr} {t t' : TT} (h : PT X e t) (hi : ∀ σ H Q, t' σ H Q → t σ H Q) : PT X e t' := ⟨fun pins s σ H Q I q => h.run pins s σ H Q I (hi σ H Q q)⟩
theorem pw_imp {e : Expr} {t t' : TT} (h : PW X e t) (hi : ∀ σ H Q, t' σ H Q → t σ H Q) : PW X e t' := ⟨fun wh pins s σ H Q I q => h.run wh pins s σ H Q I (hi σ H Q q)⟩
theorem pa_imp {e : List Expr} {t t' : TA} (h : PA X e t) (hi : ∀ σ H Q, t' σ H Q → t σ H Q) : PA X e t' := ⟨fun pos pins s σ H Q I q => h.run pos pins s σ H Q I (hi σ H Q q)⟩
theorem ps_imp {e : Stmt} {t t' : TS} (h : PS X e t) (hi : ∀ D σ H, t' D σ H → t D σ H) : PS X e t' := ⟨fun pins s σ H D I q => h.run pins s σ H D I (hi D σ H q)⟩
theorem pss_imp {e : List Stmt} {t t' : TS} (h : PSs X e t) (hi : ∀ D σ H, t' D σ H → t D σ H) : PSs X e t' := ⟨fun pins s σ H D I q => h.run pins s σ H D I (hi D σ H q)⟩
end

/-! ### expressions -/
def eV (i : Nat) : FE := fun ρ => match ρ[i]? with | some (some (.dat d)) => .ok (d, ρ) | _ => .no
def eC (d : D) : FE := fun ρ => .ok (d, ρ)
def e1 (op : D → Option D) (fa : FE) : FE := bnd fa fun x => fun ρ => ofO (op x) ρ
def e2 (op : D → D → Option D) (fa fb : FE) : FE := bnd fa fun x => bnd fb fun y => fun ρ => ofO (op x y) ρ
/-- what an operator's rule asks is met by its function over data -/
def OpD (K : PySem.W.Frag) (r : R2) (op : D → D → Option D) : Prop := ∀ (G H : Hp) (d1 d2 d : D) (v1 v2 : V) (Q : VK), Same G H → Rep K G d1 v1 → Rep K G d2 v2 → op d1 d2 = some d → (∀ v H' G', PStp G H G' H' → Rep K G' d v → Q v H') → r v1 v2 H Q
def UnD (K : PySem.W.Frag) (r : V → Hp → VK → Prop) (op : D → Option D) : Prop := ∀ (G H : Hp) (d1 d : D) (v1 : V) (Q : VK), Same G H → Rep K G d1 v1 → op d1 = some d → (∀ v H' G', PStp G H G' H' → Rep K G' d v → Q v H') → r v1 H Q
def CallD (K : PySem.W.Frag) (r : List V → Hp → VK → Prop) (op : List D → Option D) : Prop := ∀ (G H : Hp) (ds : List D) (d : D) (vs : List V) (Q : VK), Same G H → Reps K G ds vs → op ds = some d → (∀ v H' G', PStp G H G' H' → Rep K G' d v → Q v H') → r vs H Q
section
variable {X : Cx} {a b c : Expr} {fa fb fc : FE} {pos : Pos}
theorem de_var (i : Nat) {x : Str} {pos : Pos} (hN : X.N[i]? = some x := by rfl) (hv : Vis X.env.scope x := by first | exact Or.inl rfl | exact Or.inr (Or.inl rfl) | exact Or.inr (Or.inr rfl)) (hd : (x == ("__debug__" : Str)) = false := by decide)
    (hcd : (x == ("__classdict__" : Str)) = false := by decide) : PE X (.Name x pos) (rd X.K (eV i)) := by
  refine pe_imp (pe_var (i := i) hN hv hd hcd) fun σ H Q ⟨ρ, G, I, h⟩ => ?_
  unfold eV at h
  split at h <;> rename_i e
  · split at e <;> rename_i e3
    · cases e
      have hl : i < σ.length := by
        rw [← I.len]
        exact (List.getElem?_eq_some_iff.mp e3).1
      obtain ⟨v, e2, r⟩ := I.slot i _ _ e3 (List.getElem?_eq_getElem hl)
      exact ⟨v, by rw [List.getElem?_eq_getElem hl, e2], h v H G (Stp.refl _ _ _ _) I r⟩
    · cases e
  · exact h.elim
  · exact h.elim
theorem rd_con {d : D} {v : V} (hr : ∀ G, Rep X.K G d v) (σ : L2.St) (H : Hp) (Q : VK) (h : rd X.K (eC d) σ H Q) : Q v H := by
  obtain ⟨ρ, G, I, h⟩ := h
  exact h v H G (Stp.refl _ _ _ _) I (hr G)
theorem de_int {i j pos} : PE X (.Constant (.int i) j pos) (rd X.K (eC (.int i))) := pe_imp pe_int (rd_con fun G => by simp only [Rep])
theorem de_bl {i j pos} : PE X (.Constant (.bool i) j pos) (rd X.K (eC (.bl i))) := pe_imp pe_bl (rd_con fun G => by simp only [Rep])
theorem de_non {j pos} : PE X (.Constant .none j pos) (rd X.K (eC .non)) := pe_imp pe_non (rd_con fun G => by simp only [Rep])
theorem de_str {i j pos} : PE X (.Constant (.str i) j pos) (rd X.K (eC (.str i))) := pe_imp pe_str (rd_con fun G => by simp only [Rep])
/-- a module's constant -/
theorem de_glob {x : Str} {d : D} {v : V} {u : Value} {pos : Pos} (hg : Gl X x) (hm : X.mg x = some u) (r : RelV v u) (hr : ∀ G, Rep X.K G d v) (hd : (x == ("__debug__" : Str)) = false := by decide) : PE X (.Name x pos) (rd X.K (eC d)) :=
  pe_imp (pe_glob hg hm r hd) (rd_con hr)
/-- a built-in's name as a value -/
theorem de_bltn {x : Str} {v : V} {u : Value} {pos : Pos} (hg : Gl X x) (hm : X.mg x = none) (hv : bootBuiltins x = some u) (r : RelV v u) (hn : x ≠ "__name__" := by decide) (hd : (x == ("__debug__" : Str)) = false := by decide) : PE X (.Name x pos) (rd X.K (eC (.con v))) :=
  pe_imp (pe_bltn hg hm hv r hn hd) (rd_con fun G => by simp only [Rep])

theorem rd_2 {op : D → D → Option D} {r : R2} (hd : OpD X.K r op) (σ : L2.St) (H : Hp) (Q : VK) (h : rd X.K (e2 op fa fb) σ H Q) : tOp r (rd X.K fa) (rd X.K fb) σ H Q := by
  obtain ⟨ρ, G, I, h⟩ := h
  refine rd_of I (rdK_mono (rdK_bnd h) fun v H1 ⟨d1, ρ1, G1, s1, I1, r1, h1⟩ => ?_)
  refine rd_of I1 (rdK_mono (rdK_bnd h1) fun u H2 ⟨d2, ρ2, G2, s2, I2, r2, h2⟩ => ?_)
  obtain ⟨d, e, q⟩ := rdK_ofO h2 I2
  exact hd G2 H2 d1 d2 d v u Q I2.sub (Rep.mono s2.sub _ _ r1) r2 e q
theorem rd_1 {op : D → Option D} {r : V → Hp → VK → Prop} (hd : UnD X.K r op) (σ : L2.St) (H : Hp) (Q : VK) (h : rd X.K (e1 op fa) σ H Q) : tUn r (rd X.K fa) σ H Q := by
  obtain ⟨ρ, G, I, h⟩ := h
  refine rd_of I (rdK_mono (rdK_bnd h) fun v H1 ⟨d1, ρ1, G1, s1, I1, r1, h1⟩ => ?_)
  obtain ⟨d, e, q⟩ := rdK_ofO h1 I1
  exact hd G1 H1 d1 d v Q I1.sub r1 e q
theorem de_op {o : Operator} {op : D → D → Option D} {r : R2} (ho : OpR X (binaryOp o) r) (hd : OpD X.K r op) (ha : PE X a (rd X.K fa)) (hb : PE X b (rd X.K fb)) : PE X (.BinOp a o b pos) (rd X.K (e2 op fa fb)) := pe_imp (pe_op ho ha hb) (rd_2 hd)
theorem de_un {o : UnaryOp} {op : D → Option D} {r : V → Hp → VK → Prop} (ho : UnR X (unaryOp o) r) (hd : UnD X.K r op) (ha : PE X a (rd X.K fa)) : PE X (.UnaryOp o a pos) (rd X.K (e1 op fa)) := pe_imp (pe_un ho ha) (rd_1 hd)
theorem de_cmp {o : CmpOp} {op : D → D → Option D} {r : R2} (ho : OpR X (compareOp o) r) (hd : OpD X.K r op) (ha : PE X a (rd X.K fa)) (hb : PE X b (rd X.K fb)) (hm : behindInMarks o b = false) : PE X (.Compare a [o] [b] pos) (rd X.K (e2 op fa fb)) :=
  pe_imp (pe_cmpR ho ha hb hm) (rd_2 hd)

/-! tests -/
/-- a value that is a truth -/
def tB (f : FE) : FT := bnd_T f fun d => fun ρ => match d with | .bl b => .ok (b, ρ) | _ => .no
theorem rd_B {f : FE} (σ : L2.St) (H : Hp) (Q : Bool → Hp → Prop) (h : rdT X.K (M.tB f) σ H Q) : rd X.K f σ H fun x H1 => ∃ c, x = .bl c ∧ Q c H1 := by
  obtain ⟨ρ, G, I, h⟩ := h
  refine rd_of I (rdK_mono (rdTK_bnd h) fun v H1 ⟨d1, ρ1, G1, s1, I1, r1, h1⟩ => ?_)
  unfold rdTK at h1
  cases d1 with
  | bl b =>
    simp only [Rep] at r1
    subst r1
    exact ⟨b, rfl, h1 H1 G1 (Stp.refl _ _ _ _) I1⟩
  | _ => exact h1.elim
theorem dt_cmp {o : CmpOp} {op : D → D → Option D} {r : R2} (ho : OpR X (compareOp o) r) (hd : OpD X.K r op) (ha : PE X a (rd X.K fa)) (hb : PE X b (rd X.K fb)) (hm : behindInMarks o b = false) : PT X (.Compare a [o] [b] pos) (rdT X.K (M.tB (e2 op fa fb))) :=
  pt_imp (pt_cmpR ho ha hb hm) fun σ H Q h => rd_2 hd _ _ _ (rd_B _ _ _ h)
/-- a value's truth -/
def trD : D → Option Bool
  | .non => some false
  | .bl b => some b
  | .int i => some (i != 0)
  | .str x => if x.length ≤ sizeLine then some ((x.length : Int) != 0) else none
  | .tup ds => some (!ds.isEmpty)
  | .lst ds => some (!ds.isEmpty)
  | .scr _ => none
  | .con _ => none
  | .dic _ _ => none
  | .ins _ _ => none
def tTr (f : FE) : FT := bnd_T f fun d => fun ρ => match trD d with | some b => .ok (b, ρ) | none => .no
theorem isEmpty_reps {K : PySem.W.Frag} {G : Hp} {ds : List D} {vs : List V} (r : Reps K G ds vs) : vs.isEmpty = ds.isEmpty := by
  have h := r.length
  cases ds <;> cases vs <;> simp_all
theorem truV_of {K : PySem.W.Frag} {G H : Hp} {d : D} {v : V} {b : Bool} (s : Same G H) (r : Rep K G d v) (e : trD d = some b) : TruV K v H b := by
  cases d with
  | non => simp only [Rep] at r; subst r; cases e; rfl
  | bl b => simp only [Rep] at r; subst r; cases e; rfl
  | int i => simp only [Rep] at r; subst r; cases e; rfl
  | str x =>
    simp only [Rep] at r; subst r
    simp only [trD] at e
    split at e
    · cases e; rename_i h; exact ⟨h, rfl⟩
    · cases e
  | tup ds =>
    simp only [Rep] at r
    obtain ⟨a, vs, rfl, q, r⟩ := r
    cases e
    exact .inr (.inl ⟨vs, SqT.mono s q, by rw [isEmpty_reps r]⟩)
  | lst ds =>
    simp only [Rep] at r
    obtain ⟨a, vs, rfl, q, r⟩ := r
    cases e
    exact .inl ⟨vs, SqL.of (s _ _ q), by rw [isEmpty_reps r]⟩
  | scr _ => cases e
  | con _ => cases e
  | dic _ _ => cases e
  | ins _ _ => cases e
theorem rd_Tr {f : FE} (σ : L2.St) (H : Hp) (Q : Bool → Hp → Prop) (h : rdT X.K (tTr f) σ H Q) : rd X.K f σ H fun x H1 => ∃ k, TruV X.K x H1 k ∧ Q k H1 := by
  obtain ⟨ρ, G, I, h⟩ := h
  refine rd_of I (rdK_mono (rdTK_bnd h) fun v H1 ⟨d1, ρ1, G1, s1, I1, r1, h1⟩ => ?_)
  unfold rdTK at h1
  cases e : trD d1 with
  | none => rw [e] at h1; exact h1.elim
  | some b =>
    rw [e] at h1
    exact ⟨b, truV_of I1.sub r1 e, h1 H1 G1 (Stp.refl _ _ _ _) I1⟩
theorem dt_truth (ha : PE X a (rd X.K fa)) (he : ∀ whole, isTrue a X.env whole = (do let v ← whole; standAt a.pos; holding [v] (truthy v)) := by intro _; rfl) : PT X a (rdT X.K (tTr fa)) :=
  pt_imp (pt_truth ha he) rd_Tr
def tAndD (a b : FT) : FT := bndT_T a fun x => if x = true then b else fun ρ => .ok (false, ρ)
def tOrD (a b : FT) : FT := bndT_T a fun x => if x = true then fun ρ => .ok (true, ρ) else b
def tNotD (a : FT) : FT := bndT_T a fun x => fun ρ => .ok (!x, ρ)
variable {ta tb : FT} {rest : List Expr}
theorem dt_not (ha : PT X a (rdT X.K ta)) : PT X (.UnaryOp .Not a pos) (rdT X.K (tNotD ta)) := by
  refine pt_imp (pt_not ha) fun σ H Q ⟨ρ, G, I, h⟩ => ?_
  refine rdT_of I (rdTK_mono (rdTK_bndT h) fun b H1 ⟨ρ1, G1, s1, I1, h1⟩ => ?_)
  exact h1 H1 G1 (Stp.refl _ _ _ _) I1
theorem dw_and1 (ha : PT X a (rdT X.K ta)) : PW X (.BoolOp .And [a] pos) (rdT X.K ta) := pw_and1 ha
theorem dw_or1 (ha : PT X a (rdT X.K ta)) : PW X (.BoolOp .Or [a] pos) (rdT X.K ta) := pw_or1 ha
theorem dw_and (ha : PT X a (rdT X.K ta)) (hb : PW X (.BoolOp .And (b :: rest) pos) (rdT X.K tb)) : PW X (.BoolOp .And (a :: b :: rest) pos) (rdT X.K (tAndD ta tb)) := by
  refine pw_imp (pw_and ha hb) fun σ H Q ⟨ρ, G, I, h⟩ => ?_
  refine rdT_of I (rdTK_mono (rdTK_bndT h) fun b H1 ⟨ρ1, G1, s1, I1, h1⟩ => ?_)
  cases b with
  | true => exact rdT_of I1 h1
  | false => exact h1 H1 G1 (Stp.refl _ _ _ _) I1
theorem dw_or (ha : PT X a (rdT X.K ta)) (hb : PW X (.BoolOp .Or (b :: rest) pos) (rdT X.K tb)) : PW X (.BoolOp .Or (a :: b :: rest) pos) (rdT X.K (tOrD ta tb)) := by
  refine pw_imp (pw_or ha hb) fun σ H Q ⟨ρ, G, I, h⟩ => ?_
  refine rdT_of I (rdTK_mono (rdTK_bndT h) fun b H1 ⟨ρ1, G1, s1, I1, h1⟩ => ?_)
  cases b with
  | false => exact rdT_of I1 h1
  | true => exact h1 H1 G1 (Stp.refl _ _ _ _) I1
/-! .. as values, all but the last truths -/
def eAnd (a b : FE) : FE := bnd a fun x => match x with | .bl true => b | .bl false => eC (.bl false) | _ => fun _ => .no
def eOr (a b : FE) : FE := bnd a fun x => match x with | .bl false => b | .bl true => eC (.bl true) | _ => fun _ => .no
def eNot (a : FE) : FE := e1 (fun x => match x with | .bl b => some (.bl (!b)) | _ => none) a
def eIf (t : FT) (a b : FE) : FE := bndT t fun x => if x = true then a else b
theorem de_one {op} (ha : PE X a (rd X.K fa)) : PE X (.BoolOp op [a] pos) (rd X.K fa) := pe_one ha
theorem de_and (ha : PE X a (rd X.K fa)) (hb : PE X (.BoolOp .And (b :: rest) pos) (rd X.K fb)) : PE X (.BoolOp .And (a :: b :: rest) pos) (rd X.K (eAnd fa fb)) := by
  refine pe_imp (pe_and ha hb) fun σ H Q ⟨ρ, G, I, h⟩ => ?_
  refine rd_of I (rdK_mono (rdK_bnd h) fun v H1 ⟨d, ρ1, G1, s1, I1, r1, h1⟩ => ?_)
  cases d with
  | bl c =>
    simp only [Rep] at r1
    subst r1
    refine ⟨c, rfl, ?_⟩
    cases c with
    | true => exact rd_of I1 h1
    | false => exact h1 _ H1 G1 (Stp.refl _ _ _ _) I1 (by simp only [Rep])
  | _ => exact False.elim h1
theorem de_or (ha : PE X a (rd X.K fa)) (hb : PE X (.BoolOp .Or (b :: rest) pos) (rd X.K fb)) : PE X (.BoolOp .Or (a :: b :: rest) pos) (rd X.K (eOr fa fb)) := by
  refine pe_imp (pe_or ha hb) fun σ H Q ⟨ρ, G, I, h⟩ => ?_
  refine rd_of I (rdK_mono (rdK_bnd h) fun v H1 ⟨d, ρ1, G1, s1, I1, r1, h1⟩ => ?_)
  cases d with
  | bl c =>
    simp only [Rep] at r1
    subst r1
    refine ⟨c, rfl, ?_⟩
    cases c with
    | false => exact rd_of I1 h1
    | true => exact h1 _ H1 G1 (Stp.refl _ _ _ _) I1 (by simp only [Rep])
  | _ => exact False.elim h1
theorem de_not (ha : PE X a (rd X.K fa)) : PE X (.UnaryOp .Not a pos) (rd X.K (eNot fa)) := by
  refine pe_imp (pe_not ha) fun σ H Q ⟨ρ, G, I, h⟩ => ?_
  unfold eNot e1 at h
  refine rd_of I (rdK_mono (rdK_bnd h) fun v H1 ⟨d, ρ1, G1, s1, I1, r1, h1⟩ => ?_)
  obtain ⟨d', e, q⟩ := rdK_ofO h1 I1
  cases d with
  | bl c =>
    simp only [Rep] at r1
    subst r1
    cases e
    exact ⟨c, rfl, q _ H1 G1 (PStp.refl I1.sub) (by simp only [Rep])⟩
  | _ => cases e
theorem de_if (hc : PT X c (rdT X.K ta)) (ha : PE X a (rd X.K fa)) (hb : PE X b (rd X.K fb)) : PE X (.IfExp c a b pos) (rd X.K (eIf ta fa fb)) := by
  refine pe_imp (pe_ifExp hc ha hb) fun σ H Q ⟨ρ, G, I, h⟩ => ?_
  refine rdT_of I (rdTK_mono (rdK_bndT h) fun b H1 ⟨ρ1, G1, s1, I1, h1⟩ => ?_)
  cases b with
  | true => exact rd_of I1 h1
  | false => exact rd_of I1 h1
/-- a op b op' c -/
def eCh (op op' : D → D → Option D) (fa fb fc : FE) : FE := bnd fa fun x => bnd fb fun y => match op x y with
  | some (.bl true) => bnd fc fun z => fun ρ => ofO (op' y z) ρ
  | some (.bl false) => eC (.bl false)
  | _ => fun _ => .no
theorem rd_ch {op op' : D → D → Option D} {r r' : R2} (hd : OpD X.K r op) (hd' : OpD X.K r' op') (σ : L2.St) (H : Hp) (Q : VK) (h : rd X.K (eCh op op' fa fb fc) σ H Q) : tChain r r' (rd X.K fa) (rd X.K fb) (rd X.K fc) σ H Q := by
  obtain ⟨ρ, G, I, h⟩ := h
  refine rd_of I (rdK_mono (rdK_bnd h) fun v H1 ⟨d1, ρ1, G1, s1, I1, r1, h1⟩ => ?_)
  refine rd_of I1 (rdK_mono (rdK_bnd h1) fun u H2 ⟨d2, ρ2, G2, s2, I2, r2, h2⟩ => ?_)
  cases e : op d1 d2 with
  | none => rw [e] at h2; exact False.elim h2
  | some z =>
    cases z with
    | bl k =>
      refine hd G2 H2 d1 d2 (.bl k) v u _ I2.sub (Rep.mono s2.sub _ _ r1) r2 e fun z H3 G3 p rz => ?_
      simp only [Rep] at rz
      subst rz
      refine ⟨k, rfl, ?_⟩
      have I3 := I2.pure p
      rw [e] at h2
      cases k with
      | true =>
        refine rd_of I3 ?_
        have h3 : rdK X.K (bnd fc fun z => fun ρ => ofO (op' d2 z) ρ) σ ρ2 G3 H3 Q := by
          dsimp only at h2
          unfold rdK at h2 ⊢
          split <;> rename_i e4 <;> rw [e4] at h2
          · exact fun v H' G' a b c => h2 v H' G' (p.stp.trans a) b c
          · exact h2
          · exact h2
        refine rdK_mono (rdK_bnd h3) fun w' H4 ⟨d3, ρ3, G4, s4, I4, r4, h4⟩ => ?_
        obtain ⟨d, e5, q⟩ := rdK_ofO h4 I4
        exact hd' G4 H4 d2 d3 d u w' Q I4.sub (Rep.mono s4.sub _ _ (Rep.mono p.sub _ _ r2)) r4 e5 q
      | false => exact h2 _ H3 G3 p.stp I3 (by simp only [Rep])
    | _ => rw [e] at h2; exact False.elim h2
theorem de_chain {o o' : CmpOp} {op op' : D → D → Option D} {r r' : R2} (ho : OpR X (compareOp o) r) (hd : OpD X.K r op) (ho' : OpR X (compareOp o') r') (hd' : OpD X.K r' op') (ha : PE X a (rd X.K fa)) (hb : PE X b (rd X.K fb)) (hc : PE X c (rd X.K fc))
    (hm : lastMarks [o, o'] [b, c] = false := by with_unfolding_all rfl) : PE X (.Compare a [o, o'] [b, c] pos) (rd X.K (eCh op op' fa fb fc)) := pe_imp (pe_chain ho ho' ha hb hc hm) (rd_ch hd hd')
theorem dt_chain {o o' : CmpOp} {op op' : D → D → Option D} {r r' : R2} (ho : OpR X (compareOp o) r) (hd : OpD X.K r op) (ho' : OpR X (compareOp o') r') (hd' : OpD X.K r' op') (ha : PE X a (rd X.K fa)) (hb : PE X b (rd X.K fb)) (hc : PE X c (rd X.K fc))
    (hm : lastMarks [o, o'] [b, c] = false := by with_unfolding_all rfl) : PT X (.Compare a [o, o'] [b, c] pos) (rdT X.K (M.tB (eCh op op' fa fb fc))) := pt_imp (pt_chain ho ho' ha hb hc hm) fun σ H Q h => rd_ch hd hd' _ _ _ (rd_B _ _ _ h)

/-! arguments, displays -/
def aNil : FA := fun ρ => .ok ([], ρ)
def aCons (fa : FE) (fr : FA) : FA := fun ρ => (fa ρ).bind fun p => (fr p.2).bind fun q => .ok (p.1 :: q.1, q.2)
variable {es : List Expr} {fs : FA}
theorem da_nil : PA X [] (rdA X.K aNil) := by
  refine pa_imp pa_nil fun σ H Q ⟨ρ, G, I, h⟩ => ?_
  exact h [] H G (Stp.refl _ _ _ _) I Reps.nil
theorem da_cons (ha : PE X a (rd X.K fa)) (hr : PA X es (rdA X.K fs)) (hs : starEach (a :: es) X.env = (false, eval a X.env) :: starEach es X.env := by rfl) : PA X (a :: es) (rdA X.K (aCons fa fs)) := by
  refine pa_imp (pa_cons ha hr hs) fun σ H Q ⟨ρ, G, I, h⟩ => ?_
  unfold aCons at h
  refine rd_of I ?_
  unfold rdK
  cases e : fa ρ with
  | ok p =>
    obtain ⟨d, ρ1⟩ := p
    rw [e] at h
    dsimp only [Rz.bind] at h ⊢
    intro v H1 G1 s1 I1 r1
    refine rdA_of I1 ?_
    unfold rdAK
    cases e2 : fs ρ1 with
    | ok q =>
      obtain ⟨ds, ρ2⟩ := q
      rw [e2] at h
      dsimp only at h ⊢
      intro vs H2 G2 s2 I2 r2
      exact h (v :: vs) H2 G2 (s1.trans s2) I2 (Reps.cons (Rep.mono s2.sub _ _ r1) r2)
    | ex _ _ => rw [e2] at h; exact h
    | no => rw [e2] at h; exact h
  | ex _ _ => rw [e] at h; exact h
  | no => rw [e] at h; exact h
def eTup (f : FA) : FE := bndA f fun ds => fun ρ => if ds.length ≤ sizeLine then .ok (.tup ds, ρ) else .no
def eLst (f : FA) : FE := bndA f fun ds => fun ρ => if ds.length ≤ sizeLine then .ok (.lst ds, ρ) else .no
theorem Rep.tup_new {K : PySem.W.Frag} {G : Hp} {p : Addr} {ds : List D} {vs : List V} (n : G p = none) (r : Reps K G ds vs) : Rep K (upd G p (.tup vs)) (.tup ds) (.ref p) := by
  simp only [Rep]
  exact ⟨p, vs, rfl, SqT.of upd_same, Reps.mono (same_upd n) _ _ r⟩
theorem Rep.lst_new {K : PySem.W.Frag} {G : Hp} {p : Addr} {ds : List D} {vs : List V} (n : G p = none) (r : Reps K G ds vs) : Rep K (upd G p (.lst vs)) (.lst ds) (.ref p) := by
  simp only [Rep]
  exact ⟨p, vs, rfl, upd_same, Reps.mono (same_upd n) _ _ r⟩
theorem de_tup {x1} (h : PA X es (rdA X.K fs)) : PE X (.Tuple es x1 pos) (rd X.K (eTup fs)) := by
  refine pe_imp (pe_tup h) fun σ H Q ⟨ρ, G, I, h⟩ => ?_
  refine rdA_of I (rdAK_mono (rdK_bndA h) fun vs H1 ⟨ds, ρ1, G1, s1, I1, r1, h1⟩ => ?_)
  unfold rdK at h1
  by_cases z : ds.length ≤ sizeLine
  · simp only [if_pos z] at h1
    refine ⟨by rw [r1.length]; exact z, fun p hp => ?_⟩
    have P := PStp.laid (o := .tup vs) I1.sub hp
    exact h1 _ _ _ P.stp (I1.pure P) (Rep.tup_new (I1.sub.free hp) r1)
  · simp only [if_neg z] at h1
theorem de_lst (h : PA X es (rdA X.K fs)) : PE X (.List es pos) (rd X.K (eLst fs)) := by
  refine pe_imp (pe_lst h) fun σ H Q ⟨ρ, G, I, h⟩ => ?_
  refine rdA_of I (rdAK_mono (rdK_bndA h) fun vs H1 ⟨ds, ρ1, G1, s1, I1, r1, h1⟩ => ?_)
  unfold rdK at h1
  by_cases z : ds.length ≤ sizeLine
  · simp only [if_pos z] at h1
    refine ⟨by rw [r1.length]; exact z, fun p hp => ?_⟩
    have P := PStp.laid (o := .lst vs) I1.sub hp
    exact h1 _ _ _ P.stp (I1.pure P) (Rep.lst_new (I1.sub.free hp) r1)
  · simp only [if_neg z] at h1
/-! built-ins by name -/
def eB (op : List D → Option D) (f : FA) : FE := bndA f fun ds => fun ρ => ofO (op ds) ρ
theorem rd_Bi {op : List D → Option D} {r : List V → Hp → VK → Prop} (hd : CallD X.K r op) (σ : L2.St) (H : Hp) (Q : VK) (h : rd X.K (eB op fs) σ H Q) : tCB r (rdA X.K fs) σ H Q := by
  obtain ⟨ρ, G, I, h⟩ := h
  refine rdA_of I (rdAK_mono (rdK_bndA h) fun vs H1 ⟨ds, ρ1, G1, s1, I1, r1, h1⟩ => ?_)
  obtain ⟨d, e, q⟩ := rdK_ofO h1 I1
  exact hd G1 H1 ds d vs Q I1.sub r1 e q
variable {x : Str} {p : Pos} {id T : String}
theorem de_callB {op : List D → Option D} {r : List V → Hp → VK → Prop} (hc : CallR X (.builtin id) r) (hd : CallD X.K r op) (hg : Gl X x) (hm : X.mg x = none) (hv : bootBuiltins x = some (.builtin id)) (ha : PA X (a :: es) (rdA X.K fs)) (hn : x ≠ "__name__" := by decide) (hdb : (x == ("__debug__" : Str)) = false := by decide)
    (he : starEach (a :: es) X.env = (false, eval a X.env) :: starEach es X.env := by rfl) (hpl : (backTo pos (starEach es X.env)).any (·.1) = false := by rfl) : PE X (.Call (.Name x p) (a :: es) [] pos) (rd X.K (eB op fs)) :=
  pe_imp (pe_callB hc hg hm hv ha hn hdb he hpl) (rd_Bi hd)
theorem de_callTy {op : List D → Option D} {r : List V → Hp → VK → Prop} (hc : CallR X (.type T) r) (hd : CallD X.K r op) (hg : Gl X x) (hm : X.mg x = none) (hv : bootBuiltins x = some (.type T)) (ha : PA X (a :: es) (rdA X.K fs)) (hn : x ≠ "__name__" := by decide) (hdb : (x == ("__debug__" : Str)) = false := by decide)
    (he : starEach (a :: es) X.env = (false, eval a X.env) :: starEach es X.env := by rfl) (hpl : (backTo pos (starEach es X.env)).any (·.1) = false := by rfl) : PE X (.Call (.Name x p) (a :: es) [] pos) (rd X.K (eB op fs)) :=
  pe_imp (pe_callTy hc hg hm hv ha hn hdb he hpl) (rd_Bi hd)
end
end M

namespace M
open PySem PySem.Spec L2
/-- quick tests of order -/
def iLt : Int → Int → Bool
  | .ofNat m, .ofNat n => Nat.blt m n
  | .ofNat _, .negSucc _ => false
  | .negSucc _, .ofNat _ => true
  | .negSucc m, .negSucc n => Nat.blt n m
theorem blt_dec (m n : Nat) : Nat.blt m n = decide (m < n) := by
  rw [Bool.eq_iff_iff, decide_eq_true_eq]
  unfold Nat.blt
  rw [Nat.ble_eq]
  exact Iff.rfl
theorem iLt_eq : ∀ i j : Int, iLt i j = decide (i < j)
  | .ofNat m, .ofNat n => by
    show Nat.blt m n = _
    rw [blt_dec, Bool.eq_iff_iff, decide_eq_true_eq, decide_eq_true_eq]
    exact Int.ofNat_lt.symm
  | .ofNat m, .negSucc n => by
    have : ¬ ((Int.ofNat m) < .negSucc n) := by have := Int.negSucc_lt_zero n; have := Int.natCast_nonneg m; show ¬ ((m : Int) < _); omega
    rw [decide_eq_false this]; rfl
  | .negSucc m, .ofNat n => by
    have : (Int.negSucc m) < .ofNat n := by have := Int.negSucc_lt_zero m; have := Int.natCast_nonneg n; show _ < (n : Int); omega
    rw [decide_eq_true this]; rfl
  | .negSucc m, .negSucc n => by
    show Nat.blt n m = _
    rw [blt_dec, Bool.eq_iff_iff, decide_eq_true_eq, decide_eq_true_eq]
    constructor
    · intro h; rw [Int.negSucc_eq, Int.negSucc_eq]; omega
    · intro h; rw [Int.negSucc_eq, Int.negSucc_eq] at h; omega
theorem not_iLt (i j : Int) : (!iLt i j) = decide (j ≤ i) := by
  rw [iLt_eq, Bool.eq_iff_iff, Bool.not_eq_true', decide_eq_false_iff_not, decide_eq_true_eq]
  omega
def small (i : Int) : Bool := iLt (-18446744073709551616) i && iLt i 18446744073709551616
theorem small_of {i : Int} (h : small i = true) : -(2 ^ 64) < i ∧ i < 2 ^ 64 := by
  unfold small at h
  rw [iLt_eq, iLt_eq, Bool.and_eq_true, decide_eq_true_eq, decide_eq_true_eq] at h
  omega
theorem small_iff {i : Int} : small i = true ↔ -(2 ^ 64) < i ∧ i < 2 ^ 64 := by
  refine ⟨small_of, fun h => ?_⟩
  unfold small
  rw [iLt_eq, iLt_eq, Bool.and_eq_true, decide_eq_true_eq, decide_eq_true_eq]
  omega
variable [Tabs]

/-! ### data as the library's plain data -/
mutual
def pd : D → PyData
  | .non => .none
  | .bl b => .bool b
  | .int i => .int i
  | .str x => .str x
  | .tup ds => .tuple (pds ds)
  | .lst ds => .list (pds ds)
  | .scr _ => .dict []
  | .con _ => .dict []
  | .dic ks ds => .dict ((pds ks).zip (pds ds))
  | .ins _ _ => .dict []
def pds : List D → List PyData
  | [] => []
  | d :: ds => pd d :: pds ds
end
/- nothing in it that is no plain data -/
mutual
def plain : D → Bool
  | .tup ds => plains ds
  | .lst ds => plains ds
  | .scr _ => false
  | .con _ => false
  | .dic _ _ => false
  | .ins _ _ => false
  | _ => true
def plains : List D → Bool
  | [] => true
  | d :: ds => plain d && plains ds
end
mutual
theorem dp_of {K : PySem.W.Frag} {H : Hp} : ∀ (d : D) (v : V), Rep K H d v → plain d = true → Dp K H v (pd d)
  | .non, v, h, _ => by simp only [Rep] at h; subst h; exact .non
  | .bl b, v, h, _ => by simp only [Rep] at h; subst h; exact .bl b
  | .int i, v, h, _ => by simp only [Rep] at h; subst h; exact .int i
  | .str x, v, h, _ => by simp only [Rep] at h; subst h; exact .str x
  | .tup ds, v, h, p => by
    simp only [Rep] at h
    obtain ⟨a, vs, rfl, q, r⟩ := h
    simp only [pd]
    simp only [plain] at p
    exact .tup q (dps_of ds vs r p)
  | .lst ds, v, h, p => by
    simp only [Rep] at h
    obtain ⟨a, vs, rfl, q, r⟩ := h
    simp only [pd]
    simp only [plain] at p
    exact .lst (SqL.of q) (dps_of ds vs r p)
  | .scr _, v, h, p => by simp [plain] at p
  | .con _, v, h, p => by simp [plain] at p
  | .dic _ _, v, h, p => by simp [plain] at p
  | .ins _ _, v, h, p => by simp [plain] at p
theorem dps_of {K : PySem.W.Frag} {H : Hp} : ∀ (ds : List D) (vs : List V), Reps K H ds vs → plains ds = true → DpAll K H vs (pds ds)
  | [], vs, h, _ => by simp only [Reps] at h; subst h; exact .nil
  | d :: ds, vs, h, p => by
    simp only [Reps] at h
    obtain ⟨v, r, rfl, h1, h2⟩ := h
    simp only [plains, Bool.and_eq_true] at p
    simp only [pds]
    exact .cons (dp_of d v h1 p.1) (dps_of ds r h2 p.2)
end
/-- == of data -/
def deq (d e : D) : Option Bool := if plain d = true ∧ plain e = true ∧ SeqAt.shaped (pd d) = true ∧ SeqAt.shaped (pd e) = true then some (PyData.eqv (pd d) (pd e)) else none
def eqD (d e : D) : Option D := (deq d e).map D.bl
def neD (d e : D) : Option D := (deq d e).map fun b => D.bl (!b)
section
variable {K : PySem.W.Frag}
theorem rep_bl {G : Hp} (b : Bool) : Rep K G (.bl b) (.bl b) := by simp only [Rep]
theorem rep_int {G : Hp} (b : Int) : Rep K G (.int b) (.int b) := by simp only [Rep]
theorem rep_str {G : Hp} (b : Str) : Rep K G (.str b) (.str b) := by simp only [Rep]
theorem rep_non {G : Hp} : Rep K G .non .non := by simp only [Rep]
theorem deq_of {G H : Hp} {d e : D} {v u : V} {b : Bool} (s : Same G H) (r1 : Rep K G d v) (r2 : Rep K G e u) (h : deq d e = some b) :
    ∃ x y, Dp K H v x ∧ Dp K H u y ∧ SeqAt.shaped x = true ∧ SeqAt.shaped y = true ∧ PyData.eqv x y = b := by
  unfold deq at h
  split at h
  · rename_i c
    cases h
    exact ⟨pd d, pd e, dp_of d v (Rep.mono s _ _ r1) c.1, dp_of e u (Rep.mono s _ _ r2) c.2.1, c.2.2.1, c.2.2.2, rfl⟩
  · cases h
theorem od_eq : OpD K (rEqD K) eqD := by
  intro G H d1 d2 d v1 v2 Q s r1 r2 e q
  unfold eqD at e
  cases h : deq d1 d2 with
  | none => rw [h] at e; cases e
  | some b =>
    rw [h] at e; cases e
    obtain ⟨x, y, h1, h2, h3, h4, rfl⟩ := deq_of s r1 r2 h
    exact ⟨x, y, h1, h2, h3, h4, q _ H G (PStp.refl s) (rep_bl _)⟩
theorem od_ne : OpD K (rNeD K) neD := by
  intro G H d1 d2 d v1 v2 Q s r1 r2 e q
  unfold neD at e
  cases h : deq d1 d2 with
  | none => rw [h] at e; cases e
  | some b =>
    rw [h] at e; cases e
    obtain ⟨x, y, h1, h2, h3, h4, rfl⟩ := deq_of s r1 r2 h
    exact ⟨x, y, h1, h2, h3, h4, q _ H G (PStp.refl s) (rep_bl _)⟩
/-! ints -/
def ltD : D → D → Option D | .int i, .int j => some (.bl (iLt i j)) | _, _ => none
def leD : D → D → Option D | .int i, .int j => some (.bl (!iLt j i)) | _, _ => none
def gtD : D → D → Option D | .int i, .int j => some (.bl (iLt j i)) | _, _ => none
def geD : D → D → Option D | .int i, .int j => some (.bl (!iLt i j)) | _, _ => none
theorem od_lt : OpD K (rI0 fun i j => .bl (decide (i < j))) ltD := by
  intro G H d1 d2 d v1 v2 Q s r1 r2 e q
  unfold ltD at e
  split at e
  · simp only [Rep] at r1 r2; subst r1 r2; cases e
    refine ⟨_, _, rfl, rfl, ?_⟩
    have q' := q _ H G (PStp.refl s) (rep_bl _)
    rw [iLt_eq] at q'
    exact q'
  · cases e
theorem od_le : OpD K (rI0 fun i j => .bl (decide (i ≤ j))) leD := by
  intro G H d1 d2 d v1 v2 Q s r1 r2 e q
  unfold leD at e
  split at e
  · simp only [Rep] at r1 r2; subst r1 r2; cases e
    refine ⟨_, _, rfl, rfl, ?_⟩
    have q' := q _ H G (PStp.refl s) (rep_bl _)
    rw [not_iLt] at q'
    exact q'
  · cases e
theorem od_gt : OpD K (rI0 fun i j => .bl (decide (j < i))) gtD := by
  intro G H d1 d2 d v1 v2 Q s r1 r2 e q
  unfold gtD at e
  split at e
  · simp only [Rep] at r1 r2; subst r1 r2; cases e
    refine ⟨_, _, rfl, rfl, ?_⟩
    have q' := q _ H G (PStp.refl s) (rep_bl _)
    rw [iLt_eq] at q'
    exact q'
  · cases e
theorem od_ge : OpD K (rI0 fun i j => .bl (decide (j ≤ i))) geD := by
  intro G H d1 d2 d v1 v2 Q s r1 r2 e q
  unfold geD at e
  split at e
  · simp only [Rep] at r1 r2; subst r1 r2; cases e
    refine ⟨_, _, rfl, rfl, ?_⟩
    have q' := q _ H G (PStp.refl s) (rep_bl _)
    rw [not_iLt] at q'
    exact q'
  · cases e
/-! is None -/
def isNone : D → Option Bool | .non => some true | .con .non => none | _ => some false
def isND (d e : D) : Option D := match e with | .non => (isNone d).map D.bl | _ => none
def notND (d e : D) : Option D := match e with | .non => (isNone d).map fun b => D.bl (!b) | _ => none
theorem isNone_of {G : Hp} {d : D} {v : V} {b : Bool} (r : Rep K G d v) (h : isNone d = some b) : decide (v = .non) = b := by
  cases d with
  | non => simp only [Rep] at r; subst r; cases h; rfl
  | con u =>
    simp only [Rep] at r; subst r
    cases v <;> first | (cases h; done) | (cases h; rfl)
  | tup ds => simp only [Rep] at r; obtain ⟨a, vs, rfl, _⟩ := r; cases h; rfl
  | lst ds => simp only [Rep] at r; obtain ⟨a, vs, rfl, _⟩ := r; cases h; rfl
  | scr ds => simp only [Rep] at r; obtain ⟨a, rfl, _⟩ := r; cases h; rfl
  | bl _ => simp only [Rep] at r; subst r; cases h; rfl
  | int _ => simp only [Rep] at r; subst r; cases h; rfl
  | str _ => simp only [Rep] at r; subst r; cases h; rfl
  | dic ks ds => simp only [Rep] at r; obtain ⟨a, us, vs, rfl, _⟩ := r; cases h; rfl
  | ins c ds => simp only [Rep] at r; obtain ⟨a, dx, vs, rfl, _⟩ := r; cases h; rfl
theorem od_isN : OpD K (fun x y H Q => y = .non ∧ Q (.bl (decide (x = .non))) H) isND := by
  intro G H d1 d2 d v1 v2 Q s r1 r2 e q
  unfold isND at e
  split at e
  · simp only [Rep] at r2; subst r2
    cases h : isNone d1 with
    | none => rw [h] at e; cases e
    | some b =>
      rw [h] at e; cases e
      refine ⟨rfl, ?_⟩
      rw [isNone_of r1 h]
      exact q _ H G (PStp.refl s) (rep_bl _)
  · cases e
theorem od_notN : OpD K (fun x y H Q => y = .non ∧ Q (.bl (!decide (x = .non))) H) notND := by
  intro G H d1 d2 d v1 v2 Q s r1 r2 e q
  unfold notND at e
  split at e
  · simp only [Rep] at r2; subst r2
    cases h : isNone d1 with
    | none => rw [h] at e; cases e
    | some b =>
      rw [h] at e; cases e
      refine ⟨rfl, ?_⟩
      rw [isNone_of r1 h]
      exact q _ H G (PStp.refl s) (rep_bl _)
  · cases e
/-! arithmetic -/
def rAddA (K : PySem.W.Frag) : R2 := fun x y H Q => rI0 (fun i j => .int (i + j)) x y H Q ∨ (∃ i j, x = .str i ∧ y = .str j ∧ i.length + j.length ≤ sizeLine ∧ Q (.str (i ++ j)) H) ∨ rCat x y H Q ∨ rCatA K x y H Q
theorem op_addA {X : Cx} : OpR X (binaryOp .Add) (rAddA X.K) := op_add.or (op_add_str.or (op_cat.or op_catA))
def addD : D → D → Option D
  | .int i, .int j => some (.int (i + j))
  | .str a, .str b => if a.length + b.length ≤ sizeLine then some (.str (a ++ b)) else none
  | .lst a, .lst b => if a.length + b.length ≤ sizeLine then some (.lst (a ++ b)) else none
  | .tup a, .tup b => if a.length + b.length ≤ sizeLine then some (.tup (a ++ b)) else none
  | _, _ => none
theorem od_add : OpD K (rAddA K) addD := by
  intro G H d1 d2 d v1 v2 Q s r1 r2 e q
  unfold addD at e
  split at e
  · simp only [Rep] at r1 r2; subst r1 r2; cases e
    exact .inl ⟨_, _, rfl, rfl, q _ H G (PStp.refl s) (rep_int _)⟩
  · simp only [Rep] at r1 r2; subst r1 r2
    split at e
    · rename_i hz
      cases e
      exact .inr (.inl ⟨_, _, rfl, rfl, hz, q _ H G (PStp.refl s) (rep_str _)⟩)
    · cases e
  · simp only [Rep] at r1 r2
    obtain ⟨a, vs, rfl, h1, q1⟩ := r1
    obtain ⟨b, us, rfl, h2, q2⟩ := r2
    split at e
    · rename_i hz
      cases e
      refine .inr (.inr (.inl ⟨a, b, vs, us, rfl, rfl, s _ _ h1, s _ _ h2, by rw [q1.length, q2.length]; exact hz, fun p hp => ?_⟩))
      exact q _ _ _ (PStp.laid s hp) (Rep.lst_new (s.free hp) (q1.append q2))
    · cases e
  · simp only [Rep] at r1 r2
    obtain ⟨a, vs, rfl, h1, q1⟩ := r1
    obtain ⟨b, us, rfl, h2, q2⟩ := r2
    split at e
    · rename_i hz
      cases e
      refine .inr (.inr (.inr ⟨a, b, vs, us, rfl, rfl, SqT.mono s h1, SqT.mono s h2, by rw [q1.length, q2.length]; exact hz, fun e => ?_, fun _ e => ?_, fun _ _ p hp => ?_⟩))
      · subst e
        refine q _ H G (PStp.refl s) ?_
        simp only [Rep]
        exact ⟨b, us, rfl, h2, by simpa using q1.append q2⟩
      · subst e
        refine q _ H G (PStp.refl s) ?_
        simp only [Rep]
        exact ⟨a, vs, rfl, h1, by simpa using q1.append q2⟩
      · exact q _ _ _ (PStp.laid s hp) (Rep.tup_new (s.free hp) (q1.append q2))
    · cases e
  · cases e
def subD : D → D → Option D | .int i, .int j => some (.int (i - j)) | _, _ => none
theorem od_sub : OpD K (rI0 fun i j => .int (i - j)) subD := by
  intro G H d1 d2 d v1 v2 Q s r1 r2 e q
  unfold subD at e
  split at e
  · simp only [Rep] at r1 r2; subst r1 r2; cases e
    exact ⟨_, _, rfl, rfl, q _ H G (PStp.refl s) (rep_int _)⟩
  · cases e
/-- a list times an int is in MulL -/
def mulD : D → D → Option D | .int i, .int j => if small i = true ∨ small j = true then some (.int (i * j)) else none | _, _ => none
theorem od_mul : OpD K (rI CMul fun i j => .int (i * j)) mulD := by
  intro G H d1 d2 d v1 v2 Q s r1 r2 e q
  unfold mulD at e
  split at e
  · simp only [Rep] at r1 r2; subst r1 r2
    split at e
    · rename_i c
      cases e
      refine ⟨_, _, rfl, rfl, ?_, q _ H G (PStp.refl s) (rep_int _)⟩
      exact c.imp small_of small_of
    · cases e
  · cases e
def fdivD : D → D → Option D | .int i, .int j => if 0 < j ∧ j.natAbs.log2 < 9000 then some (.int (i / j)) else none | _, _ => none
theorem od_fdiv : OpD K (rI CDivW fun i j => .int (i / j)) fdivD := by
  intro G H d1 d2 d v1 v2 Q s r1 r2 e q
  unfold fdivD at e
  split at e
  · simp only [Rep] at r1 r2; subst r1 r2
    split at e
    · rename_i c
      cases e
      exact ⟨_, _, rfl, rfl, c, q _ H G (PStp.refl s) (rep_int _)⟩
    · cases e
  · cases e
def modD : D → D → Option D | .int i, .int j => if 0 < j then some (.int (i % j)) else none | _, _ => none
theorem od_mod : OpD K (rI (fun _ j => 0 < j) fun i j => .int (i % j)) modD := by
  intro G H d1 d2 d v1 v2 Q s r1 r2 e q
  unfold modD at e
  split at e
  · simp only [Rep] at r1 r2; subst r1 r2
    split at e
    · rename_i c
      cases e
      exact ⟨_, _, rfl, rfl, c, q _ H G (PStp.refl s) (rep_int _)⟩
    · cases e
  · cases e
def CPowW (i j : Int) : Prop := 0 ≤ j ∧ (Builtin.Int.intBits i : Int) * j ≤ 2 ^ 27
theorem op_powW {X : Cx} : OpR X (binaryOp .Pow) (rI CPowW fun i j => .int (i ^ j.toNat)) := opI fun _ _ _ _ _ _ _ hc q => PyProof.Rows.pow_int hc.1 hc.2 q
def powD : D → D → Option D | .int i, .int j => if 0 ≤ j ∧ (Builtin.Int.intBits i : Int) * j ≤ 2 ^ 27 then some (.int (i ^ j.toNat)) else none | _, _ => none
theorem od_pow : OpD K (rI CPowW fun i j => .int (i ^ j.toNat)) powD := by
  intro G H d1 d2 d v1 v2 Q s r1 r2 e q
  unfold powD at e
  split at e
  · simp only [Rep] at r1 r2; subst r1 r2
    split at e
    · rename_i c
      cases e
      exact ⟨_, _, rfl, rfl, c, q _ H G (PStp.refl s) (rep_int _)⟩
    · cases e
  · cases e
def negD : D → Option D | .int i => some (.int (-i)) | _ => none
theorem ud_neg : UnD K (rU fun i => .int (-i)) negD := by
  intro G H d1 d v1 Q s r1 e q
  unfold negD at e
  split at e
  · simp only [Rep] at r1; subst r1; cases e
    exact ⟨_, rfl, q _ H G (PStp.refl s) (rep_int _)⟩
  · cases e
/-! x in a list or tuple of flat things -/
def flatD : D → Bool | .non => true | .bl _ => true | .int _ => true | .str _ => true | _ => false
def eqF : D → D → Bool
  | .non, .non => true
  | .bl a, .bl b => a == b
  | .bl a, .int b => (if a then 1 else 0) == b
  | .int a, .bl b => a == (if b then 1 else 0)
  | .int a, .int b => a == b
  | .str a, .str b => a == b
  | _, _ => false
theorem flat_of {G : Hp} {d : D} {v : V} (r : Rep K G d v) (h : flatD d = true) : flatV v = true := by
  cases d with
  | non => simp only [Rep] at r; subst r; rfl
  | bl _ => simp only [Rep] at r; subst r; rfl
  | int _ => simp only [Rep] at r; subst r; rfl
  | str _ => simp only [Rep] at r; subst r; rfl
  | _ => cases h
theorem eqF_of {G : Hp} {d e : D} {v u : V} (r : Rep K G d v) (r2 : Rep K G e u) (h : flatD d = true) (h2 : flatD e = true) : eqV v u = eqF d e := by
  cases d <;> first | (cases h; done) | skip
  all_goals (cases e <;> first | (cases h2; done) | skip)
  all_goals (simp only [Rep] at r r2; subst r r2; rfl)
theorem flats_of {G : Hp} : ∀ {ds : List D} {vs : List V}, Reps K G ds vs → ds.all flatD = true → vs.all flatV = true
  | [], vs, r, _ => by simp only [Reps] at r; subst r; rfl
  | d :: ds, vs, r, h => by
    simp only [Reps] at r
    obtain ⟨v, us, rfl, r1, r2⟩ := r
    rw [List.all_cons, Bool.and_eq_true] at h ⊢
    exact ⟨flat_of r1 h.1, flats_of r2 h.2⟩
theorem inF_of {G : Hp} {x : D} {w : V} (rx : Rep K G x w) (hx : flatD x = true) : ∀ {ds : List D} {vs : List V}, Reps K G ds vs → ds.all flatD = true → inV w vs = ds.any fun y => eqF y x
  | [], vs, r, _ => by simp only [Reps] at r; subst r; rfl
  | d :: ds, vs, r, h => by
    simp only [Reps] at r
    obtain ⟨v, us, rfl, r1, r2⟩ := r
    rw [List.all_cons, Bool.and_eq_true] at h
    show (eqV v w || inV w us) = _
    rw [List.any_cons, eqF_of r1 rx h.1 hx, inF_of rx hx r2 h.2]
def inSq (x y : D) : Option Bool := match y with
  | .tup ds => if flatD x = true ∧ ds.all flatD = true then some (ds.any fun y => eqF y x) else none
  | .lst ds => if flatD x = true ∧ ds.all flatD = true then some (ds.any fun y => eqF y x) else none
  | _ => none
def inD (x y : D) : Option D := (inSq x y).map D.bl
def notInD (x y : D) : Option D := (inSq x y).map fun b => D.bl (!b)
theorem inSq_of {G H : Hp} {x y : D} {v u : V} {b : Bool} (s : Same G H) (r1 : Rep K G x v) (r2 : Rep K G y u) (h : inSq x y = some b) :
    ∃ p xs, u = .ref p ∧ (SqL K H p xs ∨ SqT K H p xs) ∧ flatV v = true ∧ xs.all flatV = true ∧ inV v xs = b := by
  cases y with
  | tup ds =>
    simp only [inSq] at h
    split at h
    · rename_i c
      cases h
      simp only [Rep] at r2
      obtain ⟨a, vs, rfl, h1, q1⟩ := r2
      exact ⟨a, vs, rfl, .inr (SqT.mono s h1), flat_of r1 c.1, flats_of q1 c.2, inF_of r1 c.1 q1 c.2⟩
    · cases h
  | lst ds =>
    simp only [inSq] at h
    split at h
    · rename_i c
      cases h
      simp only [Rep] at r2
      obtain ⟨a, vs, rfl, h1, q1⟩ := r2
      exact ⟨a, vs, rfl, .inl (SqL.of (s _ _ h1)), flat_of r1 c.1, flats_of q1 c.2, inF_of r1 c.1 q1 c.2⟩
    · cases h
  | _ => cases h
theorem od_in : OpD K (rIn K false) inD := by
  intro G H d1 d2 d v1 v2 Q s r1 r2 e q
  unfold inD at e
  cases h : inSq d1 d2 with
  | none => rw [h] at e; cases e
  | some b =>
    rw [h] at e; cases e
    obtain ⟨p, xs, rfl, h1, h2, h3, rfl⟩ := inSq_of s r1 r2 h
    exact ⟨p, xs, rfl, h1, h2, h3, q _ H G (PStp.refl s) (rep_bl _)⟩
theorem od_notIn : OpD K (rIn K true) notInD := by
  intro G H d1 d2 d v1 v2 Q s r1 r2 e q
  unfold notInD at e
  cases h : inSq d1 d2 with
  | none => rw [h] at e; cases e
  | some b =>
    rw [h] at e; cases e
    obtain ⟨p, xs, rfl, h1, h2, h3, rfl⟩ := inSq_of s r1 r2 h
    exact ⟨p, xs, rfl, h1, h2, h3, q _ H G (PStp.refl s) (rep_bl _)⟩
/-! an item -/
def ixD : D → D → Option D
  | .lst ds, .int i => atI ds i
  | .tup ds, .int i => atI ds i
  | .scr ns, .int i => (atI ns i).map D.int
  | _, _ => none
theorem atI_reps {G : Hp} {ds : List D} {vs : List V} {i : Int} {d : D} (r : Reps K G ds vs) (h : atI ds i = some d) : ∃ v, atI vs i = some v ∧ Rep K G d v := by
  unfold atI at h ⊢
  rw [r.length]
  cases e : ixN ds.length i with
  | none => rw [e] at h; cases h
  | some j =>
    rw [e] at h
    exact Reps.get r h
theorem od_ix : OpD K (fun x y H Q => rIxL K x y H Q ∨ rIxT K x y H Q) ixD := by
  intro G H d1 d2 d v1 v2 Q s r1 r2 e q
  unfold ixD at e
  split at e
  · simp only [Rep] at r1 r2
    obtain ⟨a, vs, rfl, h1, q1⟩ := r1
    subst r2
    obtain ⟨v, e1, rv⟩ := atI_reps q1 e
    exact .inl ⟨a, vs, _, v, rfl, rfl, SqL.of (s _ _ h1), e1, q _ H G (PStp.refl s) rv⟩
  · simp only [Rep] at r1 r2
    obtain ⟨a, vs, rfl, h1, q1⟩ := r1
    subst r2
    obtain ⟨v, e1, rv⟩ := atI_reps q1 e
    exact .inr ⟨a, vs, _, v, rfl, rfl, SqT.mono s h1, e1, q _ H G (PStp.refl s) rv⟩
  · simp only [Rep] at r1 r2
    obtain ⟨a, rfl, h1⟩ := r1
    subst r2
    rename_i ns i
    cases h : atI ns i with
    | none => rw [h] at e; cases e
    | some n =>
      rw [h] at e; cases e
      refine .inl ⟨a, _, _, .int n, rfl, rfl, SqL.mono s h1, ?_, q _ H G (PStp.refl s) (rep_int _)⟩
      unfold atI at h ⊢
      rw [List.length_map]
      cases e : ixN ns.length i with
      | none => rw [e] at h; cases h
      | some j =>
        rw [e] at h
        show (ns.map V.int)[j]? = _
        rw [List.getElem?_map]
        have h : ns[j]? = some n := h
        rw [h]; rfl
  · cases e
theorem de_ix {X : Cx} {a b : Expr} {fa fb : FE} {pos : Pos} (ha : PE X a (rd X.K fa)) (hb : PE X b (rd X.K fb)) (hs : PlainIx b) : PE X (.Subscript a b pos) (rd X.K (e2 ixD fa fb)) :=
  pe_imp (pe_ix (ix_list.or ix_tup) ha hb hs) (rd_2 od_ix)
/-! built-ins -/
def lenD : List D → Option D
  | [.lst ds] => some (.int ds.length)
  | [.tup ds] => some (.int ds.length)
  | [.scr ns] => some (.int ns.length)
  | _ => none
theorem reps1 {G : Hp} {d : D} {vs : List V} (r : Reps K G [d] vs) : ∃ v, vs = [v] ∧ Rep K G d v := by
  simp only [Reps] at r
  obtain ⟨v, r, rfl, h1, h2⟩ := r
  subst h2
  exact ⟨v, rfl, h1⟩
theorem reps2 {G : Hp} {d e : D} {vs : List V} (r : Reps K G [d, e] vs) : ∃ v u, vs = [v, u] ∧ Rep K G d v ∧ Rep K G e u := by
  simp only [Reps] at r
  obtain ⟨v, r, rfl, h1, u, r2, rfl, h2, h3⟩ := r
  subst h3
  exact ⟨v, u, rfl, h1, h2⟩
def rLenQ (K : PySem.W.Frag) : List V → Hp → VK → Prop := fun xs H Q => ∃ p ys, xs = [.ref p] ∧ (SqL K H p ys ∨ SqT K H p ys) ∧ Q (.int ys.length) H
theorem cd_len : CallD K (rLenQ K) lenD := by
  intro G H ds d vs Q s r e q
  unfold lenD at e
  split at e
  · obtain ⟨v, rfl, r1⟩ := reps1 r
    simp only [Rep] at r1
    obtain ⟨a, us, rfl, h1, q1⟩ := r1
    cases e
    refine ⟨a, us, rfl, .inl (SqL.of (s _ _ h1)), ?_⟩
    rw [q1.length]
    exact q _ H G (PStp.refl s) (rep_int _)
  · obtain ⟨v, rfl, r1⟩ := reps1 r
    simp only [Rep] at r1
    obtain ⟨a, us, rfl, h1, q1⟩ := r1
    cases e
    refine ⟨a, us, rfl, .inr (SqT.mono s h1), ?_⟩
    rw [q1.length]
    exact q _ H G (PStp.refl s) (rep_int _)
  · obtain ⟨v, rfl, r1⟩ := reps1 r
    simp only [Rep] at r1
    obtain ⟨a, rfl, h1⟩ := r1
    cases e
    refine ⟨a, _, rfl, .inl (SqL.mono s h1), ?_⟩
    rw [List.length_map]
    exact q _ H G (PStp.refl s) (rep_int _)
  · cases e
def absD : List D → Option D | [.int i] => some (.int (if i < 0 then -i else i)) | _ => none
theorem cd_abs : CallD K (fun xs H Q => ∃ i, xs = [.int i] ∧ Q (.int (if i < 0 then -i else i)) H) absD := by
  intro G H ds d vs Q s r e q
  unfold absD at e
  split at e
  · obtain ⟨v, rfl, r1⟩ := reps1 r
    simp only [Rep] at r1
    subst r1; cases e
    exact ⟨_, rfl, q _ H G (PStp.refl s) (rep_int _)⟩
  · cases e
def intD : List D → Option D | [.int i] => some (.int i) | [.bl k] => some (.int (if k then 1 else 0)) | _ => none
theorem cd_int : CallD K (fun xs H Q => (∃ i, xs = [.int i] ∧ Q (.int i) H) ∨ ∃ k, xs = [.bl k] ∧ Q (.int (if k then 1 else 0)) H) intD := by
  intro G H ds d vs Q s r e q
  unfold intD at e
  split at e
  · obtain ⟨v, rfl, r1⟩ := reps1 r
    simp only [Rep] at r1
    subst r1; cases e
    exact .inl ⟨_, rfl, q _ H G (PStp.refl s) (rep_int _)⟩
  · obtain ⟨v, rfl, r1⟩ := reps1 r
    simp only [Rep] at r1
    subst r1; cases e
    exact .inr ⟨_, rfl, q _ H G (PStp.refl s) (rep_int _)⟩
  · cases e
def maxD : List D → Option D | [.int i, .int j] => some (.int (if j > i then j else i)) | _ => none
def minD : List D → Option D | [.int i, .int j] => some (.int (if j < i then j else i)) | _ => none
theorem cd_max : CallD K (fun xs H Q => ∃ i j, xs = [.int i, .int j] ∧ Q (.int (if j > i then j else i)) H) maxD := by
  intro G H ds d vs Q s r e q
  unfold maxD at e
  split at e
  · obtain ⟨v, u, rfl, r1, r2⟩ := reps2 r
    simp only [Rep] at r1 r2
    subst r1 r2; cases e
    exact ⟨_, _, rfl, q _ H G (PStp.refl s) (rep_int _)⟩
  · cases e
theorem cd_min : CallD K (fun xs H Q => ∃ i j, xs = [.int i, .int j] ∧ Q (.int (if j < i then j else i)) H) minD := by
  intro G H ds d vs Q s r e q
  unfold minD at e
  split at e
  · obtain ⟨v, u, rfl, r1, r2⟩ := reps2 r
    simp only [Rep] at r1 r2
    subst r1 r2; cases e
    exact ⟨_, _, rfl, q _ H G (PStp.refl s) (rep_int _)⟩
  · cases e
/-- the ints of a list of ints -/
def asInts : List D → Option (List Int)
  | [] => some []
  | .int i :: r => (asInts r).map (i :: ·)
  | _ => none
theorem asInts_eq : ∀ {ds : List D} {ns : List Int}, asInts ds = some ns → ds = ns.map D.int
  | [], ns, h => by cases h; rfl
  | d :: ds, ns, h => by
    cases d with
    | int i =>
      simp only [asInts] at h
      cases q : asInts ds with
      | none => rw [q] at h; cases h
      | some ms => rw [q] at h; cases h; rw [List.map_cons, ← asInts_eq q]
    | _ => simp [asInts] at h
theorem asInts_ints (ns : List Int) : asInts (ns.map D.int) = some ns := by
  induction ns with
  | nil => rfl
  | cons n ns ih => rw [List.map_cons]; unfold asInts; rw [ih]; rfl
def asBools : List D → Option (List Bool)
  | [] => some []
  | .bl i :: r => (asBools r).map (i :: ·)
  | _ => none
theorem asBools_eq : ∀ {ds : List D} {ns : List Bool}, asBools ds = some ns → ds = ns.map D.bl
  | [], ns, h => by cases h; rfl
  | d :: ds, ns, h => by
    cases d with
    | bl i =>
      simp only [asBools] at h
      cases q : asBools ds with
      | none => rw [q] at h; cases h
      | some ms => rw [q] at h; cases h; rw [List.map_cons, ← asBools_eq q]
    | _ => simp [asBools] at h
theorem asBools_bools (ns : List Bool) : asBools (ns.map D.bl) = some ns := by
  induction ns with
  | nil => rfl
  | cons n ns ih => rw [List.map_cons]; unfold asBools; rw [ih]; rfl
theorem Reps.bools {G : Hp} : ∀ {ns : List Bool} {vs : List V}, Reps K G (ns.map D.bl) vs → vs = ns.map V.bl
  | [], vs, h => by simp only [List.map_nil, Reps] at h; exact h
  | n :: ns, vs, h => by
    simp only [List.map_cons, Reps, Rep] at h
    obtain ⟨v, r, rfl, rfl, h2⟩ := h
    rw [Reps.bools h2, List.map_cons]
def sumD : List D → Option D | [.lst ds] => (asInts ds).map fun ns => .int ns.sum | _ => none
theorem cd_sum : CallD K (rSum K) sumD := by
  intro G H ds d vs Q s r e q
  unfold sumD at e
  split at e
  · rename_i ds'
    obtain ⟨v, rfl, r1⟩ := reps1 r
    simp only [Rep] at r1
    obtain ⟨a, us, rfl, h1, q1⟩ := r1
    cases h : asInts ds' with
    | none => rw [h] at e; cases e
    | some ns =>
      rw [h] at e; cases e
      rw [asInts_eq h] at q1
      refine ⟨a, ns, rfl, ?_, q _ H G (PStp.refl s) (rep_int _)⟩
      rw [← q1.ints]
      exact SqL.of (s _ _ h1)
  · cases e
def allD : List D → Option D | [.lst ds] => (asBools ds).map fun ns => .bl (ns.all id) | _ => none
def anyD : List D → Option D | [.lst ds] => (asBools ds).map fun ns => .bl (ns.any id) | _ => none
theorem cd_all : CallD K (rAll K) allD := by
  intro G H ds d vs Q s r e q
  unfold allD at e
  split at e
  · rename_i ds'
    obtain ⟨v, rfl, r1⟩ := reps1 r
    simp only [Rep] at r1
    obtain ⟨a, us, rfl, h1, q1⟩ := r1
    cases h : asBools ds' with
    | none => rw [h] at e; cases e
    | some ns =>
      rw [h] at e; cases e
      rw [asBools_eq h] at q1
      refine ⟨a, ns, rfl, ?_, q _ H G (PStp.refl s) (rep_bl _)⟩
      rw [← q1.bools]
      exact SqL.of (s _ _ h1)
  · cases e
theorem cd_any : CallD K (rAny K) anyD := by
  intro G H ds d vs Q s r e q
  unfold anyD at e
  split at e
  · rename_i ds'
    obtain ⟨v, rfl, r1⟩ := reps1 r
    simp only [Rep] at r1
    obtain ⟨a, us, rfl, h1, q1⟩ := r1
    cases h : asBools ds' with
    | none => rw [h] at e; cases e
    | some ns =>
      rw [h] at e; cases e
      rw [asBools_eq h] at q1
      refine ⟨a, ns, rfl, ?_, q _ H G (PStp.refl s) (rep_bl _)⟩
      rw [← q1.bools]
      exact SqL.of (s _ _ h1)
  · cases e
/-! isinstance with built-in types -/
def tyD : D → Option String
  | .non => some "NoneType"
  | .bl _ => some "bool"
  | .int _ => some "int"
  | .str _ => some "str"
  | .tup _ => some "tuple"
  | .lst _ => some "list"
  | .dic _ _ => some "dict"
  | _ => none
theorem tyX_of {G H : Hp} {d : D} {v : V} {t : String} (s : Same G H) (r : Rep K G d v) (h : tyD d = some t) : TyX K H v (.type t) := by
  cases d with
  | non => simp only [Rep] at r; subst r; cases h; exact .base .non
  | bl b => simp only [Rep] at r; subst r; cases h; exact .base (.bl b)
  | int b => simp only [Rep] at r; subst r; cases h; exact .base (.int b)
  | str b => simp only [Rep] at r; subst r; cases h; exact .base (.str b)
  | tup ds =>
    simp only [Rep] at r
    obtain ⟨a, vs, rfl, q, _⟩ := r
    cases h
    rcases q with (q | ⟨o, q⟩) | ⟨o, its, n, q, c, _⟩
    · exact .base (.tup (s _ _ q))
    · exact .fTuple (s _ _ q)
    · exact .kTuple q c
  | lst ds =>
    simp only [Rep] at r
    obtain ⟨a, vs, rfl, q, _⟩ := r
    cases h
    exact .base (.lst (s _ _ q))
  | scr _ => cases h
  | con _ => cases h
  | ins _ _ => cases h
  | dic ks ds =>
    simp only [Rep] at r
    obtain ⟨a, us, vs, rfl, l, q, _⟩ := r
    cases h
    exact .base (.dK (s _ _ q))
/-- what isinstance says of two built-in types, as far as it is asked here -/
def kitT (t c : String) : Option Bool := kitB t c
def isiD : List D → Option D
  | [d, .con (.ty c)] => (tyD d).bind fun t => (kitB t c).map D.bl
  | _ => none
theorem cd_isi : CallD K (rIsi K) isiD := by
  intro G H ds d vs Q s r e q
  unfold isiD at e
  split at e
  · rename_i d1 c
    obtain ⟨v, u, rfl, r1, r2⟩ := reps2 r
    simp only [Rep] at r2
    subst r2
    cases h : tyD d1 with
    | none => rw [h] at e; cases e
    | some t =>
      rw [h] at e
      dsimp only [Option.bind] at e
      cases h2 : kitB t c with
      | none => rw [h2] at e; cases e
      | some b =>
        rw [h2] at e; cases e
        exact ⟨v, .ty c, .type t, .type c, b, rfl, .ty c, tyX_of s r1 h, kit_ty h2, q _ H G (PStp.refl s) (rep_bl _)⟩
  · cases e
end
end M

namespace M
open PySem PySem.Spec L2
def small62 (i : Int) : Bool := !iLt i (-4611686018427387904) && iLt i 4611686018427387904
theorem small62_iff {i : Int} : small62 i = true ↔ -(2 ^ 62) ≤ i ∧ i < 2 ^ 62 := by
  unfold small62
  rw [Bool.and_eq_true, not_iLt, iLt_eq, decide_eq_true_eq, decide_eq_true_eq]
  omega
variable [Tabs]

/-! ### names bound -/
section
variable {K : PySem.W.Frag} {σ : L2.St} {ρ : Rho} {G H : Hp}
theorem get_set {α : Type} {l : List α} {i j : Nat} {x y : α} (h : (l.set i x)[j]? = some y) : (i = j ∧ y = x) ∨ (i ≠ j ∧ l[j]? = some y) := by
  by_cases e : i = j
  · subst e
    left
    refine ⟨rfl, ?_⟩
    rw [List.getElem?_set_self' ] at h
    cases q : l[i]? with
    | none => rw [q] at h; cases h
    | some z => rw [q] at h; cases h; rfl
  · exact .inr ⟨e, by rw [List.getElem?_set_ne e] at h; exact h⟩
theorem OwnAt.of_set {i : Nat} {d : D} {v : Option V} {a : Addr} (h : OwnAt (σ.set i v) (ρ.set i (some (.dat d))) a) : OwnAt σ ρ a := by
  obtain ⟨j, io, ds, h1, h2⟩ := h
  rcases get_set h1 with ⟨_, e⟩ | ⟨n, h1⟩
  · cases e
  · rcases get_set h2 with ⟨e, _⟩ | ⟨_, h2⟩
    · exact absurd e n
    · exact ⟨j, io, ds, h1, h2⟩
theorem OwnN.of_set {i : Nat} {d : D} {v : Option V} {a : Addr} (h : OwnN (σ.set i v) (ρ.set i (some (.dat d))) a) : OwnN σ ρ a := by
  obtain ⟨j, ds, h1, h2⟩ := h
  rcases get_set h1 with ⟨_, e⟩ | ⟨n, h1⟩
  · cases e
  · rcases get_set h2 with ⟨e, _⟩ | ⟨_, h2⟩
    · exact absurd e n
    · exact ⟨j, ds, h1, h2⟩
/-- a name that was handed in -/
def isIo (ρ : Rho) (i : Nat) : Bool := match ρ[i]? with | some (some (.own true _)) => true | _ => false
theorem SR.set {i : Nat} {d : D} {v : V} (I : SR K G H σ ρ) (r : Rep K G d v) : SR K G H (σ.set i (some v)) (ρ.set i (some (.dat d))) where
  tab := I.tab
  lam := I.lam
  len := by rw [List.length_set, List.length_set]; exact I.len
  sub := I.sub
  slot := fun j s o h1 h2 => by
    rcases get_set h1 with ⟨e, q1⟩ | ⟨n, q1⟩
    · subst e; subst q1
      rcases get_set h2 with ⟨_, q2⟩ | ⟨n, _⟩
      · subst q2; exact ⟨v, rfl, r⟩
      · exact absurd rfl n
    · rcases get_set h2 with ⟨e, _⟩ | ⟨_, q2⟩
      · exact absurd e n
      · exact I.slot j s o q1 q2
  inj := fun j k io jo ds es a h1 h2 h3 h4 => by
    rcases get_set h1 with ⟨_, e⟩ | ⟨n1, h1⟩
    · cases e
    rcases get_set h2 with ⟨_, e⟩ | ⟨n2, h2⟩
    · cases e
    rcases get_set h3 with ⟨e, _⟩ | ⟨_, h3⟩
    · exact absurd e n1
    rcases get_set h4 with ⟨e, _⟩ | ⟨_, h4⟩
    · exact absurd e n2
    exact I.inj j k io jo ds es a h1 h2 h3 h4
theorem Stp.set {i : Nat} {d : D} {v : V} (hi : isIo ρ i = false) : Stp σ ρ G H (σ.set i (some v)) (ρ.set i (some (.dat d))) G H where
  sub := fun _ _ h => h
  new := fun _ _ _ => rfl
  keep := fun _ _ h _ _ => h
  grow := Grow.refl _
  dom := fun _ h => h
  own := fun a h => .inl h.of_set
  ownN := fun a h => .inl h.of_set
  stay := fun j ds h => by
    have n : i ≠ j := fun e => by
      subst e
      unfold isIo at hi
      rw [h] at hi
      cases hi
    rw [List.getElem?_set_ne n, List.getElem?_set_ne n]
    exact ⟨rfl, ds, h⟩
end

/-! ### statements -/
inductive Fl where
  | nx | bk | ct | rt (s : Sl)
abbrev FS := Rho → Rz (Fl × Rho)
/-- what is handed back -/
def RetR (K : PySem.W.Frag) (σ : L2.St) (ρ : Rho) (H G' H' : Hp) (v : V) : Sl → Prop
  | .dat d => Rep K G' d v
  | .own io ds => io = false ∧ ∃ p us, v = .ref p ∧ H' p = some (.lst us) ∧ G' p = none ∧ Reps K G' ds us ∧ (OwnN σ ρ p ∨ H p = none)
def OutS (K : PySem.W.Frag) (Dn : Ends) (σ : L2.St) (ρ : Rho) (G H : Hp) : Rz (Fl × Rho) → Prop
  | .ok (.nx, ρ') => ∀ σ' H' G', Stp σ ρ G H σ' ρ' G' H' → SR K G' H' σ' ρ' → Dn.nx σ' H'
  | .ok (.bk, ρ') => ∀ σ' H' G', Stp σ ρ G H σ' ρ' G' H' → SR K G' H' σ' ρ' → Dn.bk σ' H'
  | .ok (.ct, ρ') => ∀ σ' H' G', Stp σ ρ G H σ' ρ' G' H' → SR K G' H' σ' ρ' → Dn.ct σ' H'
  | .ok (.rt s, ρ') => ∀ v σ' H' G', Stp σ ρ G H σ' ρ' G' H' → SR K G' H' σ' ρ' → RetR K σ ρ H G' H' v s → Dn.rt v H'
  | .ex _ _ => False
  | .no => False
def rdSK (K : PySem.W.Frag) (g : FS) (Dn : Ends) (σ : L2.St) (ρ : Rho) (G H : Hp) : Prop := OutS K Dn σ ρ G H (g ρ)
def rdS (K : PySem.W.Frag) (g : FS) : TS := fun Dn σ H => ∃ ρ G, SR K G H σ ρ ∧ rdSK K g Dn σ ρ G H
section
variable {K : PySem.W.Frag} {σ : L2.St} {ρ : Rho} {G H : Hp}
theorem rdS_of {g : FS} {Dn : Ends} (I : SR K G H σ ρ) (h : rdSK K g Dn σ ρ G H) : rdS K g Dn σ H := ⟨ρ, G, I, h⟩
theorem RetR.back {σ1 : L2.St} {ρ1 : Rho} {G1 H1 G' H' : Hp} {v : V} {s : Sl} (st : Stp σ ρ G H σ1 ρ1 G1 H1) (r : RetR K σ1 ρ1 H1 G' H' v s) : RetR K σ ρ H G' H' v s := by
  cases s with
  | dat d => exact r
  | own io ds =>
    obtain ⟨e, p, us, e1, e2, e3, e4, e5⟩ := r
    refine ⟨e, p, us, e1, e2, e3, e4, ?_⟩
    rcases e5 with z | z
    · exact st.ownN p z
    · right
      cases q : H p with
      | none => rfl
      | some o => exact absurd z (st.dom p (by rw [q]; exact fun z => by cases z))
/-- what follows a step -/
theorem rdSK_after {σ1 : L2.St} {ρ1 : Rho} {G1 H1 : Hp} {g : FS} {Dn : Ends} (st : Stp σ ρ G H σ1 ρ1 G1 H1) (h : OutS K Dn σ ρ G H (g ρ1)) : rdSK K g Dn σ1 ρ1 G1 H1 := by
  unfold rdSK
  cases e : g ρ1 with
  | ok p =>
    obtain ⟨f, ρ2⟩ := p
    rw [e] at h
    cases f with
    | nx => exact fun σ' H' G' a b => h σ' H' G' (st.trans a) b
    | bk => exact fun σ' H' G' a b => h σ' H' G' (st.trans a) b
    | ct => exact fun σ' H' G' a b => h σ' H' G' (st.trans a) b
    | rt s => exact fun v σ' H' G' a b c => h v σ' H' G' (st.trans a) b (c.back st)
  | ex _ _ => rw [e] at h; exact h
  | no => rw [e] at h; exact h
/-- an expression, then what is done with it -/
def bndS (fa : FE) (k : D → FS) : FS := fun ρ => (fa ρ).bind fun p => k p.1 p.2
def bndTS (fa : FT) (k : Bool → FS) : FS := fun ρ => (fa ρ).bind fun p => k p.1 p.2
theorem rdSK_bnd {fa : FE} {k : D → FS} {Dn : Ends} (h : rdSK K (bndS fa k) Dn σ ρ G H) :
    rdK K fa σ ρ G H fun v H1 => ∃ d ρ1 G1, Stp σ ρ G H σ ρ1 G1 H1 ∧ SR K G1 H1 σ ρ1 ∧ Rep K G1 d v ∧ rdSK K (k d) Dn σ ρ1 G1 H1 := by
  unfold rdSK bndS at h
  unfold rdK
  cases e : fa ρ with
  | ok p =>
    obtain ⟨d, ρ1⟩ := p
    rw [e] at h
    dsimp only [Rz.bind] at h ⊢
    intro v H1 G1 a b c
    exact ⟨d, ρ1, G1, a, b, c, rdSK_after a h⟩
  | ex _ _ => rw [e] at h; exact h
  | no => rw [e] at h; exact h
theorem rdSK_bndT {fa : FT} {k : Bool → FS} {Dn : Ends} (h : rdSK K (bndTS fa k) Dn σ ρ G H) :
    rdTK K fa σ ρ G H fun b H1 => ∃ ρ1 G1, Stp σ ρ G H σ ρ1 G1 H1 ∧ SR K G1 H1 σ ρ1 ∧ rdSK K (k b) Dn σ ρ1 G1 H1 := by
  unfold rdSK bndTS at h
  unfold rdTK
  cases e : fa ρ with
  | ok p =>
    obtain ⟨d, ρ1⟩ := p
    rw [e] at h
    dsimp only [Rz.bind] at h ⊢
    intro H1 G1 a b
    exact ⟨ρ1, G1, a, b, rdSK_after a h⟩
  | ex _ _ => rw [e] at h; exact h
  | no => rw [e] at h; exact h
end
def sNx : FS := fun ρ => .ok (.nx, ρ)
def sBk : FS := fun ρ => .ok (.bk, ρ)
def sCt : FS := fun ρ => .ok (.ct, ρ)
def sNo : FS := fun _ => .no
def sSet (i : Nat) (fa : FE) : FS := bndS fa fun d => fun ρ => if isIo ρ i = true then .no else .ok (.nx, ρ.set i (some (.dat d)))
def sDrop (fa : FE) : FS := bndS fa fun _ => sNx
def sRet (fa : FE) : FS := bndS fa fun d => fun ρ => .ok (.rt (.dat d), ρ)
def sRetN : FS := fun ρ => .ok (.rt (.dat .non), ρ)
def sSeq (a b : FS) : FS := fun ρ => (a ρ).bind fun p => match p.1 with | .nx => b p.2 | f => .ok (f, p.2)
def sIf (t : FT) (a b : FS) : FS := bndTS t fun c => if c = true then a else b
section
variable {X : Cx} {e c : Expr} {fa fb : FE} {ft : FT} {pos : Pos} {st : Stmt} {rest a b : List Stmt} {ga gb : FS}
theorem dss_nil : PSs X [] (rdS X.K sNx) := pss_imp pss_nil fun D σ H ⟨ρ, G, I, h⟩ => h σ H G (Stp.refl _ _ _ _) I
theorem ds_pass : PS X (.Pass pos) (rdS X.K sNx) := ps_imp ps_pass fun D σ H ⟨ρ, G, I, h⟩ => h σ H G (Stp.refl _ _ _ _) I
theorem ds_break : PS X (.Break pos) (rdS X.K sBk) := ps_imp ps_break fun D σ H ⟨ρ, G, I, h⟩ => h σ H G (Stp.refl _ _ _ _) I
theorem ds_cont : PS X (.Continue pos) (rdS X.K sCt) := ps_imp ps_continue fun D σ H ⟨ρ, G, I, h⟩ => h σ H G (Stp.refl _ _ _ _) I
theorem ds_never : PS X st (rdS X.K sNo) := ps_imp ps_never fun D σ H ⟨ρ, G, I, h⟩ => h
theorem dss_one (h : PS X st (rdS X.K ga)) : PSs X [st] (rdS X.K ga) := pss_one h
theorem dss_cons (h : PS X st (rdS X.K ga)) (t : PSs X rest (rdS X.K gb)) : PSs X (st :: rest) (rdS X.K (sSeq ga gb)) := by
  refine pss_imp (pss_cons h t) fun D σ H ⟨ρ, G, I, q⟩ => ?_
  refine rdS_of I ?_
  unfold rdSK sSeq at q
  unfold rdSK
  cases e : ga ρ with
  | ok p =>
    obtain ⟨f, ρ1⟩ := p
    rw [e] at q
    dsimp only [Rz.bind] at q ⊢
    cases f with
    | nx => exact fun σ' H' G' s1 I1 => rdS_of I1 (rdSK_after s1 q)
    | bk => exact q
    | ct => exact q
    | rt s => exact q
  | ex _ _ => rw [e] at q; exact q
  | no => rw [e] at q; exact q
theorem ds_set (i : Nat) {x : Str} {pos' : Pos} (he : PE X e (rd X.K fa)) (hN : X.N.Nodup) (hi : X.N[i]? = some x := by rfl) (hx : Loc X.env.scope x := by first | exact .inl rfl | exact .inr rfl) (hs : swapsWith e (some (.Name x pos')) pos.line X.env = pure false := by rfl)
    (hf : X.fn x = true ∨ X.env.scope.names.lookup x = some .local := by first | exact .inl rfl | exact .inr rfl | assumption) : PS X (.Assign [.Name x pos'] e pos) (rdS X.K (sSet i fa)) := by
  refine ps_imp (ps_set hN hi hx he hs hf) fun D σ H ⟨ρ, G, I, h⟩ => ?_
  refine rd_of I (rdK_mono (rdSK_bnd h) fun v H1 ⟨d, ρ1, G1, s1, I1, r1, h1⟩ => ?_)
  unfold rdSK at h1
  by_cases z : isIo ρ1 i = true
  · simp only [if_pos z] at h1
    exact False.elim h1
  · simp only [if_neg z] at h1
    exact h1 _ H1 G1 (Stp.set (by simpa using z)) (I1.set r1)
theorem ds_expr (he : PE X e (rd X.K fa)) (hs : swapsWith e none pos.line X.env = pure false := by rfl) : PS X (.Expr e pos) (rdS X.K (sDrop fa)) := by
  refine ps_imp (ps_expr he hs) fun D σ H ⟨ρ, G, I, h⟩ => ?_
  refine rd_of I (rdK_mono (rdSK_bnd h) fun v H1 ⟨d, ρ1, G1, s1, I1, r1, h1⟩ => ?_)
  exact h1 σ H1 G1 (Stp.refl _ _ _ _) I1
theorem ds_ret (he : PE X e (rd X.K fa)) : PS X (.Return (some e) pos) (rdS X.K (sRet fa)) := by
  refine ps_imp (ps_ret he) fun D σ H ⟨ρ, G, I, h⟩ => ?_
  refine rd_of I (rdK_mono (rdSK_bnd h) fun v H1 ⟨d, ρ1, G1, s1, I1, r1, h1⟩ => ?_)
  exact h1 v σ H1 G1 (Stp.refl _ _ _ _) I1 r1
theorem ds_retN : PS X (.Return none pos) (rdS X.K sRetN) := ps_imp ps_retN fun D σ H ⟨ρ, G, I, h⟩ => h .non σ H G (Stp.refl _ _ _ _) I (rep_non (K := X.K) (G := G))
theorem ds_if (hc : PT X c (rdT X.K ft)) (ha : PSs X a (rdS X.K ga)) (hb : PSs X b (rdS X.K gb)) : PS X (.If c a b pos) (rdS X.K (sIf ft ga gb)) := by
  refine ps_imp (ps_if hc ha hb) fun D σ H ⟨ρ, G, I, h⟩ => ?_
  refine rdT_of I (rdTK_mono (rdSK_bndT h) fun d H1 ⟨ρ1, G1, s1, I1, h1⟩ => ?_)
  cases d with
  | true => exact rdS_of I1 h1
  | false => exact rdS_of I1 h1
end

/-! ### targets -/
/-- the names that a target binds -/
def Only (is : List Nat) (σ σ' : L2.St) : Prop := σ'.length = σ.length ∧ ∀ k, k ∉ is → σ'[k]? = σ[k]?
abbrev TgD := D → Rho → Option Rho
def rdG (K : PySem.W.Frag) (is : List Nat) (tg : TgD) : TG := fun v σ H Q => ∃ ρ G d, SR K G H σ ρ ∧ Rep K G d v ∧ ∃ ρ', tg d ρ = some ρ' ∧
  ∀ σ', Stp σ ρ G H σ' ρ' G H → SR K G H σ' ρ' → Only is σ σ' → Q σ' H
def tName (i : Nat) : TgD := fun d ρ => if isIo ρ i = true then none else some (ρ.set i (some (.dat d)))
/-- i, j = .. -/
def tPair (i j : Nat) : TgD := fun d ρ => match d with | .tup [a, b] => (tName i a ρ).bind (tName j b) | _ => none
theorem Only.refl {is : List Nat} {σ : L2.St} : Only is σ σ := ⟨rfl, fun _ _ => rfl⟩
theorem Only.set {is : List Nat} {σ σ' : L2.St} (h : Only is σ σ') {i : Nat} (hi : i ∈ is) {v : Option V} : Only is σ (σ'.set i v) :=
  ⟨by rw [List.length_set]; exact h.1, fun k hk => by rw [List.getElem?_set_ne (fun e => hk (by rw [← e]; exact hi))]; exact h.2 k hk⟩
section
variable {X : Cx} {pos : Pos}
theorem dg_name (i : Nat) {x : Str} {is : List Nat} (hin : i ∈ is) (hN : X.N.Nodup) (hi : X.N[i]? = some x := by rfl) (hx : Loc X.env.scope x := by first | exact .inl rfl | exact .inr rfl) (hf : X.fn x = true ∨ X.env.scope.names.lookup x = some .local := by first | exact .inl rfl | exact .inr rfl | assumption) :
    PG X (.Name x pos) (rdG X.K is (tName i)) := by
  refine ⟨fun pins s σ H v u Q I r ⟨ρ, G, d, J, rd, ρ', e, q⟩ => ?_⟩
  refine (pg_name hN hi hx hf).run pins s σ H v u Q I r ?_
  unfold tName at e
  split at e
  · cases e
  · rename_i z
    cases e
    exact q _ (Stp.set (by simpa using z)) (J.set rd) (Only.refl.set hin)
theorem dg_pair (i j : Nat) {x y : Str} {is : List Nat} {k : Nat} {px py : Pos} (hin : i ∈ is) (hjn : j ∈ is) (hc : X.calm = true) (hN : X.N.Nodup) (hi : X.N[i]? = some x := by rfl) (hj : X.N[j]? = some y := by rfl) (hx : Loc X.env.scope x := by first | exact .inl rfl | exact .inr rfl)
    (hy : Loc X.env.scope y := by first | exact .inl rfl | exact .inr rfl) (hf : X.fn x = true ∨ X.env.scope.names.lookup x = some .local := by first | exact .inl rfl | exact .inr rfl | assumption)
    (hg : X.fn y = true ∨ X.env.scope.names.lookup y = some .local := by first | exact .inl rfl | exact .inr rfl | assumption) :
    PG X (.Tuple [.Name x px, .Name y py] k pos) (rdG X.K is (tPair i j)) := by
  refine ⟨fun pins s σ H v u Q I r ⟨ρ, G, d, J, rd, ρ', e, q⟩ => ?_⟩
  refine (pg_tup hc (pgs_cons (pg_name hN hi hx hf) (pgs_cons (pg_name hN hj hy hg) pgs_nil))).run pins s σ H v u Q I r ?_
  unfold tPair at e
  split at e
  · rename_i d1 d2
    simp only [Rep, Reps] at rd
    obtain ⟨a, vs, rfl, h1, v1, r1, rfl, q1, v2, r2, rfl, q2, rfl⟩ := rd
    refine ⟨a, [v1, v2], rfl, SqT.mono J.sub h1, rfl, v1, [v2], rfl, v2, [], rfl, rfl, ?_⟩
    unfold tName at e
    by_cases z : isIo ρ i = true
    · rw [if_pos z] at e; cases e
    · rw [if_neg z] at e
      simp only [Option.bind] at e
      by_cases z2 : isIo (ρ.set i (some (.dat d1))) j = true
      · rw [if_pos z2] at e; cases e
      · rw [if_neg z2] at e
        cases e
        have I1 := J.set (i := i) q1
        exact q _ ((Stp.set (by simpa using z)).trans (Stp.set (by simpa using z2))) (I1.set q2) ((Only.refl.set hin).set hjn)
  · cases e
end

/-! ### what is walked -/
/-- J yields these data -/
def ItD (K : PySem.W.Frag) (G0 : Hp) (J : It) (ds : List D) : Prop := ∀ (i : Nat) (G H : Hp), Same G0 G → Same G H →
  (∀ d, ds[i]? = some d → J.go i H ∧ ∀ x H', J.yld i H x H' → ∃ G', PStp G H G' H' ∧ Rep K G' d x) ∧ (ds.length = i → J.stop i H)
abbrev FI := Rho → Rz (List D × Rho)
def rdIK (K : PySem.W.Frag) (fi : FI) (σ : L2.St) (ρ : Rho) (G H : Hp) (R : It → Hp → Prop) : Prop := match fi ρ with
  | .ok (ds, ρ') => ∀ J H' G', Stp σ ρ G H σ ρ' G' H' → SR K G' H' σ ρ' → ItD K G' J ds → R J H'
  | .ex _ _ => False
  | .no => False
def rdI (K : PySem.W.Frag) (fi : FI) : TI := fun σ H R => ∃ ρ G, SR K G H σ ρ ∧ rdIK K fi σ ρ G H R
section
variable {X : Cx}
theorem pi_imp {tg iter : Expr} {w w' : TI} (h : PI X tg iter w) (hi : ∀ σ H R, w' σ H R → w σ H R) : PI X tg iter w' := ⟨fun pins s σ H R I q => h.run pins s σ H R I (hi σ H R q)⟩
theorem itD_list {K : PySem.W.Frag} {G0 : Hp} {a : Addr} {vs : List V} {ds : List D} (h : SqL K G0 a vs) (r : Reps K G0 ds vs) : ItD K G0 (Itl K a) ds := by
  intro i G H s1 s2
  have hH := SqL.mono s2 (SqL.mono s1 h)
  refine ⟨fun d e => ?_, fun e => ⟨vs, hH, by rw [r.length]; exact Nat.le_of_eq e⟩⟩
  obtain ⟨v, e1, rv⟩ := r.get e
  refine ⟨⟨vs, v, hH, e1⟩, fun x H' y => ?_⟩
  obtain ⟨rfl, y⟩ := y
  have := y vs hH
  rw [e1] at this
  cases this
  exact ⟨G, PStp.refl s2, Rep.mono s1 _ _ rv⟩
theorem itD_tup {K : PySem.W.Frag} {G0 : Hp} {a : Addr} {vs : List V} {ds : List D} (h : SqT K G0 a vs) (r : Reps K G0 ds vs) : ItD K G0 (Itt K a) ds := by
  intro i G H s1 s2
  have hH := SqT.mono s2 (SqT.mono s1 h)
  refine ⟨fun d e => ?_, fun e => ⟨vs, hH, by rw [r.length]; exact Nat.le_of_eq e⟩⟩
  obtain ⟨v, e1, rv⟩ := r.get e
  refine ⟨⟨vs, v, hH, e1⟩, fun x H' y => ?_⟩
  obtain ⟨rfl, y⟩ := y
  have := y vs hH
  rw [e1] at this
  cases this
  exact ⟨G, PStp.refl s2, Rep.mono s1 _ _ rv⟩
def rgD (lo : Int) (n : Nat) : List D := (List.range n).map fun i => D.int (lo + (i : Nat))
theorem rgD_get {lo : Int} {n i : Nat} {d : D} (h : (rgD lo n)[i]? = some d) : i < n ∧ d = .int (lo + (i : Nat)) := by
  unfold rgD at h
  rw [List.getElem?_map] at h
  by_cases z : i < n
  · rw [List.getElem?_range z] at h
    cases h
    exact ⟨z, rfl⟩
  · rw [List.getElem?_eq_none (by simpa using z)] at h
    cases h
theorem itD_range {K : PySem.W.Frag} {G0 : Hp} (lo : Int) (n : Nat) : ItD K G0 (Itr lo n) (rgD lo n) := by
  intro i G H s1 s2
  refine ⟨fun d e => ?_, fun e => ?_⟩
  · obtain ⟨z, rfl⟩ := rgD_get e
    refine ⟨z, fun x H' y => ?_⟩
    obtain ⟨rfl, rfl⟩ := y
    exact ⟨G, PStp.refl s2, rep_int _⟩
  · unfold rgD at e
    rw [List.length_map, List.length_range] at e
    exact Nat.le_of_eq e
/-- a tuple, a list -/
def iSeq (fa : FE) : FI := fun ρ => (fa ρ).bind fun p => match p.1 with | .tup ds => .ok (ds, p.2) | .lst ds => .ok (ds, p.2) | _ => .no
theorem pi_or {tg iter : Expr} {w w' : TI} (h : PI X tg iter w) (h' : PI X tg iter w') : PI X tg iter (fun σ H R => w σ H R ∨ w' σ H R) := ⟨fun pins s σ H R I q => q.elim (h.run pins s σ H R I) (h'.run pins s σ H R I)⟩
theorem di_seq {tg l : Expr} {fa : FE} (hl : PE X l (rd X.K fa)) : PI X tg l (rdI X.K (iSeq fa)) := by
  refine pi_imp (pi_or (pi_list hl) (pi_tup hl)) fun σ H R ⟨ρ, G, I, h⟩ => ?_
  unfold rdIK iSeq at h
  cases e : fa ρ with
  | ok p =>
    obtain ⟨d, ρ1⟩ := p
    rw [e] at h
    dsimp only [Rz.bind] at h
    cases d with
    | tup ds =>
      right
      refine rd_of I ?_
      unfold rdK
      rw [e]
      intro v H1 G1 s1 I1 r1
      simp only [Rep] at r1
      obtain ⟨a, vs, rfl, h1, q1⟩ := r1
      exact ⟨a, rfl, ⟨vs, SqT.mono I1.sub h1⟩, h _ H1 G1 s1 I1 (itD_tup h1 q1)⟩
    | lst ds =>
      left
      refine rd_of I ?_
      unfold rdK
      rw [e]
      intro v H1 G1 s1 I1 r1
      simp only [Rep] at r1
      obtain ⟨a, vs, rfl, h1, q1⟩ := r1
      exact ⟨a, rfl, ⟨vs, SqL.of (I1.sub _ _ h1)⟩, h _ H1 G1 s1 I1 (itD_list (SqL.of h1) q1)⟩
    | _ => exact h.elim
  | ex _ _ => rw [e] at h; exact h.elim
  | no => rw [e] at h; exact h.elim
def rg1 : List D → Option (List D)
  | [.int j] => if small62 j = true then some (rgD 0 j.toNat) else none
  | _ => none
def rg2 : List D → Option (List D)
  | [.int i, .int j] => if small62 i = true ∧ small62 j = true then some (rgD i (j - i).toNat) else none
  | _ => none
theorem rg1_of {ds es : List D} (h : rg1 ds = some es) : ∃ j, ds = [.int j] ∧ -(2 ^ 62) ≤ j ∧ j < 2 ^ 62 ∧ es = rgD 0 j.toNat := by
  unfold rg1 at h
  split at h
  · rename_i j
    split at h
    · rename_i z
      cases h
      have z := small62_iff.mp z
      exact ⟨j, rfl, z.1, z.2, rfl⟩
    · cases h
  · cases h
theorem rg2_of {ds es : List D} (h : rg2 ds = some es) : ∃ i j, ds = [.int i, .int j] ∧ (-(2 ^ 62) ≤ i ∧ i < 2 ^ 62 ∧ -(2 ^ 62) ≤ j ∧ j < 2 ^ 62) ∧ es = rgD i (j - i).toNat := by
  unfold rg2 at h
  split at h
  · rename_i i j
    split at h
    · rename_i z
      cases h
      have z1 := small62_iff.mp z.1
      have z2 := small62_iff.mp z.2
      exact ⟨i, j, rfl, ⟨z1.1, z1.2, z2.1, z2.2⟩, rfl⟩
    · cases h
  · cases h
def iRg (rg : List D → Option (List D)) (f : FA) : FI := fun ρ => (f ρ).bind fun p => match rg p.1 with | some ds => .ok (ds, p.2) | none => .no
theorem di_range1 {tg a : Expr} {fs : FA} {p pos : Pos} (hg : Gl X "range") (hm : X.mg "range" = none) (ha : PA X [a] (rdA X.K fs)) (hs : starEach [a] X.env = [(false, eval a X.env)] := by rfl) : PI X tg (.Call (.Name "range" p) [a] [] pos) (rdI X.K (iRg rg1 fs)) := by
  refine pi_imp (pi_range1 hg hm ha hs) fun σ H R ⟨ρ, G, I, h⟩ => ?_
  unfold rdIK iRg at h
  refine rdA_of I ?_
  unfold rdAK
  cases e : fs ρ with
  | ok q =>
    obtain ⟨ds, ρ1⟩ := q
    rw [e] at h
    dsimp only [Rz.bind] at h ⊢
    intro vs H1 G1 s1 I1 r1
    cases q : rg1 ds with
    | none => rw [q] at h; exact h.elim
    | some es =>
      rw [q] at h
      obtain ⟨j, rfl, z1, z2, rfl⟩ := rg1_of q
      obtain ⟨v, rfl, rv⟩ := reps1 r1
      simp only [Rep] at rv
      subst rv
      exact ⟨j, rfl, z1, z2, h _ H1 G1 s1 I1 (itD_range _ _)⟩
  | ex _ _ => rw [e] at h; exact h.elim
  | no => rw [e] at h; exact h.elim
theorem di_range2 {tg a b : Expr} {fs : FA} {p pos : Pos} (hg : Gl X "range") (hm : X.mg "range" = none) (ha : PA X [a, b] (rdA X.K fs)) (hs : starEach [a, b] X.env = [(false, eval a X.env), (false, eval b X.env)] := by rfl) (hs2 : starEach [b] X.env = [(false, eval b X.env)] := by rfl) :
    PI X tg (.Call (.Name "range" p) [a, b] [] pos) (rdI X.K (iRg rg2 fs)) := by
  refine pi_imp (pi_range2 hg hm ha hs hs2) fun σ H R ⟨ρ, G, I, h⟩ => ?_
  unfold rdIK iRg at h
  refine rdA_of I ?_
  unfold rdAK
  cases e : fs ρ with
  | ok q =>
    obtain ⟨ds, ρ1⟩ := q
    rw [e] at h
    dsimp only [Rz.bind] at h ⊢
    intro vs H1 G1 s1 I1 r1
    cases q : rg2 ds with
    | none => rw [q] at h; exact h.elim
    | some es =>
      rw [q] at h
      obtain ⟨i, j, rfl, z1, rfl⟩ := rg2_of q
      obtain ⟨v, u, rfl, rv, ru⟩ := reps2 r1
      simp only [Rep] at rv ru
      subst rv; subst ru
      exact ⟨i, j, rfl, z1, h _ H1 G1 s1 I1 (itD_range _ _)⟩
  | ex _ _ => rw [e] at h; exact h.elim
  | no => rw [e] at h; exact h.elim
end

/-! ### for, while -/
def forL (tg : TgD) (body : FS) : List D → FS
  | [], ρ => .ok (.nx, ρ)
  | d :: ds, ρ => frc d fun d => nrmR ρ fun ρ => match tg d ρ with
    | none => .no
    | some ρ1 => (body ρ1).bind fun p => match p.1 with | .nx => forL tg body ds p.2 | .ct => forL tg body ds p.2 | .bk => .ok (.nx, p.2) | .rt s => .ok (.rt s, p.2)
def sFor (fi : FI) (tg : TgD) (body : FS) : FS := fun ρ => (fi ρ).bind fun p => forL tg body p.1 p.2
def whl (t : FT) (body : FS) : Nat → FS
  | 0, _ => .no
  | n + 1, ρ => nrmR ρ fun ρ => (t ρ).bind fun c => if c.1 = true then (body c.2).bind fun p => match p.1 with | .nx => whl t body n p.2 | .ct => whl t body n p.2 | .bk => .ok (.nx, p.2) | .rt s => .ok (.rt s, p.2) else .ok (.nx, c.2)
section
variable {X : Cx} {pos : Pos}
theorem ds_for {iter tgt : Expr} {body : List Stmt} {fi : FI} {is : List Nat} {tg : TgD} {g : FS} (hp : PassesOwn (model X.prog X.w) X.A X.env X.xe) (hc : X.calm = true) (hi : PI X tgt iter (rdI X.K fi)) (hg : PG X tgt (rdG X.K is tg)) (hb : PSs X body (rdS X.K g))
    (hs : ∀ x, foldedSetIterable iter X.env x = pure x := by intro _; rfl) : PS X (.For tgt iter body [] pos) (rdS X.K (sFor fi tg g)) := by
  refine ps_imp (ps_for hp hc hi hg hb hs) fun D σ H ⟨ρ, G, I, h⟩ => ?_
  refine ⟨ρ, G, I, ?_⟩
  unfold rdSK sFor at h
  unfold rdIK
  cases e : fi ρ with
  | ex _ _ => rw [e] at h; exact h
  | no => rw [e] at h; exact h
  | ok p =>
    obtain ⟨ds, ρ1⟩ := p
    rw [e] at h
    dsimp only [Rz.bind] at h ⊢
    intro J H1 G1 s1 I1 hJ
    have h1 : rdSK X.K (forL tg g ds) D σ ρ1 G1 H1 := rdSK_after s1 h
    refine ⟨fun i m σ' H' => m = ds.length - i ∧ i ≤ ds.length ∧ ∃ ρ' G', Same G1 G' ∧ SR X.K G' H' σ' ρ' ∧ rdSK X.K (forL tg g (ds.drop i)) D σ' ρ' G' H',
      ⟨ds.length, rfl, Nat.zero_le _, ρ1, G1, fun _ _ h => h, I1, h1⟩, ?_⟩
    rintro i m σ' H' ⟨rfl, hi, ρ', G', sG, I', h'⟩
    by_cases hlt : i < ds.length
    · have ed : ds.drop i = ds[i] :: ds.drop (i + 1) := List.drop_eq_getElem_cons hlt
      obtain ⟨go, yl⟩ := (hJ i G' H' sG I'.sub).1 ds[i] (List.getElem?_eq_getElem hlt)
      right
      refine ⟨go, fun σ2 H2 => ∃ ρ2 G2, Same G1 G2 ∧ SR X.K G2 H2 σ2 ρ2 ∧ rdSK X.K (forL tg g (ds.drop (i + 1))) D σ2 ρ2 G2 H2, fun σ2 H2 ⟨ρ2, G2, a, b, c⟩ => ⟨ds.length - (i + 1), by omega, rfl, hlt, ρ2, G2, a, b, c⟩, fun x H2 y => ?_⟩
      obtain ⟨G2, P2, rx⟩ := yl x H2 y
      have I2 := I'.pure P2
      rw [ed] at h'
      unfold rdSK at h'
      unfold forL at h'
      rw [frc_eq, nrmR_eq] at h'
      cases et : tg ds[i] ρ' with
      | none => rw [et] at h'; exact h'.elim
      | some ρ3 =>
        rw [et] at h'
        dsimp only at h'
        refine ⟨ρ', G2, ds[i], I2, rx, ρ3, et, fun σ3 s3 I3 _ => ?_⟩
        refine rdS_of I3 ?_
        have st := (P2.stp (σ := σ') (ρ := ρ')).trans s3
        unfold rdSK
        cases eb : g ρ3 with
        | ex _ _ => rw [eb] at h'; exact h'.elim
        | no => rw [eb] at h'; exact h'.elim
        | ok p =>
          obtain ⟨f, ρ4⟩ := p
          rw [eb] at h'
          dsimp only [Rz.bind] at h' ⊢
          cases f with
          | nx => exact fun σ4 H4 G4 s4 I4 => ⟨ρ4, G4, fun a o q => s4.sub a o (P2.sub a o (sG a o q)), I4, rdSK_after (st.trans s4) h'⟩
          | ct => exact fun σ4 H4 G4 s4 I4 => ⟨ρ4, G4, fun a o q => s4.sub a o (P2.sub a o (sG a o q)), I4, rdSK_after (st.trans s4) h'⟩
          | bk => exact fun σ4 H4 G4 s4 I4 => h' σ4 H4 G4 (st.trans s4) I4
          | rt s => exact fun v σ4 H4 G4 s4 I4 r4 => h' v σ4 H4 G4 (st.trans s4) I4 (r4.back st)
    · left
      have e0 : ds.drop i = [] := List.drop_eq_nil_of_le (by omega)
      rw [e0] at h'
      exact ⟨(hJ i G' H' sG I'.sub).2 (by omega), h' σ' H' G' (Stp.refl _ _ _ _) I'⟩
theorem ds_while {c : Expr} {body : List Stmt} {t : FT} {g : FS} (n : Nat) (hp : PassesOwn (model X.prog X.w) X.A X.env X.xe) (hc : PT X c (rdT X.K t)) (hb : PSs X body (rdS X.K g)) : PS X (.While c body [] pos) (rdS X.K (whl t g n)) := by
  refine ps_imp (ps_while hp hc hb) fun D σ H ⟨ρ, G, I, h⟩ => ?_
  refine ⟨fun m σ' H' => ∃ ρ' G', SR X.K G' H' σ' ρ' ∧ rdSK X.K (whl t g m) D σ' ρ' G' H', ⟨n, ρ, G, I, h⟩, ?_⟩
  rintro m σ' H' ⟨ρ', G', I', h'⟩
  cases m with
  | zero => exact h'.elim
  | succ m =>
    unfold rdSK at h'
    unfold whl at h'
    rw [nrmR_eq] at h'
    refine rdT_of I' ?_
    unfold rdTK
    cases e : t ρ' with
    | ex _ _ => rw [e] at h'; exact h'.elim
    | no => rw [e] at h'; exact h'.elim
    | ok p =>
      obtain ⟨b, ρ1⟩ := p
      rw [e] at h'
      dsimp only [Rz.bind] at h' ⊢
      intro H1 G1 s1 I1
      cases b with
      | false =>
        simp only [Bool.false_eq_true, if_false] at h' ⊢
        exact h' σ' H1 G1 s1 I1
      | true =>
        simp only [if_true] at h' ⊢
        refine ⟨fun σ2 H2 => ∃ ρ2 G2, SR X.K G2 H2 σ2 ρ2 ∧ rdSK X.K (whl t g m) D σ2 ρ2 G2 H2, fun σ2 H2 q => ⟨m, Nat.lt_succ_self _, q⟩, ?_⟩
        refine rdS_of I1 ?_
        unfold rdSK
        cases eb : g ρ1 with
        | ex _ _ => rw [eb] at h'; exact h'.elim
        | no => rw [eb] at h'; exact h'.elim
        | ok p =>
          obtain ⟨f, ρ4⟩ := p
          rw [eb] at h'
          dsimp only [Rz.bind] at h' ⊢
          cases f with
          | nx => exact fun σ4 H4 G4 s4 I4 => ⟨ρ4, G4, I4, rdSK_after (s1.trans s4) h'⟩
          | ct => exact fun σ4 H4 G4 s4 I4 => ⟨ρ4, G4, I4, rdSK_after (s1.trans s4) h'⟩
          | bk => exact fun σ4 H4 G4 s4 I4 => h' σ4 H4 G4 (s1.trans s4) I4
          | rt s => exact fun v σ4 H4 G4 s4 I4 r4 => h' v σ4 H4 G4 (s1.trans s4) I4 (r4.back s1)
end
end M

namespace M
open PySem PySem.Spec L2
variable [Tabs]

/-! ### lists of one's own -/
def ownL (ρ : Rho) (j : Nat) : Option (Bool × List D) := match ρ[j]? with | some (some (.own io ds)) => some (io, ds) | _ => none
theorem ownL_eq {ρ : Rho} {j : Nat} {io : Bool} {ds : List D} (h : ownL ρ j = some (io, ds)) : ρ[j]? = some (some (.own io ds)) := by
  unfold ownL at h
  split at h
  · cases h; assumption
  · cases h
section
variable {K : PySem.W.Frag} {σ : L2.St} {ρ : Rho} {G H : Hp}
theorem SR.own {j : Nat} {io : Bool} {ds : List D} (I : SR K G H σ ρ) (h : ownL ρ j = some (io, ds)) : ∃ a vs, σ[j]? = some (some (.ref a)) ∧ H a = some (.lst vs) ∧ G a = none ∧ Reps K G ds vs := by
  have h1 := ownL_eq h
  have hl : j < σ.length := by rw [← I.len]; exact (List.getElem?_eq_some_iff.mp h1).1
  obtain ⟨a, vs, e, e2, e3, r⟩ := I.slot j _ _ h1 (List.getElem?_eq_getElem hl)
  exact ⟨a, vs, by rw [List.getElem?_eq_getElem hl, e], e2, e3, r⟩
theorem set_own_get {j i : Nat} {io jo : Bool} {ds es ds0 : List D} (h0 : ρ[j]? = some (some (.own jo ds0))) (h : (ρ.set j (some (.own jo es)))[i]? = some (some (.own io ds))) :
    ∃ ds', ρ[i]? = some (some (.own io ds')) := by
  rcases get_set h with ⟨e, q⟩ | ⟨n, q⟩
  · subst e; cases q; exact ⟨_, h0⟩
  · exact ⟨_, q⟩
/-- the list at j is written -/
theorem SR.mut {j : Nat} {io : Bool} {ds es : List D} {a : Addr} {us : List V} (I : SR K G H σ ρ) (h : ownL ρ j = some (io, ds)) (ha : σ[j]? = some (some (.ref a))) {G' H' : Hp} (sG : Same G G') (sH : Same G' H') (hG : ∀ b, H b ≠ none → b ≠ a → G' b = G b) (hG2 : G' a = none)
    (hH : ∀ b o, H b = some o → b ≠ a → H' b = some o) (h2 : H' a = some (.lst us)) (r : Reps K G' es us) : SR K G' H' σ (ρ.set j (some (.own io es))) ∧ Stp σ ρ G H σ (ρ.set j (some (.own io es))) G' H' := by
  have h1 := ownL_eq h
  have oa : OwnAt σ ρ a := ⟨j, io, ds, h1, ha⟩
  have nt : ∀ b ps, H b = some (.tbl ps) → b ≠ a := fun b ps e z => by
    obtain ⟨a', vs0, f1, f2, _⟩ := I.own h
    rw [ha] at f1; cases f1
    subst z
    rw [f2] at e; cases e
  have gr : Grow H H' := fun b ps e => ⟨ps, hH b _ e (nt b ps e), id, fun q _ z => tabS_to z (fun ps e => hH b _ e (nt b ps e)) fun c e => hH c _ e fun y => by
    obtain ⟨a', vs0, f1, f2, _⟩ := I.own h
    rw [ha] at f1; cases f1
    subst y
    rw [f2] at e
    exact codeO_lst _ (Option.some.inj e).symm⟩
  refine ⟨⟨I.tabs' gr fun P z ⟨ps, e⟩ => hG P z (nt P ps e), I.lam' gr, by rw [List.length_set]; exact I.len, sH, fun i s o q1 q2 => ?_, fun i k i1 i2 d1 d2 b q1 q2 q3 q4 => ?_⟩, ⟨sG, fun b hb n => ?_, fun b o e n _ => ?_, gr, fun b hb => ?_, fun b z => ?_, fun b z => ?_, fun i d1 q => ?_⟩⟩
  · rcases get_set q1 with ⟨e, q⟩ | ⟨n, q⟩
    · subst e; subst q
      rw [q2] at ha; cases ha
      exact ⟨a, us, rfl, h2, hG2, r⟩
    · have z := I.slot i s o q q2
      match s, z with
      | none, _ => trivial
      | some (.dat d), ⟨v, e, r⟩ => exact ⟨v, e, Rep.mono sG _ _ r⟩
      | some (.own io' ds'), ⟨b, vs, e, e2, e3, r'⟩ =>
        have nb : b ≠ a := fun z => by
          subst z
          subst e
          exact n (I.inj j i _ _ _ _ b h1 q ha q2)
        exact ⟨b, vs, e, hH b _ e2 nb, by rw [hG b (by rw [e2]; exact fun z => by cases z) nb]; exact e3, Reps.mono sG _ _ r'⟩
  · obtain ⟨d3, z1⟩ := set_own_get h1 q1
    obtain ⟨d4, z2⟩ := set_own_get h1 q2
    exact I.inj i k i1 i2 d3 d4 b z1 z2 q3 q4
  · exact hG b hb fun z => n (by rw [z]; exact oa)
  · exact hH b o e fun z => n (by rw [z]; exact oa)
  · by_cases z : b = a
    · subst z; rw [h2]; exact fun z => by cases z
    · cases q : H b with
      | none => exact absurd q hb
      | some o => rw [hH b o q z]; exact fun z => by cases z
  · obtain ⟨i, i1, d1, q1, q2⟩ := z
    obtain ⟨d2, z1⟩ := set_own_get h1 q1
    exact .inl ⟨i, i1, d2, z1, q2⟩
  · obtain ⟨i, d1, q1, q2⟩ := z
    obtain ⟨d2, z1⟩ := set_own_get h1 q1
    exact .inl ⟨i, d2, z1, q2⟩
  · refine ⟨rfl, ?_⟩
    by_cases e : j = i
    · subst e
      rw [h1] at q; cases q
      exact ⟨es, by rw [List.getElem?_set_self (List.getElem?_eq_some_iff.mp h1).1]⟩
    · exact ⟨d1, by rw [List.getElem?_set_ne e]; exact q⟩
theorem SR.mut' {j : Nat} {io : Bool} {ds es : List D} {a : Addr} {us vs : List V} (I : SR K G H σ ρ) (h : ownL ρ j = some (io, ds)) (ha : σ[j]? = some (some (.ref a))) (h1 : H a = some (.lst vs)) (h2 : G a = none) (r : Reps K G es us) :
    SR K G (upd H a (.lst us)) σ (ρ.set j (some (.own io es))) ∧ Stp σ ρ G H σ (ρ.set j (some (.own io es))) G (upd H a (.lst us)) :=
  I.mut h ha (fun _ _ q => q) (fun b o q => by rw [upd_ne (ne_of_none q h2)]; exact I.sub b o q) (fun _ _ _ => rfl) h2 (fun b o q n => by rw [upd_ne n]; exact q) upd_same r
end

/-- a reading whose value is a new list, seen by none -/
def OutO (K : PySem.W.Frag) (Q : VK) (σ : L2.St) (ρ : Rho) (G H : Hp) : Rz (List D × Rho) → Prop
  | .ok (ds, ρ') => ∀ p us H' G', Stp σ ρ G H σ ρ' G' H' → SR K G' H' σ ρ' → H p = none → H' p = some (.lst us) → G' p = none → ¬ OwnAt σ ρ' p → Reps K G' ds us → Q (.ref p) H'
  | .ex _ _ => False
  | .no => False
def rdO (K : PySem.W.Frag) (f : FA) : TE := fun σ H Q => ∃ ρ G, SR K G H σ ρ ∧ OutO K Q σ ρ G H (f ρ)
def sOwn (i : Nat) (f : FA) : FS := fun ρ => (f ρ).bind fun p => if isIo p.2 i = true then .no else .ok (.nx, p.2.set i (some (.own false p.1)))
def sRetO (f : FA) : FS := fun ρ => (f ρ).bind fun p => .ok (.rt (.own false p.1), p.2)
section
variable {K : PySem.W.Frag} {σ : L2.St} {ρ : Rho} {G H : Hp}
theorem SR.setOwn {i : Nat} {ds : List D} {p : Addr} {us : List V} (I : SR K G H σ ρ) (h1 : H p = some (.lst us)) (h2 : G p = none) (n : ¬ OwnAt σ ρ p) (r : Reps K G ds us) : SR K G H (σ.set i (some (.ref p))) (ρ.set i (some (.own false ds))) where
  tab := I.tab
  lam := I.lam
  len := by rw [List.length_set, List.length_set]; exact I.len
  sub := I.sub
  slot := fun j s o q1 q2 => by
    rcases get_set q1 with ⟨e, z1⟩ | ⟨ne, z1⟩
    · subst e; subst z1
      rcases get_set q2 with ⟨_, z2⟩ | ⟨ne, _⟩
      · subst z2; exact ⟨p, us, rfl, h1, h2, r⟩
      · exact absurd rfl ne
    · rcases get_set q2 with ⟨e, _⟩ | ⟨_, z2⟩
      · exact absurd e ne
      · exact I.slot j s o z1 z2
  inj := fun j k io jo ds es a q1 q2 q3 q4 => by
    rcases get_set q1 with ⟨e1, z1⟩ | ⟨n1, z1⟩ <;> rcases get_set q2 with ⟨e2, z2⟩ | ⟨n2, z2⟩
    · exact e1.symm.trans e2
    · rcases get_set q3 with ⟨_, z3⟩ | ⟨n3, _⟩
      · rcases get_set q4 with ⟨e4, _⟩ | ⟨_, z4⟩
        · exact absurd e4 n2
        · cases z3
          exact absurd ⟨k, jo, es, z2, z4⟩ n
      · exact absurd e1 n3
    · rcases get_set q4 with ⟨_, z4⟩ | ⟨n4, _⟩
      · rcases get_set q3 with ⟨e3, _⟩ | ⟨_, z3⟩
        · exact absurd e3 n1
        · cases z4
          exact absurd ⟨j, io, ds, z1, z3⟩ n
      · exact absurd e2 n4
    · rcases get_set q3 with ⟨e3, _⟩ | ⟨_, z3⟩
      · exact absurd e3 n1
      rcases get_set q4 with ⟨e4, _⟩ | ⟨_, z4⟩
      · exact absurd e4 n2
      exact I.inj j k io jo ds es a z1 z2 z3 z4
end
section
variable {X : Cx} {e : Expr} {f : FA} {pos : Pos}
theorem ds_own (i : Nat) {x : Str} {pos' : Pos} (he : PE X e (rdO X.K f)) (hN : X.N.Nodup) (hi : X.N[i]? = some x := by rfl) (hx : Loc X.env.scope x := by first | exact .inl rfl | exact .inr rfl) (hs : swapsWith e (some (.Name x pos')) pos.line X.env = pure false := by rfl)
    (hf : X.fn x = true ∨ X.env.scope.names.lookup x = some .local := by first | exact .inl rfl | exact .inr rfl | assumption) : PS X (.Assign [.Name x pos'] e pos) (rdS X.K (sOwn i f)) := by
  refine ps_imp (ps_set hN hi hx he hs hf) fun D σ H ⟨ρ, G, I, h⟩ => ?_
  refine ⟨ρ, G, I, ?_⟩
  unfold rdSK sOwn at h
  cases q : f ρ with
  | ex _ _ => rw [q] at h; exact h
  | no => rw [q] at h; exact h
  | ok p =>
    obtain ⟨ds, ρ1⟩ := p
    rw [q] at h
    dsimp only [Rz.bind] at h
    intro p us H1 G1 s1 I1 e1 e2 e3 n r
    by_cases z : isIo ρ1 i = true
    · rw [if_pos z] at h; exact h.elim
    · rw [if_neg z] at h
      have nio : isIo ρ1 i = false := by simpa using z
      refine h _ H1 G1 ?_ (I1.setOwn e2 e3 n r)
      have own1 : ∀ a, OwnAt (σ.set i (some (.ref p))) (ρ1.set i (some (.own false ds))) a → a = p ∨ OwnAt σ ρ1 a := fun a ⟨j, io, es, q1, q2⟩ => by
        rcases get_set q1 with ⟨e, z1⟩ | ⟨ne, z1⟩
        · rcases get_set q2 with ⟨_, z2⟩ | ⟨ne, _⟩
          · cases z2; exact .inl rfl
          · exact absurd e ne
        · rcases get_set q2 with ⟨e, _⟩ | ⟨_, z2⟩
          · exact absurd e ne
          · exact .inr ⟨j, io, es, z1, z2⟩
      have own2 : ∀ a, OwnN (σ.set i (some (.ref p))) (ρ1.set i (some (.own false ds))) a → a = p ∨ OwnN σ ρ1 a := fun a ⟨j, es, q1, q2⟩ => by
        rcases get_set q1 with ⟨e, z1⟩ | ⟨ne, z1⟩
        · rcases get_set q2 with ⟨_, z2⟩ | ⟨ne, _⟩
          · cases z2; exact .inl rfl
          · exact absurd e ne
        · rcases get_set q2 with ⟨e, _⟩ | ⟨_, z2⟩
          · exact absurd e ne
          · exact .inr ⟨j, es, z1, z2⟩
      refine ⟨s1.sub, s1.new, s1.keep, s1.grow, s1.dom, fun a z => ?_, fun a z => ?_, fun j es q => ?_⟩
      · rcases own1 a z with rfl | z
        · exact .inr e1
        · exact s1.own a z
      · rcases own2 a z with rfl | z
        · exact .inr e1
        · exact s1.ownN a z
      · obtain ⟨_, fs, z1⟩ := s1.stay j es q
        have ne : i ≠ j := fun e => by
          subst e
          unfold isIo at nio
          rw [z1] at nio
          cases nio
        rw [List.getElem?_set_ne ne, List.getElem?_set_ne ne]
        exact ⟨rfl, fs, z1⟩
theorem ds_retO (he : PE X e (rdO X.K f)) : PS X (.Return (some e) pos) (rdS X.K (sRetO f)) := by
  refine ps_imp (ps_ret he) fun D σ H ⟨ρ, G, I, h⟩ => ?_
  refine ⟨ρ, G, I, ?_⟩
  unfold rdSK sRetO at h
  cases q : f ρ with
  | ex _ _ => rw [q] at h; exact h
  | no => rw [q] at h; exact h
  | ok p =>
    obtain ⟨ds, ρ1⟩ := p
    rw [q] at h
    intro p us H1 G1 s1 I1 e1 e2 e3 n r
    exact h _ σ H1 G1 s1 I1 ⟨rfl, p, us, rfl, e2, e3, r, .inr e1⟩
/-- a written list -/
def oLst (f : FA) : FA := fun ρ => (f ρ).bind fun p => if p.1.length ≤ sizeLine then .ok p else .no
theorem own_dom {K : PySem.W.Frag} {σ : L2.St} {ρ : Rho} {G H : Hp} {a : Addr} (I : SR K G H σ ρ) (h : OwnAt σ ρ a) : H a ≠ none := by
  obtain ⟨j, io, ds, q1, q2⟩ := h
  obtain ⟨b, vs, e, e2, _⟩ := I.slot j _ _ q1 q2
  cases e
  rw [e2]; exact fun z => by cases z
theorem SR.fresh {K : PySem.W.Frag} {σ : L2.St} {ρ : Rho} {G H : Hp} {p : Addr} {o : HO} (I : SR K G H σ ρ) (n : H p = none) : SR K G (upd H p o) σ ρ ∧ Stp σ ρ G H σ ρ G (upd H p o) ∧ ¬ OwnAt σ ρ p := by
  have ne : ∀ b, H b ≠ none → b ≠ p := fun b h e => h (by rw [e]; exact n)
  have gr : Grow H (upd H p o) := fun b ps e => ⟨ps, by rw [upd_ne (ne_of_none e n)]; exact e, id, fun q _ z => z.ext fun b x e => by rw [upd_ne (ne_of_none e n)]; exact e⟩
  refine ⟨⟨I.tabs' gr fun _ _ _ => rfl, I.lam' gr, I.len, fun b o q => ?_, fun i s o q1 q2 => ?_, I.inj⟩, ⟨fun _ _ q => q, fun _ _ _ => rfl, fun b o q _ _ => ?_, gr, fun b q => ?_, fun _ z => .inl z, fun _ z => .inl z, fun _ ds z => ⟨rfl, ds, z⟩⟩, fun z => own_dom I z n⟩
  · rw [upd_ne (ne_of_none (I.sub b o q) n)]; exact I.sub b o q
  · have z := I.slot i s o q1 q2
    match s, z with
    | none, _ => trivial
    | some (.dat d), z => exact z
    | some (.own io' ds'), ⟨b, vs, e, e2, e3, r'⟩ => exact ⟨b, vs, e, by rw [upd_ne (ne_of_none e2 n)]; exact e2, e3, r'⟩
  · rw [upd_ne (ne_of_none q n)]; exact q
  · rw [upd_ne (ne b q)]; exact q
theorem do_lst {es : List Expr} {fs : FA} (h : PA X es (rdA X.K fs)) : PE X (.List es pos) (rdO X.K (oLst fs)) := by
  refine pe_imp (pe_lst h) fun σ H Q ⟨ρ, G, I, h⟩ => ?_
  refine rdA_of I ?_
  unfold oLst at h
  unfold rdAK
  cases q : fs ρ with
  | ex _ _ => rw [q] at h; exact h
  | no => rw [q] at h; exact h
  | ok p =>
    obtain ⟨ds, ρ1⟩ := p
    rw [q] at h
    dsimp only [Rz.bind] at h
    intro vs H1 G1 s1 I1 r1
    by_cases z : ds.length ≤ sizeLine
    · rw [if_pos z] at h
      refine ⟨by rw [r1.length]; exact z, fun p hp => ?_⟩
      obtain ⟨a, b, c⟩ := I1.fresh (o := .lst vs) hp
      have hp0 : H p = none := by
        cases q : H p with
        | none => rfl
        | some o => exact absurd hp (s1.dom p (by rw [q]; exact fun z => by cases z))
      exact h p vs _ G1 (s1.trans b) a hp0 upd_same (I1.sub.free hp) c r1
    · rw [if_neg z] at h; exact h.elim
end

/-! ### reading and writing a list of one's own -/
section
variable {X : Cx} {e k : Expr} {fk fe : FE} {pos : Pos}
/-- x[k] -/
def eIxO (j : Nat) (fk : FE) : FE := fun ρ => match ownL ρ j with
  | none => .no
  | some _ => (bnd fk fun d => fun ρ1 => match ownL ρ1 j with | some (_, ds) => ofO (ixD (.lst ds) d) ρ1 | none => .no) ρ
theorem pv_own {i : Nat} {x : Str} {pos : Pos} (hN : X.N[i]? = some x) (hv : Vis X.env.scope x) (hd : (x == ("__debug__" : Str)) = false) (hcd : (x == ("__classdict__" : Str)) = false) : PE X (.Name x pos) (tVar i) := pe_var hN hv hd hcd
theorem de_ixO (j : Nat) {x : Str} {px : Pos} (hk : PE X k (rd X.K fk)) (hs : PlainIx k) (hN : X.N[j]? = some x := by rfl) (hv : Vis X.env.scope x := by first | exact Or.inl rfl | exact Or.inr (Or.inl rfl) | exact Or.inr (Or.inr rfl)) (hd : (x == ("__debug__" : Str)) = false := by decide)
    (hcd : (x == ("__classdict__" : Str)) = false := by decide) : PE X (.Subscript (.Name x px) k pos) (rd X.K (eIxO j fk)) := by
  refine pe_imp (pe_ix ix_list (pe_var (i := j) hN hv hd hcd) hk hs) fun σ H Q ⟨ρ, G, I, h⟩ => ?_
  unfold eIxO at h
  cases q : ownL ρ j with
  | none => rw [q] at h; exact h.elim
  | some p =>
    obtain ⟨io, ds⟩ := p
    rw [q] at h
    obtain ⟨a, vs, e1, e2, e3, r⟩ := I.own q
    refine ⟨.ref a, e1, ?_⟩
    refine rd_of I (rdK_mono (rdK_bnd h) fun u H1 ⟨d, ρ1, G1, s1, I1, r1, h1⟩ => ?_)
    unfold rdK at h1
    dsimp only at h1
    cases q1 : ownL ρ1 j with
    | none => rw [q1] at h1; exact h1.elim
    | some p1 =>
      obtain ⟨io1, ds1⟩ := p1
      rw [q1] at h1
      dsimp only at h1
      obtain ⟨a1, vs1, f1, f2, f3, r2⟩ := I1.own q1
      rw [e1] at f1; cases f1
      cases qx : ixD (.lst ds1) d with
      | none => rw [qx] at h1; exact h1.elim
      | some z =>
        rw [qx] at h1
        dsimp only [ofO] at h1
        rw [frc_eq] at h1
        cases d with
        | int i =>
          simp only [Rep] at r1
          subst r1
          obtain ⟨v, g1, g2⟩ := atI_reps r2 qx
          exact ⟨a, vs1, i, v, rfl, rfl, SqL.of f2, g1, h1 v H1 G1 (Stp.refl _ _ _ _) I1 g2⟩
        | _ => cases qx
/-- x[k] = e -/
def sItO (j : Nat) (fe fk : FE) : FS := bndS fe fun d => fun ρ => match ownL ρ j with
  | none => .no
  | some _ => (bndS fk fun i => fun ρ1 => match ownL ρ1 j, i with
    | some (io, ds), .int i => (match ixN ds.length i with | some n => .ok (.nx, ρ1.set j (some (.own io (ds.set n d)))) | none => .no)
    | _, _ => .no) ρ
theorem ds_itO (j : Nat) {x : Str} {px ps : Pos} (he : PE X e (rd X.K fe)) (hk : PE X k (rd X.K fk)) (hN : X.N[j]? = some x := by rfl) (hv : Vis X.env.scope x := by first | exact Or.inl rfl | exact Or.inr (Or.inl rfl) | exact Or.inr (Or.inr rfl)) (hd : (x == ("__debug__" : Str)) = false := by decide)
    (hcd : (x == ("__classdict__" : Str)) = false := by decide) (ha : ∀ v, assign (.Subscript (.Name x px) k ps) X.env v = (do
      let ov ← holding [v] (eval (.Name x px) X.env)
      let iv ← holding [v, ov] (eval k X.env)
      standAt ps
      holding [v, ov, iv] (setItem ov iv v)
      release [v, ov, iv] []) := by intro _; rfl) (hs : swapsWithSole [.Subscript (.Name x px) k ps] e pos.line X.env = pure false := by rfl) (hw : swappedStores [.Subscript (.Name x px) k ps] e X.env = pure none := by rfl)
    (h1 : (assignEach [.Subscript (.Name x px) k ps] X.env).map (·.2) = [assign (.Subscript (.Name x px) k ps) X.env] := by rfl) : PS X (.Assign [.Subscript (.Name x px) k ps] e pos) (rdS X.K (sItO j fe fk)) := by
  refine ps_imp (ps_asg he (pg_sub (pe_var (i := j) hN hv hd hcd) hk set_list ha) hs hw h1) fun D σ H ⟨ρ, G, I, h⟩ => ?_
  unfold sItO at h
  refine rd_of I (rdK_mono (rdSK_bnd h) fun v H1 ⟨d, ρ1, G1, s1, I1, r1, h1⟩ => ?_)
  unfold rdSK at h1
  dsimp only at h1
  cases q : ownL ρ1 j with
  | none => rw [q] at h1; exact h1.elim
  | some p =>
    obtain ⟨io, ds⟩ := p
    rw [q] at h1
    obtain ⟨a, vs, e1, e2, e3, r⟩ := I1.own q
    refine ⟨.ref a, e1, ?_⟩
    refine rd_of I1 (rdK_mono (rdSK_bnd h1) fun u H2 ⟨di, ρ2, G2, s2, I2, r2, h2⟩ => ?_)
    unfold rdSK at h2
    dsimp only at h2
    cases q1 : ownL ρ2 j with
    | none => rw [q1] at h2; exact h2.elim
    | some p1 =>
      obtain ⟨io1, ds1⟩ := p1
      rw [q1] at h2
      obtain ⟨a1, vs1, f1, f2, f3, r3⟩ := I2.own q1
      rw [e1] at f1; cases f1
      cases di with
      | int i =>
        dsimp only at h2
        simp only [Rep] at r2
        subst r2
        cases qx : ixN ds1.length i with
        | none => rw [qx] at h2; exact h2.elim
        | some n =>
          rw [qx] at h2
          obtain ⟨A, B⟩ := I2.mut' q1 e1 f2 f3 (Reps.set n (Rep.mono s2.sub _ _ r1) r3)
          exact ⟨a, vs1, i, n, rfl, rfl, f2, by rw [r3.length]; exact qx, h2 σ _ G2 B A⟩
      | _ => exact h2.elim
/-- x.append(e) -/
def sApp (j : Nat) (fe : FE) : FS := fun ρ => match ownL ρ j with
  | none => .no
  | some _ => (bndS fe fun d => fun ρ1 => match ownL ρ1 j with
    | some (io, ds) => if ds.length < sizeLine then .ok (.nx, ρ1.set j (some (.own io (ds ++ [d])))) else .no
    | none => .no) ρ
theorem tyV_list {K : PySem.W.Frag} {H : Hp} {a : Addr} {vs : List V} (h : H a = some (.lst vs)) : tyV K "list" (.ref a) H := .inl ⟨rfl, vs, SqL.of h⟩
theorem ds_app (j : Nat) {x : Str} {px apos cpos : Pos} (he : PE X e (rd X.K fe)) (hN : X.N[j]? = some x := by rfl) (hv : Vis X.env.scope x := by first | exact Or.inl rfl | exact Or.inr (Or.inl rfl) | exact Or.inr (Or.inr rfl)) (hd : (x == ("__debug__" : Str)) = false := by decide)
    (hcd : (x == ("__classdict__" : Str)) = false := by decide) (hbase : attributeBase (.Name x px) "append" X.env (eval (.Name x px) X.env) = eval (.Name x px) X.env := by rfl)
    (hse : starEach [e] X.env = (false, eval e X.env) :: starEach [] X.env := by rfl)
    (hfew : ((backTo cpos (starEach [e] X.env)).all (fun x => !x.1) && (backToKw cpos (keywordEach [] X.env)).all (fun x => x.1.isSome)
      && decide (([e] : List Expr).length + ([] : List Keyword).length + (if ([] : List Keyword).isEmpty then 0 else 1) < 30)) = true := by rfl)
    (hline : (apos.endLine == cpos.line) = true := by rfl) (hs : swapsWith (.Call (.Attribute (.Name x px) "append" apos) [e] [] cpos) none pos.line X.env = pure false := by rfl) :
    PS X (.Expr (.Call (.Attribute (.Name x px) "append" apos) [e] [] cpos) pos) (rdS X.K (sApp j fe)) := by
  refine ps_imp (ps_expr (pe_bm PySem.F.plainAttrs_list PySem.F.slot_list_append PySem.F.type_list_append mt_append (pe_var (i := j) hN hv hd hcd) (pa_cons he pa_nil hse) hbase hfew hline hse) hs) fun D σ H ⟨ρ, G, I, h⟩ => ?_
  unfold rdSK sApp at h
  cases q : ownL ρ j with
  | none => rw [q] at h; exact h.elim
  | some p =>
    obtain ⟨io, ds⟩ := p
    rw [q] at h
    obtain ⟨a, vs, e1, e2, e3, r⟩ := I.own q
    refine ⟨.ref a, e1, tyV_list e2, ?_⟩
    refine rd_of I (rdK_mono (rdSK_bnd (σ := σ) (ρ := ρ) (G := G) (H := H) (Dn := D) h) fun u H1 ⟨d, ρ1, G1, s1, I1, r1, h1⟩ => ?_)
    unfold rdSK at h1
    dsimp only at h1
    cases q1 : ownL ρ1 j with
    | none => rw [q1] at h1; exact h1.elim
    | some p1 =>
      obtain ⟨io1, ds1⟩ := p1
      rw [q1] at h1
      obtain ⟨a1, vs1, f1, f2, f3, r2⟩ := I1.own q1
      rw [e1] at f1; cases f1
      dsimp only at h1
      by_cases z : ds1.length < sizeLine
      · rw [if_pos z] at h1
        obtain ⟨A, B⟩ := I1.mut' q1 e1 f2 f3 (r2.append (Reps.cons r1 Reps.nil))
        exact ⟨a, vs1, u, rfl, rfl, f2, by rw [r2.length]; exact z, h1 σ _ G1 B A⟩
      · rw [if_neg z] at h1; exact h1.elim
/-- x.pop(k), as a value -/
def ePopO (j : Nat) (fk : FE) : FE := fun ρ => match ownL ρ j with
  | none => .no
  | some _ => (bnd fk fun d => fun ρ1 => match ownL ρ1 j, d with
    | some (io, ds), .int i => if 0 ≤ i ∧ i < 2 ^ 63 then (match ds[i.toNat]? with | some y => .ok (y, ρ1.set j (some (.own io (ds.eraseIdx i.toNat)))) | none => .no) else .no
    | _, _ => .no) ρ
theorem Reps.eraseIdx {K : PySem.W.Frag} {G : Hp} : ∀ {ds : List D} {vs : List V} (i : Nat), Reps K G ds vs → Reps K G (ds.eraseIdx i) (vs.eraseIdx i)
  | [], vs, i, h => by simp only [Reps] at h; subst h; exact Reps.nil
  | c :: ds, vs, 0, h => by
    simp only [Reps] at h
    obtain ⟨u, t, rfl, h1, h2⟩ := h
    exact h2
  | c :: ds, vs, i + 1, h => by
    simp only [Reps] at h
    obtain ⟨u, t, rfl, h1, h2⟩ := h
    exact Reps.cons h1 (Reps.eraseIdx i h2)
theorem de_popO (j : Nat) {x : Str} {px apos : Pos} (he : PE X e (rd X.K fe)) (hN : X.N[j]? = some x := by rfl) (hv : Vis X.env.scope x := by first | exact Or.inl rfl | exact Or.inr (Or.inl rfl) | exact Or.inr (Or.inr rfl)) (hd : (x == ("__debug__" : Str)) = false := by decide)
    (hcd : (x == ("__classdict__" : Str)) = false := by decide) (hbase : attributeBase (.Name x px) "pop" X.env (eval (.Name x px) X.env) = eval (.Name x px) X.env := by rfl)
    (hse : starEach [e] X.env = (false, eval e X.env) :: starEach [] X.env := by rfl)
    (hfew : ((backTo pos (starEach [e] X.env)).all (fun x => !x.1) && (backToKw pos (keywordEach [] X.env)).all (fun x => x.1.isSome)
      && decide (([e] : List Expr).length + ([] : List Keyword).length + (if ([] : List Keyword).isEmpty then 0 else 1) < 30)) = true := by rfl)
    (hline : (apos.endLine == pos.line) = true := by rfl) :
    PE X (.Call (.Attribute (.Name x px) "pop" apos) [e] [] pos) (rd X.K (ePopO j fe)) := by
  refine pe_imp (pe_bm PySem.F.plainAttrs_list PySem.F.slot_list_pop PySem.F.type_list_pop mt_popAt (pe_var (i := j) hN hv hd hcd) (pa_cons he pa_nil hse) hbase hfew hline hse) fun σ H Q ⟨ρ, G, I, h⟩ => ?_
  unfold ePopO at h
  cases q : ownL ρ j with
  | none => rw [q] at h; exact h.elim
  | some p =>
    obtain ⟨io, ds⟩ := p
    rw [q] at h
    obtain ⟨a, vs, e1, e2, e3, r⟩ := I.own q
    refine ⟨.ref a, e1, tyV_list e2, ?_⟩
    refine rd_of I (rdK_mono (rdK_bnd h) fun u H1 ⟨d, ρ1, G1, s1, I1, r1, h1⟩ => ?_)
    unfold rdK at h1
    dsimp only at h1
    cases q1 : ownL ρ1 j with
    | none => rw [q1] at h1; exact h1.elim
    | some p1 =>
      obtain ⟨io1, ds1⟩ := p1
      rw [q1] at h1
      obtain ⟨a1, vs1, f1, f2, f3, r2⟩ := I1.own q1
      rw [e1] at f1; cases f1
      cases d with
      | int i =>
        dsimp only at h1
        simp only [Rep] at r1
        subst r1
        by_cases z : 0 ≤ i ∧ i < 2 ^ 63
        · rw [if_pos z] at h1
          cases qx : ds1[i.toNat]? with
          | none => rw [qx] at h1; exact h1.elim
          | some y =>
            rw [qx] at h1
            obtain ⟨v, g1, g2⟩ := r2.get qx
            obtain ⟨A, B⟩ := I1.mut' q1 e1 f2 f3 (Reps.eraseIdx i.toNat r2)
            have hlt : i.toNat < vs1.length := (List.getElem?_eq_some_iff.mp g1).1
            exact ⟨a, vs1, i, i.toNat, v, rfl, rfl, f2, by omega, z.2, PySem.seqIndex_of z.1 (by omega), g1, h1 v _ G1 B A g2⟩
        · rw [if_neg z] at h1; exact h1.elim
      | _ => exact h1.elim
/-- len(x) -/
def eLenO (j : Nat) : FE := fun ρ => match ownL ρ j with | some (_, ds) => .ok (.int ds.length, ρ) | none => .no
theorem de_lenO (j : Nat) {x : Str} {px p : Pos} (hg : Gl X "len") (hm : X.mg "len" = none) (hN : X.N[j]? = some x := by rfl) (hv : Vis X.env.scope x := by first | exact Or.inl rfl | exact Or.inr (Or.inl rfl) | exact Or.inr (Or.inr rfl)) (hd : (x == ("__debug__" : Str)) = false := by decide)
    (hcd : (x == ("__classdict__" : Str)) = false := by decide) (hse : starEach [.Name x px] X.env = (false, eval (.Name x px) X.env) :: starEach [] X.env := by rfl) :
    PE X (.Call (.Name "len" p) [.Name x px] [] pos) (rd X.K (eLenO j)) := by
  refine pe_imp (pe_callB call_len_seq hg hm PySem.boot_len (pa_cons (pe_var (i := j) hN hv hd hcd) pa_nil hse)) fun σ H Q ⟨ρ, G, I, h⟩ => ?_
  unfold eLenO at h
  cases q : ownL ρ j with
  | none => rw [q] at h; exact h.elim
  | some p =>
    obtain ⟨io, ds⟩ := p
    rw [q] at h
    obtain ⟨a, vs, e1, e2, e3, r⟩ := I.own q
    refine ⟨.ref a, e1, a, vs, rfl, .inl (SqL.of e2), ?_⟩
    rw [r.length]
    exact h _ H G (Stp.refl _ _ _ _) I (rep_int _)
end

/-! ### a list of one's own, given away as data -/
/-- reading it ends its being one's own -/
def eFrz (j : Nat) : FE := fun ρ => match ownL ρ j with | some (false, ds) => .ok (.lst ds, ρ.set j (some (.dat (.lst ds)))) | _ => .no
section
variable {X : Cx} {pos : Pos}
theorem SR.frz {K : PySem.W.Frag} {σ : L2.St} {ρ : Rho} {G H : Hp} {j : Nat} {ds : List D} {a : Addr} {vs : List V} (I : SR K G H σ ρ) (h : ownL ρ j = some (false, ds)) (e1 : σ[j]? = some (some (.ref a))) (e2 : H a = some (.lst vs)) (e3 : G a = none) (r : Reps K G ds vs) :
    SR K (upd G a (.lst vs)) H σ (ρ.set j (some (.dat (.lst ds)))) ∧ Stp σ ρ G H σ (ρ.set j (some (.dat (.lst ds)))) (upd G a (.lst vs)) H ∧ Rep K (upd G a (.lst vs)) (.lst ds) (.ref a) := by
  have h1 := ownL_eq h
  have oa : OwnAt σ ρ a := ⟨j, false, ds, h1, e1⟩
  have hl : j < σ.length := (List.getElem?_eq_some_iff.mp e1).1
  have sG : Same G (upd G a (.lst vs)) := same_upd e3
  have es : σ.set j (some (.ref a)) = σ := by
    apply List.ext_getElem?
    intro i
    by_cases z : j = i
    · subst z; rw [List.getElem?_set_self hl, e1]
    · rw [List.getElem?_set_ne z]
  have rr : Rep K (upd G a (.lst vs)) (.lst ds) (.ref a) := Rep.lst_new e3 r
  have own1 : ∀ b, OwnAt σ (ρ.set j (some (.dat (.lst ds)))) b → OwnAt σ ρ b := fun b z => by rw [← es] at z; exact z.of_set
  have nt : ∀ b ps, H b = some (.tbl ps) → b ≠ a := fun b ps e z => by
    subst z
    rw [e2] at e; cases e
  refine ⟨⟨I.tabs' (Grow.refl _) fun P z ⟨ps, e⟩ => upd_ne (nt P ps e), I.lam' (Grow.refl _), by rw [List.length_set]; exact I.len, fun b o q => ?_, fun i s o q1 q2 => ?_, fun i k i1 i2 d1 d2 b q1 q2 q3 q4 => ?_⟩, ⟨sG, fun b _ n => ?_, fun _ _ q _ _ => q, Grow.refl _, fun _ q => q, fun b z => .inl (own1 b z), fun b z => ?_, fun i d1 q => ?_⟩, rr⟩
  · by_cases z : b = a
    · subst z; rw [upd_same] at q; cases q; exact e2
    · rw [upd_ne z] at q; exact I.sub b o q
  · rcases get_set q1 with ⟨e, z1⟩ | ⟨ne, z1⟩
    · subst e; subst z1
      rw [e1] at q2; cases q2
      exact ⟨_, rfl, rr⟩
    · have z := I.slot i s o z1 q2
      match s, z with
      | none, _ => trivial
      | some (.dat d), ⟨v, e, r⟩ => exact ⟨v, e, Rep.mono sG _ _ r⟩
      | some (.own io' ds'), ⟨b, us, e, f2, f3, r'⟩ =>
        have nb : b ≠ a := fun z => by
          subst z; subst e
          exact ne (I.inj j i _ _ _ _ b h1 z1 e1 q2)
        exact ⟨b, us, e, f2, by rw [upd_ne nb]; exact f3, Reps.mono sG _ _ r'⟩
  · rcases get_set q1 with ⟨_, z1⟩ | ⟨_, z1⟩
    · cases z1
    rcases get_set q2 with ⟨_, z2⟩ | ⟨_, z2⟩
    · cases z2
    exact I.inj i k i1 i2 d1 d2 b z1 z2 q3 q4
  · exact upd_ne fun z => n (by rw [z]; exact oa)
  · left; rw [← es] at z; exact z.of_set
  · have ne : j ≠ i := fun e => by subst e; rw [h1] at q; cases q
    exact ⟨rfl, d1, by rw [List.getElem?_set_ne ne]; exact q⟩
theorem de_frz (j : Nat) {x : Str} (hN : X.N[j]? = some x := by rfl) (hv : Vis X.env.scope x := by first | exact Or.inl rfl | exact Or.inr (Or.inl rfl) | exact Or.inr (Or.inr rfl)) (hd : (x == ("__debug__" : Str)) = false := by decide)
    (hcd : (x == ("__classdict__" : Str)) = false := by decide) : PE X (.Name x pos) (rd X.K (eFrz j)) := by
  refine pe_imp (pe_var (i := j) hN hv hd hcd) fun σ H Q ⟨ρ, G, I, h⟩ => ?_
  unfold eFrz at h
  cases q : ownL ρ j with
  | none => rw [q] at h; exact h.elim
  | some p =>
    obtain ⟨io, ds⟩ := p
    rw [q] at h
    cases io with
    | true => exact h.elim
    | false =>
      obtain ⟨a, vs, e1, e2, e3, r⟩ := I.own q
      obtain ⟨A, B, C⟩ := I.frz q e1 e2 e3 r
      exact ⟨.ref a, e1, h _ H _ B A C⟩
/-- return x, x one's own: handed back as one's own -/
def sRetV (j : Nat) : FS := fun ρ => match ownL ρ j with | some (false, ds) => .ok (.rt (.own false ds), ρ) | _ => .no
theorem ds_retV (j : Nat) {x : Str} {px : Pos} (hN : X.N[j]? = some x := by rfl) (hv : Vis X.env.scope x := by first | exact Or.inl rfl | exact Or.inr (Or.inl rfl) | exact Or.inr (Or.inr rfl)) (hd : (x == ("__debug__" : Str)) = false := by decide)
    (hcd : (x == ("__classdict__" : Str)) = false := by decide) : PS X (.Return (some (.Name x px)) pos) (rdS X.K (sRetV j)) := by
  refine ps_imp (ps_ret (pe_var (i := j) hN hv hd hcd)) fun D σ H ⟨ρ, G, I, h⟩ => ?_
  unfold rdSK sRetV at h
  cases q : ownL ρ j with
  | none => rw [q] at h; exact h.elim
  | some p =>
    obtain ⟨io, ds⟩ := p
    rw [q] at h
    cases io with
    | true => exact h.elim
    | false =>
      obtain ⟨a, vs, e1, e2, e3, r⟩ := I.own q
      exact ⟨.ref a, e1, h _ σ H G (Stp.refl _ _ _ _) I ⟨rfl, a, vs, rfl, e2, e3, r, .inl ⟨j, ds, ownL_eq q, e1⟩⟩⟩
end
end M

namespace M
open PySem PySem.Spec PyProof.Rows L2
variable [Tabs]

/-! ### a def's promise -/
abbrev Args := List Sl
abbrev FD := Nat → Args → Option (Sl × Args)
def allIo : Args → Bool := fun as => as.all fun s => match s with | .dat _ => true | .own io _ => io
def spI (K : PySem.W.Frag) (np : Nat) (F : FD) : Sp := fun vs H Q E => ∃ (n : Nat) (G : Hp) (as : Args) (s : Sl) (as' : Args), vs.length = np ∧ SR K G H (vs.map some) (as.map some) ∧ allIo as = true ∧ F n as = some (s, as') ∧
  ∀ v H' G', Stp (vs.map some) (as.map some) G H (vs.map some) (as'.map some) G' H' → SR K G' H' (vs.map some) (as'.map some) → RetR K (vs.map some) (as.map some) H G' H' v s → Q v H'

/-! ### a def's body -/
def startR (L : Nat) (as : Args) : Rho := as.map some ++ List.replicate (L - as.length) none
/-- what the lists that were handed in have become -/
def ends (as : Args) (ρ : Rho) : Args := as.mapIdx fun i s => match s with
  | .dat d => .dat d
  | .own io ds => (match ρ[i]? with | some (some (.own true es)) => .own true es | _ => .own io ds)
def runB (g : FS) (L np : Nat) (as : Args) : Option (Sl × Args) := if as.length = np then frcA as fun as => (match g (startR L as) with
  | .ok (.nx, ρ') => frcA (ends as ρ') fun es => some (.dat .non, es)
  | .ok (.rt s, ρ') => frcT s fun s => frcA (ends as ρ') fun es => some (s, es)
  | _ => none) else none
theorem runB_len {g : FS} {L np : Nat} {as as' : Args} {s : Sl} (h : runB g L np as = some (s, as')) : as.length = np := by
  unfold runB at h
  by_cases z : as.length = np
  · exact z
  · rw [if_neg z] at h; cases h
section
variable {K : PySem.W.Frag} {G H : Hp} {vs : List V} {as : Args} {N : List Str}
theorem get_map_some {α : Type} {l : List α} {i : Nat} {x : Option α} (h : (l.map some)[i]? = some x) : ∃ y, l[i]? = some y ∧ x = some y := by
  rw [List.getElem?_map] at h
  cases q : l[i]? with
  | none => rw [q] at h; cases h
  | some y => rw [q] at h; cases h; exact ⟨y, rfl, rfl⟩
theorem start_get {i : Nat} {o : Option V} (h : (L2.start N vs)[i]? = some o) : (vs.map some)[i]? = some o ∨ o = none := by
  unfold L2.start at h
  rw [List.getElem?_append] at h
  split at h
  · exact .inl h
  · rw [List.getElem?_replicate] at h
    split at h
    · cases h; exact .inr rfl
    · cases h
theorem startR_get {L i : Nat} {o : Option Sl} (h : (startR L as)[i]? = some o) : (as.map some)[i]? = some o ∨ o = none := by
  unfold startR at h
  rw [List.getElem?_append] at h
  split at h
  · exact .inl h
  · rw [List.getElem?_replicate] at h
    split at h
    · cases h; exact .inr rfl
    · cases h
theorem startR_of {L i : Nat} {o : Option Sl} (h : (as.map some)[i]? = some o) : (startR L as)[i]? = some o := by
  have hl : i < (as.map some).length := (List.getElem?_eq_some_iff.mp h).1
  unfold startR
  rw [List.getElem?_append_left hl]
  exact h
theorem start_of {i : Nat} {o : Option V} (h : (vs.map some)[i]? = some o) : (L2.start N vs)[i]? = some o := by
  have hl : i < (vs.map some).length := (List.getElem?_eq_some_iff.mp h).1
  unfold L2.start
  rw [List.getElem?_append_left hl]
  exact h
theorem SR.start (I : SR K G H (vs.map some) (as.map some)) : SR K G H (L2.start N vs) (startR N.length as) where
  tab := I.tab
  lam := I.lam
  len := by
    have h := I.len
    rw [List.length_map, List.length_map] at h
    unfold L2.start startR
    rw [List.length_append, List.length_append, List.length_map, List.length_map, List.length_replicate, List.length_replicate, h]
  sub := I.sub
  slot := fun i s o h1 h2 => by
    rcases startR_get h1 with h1 | rfl
    · rcases start_get h2 with h2 | rfl
      · exact I.slot i s o h1 h2
      · have hl : i < (vs.map some).length := by rw [← I.len]; exact (List.getElem?_eq_some_iff.mp h1).1
        have e := start_of (N := N) (List.getElem?_eq_getElem hl)
        rw [h2] at e
        have e2 : (none : Option V) = (vs.map some)[i] := Option.some.inj e
        rw [List.getElem_map] at e2
        cases e2
    · trivial
  inj := fun i j io jo ds es a h1 h2 h3 h4 => by
    rcases startR_get h1 with h1 | e
    · rcases startR_get h2 with h2 | e
      · rcases start_get h3 with h3 | e
        · rcases start_get h4 with h4 | e
          · exact I.inj i j io jo ds es a h1 h2 h3 h4
          · cases e
        · cases e
      · cases e
    · cases e
theorem OwnAt.start {a : Addr} (h : OwnAt (L2.start N vs) (startR N.length as) a) : OwnAt (vs.map some) (as.map some) a := by
  obtain ⟨i, io, ds, h1, h2⟩ := h
  rcases startR_get h1 with h1 | e
  · rcases start_get h2 with h2 | e
    · exact ⟨i, io, ds, h1, h2⟩
    · cases e
  · cases e
theorem OwnN.startF (hio : allIo as = true) {σ : L2.St} {a : Addr} {L : Nat} (h : OwnN σ (startR L as) a) : False := by
  obtain ⟨i, ds, h1, h2⟩ := h
  rcases startR_get h1 with h1 | e
  · obtain ⟨y, e1, e2⟩ := get_map_some h1
    cases e2
    have z := List.all_eq_true.mp hio _ (List.mem_of_getElem? e1)
    simp at z
  · cases e
theorem OwnN.mapF (hio : allIo as = true) {σ : L2.St} {a : Addr} (h : OwnN σ (as.map some) a) : False := by
  obtain ⟨i, ds, h1, h2⟩ := h
  obtain ⟨y, e1, e2⟩ := get_map_some h1
  cases e2
  have z := List.all_eq_true.mp hio _ (List.mem_of_getElem? e1)
  simp at z
theorem ends_get {ρ : Rho} {i : Nat} {s : Sl} (h : (ends as ρ)[i]? = some s) : ∃ t, as[i]? = some t ∧ s = (match t with
  | .dat d => .dat d
  | .own io ds => (match ρ[i]? with | some (some (.own true es)) => .own true es | _ => .own io ds)) := by
  unfold ends at h
  rw [List.getElem?_mapIdx] at h
  cases q : as[i]? with
  | none => rw [q] at h; cases h
  | some t => rw [q] at h; cases h; exact ⟨t, rfl, rfl⟩
/-- behind the body: seen from the caller -/
theorem back_of {σ' : L2.St} {ρ' : Rho} {G' H' : Hp} (hio : allIo as = true) (I : SR K G H (vs.map some) (as.map some)) (st : Stp (L2.start N vs) (startR N.length as) G H σ' ρ' G' H') (I' : SR K G' H' σ' ρ') :
    Stp (vs.map some) (as.map some) G H (vs.map some) ((ends as ρ').map some) G' H' ∧ SR K G' H' (vs.map some) ((ends as ρ').map some) := by
  have key : ∀ (i : Nat) (io : Bool) (ds : List D), (as.map some)[i]? = some (some (Sl.own io ds)) → io = true ∧ σ'[i]? = (vs.map some)[i]? ∧ ∃ es, ρ'[i]? = some (some (Sl.own true es)) := fun i io ds h => by
    obtain ⟨y, e1, e2⟩ := get_map_some h
    cases e2
    have z := List.all_eq_true.mp hio _ (List.mem_of_getElem? e1)
    simp only at z
    subst z
    obtain ⟨q1, q2⟩ := st.stay i ds (startR_of h)
    refine ⟨rfl, ?_, q2⟩
    rw [q1]
    have hl : i < (vs.map some).length := by rw [← I.len]; exact (List.getElem?_eq_some_iff.mp h).1
    rw [List.getElem?_eq_getElem hl]
    exact start_of (List.getElem?_eq_getElem hl)
  have key2 : ∀ (i : Nat) (io : Bool) (es : List D), ((ends as ρ').map some)[i]? = some (some (Sl.own io es)) → io = true ∧ (∃ ds, (as.map some)[i]? = some (some (Sl.own true ds))) ∧ ρ'[i]? = some (some (Sl.own true es)) ∧ σ'[i]? = (vs.map some)[i]? := fun i io es h => by
    obtain ⟨y, e1, e2⟩ := get_map_some h
    cases e2
    obtain ⟨t, e3, e4⟩ := ends_get e1
    cases t with
    | dat d => cases e4
    | own jo ds =>
      have h3 : (as.map some)[i]? = some (some (.own jo ds)) := by rw [List.getElem?_map, e3]; rfl
      obtain ⟨z, z2, fs, z3⟩ := key i jo ds h3
      subst z
      rw [z3] at e4
      cases e4
      exact ⟨rfl, ⟨ds, h3⟩, z3, z2⟩
  have own0 : ∀ a, OwnAt (vs.map some) ((ends as ρ').map some) a → OwnAt (vs.map some) (as.map some) a := fun a ⟨i, io, es, h1, h2⟩ => by
    obtain ⟨_, ⟨ds, h3⟩, _, _⟩ := key2 i io es h1
    exact ⟨i, true, ds, h3, h2⟩
  refine ⟨⟨st.sub, fun a h n => st.new a h fun z => n z.start, fun a o h n t => st.keep a o h (fun z => n z.start) t, st.grow, st.dom, fun a z => .inl (own0 a z), fun a z => ?_, fun i ds h => ?_⟩, ⟨I'.tab, I'.lam, ?_, I'.sub, fun i s o h1 h2 => ?_, fun i j io jo ds es a h1 h2 h3 h4 => ?_⟩⟩
  · obtain ⟨i, es, h1, _⟩ := z
    obtain ⟨e, _⟩ := key2 i false es h1
    cases e
  · obtain ⟨_, z2, fs, z3⟩ := key i true ds h
    refine ⟨rfl, fs, ?_⟩
    obtain ⟨y, e1, e2⟩ := get_map_some h
    cases e2
    rw [List.getElem?_map]
    unfold ends
    rw [List.getElem?_mapIdx, e1]
    simp only [Option.map, z3]
  · rw [List.length_map, List.length_map]
    unfold ends
    rw [List.length_mapIdx]
    have := I.len
    rw [List.length_map, List.length_map] at this
    exact this
  · obtain ⟨y, e1, e2⟩ := get_map_some h1
    subst e2
    cases y with
    | dat d =>
      obtain ⟨t, e3, e4⟩ := ends_get e1
      cases t with
      | dat d' =>
        cases e4
        obtain ⟨v, e, r⟩ := I.slot i (some (.dat d)) o (by rw [List.getElem?_map, e3]; rfl) h2
        exact ⟨v, e, Rep.mono st.sub _ _ r⟩
      | own io ds =>
        have h3 : (as.map some)[i]? = some (some (.own io ds)) := by rw [List.getElem?_map, e3]; rfl
        obtain ⟨_, _, fs, z3⟩ := key i io ds h3
        rw [z3] at e4
        cases e4
    | own io es =>
      obtain ⟨_, _, h4, h5⟩ := key2 i io es h1
      obtain ⟨a, us, e, r⟩ := I'.slot i _ o h4 (by rw [h5]; exact h2)
      exact ⟨a, us, e, r⟩
  · obtain ⟨_, _, h5, h6⟩ := key2 i io ds h1
    obtain ⟨_, _, h7, h8⟩ := key2 j jo es h2
    exact I'.inj i j _ _ _ _ a h5 h7 (by rw [h6]; exact h3) (by rw [h8]; exact h4)
theorem ret_of {G' H' : Hp} {v : V} {s : Sl} (hio : allIo as = true) (h : RetR K (L2.start N vs) (startR N.length as) H G' H' v s) : RetR K (vs.map some) (as.map some) H G' H' v s := by
  cases s with
  | dat d => exact h
  | own io ds =>
    obtain ⟨e, p, us, e1, e2, e3, e4, e5⟩ := h
    exact ⟨e, p, us, e1, e2, e3, e4, .inr (e5.resolve_left fun z => OwnN.startF hio z)⟩
/-- a body's reading gives the promise -/
theorem rdS_runB {g : FS} {np : Nat} {Q : VK} {s : Sl} {as' : Args} (hio : allIo as = true) (I : SR K G H (vs.map some) (as.map some)) (h : runB g N.length np as = some (s, as'))
    (q : ∀ v H' G', Stp (vs.map some) (as.map some) G H (vs.map some) (as'.map some) G' H' → SR K G' H' (vs.map some) (as'.map some) → RetR K (vs.map some) (as.map some) H G' H' v s → Q v H') :
    rdS K g { nx := fun _ H' => Q .non H', rt := Q } (L2.start N vs) H := by
  refine ⟨startR N.length as, G, I.start, ?_⟩
  unfold rdSK
  have hl := runB_len h
  unfold runB at h
  rw [if_pos hl, frcA_eq] at h
  simp only [frcA_eq, frcT_eq] at h
  cases e : g (startR N.length as) with
  | ex _ _ => rw [e] at h; cases h
  | no => rw [e] at h; cases h
  | ok p =>
    obtain ⟨f, ρ'⟩ := p
    rw [e] at h
    cases f with
    | nx =>
      cases h
      intro σ' H' G' st I'
      obtain ⟨A, B⟩ := back_of hio I st I'
      exact q .non H' G' A B (rep_non (K := K) (G := G'))
    | bk => cases h
    | ct => cases h
    | rt s =>
      cases h
      intro v σ' H' G' st I' r
      obtain ⟨A, B⟩ := back_of hio I st I'
      exact q v H' G' A B (ret_of hio r)
end

/-! ### a def of the text: its code object known -/
structure FunC (K : PySem.W.Frag) (x qual : Str) (st : Stmt) (f : Addr) (fd : FuncData) (cdv : Value) : Prop where
  ex : ∃ (oc : Value) (od : Option Addr) (kV doc pm : Value) (an : Option Addr) (ct : Value) (osl : Array (Option Value)),
    fd = PySem.W.fnOf x qual (defArgs st) (defBody st) (defScope st) .none kV doc pm an cdv ct ∧ K.lookup f = some ⟨oc, od, .func fd, osl⟩ ∧ PySem.W.codeIn K cdv qual = true
  kp : PySem.W.keepIn K (.ref f) = true
section
variable {P : Program} {w : World} {K : PySem.W.Frag} {mg : Str → Option Value} {base : Heap}
theorem funC_mk {x qual : Str} {st : Stmt} {f : Addr} {oc : Value} {od an : Option Addr} {osl : Array (Option Value)} {kV doc pm cdv ct : Value} (l : K.lookup f = some ⟨oc, od, .func (PySem.W.fnOf x qual (defArgs st) (defBody st) (defScope st) .none kV doc pm an cdv ct), osl⟩)
    (c : PySem.W.codeIn K cdv qual = true) (k : PySem.W.keepIn K (.ref f) = true) : FunC K x qual st f (PySem.W.fnOf x qual (defArgs st) (defBody st) (defScope st) .none kV doc pm an cdv ct) cdv := ⟨⟨oc, od, kV, doc, pm, an, ct, osl, rfl, l, c⟩, k⟩
theorem FunC.binds {x qual : Str} {st : Stmt} {f : Addr} {fd : FuncData} {cdv : Value} {ps : List Str} (F : FunC K x qual st f fd cdv)
    (h : ∀ (kV doc pm : Value) (an : Option Addr) (cdv ct : Value) (us : List Value), us.length = ps.length → bindArgs (PySem.W.fnOf x qual (defArgs st) (defBody st) (defScope st) .none kV doc pm an cdv ct) ⟨us, []⟩ = pure (ps.zip us)) : Binds K fd ps [] := by
  obtain ⟨oc, od, kV, doc, pm, an, ct, osl, rfl, lk, hcd⟩ := F.ex
  exact .all (h kV doc pm an cdv ct)
/-- the context of a def's body -/
abbrev bodyX (P : Program) (w : World) (K : PySem.W.Frag) (mg : Str → Option Value) (base : Heap) (N : List Str) (qual : Str) (sc : Scope) (f : Addr) (cdv : Value) (A : Around) (outer : List Env) (s : Shared) (H : Hp) (E : XK) : Cx :=
  (cxOf CX0 P w K mg base N qual sc f cdv A outer s H E).nox
/-- room, and nothing is under repr -/
structure Rm (k : Nat) (A : Around) : Prop where
  r : Room k A
  g : A.guards = some []
omit [Tabs] in
theorem Rm.mono {j k : Nat} {A : Around} (h : Rm k A) (l : j ≤ k) : Rm j A := ⟨h.r.mono l, h.g⟩
/-- a def's promise, where nothing is under repr -/
structure FnG (P : Program) (w : World) (K : PySem.W.Frag) (mg : Str → Option Value) (base : Heap) (k : Nat) (f : Addr) (fd : FuncData) (ps : List Str) (sp : Sp) : Prop where
  size : ∀ xs H Q E, sp xs H Q E → xs.length = ps.length
  go : ∀ (A : Around) (below : List Env) (t : Shared) (H : Hp) (args : PySem.Args) (us : List Value) (xs : List V) (Q : VK) (E : XK), Rm k A → Env0 P w K mg base A below t H → BindsTo t fd args (ps.zip us) → Vals xs us → sp xs H Q E → codeAny (model P w) A (.call (.ref f) args) (CR CX0 below P w H t Q E) t
omit [Tabs] in
theorem fnG_of {k : Nat} {f : Addr} {name qual : Str} {params : Arguments} {body : List Stmt} {sc : Scope} {dV kV doc pm cdv ct oc : Value} {an od : Option Addr} {osl : Array (Option Value)} {N ps : List Str} {sp : Sp}
    (lk : K.lookup f = some ⟨oc, od, .func (PySem.W.fnOf name qual params body sc dV kV doc pm an cdv ct), osl⟩) (hc : PySem.W.codeIn K cdv qual = true) (S : FnScope N ps sc) (size : ∀ xs H Q E, sp xs H Q E → xs.length = ps.length)
    (hb : ∀ (A : Around) (below : List Env) (t : Shared) (H : Hp) (xs : List V) (Q : VK) (E : XK), Rm k (A.deeper (envOfC qual sc t.heap.objs.size f cdv)) → sp xs H Q E →
      ∃ T, PSs (cxOf CX0 P w K mg base N qual sc f cdv A below t H E) body T ∧ T { nx := fun _ H' => Q .non H', rt := Q } (L2.start N xs) H) : FnG P w K mg base (k + 1) f (PySem.W.fnOf name qual params body sc dV kV doc pm an cdv ct) ps sp := by
  refine ⟨size, fun A below t H args us xs Q E rm env bt vv sps => ?_⟩
  have inB : ∀ b o, base.get? b = some o → t.heap.get? b = some o := fun b o q => (env.bs b o q).1
  have KT : K.In t.heap := env.mod.kin.keeps inB
  refine codeAny_call_function rm.r.depth (KT _ _ lk) rfl S.co S.gen rfl (PySem.W.codeRec_of KT hc) (bt _ _ _ _ ?_)
  refine wpAny_newFunctionEnv_cells S.kind (fun y hy => ?_) fun e he t1 z => ?_
  · have hm := (List.of_mem_zip (show (y.1, y.2) ∈ ps.zip us from hy)).1
    exact (S.par _ hm).elim .inl fun q => .inr ⟨q, PySem.W.cellsFrom_some _ _ _ (.inl q)⟩
  · subst he
    refine ⟨(env.mod.nolimit.keeps inB).keeps z.toInCall.keep, codeAny_func ?_⟩
    obtain ⟨T, hT, hq⟩ := hb A below t H xs Q E ⟨rm.r.deeper _, rm.g⟩ sps
    have J := inv_start (CX := CX0) (P := P) (w := w) (E := E) S rm.r.hd env (size _ _ _ _ sps) vv z
    refine wpAny_mono (hT.run [] t1 _ H _ J hq) (fun fl t2 z2 => ?_) fun _ _ q => q
    match fl, z2 with
    | .ret u, ⟨v, _, H', J', rv, q⟩ => exact ⟨v, H', J'.os, J'.bare, J'.base, J'.hok, rv, q⟩
    | .next, ⟨_, H', J', q⟩ => exact ⟨.non, H', J'.os, J'.bare, J'.base, J'.hok, rfl, q⟩
    | .brk, ⟨_, _, _, q⟩ => exact q.elim
    | .cont, ⟨_, _, _, q⟩ => exact q.elim
omit [Tabs] in
/-- f(e, ..) -/
theorem pe_callG {X : Cx} {k : Nat} {f : Addr} {fd : FuncData} {ps : List Str} {sp : Sp} {x : Str} {p pos : Pos} {e : Expr} {es : List Expr} {t : TA} (F : FnG X.prog X.w X.K X.mg X.base k f fd ps sp) (rm : Rm k X.A) (hg : Gl X x) (hm : X.mg x = some (.ref f)) (kp : PySem.W.keepIn X.K (.ref f) = true) (hb : Binds X.K fd ps []) (ha : PA X (e :: es) t)
    (hdb : (x == ("__debug__" : Str)) = false) (he : starEach (e :: es) X.env = (false, eval e X.env) :: starEach es X.env) (hpl : (backTo pos (starEach es X.env)).any (·.1) = false) : PE X (.Call (.Name x p) (e :: es) [] pos) (tCall sp [] E0 t) := by
  refine ⟨fun pins s σ H Q I h => wpAny_Call_Name_kw (ld_glob I hg hm (PySem.W.callWith_K (h₀ := X.base) I.ok.mod.kin kp (thn (ha.run pos pins s σ H _ I h) fun us s1 ⟨vs, H1, I1, r, q⟩ => ⟨I1.kIn, ?_⟩) he hpl) hdb)⟩
  dsimp only at q
  rw [List.append_nil] at q
  show wpAny _ _ (call (.ref f) us) _ _ _
  have hl : (us ++ []).length = ps.length := by rw [List.append_nil, ← r.length]; exact F.size _ _ _ _ q
  have bt := hb s1 us I1.kIn hl
  rw [List.append_nil] at bt
  refine wpAny_call (codeAny_mono (F.go X.A X.stack s1 H1 ⟨us, []⟩ us vs Q E0 rm I1.env0 bt r q) fun rr s2 z => ?_)
  match rr, z with
  | .ok (.ret u), z => exact I1.after z
  | .ok .next, z => exact z.elim
  | .ok .brk, z => exact z.elim
  | .ok .cont, z => exact z.elim
  | .error _, z => exact z.elim
/-- THE RULE for a def -/
theorem dfn_ok {x qual : Str} {st : Stmt} {f : Addr} {fd : FuncData} {cdv : Value} {N ps : List Str} {k : Nat} {g : Nat → FS} (F : FunC K x qual st f fd cdv) (S : FnScope N ps (defScope st))
    (hbody : ∀ (n : Nat) (A : Around) (outer : List Env) (s : Shared) (H : Hp) (E : XK), Rm k (A.deeper (envOfC qual (defScope st) s.heap.objs.size f cdv)) →
      PSs (bodyX P w K mg base N qual (defScope st) f cdv A outer s H E) (defBody st) (rdS K (g n))) : FnG P w K mg base (k + 1) f fd ps (spI K ps.length fun n as => runB (g n) N.length ps.length as) := by
  obtain ⟨oc, od, kV, doc, pm, an, ct, osl, rfl, lk, hcd⟩ := F.ex
  refine fnG_of lk hcd S (fun vs H Q E ⟨_, _, _, _, _, h, _⟩ => h) fun A outer s H vs Q E hr hsp => ?_
  obtain ⟨n, G, as, sl, as', hl, I, hio, h, q⟩ := hsp
  exact ⟨_, (hbody n A outer s H E hr).nox, rdS_runB hio I h q⟩
end

/-! ### calls -/
/-- an argument: data, or a list of one's own, handed in -/
inductive Ar where
  | d (d : D) | o (j : Nat)
abbrev FAr := Rho → Rz (List Ar × Rho)
def ArR (K : PySem.W.Frag) (G : Hp) (σ : L2.St) : List Ar → List V → Prop
  | [], vs => vs = []
  | .d d :: xs, vs => ∃ v r, vs = v :: r ∧ Rep K G d v ∧ ArR K G σ xs r
  | .o j :: xs, vs => ∃ v r, vs = v :: r ∧ σ[j]? = some (some v) ∧ ArR K G σ xs r
def rdRK (K : PySem.W.Frag) (f : FAr) (σ : L2.St) (ρ : Rho) (G H : Hp) (Q : List V → Hp → Prop) : Prop := match f ρ with
  | .ok (xs, ρ') => ∀ vs H' G', Stp σ ρ G H σ ρ' G' H' → SR K G' H' σ ρ' → ArR K G' σ xs vs → Q vs H'
  | .ex _ _ => False
  | .no => False
def rdR (K : PySem.W.Frag) (f : FAr) : TA := fun σ H Q => ∃ ρ G, SR K G H σ ρ ∧ rdRK K f σ ρ G H Q
def rNil : FAr := fun ρ => .ok ([], ρ)
def rCons (fa : FE) (fr : FAr) : FAr := fun ρ => (fa ρ).bind fun p => (fr p.2).bind fun q => .ok (.d p.1 :: q.1, q.2)
def rOwn (j : Nat) (fr : FAr) : FAr := fun ρ => match ownL ρ j with | some _ => (fr ρ).bind fun q => .ok (.o j :: q.1, q.2) | none => .no
section
variable {X : Cx} {a : Expr} {es : List Expr} {fa : FE} {fs : FAr}
theorem dr_nil : PA X [] (rdR X.K rNil) := by
  refine pa_imp pa_nil fun σ H Q ⟨ρ, G, I, h⟩ => ?_
  exact h [] H G (Stp.refl _ _ _ _) I (by simp only [ArR])
theorem dr_cons (ha : PE X a (rd X.K fa)) (hr : PA X es (rdR X.K fs)) (hs : starEach (a :: es) X.env = (false, eval a X.env) :: starEach es X.env := by rfl) : PA X (a :: es) (rdR X.K (rCons fa fs)) := by
  refine pa_imp (pa_cons ha hr hs) fun σ H Q ⟨ρ, G, I, h⟩ => ?_
  unfold rdRK rCons at h
  refine rd_of I ?_
  unfold rdK
  cases e : fa ρ with
  | ex _ _ => rw [e] at h; exact h
  | no => rw [e] at h; exact h
  | ok p =>
    obtain ⟨d, ρ1⟩ := p
    rw [e] at h
    dsimp only [Rz.bind] at h ⊢
    intro v H1 G1 s1 I1 r1
    refine ⟨ρ1, G1, I1, ?_⟩
    unfold rdRK
    cases e2 : fs ρ1 with
    | ex _ _ => rw [e2] at h; exact h
    | no => rw [e2] at h; exact h
    | ok q =>
      obtain ⟨ds, ρ2⟩ := q
      rw [e2] at h
      dsimp only at h ⊢
      intro vs H2 G2 s2 I2 r2
      exact h (v :: vs) H2 G2 (s1.trans s2) I2 (by simp only [ArR]; exact ⟨v, vs, rfl, Rep.mono s2.sub _ _ r1, r2⟩)
theorem dr_own (j : Nat) {x : Str} {px : Pos} (hr : PA X es (rdR X.K fs)) (hN : X.N[j]? = some x := by rfl) (hv : Vis X.env.scope x := by first | exact Or.inl rfl | exact Or.inr (Or.inl rfl) | exact Or.inr (Or.inr rfl)) (hd : (x == ("__debug__" : Str)) = false := by decide)
    (hcd : (x == ("__classdict__" : Str)) = false := by decide) (hs : starEach (.Name x px :: es) X.env = (false, eval (.Name x px) X.env) :: starEach es X.env := by rfl) : PA X (.Name x px :: es) (rdR X.K (rOwn j fs)) := by
  refine pa_imp (pa_cons (pe_var (i := j) hN hv hd hcd) hr hs) fun σ H Q ⟨ρ, G, I, h⟩ => ?_
  unfold rdRK rOwn at h
  cases e : ownL ρ j with
  | none => rw [e] at h; exact h.elim
  | some p =>
    rw [e] at h
    dsimp only at h
    obtain ⟨a, vs, e1, _⟩ := I.own e
    refine ⟨.ref a, e1, ρ, G, I, ?_⟩
    unfold rdRK
    cases e2 : fs ρ with
    | ex _ _ => rw [e2] at h; exact h
    | no => rw [e2] at h; exact h
    | ok q =>
      obtain ⟨ds, ρ2⟩ := q
      rw [e2] at h
      dsimp only [Rz.bind] at h ⊢
      intro vs H2 G2 s2 I2 r2
      exact h (.ref a :: vs) H2 G2 s2 I2 (by simp only [ArR]; exact ⟨_, vs, rfl, e1, r2⟩)
end

def argsOf (ρ : Rho) : List Ar → Option Args
  | [] => some []
  | .d d :: xs => (argsOf ρ xs).map (Sl.dat d :: ·)
  | .o j :: xs => match ownL ρ j with | some (_, ds) => (argsOf ρ xs).map (Sl.own true ds :: ·) | none => none
def isO (i : Nat) : Ar → Bool | .o j => j == i | _ => false
/-- no list is handed in twice -/
def onceO (xs : List Ar) : Bool := (List.range xs.length).all fun k => match xs[k]? with | some (.o j) => xs.findIdx? (isO j) == some k | _ => true
def backO (xs : List Ar) (as' : Args) (ρ : Rho) : Rho := ρ.mapIdx fun i s => match s with
  | some (.own io ds) => (match xs.findIdx? (isO i) with
    | some k => (match as'[k]? with | some (.own _ es) => some (.own io es) | _ => some (.own io ds))
    | none => some (.own io ds))
  | s => s
section
variable {K : PySem.W.Frag} {σ : L2.St} {ρ : Rho} {G H : Hp}
theorem onceO_of {xs : List Ar} {k j : Nat} (h : onceO xs = true) (e : xs[k]? = some (.o j)) : xs.findIdx? (isO j) = some k := by
  have hl := (List.getElem?_eq_some_iff.mp e).1
  have z := List.all_eq_true.mp h k (List.mem_range.mpr hl)
  rw [e] at z
  simpa using z
/-- place by place -/
theorem args_get : ∀ {xs : List Ar} {vs : List V} {as : Args}, ArR K G σ xs vs → argsOf ρ xs = some as → vs.length = as.length ∧ as.length = xs.length ∧ ∀ (k : Nat) (s : Sl), as[k]? = some s → ∃ v : V, vs[k]? = some v ∧
    ((∃ d : D, xs[k]? = some (Ar.d d) ∧ s = Sl.dat d ∧ Rep K G d v) ∨ (∃ (j : Nat) (io : Bool) (ds : List D), xs[k]? = some (Ar.o j) ∧ ownL ρ j = some (io, ds) ∧ s = Sl.own true ds ∧ σ[j]? = some (some v)))
  | [], vs, as, h, e => by
    simp only [ArR] at h; subst h; cases e
    exact ⟨rfl, rfl, fun k s z => by simp at z⟩
  | .d d :: xs, vs, as, h, e => by
    simp only [ArR] at h
    obtain ⟨v, r, rfl, h1, h2⟩ := h
    simp only [argsOf] at e
    cases q : argsOf ρ xs with
    | none => rw [q] at e; cases e
    | some bs =>
      rw [q] at e; cases e
      obtain ⟨l1, l2, f⟩ := args_get h2 q
      refine ⟨by rw [List.length_cons, List.length_cons, l1], by rw [List.length_cons, List.length_cons, l2], fun k s z => ?_⟩
      cases k with
      | zero => simp at z; subst z; exact ⟨v, rfl, .inl ⟨d, rfl, rfl, h1⟩⟩
      | succ k => simp at z; exact f k s z
  | .o j :: xs, vs, as, h, e => by
    simp only [ArR] at h
    obtain ⟨v, r, rfl, h1, h2⟩ := h
    simp only [argsOf] at e
    cases q0 : ownL ρ j with
    | none => rw [q0] at e; cases e
    | some p =>
      obtain ⟨io, ds⟩ := p
      rw [q0] at e
      dsimp only at e
      cases q : argsOf ρ xs with
      | none => rw [q] at e; cases e
      | some bs =>
        rw [q] at e; cases e
        obtain ⟨l1, l2, f⟩ := args_get h2 q
        refine ⟨by rw [List.length_cons, List.length_cons, l1], by rw [List.length_cons, List.length_cons, l2], fun k s z => ?_⟩
        cases k with
        | zero => simp at z; subst z; exact ⟨v, rfl, .inr ⟨j, io, ds, rfl, q0, rfl, h1⟩⟩
        | succ k => simp at z; exact f k s z
theorem args_io {xs : List Ar} {as : Args} : argsOf ρ xs = some as → allIo as = true := by
  intro h
  unfold allIo
  induction xs generalizing as with
  | nil => cases h; rfl
  | cons x xs ih =>
    cases x with
    | d d =>
      simp only [argsOf] at h
      cases q : argsOf ρ xs with
      | none => rw [q] at h; cases h
      | some bs => rw [q] at h; cases h; rw [List.all_cons, ih q]; rfl
    | o j =>
      simp only [argsOf] at h
      cases q0 : ownL ρ j with
      | none => rw [q0] at h; cases h
      | some p =>
        rw [q0] at h
        dsimp only at h
        cases q : argsOf ρ xs with
        | none => rw [q] at h; cases h
        | some bs => rw [q] at h; cases h; rw [List.all_cons, ih q]; rfl
theorem args_SR {xs : List Ar} {vs : List V} {as : Args} (I : SR K G H σ ρ) (h : ArR K G σ xs vs) (e : argsOf ρ xs = some as) (o : onceO xs = true) : SR K G H (vs.map some) (as.map some) := by
  obtain ⟨l1, l2, f⟩ := args_get h e
  refine ⟨I.tab, I.lam, by rw [List.length_map, List.length_map, l1], I.sub, fun k s ov h1 h2 => ?_, fun k l io jo ds es a h1 h2 h3 h4 => ?_⟩
  · obtain ⟨s, e1, rfl⟩ := get_map_some h1
    obtain ⟨v, e2, rfl⟩ := get_map_some h2
    obtain ⟨v', e3, z⟩ := f k s e1
    rw [e2] at e3; cases e3
    rcases z with ⟨d, _, rfl, r⟩ | ⟨j, io, ds, _, q, rfl, q2⟩
    · exact ⟨v, rfl, r⟩
    · obtain ⟨a, us, z1, z2, z3, z4⟩ := I.own q
      rw [q2] at z1; cases z1
      exact ⟨a, us, rfl, z2, z3, z4⟩
  · obtain ⟨s1, e1, z1⟩ := get_map_some h1
    obtain ⟨s2, e2, z2⟩ := get_map_some h2
    cases z1; cases z2
    obtain ⟨v1, f1, w1⟩ := f k _ e1
    obtain ⟨v2, f2, w2⟩ := f l _ e2
    have g1 : v1 = .ref a := by
      rw [List.getElem?_map, f1] at h3
      cases h3; rfl
    have g2 : v2 = .ref a := by
      rw [List.getElem?_map, f2] at h4
      cases h4; rfl
    subst g1; subst g2
    rcases w1 with ⟨_, _, z, _⟩ | ⟨j1, io1, ds1, x1, q1, _, y1⟩
    · cases z
    rcases w2 with ⟨_, _, z, _⟩ | ⟨j2, io2, ds2, x2, q2, _, y2⟩
    · cases z
    have ej := I.inj j1 j2 io1 io2 ds1 ds2 a (ownL_eq q1) (ownL_eq q2) y1 y2
    subst ej
    have a1 := onceO_of o x1
    have a2 := onceO_of o x2
    rw [a1] at a2
    cases a2; rfl
theorem backO_get {xs : List Ar} {as' : Args} {i : Nat} {s : Option Sl} (h : (backO xs as' ρ)[i]? = some s) : ∃ t, ρ[i]? = some t ∧ s = (match t with
  | some (.own io ds) => (match xs.findIdx? (isO i) with
    | some k => (match as'[k]? with | some (.own _ es) => some (.own io es) | _ => some (.own io ds))
    | none => some (.own io ds))
  | s => s) := by
  unfold backO at h
  rw [List.getElem?_mapIdx] at h
  cases q : ρ[i]? with
  | none => rw [q] at h; cases h
  | some t => rw [q] at h; cases h; exact ⟨t, rfl, rfl⟩
/-- behind a call, in the caller -/
theorem call_back {xs : List Ar} {vs : List V} {as as' : Args} {G' H' : Hp} (I : SR K G H σ ρ) (h : ArR K G σ xs vs) (e : argsOf ρ xs = some as) (o : onceO xs = true)
    (st : Stp (vs.map some) (as.map some) G H (vs.map some) (as'.map some) G' H') (I' : SR K G' H' (vs.map some) (as'.map some)) :
    Stp σ ρ G H σ (backO xs as' ρ) G' H' ∧ SR K G' H' σ (backO xs as' ρ) ∧ ∀ a, OwnAt σ (backO xs as' ρ) a → OwnAt σ ρ a := by
  obtain ⟨l1, l2, f⟩ := args_get h e
  -- a list that was handed in is one's own
  have ownA : ∀ a, OwnAt (vs.map some) (as.map some) a → ∃ j io ds, ownL ρ j = some (io, ds) ∧ σ[j]? = some (some (.ref a)) ∧ ∃ k : Nat, xs[k]? = some (Ar.o j) := fun a ⟨k, io, ds, h1, h2⟩ => by
    obtain ⟨s1, e1, z1⟩ := get_map_some h1
    cases z1
    obtain ⟨v1, f1, w1⟩ := f k _ e1
    have g1 : v1 = .ref a := by
      rw [List.getElem?_map, f1] at h2
      cases h2; rfl
    subst g1
    rcases w1 with ⟨_, _, z, _⟩ | ⟨j1, io1, ds1, x1, q1, _, y1⟩
    · cases z
    · exact ⟨j1, io1, ds1, q1, y1, k, x1⟩
  have ownB : ∀ a, OwnAt (vs.map some) (as.map some) a → OwnAt σ ρ a := fun a z => by
    obtain ⟨j, io, ds, q, y, _⟩ := ownA a z
    exact ⟨j, io, ds, ownL_eq q, y⟩
  have bo : ∀ (i : Nat) (io : Bool) (es : List D), (backO xs as' ρ)[i]? = some (some (Sl.own io es)) → ∃ ds, ρ[i]? = some (some (Sl.own io ds)) := fun i io es z => by
    obtain ⟨t, e1, e2⟩ := backO_get z
    rw [e1]
    cases t with
    | none => cases e2
    | some t =>
      cases t with
      | dat d => cases e2
      | own jo ds =>
        refine ⟨ds, ?_⟩
        dsimp only at e2
        split at e2
        · split at e2
          · cases e2; rfl
          · cases e2; rfl
        · cases e2; rfl
  refine ⟨⟨st.sub, fun a hh n => st.new a hh fun z => n (ownB a z), fun a ob hh n t => st.keep a ob hh (fun z => n (ownB a z)) t, st.grow, st.dom, fun a ⟨i, io, es, q1, q2⟩ => ?_, fun a ⟨i, es, q1, q2⟩ => ?_, fun i ds q => ?_⟩,
    ⟨I'.tab, I'.lam, ?_, I'.sub, fun i s ov h1 h2 => ?_, fun i j io jo ds es a h1 h2 h3 h4 => ?_⟩, fun a h => ?_⟩
  · obtain ⟨ds, q3⟩ := bo i io es q1
    exact .inl ⟨i, io, ds, q3, q2⟩
  · obtain ⟨ds, q3⟩ := bo i false es q1
    exact .inl ⟨i, ds, q3, q2⟩
  · refine ⟨rfl, ?_⟩
    unfold backO
    rw [List.getElem?_mapIdx, q]
    simp only [Option.map]
    split
    · split
      · exact ⟨_, rfl⟩
      · exact ⟨_, rfl⟩
    · exact ⟨_, rfl⟩
  · unfold backO
    rw [List.length_mapIdx]; exact I.len
  · obtain ⟨t, e1, e2⟩ := backO_get h1
    have z := I.slot i t ov e1 h2
    cases t with
    | none => subst e2; trivial
    | some t =>
      cases t with
      | dat d =>
        subst e2
        obtain ⟨v, z1, z2⟩ := z
        exact ⟨v, z1, Rep.mono st.sub _ _ z2⟩
      | own io ds =>
        obtain ⟨a, us, z1, z2, z3, z4⟩ := z
        subst z1
        -- not handed in
        have out : (∀ k : Nat, xs[k]? ≠ some (Ar.o i)) → SlRep K G' H' (some (.own io ds)) (some (.ref a)) := fun nk => by
          have na : ¬ OwnAt (vs.map some) (as.map some) a := fun y => by
            obtain ⟨j, jo, es, q, y2, k, y3⟩ := ownA a y
            have ej := I.inj i j io jo ds es a e1 (ownL_eq q) h2 y2
            subst ej
            exact nk k y3
          exact ⟨a, us, rfl, st.keep a _ z2 na rfl, (st.new a (by rw [z2]; exact fun z => by cases z) na).trans z3, Reps.mono st.sub _ _ z4⟩
        dsimp only at e2
        cases qk : xs.findIdx? (isO i) with
        | none =>
          rw [qk] at e2
          subst e2
          refine out fun k y => ?_
          have q := onceO_of o y
          rw [qk] at q; cases q
        | some k =>
          rw [qk] at e2
          dsimp only at e2
          -- the place k hands in the list at i
          have xk : xs[k]? = some (Ar.o i) := by
            obtain ⟨hlt, hp, _⟩ := List.findIdx?_eq_some_iff_getElem.mp qk
            rw [List.getElem?_eq_getElem hlt]
            cases q : xs[k] with
            | d d => rw [q] at hp; cases hp
            | o j =>
              rw [q] at hp
              simp only [isO, beq_iff_eq] at hp
              rw [hp]
          have hk : k < as.length := by rw [l2]; exact (List.getElem?_eq_some_iff.mp xk).1
          obtain ⟨v, f1, w1⟩ := f k _ (List.getElem?_eq_getElem hk)
          rcases w1 with ⟨_, y1, _⟩ | ⟨j1, io1, ds1, x1, q1, y2, y1⟩
          · rw [xk] at y1; cases y1
          · rw [xk] at x1; cases x1
            rw [h2] at y1
            have ev : v = .ref a := by cases y1; rfl
            subst ev
            have ak : (as.map some)[k]? = some (some (.own true ds1)) := by rw [List.getElem?_map, List.getElem?_eq_getElem hk, y2]; rfl
            obtain ⟨_, es, w3⟩ := st.stay k ds1 ak
            obtain ⟨s3, w4, w5⟩ := get_map_some w3
            cases w5
            rw [w4] at e2
            dsimp only at e2
            subst e2
            obtain ⟨b, us', b1, b2⟩ := I'.slot k _ (some (.ref a)) w3 (by rw [List.getElem?_map, f1]; rfl)
            cases b1
            exact ⟨_, us', rfl, b2⟩
  · obtain ⟨d1, q1⟩ := bo i io ds h1
    obtain ⟨d2, q2⟩ := bo j jo es h2
    exact I.inj i j _ _ _ _ a q1 q2 h3 h4
  · obtain ⟨i, io, es, q1, q2⟩ := h
    obtain ⟨ds, q3⟩ := bo i io es q1
    exact ⟨i, io, ds, q3, q2⟩
end
/-- f(..): the value data -/
def callD (F : FD) (n : Nat) (xs : List Ar) : Rho → Rz (D × Rho) := fun ρ => if onceO xs = true then (match argsOf ρ xs with
  | some as => (match F n as with
    | some (.dat d, as') => .ok (d, backO xs as' ρ)
    | _ => .no)
  | none => .no) else .no
def eCall (F : FD) (n : Nat) (fr : FAr) : FE := fun ρ => (fr ρ).bind fun p => callD F n p.1 p.2
def callO (F : FD) (n : Nat) (xs : List Ar) : Rho → Rz (List D × Rho) := fun ρ => if onceO xs = true then (match argsOf ρ xs with
  | some as => (match F n as with
    | some (.own false ds, as') => .ok (ds, backO xs as' ρ)
    | _ => .no)
  | none => .no) else .no
def oCall (F : FD) (n : Nat) (fr : FAr) : FA := fun ρ => (fr ρ).bind fun p => callO F n p.1 p.2
section
variable {X : Cx} {f : Addr} {fd : FuncData} {ps : List Str} {F : FD} {k : Nat} {x : Str} {p pos : Pos} {e : Expr} {es : List Expr} {fr : FAr}
theorem rd_call (n : Nat) (np : Nat) (hnp : ∀ n as s as', F n as = some (s, as') → as.length = np) (σ : L2.St) (H : Hp) (Q : VK) (h : rd X.K (eCall F n fr) σ H Q) : tCall (spI X.K np F) [] E0 (rdR X.K fr) σ H Q := by
  obtain ⟨ρ, G, I, h⟩ := h
  refine ⟨ρ, G, I, ?_⟩
  unfold eCall at h
  unfold rdRK
  cases e1 : fr ρ with
  | ex _ _ => rw [e1] at h; exact h
  | no => rw [e1] at h; exact h
  | ok q =>
    obtain ⟨xs, ρ1⟩ := q
    rw [e1] at h
    dsimp only [Rz.bind] at h ⊢
    intro vs H1 G1 s1 I1 r1
    unfold callD at h
    by_cases o : onceO xs = true
    · rw [if_pos o] at h
      cases ea : argsOf ρ1 xs with
      | none => rw [ea] at h; exact h.elim
      | some as =>
        rw [ea] at h
        dsimp only at h
        cases ef : F n as with
        | none => rw [ef] at h; exact h.elim
        | some q =>
          obtain ⟨sl, as'⟩ := q
          rw [ef] at h
          cases sl with
          | own io ds => exact h.elim
          | dat d =>
            dsimp only at h
            rw [List.append_nil]
            obtain ⟨l1, l2, _⟩ := args_get r1 ea
            refine ⟨n, G1, as, .dat d, as', by rw [l1]; exact hnp n as _ _ ef, args_SR I1 r1 ea o, args_io ea, ef, fun v H' G' st I' rr => ?_⟩
            obtain ⟨A, B, _⟩ := call_back I1 r1 ea o st I'
            exact h v H' G' (s1.trans A) B rr
    · rw [if_neg o] at h; exact h.elim
theorem rd_callO (n : Nat) (np : Nat) (hnp : ∀ n as s as', F n as = some (s, as') → as.length = np) (σ : L2.St) (H : Hp) (Q : VK) (h : rdO X.K (oCall F n fr) σ H Q) : tCall (spI X.K np F) [] E0 (rdR X.K fr) σ H Q := by
  obtain ⟨ρ, G, I, h⟩ := h
  refine ⟨ρ, G, I, ?_⟩
  unfold oCall at h
  unfold rdRK
  cases e1 : fr ρ with
  | ex _ _ => rw [e1] at h; exact h
  | no => rw [e1] at h; exact h
  | ok q =>
    obtain ⟨xs, ρ1⟩ := q
    rw [e1] at h
    dsimp only [Rz.bind] at h ⊢
    intro vs H1 G1 s1 I1 r1
    unfold callO at h
    by_cases o : onceO xs = true
    · rw [if_pos o] at h
      cases ea : argsOf ρ1 xs with
      | none => rw [ea] at h; exact h.elim
      | some as =>
        rw [ea] at h
        dsimp only at h
        cases ef : F n as with
        | none => rw [ef] at h; exact h.elim
        | some q =>
          obtain ⟨sl, as'⟩ := q
          rw [ef] at h
          cases sl with
          | dat d => exact h.elim
          | own io ds =>
            cases io with
            | true => exact h.elim
            | false =>
              dsimp only at h
              rw [List.append_nil]
              obtain ⟨l1, l2, _⟩ := args_get r1 ea
              have hio := args_io ea
              refine ⟨n, G1, as, .own false ds, as', by rw [l1]; exact hnp n as _ _ ef, args_SR I1 r1 ea o, hio, ef, fun v H' G' st I' rr => ?_⟩
              obtain ⟨A, B, C⟩ := call_back I1 r1 ea o st I'
              obtain ⟨_, q, us, rfl, z1, z2, z3, z4⟩ := rr
              have n1 : H1 q = none := z4.resolve_left fun y => OwnN.mapF hio y
              have n0 : H q = none := by
                cases y : H q with
                | none => rfl
                | some ob => exact absurd n1 (s1.dom q (by rw [y]; exact fun z => by cases z))
              refine h q us H' G' (s1.trans A) B n0 z1 z2 (fun y => ?_) z3
              exact own_dom I1 (C q y) n1
    · rw [if_neg o] at h; exact h.elim
/-- a def of the module that may be called by its name -/
structure Cl (P : Program) (w : World) (K : PySem.W.Frag) (mg : Str → Option Value) (base : Heap) (k : Nat) (x : Str) (np : Nat) (F : FD) : Prop where
  ex : ∃ (f : Addr) (fd : FuncData) (ps : List Str), FnG P w K mg base k f fd ps (spI K np F) ∧ mg x = some (.ref f) ∧ PySem.W.keepIn K (.ref f) = true ∧ Binds K fd ps []
  len : ∀ n as s as', F n as = some (s, as') → as.length = np
theorem de_call (n : Nat) {np j : Nat} (c : Cl X.prog X.w X.K X.mg X.base k x np F) (hr : Rm j X.A) (hk : k ≤ j) (hg : Gl X x) (ha : PA X (e :: es) (rdR X.K fr))
    (hdb : (x == ("__debug__" : Str)) = false := by decide) (he : starEach (e :: es) X.env = (false, eval e X.env) :: starEach es X.env := by rfl) (hpl : (backTo pos (starEach es X.env)).any (·.1) = false := by rfl) :
    PE X (.Call (.Name x p) (e :: es) [] pos) (rd X.K (eCall F n fr)) := by
  obtain ⟨f, fd, ps, FO, hm, kp, b⟩ := c.ex
  exact pe_imp (pe_callG FO (hr.mono hk) hg hm kp b ha hdb he hpl) (rd_call n np c.len)
theorem do_call (n : Nat) {np j : Nat} (c : Cl X.prog X.w X.K X.mg X.base k x np F) (hr : Rm j X.A) (hk : k ≤ j) (hg : Gl X x) (ha : PA X (e :: es) (rdR X.K fr))
    (hdb : (x == ("__debug__" : Str)) = false := by decide) (he : starEach (e :: es) X.env = (false, eval e X.env) :: starEach es X.env := by rfl) (hpl : (backTo pos (starEach es X.env)).any (·.1) = false := by rfl) :
    PE X (.Call (.Name x p) (e :: es) [] pos) (rdO X.K (oCall F n fr)) := by
  obtain ⟨f, fd, ps, FO, hm, kp, b⟩ := c.ex
  exact pe_imp (pe_callG FO (hr.mono hk) hg hm kp b ha hdb he hpl) (rd_callO n np c.len)
/-- a value that is a new list, as data -/
def eFz (f : FA) : FE := fun ρ => (f ρ).bind fun p => .ok (.lst p.1, p.2)
theorem SR.seen {K : PySem.W.Frag} {σ : L2.St} {ρ : Rho} {G H : Hp} {p : Addr} {us : List V} (I : SR K G H σ ρ) (h1 : H p = some (.lst us)) (h2 : G p = none) (n : ¬ OwnAt σ ρ p) : SR K (upd G p (.lst us)) H σ ρ := by
  have sG : Same G (upd G p (.lst us)) := same_upd h2
  have nt : ∀ b ps, H b = some (.tbl ps) → b ≠ p := fun b ps e z => by
    subst z
    rw [h1] at e; cases e
  refine ⟨I.tabs' (Grow.refl _) fun P z ⟨ps, e⟩ => upd_ne (nt P ps e), I.lam' (Grow.refl _), I.len, fun b o q => ?_, fun i s o q1 q2 => ?_, I.inj⟩
  · by_cases z : b = p
    · subst z; rw [upd_same] at q; cases q; exact h1
    · rw [upd_ne z] at q; exact I.sub b o q
  · have z := I.slot i s o q1 q2
    match s, q1, z with
    | none, _, _ => trivial
    | some (.dat d), _, ⟨v, e, r⟩ => exact ⟨v, e, Rep.mono sG _ _ r⟩
    | some (.own io' ds'), q1, ⟨b, vs, e, e2, e3, r'⟩ =>
      have nb : b ≠ p := fun z => by
        subst z; subst e
        exact n ⟨i, io', ds', q1, q2⟩
      exact ⟨b, vs, e, e2, by rw [upd_ne nb]; exact e3, Reps.mono sG _ _ r'⟩
theorem de_ofO {e : Expr} {f : FA} (h : PE X e (rdO X.K f)) : PE X e (rd X.K (eFz f)) := by
  refine pe_imp h fun σ H Q ⟨ρ, G, I, h⟩ => ?_
  refine ⟨ρ, G, I, ?_⟩
  unfold eFz at h
  cases q : f ρ with
  | ex _ _ => rw [q] at h; exact h
  | no => rw [q] at h; exact h
  | ok p =>
    obtain ⟨ds, ρ1⟩ := p
    rw [q] at h
    intro p us H1 G1 s1 I1 e1 e2 e3 n r
    have ne : ∀ a, H a ≠ none → a ≠ p := fun a h z => h (by rw [z]; exact e1)
    refine h (.ref p) H1 (upd G1 p (.lst us)) ⟨fun a o z => by rw [upd_ne (ne_of_none (s1.sub a o z) e3)]; exact s1.sub a o z, fun a z z2 => by rw [upd_ne (ne a z)]; exact s1.new a z z2, s1.keep, s1.grow, s1.dom, s1.own, s1.ownN, s1.stay⟩ (I1.seen e2 e3 n) (Rep.lst_new e3 r)
end
end M

namespace M
open PySem PySem.Spec PyProof.Rows L2
variable [Tabs]

/-! ### comprehensions -/
def wipeR (vs : List Nat) (ρ : Rho) : Rho := ρ.mapIdx fun i s => if vs.contains i = true then none else s
def restR (vs : List Nat) (ρ0 ρ : Rho) : Rho := ρ.mapIdx fun i s => if vs.contains i = true then (match ρ0[i]? with | some (some (.dat d)) => some (.dat d) | _ => none) else s
def noIo (vs : List Nat) (ρ : Rho) : Bool := vs.all fun i => !isIo ρ i
section
variable {K : PySem.W.Frag} {σ σ2 : L2.St} {ρ ρ2 : Rho} {G H : Hp} {vs : List Nat}
theorem wipe_get {i : Nat} : ∀ {vs : List Nat}, i ∉ vs → (wipe σ vs)[i]? = σ[i]?
  | [], _ => rfl
  | v :: vs, h => by
    unfold wipe
    rw [List.mem_cons, not_or] at h
    rw [List.getElem?_set_ne (fun e => h.1 e.symm)]
    exact wipe_get h.2
theorem wipe_in {i : Nat} : ∀ {vs : List Nat}, i ∈ vs → i < σ.length → (wipe σ vs)[i]? = some none
  | v :: vs, h, hl => by
    unfold wipe
    by_cases e : v = i
    · subst e
      rw [List.getElem?_set_self (by rw [wipe_length]; exact hl)]
    · rw [List.getElem?_set_ne e]
      rcases List.mem_cons.mp h with z | z
      · exact absurd z.symm e
      · exact wipe_in z hl
theorem wipe_out {i : Nat} {o : Option V} (h : (wipe σ vs)[i]? = some o) : i ∉ vs ∧ σ[i]? = some o ∨ i ∈ vs ∧ o = none := by
  by_cases z : i ∈ vs
  · right
    have hl : i < σ.length := by rw [← wipe_length σ vs]; exact (List.getElem?_eq_some_iff.mp h).1
    rw [wipe_in z hl] at h
    cases h
    exact ⟨z, rfl⟩
  · left
    rw [wipe_get z] at h
    exact ⟨z, h⟩
theorem wipe_eq (hl : σ2.length = σ.length) (h : ∀ i, i ∉ vs → σ2[i]? = σ[i]?) : wipe σ2 vs = wipe σ vs := by
  apply List.ext_getElem?
  intro i
  by_cases z : i ∈ vs
  · by_cases l : i < σ.length
    · rw [wipe_in z l, wipe_in z (by rw [hl]; exact l)]
    · rw [List.getElem?_eq_none (by rw [wipe_length, hl]; omega), List.getElem?_eq_none (by rw [wipe_length]; omega)]
  · rw [wipe_get z, wipe_get z, h i z]
theorem wipe_wipe : wipe (wipe σ vs) vs = wipe σ vs := wipe_eq (wipe_length σ vs) fun _ h => wipe_get h
theorem wipe_only {is : List Nat} (hs : ∀ i ∈ is, i ∈ vs) (o : Only is (wipe σ vs) σ2) : wipe σ2 vs = wipe σ vs := by
  rw [wipe_eq (σ := wipe σ vs) o.1 fun i h => o.2 i fun z => h (hs i z), wipe_wipe]
theorem wipeR_get {i : Nat} {s : Option Sl} (h : (wipeR vs ρ)[i]? = some s) : i ∉ vs ∧ ρ[i]? = some s ∨ i ∈ vs ∧ s = none := by
  unfold wipeR at h
  rw [List.getElem?_mapIdx] at h
  cases q : ρ[i]? with
  | none => rw [q] at h; cases h
  | some t =>
    rw [q] at h
    simp only [Option.map_some, Option.some.injEq] at h
    by_cases z : i ∈ vs
    · rw [if_pos (by simpa using z)] at h
      exact .inr ⟨z, h.symm⟩
    · rw [if_neg (by simpa using z)] at h
      exact .inl ⟨z, by rw [h]⟩
theorem wipeR_of {i : Nat} {s : Option Sl} (n : i ∉ vs) (h : ρ[i]? = some s) : (wipeR vs ρ)[i]? = some s := by
  unfold wipeR
  rw [List.getElem?_mapIdx, h]
  simp only [Option.map_some]
  rw [if_neg (by simpa using n)]
theorem restR_get {ρ0 : Rho} {i : Nat} {s : Option Sl} (h : (restR vs ρ0 ρ)[i]? = some s) : i ∉ vs ∧ ρ[i]? = some s ∨ i ∈ vs ∧ (s = none ∨ ∃ d, s = some (.dat d) ∧ ρ0[i]? = some (some (.dat d))) := by
  unfold restR at h
  rw [List.getElem?_mapIdx] at h
  cases q : ρ[i]? with
  | none => rw [q] at h; cases h
  | some t =>
    rw [q] at h
    simp only [Option.map_some, Option.some.injEq] at h
    by_cases z : i ∈ vs
    · rw [if_pos (by simpa using z)] at h
      right
      refine ⟨z, ?_⟩
      split at h
      · exact .inr ⟨_, h.symm, by assumption⟩
      · exact .inl h.symm
    · rw [if_neg (by simpa using z)] at h
      exact .inl ⟨z, by rw [h]⟩
theorem restR_of {ρ0 : Rho} {i : Nat} {s : Option Sl} (n : i ∉ vs) (h : ρ[i]? = some s) : (restR vs ρ0 ρ)[i]? = some s := by
  unfold restR
  rw [List.getElem?_mapIdx, h]
  simp only [Option.map_some]
  rw [if_neg (by simpa using n)]
theorem SR.wipe (I : SR K G H σ ρ) : SR K G H (L2.wipe σ vs) (wipeR vs ρ) where
  tab := I.tab
  lam := I.lam
  len := by rw [wipe_length]; unfold wipeR; rw [List.length_mapIdx]; exact I.len
  sub := I.sub
  slot := fun i s o h1 h2 => by
    rcases wipeR_get h1 with ⟨n, h1⟩ | ⟨_, rfl⟩
    · rw [wipe_get n] at h2
      exact I.slot i s o h1 h2
    · trivial
  inj := fun i j io jo ds es a h1 h2 h3 h4 => by
    rcases wipeR_get h1 with ⟨n1, h1⟩ | ⟨_, z⟩
    · rcases wipeR_get h2 with ⟨n2, h2⟩ | ⟨_, z⟩
      · rw [wipe_get n1] at h3
        rw [wipe_get n2] at h4
        exact I.inj i j io jo ds es a h1 h2 h3 h4
      · cases z
    · cases z
theorem OwnAt.unwipe {a : Addr} (h : OwnAt (L2.wipe σ vs) (wipeR vs ρ) a) : OwnAt σ ρ a := by
  obtain ⟨i, io, ds, h1, h2⟩ := h
  rcases wipeR_get h1 with ⟨n1, h1⟩ | ⟨_, z⟩
  · rw [wipe_get n1] at h2
    exact ⟨i, io, ds, h1, h2⟩
  · cases z
theorem OwnN.unwipe {a : Addr} (h : OwnN (L2.wipe σ vs) (wipeR vs ρ) a) : OwnN σ ρ a := by
  obtain ⟨i, ds, h1, h2⟩ := h
  rcases wipeR_get h1 with ⟨n1, h1⟩ | ⟨_, z⟩
  · rw [wipe_get n1] at h2
    exact ⟨i, ds, h1, h2⟩
  · cases z
theorem noIo_of {i : Nat} {ds : List D} (h : noIo vs ρ = true) (e : ρ[i]? = some (some (.own true ds))) : i ∉ vs := fun z => by
  have q := List.all_eq_true.mp h i z
  unfold isIo at q
  rw [e] at q
  cases q
theorem Stp.wipe (h : noIo vs ρ = true) : Stp σ ρ G H (L2.wipe σ vs) (wipeR vs ρ) G H where
  sub := fun _ _ h => h
  new := fun _ _ _ => rfl
  keep := fun _ _ h _ _ => h
  grow := Grow.refl _
  dom := fun _ h => h
  own := fun a z => .inl z.unwipe
  ownN := fun a z => .inl z.unwipe
  stay := fun i ds q => ⟨wipe_get (noIo_of h q), ds, wipeR_of (noIo_of h q) q⟩
/-- nothing is known of the block's own names -/
def Bare (vs : List Nat) (ρ : Rho) : Prop := ∀ i ∈ vs, ∀ s, ρ[i]? = some s → s = none
theorem bare_wipeR : Bare vs (wipeR vs ρ) := fun i hi s h => by
  rcases wipeR_get h with ⟨n, _⟩ | ⟨_, e⟩
  · exact absurd hi n
  · exact e
theorem SR.rest {ρ0 : Rho} {G0 H0 : Hp} (s : Same G0 G) (I0 : SR K G0 H0 σ ρ0) (I : SR K G H (L2.wipe σ vs) ρ) : SR K G H σ (restR vs ρ0 ρ) where
  tab := I.tab
  lam := I.lam
  len := by
    unfold restR; rw [List.length_mapIdx]
    have := I.len
    rw [wipe_length] at this
    exact this
  sub := I.sub
  slot := fun i t o h1 h2 => by
    rcases restR_get h1 with ⟨n, h1⟩ | ⟨_, rfl | ⟨d, rfl, e⟩⟩
    · rw [← wipe_get n] at h2
      exact I.slot i t o h1 h2
    · trivial
    · obtain ⟨v, e1, r⟩ := I0.slot i _ o e h2
      exact ⟨v, e1, Rep.mono s _ _ r⟩
  inj := fun i j io jo ds es a h1 h2 h3 h4 => by
    rcases restR_get h1 with ⟨n1, h1⟩ | ⟨_, z | ⟨d, z, e⟩⟩
    · rcases restR_get h2 with ⟨n2, h2⟩ | ⟨_, z | ⟨d, z, e⟩⟩
      · rw [← wipe_get n1] at h3
        rw [← wipe_get n2] at h4
        exact I.inj i j io jo ds es a h1 h2 h3 h4
      · cases z
      · cases z
    · cases z
    · cases z
theorem OwnAt.rest {ρ0 : Rho} {a : Addr} (h : OwnAt σ (restR vs ρ0 ρ) a) : OwnAt (L2.wipe σ vs) ρ a := by
  obtain ⟨i, io, ds, h1, h2⟩ := h
  rcases restR_get h1 with ⟨n1, h1⟩ | ⟨_, z | ⟨d, z, e⟩⟩
  · rw [← wipe_get n1] at h2
    exact ⟨i, io, ds, h1, h2⟩
  · cases z
  · cases z
theorem OwnN.rest {ρ0 : Rho} {a : Addr} (h : OwnN σ (restR vs ρ0 ρ) a) : OwnN (L2.wipe σ vs) ρ a := by
  obtain ⟨i, ds, h1, h2⟩ := h
  rcases restR_get h1 with ⟨n1, h1⟩ | ⟨_, z | ⟨d, z, e⟩⟩
  · rw [← wipe_get n1] at h2
    exact ⟨i, ds, h1, h2⟩
  · cases z
  · cases z
theorem Stp.rest {ρ0 : Rho} (b : Bare vs ρ) : Stp (L2.wipe σ vs) ρ G H σ (restR vs ρ0 ρ) G H where
  sub := fun _ _ h => h
  new := fun _ _ _ => rfl
  keep := fun _ _ h _ _ => h
  grow := Grow.refl _
  dom := fun _ h => h
  own := fun a z => .inl z.rest
  ownN := fun a z => .inl z.rest
  stay := fun i ds q => by
    have n : i ∉ vs := fun z => by cases b i z _ q
    exact ⟨(wipe_get n).symm, ds, restR_of n q⟩
/-- a list that none knows is written -/
theorem SR.blind {D0 : Addr} {us ws : List V} (I : SR K G H σ ρ) (h1 : H D0 = some (.lst us)) (h2 : G D0 = none) (n : ¬ OwnAt σ ρ D0) : SR K G (upd H D0 (.lst ws)) σ ρ := by
  have nt : ∀ b ps, H b = some (.tbl ps) → b ≠ D0 := fun b ps e z => by
    subst z
    rw [h1] at e; cases e
  have gr : Grow H (upd H D0 (.lst ws)) := fun b ps e => ⟨ps, by rw [upd_ne (nt b ps e)]; exact e, id, fun q _ z => tabS_to z (fun ps e => by rw [upd_ne (nt b ps e)]; exact e) fun c e => by
    rw [upd_ne fun y => by subst y; rw [h1] at e; exact codeO_lst _ (Option.some.inj e).symm]; exact e⟩
  refine ⟨I.tabs' gr fun _ _ _ => rfl, I.lam' gr, I.len, fun b o q => ?_, fun i s o q1 q2 => ?_, I.inj⟩
  · rw [upd_ne (ne_of_none q h2)]; exact I.sub b o q
  · have z := I.slot i s o q1 q2
    match s, q1, z with
    | none, _, _ => trivial
    | some (.dat d), _, z => exact z
    | some (.own io' ds'), q1, ⟨b, vs, e, e2, e3, r'⟩ =>
      have nb : b ≠ D0 := fun z => by
        subst z; subst e
        exact n ⟨i, io', ds', q1, q2⟩
      exact ⟨b, vs, e, by rw [upd_ne nb]; exact e2, e3, r'⟩
/-- .. a list that did not stand at the step's start -/
theorem Stp.blind {D0 : Addr} {us ws : List V} {σ1 : L2.St} {ρ1 : Rho} {G1 H1 : Hp} (s : Stp σ1 ρ1 G1 H1 σ ρ G H) (h0 : H1 D0 = none) (h1 : H D0 = some (.lst us)) : Stp σ1 ρ1 G1 H1 σ ρ G (upd H D0 (.lst ws)) where
  sub := s.sub
  new := s.new
  keep := fun a o h n t => by rw [upd_ne (ne_of_none h h0)]; exact s.keep a o h n t
  grow := fun a ps h => by
    obtain ⟨qs, e1, f, g⟩ := s.grow a ps h
    have ne : a ≠ D0 := ne_of_none h h0
    refine ⟨qs, by rw [upd_ne ne]; exact e1, f, fun q m z => tabS_to (g q m z) (fun ps e => by rw [upd_ne ne]; exact e) fun c e => ?_⟩
    rw [upd_ne fun y => by subst y; rw [h1] at e; exact codeO_lst _ (Option.some.inj e).symm]; exact e
  dom := fun a h => by
    by_cases z : a = D0
    · subst z; exact absurd h0 h
    · rw [upd_ne z]; exact s.dom a h
  own := s.own
  ownN := s.ownN
  stay := s.stay
end

def lcL (tg : TgD) (ft : FT) (fe : FE) (vs : List Nat) : List D → List D → Rho → Rz (List D × Rho)
  | [], acc, ρ => frcL acc fun acc => .ok (acc, ρ)
  | d :: ds, acc, ρ => frc d fun d => nrmR ρ fun ρ => match tg d ρ with
    | none => .no
    | some ρ1 => (ft ρ1).bind fun c => if c.1 = true then (fe c.2).bind fun q => if acc.length < sizeLine ∧ noIo vs q.2 = true then lcL tg ft fe vs ds (acc ++ [q.1]) (wipeR vs q.2) else .no
      else if noIo vs c.2 = true then lcL tg ft fe vs ds acc (wipeR vs c.2) else .no
/-- [elt for tg in iter if test] -/
def oLc (fi : FI) (tg : TgD) (ft : FT) (fe : FE) (vs : List Nat) : FA := fun ρ => (fi ρ).bind fun p => if noIo vs p.2 = true then (lcL tg ft fe vs p.1 [] (wipeR vs p.2)).bind fun q => .ok (q.1, restR vs p.2 q.2) else .no
def tYesD : FT := fun ρ => .ok (true, ρ)
section
variable {X : Cx}
theorem dt_yes : ∀ (σ : L2.St) (H : Hp) (Q : Bool → Hp → Prop), rdT X.K tYesD σ H Q → tYes σ H Q := fun σ H Q ⟨ρ, G, I, h⟩ => h H G (Stp.refl _ _ _ _) I
theorem dts_nil : PTs X [] (rdT X.K tYesD) := ⟨fun pins s σ H Q I h => pts_nil.run pins s σ H Q I (dt_yes σ H Q h)⟩
theorem dts_one {c : Expr} {ft : FT} (h : PT X c (rdT X.K ft)) : PTs X [c] (rdT X.K ft) := pts_one h
theorem rd_lc {fi : FI} {is : List Nat} {tg : TgD} {ft : FT} {fe : FE} {vs : List Nat} (hs : ∀ i ∈ is, i ∈ vs) (σ : L2.St) (H : Hp) (Q : VK) (h : rdO X.K (oLc fi tg ft fe vs) σ H Q) : tLc (rdI X.K fi) (rdG X.K is tg) (rdT X.K ft) (rd X.K fe) vs σ H Q := by
  obtain ⟨ρ, G, I, h⟩ := h
  refine ⟨ρ, G, I, ?_⟩
  unfold oLc at h
  unfold rdIK
  cases e : fi ρ with
  | ex _ _ => rw [e] at h; exact h
  | no => rw [e] at h; exact h
  | ok p =>
    obtain ⟨ds, ρ1⟩ := p
    rw [e] at h
    dsimp only [Rz.bind] at h ⊢
    intro J H1 G1 s1 I1 hJ D0 hD
    by_cases io1 : noIo vs ρ1 = true
    · rw [if_pos io1] at h
      cases eL : lcL tg ft fe vs ds [] (wipeR vs ρ1) with
      | ex _ _ => rw [eL] at h; exact h.elim
      | no => rw [eL] at h; exact h.elim
      | ok r =>
        obtain ⟨res, ρf⟩ := r
        rw [eL] at h
        dsimp only at h
        have hD0 : H D0 = none := by
          cases q : H D0 with
          | none => rfl
          | some o => exact absurd hD (s1.dom D0 (by rw [q]; exact fun z => by cases z))
        have I1w : SR X.K G1 H1 (wipe σ vs) (wipeR vs ρ1) := I1.wipe
        obtain ⟨J0, S0, N0⟩ := I1w.fresh (o := .lst []) hD
        let W : Nat → Nat → Hp → Prop := fun i m H' => m = ds.length - i ∧ i ≤ ds.length ∧ ∃ ρ' G' acc us, Stp (wipe σ vs) (wipeR vs ρ1) G1 H1 (wipe σ vs) ρ' G' H' ∧ SR X.K G' H' (wipe σ vs) ρ' ∧ Bare vs ρ' ∧ H' D0 = some (.lst us) ∧ G' D0 = none ∧ ¬ OwnAt (wipe σ vs) ρ' D0 ∧ Reps X.K G' acc us ∧ us.length = acc.length ∧
          lcL tg ft fe vs (ds.drop i) acc ρ' = .ok (res, ρf)
        refine ⟨W, ⟨ds.length, rfl, Nat.zero_le _, wipeR vs ρ1, G1, [], [], S0, J0, bare_wipeR, upd_same, I1.sub.free hD, N0, Reps.nil, rfl, eL⟩, ?_⟩
        rintro i m H' ⟨rfl, hi, ρ', G', acc, us, sW, I', bW, hDl, hDg, hDn, rr, hlen, eq⟩
        by_cases hlt : i < ds.length
        · have ed : ds.drop i = ds[i] :: ds.drop (i + 1) := List.drop_eq_getElem_cons hlt
          have sub1 : Same G1 G' := sW.sub
          obtain ⟨go, yl⟩ := (hJ i G' H' sub1 I'.sub).1 ds[i] (List.getElem?_eq_getElem hlt)
          right
          refine ⟨go, fun H2 => W (i + 1) (ds.length - (i + 1)) H2, fun H2 w => ⟨ds.length - (i + 1), by omega, w⟩, fun x H2 y => ?_⟩
          obtain ⟨G2, P2, rx⟩ := yl x H2 y
          have I2 := I'.pure P2
          rw [ed] at eq
          unfold lcL at eq
          rw [frc_eq, nrmR_eq] at eq
          cases et : tg ds[i] ρ' with
          | none => rw [et] at eq; cases eq
          | some ρ3 =>
            rw [et] at eq
            dsimp only at eq
            refine ⟨ρ', G2, ds[i], I2, rx, ρ3, et, fun σ3 s3 I3 o3 => ⟨wipe_only hs o3, ?_⟩⟩
            -- D0 in what follows
            have base : Stp (wipe σ vs) ρ' G' H' σ3 ρ3 G2 H2 := (P2.stp (σ := wipe σ vs) (ρ := ρ')).trans s3
            have wq : wipe σ3 vs = wipe σ vs := wipe_only hs o3
            have keepD : ∀ {ρ4 : Rho} {G4 H4 : Hp}, Stp (wipe σ vs) ρ' G' H' σ3 ρ4 G4 H4 → SR X.K G4 H4 σ3 ρ4 → H4 D0 = some (.lst us) ∧ G4 D0 = none ∧ ¬ OwnAt σ3 ρ4 D0 := fun {ρ4 G4 H4} st I4 => by
              refine ⟨st.keep D0 _ hDl hDn rfl, (st.new D0 (by rw [hDl]; exact fun z => by cases z) hDn).trans hDg, fun z => ?_⟩
              rcases st.own D0 z with z | z
              · exact hDn z
              · rw [hDl] at z; cases z
            refine rdT_of I3 ?_
            unfold rdTK
            cases ec : ft ρ3 with
            | ex _ _ => rw [ec] at eq; cases eq
            | no => rw [ec] at eq; cases eq
            | ok c =>
              obtain ⟨b, ρ4⟩ := c
              rw [ec] at eq
              dsimp only [Rz.bind] at eq ⊢
              intro H4 G4 s4 I4
              have st4 : Stp (wipe σ vs) ρ' G' H' σ3 ρ4 G4 H4 := base.trans s4
              cases b with
              | true =>
                simp only [if_true] at eq ⊢
                refine rd_of I4 ?_
                unfold rdK
                cases ee : fe ρ4 with
                | ex _ _ => rw [ee] at eq; cases eq
                | no => rw [ee] at eq; cases eq
                | ok q =>
                  obtain ⟨d5, ρ5⟩ := q
                  rw [ee] at eq
                  dsimp only [Rz.bind] at eq ⊢
                  intro v H5 G5 s5 I5 r5
                  have st5 : Stp (wipe σ vs) ρ' G' H' σ3 ρ5 G5 H5 := st4.trans s5
                  obtain ⟨k1, k2, k3⟩ := keepD st5 I5
                  by_cases z : acc.length < sizeLine ∧ noIo vs ρ5 = true
                  · rw [if_pos z] at eq
                    have stw : Stp (wipe σ vs) ρ' G' H' (wipe σ vs) (wipeR vs ρ5) G5 H5 := by
                      have := st5.trans (Stp.wipe (vs := vs) z.2)
                      rw [wq] at this
                      exact this
                    have Iw : SR X.K G5 H5 (wipe σ vs) (wipeR vs ρ5) := by
                      have := I5.wipe (vs := vs)
                      rw [wq] at this
                      exact this
                    have nw : ¬ OwnAt (wipe σ vs) (wipeR vs ρ5) D0 := fun y => by
                      rw [← wq] at y
                      exact k3 y.unwipe
                    refine ⟨us, k1, by rw [hlen]; exact z.1, rfl, hlt, wipeR vs ρ5, G5, acc ++ [d5], us ++ [v], (sW.trans stw).blind hD k1, Iw.blind k1 k2 nw, bare_wipeR, upd_same, k2, nw, Reps.append (Reps.mono st5.sub _ _ rr) (Reps.cons r5 Reps.nil), by rw [List.length_append, List.length_append, hlen]; rfl, eq⟩
                  · rw [if_neg z] at eq; cases eq
              | false =>
                simp only [Bool.false_eq_true, if_false] at eq ⊢
                obtain ⟨k1, k2, k3⟩ := keepD st4 I4
                by_cases z : noIo vs ρ4 = true
                · rw [if_pos z] at eq
                  have stw : Stp (wipe σ vs) ρ' G' H' (wipe σ vs) (wipeR vs ρ4) G4 H4 := by
                    have := st4.trans (Stp.wipe (vs := vs) z)
                    rw [wq] at this
                    exact this
                  have Iw : SR X.K G4 H4 (wipe σ vs) (wipeR vs ρ4) := by
                    have := I4.wipe (vs := vs)
                    rw [wq] at this
                    exact this
                  have nw : ¬ OwnAt (wipe σ vs) (wipeR vs ρ4) D0 := fun y => by
                    rw [← wq] at y
                    exact k3 y.unwipe
                  exact ⟨rfl, hlt, wipeR vs ρ4, G4, acc, us, sW.trans stw, Iw, bare_wipeR, k1, k2, nw, Reps.mono st4.sub _ _ rr, hlen, eq⟩
                · rw [if_neg z] at eq; cases eq
        · left
          have e0 : ds.drop i = [] := List.drop_eq_nil_of_le (by omega)
          rw [e0] at eq
          unfold lcL at eq
          rw [frcL_eq] at eq
          cases eq
          refine ⟨(hJ i G' H' sW.sub I'.sub).2 (by omega), ?_⟩
          have If := SR.rest sW.sub I1 I'
          have sf : Stp σ ρ G H σ (restR vs ρ1 ρf) G' H' := (s1.trans (Stp.wipe io1)).trans (sW.trans (Stp.rest bW))
          exact h D0 us H' G' sf If hD0 hDl hDg (fun y => hDn y.rest) rr
    · rw [if_neg io1] at h; exact h.elim
theorem do_lc {elt tg iter : Expr} {ifs : List Expr} {scope : Scope} {own : List (Str × Nat)} {pos : Pos} {fi : FI} {is : List Nat} {tgd : TgD} {ft : FT} {fe : FE} (hc : X.calm = true) (hN : X.N.Nodup) (hi : PI X tg iter (rdI X.K fi)) (ok : BlkOk X.N X.env.scope scope own) (hsub : ∀ i ∈ is, i ∈ own.map (·.2))
    (hg : ∀ (s : Shared) (H : Hp) (C : Addr) (cl : List (Str × Addr)) (fp : List Addr), PG (X.blk s H scope (compEnvC scope cl C X.env) fp) tg (rdG X.K is tgd)) (ht : ∀ (s : Shared) (H : Hp) (C : Addr) (cl : List (Str × Addr)) (fp : List Addr), PTs (X.blk s H scope (compEnvC scope cl C X.env) fp) ifs (rdT X.K ft))
    (he : ∀ (s : Shared) (H : Hp) (C : Addr) (cl : List (Str × Addr)) (fp : List Addr), PE (X.blk s H scope (compEnvC scope cl C X.env) fp) elt (rd X.K fe)) (hs : ∀ x, foldedSetIterable iter X.env x = pure x := by intro _; rfl) :
    PE X (.ListComp elt [⟨tg, iter, ifs, 0⟩] scope pos) (rdO X.K (oLc fi tgd ft fe (own.map (·.2)))) := pe_imp (pe_lc hc hN hi ok hg ht he hs) (rd_lc hsub)
end
end M

namespace M
open PySem PySem.Spec PyProof.Rows L2
variable [Tabs]

/-! ### a, b = x, y; name op= e -/
def sPar (i j : Nat) (f : FA) : FS := fun ρ => (f ρ).bind fun p => match p.1 with
  | [a, b] => if isIo p.2 i = true ∨ isIo p.2 j = true ∨ i = j then .no else .ok (.nx, (p.2.set i (some (.dat a))).set j (some (.dat b)))
  | _ => .no
def IpD (K : PySem.W.Frag) (r : TIp) (op : D → D → Option D) : Prop := ∀ (G H : Hp) (d1 d2 d : D) (v1 v2 : V) (Q : VK), Same G H → Rep K G d1 v1 → Rep K G d2 v2 → op d1 d2 = some d → (∀ v H' G', PStp G H G' H' → Rep K G' d v → Q v H') → r v1 v2 H Q
/-- name op= e: the name's value is taken first -/
def sAug (i : Nat) (op : D → D → Option D) (fe : FE) : FS := fun ρ => match ρ[i]? with
  | some (some (.dat x)) => (bndS fe fun y => fun ρ1 => match op x y with | some z => if isIo ρ1 i = true then .no else .ok (.nx, ρ1.set i (some (.dat z))) | none => .no) ρ
  | _ => .no
section
variable {X : Cx} {a b e : Expr} {fs : FA} {fe : FE} {pos : Pos}
theorem ds_par (i j : Nat) {x y : Str} {px py pt pt2 : Pos} {kt k2 : Nat} (ha : PA X [a, b] (rdA X.K fs)) (hc : X.calm = true) (hN : X.N.Nodup) (hi : X.N[i]? = some x := by rfl) (hj : X.N[j]? = some y := by rfl) (hij : i ≠ j := by decide)
    (hx : X.env.scope.names.lookup x = some .local := by rfl) (hy : X.env.scope.names.lookup y = some .local := by rfl)
    (hw : swappedStores [.Tuple [.Name x px, .Name y py] kt pt] (.Tuple [a, b] k2 pt2) X.env = pure (some [x, y]) := by rfl)
    (hs : swapsWithSole [.Tuple [.Name x px, .Name y py] kt pt] (.Tuple [a, b] k2 pt2) pos.line X.env = pure false := by rfl) :
    PS X (.Assign [.Tuple [.Name x px, .Name y py] kt pt] (.Tuple [a, b] k2 pt2) pos) (rdS X.K (sPar i j fs)) := by
  refine ps_imp (ps_par hc hN hi hj hij hx hy ha hw hs) fun D σ H ⟨ρ, G, I, h⟩ => ?_
  refine rdA_of I ?_
  unfold rdSK sPar at h
  unfold rdAK
  cases q : fs ρ with
  | ex _ _ => rw [q] at h; exact h
  | no => rw [q] at h; exact h
  | ok p =>
    obtain ⟨ds, ρ1⟩ := p
    rw [q] at h
    dsimp only [Rz.bind] at h ⊢
    intro vs H1 G1 s1 I1 r1
    match ds, h, r1 with
    | [d1, d2], h, r1 =>
      obtain ⟨v1, v2, rfl, q1, q2⟩ := reps2 r1
      by_cases z : isIo ρ1 i = true ∨ isIo ρ1 j = true ∨ i = j
      · dsimp only at h; rw [if_pos z] at h; exact h.elim
      · dsimp only at h; rw [if_neg z] at h
        simp only [not_or] at z
        have z2 : isIo (ρ1.set i (some (.dat d1))) j = false := by
          have := z.2.1
          unfold isIo at this ⊢
          rw [List.getElem?_set_ne z.2.2]
          simpa using this
        exact ⟨v1, v2, rfl, h _ H1 G1 (s1.trans ((Stp.set (by simpa using z.1)).trans (Stp.set z2))) ((I1.set q1).set q2)⟩
    | [], h, _ => exact h.elim
    | [_], h, _ => exact h.elim
    | _ :: _ :: _ :: _, h, _ => exact h.elim
theorem ds_aug (i : Nat) {x : Str} {op : D → D → Option D} {o : Operator} {ti : TIp} {pos' : Pos} (hd : IpD X.K ti op) (ho : PIp X o ti) (he : PE X e (rd X.K fe)) (hN : X.N.Nodup) (hi : X.N[i]? = some x := by rfl) (hx : Loc X.env.scope x := by first | exact .inl rfl | exact .inr rfl)
    (hf : X.fn x = true ∨ X.env.scope.names.lookup x = some .local := by first | exact .inl rfl | exact .inr rfl | assumption) : PS X (.AugAssign (.Name x pos') o e pos) (rdS X.K (sAug i op fe)) := by
  refine ps_imp (ps_aug hN hi hx he ho hf) fun D σ H ⟨ρ, G, I, h⟩ => ?_
  unfold rdSK sAug at h
  split at h
  · rename_i d0 e3
    have hl : i < σ.length := by
      rw [← I.len]
      exact (List.getElem?_eq_some_iff.mp e3).1
    obtain ⟨v, e2, r⟩ := I.slot i _ _ e3 (List.getElem?_eq_getElem hl)
    refine ⟨v, by rw [List.getElem?_eq_getElem hl, e2], ?_⟩
    refine rd_of I (rdK_mono (rdSK_bnd (σ := σ) (ρ := ρ) (G := G) (H := H) (Dn := D) h) fun u H1 ⟨d1, ρ1, G1, s1, I1, r1, h1⟩ => ?_)
    unfold rdSK at h1
    dsimp only at h1
    cases eo : op d0 d1 with
    | none => rw [eo] at h1; exact h1.elim
    | some z =>
      rw [eo] at h1
      dsimp only at h1
      refine hd G1 H1 d0 d1 z v u _ I1.sub (Rep.mono s1.sub _ _ r) r1 eo fun w H2 G2 P2 r2 => ?_
      by_cases q : isIo ρ1 i = true
      · rw [if_pos q] at h1; exact h1.elim
      · rw [if_neg q] at h1
        exact h1 _ H2 G2 (P2.stp.trans (Stp.set (by simpa using q))) ((I1.pure P2).set r2)
  · exact h.elim
theorem ip_of {o : Operator} {r : R2} {ti : TIp} {op : D → D → Option D} (hd : OpD X.K r op) (h : ∀ v1 v2 H Q, r v1 v2 H Q → ti v1 v2 H Q) : IpD X.K ti op := fun G H d1 d2 d v1 v2 Q s r1 r2 e q => h _ _ _ _ (hd G H d1 d2 d v1 v2 Q s r1 r2 e q)
end

/-! ### tuple(x), list(x) -/
def tupD : D → Option D
  | .tup ds => some (.tup ds)
  | .lst ds => some (.tup ds)
  | .scr ns => some (.tup (ns.map D.int))
  | _ => none
def lstD : List D → Option D
  | [.tup ds] => some (.lst ds)
  | [.lst ds] => some (.lst ds)
  | [.scr ns] => some (.lst (ns.map D.int))
  | _ => none
section
variable {K : PySem.W.Frag}
theorem ud_tup : UnD K (kTup K) tupD := by
  intro G H d1 d v1 Q s r1 e q
  unfold tupD at e
  split at e
  · cases e
    have r0 := r1
    simp only [Rep] at r1
    obtain ⟨a, vs, rfl, h1, q1⟩ := r1
    exact .inr ⟨a, vs, rfl, SqT.mono s h1, q _ H G (PStp.refl s) r0⟩
  · simp only [Rep] at r1
    obtain ⟨a, vs, rfl, h1, q1⟩ := r1
    cases e
    exact .inl ⟨a, vs, rfl, SqL.of (s _ _ h1), fun p hp => q _ _ _ (PStp.laid s hp) (Rep.tup_new (s.free hp) q1)⟩
  · simp only [Rep] at r1
    obtain ⟨a, rfl, h1⟩ := r1
    cases e
    exact .inl ⟨a, _, rfl, SqL.mono s h1, fun p hp => q _ _ _ (PStp.laid s hp) (Rep.tup_new (s.free hp) (Reps.of_ints _))⟩
  · cases e
theorem cd_list : CallD K (fun xs H Q => ∃ p ys, xs = [.ref p] ∧ (SqL K H p ys ∨ SqT K H p ys) ∧ ∀ l, H l = none → Q (.ref l) (upd H l (.lst ys))) lstD := by
  intro G H ds d vs Q s r e q
  unfold lstD at e
  split at e
  · obtain ⟨v, rfl, r1⟩ := reps1 r
    simp only [Rep] at r1
    obtain ⟨a, us, rfl, h1, q1⟩ := r1
    cases e
    exact ⟨a, us, rfl, .inr (SqT.mono s h1), fun p hp => q _ _ _ (PStp.laid s hp) (Rep.lst_new (s.free hp) q1)⟩
  · obtain ⟨v, rfl, r1⟩ := reps1 r
    simp only [Rep] at r1
    obtain ⟨a, us, rfl, h1, q1⟩ := r1
    cases e
    exact ⟨a, us, rfl, .inl (SqL.of (s _ _ h1)), fun p hp => q _ _ _ (PStp.laid s hp) (Rep.lst_new (s.free hp) q1)⟩
  · obtain ⟨v, rfl, r1⟩ := reps1 r
    simp only [Rep] at r1
    obtain ⟨a, rfl, h1⟩ := r1
    cases e
    exact ⟨a, _, rfl, .inl (SqL.mono s h1), fun p hp => q _ _ _ (PStp.laid s hp) (Rep.lst_new (s.free hp) (Reps.of_ints _))⟩
  · cases e
theorem reps_rg {G : Hp} (a b : Int) : Reps K G (rgD a (b - a).toNat) (rgV a b) := by
  unfold rgD rgV
  generalize List.range (b - a).toNat = l
  induction l with
  | nil => exact Reps.nil
  | cons x l ih => exact Reps.cons (rep_int _) ih
end
def rgOk (a b : Int) : Bool := small62 a && small62 b && Nat.ble (b - a).toNat 16777216
def rgPr : List D → Option (Int × Int) | [.int n] => some (0, n) | [.int a, .int b] => some (a, b) | _ => none
/-- tuple(range(..)), list(range(..)) -/
def eRgT (f : FA) : FE := bndA f fun ds => fun ρ => match rgPr ds with | some (a, b) => if rgOk a b = true then .ok (.tup (rgD a (b - a).toNat), ρ) else .no | none => .no
def eRgL (f : FA) : FE := bndA f fun ds => fun ρ => match rgPr ds with | some (a, b) => if rgOk a b = true then .ok (.lst (rgD a (b - a).toNat), ρ) else .no | none => .no
theorem rgOk_of {a b : Int} (h : rgOk a b = true) : RgOk a b := by
  simp only [rgOk, Bool.and_eq_true, small62_iff, Nat.ble_eq] at h
  exact ⟨h.1.1.1, h.1.1.2, h.1.2.1, h.1.2.2, h.2⟩
section
variable {X : Cx} {a b : Expr} {fa fb : FE} {pos p rp rpos : Pos}
theorem de_tuple (ha : PE X a (rd X.K fa)) (hg : Gl X "tuple") (hm : X.mg "tuple" = none) (na : starEach [a] X.env = (false, eval a X.env) :: starEach [] X.env := by rfl) : PE X (.Call (.Name "tuple" p) [a] [] pos) (rd X.K (e1 tupD fa)) :=
  pe_imp (pe_tupleOf hg hm ha na) (rd_1 ud_tup)
theorem rd_r1 {k : Int → Int → Hp → Prop} {ρ : Rho} {G H : Hp} {σ : L2.St} (I : SR X.K G H σ ρ) (h : rdAK X.K (aCons fa aNil) σ ρ G H fun vs H1 => ∃ n, vs = [.int n] ∧ k 0 n H1) : tRg1 (rd X.K fa) σ H k := by
  refine rd_of I ?_
  unfold rdAK aCons aNil at h
  unfold rdK
  cases e : fa ρ with
  | ex _ _ => rw [e] at h; exact h
  | no => rw [e] at h; exact h
  | ok p =>
    obtain ⟨d, ρ1⟩ := p
    rw [e] at h
    dsimp only [Rz.bind] at h ⊢
    intro v H1 G1 s1 I1 r1
    obtain ⟨n, e1, q⟩ := h [v] H1 G1 s1 I1 (Reps.cons r1 Reps.nil)
    cases e1
    exact ⟨n, rfl, q⟩
theorem rd_r2 {k : Int → Int → Hp → Prop} {ρ : Rho} {G H : Hp} {σ : L2.St} (I : SR X.K G H σ ρ) (h : rdAK X.K (aCons fa (aCons fb aNil)) σ ρ G H fun vs H1 => ∃ m n, vs = [.int m, .int n] ∧ k m n H1) : tRg2 (rd X.K fa) (rd X.K fb) σ H k := by
  refine rd_of I ?_
  unfold rdAK aCons at h
  unfold rdK
  cases e : fa ρ with
  | ex _ _ => rw [e] at h; exact h
  | no => rw [e] at h; exact h
  | ok p =>
    obtain ⟨d, ρ1⟩ := p
    rw [e] at h
    dsimp only [Rz.bind] at h ⊢
    intro v H1 G1 s1 I1 r1
    refine rd_of I1 ?_
    unfold aNil at h
    unfold rdK
    cases e2 : fb ρ1 with
    | ex _ _ => rw [e2] at h; exact h
    | no => rw [e2] at h; exact h
    | ok p2 =>
      obtain ⟨d2, ρ2⟩ := p2
      rw [e2] at h
      dsimp only [Rz.bind] at h ⊢
      intro u H2 G2 s2 I2 r2
      obtain ⟨m, n, e1, q⟩ := h [v, u] H2 G2 (s1.trans s2) I2 (Reps.cons (Rep.mono s2.sub _ _ r1) (Reps.cons r2 Reps.nil))
      cases e1
      exact ⟨m, n, rfl, rfl, q⟩
theorem rd_rgT {f : FA} {σ : L2.St} {ρ : Rho} {G H : Hp} {Q : VK} (I : SR X.K G H σ ρ) (h : rdK X.K (eRgT f) σ ρ G H Q) : rdAK X.K f σ ρ G H fun vs H1 => ∃ ds a b, rgPr ds = some (a, b) ∧ RgOk a b ∧ (∀ G1, Reps X.K G1 ds vs → True) ∧ (∃ G1, Reps X.K G1 ds vs) ∧ ∀ q, H1 q = none → Q (.ref q) (upd H1 q (.tup (rgV a b))) := by
  refine rdAK_mono (rdK_bndA h) fun vs H1 ⟨ds, ρ1, G1, s1, I1, r1, h1⟩ => ?_
  unfold rdK at h1
  dsimp only at h1
  cases e : rgPr ds with
  | none => rw [e] at h1; exact h1.elim
  | some p =>
    obtain ⟨a, b⟩ := p
    rw [e] at h1
    dsimp only at h1
    by_cases z : rgOk a b = true
    · rw [if_pos z] at h1
      exact ⟨ds, a, b, e, rgOk_of z, fun _ _ => trivial, ⟨G1, r1⟩, fun q hq => h1 _ _ _ (PStp.laid I1.sub hq).stp (I1.pure (PStp.laid I1.sub hq)) (Rep.tup_new (I1.sub.free hq) (reps_rg a b))⟩
    · rw [if_neg z] at h1; exact h1.elim
theorem rd_rgL {f : FA} {σ : L2.St} {ρ : Rho} {G H : Hp} {Q : VK} (I : SR X.K G H σ ρ) (h : rdK X.K (eRgL f) σ ρ G H Q) : rdAK X.K f σ ρ G H fun vs H1 => ∃ ds a b, rgPr ds = some (a, b) ∧ RgOk a b ∧ (∀ G1, Reps X.K G1 ds vs → True) ∧ (∃ G1, Reps X.K G1 ds vs) ∧ ∀ q, H1 q = none → Q (.ref q) (upd H1 q (.lst (rgV a b))) := by
  refine rdAK_mono (rdK_bndA h) fun vs H1 ⟨ds, ρ1, G1, s1, I1, r1, h1⟩ => ?_
  unfold rdK at h1
  dsimp only at h1
  cases e : rgPr ds with
  | none => rw [e] at h1; exact h1.elim
  | some p =>
    obtain ⟨a, b⟩ := p
    rw [e] at h1
    dsimp only at h1
    by_cases z : rgOk a b = true
    · rw [if_pos z] at h1
      exact ⟨ds, a, b, e, rgOk_of z, fun _ _ => trivial, ⟨G1, r1⟩, fun q hq => h1 _ _ _ (PStp.laid I1.sub hq).stp (I1.pure (PStp.laid I1.sub hq)) (Rep.lst_new (I1.sub.free hq) (reps_rg a b))⟩
    · rw [if_neg z] at h1; exact h1.elim
theorem rgPr1 {K : PySem.W.Frag} {G : Hp} {d : D} {v : V} {a b : Int} (r : Reps K G [d] [v]) (e : rgPr [d] = some (a, b)) : a = 0 ∧ v = .int b := by
  unfold rgPr at e
  split at e
  · rename_i h
    cases h; cases e
    obtain ⟨v', h1, r1⟩ := reps1 r
    cases h1
    simp only [Rep] at r1
    exact ⟨rfl, r1⟩
  · rename_i h; cases h
  · cases e
theorem rgPr_len1 {K : PySem.W.Frag} {G : Hp} {ds : List D} {v : V} {a b : Int} (r : Reps K G ds [v]) (e : rgPr ds = some (a, b)) : a = 0 ∧ v = .int b := by
  match ds, r, e with
  | [d], r, e => exact rgPr1 r e
  | [], r, e => cases e
  | [_, _], r, e => simp only [Reps] at r; obtain ⟨_, _, h, _, _, _, h2, _⟩ := r; cases h; cases h2
  | _ :: _ :: _ :: _, r, e => have := r.length; simp at this
theorem rgPr_len2 {K : PySem.W.Frag} {G : Hp} {ds : List D} {v u : V} {a b : Int} (r : Reps K G ds [v, u]) (e : rgPr ds = some (a, b)) : v = .int a ∧ u = .int b := by
  unfold rgPr at e
  split at e
  · simp only [Reps] at r; obtain ⟨_, _, h, _, h2⟩ := r; cases h; cases h2
  · cases e
    obtain ⟨v', u', h, r1, r2⟩ := reps2 r
    cases h
    simp only [Rep] at r1 r2
    exact ⟨r1, r2⟩
  · cases e
theorem len_1 {f : FA} {K : PySem.W.Frag} {σ : L2.St} {ρ : Rho} {G H : Hp} {Q : List V → Hp → Prop} (h : rdAK K (aCons fa aNil) σ ρ G H Q) : rdAK K (aCons fa aNil) σ ρ G H fun vs H1 => (∃ v, vs = [v]) ∧ Q vs H1 := by
  unfold rdAK aCons aNil at h ⊢
  cases e : fa ρ with
  | ex _ _ => rw [e] at h; exact h
  | no => rw [e] at h; exact h
  | ok p =>
    obtain ⟨d, ρ1⟩ := p
    rw [e] at h
    dsimp only [Rz.bind] at h ⊢
    intro vs H1 G1 s1 I1 r1
    obtain ⟨v, e1, _⟩ := reps1 r1
    exact ⟨⟨v, e1⟩, h vs H1 G1 s1 I1 r1⟩
theorem len_2 {K : PySem.W.Frag} {σ : L2.St} {ρ : Rho} {G H : Hp} {Q : List V → Hp → Prop} (h : rdAK K (aCons fa (aCons fb aNil)) σ ρ G H Q) : rdAK K (aCons fa (aCons fb aNil)) σ ρ G H fun vs H1 => (∃ v u, vs = [v, u]) ∧ Q vs H1 := by
  unfold rdAK aCons at h ⊢
  cases e : fa ρ with
  | ex _ _ => rw [e] at h; exact h
  | no => rw [e] at h; exact h
  | ok p =>
    obtain ⟨d, ρ1⟩ := p
    rw [e] at h
    unfold aNil at h ⊢
    dsimp only [Rz.bind] at h ⊢
    cases e2 : fb ρ1 with
    | ex _ _ => rw [e2] at h; exact h
    | no => rw [e2] at h; exact h
    | ok p2 =>
      obtain ⟨d2, ρ2⟩ := p2
      rw [e2] at h
      dsimp only at h ⊢
      intro vs H1 G1 s1 I1 r1
      obtain ⟨v, u, e1, _⟩ := reps2 r1
      exact ⟨⟨v, u, e1⟩, h vs H1 G1 s1 I1 r1⟩
theorem de_tupRg1 (ha : PE X a (rd X.K fa)) (hc : X.calm = true) (hg : Gl X "tuple") (hm : X.mg "tuple" = none) (hg2 : Gl X "range") (hm2 : X.mg "range" = none) (na2 : starEach [a] X.env = (false, eval a X.env) :: starEach [] X.env := by rfl)
    (na : starEach [.Call (.Name "range" rp) [a] [] rpos] X.env = (false, eval (.Call (.Name "range" rp) [a] [] rpos) X.env) :: starEach [] X.env := by rfl) :
    PE X (.Call (.Name "tuple" p) [.Call (.Name "range" rp) [a] [] rpos] [] pos) (rd X.K (eRgT (aCons fa aNil))) := by
  refine pe_imp (pe_tupRg hc hg hm (prg_1 hg2 hm2 ha na2) na) fun σ H Q ⟨ρ, G, I, h⟩ => ?_
  refine rd_r1 I (rdAK_mono (len_1 (f := aNil) (rd_rgT I h)) fun vs H1 ⟨⟨v, e1⟩, ds, a, b, e2, ok, _, ⟨G1, r1⟩, q⟩ => ?_)
  subst e1
  obtain ⟨rfl, rfl⟩ := rgPr_len1 r1 e2
  exact ⟨b, rfl, ok, q⟩
theorem de_tupRg2 (ha : PE X a (rd X.K fa)) (hb : PE X b (rd X.K fb)) (hc : X.calm = true) (hg : Gl X "tuple") (hm : X.mg "tuple" = none) (hg2 : Gl X "range") (hm2 : X.mg "range" = none)
    (na2 : starEach [a, b] X.env = (false, eval a X.env) :: starEach [b] X.env := by rfl) (nb : starEach [b] X.env = (false, eval b X.env) :: starEach [] X.env := by rfl) (hp : (backTo rpos (starEach [b] X.env)).any (·.1) = false := by rfl)
    (na : starEach [.Call (.Name "range" rp) [a, b] [] rpos] X.env = (false, eval (.Call (.Name "range" rp) [a, b] [] rpos) X.env) :: starEach [] X.env := by rfl) :
    PE X (.Call (.Name "tuple" p) [.Call (.Name "range" rp) [a, b] [] rpos] [] pos) (rd X.K (eRgT (aCons fa (aCons fb aNil)))) := by
  refine pe_imp (pe_tupRg hc hg hm (prg_2 hg2 hm2 ha hb na2 nb hp) na) fun σ H Q ⟨ρ, G, I, h⟩ => ?_
  refine rd_r2 I (rdAK_mono (len_2 (rd_rgT I h)) fun vs H1 ⟨⟨v, u, e1⟩, ds, a, b, e2, ok, _, ⟨G1, r1⟩, q⟩ => ?_)
  subst e1
  obtain ⟨rfl, rfl⟩ := rgPr_len2 r1 e2
  exact ⟨a, b, rfl, ok, q⟩
theorem de_lstRg1 (ha : PE X a (rd X.K fa)) (hc : X.calm = true) (hg : Gl X "list") (hm : X.mg "list" = none) (hg2 : Gl X "range") (hm2 : X.mg "range" = none) (na2 : starEach [a] X.env = (false, eval a X.env) :: starEach [] X.env := by rfl)
    (na : starEach [.Call (.Name "range" rp) [a] [] rpos] X.env = (false, eval (.Call (.Name "range" rp) [a] [] rpos) X.env) :: starEach [] X.env := by rfl) :
    PE X (.Call (.Name "list" p) [.Call (.Name "range" rp) [a] [] rpos] [] pos) (rd X.K (eRgL (aCons fa aNil))) := by
  refine pe_imp (pe_listRg hc hg hm (prg_1 hg2 hm2 ha na2) na) fun σ H Q ⟨ρ, G, I, h⟩ => ?_
  refine rd_r1 I (rdAK_mono (len_1 (f := aNil) (rd_rgL I h)) fun vs H1 ⟨⟨v, e1⟩, ds, a, b, e2, ok, _, ⟨G1, r1⟩, q⟩ => ?_)
  subst e1
  obtain ⟨rfl, rfl⟩ := rgPr_len1 r1 e2
  exact ⟨b, rfl, ok, q⟩
theorem de_lstRg2 (ha : PE X a (rd X.K fa)) (hb : PE X b (rd X.K fb)) (hc : X.calm = true) (hg : Gl X "list") (hm : X.mg "list" = none) (hg2 : Gl X "range") (hm2 : X.mg "range" = none)
    (na2 : starEach [a, b] X.env = (false, eval a X.env) :: starEach [b] X.env := by rfl) (nb : starEach [b] X.env = (false, eval b X.env) :: starEach [] X.env := by rfl) (hp : (backTo rpos (starEach [b] X.env)).any (·.1) = false := by rfl)
    (na : starEach [.Call (.Name "range" rp) [a, b] [] rpos] X.env = (false, eval (.Call (.Name "range" rp) [a, b] [] rpos) X.env) :: starEach [] X.env := by rfl) :
    PE X (.Call (.Name "list" p) [.Call (.Name "range" rp) [a, b] [] rpos] [] pos) (rd X.K (eRgL (aCons fa (aCons fb aNil)))) := by
  refine pe_imp (pe_listRg hc hg hm (prg_2 hg2 hm2 ha hb na2 nb hp) na) fun σ H Q ⟨ρ, G, I, h⟩ => ?_
  refine rd_r2 I (rdAK_mono (len_2 (rd_rgL I h)) fun vs H1 ⟨⟨v, u, e1⟩, ds, a, b, e2, ok, _, ⟨G1, r1⟩, q⟩ => ?_)
  subst e1
  obtain ⟨rfl, rfl⟩ := rgPr_len2 r1 e2
  exact ⟨a, b, rfl, ok, q⟩
/-! x[::-1] of a list -/
def revD : D → Option D | .lst ds => some (.lst ds.reverse) | .scr ns => some (.lst (ns.map D.int).reverse) | _ => none
theorem ud_rev {K : PySem.W.Frag} : UnD K (fun x H Q => ∃ a xs, x = .ref a ∧ SqL K H a xs ∧ ∀ p, H p = none → Q (.ref p) (upd H p (.lst xs.reverse))) revD := by
  intro G H d1 d v1 Q s r1 e q
  unfold revD at e
  split at e
  · simp only [Rep] at r1
    obtain ⟨a, vs, rfl, h1, q1⟩ := r1
    cases e
    exact ⟨a, vs, rfl, SqL.of (s _ _ h1), fun p hp => q _ _ _ (PStp.laid s hp) (Rep.lst_new (s.free hp) q1.reverse)⟩
  · simp only [Rep] at r1
    obtain ⟨a, rfl, h1⟩ := r1
    cases e
    exact ⟨a, _, rfl, SqL.mono s h1, fun p hp => q _ _ _ (PStp.laid s hp) (Rep.lst_new (s.free hp) (Reps.of_ints _).reverse)⟩
  · cases e
theorem de_rev {k : Nat} {p1 p2 p3 : Pos} (ha : PE X a (rd X.K fa)) : PE X (.Subscript a (.Slice none none (some (.UnaryOp .USub (.Constant (.int 1) k p1) p2)) p3) pos) (rd X.K (e1 revD fa)) :=
  pe_imp (pe_revL ha) (rd_1 ud_rev)
end
end M

namespace M
open PySem PySem.Spec PyProof.Rows L2
variable [Tabs]

/-! ### sorting -/
section
variable {α : Type} (le : α → α → Bool)
def insS (a : α) : List α → List α
  | [] => [a]
  | b :: l => if le a b = true then a :: b :: l else b :: insS a l
def isort : List α → List α
  | [] => []
  | a :: l => insS le a (isort l)
variable {le}
theorem insS_perm (a : α) : ∀ l, (insS le a l).Perm (a :: l)
  | [] => List.Perm.refl _
  | b :: l => by
    unfold insS
    split
    · exact List.Perm.refl _
    · exact ((insS_perm a l).cons b).trans (List.Perm.swap _ _ _)
theorem isort_perm : ∀ l, (isort le l).Perm l
  | [] => List.Perm.refl _
  | a :: l => (insS_perm a _).trans ((isort_perm l).cons a)
theorem insS_app (a : α) : ∀ (l1 l2 : List α), (∀ b ∈ l1, le a b = false) → (∀ b ∈ l2, le a b = true) → insS le a (l1 ++ l2) = l1 ++ a :: l2
  | [], [], _, _ => rfl
  | [], b :: l2, _, h => by
    show insS le a (b :: l2) = _
    unfold insS
    rw [if_pos (h b List.mem_cons_self)]
    rfl
  | b :: l1, l2, h1, h2 => by
    show insS le a (b :: (l1 ++ l2)) = _
    unfold insS
    rw [if_neg (by rw [h1 b List.mem_cons_self]; exact Bool.false_ne_true), insS_app a l1 l2 (fun c hc => h1 c (List.mem_cons_of_mem _ hc)) h2]
    rfl
theorem mergeSort_isort (tr : ∀ a b c, le a b = true → le b c = true → le a c = true) (to : ∀ a b, (le a b || le b a) = true) : ∀ l : List α, l.mergeSort le = isort le l
  | [] => by rw [List.mergeSort_nil]; rfl
  | a :: l => by
    obtain ⟨l1, l2, e1, e2, h⟩ := List.mergeSort_cons (le := le) tr to a l
    have srt := List.pairwise_mergeSort (le := le) tr to (a :: l)
    rw [e1] at srt ⊢
    unfold isort
    rw [← mergeSort_isort tr to l, e2, insS_app]
    · intro b hb
      have := h b hb
      simpa using this
    · intro b hb
      rw [List.pairwise_append] at srt
      exact (List.pairwise_cons.mp srt.2.1).1 b hb
end
theorem perm_sorted_eq : ∀ {l1 l2 : List Int}, l1.Perm l2 → l1.Pairwise (· ≤ ·) → l2.Pairwise (· ≤ ·) → l1 = l2
  | [], l2, p, _, _ => by rw [List.nil_perm.mp p]
  | a :: l1, [], p, _, _ => by have := p.length_eq; simp at this
  | a :: l1, b :: l2, p, h1, h2 => by
    obtain ⟨x1, y1⟩ := List.pairwise_cons.mp h1
    obtain ⟨x2, y2⟩ := List.pairwise_cons.mp h2
    have e : a = b := by
      have m1 : a ∈ b :: l2 := p.mem_iff.mp List.mem_cons_self
      have m2 : b ∈ a :: l1 := p.mem_iff.mpr List.mem_cons_self
      rcases List.mem_cons.mp m1 with e | m1
      · exact e
      rcases List.mem_cons.mp m2 with e | m2
      · exact e.symm
      have := x1 b m2
      have := x2 a m1
      omega
    subst e
    rw [perm_sorted_eq ((List.perm_cons a).mp p) y1 y2]
def leI (a b : Int) : Bool := decide (a ≤ b)
theorem insS_sorted (a : Int) : ∀ l : List Int, l.Pairwise (· ≤ ·) → (insS leI a l).Pairwise (· ≤ ·)
  | [], _ => by unfold insS; simp
  | b :: l, h => by
    obtain ⟨x, y⟩ := List.pairwise_cons.mp h
    unfold insS
    split
    · rename_i z
      have z : a ≤ b := of_decide_eq_true z
      refine List.pairwise_cons.mpr ⟨fun c hc => ?_, h⟩
      rcases List.mem_cons.mp hc with e | hc
      · rw [e]; exact z
      · exact Int.le_trans z (x c hc)
    · rename_i z
      have z : ¬ a ≤ b := fun q => z (decide_eq_true q)
      refine List.pairwise_cons.mpr ⟨fun c hc => ?_, insS_sorted a l y⟩
      rcases List.mem_cons.mp ((insS_perm a l).mem_iff.mp hc) with e | hc
      · rw [e]; omega
      · exact x c hc
theorem isort_sorted : ∀ l : List Int, (isort leI l).Pairwise (· ≤ ·)
  | [] => List.Pairwise.nil
  | a :: l => insS_sorted a _ (isort_sorted l)
def dedup : List Int → List Int
  | [] => []
  | a :: l => if (dedup l).contains a = true then dedup l else a :: dedup l
theorem dedup_mem {k : Int} : ∀ {l : List Int}, k ∈ dedup l ↔ k ∈ l
  | [] => Iff.rfl
  | a :: l => by
    unfold dedup
    split
    · rename_i h
      rw [dedup_mem, List.mem_cons]
      refine ⟨.inr, fun z => z.elim (fun e => ?_) id⟩
      rw [e]
      exact dedup_mem.mp (by simpa using h)
    · rw [List.mem_cons, List.mem_cons, dedup_mem]
theorem dedup_nodup : ∀ l : List Int, (dedup l).Nodup
  | [] => List.nodup_nil
  | a :: l => by
    unfold dedup
    split
    · exact dedup_nodup l
    · rename_i h
      exact List.nodup_cons.mpr ⟨by simpa using h, dedup_nodup l⟩
theorem set_sorted {out ns : List Int} (h : out.Pairwise (· < ·)) (m : ∀ k, k ∈ out ↔ k ∈ ns) : out = isort leI (dedup ns) := by
  have nd : out.Nodup := h.imp fun {a b} z e => by omega
  have nd2 : (isort leI (dedup ns)).Nodup := (isort_perm (le := leI) (dedup ns)).nodup_iff.mpr (dedup_nodup ns)
  refine perm_sorted_eq ((List.perm_ext_iff_of_nodup nd nd2).mpr fun k => ?_) (h.imp fun {a b} z => by omega) (isort_sorted _)
  rw [m k, (isort_perm (le := leI) (dedup ns)).mem_iff, dedup_mem]
/-! sorted(x), ints, bools -/
def leB (a b : Bool) : Bool := !a || b
def sortedD : List D → Option D
  | [.lst ds] => (match asInts ds with
    | some ns => some (.lst ((isort leI ns).map D.int))
    | none => (match asBools ds with | some bs => some (.lst ((isort leB bs).map D.bl)) | none => none))
  | _ => none
def rSortB (K : PySem.W.Frag) : List V → Hp → VK → Prop := fun vs H Q => ∃ (a : Addr) (bs : List Bool), vs = [V.ref a] ∧ SqL K H a (bs.map V.bl) ∧ ∀ p, H p = none → Q (.ref p) (upd H p (.lst ((isort leB bs).map V.bl)))
section
variable {X : Cx}
theorem vals_bools : ∀ {bs : List Bool} {us : List Value}, Vals (bs.map V.bl) us → PySem.W.EachIs (fun u b => u = .bool b) us bs
  | [], us, r => by cases r; exact .nil
  | b :: bs, us, r => by
    cases r with
    | cons h t => exact .cons h (vals_bools t)
theorem bools_vals : ∀ {bs : List Bool} {us : List Value}, PySem.W.EachIs (fun u b => u = .bool b) us bs → Vals (bs.map V.bl) us
  | _, _, .nil => .nil
  | _, _, .cons h t => .cons h (bools_vals t)
theorem dataLe_bool : PySem.W.dataLe false PyData.bool = leB := by
  funext a b
  cases a <;> cases b <;> decide +kernel
theorem cr_sortedB (hu : X.A.units + 2 < cLine) : CallR X (.builtin "sorted") (rSortB X.K) := by
  intro pins s σ H vs us Q I r h
  obtain ⟨a, bs, rfl, hs, q⟩ := h
  obtain ⟨its, rv, hl, hz⟩ := I.list hs
  rw [Vals.ref1 r]
  have e := vals_bools rv
  have hL : bs.length ≤ sizeLine := by rw [List.length_map] at hz; exact hz
  refine PySem.W.sorted_data (R := fun u b => u = .bool b) (enc := PyData.bool) hl.isList e (e.mono fun u b h => ⟨[], by rw [h]; exact .bool _⟩) (PySem.W.AllAlike.of fun _ _ => rfl) (PySem.W.Sortable.others fun b => ⟨fun z => (by cases z), fun _ z => (by cases z)⟩) hL
    (fun b _ => by show X.A.units + 2 + 0 < cLine; omega) fun out ho eo => ?_
  rw [dataLe_bool, mergeSort_isort (by decide) (by decide)] at eo
  have ev := bools_vals eo
  obtain ⟨ep, he'⟩ := PyProof.Rows.sortedAll_at s.heap its out.toArray
  have hlen : ((isort leB bs).map V.bl).length ≤ sizeLine := by rw [List.length_map, (isort_perm bs).length_eq]; exact hL
  exact ⟨.ref _, upd H (s.heap.objs.size + 1) (.lst ((isort leB bs).map V.bl)), I.laid (t' := s.toks) (fun _ _ => PyProof.Rows.sortedAll_old) (Nat.le_succ _) ⟨hlen, out, ep, ev, he'⟩, rfl, q _ (I.hok.fresh (Nat.le_succ _))⟩
theorem Reps.of_bools {K : PySem.W.Frag} {G : Hp} : ∀ (ns : List Bool), Reps K G (ns.map D.bl) (ns.map V.bl)
  | [] => Reps.nil
  | n :: ns => Reps.cons (rep_bl _) (Reps.of_bools ns)
def rSortA (K : PySem.W.Frag) : List V → Hp → VK → Prop := fun vs H Q => rSortedI K vs H Q ∨ rSortB K vs H Q
theorem cr_sortedA (hu : X.A.units + 2 < cLine) : CallR X (.builtin "sorted") (rSortA X.K) := by
  intro pins s σ H vs us Q I r h
  exact h.elim (cr_sortedI pins s σ H vs us Q I r) (cr_sortedB hu pins s σ H vs us Q I r)
theorem cd_sorted {K : PySem.W.Frag} : CallD K (rSortA K) sortedD := by
  intro G H ds d vs Q s r e q
  unfold sortedD at e
  split at e
  · rename_i ds'
    obtain ⟨v, rfl, r1⟩ := reps1 r
    simp only [Rep] at r1
    obtain ⟨a, us, rfl, h1, q1⟩ := r1
    cases h : asInts ds' with
    | some ns =>
      rw [h] at e; cases e
      rw [asInts_eq h] at q1
      rw [q1.ints] at h1
      refine .inl ⟨a, ns, rfl, SqL.of (s _ _ h1), fun ns' p hp hs hn => ?_⟩
      have e2 : ns' = isort leI ns := perm_sorted_eq (hp.trans (isort_perm ns).symm) hs (isort_sorted ns)
      subst e2
      exact q _ _ _ (PStp.laid s hn) (Rep.lst_new (s.free hn) (Reps.of_ints _))
    | none =>
      rw [h] at e
      dsimp only at e
      cases h2 : asBools ds' with
      | none => rw [h2] at e; cases e
      | some bs =>
        rw [h2] at e; cases e
        rw [asBools_eq h2] at q1
        rw [q1.bools] at h1
        exact .inr ⟨a, bs, rfl, SqL.of (s _ _ h1), fun p hn => q _ _ _ (PStp.laid s hn) (Rep.lst_new (s.free hn) (Reps.of_bools _))⟩
  · cases e
/-! sorted(set(x)), x a tuple of ints -/
def rSetT (K : PySem.W.Frag) (w : World) : List V → Hp → VK → Prop := fun vs H Q => ∃ (a : Addr) (ns : List Int), vs = [.ref a] ∧ SqT K H a (ns.map V.int) ∧ ns.length < 64 ∧ ∀ p c, H p = none → c ≤ ns.length → Q (.ref p) (upd H p (SetO w p (fun j => decide (j ∈ ns)) c))
theorem cr_setT (hc : X.calm = true) : CallR X (.type "set") (rSetT X.K X.w) := by
  intro pins s σ H vs us Q I r h
  obtain ⟨a, ns, rfl, hq, hz, q⟩ := h
  obtain ⟨its, rv, pt, _⟩ := I.tuple hq
  rw [Vals.ref1 r]
  have hi : IntsAre its.toArray.toList ns := by
    have := rv.ints
    simpa using this
  refine call_set_tupI ns (I.ok.hd hc) (show s.heap.IsTuple a its.toArray from pt) hi (by unfold scanBound; omega) fun h' tk c R1 hcn k => ?_
  exact ⟨.ref s.heap.objs.size, _, I.laid (t' := tk) k (Nat.le_refl _) (setO_new R1), rfl, q _ c (I.hok.fresh (Nat.le_refl _)) hcn⟩
def sortSetD : D → Option D
  | .tup ds => (match asInts ds with | some ns => if ns.length < 64 then some (.lst ((isort leI (dedup ns)).map D.int)) else none | none => none)
  | _ => none

theorem de_sortSet {a : Expr} {fa : FE} {p p2 pos pos2 : Pos} (ha : PE X a (rd X.K fa)) (hc : X.calm = true) (hg : Gl X "sorted") (hm : X.mg "sorted" = none) (hg2 : Gl X "set") (hm2 : X.mg "set" = none)
    (na : starEach [a] X.env = (false, eval a X.env) :: starEach [] X.env := by rfl) (na2 : starEach [.Call (.Name "set" p2) [a] [] pos2] X.env = (false, eval (.Call (.Name "set" p2) [a] [] pos2) X.env) :: starEach [] X.env := by rfl) :
    PE X (.Call (.Name "sorted" p) [.Call (.Name "set" p2) [a] [] pos2] [] pos) (rd X.K (e1 sortSetD fa)) := by
  refine pe_imp (pe_callB (cr_sortedSet hc) hg hm PyProof.Rows.boot_sorted (pa_cons (pe_callTy (cr_setT hc) hg2 hm2 PyProof.Rows.boot_set (pa_cons ha pa_nil na) (by decide) (by decide) na) pa_nil na2) (by decide) (by decide) na2) fun σ H Q ⟨ρ, G, I, h⟩ => ?_
  refine rd_of I (rdK_mono (rdK_bnd h) fun v H1 ⟨d1, ρ1, G1, s1, I1, r1, h1⟩ => ?_)
  obtain ⟨d, e, q⟩ := rdK_ofO h1 I1
  unfold sortSetD at e
  split at e
  · rename_i ds
    cases ha : asInts ds with
    | none => rw [ha] at e; cases e
    | some ns =>
      rw [ha] at e
      dsimp only at e
      by_cases z : ns.length < 64
      · rw [if_pos z] at e
        cases e
        simp only [Rep] at r1
        obtain ⟨a, vs, rfl, h2, q2⟩ := r1
        rw [asInts_eq ha] at q2
        rw [q2.ints] at h2
        refine ⟨a, ns, rfl, SqT.mono I1.sub h2, z, fun p c hp hcn => ?_⟩
        refine ⟨p, _, c, rfl, upd_same, by omega, fun out p2 hs hm hl hn => ?_⟩
        have eo : out = isort leI (dedup ns) := set_sorted hs fun k => by rw [hm k, decide_eq_true_eq]
        subst eo
        have n2 : H1 p2 = none := by
          by_cases y : p2 = p
          · subst y; exact hp
          · rw [upd_ne y] at hn; exact hn
        have n3 : p2 ≠ p := fun y => by subst y; rw [upd_same] at hn; cases hn
        refine q _ _ (upd G1 p2 (.lst ((isort leI (dedup ns)).map V.int))) ⟨same_upd (I1.sub.free n2), fun a ha => upd_ne fun y => ha (by rw [y]; exact n2), fun a o y _ => ?_, fun a ps y => ⟨ps, ?_, id, fun _ _ t => t.ext fun b o y => by rw [upd_ne (ne_of_none y n2), upd_ne (ne_of_none y hp)]; exact y⟩, fun a o y => ?_⟩ (Rep.lst_new (I1.sub.free n2) (Reps.of_ints _))
        · rw [upd_ne (ne_of_none y n2), upd_ne (ne_of_none y hp)]; exact y
        · rw [upd_ne (ne_of_none y n2), upd_ne (ne_of_none y hp)]; exact y
        · by_cases w1 : a = p2
          · subst w1; rw [upd_same] at y ⊢; exact y
          · rw [upd_ne w1] at y ⊢
            have y2 := I1.sub a o y
            rw [upd_ne (ne_of_none y2 hp)]; exact y2
      · rw [if_neg z] at e; cases e
  · cases e
end
end M

namespace M
open PySem PySem.Spec PyProof.Rows L2
open Sem (wp)
variable [Tabs]

/-! ### next(elt for target in iter if test, default) -/
/-- the context of a generator expression's frame -/
abbrev genX (X : Cx) (s : Shared) (H : Hp) (cenv : Env) (fp : List Addr) (A' : Around) : Cx :=
  { X with A := A', s_0 := s, H_0 := H, env := cenv, outer := X.stack, stack := cenv :: X.stack, ex := fp, fn := fun _ => false, pn := [], xe := fun _ _ => False }
section
variable {X : Cx} {pins : List (Addr × Obj)} {σ : L2.St} {H H5 : Hp} {s s5 : Shared}
theorem gen_start {scope : Scope} {own : List (Str × Nat)} {fp : List Addr} {C bi : Addr} {code : Value} {A' : Around} {m0 : Str → Option Value} (I : Inv X pins σ H s) (I5 : Inv X pins σ H5 s5) (ok : BlkOk X.N X.env.scope scope own) (hN : X.N.Nodup)
    (hcell : ∀ y ∈ scope.names, y.2 ≠ .cell) (hfp : ∀ b ∈ fp, FpOk X pins H b ∧ b < s.heap.objs.size) (hC : s.heap.objs.size ≤ C) (hns : s5.heap.Ns C m0) (hCf : H5 C = none) (un : Un (frs X.stack) fp H H5 s.heap s5.heap)
    (hbi : bi = builtinsNs) (hh : A'.handled = none) (hfr : A'.frames = some (genEnv scope (cloFrom X.env.cells scope.names []) C code bi X.env :: X.stack)) :
    Inv (genX X s H (genEnv scope (cloFrom X.env.cells scope.names []) C code bi X.env) fp A') [] (wipe σ (own.map (·.2))) H5 s5 := by
  have hfree : ∀ y ∈ scope.names, y.2 = .free → ∃ c, X.env.cells.lookup y.1 = some c := fun y hy e => by
    rcases ok.free y hy e with k | k
    · exact I.ok.has _ (.inl k)
    · exact I.ok.has _ (.inr k)
  have cm : ∀ {y c}, (y, c) ∈ cloFrom X.env.cells scope.names [] → X.env.cells.lookup y = some c ∧ c < s.heap.objs.size ∧ (y, NameKind.free) ∈ scope.names := fun {y c} hm => by
    rcases cloFrom_mem hm with hm | ⟨h1, rfl⟩
    · cases hm
    · obtain ⟨c, hc⟩ := hfree _ h1 rfl
      rw [hc]
      obtain ⟨w, z⟩ := I.cell _ _ hc
      exact ⟨rfl, z.lt, h1⟩
  have mem : ∀ {y c}, (cloFrom X.env.cells scope.names []).lookup y = some c → X.env.cells.lookup y = some c ∧ c < s.heap.objs.size ∧ (y, NameKind.free) ∈ scope.names := fun {y c} e => cm (PySem.mem_of_lookup e)
  have look : ∀ {y}, scope.names.lookup y = some .free → ∃ c, (cloFrom X.env.cells scope.names []).lookup y = some c ∧ X.env.cells.lookup y = some c := fun {y} hl => by
    have hy : (y, NameKind.free) ∈ scope.names := PySem.mem_of_lookup hl
    obtain ⟨c', e'⟩ := mem_lookup (cloFrom_has (cells := X.env.cells) (acc := []) hy)
    exact ⟨c', e', (mem e').1⟩
  have okG : (genX X s H (genEnv scope (cloFrom X.env.cells scope.names []) C code bi X.env) fp A').Ok := by
    refine ⟨I.ok.mod, ok.kind, I.ok.glob, hbi, hC, fun y z c e1 e2 => I.ok.inj y z c (mem e1).1 (mem e2).1, fun y hy => ?_, fun y c z e => (by cases z), fun _ => hh, hfr, .inr ⟨rfl, rfl⟩, fun b hb => ⟨?_, fun y c e z => ?_⟩, I.bs, Nat.le_trans I.ok.bsz I.sz, fun b o e hb => ?_, fun b hb z => ?_, I.stack, I.stkFree⟩
    · rcases hy with hy | hy
      · exact absurd rfl (hcell _ (PySem.mem_of_lookup (show scope.names.lookup y = some .cell from hy)))
      · obtain ⟨c, h1, _⟩ := look (show scope.names.lookup y = some .free from hy)
        exact ⟨c, h1⟩
    · show b ≠ C
      exact Nat.ne_of_lt (Nat.lt_of_lt_of_le (hfp b hb).2 hC)
    · exact (hfp b hb).1.2.2.2.2.1 y c (mem e).1 z
    · rcases (hfp b hb).1.2.2.2.1 with z | z
      · exact I.ok.noex b o e z
      · exact absurd (Nat.lt_of_lt_of_le (Heap.lt_size e) (Nat.le_trans I.ok.bsz z)) (Nat.lt_irrefl _)
    · rcases List.mem_cons.mp (I.stkSub b z) with z | z
      · exact (hfp b hb).1.2.1 z
      · exact (hfp b hb).1.2.2.1 z
  refine ⟨okG, I5.os.trans I.os.symm, I5.bare, un, ⟨m0, hns, fun i y av e1 e2 e3 => ?_⟩, fun y c e => I5.cell y c (mem e).1, hCf, fun y c e => I5.freeC y c (mem e).1, fun p hp => absurd (show p ∈ ([] : List (Addr × Obj)) ++ [] from hp) (by simp), I5.hok, by rw [wipe_length]; exact I5.len⟩
  obtain ⟨e2, hne⟩ := wipe_some e2
  have hfr : scope.names.lookup y = some .free := by
    have no : ∀ k, scope.names.lookup y = some k → ¬ (k = .local ∨ k = .cell) := fun k e hh => by
      rcases ok.own _ (PySem.mem_of_lookup e) hh with e' | e'
      · obtain ⟨p, hp, hpy⟩ := List.mem_map.mp e'
        have e3 := ok.ix p hp
        have : p.1 = y := hpy
        rw [this] at e3
        exact hne (List.mem_map.mpr ⟨p, hp, nodup_ix hN e3 e1⟩)
      · exact e' (List.mem_of_getElem? e1)
    have e3 : Vis scope y := e3
    rcases e3 with e3 | e3 | e3
    · exact absurd (.inl rfl) (no _ e3)
    · exact absurd (.inr rfl) (no _ e3)
    · exact e3
  obtain ⟨m, hn, hl⟩ := I5.loc
  have hvis : Vis X.env.scope y := (ok.free _ (PySem.mem_of_lookup hfr) rfl).elim (fun k => .inr (.inl k)) (fun k => .inr (.inr k))
  obtain ⟨w, r, q⟩ := hl i y av e1 e2 hvis
  refine ⟨w, r, .inr ⟨.inr hfr, ?_⟩⟩
  obtain ⟨c, h1, h2⟩ := look hfr
  rcases q with ⟨k, _⟩ | ⟨_, c', e', z⟩
  · have k : X.env.scope.names.lookup y = some .local := k
    rcases ok.free _ (PySem.mem_of_lookup hfr) rfl with k' | k' <;> rw [show X.env.scope.names.lookup y = _ from k'] at k <;> cases k
  · rw [h2] at e'; cases e'
    exact ⟨c, h1, z⟩
end
def nxL (tg : TgD) (ft : FT) (fe : FE) (vs : List Nat) : List D → Rho → Rz (Option D × Rho)
  | [], ρ => .ok (none, ρ)
  | d :: ds, ρ => frc d fun d => nrmR ρ fun ρ => match tg d ρ with
    | none => .no
    | some ρ1 => (ft ρ1).bind fun c => if c.1 = true then (fe c.2).bind fun q => if noIo vs q.2 = true then .ok (some q.1, wipeR vs q.2) else .no
      else if noIo vs c.2 = true then nxL tg ft fe vs ds (wipeR vs c.2) else .no
/-- the generator has come to its item, or to its end -/
def GOk (X Xg : Cx) (σ : L2.St) (vs : List Nat) (ρw : Rho) (G1 H1 : Hp) (ρf : Rho) (G' H' : Hp) (s' : Shared) : Prop :=
  ∃ pins', Inv Xg pins' (wipe σ vs) H' s' ∧ Stp (wipe σ vs) ρw G1 H1 (wipe σ vs) ρf G' H' ∧ SR X.K G' H' (wipe σ vs) ρf ∧ Bare vs ρf
section
variable {X : Cx}
theorem gen_loop {elt tgt iter : Expr} {ifs : List Expr} {scope : Scope} {gpos : Pos} {A : Around} {cenv : Env} {s2 : Shared} {H2 : Hp} {fp : List Addr} {it : Addr} {tn : Nat → Heap → Prop} {J : It} {is vs : List Nat} {tg : TgD} {ft : FT} {fe : FE} {ds : List D} {σ : L2.St} {ρw ρf : Rho} {G1 H1 : Hp} {res : Option D}
    (hc : X.calm = true) (hco : cenv.scope.isCoroutine = false) (hs : ∀ i ∈ is, i ∈ vs) (T : Turn X.prog X.w X.K tgt J fp it tn) (hJ : ItD X.K G1 J ds)
    (pg : PG (genX X s2 H2 cenv fp (A.over (.compLoop (.GeneratorExp elt [⟨tgt, iter, ifs, 0⟩] scope gpos) 0 (.ref it) .none cenv) [])) tgt (rdG X.K is tg))
    (pt : PTs (genX X s2 H2 cenv fp (A.over (.compLoop (.GeneratorExp elt [⟨tgt, iter, ifs, 0⟩] scope gpos) 0 (.ref it) .none cenv) [])) ifs (rdT X.K ft))
    (pe : PE (genX X s2 H2 cenv fp (A.over (.compLoop (.GeneratorExp elt [⟨tgt, iter, ifs, 0⟩] scope gpos) 0 (.ref it) .none cenv) [])) elt (rd X.K fe)) :
    ∀ (k i : Nat) (s₀ s' : Shared) (ρ' : Rho) (G' H' : Hp), ds.length - i = k → i ≤ ds.length → Inv (genX X s2 H2 cenv fp (A.over (.compLoop (.GeneratorExp elt [⟨tgt, iter, ifs, 0⟩] scope gpos) 0 (.ref it) .none cenv) [])) [] (wipe σ vs) H' s' → tn i s'.heap → (∀ b ∈ fp, H' b = none) →
      Stp (wipe σ vs) ρw G1 H1 (wipe σ vs) ρ' G' H' → SR X.K G' H' (wipe σ vs) ρ' → Bare vs ρ' → nxL tg ft fe vs (ds.drop i) ρ' = .ok (res, ρf) →
      Seg (model X.prog X.w) A (fun n s₀ r s₁ => r = .ok .next ∧ (res = none ∧ ∃ G' H', GOk X (genX X s2 H2 cenv fp (A.over (.compLoop (.GeneratorExp elt [⟨tgt, iter, ifs, 0⟩] scope gpos) 0 (.ref it) .none cenv) [])) σ vs ρw G1 H1 ρf G' H' s₁))
        (fun n s₀ v s₁ kap => ∃ d x G' H', res = some d ∧ RelV x v ∧ Rep X.K G' d x ∧ GOk X (genX X s2 H2 cenv fp (A.over (.compLoop (.GeneratorExp elt [⟨tgt, iter, ifs, 0⟩] scope gpos) 0 (.ref it) .none cenv) [])) σ vs ρw G1 H1 ρf G' H' s₁) 1 s₀
        (.compLoop (.GeneratorExp elt [⟨tgt, iter, ifs, 0⟩] scope gpos) 0 (.ref it) .none cenv)
        ((model X.prog X.w).den (.compLoop (.GeneratorExp elt [⟨tgt, iter, ifs, 0⟩] scope gpos) 0 (.ref it) .none cenv)) [] s' := by
  generalize hXg : genX X s2 H2 cenv fp (A.over (.compLoop (.GeneratorExp elt [⟨tgt, iter, ifs, 0⟩] scope gpos) 0 (.ref it) .none cenv) []) = Xg at pg pt pe ⊢
  have eP : Xg.prog = X.prog := by rw [← hXg]
  have eW : Xg.w = X.w := by rw [← hXg]
  have eK : Xg.K = X.K := by rw [← hXg]
  have eC : Xg.calm = true := by rw [← hXg]; exact hc
  have eA : Xg.A = A.over (.compLoop (.GeneratorExp elt [⟨tgt, iter, ifs, 0⟩] scope gpos) 0 (.ref it) .none cenv) [] := by rw [← hXg]
  have eX : Xg.xe = fun _ _ => False := by rw [← hXg]
  have eE : Xg.env = cenv := by rw [← hXg]
  have eF : Xg.ex = fp := by rw [← hXg]
  have eN : Xg.pn = [] := by rw [← hXg]
  have stat : ∀ {σ' : L2.St} {H' : Hp} {s' : Shared}, Inv Xg [] σ' H' s' → (∀ b ∈ fp, H' b = none) → ∀ b ∈ fp, FpOk Xg [] H' b := fun {σ' H' s'} I' hn b hb =>
    ⟨hn b hb, (I'.ok.exf b (by rw [eF]; exact hb)).1, I'.ok.exfs b (by rw [eF]; exact hb), .inl (by rw [eF]; exact hb), fun x c e => (I'.ok.exf b (by rw [eF]; exact hb)).2 x c e, fun p hp => absurd (show p ∈ ([] : List (Addr × Obj)) by rw [eN] at hp; exact hp) (by simp)⟩
  intro k
  induction k with
  | zero =>
    intro i s₀ s' ρ' G' H' hk hi I' st' nf stp sr bare eq
    have e0 : ds.drop i = [] := List.drop_eq_nil_of_le (by omega)
    rw [e0] at eq
    unfold nxL at eq
    cases eq
    show Seg _ A _ _ _ s₀ _ ((compTurn (.GeneratorExp elt [⟨tgt, iter, ifs, 0⟩] scope gpos) 0 (.ref it) .none cenv).onRaise (leaving cenv)) [] s'
    rw [compTurn_gen, Sem.onRaise_eq_wrap]
    refine seg_bind_wrap (wpAny_standAt ?_)
    refine seg_bind_wrap ?_
    have td := T.done Xg eP eW eK eC i [] s' _ H' (fun _ _ => False) I' (stat I' nf) st' ((hJ i G' H' stp.sub sr.sub).2 (by omega))
    rw [eA] at td
    refine thnF td fun r s1 ⟨hr, I1⟩ => ?_
    subst hr
    exact seg_end (.ok .next) ⟨rfl, rfl, G', H', [], I1, stp, sr, bare⟩
  | succ k ih =>
    intro i s₀ s' ρ' G' H' hk hi I' st' nf stp sr bare eq
    have hlt : i < ds.length := by omega
    have ed : ds.drop i = ds[i] :: ds.drop (i + 1) := List.drop_eq_getElem_cons hlt
    rw [ed] at eq
    unfold nxL at eq
    rw [frc_eq, nrmR_eq] at eq
    obtain ⟨go, yl⟩ := (hJ i G' H' stp.sub sr.sub).1 ds[i] (List.getElem?_eq_getElem hlt)
    cases et : tg ds[i] ρ' with
    | none => rw [et] at eq; cases eq
    | some ρ3 =>
      rw [et] at eq
      dsimp only at eq
      show Seg _ A _ _ _ s₀ _ ((compTurn (.GeneratorExp elt [⟨tgt, iter, ifs, 0⟩] scope gpos) 0 (.ref it) .none cenv).onRaise (leaving cenv)) [] s'
      rw [compTurn_gen, Sem.onRaise_eq_wrap]
      refine seg_bind_wrap (wpAny_standAt ?_)
      refine seg_bind_wrap ?_
      have ti := T.item Xg eP eW eK eC i [] s' _ H' (fun _ _ => False) I' (stat I' nf) st' go
      rw [eA] at ti
      refine thnF ti fun r s6 ⟨u, hr, h6⟩ => ?_
      subst hr
      refine seg_bind_wrap (thnF h6 fun _ s7 ⟨x, H7, I7, r7, y7, st7, n7⟩ => ?_)
      have I7' := I7.pinned (stat I7 n7) (T.obj _ _ st7)
      obtain ⟨G7, P7, rx⟩ := yl x H7 y7
      have J7 := sr.pure P7
      have pgr := pg.run _ s7 _ H7 x u (fun σ3 H3 => ∃ G3, Stp (wipe σ vs) ρ' G' H' σ3 ρ3 G3 H3 ∧ SR X.K G3 H3 σ3 ρ3 ∧ wipe σ3 vs = wipe σ vs) I7' r7
        ⟨ρ', G7, ds[i], J7, rx, ρ3, et, fun σ3 s3 I3 o3 => ⟨G7, (P7.stp (σ := wipe σ vs) (ρ := ρ')).trans s3, I3, wipe_only hs o3⟩⟩
      rw [eP, eW, eA, eX, eE] at pgr
      refine seg_bind_wrap (thnF pgr fun _ s8 ⟨σ8, H8, I8, G8, stp8, sr8, hw8⟩ => ?_)
      cases ec : ft ρ3 with
      | ex _ _ => rw [ec] at eq; cases eq
      | no => rw [ec] at eq; cases eq
      | ok c =>
        obtain ⟨b0, ρ4⟩ := c
        rw [ec] at eq
        dsimp only [Rz.bind] at eq
        have ptr := pt.run _ s8 σ8 H8 (fun b H4 => b = b0 ∧ ∃ G4, Stp (wipe σ vs) ρ' G' H' σ8 ρ4 G4 H4 ∧ SR X.K G4 H4 σ8 ρ4) I8 (by
          refine rdT_of sr8 ?_
          unfold rdTK
          rw [ec]
          exact fun H4 G4 s4 I4 => ⟨rfl, G4, stp8.trans s4, I4⟩)
        rw [eP, eW, eA, eX, eE] at ptr
        refine seg_bind_wrap (thnF ptr fun b s9 ⟨H9, I9, hb, G9, stp9, sr9⟩ => ?_)
        subst hb
        cases b with
        | false =>
          simp only [Bool.false_eq_true, if_false] at eq ⊢
          by_cases z : noIo vs ρ4 = true
          · rw [if_pos z] at eq
            have pin' : ∀ b ∈ fp, ∀ o, s7.heap.get? b = some o → s9.heap.get? b = some o ∧ H9 b = none := fun b hb o e =>
              let z := I9.pin (b, o) (List.mem_append_right _ (List.mem_append_right _ (mem_pinsAt hb e)))
              ⟨z.1, z.2.1⟩
            have hl : (wipe σ vs).length = σ8.length := by rw [← hw8, wipe_length]
            have stw := stp9.trans (Stp.wipe (vs := vs) z)
            have Iw := sr9.wipe (vs := vs)
            rw [hw8] at stw Iw
            refine seg_again rfl (ih (i + 1) s₀ s9 (wipeR vs ρ4) G9 H9 (by omega) hlt ((I9.unpinned (pins := [])).weak hl fun j v e => ?_) (T.keep _ _ _ st7 fun b hb o e => (pin' b hb o e).1) (fun b hb => ?_) (stp.trans stw) Iw bare_wipeR eq)
            · rw [← hw8] at e
              exact (wipe_some e).1
            · obtain ⟨o, e, _⟩ := T.obj _ _ st7 b hb
              exact (pin' b hb o e).2
          · rw [if_neg z] at eq; cases eq
        | true =>
          simp only [if_true] at eq ⊢
          cases ee : fe ρ4 with
          | ex _ _ => rw [ee] at eq; cases eq
          | no => rw [ee] at eq; cases eq
          | ok q =>
            obtain ⟨d5, ρ5⟩ := q
            rw [ee] at eq
            dsimp only [Rz.bind] at eq
            by_cases z : noIo vs ρ5 = true
            · rw [if_pos z] at eq
              cases eq
              have hy : ∀ v, yieldOut cenv v = yieldValue v := fun v => by simp only [yieldOut, hco, Bool.false_eq_true, if_false]
              simp only [hy]
              rw [Sem.bind_eq_wrap', Sem.bind_eq_wrap', Sem.wrap_wrap, Sem.wrap_wrap]
              have per := pe.run _ s9 σ8 H9 (fun y H5 => ∃ G5, Stp (wipe σ vs) ρ' G' H' σ8 ρ5 G5 H5 ∧ SR X.K G5 H5 σ8 ρ5 ∧ Rep X.K G5 d5 y) I9 (by
                refine rd_of sr9 ?_
                unfold rdK
                rw [ee]
                exact fun v H5 G5 s5 I5 r5 => ⟨G5, stp9.trans s5, I5, r5⟩)
              rw [eP, eW, eA, eX, eE] at per
              refine seg_wrap (thnF per fun y s10 ⟨yv, H10, I10, r10, G10, stp10, sr10, rr⟩ => ?_)
              have hl : (wipe σ vs).length = σ8.length := by rw [← hw8, wipe_length]
              have stw := stp10.trans (Stp.wipe (vs := vs) z)
              have Iw := sr10.wipe (vs := vs)
              rw [hw8] at stw Iw
              refine seg_at (seg_yield rfl rfl rfl ⟨d5, yv, G10, H10, rfl, r10, rr, _, I10.weak hl fun j v e => ?_, stp.trans stw, Iw, bare_wipeR⟩)
              rw [← hw8] at e
              exact (wipe_some e).1
            · rw [if_neg z] at eq; cases eq
/-- a default: a constant -/
def Dfl (X : Cx) (e : Expr) (dd : D) : Prop := ∀ (M : Model) (A : Around) (E : Value → Shared → Prop) (s : Shared) (Q : Value → Shared → Prop), (∀ v tk vd, RelV vd v → (∀ G, Rep X.K G dd vd) → Q v { s with toks := tk }) → wpAny M A (eval e X.env) Q E s
theorem dfl_none {k : Nat} {p : Pos} : Dfl X (.Constant .none k p) .non := fun M A E s Q h => wpAny_Constant_none (h .none s.toks .non rfl fun G => rep_non)
theorem dfl_int {i : Int} {k : Nat} {p : Pos} : Dfl X (.Constant (.int i) k p) (.int i) := fun M A E s Q h => wpAny_Constant_int (h _ _ (.int i) ⟨_, rfl⟩ fun G => rep_int i)
def eNext (fi : FI) (tg : TgD) (ft : FT) (fe : FE) (dd : D) (vs : List Nat) : FE := fun ρ => (fi ρ).bind fun p => if noIo vs p.2 = true then (nxL tg ft fe vs p.1 (wipeR vs p.2)).bind fun q => .ok (match q.1 with | some d => d | none => dd, restR vs p.2 q.2) else .no
theorem over_gen {A : Around} {elt tgt iter : Expr} {ifs : List Expr} {scope : Scope} {gpos : Pos} {it acc : Value} {cenv : Env} (h : A.handled = none) : (A.over (.compLoop (.GeneratorExp elt [⟨tgt, iter, ifs, 0⟩] scope gpos) 0 it acc cenv) []).handled = none ∧
    (A.over (.compLoop (.GeneratorExp elt [⟨tgt, iter, ifs, 0⟩] scope gpos) 0 it acc cenv) []).depth = A.depth + 1 ∧ (A.over (.compLoop (.GeneratorExp elt [⟨tgt, iter, ifs, 0⟩] scope gpos) 0 it acc cenv) []).units = A.units + 3 ∧
    (∀ l, A.frames = some l → (A.over (.compLoop (.GeneratorExp elt [⟨tgt, iter, ifs, 0⟩] scope gpos) 0 it acc cenv) []).frames = some (cenv :: l)) ∧ (A.over (.compLoop (.GeneratorExp elt [⟨tgt, iter, ifs, 0⟩] scope gpos) 0 it acc cenv) []).guards = A.guards := by
  obtain ⟨hd, d, fr, gs, u⟩ := A
  refine ⟨h, rfl, rfl, fun l e => ?_, rfl⟩
  have e : fr = some l := e
  subst e
  rfl
theorem tk_next2 (a b : Value) : argsOk "next" ⟨[a, b], []⟩ := PySem.W.kdk_args_next2 a b
theorem de_next {c P : Addr} {elt tgt iter dflt : Expr} {ifs : List Expr} {scope : Scope} {own : List (Str × Nat)} {p pos gpos : Pos} {fi : FI} {is : List Nat} {tgd : TgD} {ft : FT} {fe : FE} {dd : D} {k : Nat} (hm0 : Rm (k + 1) X.A) (hc : X.calm = true) (hN : X.N.Nodup) (hg : Gl X "next") (hm : X.mg "next" = none)
    (TB : GxR.TabB X.base X.mg c P) (hP : P ∈ Tabs.T) (hPL : ∀ q, (P, q) ∉ Tabs.L) (hcode : X.env.code = .ref c) (hi : PI X tgt iter (rdI X.K fi)) (ok : BlkOk X.N X.env.scope scope own) (hsub : ∀ i ∈ is, i ∈ own.map (·.2)) (hd : Dfl X dflt dd)
    (hpg : ∀ (s : Shared) (H : Hp) (C : Addr) (cl : List (Str × Addr)) (code : Value) (bi : Addr) (fp : List Addr) (A' : Around), PG (genX X s H (genEnv scope cl C code bi X.env) fp A') tgt (rdG X.K is tgd))
    (hpt : ∀ (s : Shared) (H : Hp) (C : Addr) (cl : List (Str × Addr)) (code : Value) (bi : Addr) (fp : List Addr) (A' : Around), Rm k A' → PTs (genX X s H (genEnv scope cl C code bi X.env) fp A') ifs (rdT X.K ft))
    (hpe : ∀ (s : Shared) (H : Hp) (C : Addr) (cl : List (Str × Addr)) (code : Value) (bi : Addr) (fp : List Addr) (A' : Around), Rm k A' → PE (genX X s H (genEnv scope cl C code bi X.env) fp A') elt (rd X.K fe))
    (hs : ∀ v, genFold iter X.env v = pure v := by intro _; rfl) (hco : scope.isCoroutine = false := by rfl) (hcell : ∀ y ∈ scope.names, y.2 ≠ .cell := by decide +kernel) (hdot : scope.names.lookup (".0" : Str) = some NameKind.local := by decide +kernel)
    (he : starEach [.GeneratorExp elt [⟨tgt, iter, ifs, 0⟩] scope gpos, dflt] X.env = (false, eval (.GeneratorExp elt [⟨tgt, iter, ifs, 0⟩] scope gpos) X.env) :: starEach [dflt] X.env := by rfl)
    (he2 : starEach [dflt] X.env = (false, eval dflt X.env) :: starEach [] X.env := by rfl) (hpl : (backTo pos (starEach [dflt] X.env)).any (·.1) = false := by rfl) :
    PE X (.Call (.Name "next" p) [.GeneratorExp elt [⟨tgt, iter, ifs, 0⟩] scope gpos, dflt] [] pos) (rd X.K (eNext fi tgd ft fe dd (own.map (·.2)))) := by
  have hr := hm0.r
  refine ⟨fun pins s σ H Q I h => ?_⟩
  obtain ⟨ρ, G, sr0, h⟩ := h
  have hfree : ∀ y ∈ scope.names, y.2 = .free → ∃ c, X.env.cells.lookup y.1 = some c := fun y hy e => by
    rcases ok.free y hy e with k | k
    · exact I.ok.has _ (.inl k)
    · exact I.ok.has _ (.inr k)
  refine wpAny_Call_Name_kw (ld_blt I hg hm PyProof.Rows.boot_next ?_)
  refine PyProof.Rows.callWith_builtin1 (args_cons ?_ he) he hpl
  refine wpAny_GeneratorExp_make hco (closure_ok hfree) hcell hdot ok.kind (by have := hr.dp; omega) ?_ hs
  unfold eNext at h
  cases e1 : fi ρ with
  | ex _ _ => rw [e1] at h; exact h.elim
  | no => rw [e1] at h; exact h.elim
  | ok q =>
    obtain ⟨ds, ρ1⟩ := q
    rw [e1] at h
    dsimp only [Rz.bind] at h
    by_cases io1 : noIo (own.map (·.2)) ρ1 = true
    · rw [if_pos io1] at h
      cases eL : nxL tgd ft fe (own.map (·.2)) ds (wipeR (own.map (·.2)) ρ1) with
      | ex _ _ => rw [eL] at h; exact h.elim
      | no => rw [eL] at h; exact h.elim
      | ok r =>
        obtain ⟨res, ρf⟩ := r
        rw [eL] at h
        dsimp only at h
        refine thn (hi.run pins s σ H (fun J H1 => ∃ G1, Stp σ ρ G H σ ρ1 G1 H1 ∧ SR X.K G1 H1 σ ρ1 ∧ ItD X.K G1 J ds) I ⟨ρ, G, sr0, by
          unfold rdIK
          rw [e1]
          exact fun J H1 G1 a b c => ⟨G1, a, b, c⟩⟩) fun xv s1 hx => thn hx fun itv s2 h2 => ?_
        obtain ⟨it, fp, tn, J, H2, e, I2, T, st2, f2, G1, stp1, sr1, hJ⟩ := h2
        subst e
        obtain ⟨⟨ps, hPt, ht⟩, hGP⟩ := sr1.tab P hP
        refine ⟨I2.nolimit, ?_⟩
        have hPs : s2.heap.get? P = some { cls := .none, data := .fields ps } := I2.hok P _ hPt
        have hPlt : P < s2.heap.objs.size := Heap.lt_size hPs
        have cd : PySem.W.CodeHd s2.heap c P := TB.code.keeps I2.bk
        have szfp : ∀ b ∈ fp, b < s2.heap.objs.size := fun b hb => by
          obtain ⟨o, e, _⟩ := T.obj _ _ st2 b hb
          exact Heap.lt_size e
        have cont : ∀ (code : Value) (h3 : Heap) (tk : Nat) (ps' : Array Value), Heap.ExtBut P s2.heap h3 → s2.heap.objs.size ≤ h3.objs.size → h3.get? P = some { cls := .none, data := .fields ps' } → (∃ more, ps' = ps ++ more) → TriplesOk ps'.toList →
            wpAny (model X.prog X.w) X.A (builtinsFor X.env.globals X.env.builtins) (fun bi s₄ => ∀ h', h'.Ns s₄.heap.objs.size (fun y => if y = ".0" then some (.ref it) else none) → Heap.SameBut s₄.heap.objs.size (s₄.heap.push { cls := .type "frame", data := .dict #[] }) h' →
              wpAny (model X.prog X.w) X.A (spliced (backTo pos (starEach [dflt] X.env))) (fun vs s₂ => wpAny (model X.prog X.w) X.A (call (.builtin "next") (.ref h'.objs.size :: vs)) (EP X pins σ Q) X.xe s₂) X.xe
                { s₄ with gens := s₄.gens.push (.fresh (.compStart (.GeneratorExp elt [⟨tgt, iter, ifs, 0⟩] scope gpos) 0 (.ref it) .none (genEnv scope (cloFrom X.env.cells scope.names []) s₄.heap.objs.size code bi X.env))), toks := s₄.toks + 1 + 1 + 1, heap := h'.push { cls := .type "generator", data := .fields #[.int s₄.gens.size 0, .str "<genexpr>" (s₄.toks + 1), .str (X.env.qual ++ "<genexpr>") (s₄.toks + 1 + 1)] } }) X.xe { s2 with heap := h3, toks := tk } := by
          intro code h3 tk ps' hx hsz hP3 hmore ht3
          obtain ⟨bm, ob, b1, b2, b3, b4, b5, b6, b7, b8⟩ := TB.bm
          have keep3 : ∀ b u, b ≠ P → s2.heap.get? b = some u → h3.get? b = some u := fun b u hb e => hx b u hb e
          refine wpAny_builtinsFor (m := X.mg) (by rw [I2.ok.glob]; exact (I2.mod.glob.keeps I2.bk).extBut hx TB.gP) b1 b2 (keep3 _ _ b4 (I2.bk _ _ b5)) b6 b7 b8 ?_
          intro h' hn' hs'
          obtain ⟨more, em⟩ := hmore
          subst em
          have hsz' : h'.objs.size = h3.objs.size + 1 := by rw [hs'.1, Heap.size_push]
          have kp0 : ∀ b u, h3.get? b = some u → h'.get? b = some u := fun b u e => hs'.extBut b u (Nat.ne_of_lt (Heap.lt_size e)) (Heap.get?_push_of_some _ e)
          have nPsz : P ≠ h3.objs.size := Nat.ne_of_lt (Nat.lt_of_lt_of_le hPlt hsz)
          refine args_cons (hd _ _ _ _ _ fun dv tk' vd rvd hrep => args_nil ?_) he2
          generalize hgo : ({ cls := .type "generator", data := .fields #[.int s2.gens.size 0, .str "<genexpr>" (tk + 1), .str (X.env.qual ++ "<genexpr>") (tk + 1 + 1)] } : Obj) = go
          have hgen : (h'.push go).IsGen h'.objs.size s2.gens.size := by
            rw [← hgo]
            exact ⟨_, _, _, Heap.get?_push_size _ rfl, rfl, rfl, rfl⟩
          have kp : ∀ b u, b ≠ P → s2.heap.get? b = some u → (h'.push go).get? b = some u := fun b u hb e => Heap.get?_push_of_some _ (kp0 b u (keep3 b u hb e))
          have hP5 : (h'.push go).get? P = some { cls := .none, data := .fields (ps ++ more) } := Heap.get?_push_of_some _ (kp0 _ _ hP3)
          generalize hce : genEnv scope (cloFrom X.env.cells scope.names []) h3.objs.size code builtinsNs X.env = cenv
          -- the abstract heap: the table has grown
          generalize hH5 : upd H2 P (.tbl (ps ++ more)) = H5
          have u5 : ∀ b, b ≠ P → H5 b = H2 b := fun b hb => by rw [← hH5]; exact upd_ne hb
          have p5 : H5 P = some (.tbl (ps ++ more)) := by rw [← hH5]; exact upd_same
          have nP : ∀ b, H2 b = none → b ≠ P := fun b e z => by subst z; rw [hPt] at e; cases e
          have nT : ∀ b u, H2 b = some u → (∀ q, u ≠ .tbl q) → b ≠ P := fun b u e q z => by
            subst z
            rw [hPt] at e
            exact q ps (Option.some.inj e).symm
          have ptab : PStp G1 H2 G1 H5 := by
            refine ⟨fun _ _ h => h, fun _ _ => rfl, fun a o e t => ?_, fun a qs e => ?_, fun a o e => ?_⟩
            · rw [u5 a fun z => by subst z; rw [hPt] at e; cases e; cases t]; exact e
            · by_cases z : a = P
              · subst z
                rw [hPt] at e; cases e
                exact ⟨_, p5, fun _ => ht3, fun q m => absurd m (hPL q)⟩
              · exact ⟨qs, by rw [u5 a z]; exact e, id, fun q _ y => tabS_to y (fun ps e => by rw [u5 a z]; exact e) fun c e => by rw [u5 c (nT c _ e fun q => LamX.codeO_ne q)]; exact e⟩
            · rw [u5 a fun z => by subst z; rw [hGP] at e; cases e]; exact sr1.sub a o e
          refine Calls.call_function_entry (by decide +kernel) (by decide +kernel) PySem.W.kdk_entry_next (PySem.W.kdk_args_next2 _ _) ?_
          unfold Builtin.«next»
          refine wpAny_bind (m := someArgs "next" 1 2 _) (wpAny_of_eq (a := [Value.ref h'.objs.size, dv]) (by first | rfl | kernel_rfl!) ?_)
          dsimp only
          refine wpAny_bind (wpAny_specialOf (name := Str.ofString "__next__") hgen.typeIs slot_gen_next.lookup ?_)
          refine wpAny_ite_split (fun hab => absurd hab (by decide)) (fun _ => ?_)
          have hhd : X.A.handled = none := hr.hd
          have lim5 : (h'.push go).NoLimit := by
            have l3 : h3.NoLimit := I2.nolimit.extBut hx fun e => by
              obtain ⟨_, hns, _⟩ := I2.nolimit
              obtain ⟨o', es, ep, ho, hdd, _⟩ := hns
              rw [e, hPs] at ho
              cases ho
              cases hdd
            exact l3.keeps fun b u e => Heap.get?_push_of_some _ (kp0 b u e)
          generalize hs5 : ({ s2 with gens := s2.gens.push (.fresh (.compStart (.GeneratorExp elt [⟨tgt, iter, ifs, 0⟩] scope gpos) 0 (.ref it) .none cenv)), heap := h'.push go, toks := tk' } : Shared) = sg
          have hgs : sg.gens[s2.gens.size]? = some (.fresh (.compStart (.GeneratorExp elt [⟨tgt, iter, ifs, 0⟩] scope gpos) 0 (.ref it) .none cenv)) := by
            rw [← hs5]
            exact Array.getElem?_push_size ..
          have hgH : sg.heap = h'.push go := by rw [← hs5]
          have bare5 : AllBare (sg.setGen s2.gens.size .running).gens := by
            rw [← hs5]
            refine fun y hy => ?_
            have hy : y ∈ (s2.gens.push (.fresh (.compStart (.GeneratorExp elt [⟨tgt, iter, ifs, 0⟩] scope gpos) 0 (.ref it) .none cenv))).setIfInBounds s2.gens.size .running := hy
            rcases Array.mem_or_eq_of_mem_setIfInBounds hy with z | z
            · exact (I2.bare.push (g := .fresh (.compStart (.GeneratorExp elt [⟨tgt, iter, ifs, 0⟩] scope gpos) 0 (.ref it) .none cenv)) rfl) y z
            · subst z; rfl
          have I5 : Inv X pins σ H5 (sg.setGen s2.gens.size .running) := by
            have z := GxR.inv_tab (more := more) (h' := h'.push go) (g' := (sg.setGen s2.gens.size .running).gens) (d' := s2.drawn) (t' := tk') I2 hPt kp hP5 bare5
            rw [hH5] at z
            rw [← hs5] at z ⊢
            exact z
          have unb : Un (frs X.stack) fp H2 H5 s2.heap (sg.setGen s2.gens.size .running).heap := by
            show Un (frs X.stack) fp H2 H5 s2.heap sg.heap
            rw [hgH]
            refine ⟨fun b o e n _ _ => kp b o (nP b n) e, fun b o e n _ _ => ⟨o.slots, kp b o (nP b n) e⟩, fun b o _ n _ => (u5 b (nP b n)).trans n, fun b o e _ => ?_, fun b xs e => (u5 b (nT b _ e fun q z => by cases z)).trans e, fun b o u e => (u5 b (nT b _ e fun q z => by cases z)).trans e, fun b qs e => ?_⟩
            · by_cases z : b = P
              · subst z; exact ⟨_, hP5⟩
              · exact ⟨o, kp b o z e⟩
            · by_cases z : b = P
              · subst z
                rw [hPt] at e; cases e
                exact ⟨more, p5⟩
              · exact ⟨#[], by rw [u5 b z, e]; simp⟩
          have hCf : H5 h3.objs.size = none := (u5 _ nPsz.symm).trans (I2.hok.fresh hsz)
          have A0 : X.A.in1.in1.handled = none := hhd
          have og := over_gen (elt := elt) (tgt := tgt) (iter := iter) (ifs := ifs) (scope := scope) (gpos := gpos) (it := .ref it) (acc := .none) (cenv := cenv) A0
          have I6 := gen_start (m0 := fun y => if y = ".0" then some (.ref it) else none) (C := h3.objs.size) (bi := builtinsNs) (code := code) (A' := X.A.in1.in1.over (.compLoop (.GeneratorExp elt [⟨tgt, iter, ifs, 0⟩] scope gpos) 0 (.ref it) .none cenv) []) I2 I5 ok hN hcell (fun b hb => ⟨f2 b hb, szfp b hb⟩) hsz
            (by show sg.heap.Ns _ _; rw [hgH]; exact hn'.push _) hCf unb rfl og.1 (by rw [hce]; exact og.2.2.2.1 X.stack I2.ok.frames)
          rw [hce] at I6
          have room : Rm k (X.A.in1.in1.over (.compLoop (.GeneratorExp elt [⟨tgt, iter, ifs, 0⟩] scope gpos) 0 (.ref it) .none cenv) []) := by
            refine ⟨⟨og.1, ?_, ?_⟩, og.2.2.2.2.trans hm0.g⟩
            · rw [og.2.1]
              have := hr.dp
              show X.A.depth + 1 + 3 * k + 5 < _
              omega
            · rw [og.2.2.1]
              have := hr.un
              show X.A.units + 1 + 1 + 3 + 16 * k + 200 < _
              omega
          have pgX := hpg s2 H2 h3.objs.size (cloFrom X.env.cells scope.names []) code builtinsNs fp (X.A.in1.in1.over (.compLoop (.GeneratorExp elt [⟨tgt, iter, ifs, 0⟩] scope gpos) 0 (.ref it) .none cenv) [])
          have ptX := hpt s2 H2 h3.objs.size (cloFrom X.env.cells scope.names []) code builtinsNs fp _ room
          have peX := hpe s2 H2 h3.objs.size (cloFrom X.env.cells scope.names []) code builtinsNs fp _ room
          rw [hce] at pgX ptX peX
          have hcoE : cenv.scope.isCoroutine = false := by rw [← hce]; exact hco
          have st5 : tn 0 (sg.setGen s2.gens.size .running).heap := T.keep _ _ _ st2 fun b hb o e => by
            show sg.heap.get? b = some o
            rw [hgH]
            exact kp b o (nP b (f2 b hb).1) e
          have nf5 : ∀ b ∈ fp, H5 b = none := fun b hb => (u5 b (nP b (f2 b hb).1)).trans (f2 b hb).1
          have loop := gen_loop (A := X.A.in1.in1) (elt := elt) (tgt := tgt) (iter := iter) (ifs := ifs) (scope := scope) (gpos := gpos) (cenv := cenv) (vs := own.map (·.2)) (s2 := s2) (H2 := H2) (σ := σ) (ρw := wipeR (own.map (·.2)) ρ1) (ρf := ρf) (G1 := G1) (H1 := H5) (res := res) hc hcoE hsub T hJ pgX ptX peX
            ds.length 0 (sg.setGen s2.gens.size .running) (sg.setGen s2.gens.size .running) (wipeR (own.map (·.2)) ρ1) G1 H5 (Nat.sub_zero _) (Nat.zero_le _) I6 st5 nf5 (Stp.refl _ _ _ _) ((sr1.pure ptab).wipe) bare_wipeR (by rw [List.drop_zero]; exact eL)
          -- back in the def
          have back : ∀ {H' G' : Hp} {s₁ : Shared}, GOk X (genX X s2 H2 cenv fp (X.A.in1.in1.over (.compLoop (.GeneratorExp elt [⟨tgt, iter, ifs, 0⟩] scope gpos) 0 (.ref it) .none cenv) [])) σ (own.map (·.2)) (wipeR (own.map (·.2)) ρ1) G1 H5 ρf G' H' s₁ →
              (∀ (h₁ : Heap) (gs' : GenState), gs'.bare = true → (∀ b o, s₁.heap.get? b = some o → h₁.get? b = some o) → Inv X pins σ H' { s₁.setGen s2.gens.size gs' with heap := h₁ }) ∧ Stp σ ρ G H σ (restR (own.map (·.2)) ρ1 ρf) G' H' ∧ SR X.K G' H' σ (restR (own.map (·.2)) ρ1 ρf) := fun {H' G' s₁} ⟨pins', Ig, stp, sr, br⟩ => by
            refine ⟨fun h₁ gs' hb hk => ?_, ?_, SR.rest stp.sub sr1 sr⟩
            · have hu : Un (frs X.stack) fp H2 H' s2.heap s₁.heap := Ig.base
              refine I2.call' (ch := fp) Ig.os (hu.trans (Un.kept hk)) (Ig.hok.kept hk) (fun y hy => ?_) fun b hb => ⟨(f2 b hb).2.2.2.1, (f2 b hb).2.1, (f2 b hb).2.2.2.2.1, (f2 b hb).2.2.2.2.2⟩
              have hy : y ∈ s₁.gens.setIfInBounds s2.gens.size gs' := hy
              rcases Array.mem_or_eq_of_mem_setIfInBounds hy with z | z
              · exact Ig.bare y z
              · subst z; exact hb
            · exact (stp1.trans ((ptab.stp (σ := σ) (ρ := ρ1)).trans (Stp.wipe io1))).trans (stp.trans (Stp.rest br))
          refine wpAny_bind (wpAny_pyNext_genexpQ (A := X.A.in1) (P := fun _ _ s₁ => res = none ∧ ∃ G' H', GOk X (genX X s2 H2 cenv fp (X.A.in1.in1.over (.compLoop (.GeneratorExp elt [⟨tgt, iter, ifs, 0⟩] scope gpos) 0 (.ref it) .none cenv) [])) σ (own.map (·.2)) (wipeR (own.map (·.2)) ρ1) G1 H5 ρf G' H' s₁) (Y := fun n s₀ v s₁ kap => ∃ d x G' H', res = some d ∧ RelV x v ∧ Rep X.K G' d x ∧ GOk X (genX X s2 H2 cenv fp (X.A.in1.in1.over (.compLoop (.GeneratorExp elt [⟨tgt, iter, ifs, 0⟩] scope gpos) 0 (.ref it) .none cenv) [])) σ (own.map (·.2)) (wipeR (own.map (·.2)) ρ1) G1 H5 ρf G' H' s₁) (n := 1) (g := s2.gens.size) hhd (by rw [hgH]; exact lim5) (by have := hr.dp; show X.A.depth < _; omega) (by rw [hgH]; exact hgen) hgs ⟨rfl, ?_⟩ (fun v s₁ gs' hb hy => ?_) (fun s₁ hp h₁ hk => ?_))
          · show Seg _ X.A.in1.in1 _ _ _ _ _ ((compStart (.GeneratorExp elt [⟨tgt, iter, ifs, 0⟩] scope gpos) 0 (.ref it) .none cenv).onRaise (leaving cenv)) [] _
            unfold compStart
            rw [Sem.onRaise_eq_wrap]
            show Seg _ X.A.in1.in1 _ _ _ _ _ ((ask >>= _).wrap _ _ _ _) [] _
            refine seg_bind_wrap (wpAny_askSetting ?_)
            split
            · exact seg_again rfl loop
            · first
                | exact seg_bind_wrap (wpAny_rule (seg_bind_wrap (wpAny_standAt (seg_bind_wrap (T.self _ 0 _ _ _ st5 (seg_again rfl loop))))))
                | (refine seg_bind_wrap (wpAny_rule ?_); show Seg _ X.A.in1.in1 _ _ _ _ _ ((standAt iter.pos >>= _).wrap _ _ _ _) [] _; exact seg_bind_wrap (wpAny_standAt (seg_bind_wrap (T.self _ 0 _ _ _ st5 (seg_again rfl loop)))))
          · obtain ⟨d, x, G', H', e, rv, rep, ok'⟩ := hy
            obtain ⟨b1, b2, b3⟩ := back ok'
            refine wpAny_pure ⟨_, rfl, x, H', b1 s₁.heap gs' hb fun _ _ e => e, rv, h x H' G' b2 b3 ?_⟩
            subst e
            exact rep
          · obtain ⟨e, G', H', ok'⟩ := hp
            obtain ⟨b1, b2, b3⟩ := back ok'
            refine wpAny_pure ⟨_, rfl, vd, H', b1 h₁ .finished rfl hk, rvd, h vd H' G' b2 b3 ?_⟩
            subst e
            exact hrep G'
        cases hf : codeAmong gpos ps.toList with
        | none =>
          refine wpAny_genexprCodeX hcode (cd.code hPs ht) (cd.tab hPs) hf fun c' h' tk hx hge hlt hco' _ htab' _ => ?_
          obtain ⟨o1, vs, f1, tf, fl, tg', inF, tx, tt, op, _, _, _, _, _, _, _, _, _, htr, _⟩ := hco'
          exact cont _ h' tk _ hx (Nat.le_trans hge (Nat.le_of_lt hlt)) htab'.2 ⟨_, rfl⟩ htr
        | some cv =>
          refine wpAny_genexprCode_hit hcode (cd.code hPs ht) hf ?_
          exact cont cv s2.heap s2.toks ps (Heap.ExtBut.refl _ _) (Nat.le_refl _) hPs ⟨#[], by simp⟩ ht
    · rw [if_neg io1] at h; exact h.elim
end
end M

namespace M
open PySem PySem.Spec PyProof.Rows L2

/-! ### a def as the head tells it -/
theorem funC_of {K : PySem.W.Frag} {x : Str} {st : Stmt} {fd : FuncData} (F : FunD K x x (defArgs st) (defBody st) (defScope st) [] [] (He.fAd K (x, none)) fd) : FunC K x x st (He.ga K x) fd (.ref (He.codeOf K (x, none))) := by
  obtain ⟨⟨oc, od, dV, kV, doc, pm, an, cdv, ct, osl, rfl, lk, hcd, hD, _⟩, kp⟩ := F
  obtain ⟨c, rfl⟩ := He.codeIn_ref hcd
  rw [He.codeOf_eq lk rfl]
  rcases hD with ⟨_, rfl⟩ | ⟨e, _⟩
  · exact ⟨⟨oc, od, kV, doc, pm, an, ct, osl, rfl, lk, hcd⟩, kp⟩
  · exact absurd rfl e
/-! ### names of the module -/
section
variable {X : Cx} [Tabs]
theorem de_gint {x : Str} {i : Int} {pos : Pos} (hg : Gl X x) (hm : ∃ t, X.mg x = some (.int i t)) (hd : (x == ("__debug__" : Str)) = false := by decide) : PE X (.Name x pos) (rd X.K (eC (.int i))) := by
  obtain ⟨t, hm⟩ := hm
  exact de_glob (v := .int i) hg hm ⟨t, rfl⟩ (fun G => rep_int i) hd
theorem de_gstr {x y : Str} {pos : Pos} (hg : Gl X x) (hm : ∃ t, X.mg x = some (.str y t)) (hd : (x == ("__debug__" : Str)) = false := by decide) : PE X (.Name x pos) (rd X.K (eC (.str y))) := by
  obtain ⟨t, hm⟩ := hm
  exact de_glob (v := .str y) hg hm ⟨t, rfl⟩ (fun G => rep_str y) hd
theorem de_ty {x : Str} {n : String} {pos : Pos} (hg : Gl X x) (hm : X.mg x = none) (hv : bootBuiltins x = some (.type n)) (hn : x ≠ "__name__" := by decide) (hd : (x == ("__debug__" : Str)) = false := by decide) : PE X (.Name x pos) (rd X.K (eC (.con (.ty n)))) :=
  de_bltn (v := .ty n) hg hm hv rfl hn hd
/-! name = [.. for ..] on one line -/
theorem ds_setLc (i : Nat) {y : Str} {py : Pos} {elt tg iter : Expr} {ifs : List Expr} {scope : Scope} {own : List (Str × Nat)} {pos spos : Pos} {fi : FI} {is : List Nat} {tgd : TgD} {ft : FT} {fe : FE} (hc : X.calm = true) (hN : X.N.Nodup) (hi : PI X tg iter (rdI X.K fi)) (ok : BlkOk X.N X.env.scope scope own) (hsub : ∀ i ∈ is, i ∈ own.map (·.2))
    (hg : ∀ (s : Shared) (H : Hp) (C : Addr) (cl : List (Str × Addr)) (fp : List Addr), PG (X.blk s H scope (compEnvC scope cl C X.env) fp) tg (rdG X.K is tgd)) (ht : ∀ (s : Shared) (H : Hp) (C : Addr) (cl : List (Str × Addr)) (fp : List Addr), PTs (X.blk s H scope (compEnvC scope cl C X.env) fp) ifs (rdT X.K ft))
    (he : ∀ (s : Shared) (H : Hp) (C : Addr) (cl : List (Str × Addr)) (fp : List Addr), PE (X.blk s H scope (compEnvC scope cl C X.env) fp) elt (rd X.K fe)) (hy : X.N[i]? = some y := by rfl) (hyl : X.env.scope.names.lookup y = some .local := by rfl) (hk : X.env.scope.kind = .function := by rfl) (hl : (py.line == pos.line) = true := by rfl)
    (ha : (scope.names.any fun (n, k) => n == y && (k == .local || k == .cell)) = false := by decide +kernel) (hs : ∀ x, foldedSetIterable iter X.env x = pure x := by intro _; rfl) :
    PS X (.Assign [.Name y py] (.ListComp elt [⟨tg, iter, ifs, 0⟩] scope pos) spos) (rdS X.K (sSet i (eFz (oLc fi tgd ft fe (own.map (·.2)))))) := by
  refine ps_imp (ps_setLc hc hN hy hyl (sw_true hk hyl hl ha) hi ok hg ht he hs) fun D σ H ⟨ρ, G, I, h⟩ => ?_
  have hd := de_ofO (X := X) (e := .ListComp elt [⟨tg, iter, ifs, 0⟩] scope pos) (do_lc hc hN hi ok hsub hg ht he hs)
  refine rd_lc hsub σ H (fun x H1 => gName i x σ H1 D.nx) ⟨ρ, G, I, ?_⟩
  unfold rdSK at h
  unfold sSet bndS eFz at h
  cases e : oLc fi tgd ft fe (own.map (·.2)) ρ with
  | ex _ _ => rw [e] at h; exact h
  | no => rw [e] at h; exact h
  | ok p =>
    obtain ⟨ds, ρ1⟩ := p
    rw [e] at h
    dsimp only [Rz.bind] at h
    intro p us H1 G1 s1 I1 e1 e2 e3 n r
    by_cases z : isIo ρ1 i = true
    · rw [if_pos z] at h; exact h.elim
    · rw [if_neg z] at h
      have ne : ∀ a, H a ≠ none → a ≠ p := fun a h z => h (by rw [z]; exact e1)
      have st : Stp σ ρ G H σ ρ1 (upd G1 p (.lst us)) H1 := ⟨fun a o z => by rw [upd_ne (ne_of_none (s1.sub a o z) e3)]; exact s1.sub a o z, fun a z z2 => by rw [upd_ne (ne a z)]; exact s1.new a z z2, s1.keep, s1.grow, s1.dom, s1.own, s1.ownN, s1.stay⟩
      exact h _ H1 (upd G1 p (.lst us)) (st.trans (Stp.set (by simpa using z))) ((I1.seen e2 e3 n).set (Rep.lst_new e3 r))
end
/-! ### the law's end -/
theorem sp_law {cs : List (Addr × Addr)} {L : List (Addr × Str)} (hL : ∀ p ∈ L, p.1 ∈ cs.map (·.2)) {K : PySem.W.Frag} {F : FD} {n : Nat} (hF : ∀ ns : List Int, ns.length ≤ n → (∀ z ∈ ns, Builtin.Int.intBits z ≤ 1048576) → ∃ m as', F m [.dat (.scr ns)] = some (.dat (.bl true), as')) (H : Hp) (a : Addr) (ns : List Int) (hl : ns.length ≤ n) (hz : ∀ z ∈ ns, Builtin.Int.intBits z ≤ 1048576)
    (hT : ∀ p ∈ cs, H p.2 = some (.tbl #[])) (hS : SqL K H a (ns.map V.int)) : @spI ⟨cs.map (·.2), L⟩ K 1 F [.ref a] H (fun v _ => v = .bl true) fun _ _ _ => False := by
  letI : Tabs := ⟨cs.map (·.2), L⟩
  obtain ⟨m, as', e⟩ := hF ns hl hz
  have hT2 : ∀ b, b ∈ cs.map (·.2) → H b = some (.tbl #[]) := fun b hb => by
    obtain ⟨p, hp, e⟩ := List.mem_map.mp hb
    rw [← e]; exact hT p hp
  let G : Hp := fun b => if b ∈ cs.map (·.2) then none else H b
  have hG : ∀ b o, H b = some o → (∀ ps, o ≠ .tbl ps) → G b = some o := fun b o e n => by
    show (if b ∈ cs.map (·.2) then none else H b) = _
    rw [if_neg fun z => by rw [hT2 b z] at e; cases e; exact n _ rfl]
    exact e
  have I : SR K G H ([V.ref a].map some) ([Sl.dat (.scr ns)].map some) := by
    refine ⟨fun P hP => ⟨⟨#[], hT2 P hP, trivial⟩, if_pos hP⟩, fun p hp => LamX.TabS.nil (hT2 p.1 (hL p hp)), rfl, fun b o e => ?_, fun i s o h1 h2 => ?_, fun i j io jo ds es b h1 h2 h3 h4 => ?_⟩
    · have e : (if b ∈ cs.map (·.2) then none else H b) = some o := e
      by_cases z : b ∈ cs.map (·.2)
      · rw [if_pos z] at e; cases e
      · rw [if_neg z] at e; exact e
    · cases i with
      | zero =>
        cases h1; cases h2
        refine ⟨_, rfl, ?_⟩
        simp only [Rep]
        refine ⟨a, rfl, ?_⟩
        rcases hS with (h | ⟨o, h⟩) | h
        · exact .inl (.inl (hG _ _ h fun _ z => by cases z))
        · exact .inl (.inr ⟨o, hG _ _ h fun _ z => by cases z⟩)
        · exact .inr h
      | succ i => simp at h1
    · cases i with
      | zero => cases h1
      | succ i => simp at h1
  refine ⟨m, G, [.dat (.scr ns)], .dat (.bl true), as', rfl, I, rfl, e, fun v H' G' _ _ r => ?_⟩
  simp only [RetR, Rep] at r
  exact r
section
open LamX
variable {P : Program} {w : World} {K : PySem.W.Frag} {mg mb : Str → Option Value} {k : Nat} {fa a : Addr} {cs : List (Addr × Addr)} {fd : FuncData} {x : Str} {sp : Sp} {t : Shared} {vs : List Value} {ns : List Int}
/-- what is tracked at a law's start: the tables, the script (where the written part does not hold it) -/
def lawH (K : PySem.W.Frag) (cs : List (Addr × Addr)) (a : Addr) (vs : List Value) (ns : List Int) : Hp := fun b =>
  if b ∈ cs.map (·.2) then some (.tbl #[]) else if b = a ∧ K.lookup a = none then some (.frz { cls := .type "list", data := .seq vs.toArray } (.lst (ns.map V.int))) else none
theorem law_callG (KX : K.In t.heap) (gl : t.heap.Ns mainGlobals mg) (bl : t.heap.Ns builtinsNs mb) (bb : ∀ y : Str, y ≠ "__name__" → mb y = bootBuiltins y) (lim : t.heap.NoLimit) (ge : t.gens = #[])
    (hT : ∀ p ∈ cs, t.heap.get? p.2 = some { cls := .none, data := .fields #[] }) (nT : ∀ p ∈ cs, K.lookup p.2 = none) (hC : ∀ p ∈ cs, PySem.W.CodeHd t.heap p.1 p.2)
    (hbm : ∃ (bm : Addr) (ob : Obj), mg "__builtins__" = some (.ref bm) ∧ bm ≠ builtinsNs ∧ t.heap.get? bm = some ob ∧ ob.cls = .type "module" ∧ ob.dict = some builtinsNs ∧ ob.data = .plain)
    (ha : t.heap.get? a = some { cls := .type "list", data := .seq vs.toArray }) (hi : IntsAre vs ns) (hl : ns.length ≤ sizeLine) (rm : Rm k callerA)
    (F : ∀ base : Heap, K.In base → base.Ns mainGlobals mg → (∀ p ∈ cs, LamX.TabB base mg p.1 p.2) → FnG P w K mg base k fa fd [x] sp) (hbind : ∀ (s : Shared) (u : Value), BindsTo s fd ⟨[u], []⟩ [(x, u)])
    (hsp : ∀ H : Hp, (∀ p ∈ cs, H p.2 = some (.tbl #[])) → SqL K H a (ns.map V.int) → sp [.ref a] H (fun v _ => v = .bl true) fun _ _ _ => False) :
    codeAny (model P w) callerA (.call (.ref fa) ⟨[.ref a], []⟩) (fun r u => r = .ok (.ret (.bool true)) ∧ OldK t.heap u.heap ∧ u.os = t.os ∧ AllBare u.gens) t := by
  have rv := vals_ints hi
  have tabAt : ∀ b, b ∈ cs.map (·.2) → t.heap.get? b = some { cls := .none, data := .fields #[] } := fun b hb => by
    obtain ⟨p, hp, rfl⟩ := List.mem_map.mp hb
    exact hT p hp
  have aNo : a ∉ cs.map (·.2) := fun z => by
    have q := tabAt a z
    rw [ha] at q
    injection q with q
    injection q with _ _ q
    cases q
  obtain ⟨H, eH⟩ : ∃ H, H = lawH K cs a vs ns := ⟨_, rfl⟩
  have hTab : ∀ b, b ∈ cs.map (·.2) → H b = some (.tbl #[]) := fun b hb => by rw [eH]; exact if_pos hb
  have hOut : ∀ b, b ∉ cs.map (·.2) → ¬ (b = a ∧ K.lookup a = none) → H b = none := fun b h1 h2 => by
    rw [eH]; exact (if_neg h1).trans (if_neg h2)
  have hA : K.lookup a = none → H a = some (.frz { cls := .type "list", data := .seq vs.toArray } (.lst (ns.map V.int))) := fun z => by
    rw [eH]; exact (if_neg aNo).trans (if_pos ⟨rfl, z⟩)
  have hAll : ∀ b u, H b = some u → (b ∈ cs.map (·.2) ∧ u = .tbl #[]) ∨ (b = a ∧ K.lookup a = none ∧ u = .frz { cls := .type "list", data := .seq vs.toArray } (.lst (ns.map V.int))) := fun b u e => by
    by_cases h1 : b ∈ cs.map (·.2)
    · rw [hTab b h1] at e; cases e; exact .inl ⟨h1, rfl⟩
    · by_cases h2 : b = a ∧ K.lookup a = none
      · obtain ⟨rfl, h2⟩ := h2
        rw [hA h2] at e; cases e; exact .inr ⟨rfl, h2, rfl⟩
      · rw [hOut b h1 h2] at e; cases e
  have hok : HOk P w H t.heap := fun b u e => by
    rcases hAll b u e with ⟨h1, rfl⟩ | ⟨rfl, _, rfl⟩
    · exact tabAt b h1
    · exact ⟨ha, by rw [List.length_map]; exact hl, vs, _, rv, ha⟩
  -- what is no table and no list is not tracked
  have still : ∀ {b : Addr} {o : Obj}, t.heap.get? b = some o → (∀ its n, o.data ≠ .seq its n) → o.data ≠ .fields #[] → H b = none := fun {b o} e n1 n2 => by
    cases q : H b with
    | none => rfl
    | some u =>
      rcases hAll b u q with ⟨h1, _⟩ | ⟨rfl, _, _⟩
      · rw [tabAt b h1] at e; cases e; exact (n2 rfl).elim
      · rw [ha] at e; cases e; exact (n1 _ _ rfl).elim
  have nsOk : ∀ {b : Addr} {m : Str → Option Value}, t.heap.Ns b m → (hidT t.heap H).Ns b m := fun {b m} ⟨o, es, ep, e, d, rest⟩ =>
    ⟨o, es, ep, hidT_get e (still e (fun its n z => by rw [d] at z; cases z) fun z => by rw [d] at z; cases z), d, rest⟩
  have kin : K.In (hidT t.heap H) := fun b o e => hidT_get (KX b o e) (by
    cases q : H b with
    | none => rfl
    | some u =>
      rcases hAll b u q with ⟨h1, _⟩ | ⟨rfl, h2, _⟩
      · obtain ⟨p, hp, rfl⟩ := List.mem_map.mp h1
        rw [nT p hp] at e; cases e
      · rw [h2] at e; cases e)
  have md : L2.Mod K mg (hidT t.heap H) := ⟨kin, nsOk gl, ⟨mb, nsOk bl, bb⟩, by
    obtain ⟨mc, h1, h2⟩ := lim
    exact ⟨mc, nsOk h1, h2⟩⟩
  have tbs : ∀ p ∈ cs, LamX.TabB (hidT t.heap H) mg p.1 p.2 := fun p hp => by
    have hTp := hT p hp
    refine ⟨?_, ?_, fun z => ?_⟩
    · obtain ⟨o, us, fl, tf, fg, tg, iF, tx, tt, c1, c2, c3, c4, c5, c6, c7, c8, c9, ne⟩ := hC p hp
      exact ⟨o, us, fl, tf, fg, tg, iF, tx, tt, hidT_get c1 (still c1 (fun its n z => by rw [c3] at z; cases z) fun z => by rw [c3] at z; cases z; simp at c4), c2, c3, c4, c5, c6, c7, c8, c9, ne⟩
    · obtain ⟨bm, ob, b1, b2, b3, b4, b5, b6⟩ := hbm
      refine ⟨bm, ob, b1, b2, fun q => ?_, fun q => ?_, hidT_get b3 (still b3 (fun its n z => by rw [b6] at z; cases z) fun z => by rw [b6] at z; cases z), b4, b5, b6⟩
      · obtain ⟨o, es, ep, e, d, _⟩ := gl
        subst q
        rw [e] at b3; cases b3
        rw [d] at b6; cases b6
      · rw [q, hTp] at b3; cases b3; cases b6
    · obtain ⟨o, es, ep, e, d, _⟩ := gl
      rw [z, hTp] at e; cases e; cases d
  have hS : SqL K H a (ns.map V.int) := by
    cases q : K.lookup a with
    | none => exact .inl (.inr ⟨_, hA q⟩)
    | some o =>
      have e := KX a o q
      rw [ha] at e; cases e
      exact .inr ⟨_, vs.toArray, _, q, rfl, rfl, rfl, by rw [List.size_toArray, hi.length]; exact hl, by simpa using rv⟩
  have env : Env0 P w K mg (hidT t.heap H) callerA [] t H := ⟨rfl, md, fun b o e => of_hidT e, Nat.le_of_eq (hidT_size _ _), trivial, fun b hb => (nomatch hb), hok, .of_eq ge⟩
  refine codeAny_mono ((F _ kin (nsOk gl) tbs).go callerA [] t H ⟨[.ref a], []⟩ [.ref a] [.ref a] _ _ rm env (hbind t (.ref a)) (.cons rfl .nil) (hsp H (fun p hp => hTab _ (List.mem_map.mpr ⟨p, hp, rfl⟩)) hS)) fun r u z => ?_
  match r, z with
  | .error _, z => exact z.elim
  | .ok .next, z => exact z.elim
  | .ok .brk, z => exact z.elim
  | .ok .cont, z => exact z.elim
  | .ok (.ret v), ⟨y, H', os, bare, un, hok', rvl, ey⟩ =>
    have ey : y = .bl true := ey
    subst ey
    have evl : v = Value.bool true := rvl
    subst evl
    have kept : ∀ b o, b ∉ cs.map (·.2) → t.heap.get? b = some o → u.heap.get? b = some o := fun b o nb e => by
      cases q : H b with
      | none => exact un.keep b o e q (fun z => nomatch z) (fun z => nomatch z)
      | some h0 =>
        rcases hAll b h0 q with ⟨h1, _⟩ | ⟨rfl, _, rfl⟩
        · exact (nb h1).elim
        · rw [ha] at e; cases e
          exact (hok' b _ (un.frzs b _ _ q)).1
    have more : ∀ p ∈ cs, ∃ us : Array Value, u.heap.get? p.2 = some { cls := .none, data := .fields us } := fun p hp => by
      obtain ⟨us, z⟩ := un.tbls p.2 #[] (hTab _ (List.mem_map.mpr ⟨p, hp, rfl⟩))
      exact ⟨_, hok' p.2 _ z⟩
    refine ⟨rfl, ⟨fun b o e => ?_, fun b o e => ?_⟩, os, bare⟩
    · by_cases hb : b ∈ cs.map (·.2)
      · obtain ⟨p, hp, rfl⟩ := List.mem_map.mp hb
        obtain ⟨us, hu⟩ := more p hp
        rw [hT p hp] at e; cases e
        exact .inr (.inl ⟨((hC p hp).tab (hT p hp)).isCodeTable, rfl, #[], us, rfl, by rw [Array.empty_append]; exact hu⟩)
      · exact .inl (kept b o hb e)
    · by_cases hb : b ∈ cs.map (·.2)
      · obtain ⟨p, hp, rfl⟩ := List.mem_map.mp hb
        obtain ⟨us, hu⟩ := more p hp
        exact ⟨_, hu⟩
      · exact ⟨o, kept b o hb e⟩
/-- what is known of the law's promise at the head's heap -/
def LawAtG (l : PySem.W.OpenLaw) (w : World) (K : PySem.W.Frag) (k n : Nat) (x : Str) (mg : Str → Option Value) (fa : Addr) (h : Heap) : Prop :=
  ∃ (fd : FuncData) (cs : List (Addr × Addr)) (sp : Sp), (∀ p ∈ cs, h.get? p.2 = some { cls := .none, data := .fields #[] }) ∧ (∀ p ∈ cs, K.lookup p.2 = none) ∧ (∀ p ∈ cs, PySem.W.CodeHd h p.1 p.2) ∧ (∀ (s : Shared) (u : Value), BindsTo s fd ⟨[u], []⟩ [(x, u)]) ∧
    (∀ (H : Hp) (a : Addr) (ns : List Int), ns.length ≤ n → (∀ z ∈ ns, Builtin.Int.intBits z ≤ 1048576) → (∀ p ∈ cs, H p.2 = some (.tbl #[])) → SqL K H a (ns.map V.int) → sp [.ref a] H (fun v _ => v = .bl true) fun _ _ _ => False) ∧
    ∀ base : Heap, K.In base → base.Ns mainGlobals mg → (∀ p ∈ cs, LamX.TabB base mg p.1 p.2) → FnG l.prog w K mg base k fa fd [x] sp
theorem walk_G {l : PySem.W.OpenLaw} {n k : Nat} {q : Program} {loose : List Str} {XP : (Str → Option Value) → Heap → Prop} {YP : World → Heap → Prop} {d : DefRec} {x : Str} (hn : l.most = some n) (hn2 : n ≤ sizeLine) (hdf : d.params.defaults = []) (rm : Rm k callerA)
    (F : ∀ (w : World) (mg : Str → Option Value) (fa : Addr) (h : Heap), YP w h → h.Ns mainGlobals mg → mg d.name = some (.ref fa) → ∃ K : PySem.W.Frag, K.In h ∧ LawAtG l w K k n x mg fa h) :
    PySem.W.WalkO q loose XP YP l.row.toRowW d [] (fun f vs => PySem.call f vs) := by
  refine Att.attach_callB hn hdf fun w s₀ s₁ mg mb fa o pm cd doc a vs ns G Y _ _ _ hmg hobj hints hlen hbits hg => ?_
  obtain ⟨K, KX, fd, cs, sp, h1, h2, h3, h4, h5, h6⟩ := F w mg fa _ Y G.T.g hmg
  exact law_callG KX G.T.g G.T.b G.T.builtins G.T.nolimit hg h1 h2 h3 G.T.bmain hobj hints (Nat.le_trans hlen hn2) rm h6 h4 fun H hH hS => h5 H a ns hlen hbits hH hS
end
theorem tabB_of {base : Heap} {mg : Str → Option Value} {c P : Addr} (h : LamX.TabB base mg c P) : GxR.TabB base mg c P := ⟨h.code, h.bm, h.gP⟩
end M

namespace M
open PySem PySem.Spec PyProof.Rows L2
variable [Tabs]
/-! ### name op= e, the operators -/
section
variable {X : Cx} {K : PySem.W.Frag}
def addI : D → D → Option D | .int i, .int j => some (.int (i + j)) | _, _ => none
theorem ipd_add : IpD K (ipI fun i j => i + j) addI := by
  intro G H d1 d2 d v1 v2 Q s r1 r2 e q
  unfold addI at e
  split at e
  · simp only [Rep] at r1 r2; subst r1 r2; cases e
    exact ⟨_, _, rfl, rfl, q _ H G (PStp.refl s) (rep_int _)⟩
  · cases e
theorem ipd_sub : IpD K (ipI fun i j => i - j) subD := by
  intro G H d1 d2 d v1 v2 Q s r1 r2 e q
  unfold subD at e
  split at e
  · simp only [Rep] at r1 r2; subst r1 r2; cases e
    exact ⟨_, _, rfl, rfl, q _ H G (PStp.refl s) (rep_int _)⟩
  · cases e
theorem ip_fdiv : PIp X .FloorDiv (rI CDivW fun i j => .int (i / j)) := by
  intro pins s σ H x y v u Q I r1 r2 h
  obtain ⟨i, j, e1, e2, hc, q⟩ := h
  subst e1; subst e2
  obtain ⟨t, rfl⟩ := r1
  obtain ⟨t', rfl⟩ := r2
  have h1 : (0 : Int) < j := hc.1
  exact PyProof.Rows.ifloordiv_int (by omega) ⟨.int _, H, I.tok _, ⟨_, rfl⟩, by rw [Int.fdiv_eq_ediv_of_nonneg i (by omega)]; exact q⟩ (.inl (PyProof.noPylong_of_log2 hc.2))
theorem ipd_fdiv : IpD K (rI CDivW fun i j => .int (i / j)) fdivD := od_fdiv
theorem ip_mul : PIp X .Mult (rI CMul fun i j => .int (i * j)) := by
  intro pins s σ H x y v u Q I r1 r2 h
  obtain ⟨i, j, e1, e2, hc, q⟩ := h
  subst e1; subst e2
  obtain ⟨t, rfl⟩ := r1
  obtain ⟨t', rfl⟩ := r2
  exact PySem.P.imul_int ⟨.int _, H, I.tok _, ⟨_, rfl⟩, q⟩ hc.ok
theorem ipd_mul : IpD K (rI CMul fun i j => .int (i * j)) mulD := od_mul
theorem hu64 {A : Around} {k : Nat} (hr : Rm k A) : A.units + 64 < cLine := by have := hr.r.un; omega
theorem hu2 {A : Around} {k : Nat} (hr : Rm k A) : A.units + 2 < cLine := by have := hr.r.un; omega
end
end M

namespace M
open PySem PySem.Spec PyProof.Rows L2

/-! ### plain laws: what the functions answer -/
theorem runB_rt {g : FS} {L np : Nat} {as : M.Args} {s : Sl} {ρ : Rho} (hl : as.length = np) (h : g (startR L as) = .ok (.rt s, ρ)) : runB g L np as = some (s, ends as ρ) := by
  unfold runB
  rw [if_pos hl, frcA_eq]
  rw [h]
  simp only [frcA_eq, frcT_eq]
theorem runB_nx {g : FS} {L np : Nat} {as : M.Args} {ρ : Rho} (hl : as.length = np) (h : g (startR L as) = .ok (.nx, ρ)) : runB g L np as = some (.dat .non, ends as ρ) := by
  unfold runB
  rw [if_pos hl, frcA_eq]
  rw [h]
  simp only [frcA_eq, frcT_eq]
theorem small_mod (x m : Int) (h : 0 < m) (h2 : m < 2 ^ 64) : small (x % m) = true := by
  have a := Int.emod_nonneg x (by omega : m ≠ 0)
  have b := Int.emod_lt_of_pos x h
  rw [small_iff]
  omega
theorem e2_C {op : D → D → Option D} {a b d : D} (h : op a b = some d) : e2 op (eC a) (eC b) = eC d := by
  funext ρ
  simp only [e2, bnd, eC, Rz.bind, ofO, h, frc_eq]
theorem powD_of {i j : Int} (h : 0 ≤ j ∧ (Builtin.Int.intBits i : Int) * j ≤ 2 ^ 27) : powD (.int i) (.int j) = some (.int (i ^ j.toNat)) := if_pos h
theorem pw1 : powD (.int 10) (.int 60) = some (.int (10 ^ (60 : Int).toNat)) := powD_of (by decide +kernel)
theorem pw2 : powD (.int (10 ^ (60 : Int).toNat)) (.int 9) = some (.int ((10 ^ (60 : Int).toNat) ^ (9 : Int).toNat)) := powD_of (by decide +kernel)
theorem pw3 : powD (.int 10) (.int 18) = some (.int (10 ^ (18 : Int).toNat)) := powD_of (by decide +kernel)
/-! sequences -/
theorem seq_nx {ga gb : FS} {ρ ρ1 : Rho} (h : ga ρ = .ok (.nx, ρ1)) : sSeq ga gb ρ = gb ρ1 := by simp only [sSeq, h, Rz.bind]
theorem seq_rt {ga gb : FS} {ρ ρ1 : Rho} {s : Sl} (h : ga ρ = .ok (.rt s, ρ1)) : sSeq ga gb ρ = .ok (.rt s, ρ1) := by simp only [sSeq, h, Rz.bind]
/-! calls -/
def allDat : List Ar → Bool | [] => true | .d _ :: xs => allDat xs | .o _ :: _ => false
theorem allDat_find : ∀ {xs : List Ar} (i : Nat), allDat xs = true → xs.findIdx? (isO i) = none
  | [], i, _ => rfl
  | .d d :: xs, i, h => by
    rw [List.findIdx?_cons]
    simp only [isO, Bool.false_eq_true, if_false]
    rw [allDat_find (xs := xs) i h]; rfl
  | .o _ :: _, i, h => by cases h
theorem allDat_get : ∀ {xs : List Ar} {k : Nat} {x : Ar}, allDat xs = true → xs[k]? = some x → ∃ d, x = .d d
  | [], k, x, _, q => by simp at q
  | .o _ :: _, k, x, h, q => by cases h
  | .d d :: xs, 0, x, h, q => by simp at q; exact ⟨d, q.symm⟩
  | .d d :: xs, k + 1, x, h, q => allDat_get (xs := xs) h (by simpa using q)
theorem backO_d {xs : List Ar} {as' : M.Args} {ρ : Rho} (h : allDat xs = true) : backO xs as' ρ = ρ := by
  apply List.ext_getElem?
  intro i
  unfold backO
  rw [List.getElem?_mapIdx]
  cases q : ρ[i]? with
  | none => rfl
  | some s =>
    simp only [Option.map_some]
    match s with
    | none => rfl
    | some (.dat d) => rfl
    | some (.own io ds) => simp only [allDat_find i h]
theorem onceO_d {xs : List Ar} (h : allDat xs = true) : onceO xs = true := by
  unfold onceO
  rw [List.all_eq_true]
  intro k _
  cases q : xs[k]? with
  | none => rfl
  | some x =>
    obtain ⟨d, rfl⟩ := allDat_get h q
    rfl
theorem argsOf_d {ρ : Rho} : ∀ (ds : List D), argsOf ρ (ds.map Ar.d) = some (ds.map Sl.dat)
  | [] => rfl
  | d :: ds => by
    show (argsOf ρ (ds.map Ar.d)).map _ = _
    rw [argsOf_d ds]; rfl
theorem allDat_map : ∀ ds : List D, allDat (ds.map Ar.d) = true
  | [] => rfl
  | _ :: ds => allDat_map ds
theorem call_d {F : FD} {n : Nat} {fr : FAr} {ρ ρ1 : Rho} {ds : List D} {d : D} {as' : M.Args} (h : fr ρ = .ok (ds.map Ar.d, ρ1)) (hF : F n (ds.map Sl.dat) = some (.dat d, as')) : eCall F n fr ρ = .ok (d, ρ1) := by
  simp only [eCall, h, Rz.bind, callD, onceO_d (allDat_map ds), if_true, argsOf_d, hF, backO_d (allDat_map ds)]
theorem call_do {F : FD} {n : Nat} {fr : FAr} {ρ ρ1 : Rho} {ds es : List D} {as' : M.Args} (h : fr ρ = .ok (ds.map Ar.d, ρ1)) (hF : F n (ds.map Sl.dat) = some (.own false es, as')) : oCall F n fr ρ = .ok (es, ρ1) := by
  simp only [oCall, h, Rz.bind, callO, onceO_d (allDat_map ds), if_true, argsOf_d, hF, backO_d (allDat_map ds)]
theorem onceO_o1 {j : Nat} {ds : List D} : onceO (.o j :: ds.map Ar.d) = true := by
  unfold onceO
  rw [List.all_eq_true]
  intro k _
  cases k with
  | zero => simp [isO, List.findIdx?_cons]
  | succ k =>
    rw [List.getElem?_cons_succ, List.getElem?_map]
    cases ds[k]? <;> rfl
theorem backO_o1 {j : Nat} {ds es es' : List D} {as' : M.Args} {io : Bool} {ρ : Rho} (h : ownL ρ j = some (io, es)) : backO (.o j :: ds.map Ar.d) (.own true es' :: as') ρ = ρ.set j (some (.own io es')) := by
  letI : Tabs := ⟨[], []⟩
  have h1 := ownL_eq h
  apply List.ext_getElem?
  intro i
  unfold backO
  rw [List.getElem?_mapIdx]
  by_cases e : j = i
  · subst e
    rw [h1, List.getElem?_set_self (List.getElem?_eq_some_iff.mp h1).1]
    simp [isO, List.findIdx?_cons]
  · rw [List.getElem?_set_ne e]
    cases q : ρ[i]? with
    | none => rfl
    | some s =>
      simp only [Option.map_some]
      match s with
      | none => rfl
      | some (.dat d) => rfl
      | some (.own io ds') =>
        have z : (Ar.o j :: ds.map Ar.d).findIdx? (isO i) = none := by
          rw [List.findIdx?_cons]
          have : isO i (.o j) = false := by simp [isO, e]
          rw [this]
          simp only [Bool.false_eq_true, if_false]
          rw [allDat_find i (allDat_map ds)]; rfl
        simp only [z]
/-- f(x, ..): x one's own, handed in -/
theorem call_o1 {F : FD} {n j : Nat} {fr : FAr} {ρ : Rho} {ds es es' : List D} {d : D} {io : Bool} {as' : M.Args} (ho : ownL ρ j = some (io, es)) (h : fr ρ = .ok (.o j :: ds.map Ar.d, ρ)) (hF : F n (.own true es :: ds.map Sl.dat) = some (.dat d, .own true es' :: as')) : eCall F n fr ρ = .ok (d, ρ.set j (some (.own io es'))) := by
  simp only [eCall, h, Rz.bind, callD, onceO_o1, if_true, argsOf, ho, argsOf_d, Option.map_some, hF, backO_o1 ho]
/-! for -/
theorem forL_nx {tg : TgD} {body : FS} (J : Rho → Prop) : ∀ (ds : List D), (∀ d ∈ ds, ∀ ρ, J ρ → ∃ ρ1 ρ2, tg d ρ = some ρ1 ∧ body ρ1 = .ok (.nx, ρ2) ∧ J ρ2) → ∀ ρ, J ρ → ∃ ρ', forL tg body ds ρ = .ok (.nx, ρ') ∧ J ρ'
  | [], _, ρ, j => ⟨ρ, rfl, j⟩
  | d :: ds, h, ρ, j => by
    obtain ⟨ρ1, ρ2, e1, e2, j2⟩ := h d List.mem_cons_self ρ j
    obtain ⟨ρ', e3, j3⟩ := forL_nx J ds (fun d hd => h d (List.mem_cons_of_mem _ hd)) ρ2 j2
    refine ⟨ρ', ?_, j3⟩
    unfold forL
    rw [frc_eq, nrmR_eq, e1]
    simp only [e2, Rz.bind]
    exact e3
theorem rgD_mem {lo : Int} {n : Nat} {d : D} (h : d ∈ rgD lo n) : ∃ k : Nat, k < n ∧ d = .int (lo + k) := by
  unfold rgD at h
  obtain ⟨k, hk, e⟩ := List.mem_map.mp h
  exact ⟨k, List.mem_range.mp hk, e.symm⟩
/-- an answer, as a Bool -/
def isT : Option (Sl × M.Args) → Bool | some (.dat (.bl true), _) => true | _ => false
theorem isT_of {o : Option (Sl × M.Args)} (h : isT o = true) : ∃ as', o = some (.dat (.bl true), as') := by
  unfold isT at h
  split at h
  · exact ⟨_, rfl⟩
  · cases h
def isI (i : Int) : Option (Sl × M.Args) → Bool | some (.dat (.int j), _) => j == i | _ => false
theorem isI_of {i : Int} {o : Option (Sl × M.Args)} (h : isI i o = true) : ∃ as', o = some (.dat (.int i), as') := by
  unfold isI at h
  split at h
  · rename_i j as'
    have : j = i := by simpa using h
    subst this
    exact ⟨_, rfl⟩
  · cases h
end M

namespace M
open PySem PySem.Spec PyProof.Rows L2
variable [Tabs]

/-! ### repr of plain data -/
def showD (d : PyData) : Bool := PyProof.Rows.isDisplay d && d.showable && !d.hasDict && Nat.ble d.depth 64 && Nat.ble d.shown.length sizeLine
def showOk : PyData → Bool
  | .int i => Nat.blt i.natAbs.log2 1920
  | .list ds => showD (.list ds)
  | .tuple ds => showD (.tuple ds)
  | _ => false
def reprD : List D → Option D
  | [d] => if plain d = true ∧ showOk (pd d) = true then some (.str (pd d).shown) else none
  | _ => none
section
variable {X : Cx}
def rReprD (K : PySem.W.Frag) : List V → Hp → VK → Prop := fun vs H Q => ∃ v d, vs = [v] ∧ Dp K H v d ∧ showOk d = true ∧ Q (.str d.shown) H
theorem cr_repr (hg : X.A.guards = some []) (hu : X.A.units + 66 < cLine) : CallR X (.builtin "repr") (rReprD X.K) := by
  intro pins s σ H xs us Q I r h
  obtain ⟨v, d, rfl, hd, ok, q⟩ := h
  obtain ⟨u, rfl, ru⟩ := vals1 r
  obtain ⟨as, rd⟩ := Dp.reads I d v u hd ru
  have disp : showD d = true → wpAny (model X.prog X.w) X.A (call (.builtin "repr") [u]) (EP X pins σ Q) X.xe s := fun ok => by
    simp only [showD, Bool.and_eq_true, Nat.ble_eq, Bool.not_eq_true'] at ok
    obtain ⟨⟨⟨⟨o1, o2⟩, o3⟩, o4⟩, o5⟩ := ok
    obtain ⟨a, rfl⟩ := isRef_of_reads rd o1
    exact repr_of_reads' rd o2 (PyData.noDict_hsm o3) hg (by omega) (fun _ _ e => e) (fun h' u tk hk => ⟨.str _, H, I.kept hk, ⟨u, rfl⟩, q⟩) o5
  match d, hd, ok, q, disp with
  | .int i, hd, ok, q, _ =>
    cases hd
    obtain ⟨t, rfl⟩ := ru
    exact PySem.P.repr_of_int (by simpa [showOk, Nat.blt, Nat.succ_le_iff] using ok) ⟨.str _, H, I.tok _, ⟨_, rfl⟩, q⟩
  | .list _, _, ok, _, f => exact f ok
  | .tuple _, _, ok, _, f => exact f ok
  | .none, _, ok, _, _ => cases ok
  | .bool _, _, ok, _, _ => cases ok
  | .str _, _, ok, _, _ => cases ok
  | .dict _, _, ok, _, _ => cases ok
theorem cd_repr {K : PySem.W.Frag} : CallD K (rReprD K) reprD := by
  intro G H ds d vs Q s r e q
  unfold reprD at e
  split at e
  · rename_i d0
    split at e
    · rename_i c
      obtain ⟨v, rfl, r1⟩ := reps1 r
      cases e
      exact ⟨v, pd d0, rfl, dp_of d0 v (Rep.mono s _ _ r1) c.1, c.2, q _ H G (PStp.refl s) (rep_str _)⟩
    · cases e
  · cases e
end

/-! ### == that takes any two texts -/
def eqS (d e : D) : Option D := match d, e with | .str a, .str b => some (.bl (a == b)) | d, e => eqD d e
def neS (d e : D) : Option D := match d, e with | .str a, .str b => some (.bl (!(a == b))) | d, e => neD d e
section
variable {X : Cx}
def rEqS (K : PySem.W.Frag) : R2 := fun x y H Q => rEq x y H Q ∨ rEqD K x y H Q
def rNeS (K : PySem.W.Frag) : R2 := fun x y H Q => rNe x y H Q ∨ rNeD K x y H Q
theorem op_eqS (hu : X.A.units + 64 < cLine) : OpR X (compareOp .Eq) (rEqS X.K) := OpR.or op_eq (op_eqD hu)
theorem op_neS (hu : X.A.units + 64 < cLine) : OpR X (compareOp .NotEq) (rNeS X.K) := OpR.or op_ne (op_neD hu)
theorem od_eqS {K : PySem.W.Frag} : OpD K (rEqS K) eqS := by
  intro G H d1 d2 d v1 v2 Q s r1 r2 e q
  unfold eqS at e
  split at e
  · simp only [Rep] at r1 r2
    subst r1; subst r2
    cases e
    exact .inl ⟨rfl, by rw [dec_str]; exact q _ H G (PStp.refl s) (rep_bl _)⟩
  · exact .inr (od_eq G H d1 d2 d v1 v2 Q s r1 r2 e q)
theorem od_neS {K : PySem.W.Frag} : OpD K (rNeS K) neS := by
  intro G H d1 d2 d v1 v2 Q s r1 r2 e q
  unfold neS at e
  split at e
  · simp only [Rep] at r1 r2
    subst r1; subst r2
    cases e
    exact .inl ⟨rfl, by rw [dec_str]; exact q _ H G (PStp.refl s) (rep_bl _)⟩
  · exact .inr (od_ne G H d1 d2 d v1 v2 Q s r1 r2 e q)
end

/-! ### x in range(..) -/
def inRgD (d : D) (ds : List D) : Option D := match d with
  | .int i => match rgPr ds with | some (a, b) => some (.bl (!iLt i a && iLt i b)) | none => none
  | _ => none
def eInRg (fa : FE) (fs : FA) : FE := bnd fa fun x => bndA fs fun ds => fun ρ => ofO (inRgD x ds) ρ
section
variable {X : Cx} {a : Expr} {es : List Expr} {fa : FE} {fs : FA} {pos p rpos : Pos}
def rRng : List V → Hp → VK → Prop := fun vs H Q => (∃ j, vs = [V.int j] ∧ ∀ p, H p = none → Q (.ref p) (upd H p (.rng 0 j))) ∨ ∃ i j, vs = [V.int i, V.int j] ∧ ∀ p, H p = none → Q (.ref p) (upd H p (.rng i j))
theorem cr_rng : CallR X (.type "range") rRng := by
  intro pins s σ H vs us Q I r h
  rcases h with ⟨j, rfl, q⟩ | ⟨i, j, rfl, q⟩
  · obtain ⟨u, rfl, t, rfl⟩ := vals1 r
    refine call_range_1 ⟨.ref s.heap.objs.size, upd H s.heap.objs.size (.rng 0 j), I.laid (t' := s.toks + 1 + 1) (fun b o e => Heap.get?_push_of_some _ e) (Nat.le_refl _) ?_, rfl, q _ (I.hok.fresh (Nat.le_refl _))⟩
    exact ⟨s.toks, t, s.toks + 1, Heap.get?_push_size _ rfl⟩
  · exact cr_range2 pins s σ H _ us Q I r ⟨i, j, rfl, q⟩
theorem rRng_of {K : PySem.W.Frag} {G H : Hp} {ds : List D} {vs : List V} {Q : VK} {i j : Int} (r : Reps K G ds vs) (e : rgPr ds = some (i, j)) (q : ∀ p, H p = none → Q (.ref p) (upd H p (.rng i j))) : rRng vs H Q := by
  unfold rgPr at e
  split at e
  · cases e
    obtain ⟨v, rfl, r1⟩ := reps1 r
    simp only [Rep] at r1
    subst r1
    exact .inl ⟨_, rfl, q⟩
  · cases e
    obtain ⟨v, u, rfl, r1, r2⟩ := reps2 r
    simp only [Rep] at r1 r2
    subst r1; subst r2
    exact .inr ⟨_, _, rfl, q⟩
  · cases e
def rInR : R2 := fun x y H Q => ∃ i a lo hi, x = V.int i ∧ y = V.ref a ∧ H a = some (.rng lo hi) ∧ Q (.bl (decide (lo ≤ i ∧ i < hi))) H
theorem rd_inRg (σ : L2.St) (H : Hp) (Q : VK) (h : rd X.K (eInRg fa fs) σ H Q) : tOp rInR (rd X.K fa) (tCB rRng (rdA X.K fs)) σ H Q := by
  obtain ⟨ρ, G, I, h⟩ := h
  refine rd_of I (rdK_mono (rdK_bnd h) fun v H1 ⟨d1, ρ1, G1, s1, I1, r1, h1⟩ => ?_)
  refine rdA_of I1 (rdAK_mono (rdK_bndA h1) fun vs H2 ⟨ds, ρ2, G2, s2, I2, r2, h2⟩ => ?_)
  obtain ⟨d, e, q⟩ := rdK_ofO h2 I2
  unfold inRgD at e
  cases d1 with
  | int i =>
    dsimp only at e
    cases e3 : rgPr ds with
    | none => rw [e3] at e; cases e
    | some c =>
      obtain ⟨lo, hi⟩ := c
      rw [e3] at e; cases e
      simp only [Rep] at r1
      subst r1
      refine rRng_of r2 e3 fun p hp => ⟨i, p, lo, hi, rfl, rfl, upd_same, ?_⟩
      have eq : decide (lo ≤ i ∧ i < hi) = (!iLt i lo && iLt i hi) := by
        rw [not_iLt, iLt_eq, Bool.decide_and]
      rw [eq]
      exact q _ _ _ (PStp.laid I2.sub hp) (rep_bl _)
  | _ => cases e
theorem de_inRg {e1 : Expr} {es : List Expr} (ha : PE X a (rd X.K fa)) (hg : Gl X "range") (hm : X.mg "range" = none) (hs : PA X (e1 :: es) (rdA X.K fs)) (hmk : behindInMarks .In (.Call (.Name "range" p) (e1 :: es) [] rpos) = false)
    (he : starEach (e1 :: es) X.env = (false, eval e1 X.env) :: starEach es X.env := by rfl) (hpl : (backTo rpos (starEach es X.env)).any (·.1) = false := by rfl) :
    PE X (.Compare a [.In] [.Call (.Name "range" p) (e1 :: es) [] rpos] pos) (rd X.K (eInRg fa fs)) :=
  pe_imp (pe_cmpR op_in_rng ha (pe_callTy cr_rng hg hm (by decide +kernel) hs (by decide) (by decide) he hpl) hmk) rd_inRg
theorem dt_inRg {e1 : Expr} {es : List Expr} (ha : PE X a (rd X.K fa)) (hg : Gl X "range") (hm : X.mg "range" = none) (hs : PA X (e1 :: es) (rdA X.K fs)) (hmk : behindInMarks .In (.Call (.Name "range" p) (e1 :: es) [] rpos) = false)
    (he : starEach (e1 :: es) X.env = (false, eval e1 X.env) :: starEach es X.env := by rfl) (hpl : (backTo rpos (starEach es X.env)).any (·.1) = false := by rfl) :
    PT X (.Compare a [.In] [.Call (.Name "range" p) (e1 :: es) [] rpos] pos) (rdT X.K (M.tB (eInRg fa fs))) :=
  pt_imp (pt_cmpR op_in_rng ha (pe_callTy cr_rng hg hm (by decide +kernel) hs (by decide) (by decide) he hpl) hmk) fun σ H Q h => rd_inRg _ _ _ (rd_B _ _ _ h)
end

/-! ### list(x) as a new list of one's own -/
def oLstOf (fa : FE) : FA := fun ρ => (fa ρ).bind fun p => match lstD [p.1] with | some (.lst ds) => .ok (ds, p.2) | _ => .no
section
variable {X : Cx} {a : Expr} {fa : FE} {pos p : Pos}
theorem lstD_seq {K : PySem.W.Frag} {G H : Hp} {d : D} {ds : List D} {v : V} (s : Same G H) (r : Rep K G d v) (e : lstD [d] = some (.lst ds)) : ∃ a ys, v = .ref a ∧ (SqL K H a ys ∨ SqT K H a ys) ∧ Reps K G ds ys := by
  unfold lstD at e
  split at e
  · rename_i h
    cases h; cases e
    simp only [Rep] at r
    obtain ⟨a, us, rfl, h1, q1⟩ := r
    exact ⟨a, us, rfl, .inr (SqT.mono s h1), q1⟩
  · rename_i h
    cases h; cases e
    simp only [Rep] at r
    obtain ⟨a, us, rfl, h1, q1⟩ := r
    exact ⟨a, us, rfl, .inl (SqL.of (s _ _ h1)), q1⟩
  · rename_i h
    cases h; cases e
    simp only [Rep] at r
    obtain ⟨a, rfl, h1⟩ := r
    exact ⟨a, _, rfl, .inl (SqL.mono s h1), Reps.of_ints _⟩
  · cases e
theorem dom_none {σ σ' : L2.St} {ρ ρ' : Rho} {G G' H H' : Hp} {p : Addr} (s : Stp σ ρ G H σ' ρ' G' H') (hp : H' p = none) : H p = none := by
  cases q : H p with
  | none => rfl
  | some o => exact absurd hp (s.dom p (by rw [q]; exact fun z => by cases z))
theorem do_listOf (ha : PE X a (rd X.K fa)) (hg : Gl X "list") (hm : X.mg "list" = none) (na : starEach [a] X.env = (false, eval a X.env) :: starEach [] X.env := by rfl) :
    PE X (.Call (.Name "list" p) [a] [] pos) (rdO X.K (oLstOf fa)) := by
  refine pe_imp (pe_callTy call_list_of hg hm (by decide +kernel) (pa_cons ha pa_nil na) (he := na)) fun σ H Q ⟨ρ, G, I, h⟩ => ?_
  refine rd_of I ?_
  unfold oLstOf at h
  unfold rdK
  cases q : fa ρ with
  | ex _ _ => rw [q] at h; exact h
  | no => rw [q] at h; exact h
  | ok p =>
    obtain ⟨d, ρ1⟩ := p
    rw [q] at h
    dsimp only [Rz.bind] at h
    intro v H1 G1 s1 I1 r1
    split at h
    · rename_i ds e
      obtain ⟨a, ys, rfl, hs, r2⟩ := lstD_seq I1.sub r1 e
      refine ⟨a, ys, rfl, hs, fun l hl => ?_⟩
      obtain ⟨x1, x2, x3⟩ := I1.fresh (o := .lst ys) hl
      exact h l ys _ G1 (s1.trans x2) x1 (dom_none s1 hl) upd_same (I1.sub.free hl) x3 r2
    · exact h.elim
end
end M

namespace M
open PySem PySem.Spec PyProof.Rows L2
variable [Tabs]

/-! ### a value, or a new list of one's own -/
def NewV (K : PySem.W.Frag) (σ : L2.St) (ρ : Rho) (H0 G H : Hp) : Sl → V → Prop
  | .dat d, v => Rep K G d v
  | .own false ds, v => ∃ p us, v = .ref p ∧ H0 p = none ∧ H p = some (.lst us) ∧ G p = none ∧ ¬ OwnAt σ ρ p ∧ Reps K G ds us
  | .own true _, _ => False
abbrev FV := Rho → Rz (Sl × Rho)
def OutV (K : PySem.W.Frag) (Q : VK) (σ : L2.St) (ρ : Rho) (G H : Hp) : Rz (Sl × Rho) → Prop
  | .ok (s, ρ') => ∀ v H' G', Stp σ ρ G H σ ρ' G' H' → SR K G' H' σ ρ' → NewV K σ ρ' H G' H' s v → Q v H'
  | .ex _ _ => False
  | .no => False
def rdV (K : PySem.W.Frag) (f : FV) : TE := fun σ H Q => ∃ ρ G, SR K G H σ ρ ∧ OutV K Q σ ρ G H (f ρ)
def vD (f : FE) : FV := fun ρ => (f ρ).bind fun p => .ok (.dat p.1, p.2)
def vO (f : FA) : FV := fun ρ => (f ρ).bind fun p => .ok (.own false p.1, p.2)
section
variable {K : PySem.W.Frag} {σ σ' : L2.St} {ρ ρ' : Rho} {G G' H H' H0 Ha Hb G0 : Hp}
theorem NewV.step {s : Sl} {v : V} (n : NewV K σ ρ H0 G H s v) (b : Stp σ ρ G H σ' ρ' G' H') : NewV K σ' ρ' H0 G' H' s v := by
  match s, n with
  | .dat d, n => exact Rep.mono b.sub _ _ n
  | .own false ds, ⟨p, us, e, h0, h1, h2, h3, r⟩ =>
    refine ⟨p, us, e, h0, b.keep p _ h1 h3 rfl, ?_, fun z => ?_, Reps.mono b.sub _ _ r⟩
    · rw [b.new p (by rw [h1]; exact fun z => by cases z) h3]; exact h2
    · rcases b.own p z with z | z
      · exact h3 z
      · rw [h1] at z; cases z
theorem NewV.back {s : Sl} {v : V} (n : NewV K σ ρ Hb G H s v) (h : ∀ p, Hb p = none → H0 p = none) : NewV K σ ρ H0 G H s v := by
  match s, n with
  | .dat d, n => exact n
  | .own false ds, ⟨p, us, e, h0, h1⟩ => exact ⟨p, us, e, h _ h0, h1⟩
theorem NewV.set {i : Nat} {s : Sl} {v : V} (I : SR K G H σ ρ) (n : NewV K σ ρ H0 G H s v) : SR K G H (σ.set i (some v)) (ρ.set i (some s)) := by
  match s, n with
  | .dat d, n => exact I.set n
  | .own false ds, ⟨p, us, e, h0, h1, h2, h3, r⟩ => subst e; exact I.setOwn h1 h2 h3 r
theorem own_set {i : Nat} {s : Sl} {v : V} {a : Addr} (n : NewV K σ ρ H0 G H s v) (h : OwnAt (σ.set i (some v)) (ρ.set i (some s)) a) : OwnAt σ ρ a ∨ (v = .ref a ∧ H0 a = none ∧ H a ≠ none) := by
  obtain ⟨j, io, es, q1, q2⟩ := h
  rcases get_set q1 with ⟨e, z1⟩ | ⟨ne, z1⟩
  · rcases get_set q2 with ⟨_, z2⟩ | ⟨ne, _⟩
    · cases z1
      match io, n with
      | false, ⟨p, us, e2, h0, h1, h2, h3, r⟩ => cases z2; cases e2; exact .inr ⟨rfl, h0, by rw [h1]; exact fun z => by cases z⟩
      | true, n => exact n.elim
    · exact absurd e ne
  · rcases get_set q2 with ⟨e, _⟩ | ⟨_, z2⟩
    · exact absurd e ne
    · exact .inl ⟨j, io, es, z1, z2⟩
theorem ownN_set {i : Nat} {s : Sl} {v : V} {a : Addr} (n : NewV K σ ρ H0 G H s v) (h : OwnN (σ.set i (some v)) (ρ.set i (some s)) a) : OwnN σ ρ a ∨ H0 a = none := by
  obtain ⟨j, es, q1, q2⟩ := h
  rcases get_set q1 with ⟨e, z1⟩ | ⟨ne, z1⟩
  · rcases get_set q2 with ⟨_, z2⟩ | ⟨ne, _⟩
    · cases z1
      obtain ⟨p, us, e2, h0, h1, h2, h3, r⟩ := n
      cases z2; cases e2; exact .inr h0
    · exact absurd e ne
  · rcases get_set q2 with ⟨e, _⟩ | ⟨_, z2⟩
    · exact absurd e ne
    · exact .inl ⟨j, es, z1, z2⟩
theorem Stp.setV {σ0 : L2.St} {ρ0 : Rho} {i : Nat} {s : Sl} {v : V} (b : Stp σ0 ρ0 G0 H0 σ ρ G H) (nio : isIo ρ i = false) (n : NewV K σ ρ H0 G H s v) : Stp σ0 ρ0 G0 H0 (σ.set i (some v)) (ρ.set i (some s)) G H := by
  refine ⟨b.sub, b.new, b.keep, b.grow, b.dom, fun a z => ?_, fun a z => ?_, fun j es q => ?_⟩
  · rcases own_set n z with z | z
    · exact b.own a z
    · exact .inr z.2.1
  · rcases ownN_set n z with z | z
    · exact b.ownN a z
    · exact .inr z
  · obtain ⟨e0, fs, z1⟩ := b.stay j es q
    have ne : i ≠ j := fun e => by
      subst e
      unfold isIo at nio
      rw [z1] at nio
      cases nio
    rw [List.getElem?_set_ne ne, List.getElem?_set_ne ne]
    exact ⟨e0, fs, z1⟩
/-- another new value is still new after a store -/
theorem NewV.other {i : Nat} {s t : Sl} {v u : V} (n : NewV K σ ρ Ha G H s v) (m : NewV K σ ρ Hb G H t u) (h : ∀ p io us, s = .own io us → v = .ref p → Hb p ≠ none) : NewV K (σ.set i (some v)) (ρ.set i (some s)) Hb G H t u := by
  match t, m with
  | .dat d, m => exact m
  | .own false ds, ⟨p, us, e, h0, h1, h2, h3, r⟩ =>
    refine ⟨p, us, e, h0, h1, h2, fun z => ?_, r⟩
    obtain ⟨j, io, es, q1, q2⟩ := z
    rcases get_set q1 with ⟨e1, z1⟩ | ⟨ne, z1⟩
    · rcases get_set q2 with ⟨_, z2⟩ | ⟨ne, _⟩
      · cases z1
        cases z2
        exact h p io es rfl rfl h0
      · exact absurd e1 ne
    · rcases get_set q2 with ⟨e1, _⟩ | ⟨_, z2⟩
      · exact absurd e1 ne
      · exact h3 ⟨j, io, es, z1, z2⟩
end
section
variable {X : Cx} {a b e : Expr} {fa fb : FV} {fe : FE} {fo : FA} {pos : Pos}
theorem dv_D (h : PE X e (rd X.K fe)) : PE X e (rdV X.K (vD fe)) := by
  refine pe_imp h fun σ H Q ⟨ρ, G, I, h⟩ => ?_
  refine rd_of I ?_
  unfold vD at h
  unfold rdK
  cases q : fe ρ with
  | ex _ _ => rw [q] at h; exact h
  | no => rw [q] at h; exact h
  | ok p =>
    obtain ⟨d, ρ1⟩ := p
    rw [q] at h
    exact fun v H1 G1 s1 I1 r1 => h v H1 G1 s1 I1 r1
theorem dv_O (h : PE X e (rdO X.K fo)) : PE X e (rdV X.K (vO fo)) := by
  refine pe_imp h fun σ H Q ⟨ρ, G, I, h⟩ => ?_
  refine ⟨ρ, G, I, ?_⟩
  unfold vO at h
  cases q : fo ρ with
  | ex _ _ => rw [q] at h; exact h
  | no => rw [q] at h; exact h
  | ok p =>
    obtain ⟨d, ρ1⟩ := p
    rw [q] at h
    exact fun p us H1 G1 s1 I1 e1 e2 e3 n r => h _ H1 G1 s1 I1 ⟨p, us, rfl, e1, e2, e3, n, r⟩
/-- x, y = a, b -/
def sParV (i j : Nat) (fa fb : FV) : FS := fun ρ => (fa ρ).bind fun p => (fb p.2).bind fun q =>
  if isIo q.2 i = true ∨ isIo q.2 j = true ∨ i = j then .no else .ok (.nx, (q.2.set i (some p.1)).set j (some q.1))
theorem ds_parV (i j : Nat) {x y : Str} {px py pt pt2 : Pos} {kt k2 : Nat} (ha : PE X a (rdV X.K fa)) (hb : PE X b (rdV X.K fb)) (hc : X.calm = true) (hN : X.N.Nodup) (hi : X.N[i]? = some x := by rfl) (hj : X.N[j]? = some y := by rfl) (hij : i ≠ j := by decide)
    (hx : X.env.scope.names.lookup x = some .local := by rfl) (hy : X.env.scope.names.lookup y = some .local := by rfl)
    (na : starEach [a, b] X.env = (false, eval a X.env) :: starEach [b] X.env := by rfl) (nb : starEach [b] X.env = (false, eval b X.env) :: starEach [] X.env := by rfl)
    (hw : swappedStores [.Tuple [.Name x px, .Name y py] kt pt] (.Tuple [a, b] k2 pt2) X.env = pure (some [x, y]) := by rfl)
    (hs : swapsWithSole [.Tuple [.Name x px, .Name y py] kt pt] (.Tuple [a, b] k2 pt2) pos.line X.env = pure false := by rfl) :
    PS X (.Assign [.Tuple [.Name x px, .Name y py] kt pt] (.Tuple [a, b] k2 pt2) pos) (rdS X.K (sParV i j fa fb)) := by
  refine ps_imp (ps_par hc hN hi hj hij hx hy (pa_cons ha (pa_cons hb pa_nil nb) na) hw hs) fun D σ H ⟨ρ, G, I, h⟩ => ?_
  unfold rdSK sParV at h
  refine ⟨ρ, G, I, ?_⟩
  cases q : fa ρ with
  | ex _ _ => rw [q] at h; exact h
  | no => rw [q] at h; exact h
  | ok p =>
    obtain ⟨s, ρ1⟩ := p
    rw [q] at h
    dsimp only [Rz.bind] at h
    intro v H1 G1 s1 I1 n1
    refine ⟨ρ1, G1, I1, ?_⟩
    cases q2 : fb ρ1 with
    | ex _ _ => rw [q2] at h; exact h
    | no => rw [q2] at h; exact h
    | ok p2 =>
      obtain ⟨t, ρ2⟩ := p2
      rw [q2] at h
      dsimp only at h
      intro u H2 G2 s2 I2 n2
      by_cases z : isIo ρ2 i = true ∨ isIo ρ2 j = true ∨ i = j
      · rw [if_pos z] at h; exact h.elim
      · rw [if_neg z] at h
        simp only [not_or] at z
        have m1 := n1.step s2
        have z2 : isIo (ρ2.set i (some s)) j = false := by
          have := z.2.1
          unfold isIo at this ⊢
          rw [List.getElem?_set_ne z.2.2]
          simpa using this
        have m2 : NewV X.K (σ.set i (some v)) (ρ2.set i (some s)) H1 G2 H2 t u := m1.other n2 fun p io us hs e => by
          subst hs
          match io, n1 with
          | false, ⟨p', us', e', h0, h1, _⟩ => rw [e'] at e; cases e; rw [h1]; exact fun z => by cases z
          | true, n1 => exact n1.elim
        refine ⟨v, u, rfl, h _ H2 G2 ?_ (NewV.set (NewV.set I2 m1) m2)⟩
        exact ((s1.trans s2).setV (by simpa using z.1) m1).setV z2 (m2.back fun p hp => dom_none s1 hp)
end
end M

namespace M
open PySem PySem.Spec PyProof.Rows L2
variable [Tabs]

/-! ### xs + [..], xs one's own -/
def oCat (j : Nat) (fs : FA) : FA := fun ρ => match ownL ρ j with
  | some _ => (fs ρ).bind fun p => match ownL p.2 j with
    | some (_, ds) => if Nat.ble p.1.length sizeLine = true ∧ Nat.ble (ds.length + p.1.length) sizeLine = true then .ok (ds ++ p.1, p.2) else .no
    | none => .no
  | none => .no
section
variable {X : Cx} {es : List Expr} {fs : FA} {pos px lp : Pos}
theorem do_cat (j : Nat) {x : Str} (h : PA X es (rdA X.K fs)) (hN : X.N[j]? = some x := by rfl) (hv : Vis X.env.scope x := by first | exact Or.inl rfl | exact Or.inr (Or.inl rfl) | exact Or.inr (Or.inr rfl)) (hd : (x == ("__debug__" : Str)) = false := by decide)
    (hcd : (x == ("__classdict__" : Str)) = false := by decide) : PE X (.BinOp (.Name x px) .Add (.List es lp) pos) (rdO X.K (oCat j fs)) := by
  refine pe_imp (pe_op op_cat (pe_var (i := j) hN hv hd hcd) (pe_lst h)) fun σ H Q ⟨ρ, G, I, h⟩ => ?_
  unfold oCat at h
  cases q : ownL ρ j with
  | none => rw [q] at h; exact h.elim
  | some c =>
    obtain ⟨io, ds0⟩ := c
    rw [q] at h
    dsimp only at h
    obtain ⟨a, vs0, e1, e2, e3, r0⟩ := I.own q
    refine ⟨.ref a, e1, ?_⟩
    refine rdA_of I ?_
    unfold rdAK
    cases q1 : fs ρ with
    | ex _ _ => rw [q1] at h; exact h
    | no => rw [q1] at h; exact h
    | ok p =>
      obtain ⟨ds, ρ1⟩ := p
      rw [q1] at h
      dsimp only [Rz.bind] at h
      intro vs H1 G1 s1 I1 r1
      cases q2 : ownL ρ1 j with
      | none => rw [q2] at h; exact h.elim
      | some c2 =>
        obtain ⟨io2, es2⟩ := c2
        rw [q2] at h
        dsimp only at h
        obtain ⟨a2, vs2, f1, f2, f3, r2⟩ := I1.own q2
        rw [e1] at f1
        cases f1
        by_cases z : Nat.ble ds.length sizeLine = true ∧ Nat.ble (es2.length + ds.length) sizeLine = true
        · rw [if_pos z] at h
          rw [Nat.ble_eq, Nat.ble_eq] at z
          refine ⟨by rw [r1.length]; exact z.1, fun p hp => ?_⟩
          obtain ⟨x1, x2, x3⟩ := I1.fresh (o := .lst vs) hp
          have na : a ≠ p := fun e => by rw [e, hp] at f2; cases f2
          refine ⟨a, p, vs2, vs, rfl, rfl, by rw [upd_ne na]; exact f2, upd_same, by rw [r1.length, r2.length]; exact z.2, fun p2 hp2 => ?_⟩
          obtain ⟨y1, y2, y3⟩ := x1.fresh (o := .lst (vs2 ++ vs)) hp2
          exact h p2 (vs2 ++ vs) _ G1 ((s1.trans x2).trans y2) y1 (dom_none (s1.trans x2) hp2) upd_same (x1.sub.free hp2) y3 (r2.append r1)
        · rw [if_neg z] at h; exact h.elim
end
/-! name = [.. for ..] on one line, name one's own -/
section
variable {X : Cx}
theorem ds_ownLc (i : Nat) {y : Str} {py : Pos} {elt tg iter : Expr} {ifs : List Expr} {scope : Scope} {own : List (Str × Nat)} {pos spos : Pos} {fi : FI} {is : List Nat} {tgd : TgD} {ft : FT} {fe : FE} (hc : X.calm = true) (hN : X.N.Nodup) (hi : PI X tg iter (rdI X.K fi)) (ok : BlkOk X.N X.env.scope scope own) (hsub : ∀ i ∈ is, i ∈ own.map (·.2))
    (hg : ∀ (s : Shared) (H : Hp) (C : Addr) (cl : List (Str × Addr)) (fp : List Addr), PG (X.blk s H scope (compEnvC scope cl C X.env) fp) tg (rdG X.K is tgd)) (ht : ∀ (s : Shared) (H : Hp) (C : Addr) (cl : List (Str × Addr)) (fp : List Addr), PTs (X.blk s H scope (compEnvC scope cl C X.env) fp) ifs (rdT X.K ft))
    (he : ∀ (s : Shared) (H : Hp) (C : Addr) (cl : List (Str × Addr)) (fp : List Addr), PE (X.blk s H scope (compEnvC scope cl C X.env) fp) elt (rd X.K fe)) (hy : X.N[i]? = some y := by rfl) (hyl : X.env.scope.names.lookup y = some .local := by rfl) (hk : X.env.scope.kind = .function := by rfl) (hl : (py.line == pos.line) = true := by rfl)
    (ha : (scope.names.any fun (n, k) => n == y && (k == .local || k == .cell)) = false := by decide +kernel) (hs : ∀ x, foldedSetIterable iter X.env x = pure x := by intro _; rfl) :
    PS X (.Assign [.Name y py] (.ListComp elt [⟨tg, iter, ifs, 0⟩] scope pos) spos) (rdS X.K (sOwn i (oLc fi tgd ft fe (own.map (·.2))))) := by
  refine ps_imp (ps_setLc hc hN hy hyl (sw_true hk hyl hl ha) hi ok hg ht he hs) fun D σ H ⟨ρ, G, I, h⟩ => ?_
  refine rd_lc hsub σ H (fun x H1 => gName i x σ H1 D.nx) ⟨ρ, G, I, ?_⟩
  unfold rdSK sOwn at h
  cases e : oLc fi tgd ft fe (own.map (·.2)) ρ with
  | ex _ _ => rw [e] at h; exact h
  | no => rw [e] at h; exact h
  | ok p =>
    obtain ⟨ds, ρ1⟩ := p
    rw [e] at h
    dsimp only [Rz.bind] at h
    intro p us H1 G1 s1 I1 e1 e2 e3 n r
    by_cases z : isIo ρ1 i = true
    · rw [if_pos z] at h; exact h.elim
    · rw [if_neg z] at h
      have nv : NewV X.K σ ρ1 H G1 H1 (.own false ds) (.ref p) := ⟨p, us, rfl, e1, e2, e3, n, r⟩
      exact h _ H1 G1 (s1.setV (by simpa using z) nv) (NewV.set I1 nv)
end
theorem hu66 {A : Around} {k : Nat} (hr : Rm k A) : A.units + 66 < cLine := by have := hr.r.un; omega
end M

namespace M
open PySem PySem.Spec PyProof.Rows L2

/-! ### plain laws: loops that fold -/
theorem forL_rel {α : Type} {tg : TgD} {body : FS} (R : α → Rho → Prop) (f : α → D → α) : ∀ (ds : List D), (∀ d ∈ ds, ∀ a ρ, R a ρ → ∃ ρ1 ρ2, tg d ρ = some ρ1 ∧ body ρ1 = .ok (.nx, ρ2) ∧ R (f a d) ρ2) → ∀ a ρ, R a ρ → ∃ ρ', forL tg body ds ρ = .ok (.nx, ρ') ∧ R (ds.foldl f a) ρ'
  | [], _, a, ρ, j => ⟨ρ, rfl, j⟩
  | d :: ds, h, a, ρ, j => by
    obtain ⟨ρ1, ρ2, e1, e2, j2⟩ := h d List.mem_cons_self a ρ j
    obtain ⟨ρ', e3, j3⟩ := forL_rel R f ds (fun d hd => h d (List.mem_cons_of_mem _ hd)) (f a d) ρ2 j2
    refine ⟨ρ', ?_, j3⟩
    unfold forL
    rw [frc_eq, nrmR_eq, e1]
    simp only [e2, Rz.bind]
    exact e3
/-- a loop over range(0, n): what holds after k turns -/
theorem forL_rg {tg : TgD} {body : FS} (R : Nat → Rho → Prop) (lo : Int) (n : Nat) (h : ∀ k < n, ∀ ρ, R k ρ → ∃ ρ1 ρ2, tg (.int (lo + k)) ρ = some ρ1 ∧ body ρ1 = .ok (.nx, ρ2) ∧ R (k + 1) ρ2) (ρ : Rho) (h0 : R 0 ρ) : ∃ ρ', forL tg body (rgD lo n) ρ = .ok (.nx, ρ') ∧ R n ρ' := by
  have key : ∀ (m j : Nat), j + m = n → ∀ ρ, R j ρ → ∃ ρ', forL tg body ((List.range' j m).map fun i => D.int (lo + (i : Nat))) ρ = .ok (.nx, ρ') ∧ R n ρ' := by
    intro m
    induction m with
    | zero =>
      intro j hj ρ hR
      have : j = n := by omega
      subst this
      exact ⟨ρ, rfl, hR⟩
    | succ m ih =>
      intro j hj ρ hR
      obtain ⟨ρ1, ρ2, e1, e2, j2⟩ := h j (by omega) ρ hR
      obtain ⟨ρ', e3, j3⟩ := ih (j + 1) (by omega) ρ2 j2
      refine ⟨ρ', ?_, j3⟩
      rw [List.range'_succ, List.map_cons]
      unfold forL
      rw [frc_eq, nrmR_eq, e1]
      simp only [e2, Rz.bind]
      exact e3
  unfold rgD
  rw [List.range_eq_range']
  exact key n 0 (by omega) ρ h0
/-- a comprehension without a test -/
theorem lcL_map {tg : TgD} {fe : FE} {vs : List Nat} {ρ : Rho} (f : D → D) : ∀ (ds acc : List D), (∀ d ∈ ds, ∃ ρ1 ρ2, tg d ρ = some ρ1 ∧ fe ρ1 = .ok (f d, ρ2) ∧ noIo vs ρ2 = true ∧ wipeR vs ρ2 = ρ) → acc.length + ds.length ≤ sizeLine → lcL tg tYesD fe vs ds acc ρ = .ok (acc ++ ds.map f, ρ)
  | [], acc, _, _ => by simp only [lcL, frcL_eq, List.map_nil, List.append_nil]
  | d :: ds, acc, h, hl => by
    obtain ⟨ρ1, ρ2, e1, e2, e3, e4⟩ := h d List.mem_cons_self
    have hl2 : acc.length < sizeLine := by simp at hl; omega
    unfold lcL
    rw [frc_eq, nrmR_eq, e1]
    simp only [tYesD, Rz.bind, if_true, e2]
    rw [if_pos ⟨hl2, e3⟩, e4, lcL_map f ds _ (fun d hd => h d (List.mem_cons_of_mem _ hd)) (by simp at hl ⊢; omega)]
    simp
theorem lc_map {fi : FI} {tg : TgD} {fe : FE} {vs : List Nat} {ρ ρ0 : Rho} {ds : List D} (f : D → D) (h1 : fi ρ = .ok (ds, ρ0)) (hn : noIo vs ρ0 = true) (h : ∀ d ∈ ds, ∃ ρ1 ρ2, tg d (wipeR vs ρ0) = some ρ1 ∧ fe ρ1 = .ok (f d, ρ2) ∧ noIo vs ρ2 = true ∧ wipeR vs ρ2 = wipeR vs ρ0)
    (hr : restR vs ρ0 (wipeR vs ρ0) = ρ0) (hl : ds.length ≤ sizeLine) : oLc fi tg tYesD fe vs ρ = .ok (ds.map f, ρ0) := by
  simp only [oLc, h1, Rz.bind, hn, if_true]
  rw [lcL_map f ds [] h (by simpa using hl)]
  simp only [hr, List.nil_append]
/-- one turn of while -/
theorem whl_step {t : FT} {body : FS} {n : Nat} {ρ ρ1 ρ2 : Rho} (h1 : t ρ = .ok (true, ρ1)) (h2 : body ρ1 = .ok (.nx, ρ2)) : whl t body (n + 1) ρ = whl t body n ρ2 := by
  show nrmR ρ _ = _
  rw [nrmR_eq]
  simp only [h1, Rz.bind, if_true, h2]
theorem whl_end {t : FT} {body : FS} {n : Nat} {ρ ρ1 : Rho} (h1 : t ρ = .ok (false, ρ1)) : whl t body (n + 1) ρ = .ok (.nx, ρ1) := by
  show nrmR ρ _ = _
  rw [nrmR_eq]
  simp only [h1, Rz.bind, Bool.false_eq_true, if_false]
/-! steps of plain laws -/
theorem e2_ok {op : D → D → Option D} {fa fb : FE} {ρ ρ1 ρ2 : Rho} {a b d : D} (h1 : fa ρ = .ok (a, ρ1)) (h2 : fb ρ1 = .ok (b, ρ2)) (h3 : op a b = some d) : e2 op fa fb ρ = .ok (d, ρ2) := by
  simp only [e2, bnd, h1, Rz.bind, h2, ofO, h3, frc_eq]
theorem e1_ok {op : D → Option D} {fa : FE} {ρ ρ1 : Rho} {a d : D} (h1 : fa ρ = .ok (a, ρ1)) (h3 : op a = some d) : e1 op fa ρ = .ok (d, ρ1) := by
  simp only [e1, bnd, h1, Rz.bind, ofO, h3, frc_eq]
theorem eB1_ok {op : List D → Option D} {fa : FE} {ρ ρ1 : Rho} {a d : D} (h1 : fa ρ = .ok (a, ρ1)) (h3 : op [a] = some d) : eB op (aCons fa aNil) ρ = .ok (d, ρ1) := by
  simp only [eB, bndA, aCons, aNil, h1, Rz.bind, ofO, h3, frc_eq]
theorem eB2_ok {op : List D → Option D} {fa fb : FE} {ρ ρ1 ρ2 : Rho} {a b d : D} (h1 : fa ρ = .ok (a, ρ1)) (h2 : fb ρ1 = .ok (b, ρ2)) (h3 : op [a, b] = some d) : eB op (aCons fa (aCons fb aNil)) ρ = .ok (d, ρ2) := by
  simp only [eB, bndA, aCons, aNil, h1, h2, Rz.bind, ofO, h3, frc_eq]
theorem eV_ok {ρ : Rho} {i : Nat} {d : D} (h : ρ[i]? = some (some (.dat d))) : eV i ρ = .ok (d, ρ) := by simp only [eV, h]
theorem eC_ok {ρ : Rho} {d : D} : eC d ρ = .ok (d, ρ) := rfl
theorem fz_ok {f : FA} {ρ ρ1 : Rho} {ds : List D} (h : f ρ = .ok (ds, ρ1)) : eFz f ρ = .ok (.lst ds, ρ1) := by simp only [eFz, h, Rz.bind]
theorem set_ok {fe : FE} {ρ ρ1 : Rho} {i : Nat} {d : D} (h : fe ρ = .ok (d, ρ1)) (hi : isIo ρ1 i = false) : sSet i fe ρ = .ok (.nx, ρ1.set i (some (.dat d))) := by
  simp [sSet, bndS, h, Rz.bind, hi]
theorem tB_ok {f : FE} {ρ ρ1 : Rho} {b : Bool} (h : f ρ = .ok (.bl b, ρ1)) : M.tB f ρ = .ok (b, ρ1) := by simp only [M.tB, bnd_T, h, Rz.bind]
end M

namespace M
open PySem PySem.Spec PyProof.Rows L2

/-! ### tuple * int, any int -/
theorem tuple_mul_same (l : Addr) (items : Array Value) (n : Nat) (dd : Option Addr) (sl : Array (Option Value)) (x : Int) (u : Tok) (c0 : (decide (x < -(2 ^ 63)) || decide (x ≥ 2 ^ 63)) = false) (c1 : (items.isEmpty || x == 1) = true) :
    Meets (Builtin.«tuple.__mul__» ⟨[.ref l, .int x u], []⟩) (fun _ R s => s.heap.get? l = some { cls := .type "tuple", dict := dd, data := .seq items n, slots := sl } ∧
      R (.ok (.ret (Value.ref l))) s) :=
  .of_wp fun prog w A R s h => by
    obtain ⟨hp, g, d, tk, os⟩ := s
    obtain ⟨hl, h⟩ := h
    have f1 := AutoSeq1.idx_int
    wp_walk using wpAny_loadPart' hl
    repeat (first
      | (refine wpAny_ite_false (decide_eq_false (by rw [c0]; exact Bool.false_ne_true)) ?_; wp_walk using wpAny_loadPart' hl)
      | (refine wpAny_ite_true (decide_eq_true c1) ?_; wp_walk using wpAny_loadPart' hl))
    exact ⟨_, rfl, h⟩
theorem tuple_mul_none (l : Addr) (items : Array Value) (n : Nat) (dd : Option Addr) (sl : Array (Option Value)) (x : Int) (u : Tok) (c0 : (decide (x < -(2 ^ 63)) || decide (x ≥ 2 ^ 63)) = false) (c1 : (items.isEmpty || x == 1) = false) (c2 : (decide (x ≤ 0) || items.isEmpty) = true) :
    Meets (Builtin.«tuple.__mul__» ⟨[.ref l, .int x u], []⟩) (fun _ R s => s.heap.get? l = some { cls := .type "tuple", dict := dd, data := .seq items n, slots := sl } ∧
      R (.ok (.ret (Value.ref s.heap.objs.size))) { s with heap := s.heap.push { cls := Value.type "tuple", data := Data.seq #[] } }) :=
  .of_wp fun prog w A R s h => by
    obtain ⟨hp, g, d, tk, os⟩ := s
    obtain ⟨hl, h⟩ := h
    have f1 := AutoSeq1.idx_int
    wp_walk using wpAny_loadPart' hl
    repeat (first
      | (refine wpAny_ite_false (decide_eq_false (by rw [c0]; exact Bool.false_ne_true)) ?_; wp_walk using wpAny_loadPart' hl)
      | (refine wpAny_ite_false (decide_eq_false (by rw [c1]; exact Bool.false_ne_true)) ?_; wp_walk using wpAny_loadPart' hl)
      | (refine wpAny_ite_true (decide_eq_true c2) ?_; wp_walk using wpAny_loadPart' hl))
    exact ⟨_, rfl, h⟩

variable [Tabs]
def rRepA (K : PySem.W.Frag) : R2 := fun x y H Q => ∃ l k xs, x = .ref l ∧ y = .int k ∧ SqT K H l xs ∧ -1000 ≤ k ∧ k ≤ 1000 ∧ xs.length ≤ 1000 ∧ (xs = [] ∨ k = 1 → Q (.ref l) H) ∧ (xs ≠ [] → k ≠ 1 → ∀ p, H p = none → Q (.ref p) (upd H p (.tup (List.replicate k.toNat xs).flatten)))
section
variable {X : Cx}
theorem op_repA : OpR X (binaryOp .Mult) (rRepA X.K) := by
  intro pins s σ H x y v u Q I rx ry h
  obtain ⟨l, k, xs, rfl, rfl, hT, h1, h2, hz, q1, q2⟩ := h
  by_cases c : xs ≠ [] ∧ 2 ≤ k
  · exact op_repT pins s σ H _ _ v u Q I rx ry ⟨l, k, xs, rfl, rfl, hT, c.1, c.2, h2, hz, q2 c.1 (by omega)⟩
  · cases rx
    obtain ⟨t, rfl⟩ := ry
    obtain ⟨its, r, ⟨⟨cls, dd, data, sl⟩, ho, hc, n, hd⟩, hs⟩ := I.tuple hT
    simp only at hc hd
    subst hc hd
    have hle : its.length = xs.length := r.length.symm
    have c0 : (decide (k < -(2 ^ 63)) || decide (k ≥ 2 ^ 63)) = false := by
      rw [decide_eq_false (by omega), decide_eq_false (by omega)] <;> rfl
    by_cases c1 : xs = [] ∨ k = 1
    · have e1 : (its.toArray.isEmpty || k == 1) = true := by
        rcases c1 with e | e
        · have : its = [] := List.eq_nil_of_length_eq_zero (by rw [hle, e]; rfl)
          rw [this]; rfl
        · rw [e]; simp
      exact wpAny_binaryOp_repeat_ref (T := "tuple") (U := "int") (by decide) ⟨_, ho, rfl⟩ (fun s' => typeIs_int s' k t) noFill_tuple_mul F.fills_int_mul F.slot_int_rmul repeat_tuple F.slot_int_index.lookup
        (call_meets F.slot_int_rmul (typeIs_int s k t) F.entry_int_rmul (F.args_int_rmul_2 _ _) (int_rmul_tuple k t l its.toArray n dd sl)
          ⟨ho, rfl, ⟨_, ho, rfl⟩, call_meets F.slot_tuple_mul ⟨_, ho, rfl⟩ F.entry_tuple_mul (F.args_tuple_mul_2 _ _) (tuple_mul_same l its.toArray n dd sl k t c0 e1) ⟨ho, ⟨.ref l, H, I, rfl, q1 c1⟩⟩⟩)
    · have hne : xs ≠ [] := fun e => c1 (.inl e)
      have hk1 : k ≠ 1 := fun e => c1 (.inr e)
      have hk0 : k ≤ 0 := by
        rcases Int.lt_or_le k 2 with h | h
        · omega
        · exact absurd ⟨hne, h⟩ c
      have hn : its ≠ [] := fun e => hne (List.eq_nil_of_length_eq_zero (by rw [← hle, e]; rfl))
      have e1 : (its.toArray.isEmpty || k == 1) = false := by
        cases its with
        | nil => exact absurd rfl hn
        | cons a b =>
          rw [show (a :: b).toArray.isEmpty = false from rfl, Bool.false_or]
          exact beq_eq_false_iff_ne.mpr hk1
      have e2 : (decide (k ≤ 0) || its.toArray.isEmpty) = true := by rw [decide_eq_true hk0]; rfl
      have q := q2 hne hk1
      have e0 : (List.replicate k.toNat xs).flatten = [] := by rw [show k.toNat = 0 by omega]; rfl
      rw [e0] at q
      exact wpAny_binaryOp_repeat_ref (T := "tuple") (U := "int") (by decide) ⟨_, ho, rfl⟩ (fun s' => typeIs_int s' k t) noFill_tuple_mul F.fills_int_mul F.slot_int_rmul repeat_tuple F.slot_int_index.lookup
        (call_meets F.slot_int_rmul (typeIs_int s k t) F.entry_int_rmul (F.args_int_rmul_2 _ _) (int_rmul_tuple k t l its.toArray n dd sl)
          ⟨ho, rfl, ⟨_, ho, rfl⟩, call_meets F.slot_tuple_mul ⟨_, ho, rfl⟩ F.entry_tuple_mul (F.args_tuple_mul_2 _ _) (tuple_mul_none l its.toArray n dd sl k t c0 e1 e2)
            ⟨ho, ⟨.ref s.heap.objs.size, _, I.laid (t' := s.toks) (o := .tup []) (fun b ob q => Heap.get?_push_of_some _ q) (Nat.le_refl _) ⟨Nat.zero_le _, [], .nil, IsTup.new _ _⟩, rfl, q _ (I.hok.fresh (Nat.le_refl _))⟩⟩⟩)
end
def mulTD : D → D → Option D | .tup ds, .int k => if !iLt k (-1000) && !iLt 1000 k && Nat.ble ds.length 1000 then some (.tup (List.replicate k.toNat ds).flatten) else none | _, _ => none
theorem Reps.rep {K : PySem.W.Frag} {G : Hp} {ds : List D} {vs : List V} (r : Reps K G ds vs) : ∀ k : Nat, Reps K G (List.replicate k ds).flatten (List.replicate k vs).flatten
  | 0 => Reps.nil
  | k + 1 => by
    rw [List.replicate_succ, List.replicate_succ, List.flatten_cons, List.flatten_cons]
    exact r.append (Reps.rep r k)
theorem od_repA {K : PySem.W.Frag} : OpD K (rRepA K) mulTD := by
  intro G H d1 d2 d v1 v2 Q s r1 r2 e q
  unfold mulTD at e
  split at e
  · rename_i ds k
    split at e
    · rename_i c
      cases e
      simp only [Bool.and_eq_true, not_iLt, decide_eq_true_eq, Nat.ble_eq] at c
      have r1' := r1
      simp only [Rep] at r1 r2
      obtain ⟨a, vs, rfl, h1, q1⟩ := r1
      subst r2
      refine ⟨a, k, vs, rfl, rfl, SqT.mono s h1, c.1.1, c.1.2, by rw [q1.length]; exact c.2, fun h => ?_, fun _ _ p hp => q _ _ _ (PStp.laid s hp) (Rep.tup_new (s.free hp) (q1.rep _))⟩
      have e : (List.replicate k.toNat ds).flatten = ds := by
        rcases h with h | h
        · have : ds = [] := List.eq_nil_of_length_eq_zero (by rw [← q1.length, h]; rfl)
          subst this
          induction k.toNat with
          | zero => rfl
          | succ n ih => rw [List.replicate_succ, List.flatten_cons, ih]; rfl
        · subst h; simp
      rw [e] at q
      exact q _ H G (PStp.refl s) r1'
    · cases e
  · cases e

/-! ### slices -/
abbrev FP := Rho → Rz (Option Int × Rho)
def pNone : FP := fun ρ => .ok (none, ρ)
def pSome (fe : FE) : FP := fun ρ => (fe ρ).bind fun p => match p.1 with | .int i => .ok (some i, p.2) | _ => .no
def rdP (K : PySem.W.Frag) (f : FP) : TO := fun σ H Q => ∃ ρ G, SR K G H σ ρ ∧ match f ρ with
  | .ok (o, ρ') => ∀ H' G', Stp σ ρ G H σ ρ' G' H' → SR K G' H' σ ρ' → Q o H'
  | .ex _ _ => False
  | .no => False
def cutD (ds : List D) (lo hi : Option Int) : List D := (ds.drop (HT.sIx ds.length 0 lo)).take (HT.sIx ds.length ds.length hi - HT.sIx ds.length 0 lo)
def slD (d : D) (lo hi : Option Int) : Option D := match d with
  | .tup ds => some (.tup (cutD ds lo hi))
  | .lst ds => some (.lst (cutD ds lo hi))
  | _ => none
def eSl (fe : FE) (fl fh : FP) : FE := fun ρ => (fe ρ).bind fun p => (fl p.2).bind fun l => (fh l.2).bind fun h => ofO (slD p.1 l.1 h.1) h.2
section
variable {X : Cx} {e : Expr} {lo hi : Option Expr} {fe : FE} {fl fh : FP} {pos p2 : Pos}
theorem dp_none : PO X none (rdP X.K pNone) := ⟨fun pins s σ H Q I ⟨ρ, G, J, h⟩ => po_none.run pins s σ H Q I (h H G (Stp.refl _ _ _ _) J)⟩
theorem dp_some (he : PE X e (rd X.K fe)) : PO X (some e) (rdP X.K (pSome fe)) := by
  refine ⟨fun pins s σ H Q I ⟨ρ, G, J, h⟩ => (po_some he).run pins s σ H Q I ?_⟩
  refine rd_of J ?_
  unfold pSome at h
  unfold rdK
  cases q : fe ρ with
  | ex _ _ => rw [q] at h; exact h
  | no => rw [q] at h; exact h
  | ok p =>
    obtain ⟨d, ρ1⟩ := p
    rw [q] at h
    dsimp only [Rz.bind] at h ⊢
    intro v H1 G1 s1 I1 r1
    cases d with
    | int i =>
      simp only [Rep] at r1
      exact ⟨i, r1, h H1 G1 s1 I1⟩
    | _ => exact h.elim
theorem cut_reps {K : PySem.W.Frag} {G : Hp} {ds : List D} {vs : List V} (r : Reps K G ds vs) (lo hi : Option Int) : Reps K G (cutD ds lo hi) (cutV vs lo hi) := by
  unfold cutD cutV
  rw [r.length]
  exact (r.drop _).take _
theorem de_slice (he : PE X e (rd X.K fe)) (hl : PO X lo (rdP X.K fl)) (hu : PO X hi (rdP X.K fh)) : PE X (.Subscript e (.Slice lo hi none p2) pos) (rd X.K (eSl fe fl fh)) := by
  have hr : SlR X (fun x lo hi H Q => rSlL X.K x lo hi H Q ∨ rSlA X.K x lo hi H Q) := by
    intro pins s σ H x v vl vu lo hi sl Q I rx hs pl pu h
    rcases h with h | h
    · exact sl_list pins s σ H x v vl vu lo hi sl Q I rx hs pl pu h
    · exact sl_tupA pins s σ H x v vl vu lo hi sl Q I rx hs pl pu h
  refine pe_imp (pe_slice hr he hl hu) fun σ H Q ⟨ρ, G, I, h⟩ => ?_
  unfold eSl at h
  refine rd_of I ?_
  unfold rdK
  cases q0 : fe ρ with
  | ex _ _ => rw [q0] at h; exact h
  | no => rw [q0] at h; exact h
  | ok p =>
    obtain ⟨d, ρ1⟩ := p
    rw [q0] at h
    dsimp only [Rz.bind] at h ⊢
    intro v H1 G1 s1 I1 r1
    refine ⟨ρ1, G1, I1, ?_⟩
    cases q1 : fl ρ1 with
    | ex _ _ => rw [q1] at h; exact h
    | no => rw [q1] at h; exact h
    | ok p =>
      obtain ⟨l, ρ2⟩ := p
      rw [q1] at h
      dsimp only [Rz.bind] at h ⊢
      intro H2 G2 s2 I2
      refine ⟨ρ2, G2, I2, ?_⟩
      cases q2 : fh ρ2 with
      | ex _ _ => rw [q2] at h; exact h
      | no => rw [q2] at h; exact h
      | ok p =>
        obtain ⟨u, ρ3⟩ := p
        rw [q2] at h
        dsimp only [Rz.bind] at h ⊢
        intro H3 G3 s3 I3
        have rr := Rep.mono s3.sub _ _ (Rep.mono s2.sub _ _ r1)
        have st := (s1.trans s2).trans s3
        cases e0 : slD d l u with
        | none => rw [e0] at h; exact h.elim
        | some d' =>
          rw [e0] at h
          dsimp only [ofO] at h
          rw [frc_eq] at h
          cases d with
          | tup ds =>
            cases e0
            have rr' := rr
            simp only [Rep] at rr
            obtain ⟨a, vs, rfl, hq, r2⟩ := rr
            refine .inr ⟨a, vs, rfl, SqT.mono I3.sub hq, fun hw => ?_, fun _ p hp => ?_⟩
            · have ec : cutD ds l u = ds := by
                unfold cutD
                rw [← r2.length, hw.1, hw.2, List.drop_zero, Nat.sub_zero, r2.length, List.take_length]
              rw [ec] at h
              exact h _ H3 G3 st I3 rr'
            · have P := PStp.laid (o := .tup (cutV vs l u)) I3.sub hp
              exact h _ _ _ (st.trans P.stp) (I3.pure P) (Rep.tup_new (I3.sub.free hp) (cut_reps r2 l u))
          | lst ds =>
            cases e0
            simp only [Rep] at rr
            obtain ⟨a, vs, rfl, hq, r2⟩ := rr
            refine .inl ⟨a, vs, rfl, SqL.of (I3.sub _ _ hq), fun p hp => ?_⟩
            have P := PStp.laid (o := .lst (cutV vs l u)) I3.sub hp
            exact h _ _ _ (st.trans P.stp) (I3.pure P) (Rep.lst_new (I3.sub.free hp) (cut_reps r2 l u))
          | _ => cases e0
end

/-! ### starred arguments of displays -/
def aStar (fe : FE) (fr : FA) : FA := fun ρ => (fe ρ).bind fun p => match (match p.1 with | .tup ds => some ds | .lst ds => some ds | _ => none) with
  | some ds => (fr p.2).bind fun q => .ok (ds ++ q.1, q.2)
  | none => .no
section
variable {X : Cx} {e : Expr} {es : List Expr} {fe : FE} {fr : FA} {p : Pos}
theorem da_star (he : PE X e (rd X.K fe)) (hr : PA X es (rdA X.K fr)) (hs : starEach (.Starred e p :: es) X.env = (true, eval e X.env) :: starEach es X.env := by rfl) : PA X (.Starred e p :: es) (rdA X.K (aStar fe fr)) := by
  refine pa_imp (StX.pa_star he hr hs) fun σ H Q ⟨ρ, G, I, h⟩ => ?_
  unfold aStar at h
  refine rd_of I ?_
  unfold rdK
  cases q0 : fe ρ with
  | ex _ _ => rw [q0] at h; exact h
  | no => rw [q0] at h; exact h
  | ok p =>
    obtain ⟨d, ρ1⟩ := p
    rw [q0] at h
    dsimp only [Rz.bind] at h ⊢
    intro v H1 G1 s1 I1 r1
    have go : ∀ (ds : List D) (vs : List V), Reps X.K G1 ds vs → (match (fr ρ1).bind fun q => Rz.ok (ds ++ q.1, q.2) with
        | .ok (ds, ρ') => ∀ vs H' G', Stp σ ρ G H σ ρ' G' H' → SR X.K G' H' σ ρ' → Reps X.K G' ds vs → Q vs H' | .ex _ _ => False | .no => False) →
        rdA X.K fr σ H1 fun ys H2 => Q (vs ++ ys) H2 := fun ds vs r h => by
      refine ⟨ρ1, G1, I1, ?_⟩
      cases q1 : fr ρ1 with
      | ex _ _ => rw [q1] at h; exact h
      | no => rw [q1] at h; exact h
      | ok p =>
        obtain ⟨es, ρ2⟩ := p
        rw [q1] at h
        exact fun us H2 G2 s2 I2 r2 => h _ H2 G2 (s1.trans s2) I2 ((Reps.mono s2.sub _ _ r).append r2)
    cases d with
    | tup ds =>
      simp only [Rep] at r1
      obtain ⟨a, vs, rfl, hq, r2⟩ := r1
      exact ⟨a, vs, rfl, .inl (SqT.mono I1.sub hq), go ds vs r2 h⟩
    | lst ds =>
      simp only [Rep] at r1
      obtain ⟨a, vs, rfl, hq, r2⟩ := r1
      exact ⟨a, vs, rfl, .inr (SqL.of (I1.sub _ _ hq)), go ds vs r2 h⟩
    | _ => exact h.elim
end
end M

/-! a dict beside values of other kinds: never equal (printed by gen_dict.py) -/
namespace M
open PySem PySem.SeqAt PySem.MeetsSeq AutoSeq1
abbrev dObj (es : Array DictEntry) (ep : Nat) : Obj := { cls := .type "dict", dict := none, data := .dict es ep, slots := #[] }
theorem d_eq_none (l : Addr) (es : Array DictEntry) (ep : Nat) :
    Meets (Builtin.«dict.__eq__» ⟨[.ref l, .none], []⟩) (fun _ R s => s.heap.get? l = some (dObj es ep) ∧ R (.ok (.ret .notImplemented)) s) :=
  .of_wp fun prog w A R s h => by
    obtain ⟨hp, g, d, tk, os⟩ := s; obtain ⟨hl, h⟩ := h; have f1 := F.sub_NoneType_dict
    wp_walk using wpAny_loadPart' hl, wpAny_load hl
    exact ⟨_, rfl, h⟩
theorem d_eq_bool (l : Addr) (es : Array DictEntry) (ep : Nat) (b : Bool) :
    Meets (Builtin.«dict.__eq__» ⟨[.ref l, .bool b], []⟩) (fun _ R s => s.heap.get? l = some (dObj es ep) ∧ R (.ok (.ret .notImplemented)) s) :=
  .of_wp fun prog w A R s h => by
    obtain ⟨hp, g, d, tk, os⟩ := s; obtain ⟨hl, h⟩ := h; have f1 := F.sub_bool_dict
    wp_walk using wpAny_loadPart' hl, wpAny_load hl
    exact ⟨_, rfl, h⟩
theorem bool_eq_d (l : Addr) (es : Array DictEntry) (ep : Nat) (b : Bool) :
    Meets (Builtin.«int.__eq__» ⟨[.bool b, .ref l], []⟩) (fun _ R s => s.heap.get? l = some (dObj es ep) ∧ R (.ok (.ret .notImplemented)) s) :=
  .of_wp fun prog w A R s h => by
    obtain ⟨hp, g, d, tk, os⟩ := s; obtain ⟨hl, h⟩ := h; wp_walk using wpAny_loadPart' hl, wpAny_load hl
    exact ⟨_, rfl, h⟩
theorem d_eq_int (l : Addr) (es : Array DictEntry) (ep : Nat) (b : Int) (u : Tok) :
    Meets (Builtin.«dict.__eq__» ⟨[.ref l, .int b u], []⟩) (fun _ R s => s.heap.get? l = some (dObj es ep) ∧ R (.ok (.ret .notImplemented)) s) :=
  .of_wp fun prog w A R s h => by
    obtain ⟨hp, g, d, tk, os⟩ := s; obtain ⟨hl, h⟩ := h; have f1 := F.sub_int_dict
    wp_walk using wpAny_loadPart' hl, wpAny_load hl
    exact ⟨_, rfl, h⟩
theorem int_eq_d (l : Addr) (es : Array DictEntry) (ep : Nat) (b : Int) (u : Tok) :
    Meets (Builtin.«int.__eq__» ⟨[.int b u, .ref l], []⟩) (fun _ R s => s.heap.get? l = some (dObj es ep) ∧ R (.ok (.ret .notImplemented)) s) :=
  .of_wp fun prog w A R s h => by
    obtain ⟨hp, g, d, tk, os⟩ := s; obtain ⟨hl, h⟩ := h; wp_walk using wpAny_loadPart' hl, wpAny_load hl
    exact ⟨_, rfl, h⟩
theorem d_eq_str (l : Addr) (es : Array DictEntry) (ep : Nat) (b : Str) (u : Tok) :
    Meets (Builtin.«dict.__eq__» ⟨[.ref l, .str b u], []⟩) (fun _ R s => s.heap.get? l = some (dObj es ep) ∧ R (.ok (.ret .notImplemented)) s) :=
  .of_wp fun prog w A R s h => by
    obtain ⟨hp, g, d, tk, os⟩ := s; obtain ⟨hl, h⟩ := h; have f1 := F.sub_str_dict
    wp_walk using wpAny_loadPart' hl, wpAny_load hl
    exact ⟨_, rfl, h⟩
theorem str_eq_d (l : Addr) (es : Array DictEntry) (ep : Nat) (b : Str) (u : Tok) :
    Meets (Builtin.«str.__eq__» ⟨[.str b u, .ref l], []⟩) (fun _ R s => s.heap.get? l = some (dObj es ep) ∧ R (.ok (.ret .notImplemented)) s) :=
  .of_wp fun prog w A R s h => by
    obtain ⟨hp, g, d, tk, os⟩ := s; obtain ⟨hl, h⟩ := h; wp_walk using wpAny_loadPart' hl, wpAny_load hl
    exact ⟨_, rfl, h⟩
theorem d_eq_list (l : Addr) (es : Array DictEntry) (ep : Nat) (l2 : Addr) (items : Array Value) (n2 : Nat) (dd2 : Option Addr) (sl2 : Array (Option Value)) :
    Meets (Builtin.«dict.__eq__» ⟨[.ref l, .ref l2], []⟩) (fun _ R s => s.heap.get? l = some (dObj es ep) ∧ s.heap.get? l2 = some { cls := .type "list", dict := dd2, data := .seq items n2, slots := sl2 } ∧ R (.ok (.ret .notImplemented)) s) :=
  .of_wp fun prog w A R s h => by
    obtain ⟨hp, g, d, tk, os⟩ := s; obtain ⟨hl, h2, h⟩ := h; have f1 := F.sub_list_dict
    wp_walk using wpAny_loadPart' hl, wpAny_load hl, wpAny_loadPart' h2, wpAny_load h2
    exact ⟨_, rfl, h⟩
theorem list_eq_d (l : Addr) (es : Array DictEntry) (ep : Nat) (l2 : Addr) (items : Array Value) (n2 : Nat) (dd2 : Option Addr) (sl2 : Array (Option Value)) :
    Meets (Builtin.«list.__eq__» ⟨[.ref l2, .ref l], []⟩) (fun _ R s => s.heap.get? l = some (dObj es ep) ∧ s.heap.get? l2 = some { cls := .type "list", dict := dd2, data := .seq items n2, slots := sl2 } ∧ R (.ok (.ret .notImplemented)) s) :=
  .of_wp fun prog w A R s h => by
    obtain ⟨hp, g, d, tk, os⟩ := s; obtain ⟨hl, h2, h⟩ := h; have f1 := F.sub_dict_list
    wp_walk using wpAny_loadPart' hl, wpAny_load hl, wpAny_loadPart' h2, wpAny_load h2
    exact ⟨_, rfl, h⟩
theorem d_eq_tuple (l : Addr) (es : Array DictEntry) (ep : Nat) (l2 : Addr) (items : Array Value) (n2 : Nat) (dd2 : Option Addr) (sl2 : Array (Option Value)) :
    Meets (Builtin.«dict.__eq__» ⟨[.ref l, .ref l2], []⟩) (fun _ R s => s.heap.get? l = some (dObj es ep) ∧ s.heap.get? l2 = some { cls := .type "tuple", dict := dd2, data := .seq items n2, slots := sl2 } ∧ R (.ok (.ret .notImplemented)) s) :=
  .of_wp fun prog w A R s h => by
    obtain ⟨hp, g, d, tk, os⟩ := s; obtain ⟨hl, h2, h⟩ := h; have f1 := F.sub_tuple_dict
    wp_walk using wpAny_loadPart' hl, wpAny_load hl, wpAny_loadPart' h2, wpAny_load h2
    exact ⟨_, rfl, h⟩
theorem tuple_eq_d (l : Addr) (es : Array DictEntry) (ep : Nat) (l2 : Addr) (items : Array Value) (n2 : Nat) (dd2 : Option Addr) (sl2 : Array (Option Value)) :
    Meets (Builtin.«tuple.__eq__» ⟨[.ref l2, .ref l], []⟩) (fun _ R s => s.heap.get? l = some (dObj es ep) ∧ s.heap.get? l2 = some { cls := .type "tuple", dict := dd2, data := .seq items n2, slots := sl2 } ∧ R (.ok (.ret .notImplemented)) s) :=
  .of_wp fun prog w A R s h => by
    obtain ⟨hp, g, d, tk, os⟩ := s; obtain ⟨hl, h2, h⟩ := h; have f1 := F.sub_dict_tuple
    wp_walk using wpAny_loadPart' hl, wpAny_load hl, wpAny_loadPart' h2, wpAny_load h2
    exact ⟨_, rfl, h⟩
theorem d_ne_none (l : Addr) (es : Array DictEntry) (ep : Nat) :
    Meets (Builtin.«dict.__ne__» ⟨[.ref l, .none], []⟩) (fun _ R s => s.heap.get? l = some (dObj es ep) ∧ R (.ok (.ret .notImplemented)) s) :=
  .of_wp fun prog w A R s h => by
    obtain ⟨hp, g, d, tk, os⟩ := s; obtain ⟨hl, h⟩ := h; have f1 := F.sub_NoneType_dict
    wp_walk using wpAny_loadPart' hl, wpAny_load hl
    exact ⟨_, rfl, h⟩
theorem d_ne_bool (l : Addr) (es : Array DictEntry) (ep : Nat) (b : Bool) :
    Meets (Builtin.«dict.__ne__» ⟨[.ref l, .bool b], []⟩) (fun _ R s => s.heap.get? l = some (dObj es ep) ∧ R (.ok (.ret .notImplemented)) s) :=
  .of_wp fun prog w A R s h => by
    obtain ⟨hp, g, d, tk, os⟩ := s; obtain ⟨hl, h⟩ := h; have f1 := F.sub_bool_dict
    wp_walk using wpAny_loadPart' hl, wpAny_load hl
    exact ⟨_, rfl, h⟩
theorem bool_ne_d (l : Addr) (es : Array DictEntry) (ep : Nat) (b : Bool) :
    Meets (Builtin.«int.__ne__» ⟨[.bool b, .ref l], []⟩) (fun _ R s => s.heap.get? l = some (dObj es ep) ∧ R (.ok (.ret .notImplemented)) s) :=
  .of_wp fun prog w A R s h => by
    obtain ⟨hp, g, d, tk, os⟩ := s; obtain ⟨hl, h⟩ := h; wp_walk using wpAny_loadPart' hl, wpAny_load hl
    exact ⟨_, rfl, h⟩
theorem d_ne_int (l : Addr) (es : Array DictEntry) (ep : Nat) (b : Int) (u : Tok) :
    Meets (Builtin.«dict.__ne__» ⟨[.ref l, .int b u], []⟩) (fun _ R s => s.heap.get? l = some (dObj es ep) ∧ R (.ok (.ret .notImplemented)) s) :=
  .of_wp fun prog w A R s h => by
    obtain ⟨hp, g, d, tk, os⟩ := s; obtain ⟨hl, h⟩ := h; have f1 := F.sub_int_dict
    wp_walk using wpAny_loadPart' hl, wpAny_load hl
    exact ⟨_, rfl, h⟩
theorem int_ne_d (l : Addr) (es : Array DictEntry) (ep : Nat) (b : Int) (u : Tok) :
    Meets (Builtin.«int.__ne__» ⟨[.int b u, .ref l], []⟩) (fun _ R s => s.heap.get? l = some (dObj es ep) ∧ R (.ok (.ret .notImplemented)) s) :=
  .of_wp fun prog w A R s h => by
    obtain ⟨hp, g, d, tk, os⟩ := s; obtain ⟨hl, h⟩ := h; wp_walk using wpAny_loadPart' hl, wpAny_load hl
    exact ⟨_, rfl, h⟩
theorem d_ne_str (l : Addr) (es : Array DictEntry) (ep : Nat) (b : Str) (u : Tok) :
    Meets (Builtin.«dict.__ne__» ⟨[.ref l, .str b u], []⟩) (fun _ R s => s.heap.get? l = some (dObj es ep) ∧ R (.ok (.ret .notImplemented)) s) :=
  .of_wp fun prog w A R s h => by
    obtain ⟨hp, g, d, tk, os⟩ := s; obtain ⟨hl, h⟩ := h; have f1 := F.sub_str_dict
    wp_walk using wpAny_loadPart' hl, wpAny_load hl
    exact ⟨_, rfl, h⟩
theorem str_ne_d (l : Addr) (es : Array DictEntry) (ep : Nat) (b : Str) (u : Tok) :
    Meets (Builtin.«str.__ne__» ⟨[.str b u, .ref l], []⟩) (fun _ R s => s.heap.get? l = some (dObj es ep) ∧ R (.ok (.ret .notImplemented)) s) :=
  .of_wp fun prog w A R s h => by
    obtain ⟨hp, g, d, tk, os⟩ := s; obtain ⟨hl, h⟩ := h; wp_walk using wpAny_loadPart' hl, wpAny_load hl
    exact ⟨_, rfl, h⟩
theorem d_ne_list (l : Addr) (es : Array DictEntry) (ep : Nat) (l2 : Addr) (items : Array Value) (n2 : Nat) (dd2 : Option Addr) (sl2 : Array (Option Value)) :
    Meets (Builtin.«dict.__ne__» ⟨[.ref l, .ref l2], []⟩) (fun _ R s => s.heap.get? l = some (dObj es ep) ∧ s.heap.get? l2 = some { cls := .type "list", dict := dd2, data := .seq items n2, slots := sl2 } ∧ R (.ok (.ret .notImplemented)) s) :=
  .of_wp fun prog w A R s h => by
    obtain ⟨hp, g, d, tk, os⟩ := s; obtain ⟨hl, h2, h⟩ := h; have f1 := F.sub_list_dict
    wp_walk using wpAny_loadPart' hl, wpAny_load hl, wpAny_loadPart' h2, wpAny_load h2
    exact ⟨_, rfl, h⟩
theorem list_ne_d (l : Addr) (es : Array DictEntry) (ep : Nat) (l2 : Addr) (items : Array Value) (n2 : Nat) (dd2 : Option Addr) (sl2 : Array (Option Value)) :
    Meets (Builtin.«list.__ne__» ⟨[.ref l2, .ref l], []⟩) (fun _ R s => s.heap.get? l = some (dObj es ep) ∧ s.heap.get? l2 = some { cls := .type "list", dict := dd2, data := .seq items n2, slots := sl2 } ∧ R (.ok (.ret .notImplemented)) s) :=
  .of_wp fun prog w A R s h => by
    obtain ⟨hp, g, d, tk, os⟩ := s; obtain ⟨hl, h2, h⟩ := h; have f1 := F.sub_dict_list
    wp_walk using wpAny_loadPart' hl, wpAny_load hl, wpAny_loadPart' h2, wpAny_load h2
    exact ⟨_, rfl, h⟩
theorem d_ne_tuple (l : Addr) (es : Array DictEntry) (ep : Nat) (l2 : Addr) (items : Array Value) (n2 : Nat) (dd2 : Option Addr) (sl2 : Array (Option Value)) :
    Meets (Builtin.«dict.__ne__» ⟨[.ref l, .ref l2], []⟩) (fun _ R s => s.heap.get? l = some (dObj es ep) ∧ s.heap.get? l2 = some { cls := .type "tuple", dict := dd2, data := .seq items n2, slots := sl2 } ∧ R (.ok (.ret .notImplemented)) s) :=
  .of_wp fun prog w A R s h => by
    obtain ⟨hp, g, d, tk, os⟩ := s; obtain ⟨hl, h2, h⟩ := h; have f1 := F.sub_tuple_dict
    wp_walk using wpAny_loadPart' hl, wpAny_load hl, wpAny_loadPart' h2, wpAny_load h2
    exact ⟨_, rfl, h⟩
theorem tuple_ne_d (l : Addr) (es : Array DictEntry) (ep : Nat) (l2 : Addr) (items : Array Value) (n2 : Nat) (dd2 : Option Addr) (sl2 : Array (Option Value)) :
    Meets (Builtin.«tuple.__ne__» ⟨[.ref l2, .ref l], []⟩) (fun _ R s => s.heap.get? l = some (dObj es ep) ∧ s.heap.get? l2 = some { cls := .type "tuple", dict := dd2, data := .seq items n2, slots := sl2 } ∧ R (.ok (.ret .notImplemented)) s) :=
  .of_wp fun prog w A R s h => by
    obtain ⟨hp, g, d, tk, os⟩ := s; obtain ⟨hl, h2, h⟩ := h; have f1 := F.sub_dict_tuple
    wp_walk using wpAny_loadPart' hl, wpAny_load hl, wpAny_loadPart' h2, wpAny_load h2
    exact ⟨_, rfl, h⟩
section
variable {A : Around} {s : Shared}
theorem RcAt_d_none {l : Addr} {es : Array DictEntry} {ep : Nat} (ho : s.heap.get? l = some (dObj es ep)) (hu : A.units < cLine) : RcAt A s (.ref l) (.none) false := fun prog w E Q h => by
  exact rc_eq_decline_or (k := false) ⟨_, ho, rfl⟩ rfl (by decide) F.sub_NoneType_dict F.slot_dict_eq F.slot_NoneType_eq_refl
    (fun _ hq => call_meets F.slot_dict_eq ⟨_, ho, rfl⟩ F.entry_dict_eq (F.args_dict_eq_2 _ _) (d_eq_none l es ep ) ⟨ho, hq⟩)
    (fun _ hq => call_gives F.slot_NoneType_eq_refl rfl F.entry_NoneType_eq (F.args_NoneType_eq_2 _ _) (NoneType___eq___none_ref_0 l) hq)
    (fun _ hq => wpAny_of_eq (rfl : isSame (.ref l) (.none) = pure false) hq) (.inr hu) h
theorem RcAt_none_d {l : Addr} {es : Array DictEntry} {ep : Nat} (ho : s.heap.get? l = some (dObj es ep)) (hu : A.units < cLine) : RcAt A s (.none) (.ref l) false := fun prog w E Q h => by
  exact rc_eq_decline_or (k := false) rfl ⟨_, ho, rfl⟩ (by decide) F.sub_dict_NoneType F.slot_NoneType_eq F.slot_dict_eq_refl
    (fun _ hq => call_gives F.slot_NoneType_eq rfl F.entry_NoneType_eq (F.args_NoneType_eq_2 _ _) (NoneType___eq___none_ref_0 l) hq)
    (fun _ hq => call_meets F.slot_dict_eq_refl ⟨_, ho, rfl⟩ F.entry_dict_eq (F.args_dict_eq_2 _ _) (d_eq_none l es ep ) ⟨ho, hq⟩)
    (fun _ hq => wpAny_of_eq (rfl : isSame (.none) (.ref l) = pure false) hq) (.inr hu) h
theorem EqAt_d_none {l : Addr} {es : Array DictEntry} {ep : Nat} (ho : s.heap.get? l = some (dObj es ep)) (hu : A.units < cLine) : EqAt A s (.ref l) (.none) false := fun prog w E Q h => by
  unfold eqBool
  refine wpAny_holding (wpAny_ite_split (fun hab => absurd (eq_of_beq hab) nofun) fun _ => ?_)
  exact wpAny_bind (RcAt_d_none  ho hu prog w E _ (wpAny_truthy_bool h))
theorem EqAt_none_d {l : Addr} {es : Array DictEntry} {ep : Nat} (ho : s.heap.get? l = some (dObj es ep)) (hu : A.units < cLine) : EqAt A s (.none) (.ref l) false := fun prog w E Q h => by
  unfold eqBool
  refine wpAny_holding (wpAny_ite_split (fun hab => absurd (eq_of_beq hab) nofun) fun _ => ?_)
  exact wpAny_bind (RcAt_none_d  ho hu prog w E _ (wpAny_truthy_bool h))
theorem RcAt_d_bool {l : Addr} {es : Array DictEntry} {ep : Nat} (b : Bool) (ho : s.heap.get? l = some (dObj es ep)) (hu : A.units < cLine) : RcAt A s (.ref l) (.bool b) false := fun prog w E Q h => by
  exact rc_eq_decline_or (k := false) ⟨_, ho, rfl⟩ rfl (by decide) F.sub_bool_dict F.slot_dict_eq F.slot_bool_eq_refl
    (fun _ hq => call_meets F.slot_dict_eq ⟨_, ho, rfl⟩ F.entry_dict_eq (F.args_dict_eq_2 _ _) (d_eq_bool l es ep b) ⟨ho, hq⟩)
    (fun _ hq => call_meets F.slot_bool_eq_refl rfl F.entry_int_eq (F.args_int_eq_2 _ _) (bool_eq_d l es ep b) ⟨ho, hq⟩)
    (fun _ hq => wpAny_of_eq (rfl : isSame (.ref l) (.bool b) = pure false) hq) (.inr hu) h
theorem RcAt_bool_d {l : Addr} {es : Array DictEntry} {ep : Nat} (b : Bool) (ho : s.heap.get? l = some (dObj es ep)) (hu : A.units < cLine) : RcAt A s (.bool b) (.ref l) false := fun prog w E Q h => by
  exact rc_eq_decline_or (k := false) rfl ⟨_, ho, rfl⟩ (by decide) F.sub_dict_bool F.slot_bool_eq F.slot_dict_eq_refl
    (fun _ hq => call_meets F.slot_bool_eq rfl F.entry_int_eq (F.args_int_eq_2 _ _) (bool_eq_d l es ep b) ⟨ho, hq⟩)
    (fun _ hq => call_meets F.slot_dict_eq_refl ⟨_, ho, rfl⟩ F.entry_dict_eq (F.args_dict_eq_2 _ _) (d_eq_bool l es ep b) ⟨ho, hq⟩)
    (fun _ hq => wpAny_of_eq (rfl : isSame (.bool b) (.ref l) = pure false) hq) (.inr hu) h
theorem EqAt_d_bool {l : Addr} {es : Array DictEntry} {ep : Nat} (b : Bool) (ho : s.heap.get? l = some (dObj es ep)) (hu : A.units < cLine) : EqAt A s (.ref l) (.bool b) false := fun prog w E Q h => by
  unfold eqBool
  refine wpAny_holding (wpAny_ite_split (fun hab => absurd (eq_of_beq hab) nofun) fun _ => ?_)
  exact wpAny_bind (RcAt_d_bool b ho hu prog w E _ (wpAny_truthy_bool h))
theorem EqAt_bool_d {l : Addr} {es : Array DictEntry} {ep : Nat} (b : Bool) (ho : s.heap.get? l = some (dObj es ep)) (hu : A.units < cLine) : EqAt A s (.bool b) (.ref l) false := fun prog w E Q h => by
  unfold eqBool
  refine wpAny_holding (wpAny_ite_split (fun hab => absurd (eq_of_beq hab) nofun) fun _ => ?_)
  exact wpAny_bind (RcAt_bool_d b ho hu prog w E _ (wpAny_truthy_bool h))
theorem RcAt_d_int {l : Addr} {es : Array DictEntry} {ep : Nat} (b : Int) (u : Tok) (ho : s.heap.get? l = some (dObj es ep)) (hu : A.units < cLine) : RcAt A s (.ref l) (.int b u) false := fun prog w E Q h => by
  exact rc_eq_decline_or (k := false) ⟨_, ho, rfl⟩ (typeIs_int s b u) (by decide) F.sub_int_dict F.slot_dict_eq F.slot_int_eq_refl
    (fun _ hq => call_meets F.slot_dict_eq ⟨_, ho, rfl⟩ F.entry_dict_eq (F.args_dict_eq_2 _ _) (d_eq_int l es ep b u) ⟨ho, hq⟩)
    (fun _ hq => call_meets F.slot_int_eq_refl (typeIs_int s b u) F.entry_int_eq (F.args_int_eq_2 _ _) (int_eq_d l es ep b u) ⟨ho, hq⟩)
    (fun _ hq => wpAny_of_eq (rfl : isSame (.ref l) (.int b u) = pure false) hq) (.inr hu) h
theorem RcAt_int_d {l : Addr} {es : Array DictEntry} {ep : Nat} (b : Int) (u : Tok) (ho : s.heap.get? l = some (dObj es ep)) (hu : A.units < cLine) : RcAt A s (.int b u) (.ref l) false := fun prog w E Q h => by
  exact rc_eq_decline_or (k := false) (typeIs_int s b u) ⟨_, ho, rfl⟩ (by decide) F.sub_dict_int F.slot_int_eq F.slot_dict_eq_refl
    (fun _ hq => call_meets F.slot_int_eq (typeIs_int s b u) F.entry_int_eq (F.args_int_eq_2 _ _) (int_eq_d l es ep b u) ⟨ho, hq⟩)
    (fun _ hq => call_meets F.slot_dict_eq_refl ⟨_, ho, rfl⟩ F.entry_dict_eq (F.args_dict_eq_2 _ _) (d_eq_int l es ep b u) ⟨ho, hq⟩)
    (fun _ hq => wpAny_of_eq (rfl : isSame (.int b u) (.ref l) = pure false) hq) (.inr hu) h
theorem EqAt_d_int {l : Addr} {es : Array DictEntry} {ep : Nat} (b : Int) (u : Tok) (ho : s.heap.get? l = some (dObj es ep)) (hu : A.units < cLine) : EqAt A s (.ref l) (.int b u) false := fun prog w E Q h => by
  unfold eqBool
  refine wpAny_holding (wpAny_ite_split (fun hab => absurd (eq_of_beq hab) nofun) fun _ => ?_)
  exact wpAny_bind (RcAt_d_int b u ho hu prog w E _ (wpAny_truthy_bool h))
theorem EqAt_int_d {l : Addr} {es : Array DictEntry} {ep : Nat} (b : Int) (u : Tok) (ho : s.heap.get? l = some (dObj es ep)) (hu : A.units < cLine) : EqAt A s (.int b u) (.ref l) false := fun prog w E Q h => by
  unfold eqBool
  refine wpAny_holding (wpAny_ite_split (fun hab => absurd (eq_of_beq hab) nofun) fun _ => ?_)
  exact wpAny_bind (RcAt_int_d b u ho hu prog w E _ (wpAny_truthy_bool h))
theorem RcAt_d_str {l : Addr} {es : Array DictEntry} {ep : Nat} (b : Str) (u : Tok) (ho : s.heap.get? l = some (dObj es ep)) (hu : A.units < cLine) : RcAt A s (.ref l) (.str b u) false := fun prog w E Q h => by
  exact rc_eq_decline_or (k := false) ⟨_, ho, rfl⟩ (typeIs_str s b u) (by decide) F.sub_str_dict F.slot_dict_eq F.slot_str_eq_refl
    (fun _ hq => call_meets F.slot_dict_eq ⟨_, ho, rfl⟩ F.entry_dict_eq (F.args_dict_eq_2 _ _) (d_eq_str l es ep b u) ⟨ho, hq⟩)
    (fun _ hq => call_meets F.slot_str_eq_refl (typeIs_str s b u) F.entry_str_eq (F.args_str_eq_2 _ _) (str_eq_d l es ep b u) ⟨ho, hq⟩)
    (fun _ hq => wpAny_of_eq (rfl : isSame (.ref l) (.str b u) = pure false) hq) (.inr hu) h
theorem RcAt_str_d {l : Addr} {es : Array DictEntry} {ep : Nat} (b : Str) (u : Tok) (ho : s.heap.get? l = some (dObj es ep)) (hu : A.units < cLine) : RcAt A s (.str b u) (.ref l) false := fun prog w E Q h => by
  exact rc_eq_decline_or (k := false) (typeIs_str s b u) ⟨_, ho, rfl⟩ (by decide) F.sub_dict_str F.slot_str_eq F.slot_dict_eq_refl
    (fun _ hq => call_meets F.slot_str_eq (typeIs_str s b u) F.entry_str_eq (F.args_str_eq_2 _ _) (str_eq_d l es ep b u) ⟨ho, hq⟩)
    (fun _ hq => call_meets F.slot_dict_eq_refl ⟨_, ho, rfl⟩ F.entry_dict_eq (F.args_dict_eq_2 _ _) (d_eq_str l es ep b u) ⟨ho, hq⟩)
    (fun _ hq => wpAny_of_eq (rfl : isSame (.str b u) (.ref l) = pure false) hq) (.inr hu) h
theorem EqAt_d_str {l : Addr} {es : Array DictEntry} {ep : Nat} (b : Str) (u : Tok) (ho : s.heap.get? l = some (dObj es ep)) (hu : A.units < cLine) : EqAt A s (.ref l) (.str b u) false := fun prog w E Q h => by
  unfold eqBool
  refine wpAny_holding (wpAny_ite_split (fun hab => absurd (eq_of_beq hab) nofun) fun _ => ?_)
  exact wpAny_bind (RcAt_d_str b u ho hu prog w E _ (wpAny_truthy_bool h))
theorem EqAt_str_d {l : Addr} {es : Array DictEntry} {ep : Nat} (b : Str) (u : Tok) (ho : s.heap.get? l = some (dObj es ep)) (hu : A.units < cLine) : EqAt A s (.str b u) (.ref l) false := fun prog w E Q h => by
  unfold eqBool
  refine wpAny_holding (wpAny_ite_split (fun hab => absurd (eq_of_beq hab) nofun) fun _ => ?_)
  exact wpAny_bind (RcAt_str_d b u ho hu prog w E _ (wpAny_truthy_bool h))
theorem RcAt_d_list {l : Addr} {es : Array DictEntry} {ep : Nat} {l2 : Addr} {items : Array Value} (ho : s.heap.get? l = some (dObj es ep)) (h2 : s.heap.IsList l2 items) (hu : A.units < cLine) : RcAt A s (.ref l) (.ref l2) false := fun prog w E Q h => by
  obtain ⟨⟨cls, dd, data, sl⟩, ho2, hc, n, hd⟩ := id h2
  simp only at hc hd
  subst hc hd
  have hne : l ≠ l2 := fun e => by subst e; rw [ho] at ho2; simp [dObj] at ho2
  exact rc_eq_decline_or (k := false) ⟨_, ho, rfl⟩ ⟨_, ho2, rfl⟩ (by decide) F.sub_list_dict F.slot_dict_eq F.slot_list_eq_refl
    (fun _ hq => call_meets F.slot_dict_eq ⟨_, ho, rfl⟩ F.entry_dict_eq (F.args_dict_eq_2 _ _) (d_eq_list l es ep l2 items n dd sl) ⟨ho, ho2, hq⟩)
    (fun _ hq => call_meets F.slot_list_eq_refl ⟨_, ho2, rfl⟩ F.entry_list_eq (F.args_list_eq_2 _ _) (list_eq_d l es ep l2 items n dd sl) ⟨ho, ho2, hq⟩)
    (fun _ hq => wpAny_isSame_ref_other' hne ho ho2 (by simp) hq) (.inr hu) h
theorem RcAt_list_d {l : Addr} {es : Array DictEntry} {ep : Nat} {l2 : Addr} {items : Array Value} (ho : s.heap.get? l = some (dObj es ep)) (h2 : s.heap.IsList l2 items) (hu : A.units < cLine) : RcAt A s (.ref l2) (.ref l) false := fun prog w E Q h => by
  obtain ⟨⟨cls, dd, data, sl⟩, ho2, hc, n, hd⟩ := id h2
  simp only at hc hd
  subst hc hd
  have hne : l ≠ l2 := fun e => by subst e; rw [ho] at ho2; simp [dObj] at ho2
  exact rc_eq_decline_or (k := false) ⟨_, ho2, rfl⟩ ⟨_, ho, rfl⟩ (by decide) F.sub_dict_list F.slot_list_eq F.slot_dict_eq_refl
    (fun _ hq => call_meets F.slot_list_eq ⟨_, ho2, rfl⟩ F.entry_list_eq (F.args_list_eq_2 _ _) (list_eq_d l es ep l2 items n dd sl) ⟨ho, ho2, hq⟩)
    (fun _ hq => call_meets F.slot_dict_eq_refl ⟨_, ho, rfl⟩ F.entry_dict_eq (F.args_dict_eq_2 _ _) (d_eq_list l es ep l2 items n dd sl) ⟨ho, ho2, hq⟩)
    (fun _ hq => wpAny_isSame_ref_other' hne.symm ho2 ho (by simp) hq) (.inr hu) h
theorem EqAt_d_list {l : Addr} {es : Array DictEntry} {ep : Nat} {l2 : Addr} {items : Array Value} (ho : s.heap.get? l = some (dObj es ep)) (h2 : s.heap.IsList l2 items) (hu : A.units < cLine) : EqAt A s (.ref l) (.ref l2) false :=
  .of_refs (fun e => by subst e; obtain ⟨o, h3, h4, _⟩ := h2; rw [ho] at h3; cases h3; simp at h4) (RcAt_d_list ho h2 hu)
theorem EqAt_list_d {l : Addr} {es : Array DictEntry} {ep : Nat} {l2 : Addr} {items : Array Value} (ho : s.heap.get? l = some (dObj es ep)) (h2 : s.heap.IsList l2 items) (hu : A.units < cLine) : EqAt A s (.ref l2) (.ref l) false :=
  .of_refs (fun e => by subst e; obtain ⟨o, h3, h4, _⟩ := h2; rw [ho] at h3; cases h3; simp at h4) (RcAt_list_d ho h2 hu)
theorem RcAt_d_tuple {l : Addr} {es : Array DictEntry} {ep : Nat} {l2 : Addr} {items : Array Value} (ho : s.heap.get? l = some (dObj es ep)) (h2 : s.heap.IsTuple l2 items) (hu : A.units < cLine) : RcAt A s (.ref l) (.ref l2) false := fun prog w E Q h => by
  obtain ⟨⟨cls, dd, data, sl⟩, ho2, hc, n, hd⟩ := id h2
  simp only at hc hd
  subst hc hd
  have hne : l ≠ l2 := fun e => by subst e; rw [ho] at ho2; simp [dObj] at ho2
  exact rc_eq_decline_or (k := false) ⟨_, ho, rfl⟩ ⟨_, ho2, rfl⟩ (by decide) F.sub_tuple_dict F.slot_dict_eq F.slot_tuple_eq_refl
    (fun _ hq => call_meets F.slot_dict_eq ⟨_, ho, rfl⟩ F.entry_dict_eq (F.args_dict_eq_2 _ _) (d_eq_tuple l es ep l2 items n dd sl) ⟨ho, ho2, hq⟩)
    (fun _ hq => call_meets F.slot_tuple_eq_refl ⟨_, ho2, rfl⟩ F.entry_tuple_eq (F.args_tuple_eq_2 _ _) (tuple_eq_d l es ep l2 items n dd sl) ⟨ho, ho2, hq⟩)
    (fun _ hq => wpAny_isSame_ref_other hne ho ho2 (by simp) hq) (.inr hu) h
theorem RcAt_tuple_d {l : Addr} {es : Array DictEntry} {ep : Nat} {l2 : Addr} {items : Array Value} (ho : s.heap.get? l = some (dObj es ep)) (h2 : s.heap.IsTuple l2 items) (hu : A.units < cLine) : RcAt A s (.ref l2) (.ref l) false := fun prog w E Q h => by
  obtain ⟨⟨cls, dd, data, sl⟩, ho2, hc, n, hd⟩ := id h2
  simp only at hc hd
  subst hc hd
  have hne : l ≠ l2 := fun e => by subst e; rw [ho] at ho2; simp [dObj] at ho2
  exact rc_eq_decline_or (k := false) ⟨_, ho2, rfl⟩ ⟨_, ho, rfl⟩ (by decide) F.sub_dict_tuple F.slot_tuple_eq F.slot_dict_eq_refl
    (fun _ hq => call_meets F.slot_tuple_eq ⟨_, ho2, rfl⟩ F.entry_tuple_eq (F.args_tuple_eq_2 _ _) (tuple_eq_d l es ep l2 items n dd sl) ⟨ho, ho2, hq⟩)
    (fun _ hq => call_meets F.slot_dict_eq_refl ⟨_, ho, rfl⟩ F.entry_dict_eq (F.args_dict_eq_2 _ _) (d_eq_tuple l es ep l2 items n dd sl) ⟨ho, ho2, hq⟩)
    (fun _ hq => wpAny_isSame_ref_other' hne.symm ho2 ho (by simp) hq) (.inr hu) h
theorem EqAt_d_tuple {l : Addr} {es : Array DictEntry} {ep : Nat} {l2 : Addr} {items : Array Value} (ho : s.heap.get? l = some (dObj es ep)) (h2 : s.heap.IsTuple l2 items) (hu : A.units < cLine) : EqAt A s (.ref l) (.ref l2) false :=
  .of_refs (fun e => by subst e; obtain ⟨o, h3, h4, _⟩ := h2; rw [ho] at h3; cases h3; simp at h4) (RcAt_d_tuple ho h2 hu)
theorem EqAt_tuple_d {l : Addr} {es : Array DictEntry} {ep : Nat} {l2 : Addr} {items : Array Value} (ho : s.heap.get? l = some (dObj es ep)) (h2 : s.heap.IsTuple l2 items) (hu : A.units < cLine) : EqAt A s (.ref l2) (.ref l) false :=
  .of_refs (fun e => by subst e; obtain ⟨o, h3, h4, _⟩ := h2; rw [ho] at h3; cases h3; simp at h4) (RcAt_tuple_d ho h2 hu)
theorem RcNeAt_d_none {l : Addr} {es : Array DictEntry} {ep : Nat} (ho : s.heap.get? l = some (dObj es ep)) (hu : A.units < cLine) : RcNeAt A s (.ref l) (.none) true := fun prog w E Q h => by
  exact rc_ne_decline_or (k := false) ⟨_, ho, rfl⟩ rfl (by decide) F.sub_NoneType_dict F.slot_dict_ne F.slot_NoneType_ne_refl
    (fun _ hq => call_meets F.slot_dict_ne ⟨_, ho, rfl⟩ F.entry_dict_ne (F.args_dict_ne_2 _ _) (d_ne_none l es ep ) ⟨ho, hq⟩)
    (fun _ hq => call_gives F.slot_NoneType_ne_refl rfl F.entry_NoneType_ne (F.args_NoneType_ne_2 _ _) (NoneType___ne___none_ref_0 l) hq)
    (fun _ hq => wpAny_of_eq (rfl : isSame (.ref l) (.none) = pure false) hq) (.inr hu) h
theorem RcNeAt_none_d {l : Addr} {es : Array DictEntry} {ep : Nat} (ho : s.heap.get? l = some (dObj es ep)) (hu : A.units < cLine) : RcNeAt A s (.none) (.ref l) true := fun prog w E Q h => by
  exact rc_ne_decline_or (k := false) rfl ⟨_, ho, rfl⟩ (by decide) F.sub_dict_NoneType F.slot_NoneType_ne F.slot_dict_ne_refl
    (fun _ hq => call_gives F.slot_NoneType_ne rfl F.entry_NoneType_ne (F.args_NoneType_ne_2 _ _) (NoneType___ne___none_ref_0 l) hq)
    (fun _ hq => call_meets F.slot_dict_ne_refl ⟨_, ho, rfl⟩ F.entry_dict_ne (F.args_dict_ne_2 _ _) (d_ne_none l es ep ) ⟨ho, hq⟩)
    (fun _ hq => wpAny_of_eq (rfl : isSame (.none) (.ref l) = pure false) hq) (.inr hu) h
theorem RcNeAt_d_bool {l : Addr} {es : Array DictEntry} {ep : Nat} (b : Bool) (ho : s.heap.get? l = some (dObj es ep)) (hu : A.units < cLine) : RcNeAt A s (.ref l) (.bool b) true := fun prog w E Q h => by
  exact rc_ne_decline_or (k := false) ⟨_, ho, rfl⟩ rfl (by decide) F.sub_bool_dict F.slot_dict_ne F.slot_bool_ne_refl
    (fun _ hq => call_meets F.slot_dict_ne ⟨_, ho, rfl⟩ F.entry_dict_ne (F.args_dict_ne_2 _ _) (d_ne_bool l es ep b) ⟨ho, hq⟩)
    (fun _ hq => call_meets F.slot_bool_ne_refl rfl F.entry_int_ne (F.args_int_ne_2 _ _) (bool_ne_d l es ep b) ⟨ho, hq⟩)
    (fun _ hq => wpAny_of_eq (rfl : isSame (.ref l) (.bool b) = pure false) hq) (.inr hu) h
theorem RcNeAt_bool_d {l : Addr} {es : Array DictEntry} {ep : Nat} (b : Bool) (ho : s.heap.get? l = some (dObj es ep)) (hu : A.units < cLine) : RcNeAt A s (.bool b) (.ref l) true := fun prog w E Q h => by
  exact rc_ne_decline_or (k := false) rfl ⟨_, ho, rfl⟩ (by decide) F.sub_dict_bool F.slot_bool_ne F.slot_dict_ne_refl
    (fun _ hq => call_meets F.slot_bool_ne rfl F.entry_int_ne (F.args_int_ne_2 _ _) (bool_ne_d l es ep b) ⟨ho, hq⟩)
    (fun _ hq => call_meets F.slot_dict_ne_refl ⟨_, ho, rfl⟩ F.entry_dict_ne (F.args_dict_ne_2 _ _) (d_ne_bool l es ep b) ⟨ho, hq⟩)
    (fun _ hq => wpAny_of_eq (rfl : isSame (.bool b) (.ref l) = pure false) hq) (.inr hu) h
theorem RcNeAt_d_int {l : Addr} {es : Array DictEntry} {ep : Nat} (b : Int) (u : Tok) (ho : s.heap.get? l = some (dObj es ep)) (hu : A.units < cLine) : RcNeAt A s (.ref l) (.int b u) true := fun prog w E Q h => by
  exact rc_ne_decline_or (k := false) ⟨_, ho, rfl⟩ (typeIs_int s b u) (by decide) F.sub_int_dict F.slot_dict_ne F.slot_int_ne_refl
    (fun _ hq => call_meets F.slot_dict_ne ⟨_, ho, rfl⟩ F.entry_dict_ne (F.args_dict_ne_2 _ _) (d_ne_int l es ep b u) ⟨ho, hq⟩)
    (fun _ hq => call_meets F.slot_int_ne_refl (typeIs_int s b u) F.entry_int_ne (F.args_int_ne_2 _ _) (int_ne_d l es ep b u) ⟨ho, hq⟩)
    (fun _ hq => wpAny_of_eq (rfl : isSame (.ref l) (.int b u) = pure false) hq) (.inr hu) h
theorem RcNeAt_int_d {l : Addr} {es : Array DictEntry} {ep : Nat} (b : Int) (u : Tok) (ho : s.heap.get? l = some (dObj es ep)) (hu : A.units < cLine) : RcNeAt A s (.int b u) (.ref l) true := fun prog w E Q h => by
  exact rc_ne_decline_or (k := false) (typeIs_int s b u) ⟨_, ho, rfl⟩ (by decide) F.sub_dict_int F.slot_int_ne F.slot_dict_ne_refl
    (fun _ hq => call_meets F.slot_int_ne (typeIs_int s b u) F.entry_int_ne (F.args_int_ne_2 _ _) (int_ne_d l es ep b u) ⟨ho, hq⟩)
    (fun _ hq => call_meets F.slot_dict_ne_refl ⟨_, ho, rfl⟩ F.entry_dict_ne (F.args_dict_ne_2 _ _) (d_ne_int l es ep b u) ⟨ho, hq⟩)
    (fun _ hq => wpAny_of_eq (rfl : isSame (.int b u) (.ref l) = pure false) hq) (.inr hu) h
theorem RcNeAt_d_str {l : Addr} {es : Array DictEntry} {ep : Nat} (b : Str) (u : Tok) (ho : s.heap.get? l = some (dObj es ep)) (hu : A.units < cLine) : RcNeAt A s (.ref l) (.str b u) true := fun prog w E Q h => by
  exact rc_ne_decline_or (k := false) ⟨_, ho, rfl⟩ (typeIs_str s b u) (by decide) F.sub_str_dict F.slot_dict_ne F.slot_str_ne_refl
    (fun _ hq => call_meets F.slot_dict_ne ⟨_, ho, rfl⟩ F.entry_dict_ne (F.args_dict_ne_2 _ _) (d_ne_str l es ep b u) ⟨ho, hq⟩)
    (fun _ hq => call_meets F.slot_str_ne_refl (typeIs_str s b u) F.entry_str_ne (F.args_str_ne_2 _ _) (str_ne_d l es ep b u) ⟨ho, hq⟩)
    (fun _ hq => wpAny_of_eq (rfl : isSame (.ref l) (.str b u) = pure false) hq) (.inr hu) h
theorem RcNeAt_str_d {l : Addr} {es : Array DictEntry} {ep : Nat} (b : Str) (u : Tok) (ho : s.heap.get? l = some (dObj es ep)) (hu : A.units < cLine) : RcNeAt A s (.str b u) (.ref l) true := fun prog w E Q h => by
  exact rc_ne_decline_or (k := false) (typeIs_str s b u) ⟨_, ho, rfl⟩ (by decide) F.sub_dict_str F.slot_str_ne F.slot_dict_ne_refl
    (fun _ hq => call_meets F.slot_str_ne (typeIs_str s b u) F.entry_str_ne (F.args_str_ne_2 _ _) (str_ne_d l es ep b u) ⟨ho, hq⟩)
    (fun _ hq => call_meets F.slot_dict_ne_refl ⟨_, ho, rfl⟩ F.entry_dict_ne (F.args_dict_ne_2 _ _) (d_ne_str l es ep b u) ⟨ho, hq⟩)
    (fun _ hq => wpAny_of_eq (rfl : isSame (.str b u) (.ref l) = pure false) hq) (.inr hu) h
theorem RcNeAt_d_list {l : Addr} {es : Array DictEntry} {ep : Nat} {l2 : Addr} {items : Array Value} (ho : s.heap.get? l = some (dObj es ep)) (h2 : s.heap.IsList l2 items) (hu : A.units < cLine) : RcNeAt A s (.ref l) (.ref l2) true := fun prog w E Q h => by
  obtain ⟨⟨cls, dd, data, sl⟩, ho2, hc, n, hd⟩ := id h2
  simp only at hc hd
  subst hc hd
  have hne : l ≠ l2 := fun e => by subst e; rw [ho] at ho2; simp [dObj] at ho2
  exact rc_ne_decline_or (k := false) ⟨_, ho, rfl⟩ ⟨_, ho2, rfl⟩ (by decide) F.sub_list_dict F.slot_dict_ne F.slot_list_ne_refl
    (fun _ hq => call_meets F.slot_dict_ne ⟨_, ho, rfl⟩ F.entry_dict_ne (F.args_dict_ne_2 _ _) (d_ne_list l es ep l2 items n dd sl) ⟨ho, ho2, hq⟩)
    (fun _ hq => call_meets F.slot_list_ne_refl ⟨_, ho2, rfl⟩ F.entry_list_ne (F.args_list_ne_2 _ _) (list_ne_d l es ep l2 items n dd sl) ⟨ho, ho2, hq⟩)
    (fun _ hq => wpAny_isSame_ref_other' hne ho ho2 (by simp) hq) (.inr hu) h
theorem RcNeAt_list_d {l : Addr} {es : Array DictEntry} {ep : Nat} {l2 : Addr} {items : Array Value} (ho : s.heap.get? l = some (dObj es ep)) (h2 : s.heap.IsList l2 items) (hu : A.units < cLine) : RcNeAt A s (.ref l2) (.ref l) true := fun prog w E Q h => by
  obtain ⟨⟨cls, dd, data, sl⟩, ho2, hc, n, hd⟩ := id h2
  simp only at hc hd
  subst hc hd
  have hne : l ≠ l2 := fun e => by subst e; rw [ho] at ho2; simp [dObj] at ho2
  exact rc_ne_decline_or (k := false) ⟨_, ho2, rfl⟩ ⟨_, ho, rfl⟩ (by decide) F.sub_dict_list F.slot_list_ne F.slot_dict_ne_refl
    (fun _ hq => call_meets F.slot_list_ne ⟨_, ho2, rfl⟩ F.entry_list_ne (F.args_list_ne_2 _ _) (list_ne_d l es ep l2 items n dd sl) ⟨ho, ho2, hq⟩)
    (fun _ hq => call_meets F.slot_dict_ne_refl ⟨_, ho, rfl⟩ F.entry_dict_ne (F.args_dict_ne_2 _ _) (d_ne_list l es ep l2 items n dd sl) ⟨ho, ho2, hq⟩)
    (fun _ hq => wpAny_isSame_ref_other' hne.symm ho2 ho (by simp) hq) (.inr hu) h
theorem RcNeAt_d_tuple {l : Addr} {es : Array DictEntry} {ep : Nat} {l2 : Addr} {items : Array Value} (ho : s.heap.get? l = some (dObj es ep)) (h2 : s.heap.IsTuple l2 items) (hu : A.units < cLine) : RcNeAt A s (.ref l) (.ref l2) true := fun prog w E Q h => by
  obtain ⟨⟨cls, dd, data, sl⟩, ho2, hc, n, hd⟩ := id h2
  simp only at hc hd
  subst hc hd
  have hne : l ≠ l2 := fun e => by subst e; rw [ho] at ho2; simp [dObj] at ho2
  exact rc_ne_decline_or (k := false) ⟨_, ho, rfl⟩ ⟨_, ho2, rfl⟩ (by decide) F.sub_tuple_dict F.slot_dict_ne F.slot_tuple_ne_refl
    (fun _ hq => call_meets F.slot_dict_ne ⟨_, ho, rfl⟩ F.entry_dict_ne (F.args_dict_ne_2 _ _) (d_ne_tuple l es ep l2 items n dd sl) ⟨ho, ho2, hq⟩)
    (fun _ hq => call_meets F.slot_tuple_ne_refl ⟨_, ho2, rfl⟩ F.entry_tuple_ne (F.args_tuple_ne_2 _ _) (tuple_ne_d l es ep l2 items n dd sl) ⟨ho, ho2, hq⟩)
    (fun _ hq => wpAny_isSame_ref_other hne ho ho2 (by simp) hq) (.inr hu) h
theorem RcNeAt_tuple_d {l : Addr} {es : Array DictEntry} {ep : Nat} {l2 : Addr} {items : Array Value} (ho : s.heap.get? l = some (dObj es ep)) (h2 : s.heap.IsTuple l2 items) (hu : A.units < cLine) : RcNeAt A s (.ref l2) (.ref l) true := fun prog w E Q h => by
  obtain ⟨⟨cls, dd, data, sl⟩, ho2, hc, n, hd⟩ := id h2
  simp only at hc hd
  subst hc hd
  have hne : l ≠ l2 := fun e => by subst e; rw [ho] at ho2; simp [dObj] at ho2
  exact rc_ne_decline_or (k := false) ⟨_, ho2, rfl⟩ ⟨_, ho, rfl⟩ (by decide) F.sub_dict_tuple F.slot_tuple_ne F.slot_dict_ne_refl
    (fun _ hq => call_meets F.slot_tuple_ne ⟨_, ho2, rfl⟩ F.entry_tuple_ne (F.args_tuple_ne_2 _ _) (tuple_ne_d l es ep l2 items n dd sl) ⟨ho, ho2, hq⟩)
    (fun _ hq => call_meets F.slot_dict_ne_refl ⟨_, ho, rfl⟩ F.entry_dict_ne (F.args_dict_ne_2 _ _) (d_ne_tuple l es ep l2 items n dd sl) ⟨ho, ho2, hq⟩)
    (fun _ hq => wpAny_isSame_ref_other' hne.symm ho2 ho (by simp) hq) (.inr hu) h
end
end M

namespace M
open PySem PySem.Spec PyProof.Rows L2 PySem.SeqAt

/-! ### values by their kinds -/
inductive Vk (s : Shared) : Nat → Value → Prop
  | non : Vk s 0 .none
  | bl (b : Bool) : Vk s 1 (.bool b)
  | int (i : Int) (t : Tok) : Vk s 1 (.int i t)
  | str (x : Str) (t : Tok) : Vk s 2 (.str x t)
  | tup {l : Addr} {items : Array Value} (h : s.heap.IsTuple l items) : Vk s 3 (.ref l)
  | lst {l : Addr} {items : Array Value} (h : s.heap.IsList l items) : Vk s 4 (.ref l)
  | dic {l : Addr} {es : Array DictEntry} {ep : Nat} (h : s.heap.get? l = some (dObj es ep)) : Vk s 5 (.ref l)
theorem eq_kinds {A : Around} {s : Shared} (hu : A.units < cLine) : ∀ {i j : Nat} {u v : Value}, Vk s i u → Vk s j v → i ≠ j → EqAt A s u v false ∧ RcAt A s u v false ∧ RcNeAt A s u v true
  | _, _, _, _, .non, .bl b2, _ => ⟨(EqAt.none_bool b2), (RcAt.none_bool b2), (RcNeAt.none_bool b2)⟩
  | _, _, _, _, .non, .int b2 t2, _ => ⟨(EqAt.none_int b2 t2), (RcAt.none_int b2 t2), (RcNeAt.none_int b2 t2)⟩
  | _, _, _, _, .non, .str b2 t2, _ => ⟨(EqAt.none_str b2 t2), (RcAt.none_str b2 t2), (RcNeAt.none_str b2 t2)⟩
  | _, _, _, _, .non, .tup h2, _ => ⟨(EqAt.none_tuple h2 hu), (RcAt.none_tuple h2 hu), (RcNeAt.none_tuple h2 hu)⟩
  | _, _, _, _, .non, .lst h2, _ => ⟨(EqAt.none_list h2 hu), (RcAt.none_list h2 hu), (RcNeAt.none_list h2 hu)⟩
  | _, _, _, _, .non, .dic h2, _ => ⟨(M.EqAt_none_d h2 hu), (M.RcAt_none_d h2 hu), (M.RcNeAt_none_d h2 hu)⟩
  | _, _, _, _, .bl b1, .non, _ => ⟨(EqAt.bool_none b1), (RcAt.bool_none b1), (RcNeAt.bool_none b1)⟩
  | _, _, _, _, .bl b1, .str b2 t2, _ => ⟨(EqAt.bool_str b1 b2 t2), (RcAt.bool_str b1 b2 t2), (RcNeAt.bool_str b1 b2 t2)⟩
  | _, _, _, _, .bl b1, .tup h2, _ => ⟨(EqAt.bool_tuple b1 h2 hu), (RcAt.bool_tuple b1 h2 hu), (RcNeAt.bool_tuple b1 h2 hu)⟩
  | _, _, _, _, .bl b1, .lst h2, _ => ⟨(EqAt.bool_list b1 h2 hu), (RcAt.bool_list b1 h2 hu), (RcNeAt.bool_list b1 h2 hu)⟩
  | _, _, _, _, .bl b1, .dic h2, _ => ⟨(M.EqAt_bool_d b1 h2 hu), (M.RcAt_bool_d b1 h2 hu), (M.RcNeAt_bool_d b1 h2 hu)⟩
  | _, _, _, _, .int b1 t1, .non, _ => ⟨(EqAt.int_none b1 t1), (RcAt.int_none b1 t1), (RcNeAt.int_none b1 t1)⟩
  | _, _, _, _, .int b1 t1, .str b2 t2, _ => ⟨(EqAt.int_str b1 t1 b2 t2), (RcAt.int_str b1 t1 b2 t2), (RcNeAt.int_str b1 t1 b2 t2)⟩
  | _, _, _, _, .int b1 t1, .tup h2, _ => ⟨(EqAt.int_tuple b1 t1 h2 hu), (RcAt.int_tuple b1 t1 h2 hu), (RcNeAt.int_tuple b1 t1 h2 hu)⟩
  | _, _, _, _, .int b1 t1, .lst h2, _ => ⟨(EqAt.int_list b1 t1 h2 hu), (RcAt.int_list b1 t1 h2 hu), (RcNeAt.int_list b1 t1 h2 hu)⟩
  | _, _, _, _, .int b1 t1, .dic h2, _ => ⟨(M.EqAt_int_d b1 t1 h2 hu), (M.RcAt_int_d b1 t1 h2 hu), (M.RcNeAt_int_d b1 t1 h2 hu)⟩
  | _, _, _, _, .str b1 t1, .non, _ => ⟨(EqAt.str_none b1 t1), (RcAt.str_none b1 t1), (RcNeAt.str_none b1 t1)⟩
  | _, _, _, _, .str b1 t1, .bl b2, _ => ⟨(EqAt.str_bool b1 t1 b2), (RcAt.str_bool b1 t1 b2), (RcNeAt.str_bool b1 t1 b2)⟩
  | _, _, _, _, .str b1 t1, .int b2 t2, _ => ⟨(EqAt.str_int b1 t1 b2 t2), (RcAt.str_int b1 t1 b2 t2), (RcNeAt.str_int b1 t1 b2 t2)⟩
  | _, _, _, _, .str b1 t1, .tup h2, _ => ⟨(EqAt.str_tuple b1 t1 h2 hu), (RcAt.str_tuple b1 t1 h2 hu), (RcNeAt.str_tuple b1 t1 h2 hu)⟩
  | _, _, _, _, .str b1 t1, .lst h2, _ => ⟨(EqAt.str_list b1 t1 h2 hu), (RcAt.str_list b1 t1 h2 hu), (RcNeAt.str_list b1 t1 h2 hu)⟩
  | _, _, _, _, .str b1 t1, .dic h2, _ => ⟨(M.EqAt_str_d b1 t1 h2 hu), (M.RcAt_str_d b1 t1 h2 hu), (M.RcNeAt_str_d b1 t1 h2 hu)⟩
  | _, _, _, _, .tup h1, .non, _ => ⟨(EqAt.tuple_none h1 hu), (RcAt.tuple_none h1 hu), (RcNeAt.tuple_none h1 hu)⟩
  | _, _, _, _, .tup h1, .bl b2, _ => ⟨(EqAt.tuple_bool b2 h1 hu), (RcAt.tuple_bool b2 h1 hu), (RcNeAt.tuple_bool b2 h1 hu)⟩
  | _, _, _, _, .tup h1, .int b2 t2, _ => ⟨(EqAt.tuple_int b2 t2 h1 hu), (RcAt.tuple_int b2 t2 h1 hu), (RcNeAt.tuple_int b2 t2 h1 hu)⟩
  | _, _, _, _, .tup h1, .str b2 t2, _ => ⟨(EqAt.tuple_str b2 t2 h1 hu), (RcAt.tuple_str b2 t2 h1 hu), (RcNeAt.tuple_str b2 t2 h1 hu)⟩
  | _, _, _, _, .tup h1, .lst h2, _ => ⟨(EqAt.tuple_list h1 h2 hu), (RcAt.tuple_list h1 h2 hu), (RcNeAt.tuple_list h1 h2 hu)⟩
  | _, _, _, _, .tup h1, .dic h2, _ => ⟨(M.EqAt_tuple_d h2 h1 hu), (M.RcAt_tuple_d h2 h1 hu), (M.RcNeAt_tuple_d h2 h1 hu)⟩
  | _, _, _, _, .lst h1, .non, _ => ⟨(EqAt.list_none h1 hu), (RcAt.list_none h1 hu), (RcNeAt.list_none h1 hu)⟩
  | _, _, _, _, .lst h1, .bl b2, _ => ⟨(EqAt.list_bool b2 h1 hu), (RcAt.list_bool b2 h1 hu), (RcNeAt.list_bool b2 h1 hu)⟩
  | _, _, _, _, .lst h1, .int b2 t2, _ => ⟨(EqAt.list_int b2 t2 h1 hu), (RcAt.list_int b2 t2 h1 hu), (RcNeAt.list_int b2 t2 h1 hu)⟩
  | _, _, _, _, .lst h1, .str b2 t2, _ => ⟨(EqAt.list_str b2 t2 h1 hu), (RcAt.list_str b2 t2 h1 hu), (RcNeAt.list_str b2 t2 h1 hu)⟩
  | _, _, _, _, .lst h1, .tup h2, _ => ⟨(EqAt.list_tuple h1 h2 hu), (RcAt.list_tuple h1 h2 hu), (RcNeAt.list_tuple h1 h2 hu)⟩
  | _, _, _, _, .lst h1, .dic h2, _ => ⟨(M.EqAt_list_d h2 h1 hu), (M.RcAt_list_d h2 h1 hu), (M.RcNeAt_list_d h2 h1 hu)⟩
  | _, _, _, _, .dic h1, .non, _ => ⟨(M.EqAt_d_none h1 hu), (M.RcAt_d_none h1 hu), (M.RcNeAt_d_none h1 hu)⟩
  | _, _, _, _, .dic h1, .bl b2, _ => ⟨(M.EqAt_d_bool b2 h1 hu), (M.RcAt_d_bool b2 h1 hu), (M.RcNeAt_d_bool b2 h1 hu)⟩
  | _, _, _, _, .dic h1, .int b2 t2, _ => ⟨(M.EqAt_d_int b2 t2 h1 hu), (M.RcAt_d_int b2 t2 h1 hu), (M.RcNeAt_d_int b2 t2 h1 hu)⟩
  | _, _, _, _, .dic h1, .str b2 t2, _ => ⟨(M.EqAt_d_str b2 t2 h1 hu), (M.RcAt_d_str b2 t2 h1 hu), (M.RcNeAt_d_str b2 t2 h1 hu)⟩
  | _, _, _, _, .dic h1, .tup h2, _ => ⟨(M.EqAt_d_tuple h1 h2 hu), (M.RcAt_d_tuple h1 h2 hu), (M.RcNeAt_d_tuple h1 h2 hu)⟩
  | _, _, _, _, .dic h1, .lst h2, _ => ⟨(M.EqAt_d_list h1 h2 hu), (M.RcAt_d_list h1 h2 hu), (M.RcNeAt_d_list h1 h2 hu)⟩
  | _, _, _, _, .non, .non, h => absurd rfl h
  | _, _, _, _, .bl b1, .bl b2, h => absurd rfl h
  | _, _, _, _, .bl b1, .int b2 t2, h => absurd rfl h
  | _, _, _, _, .int b1 t1, .bl b2, h => absurd rfl h
  | _, _, _, _, .int b1 t1, .int b2 t2, h => absurd rfl h
  | _, _, _, _, .str b1 t1, .str b2 t2, h => absurd rfl h
  | _, _, _, _, .tup h1, .tup h2, h => absurd rfl h
  | _, _, _, _, .lst h1, .lst h2, h => absurd rfl h
  | _, _, _, _, .dic h1, .dic h2, h => absurd rfl h
/-- two empty dicts -/
theorem Rc_dd {A : Around} {s : Shared} {a b : Addr} {ep ep2 : Nat} (ha : s.heap.get? a = some (dObj #[] ep)) (hb : s.heap.get? b = some (dObj #[] ep2)) (sa : (a == sysModules) = false) (sb : (b == sysModules) = false) (hu : A.units < cLine) : RcAt A s (.ref a) (.ref b) true := fun prog w E Q h => by
  have d1 : s.heap.DictOf (mixKind prog w) a [] := ⟨_, #[], ep, ha, ⟨rfl, rfl, rfl⟩, rfl, fun e he => by simp at he, .nil, by simp⟩
  have d2 : s.heap.DictOf (mixKind prog w) b [] := ⟨_, #[], ep2, hb, ⟨rfl, rfl, rfl⟩, rfl, fun e he => by simp at he, .nil, by simp⟩
  exact PySem.W.rcP_dicts (knd := mixKind prog w) (r := true) sa sb d1 d2 hu (fun _ => .nil) E Q (by simpa using h)

/-! ### == of data, empty dicts in it -/
def knd : D → Option Nat
  | .non => some 0 | .bl _ => some 1 | .int _ => some 1 | .str _ => some 2 | .tup _ => some 3 | .lst _ => some 4 | .dic _ _ => some 5 | _ => none
def dqk (i : Nat) (e : D) : Option Bool := match knd e with | some j => if i == j then none else some false | none => none
mutual
def dq : D → D → Option Bool
  | .tup xs, e => (match e with | .tup ys => (dqs xs ys).map fun b => b && xs.length == ys.length | e => dqk 3 e)
  | .lst xs, e => (match e with | .lst ys => if xs.length == ys.length then dqs xs ys else some false | e => dqk 4 e)
  | .dic ks _, e => (match e with | .dic ks' _ => if ks.isEmpty && ks'.isEmpty then some true else none | e => dqk 5 e)
  | .non, e => (match e with | .non => some true | e => dqk 0 e)
  | .bl a, e => (match e with | .bl b => some (a == b) | .int b => some ((if a then 1 else 0) == b) | e => dqk 1 e)
  | .int a, e => (match e with | .int b => some (a == b) | .bl b => some (a == (if b then 1 else 0)) | e => dqk 1 e)
  | .str a, e => (match e with | .str b => some (a == b) | e => dqk 2 e)
  | _, _ => none
def dqs : List D → List D → Option Bool
  | [], _ => some true
  | x :: xs, l => (match l with | [] => some true | y :: ys => (match dq x y with | some b => (dqs xs ys).map (b && ·) | none => none))
end
mutual
def dep : D → Nat
  | .tup xs => deps xs + 1
  | .lst xs => deps xs + 1
  | .dic _ _ => 1
  | _ => 0
def deps : List D → Nat
  | [] => 0
  | x :: xs => max (dep x) (deps xs)
end
variable [Tabs]
section
variable {X : Cx} {pins : List (Addr × Obj)} {σ : L2.St} {H : Hp} {s : Shared}
theorem dic_at (I : Inv X pins σ H s) {a : Addr} {kvs : List (Key × V)} (h : H a = some (.dK kvs)) : (a == sysModules) = false ∧ ∃ es ep, s.heap.get? a = some (dObj es ep) ∧ (kvs = [] → es = #[]) := by
  obtain ⟨_, sm, vs, r, ⟨c, dd, dt, sl⟩, es, ep, e, ⟨e1, e2, e3⟩, e4, _, p, _⟩ := I.hok a _ h
  simp only at e1 e2 e3 e4
  subst e1 e2 e3 e4
  refine ⟨sm, es, ep, e, fun z => ?_⟩
  subst z
  have hv : vs = [] := by
    have := r.length
    exact List.eq_nil_of_length_eq_zero (by simpa using this.symm)
  subst hv
  have : es.toList = [] := by
    cases h0 : es.toList with
    | nil => rfl
    | cons x xs => rw [h0] at p; cases p
  exact Array.toList_inj.mp (by rw [this])
theorem vk_of (I : Inv X pins σ H s) {d : D} {v : V} {u : Value} {i : Nat} (r : Rep X.K H d v) (q : RelV v u) (h : knd d = some i) : Vk s i u := by
  cases d with
  | non => simp only [Rep] at r; subst r; cases h; cases q; exact .non
  | bl b => simp only [Rep] at r; subst r; cases h; cases q; exact .bl b
  | int b => simp only [Rep] at r; subst r; cases h; obtain ⟨t, rfl⟩ := q; exact .int b t
  | str b => simp only [Rep] at r; subst r; cases h; obtain ⟨t, rfl⟩ := q; exact .str b t
  | tup ds =>
    simp only [Rep] at r
    obtain ⟨a, vs, rfl, h1, _⟩ := r
    cases h; cases q
    obtain ⟨its, _, p, _⟩ := I.tuple h1
    exact .tup p
  | lst ds =>
    simp only [Rep] at r
    obtain ⟨a, vs, rfl, h1, _⟩ := r
    cases h; cases q
    obtain ⟨its, _, p, _⟩ := I.list (SqL.of h1)
    exact .lst p.isList
  | dic ks ds =>
    simp only [Rep] at r
    obtain ⟨a, us, vs, rfl, _, h1, _⟩ := r
    cases h; cases q
    obtain ⟨_, es, ep, e, _⟩ := dic_at I h1
    exact .dic e
  | _ => cases h
theorem dqk_of {i : Nat} {e : D} {b : Bool} (h : dqk i e = some b) : b = false ∧ ∃ j, knd e = some j ∧ i ≠ j := by
  unfold dqk at h
  cases q : knd e with
  | none => rw [q] at h; cases h
  | some j =>
    rw [q] at h
    dsimp only at h
    split at h
    · cases h
    · rename_i c
      cases h
      exact ⟨rfl, j, rfl, by simpa using c⟩
/-- one object, told twice -/
theorem ref_knd {d : D} {a : Addr} {i : Nat} (I : Inv X pins σ H s) (r : Rep X.K H d (.ref a)) (h : knd d = some i) : i = 3 ∨ i = 4 ∨ i = 5 := by
  have := vk_of I r (show RelV (.ref a) (.ref a) from rfl) h
  cases this <;> simp
mutual
theorem dq_same (I : Inv X pins σ H s) : ∀ (d e : D) (v : V) (b : Bool), Rep X.K H d v → Rep X.K H e v → dq d e = some b → b = true
  | .non, e, v, b, r, q, h => by
    simp only [Rep] at r; subst r
    cases e with
    | non => cases h; rfl
    | bl _ => simp [Rep] at q
    | int _ => simp [Rep] at q
    | str _ => simp [Rep] at q
    | tup _ => simp [Rep] at q
    | lst _ => simp [Rep] at q
    | dic _ _ => simp [Rep] at q
    | _ => cases h
  | .bl x, e, v, b, r, q, h => by
    simp only [Rep] at r; subst r
    cases e with
    | bl y => simp only [Rep] at q; cases q; cases h; simp
    | non => simp [Rep] at q
    | int _ => simp [Rep] at q
    | str _ => simp [Rep] at q
    | tup _ => simp [Rep] at q
    | lst _ => simp [Rep] at q
    | dic _ _ => simp [Rep] at q
    | _ => cases h
  | .int x, e, v, b, r, q, h => by
    simp only [Rep] at r; subst r
    cases e with
    | int y => simp only [Rep] at q; cases q; cases h; simp
    | non => simp [Rep] at q
    | bl _ => simp [Rep] at q
    | str _ => simp [Rep] at q
    | tup _ => simp [Rep] at q
    | lst _ => simp [Rep] at q
    | dic _ _ => simp [Rep] at q
    | _ => cases h
  | .str x, e, v, b, r, q, h => by
    simp only [Rep] at r; subst r
    cases e with
    | str y => simp only [Rep] at q; cases q; cases h; simp
    | non => simp [Rep] at q
    | bl _ => simp [Rep] at q
    | int _ => simp [Rep] at q
    | tup _ => simp [Rep] at q
    | lst _ => simp [Rep] at q
    | dic _ _ => simp [Rep] at q
    | _ => cases h
  | .tup xs, e, v, b, r, q, h => by
    cases e with
    | tup ys =>
      simp only [Rep] at r q
      obtain ⟨a, vs, rfl, h1, r1⟩ := r
      obtain ⟨a', ws, e1, h2, r2⟩ := q
      cases e1
      have := I.tuple_inj h1 h2
      subst this
      simp only [dq] at h
      cases z : dqs xs ys with
      | none => rw [z] at h; cases h
      | some c =>
        rw [z] at h; cases h
        rw [dqs_same I xs ys vs c r1 r2 z]
        simp [← r1.length, ← r2.length]
    | _ =>
      first
        | (simp only [dq] at h; obtain ⟨_, j, e1, e2⟩ := dqk_of h; cases e1; done)
        | (simp only [dq] at h
           obtain ⟨_, j, e1, e2⟩ := dqk_of h
           simp only [Rep] at r
           obtain ⟨a, vs, rfl, h1, r1⟩ := r
           obtain ⟨its, _, p, _⟩ := I.tuple h1
           have k2 := vk_of I q (show RelV (.ref a) (.ref a) from rfl) e1
           obtain ⟨o, ho, hc, _⟩ := p
           cases k2 with
           | tup _ => exact absurd rfl e2
           | lst p2 => obtain ⟨o2, ho2, hc2, _⟩ := p2; rw [ho] at ho2; cases ho2; rw [hc] at hc2; simp at hc2
           | dic p2 => rw [ho] at p2; cases p2; simp at hc)
  | .lst xs, e, v, b, r, q, h => by
    cases e with
    | lst ys =>
      simp only [Rep] at r q
      obtain ⟨a, vs, rfl, h1, r1⟩ := r
      obtain ⟨a', ws, e1, h2, r2⟩ := q
      cases e1
      rw [h1] at h2
      cases h2
      simp only [dq] at h
      rw [if_pos (by simp [← r1.length, ← r2.length])] at h
      exact dqs_same I xs ys vs b r1 r2 h
    | _ =>
      first
        | (simp only [dq] at h; obtain ⟨_, j, e1, e2⟩ := dqk_of h; cases e1; done)
        | (simp only [dq] at h
           obtain ⟨_, j, e1, e2⟩ := dqk_of h
           simp only [Rep] at r
           obtain ⟨a, vs, rfl, h1, r1⟩ := r
           obtain ⟨its, _, p, _⟩ := I.list (SqL.of h1)
           have k2 := vk_of I q (show RelV (.ref a) (.ref a) from rfl) e1
           obtain ⟨o, ho, hc, _⟩ := p.isList
           cases k2 with
           | lst _ => exact absurd rfl e2
           | tup p2 => obtain ⟨o2, ho2, hc2, _⟩ := p2; rw [ho] at ho2; cases ho2; rw [hc] at hc2; simp at hc2
           | dic p2 => rw [ho] at p2; cases p2; simp at hc)
  | .dic ks ds, e, v, b, r, q, h => by
    cases e with
    | dic ks' ds' =>
      simp only [dq] at h
      split at h
      · cases h; rfl
      · cases h
    | _ =>
      first
        | (simp only [dq] at h; obtain ⟨_, j, e1, e2⟩ := dqk_of h; cases e1; done)
        | (simp only [dq] at h
           obtain ⟨_, j, e1, e2⟩ := dqk_of h
           have k1 := r
           simp only [Rep] at r
           obtain ⟨a, us, vs, rfl, _, h1, _⟩ := r
           obtain ⟨_, es, ep, ho, _⟩ := dic_at I h1
           have k2 := vk_of I q (show RelV (.ref a) (.ref a) from rfl) e1
           cases k2 with
           | dic _ => exact absurd rfl e2
           | tup p2 => obtain ⟨o2, ho2, hc2, _⟩ := p2; rw [ho] at ho2; cases ho2; simp at hc2
           | lst p2 => obtain ⟨o2, ho2, hc2, _⟩ := p2; rw [ho] at ho2; cases ho2; simp at hc2)
  | .scr _, _, _, _, _, _, h => by simp [dq] at h
  | .con _, _, _, _, _, _, h => by simp [dq] at h
  | .ins _ _, _, _, _, _, _, h => by simp [dq] at h
theorem dqs_same (I : Inv X pins σ H s) : ∀ (ds es : List D) (vs : List V) (b : Bool), Reps X.K H ds vs → Reps X.K H es vs → dqs ds es = some b → b = true
  | [], _, _, b, _, _, h => by simp only [dqs] at h; cases h; rfl
  | x :: xs, [], _, b, _, _, h => by simp only [dqs] at h; cases h; rfl
  | x :: xs, y :: ys, vs, b, r, q, h => by
    simp only [Reps] at r q
    obtain ⟨v, w, rfl, r1, r2⟩ := r
    obtain ⟨v', w', e, q1, q2⟩ := q
    cases e
    simp only [dqs] at h
    cases z : dq x y with
    | none => rw [z] at h; cases h
    | some c =>
      rw [z] at h
      dsimp only at h
      cases z2 : dqs xs ys with
      | none => rw [z2] at h; cases h
      | some c2 =>
        rw [z2] at h; cases h
        rw [dq_same I x y v c r1 q1 z, dqs_same I xs ys w c2 r2 q2 z2]; rfl
end
end
end M

namespace M
open PySem PySem.Spec PyProof.Rows L2 PySem.SeqAt
variable [Tabs]
def pe (xs ys : List D) (j : Nat) : Bool := match xs[j]?, ys[j]? with | some x, some y => (dq x y).getD false | _, _ => false
theorem dqs_all : ∀ (xs ys : List D) (b : Bool), dqs xs ys = some b → (List.range (min xs.length ys.length)).all (pe xs ys) = b
  | [], ys, b, h => by simp only [dqs] at h; cases h; simp
  | x :: xs, [], b, h => by simp only [dqs] at h; cases h; simp
  | x :: xs, y :: ys, b, h => by
    simp only [dqs] at h
    cases z : dq x y with
    | none => rw [z] at h; cases h
    | some c =>
      rw [z] at h
      dsimp only at h
      cases z2 : dqs xs ys with
      | none => rw [z2] at h; cases h
      | some c2 =>
        rw [z2] at h; cases h
        have ih := dqs_all xs ys c2 z2
        have hm : min (x :: xs).length (y :: ys).length = min xs.length ys.length + 1 := by simp only [List.length_cons]; omega
        rw [hm, List.range_succ_eq_map, List.all_cons, List.all_map]
        have h0 : pe (x :: xs) (y :: ys) 0 = c := by simp [pe, z]
        have hs : (pe (x :: xs) (y :: ys) ∘ Nat.succ) = pe xs ys := by funext j; simp [pe]
        rw [h0, hs, ih]
theorem le_dep {x : D} {xs : List D} : dep x ≤ deps (x :: xs) ∧ deps xs ≤ deps (x :: xs) := by
  simp only [deps]; omega
section
variable {X : Cx} {pins : List (Addr × Obj)} {σ : L2.St} {H : Hp} {s : Shared}
/-- unlike kinds -/
theorem eq_unlike (I : Inv X pins σ H s) {A : Around} {d e : D} {v w : V} {u u' : Value} {i : Nat} {b : Bool} (hd : knd d = some i) (r : Rep X.K H d v) (q : Rep X.K H e w) (ru : RelV v u) (rq : RelV w u') (h : dqk i e = some b) (hu : A.units < cLine) :
    b = false ∧ EqAt A s u u' b ∧ RcAt A s u u' b ∧ RcNeAt A s u u' (!b) := by
  obtain ⟨rfl, j, e1, ne⟩ := dqk_of h
  exact ⟨rfl, eq_kinds hu (vk_of I r ru hd) (vk_of I q rq e1) ne⟩
mutual
theorem eq_ok (I : Inv X pins σ H s) : ∀ (d e : D) (v w : V) (u u' : Value) (b : Bool) (A : Around), Rep X.K H d v → Rep X.K H e w → RelV v u → RelV w u' → dq d e = some b → A.units + dep d < cLine → EqAt A s u u' b
  | .non, e, v, w, u, u', b, A, r, q, ru, rq, h, hu => by
    cases e with
    | non => simp only [dq] at h; cases h; simp only [Rep] at r q; subst r q; cases ru; cases rq; exact EqAt.same _
    | _ => simp only [dq] at h; exact (eq_unlike I (d := .non) rfl r q ru rq h (by simpa [dep] using hu)).2.1
  | .bl x, e, v, w, u, u', b, A, r, q, ru, rq, h, hu => by
    cases e with
    | bl y => simp only [dq] at h; cases h; simp only [Rep] at r q; subst r q; cases ru; cases rq; exact EqAt.bool_bool x y
    | int y => simp only [dq] at h; cases h; simp only [Rep] at r q; subst r q; cases ru; obtain ⟨t, rfl⟩ := rq; exact EqAt.bool_int x y t
    | _ => simp only [dq] at h; exact (eq_unlike I (d := .bl x) rfl r q ru rq h (by simpa [dep] using hu)).2.1
  | .int x, e, v, w, u, u', b, A, r, q, ru, rq, h, hu => by
    cases e with
    | bl y => simp only [dq] at h; cases h; simp only [Rep] at r q; subst r q; cases rq; obtain ⟨t, rfl⟩ := ru; exact EqAt.int_bool x t y
    | int y => simp only [dq] at h; cases h; simp only [Rep] at r q; subst r q; obtain ⟨t, rfl⟩ := ru; obtain ⟨t', rfl⟩ := rq; exact EqAt.int_int x t y t'
    | _ => simp only [dq] at h; exact (eq_unlike I (d := .int x) rfl r q ru rq h (by simpa [dep] using hu)).2.1
  | .str x, e, v, w, u, u', b, A, r, q, ru, rq, h, hu => by
    cases e with
    | str y => simp only [dq] at h; cases h; simp only [Rep] at r q; subst r q; obtain ⟨t, rfl⟩ := ru; obtain ⟨t', rfl⟩ := rq; exact EqAt.str_str x t y t'
    | _ => simp only [dq] at h; exact (eq_unlike I (d := .str x) rfl r q ru rq h (by simpa [dep] using hu)).2.1
  | .tup xs, e, v, w, u, u', b, A, r, q, ru, rq, h, hu => by
    cases e with
    | tup ys =>
      have r0 := r
      have q0 := q
      simp only [Rep] at r q
      obtain ⟨a, vs, rfl, h1, r1⟩ := r
      obtain ⟨a', ws, rfl, h2, r2⟩ := q
      cases ru; cases rq
      by_cases ne : a = a'
      · subst ne
        have := dq_same I (.tup xs) (.tup ys) _ b r0 q0 h
        subst this
        exact EqAt.same _
      · simp only [dq] at h
        cases z : dqs xs ys with
        | none => rw [z] at h; cases h
        | some c =>
          rw [z] at h; cases h
          obtain ⟨its, rv, p, _⟩ := I.tuple h1
          obtain ⟨its2, rv2, p2, _⟩ := I.tuple h2
          have l1 : xs.length = its.length := by rw [← r1.length]; exact rv.length
          have l2 : ys.length = its2.length := by rw [← r2.length]; exact rv2.length
          have key := RcAt.tuples (A := A) (e := pe xs ys) p p2 (by omega) fun j j1 j2 => by
            have := eqs_ok I xs ys vs ws its its2 c A.in1 r1 r2 rv rv2 z (by simp only [dep] at hu; show A.units + 1 + _ < _; omega) j (by simpa using j1) (by simpa using j2)
            simpa using this
          have hb : ((List.range (min its.toArray.size its2.toArray.size)).all (pe xs ys) && its.toArray.size == its2.toArray.size) = (c && xs.length == ys.length) := by
            simp only [List.size_toArray]
            rw [← l1, ← l2, dqs_all xs ys c z]
          rw [hb] at key
          exact EqAt.of_refs ne key
    | _ => simp only [dq] at h; exact (eq_unlike I (d := .tup xs) rfl r q ru rq h (by omega)).2.1
  | .lst xs, e, v, w, u, u', b, A, r, q, ru, rq, h, hu => by
    cases e with
    | lst ys =>
      have r0 := r
      have q0 := q
      simp only [Rep] at r q
      obtain ⟨a, vs, rfl, h1, r1⟩ := r
      obtain ⟨a', ws, rfl, h2, r2⟩ := q
      cases ru; cases rq
      by_cases ne : a = a'
      · subst ne
        have := dq_same I (.lst xs) (.lst ys) _ b r0 q0 h
        subst this
        exact EqAt.same _
      · simp only [dq] at h
        obtain ⟨its, rv, p, _⟩ := I.list (SqL.of h1)
        obtain ⟨its2, rv2, p2, _⟩ := I.list (SqL.of h2)
        have l1 : xs.length = its.length := by rw [← r1.length]; exact rv.length
        have l2 : ys.length = its2.length := by rw [← r2.length]; exact rv2.length
        by_cases hl : xs.length = ys.length
        · rw [if_pos (by simpa using hl)] at h
          have key := RcAt.lists (A := A) (e := pe xs ys) p.isList p2.isList (by simp; omega) (by omega) fun j j1 j2 => by
            have := eqs_ok I xs ys vs ws its its2 b A.in1 r1 r2 rv rv2 h (by simp only [dep] at hu; show A.units + 1 + _ < _; omega) j (by simpa using j1) (by simpa using j2)
            simpa using this
          have hb : (List.range its.toArray.size).all (pe xs ys) = b := by
            rw [List.size_toArray, ← l1, ← dqs_all xs ys b h, ← hl, Nat.min_self]
          rw [hb] at key
          exact EqAt.of_refs ne key
        · rw [if_neg (by simpa using hl)] at h
          cases h
          exact EqAt.of_refs ne (RcAt.lists_lengths p.isList p2.isList (by simp; omega) (by omega))
    | _ => simp only [dq] at h; exact (eq_unlike I (d := .lst xs) rfl r q ru rq h (by omega)).2.1
  | .dic ks ds, e, v, w, u, u', b, A, r, q, ru, rq, h, hu => by
    cases e with
    | dic ks' ds' =>
      simp only [dq] at h
      split at h
      · rename_i c
        cases h
        simp only [Rep] at r q
        obtain ⟨a, us, vs, rfl, l1, h1, k1, _⟩ := r
        obtain ⟨a', us', vs', rfl, l2, h2, k2, _⟩ := q
        cases ru; cases rq
        simp only [Bool.and_eq_true, List.isEmpty_iff] at c
        have e1 : us = [] := by have := k1.length; rw [c.1] at this; simpa using this
        have e2 : us' = [] := by have := k2.length; rw [c.2] at this; simpa using this
        subst e1 e2
        obtain ⟨s1, es, ep, g1, z1⟩ := dic_at I h1
        obtain ⟨s2, es', ep', g2, z2⟩ := dic_at I h2
        rw [z1 (by simp)] at g1
        rw [z2 (by simp)] at g2
        by_cases ne : a = a'
        · subst ne; exact EqAt.same _
        · exact EqAt.of_refs ne (Rc_dd g1 g2 s1 s2 (by omega))
      · cases h
    | _ => simp only [dq] at h; exact (eq_unlike I (d := .dic ks ds) rfl r q ru rq h (by omega)).2.1
  | .scr _, _, _, _, _, _, _, _, _, _, _, _, h, _ => by simp [dq] at h
  | .con _, _, _, _, _, _, _, _, _, _, _, _, h, _ => by simp [dq] at h
  | .ins _ _, _, _, _, _, _, _, _, _, _, _, _, h, _ => by simp [dq] at h
theorem eqs_ok (I : Inv X pins σ H s) : ∀ (xs ys : List D) (vs ws : List V) (us us' : List Value) (b : Bool) (A : Around), Reps X.K H xs vs → Reps X.K H ys ws → Vals vs us → Vals ws us' → dqs xs ys = some b → A.units + deps xs < cLine →
    ∀ (j : Nat) (h1 : j < us.length) (h2 : j < us'.length), EqAt A s us[j] us'[j] (pe xs ys j)
  | [], ys, vs, ws, us, us', b, A, r, q, rv, rw', h, hu, j, h1, h2 => by
    simp only [Reps] at r; subst r
    cases rv; exact absurd h1 (Nat.not_lt_zero _)
  | x :: xs, [], vs, ws, us, us', b, A, r, q, rv, rw', h, hu, j, h1, h2 => by
    simp only [Reps] at q; subst q
    cases rw'; exact absurd h2 (Nat.not_lt_zero _)
  | x :: xs, y :: ys, vs, ws, us, us', b, A, r, q, rv, rw', h, hu, j, h1, h2 => by
    simp only [Reps] at r q
    obtain ⟨v, vs', rfl, r1, r2⟩ := r
    obtain ⟨w, ws', rfl, q1, q2⟩ := q
    cases rv with
    | cons a1 a2 =>
      cases rw' with
      | cons b1 b2 =>
        simp only [dqs] at h
        cases z : dq x y with
        | none => rw [z] at h; cases h
        | some c =>
          rw [z] at h
          dsimp only at h
          cases z2 : dqs xs ys with
          | none => rw [z2] at h; cases h
          | some c2 =>
            have hd := le_dep (x := x) (xs := xs)
            cases j with
            | zero =>
              have e0 : pe (x :: xs) (y :: ys) 0 = c := by simp [pe, z]
              rw [e0]
              exact eq_ok I x y v w _ _ c A r1 q1 a1 b1 z (by omega)
            | succ j =>
              have e0 : pe (x :: xs) (y :: ys) (j + 1) = pe xs ys j := by simp [pe]
              rw [e0]
              exact eqs_ok I xs ys vs' ws' _ _ c2 A r2 q2 a2 b2 z2 (by omega) j (Nat.lt_of_succ_lt_succ h1) (Nat.lt_of_succ_lt_succ h2)
end
/-- == and != as operators -/
theorem rc_ok (I : Inv X pins σ H s) {d e : D} {v w : V} {u u' : Value} {b : Bool} {A : Around} (r : Rep X.K H d v) (q : Rep X.K H e w) (ru : RelV v u) (rq : RelV w u') (h : dq d e = some b) (hu : A.units + dep d < cLine) : RcAt A s u u' b ∧ (RcNeAt A s u u' (!b) ∨ knd d = some 5) := by
  cases d with
  | non =>
    cases e with
    | non => simp only [dq] at h; cases h; simp only [Rep] at r q; subst r q; cases ru; cases rq; exact ⟨RcAt.none_none, .inl RcNeAt.none_none⟩
    | _ => simp only [dq] at h; exact (eq_unlike I (d := .non) rfl r q ru rq h (by simpa [dep] using hu)).2.2.imp id .inl
  | bl x =>
    cases e with
    | bl y => simp only [dq] at h; cases h; simp only [Rep] at r q; subst r q; cases ru; cases rq; exact ⟨RcAt.bool_bool x y, .inl (RcNeAt.bool_bool x y)⟩
    | int y => simp only [dq] at h; cases h; simp only [Rep] at r q; subst r q; cases ru; obtain ⟨t, rfl⟩ := rq; exact ⟨RcAt.bool_int x y t, .inl (RcNeAt.bool_int x y t)⟩
    | _ => simp only [dq] at h; exact (eq_unlike I (d := .bl x) rfl r q ru rq h (by simpa [dep] using hu)).2.2.imp id .inl
  | int x =>
    cases e with
    | bl y => simp only [dq] at h; cases h; simp only [Rep] at r q; subst r q; cases rq; obtain ⟨t, rfl⟩ := ru; exact ⟨RcAt.int_bool x t y, .inl (RcNeAt.int_bool x t y)⟩
    | int y => simp only [dq] at h; cases h; simp only [Rep] at r q; subst r q; obtain ⟨t, rfl⟩ := ru; obtain ⟨t', rfl⟩ := rq; exact ⟨RcAt.int_int x t y t', .inl (RcNeAt.int_int x t y t')⟩
    | _ => simp only [dq] at h; exact (eq_unlike I (d := .int x) rfl r q ru rq h (by simpa [dep] using hu)).2.2.imp id .inl
  | str x =>
    cases e with
    | str y => simp only [dq] at h; cases h; simp only [Rep] at r q; subst r q; obtain ⟨t, rfl⟩ := ru; obtain ⟨t', rfl⟩ := rq; exact ⟨RcAt.str_str x t y t', .inl (RcNeAt.str_str x t y t')⟩
    | _ => simp only [dq] at h; exact (eq_unlike I (d := .str x) rfl r q ru rq h (by simpa [dep] using hu)).2.2.imp id .inl
  | tup xs =>
    cases e with
    | tup ys =>
      simp only [Rep] at r q
      obtain ⟨a, vs, rfl, h1, r1⟩ := r
      obtain ⟨a', ws, rfl, h2, r2⟩ := q
      cases ru; cases rq
      simp only [dq] at h
      cases z : dqs xs ys with
      | none => rw [z] at h; cases h
      | some c =>
        rw [z] at h; cases h
        obtain ⟨its, rv, p, _⟩ := I.tuple h1
        obtain ⟨its2, rv2, p2, _⟩ := I.tuple h2
        have l1 : xs.length = its.length := by rw [← r1.length]; exact rv.length
        have l2 : ys.length = its2.length := by rw [← r2.length]; exact rv2.length
        have he : ∀ j (j1 : j < its.toArray.size) (j2 : j < its2.toArray.size), EqAt A.in1 s its.toArray[j] its2.toArray[j] (pe xs ys j) := fun j j1 j2 => by
          have := eqs_ok I xs ys vs ws its its2 c A.in1 r1 r2 rv rv2 z (by simp only [dep] at hu; show A.units + 1 + _ < _; omega) j (by simpa using j1) (by simpa using j2)
          simpa using this
        have hb : ((List.range (min its.toArray.size its2.toArray.size)).all (pe xs ys) && its.toArray.size == its2.toArray.size) = (c && xs.length == ys.length) := by
          simp only [List.size_toArray]
          rw [← l1, ← l2, dqs_all xs ys c z]
        have k1 := RcAt.tuples (A := A) (e := pe xs ys) p p2 (by omega) he
        have k2 := RcNeAt.tuples (A := A) (e := pe xs ys) p p2 (by omega) he
        rw [hb] at k1 k2
        exact ⟨k1, .inl k2⟩
    | _ => simp only [dq] at h; exact (eq_unlike I (d := .tup xs) rfl r q ru rq h (by omega)).2.2.imp id .inl
  | lst xs =>
    cases e with
    | lst ys =>
      simp only [Rep] at r q
      obtain ⟨a, vs, rfl, h1, r1⟩ := r
      obtain ⟨a', ws, rfl, h2, r2⟩ := q
      cases ru; cases rq
      simp only [dq] at h
      obtain ⟨its, rv, p, _⟩ := I.list (SqL.of h1)
      obtain ⟨its2, rv2, p2, _⟩ := I.list (SqL.of h2)
      have l1 : xs.length = its.length := by rw [← r1.length]; exact rv.length
      have l2 : ys.length = its2.length := by rw [← r2.length]; exact rv2.length
      by_cases hl : xs.length = ys.length
      · rw [if_pos (by simpa using hl)] at h
        have he : ∀ j (j1 : j < its.toArray.size) (j2 : j < its2.toArray.size), EqAt A.in1 s its.toArray[j] its2.toArray[j] (pe xs ys j) := fun j j1 j2 => by
          have := eqs_ok I xs ys vs ws its its2 b A.in1 r1 r2 rv rv2 h (by simp only [dep] at hu; show A.units + 1 + _ < _; omega) j (by simpa using j1) (by simpa using j2)
          simpa using this
        have hb : (List.range its.toArray.size).all (pe xs ys) = b := by
          rw [List.size_toArray, ← l1, ← dqs_all xs ys b h, ← hl, Nat.min_self]
        have k1 := RcAt.lists (A := A) (e := pe xs ys) p.isList p2.isList (by simp; omega) (by omega) he
        have k2 := RcNeAt.lists (A := A) (e := pe xs ys) p.isList p2.isList (by simp; omega) (by omega) he
        rw [hb] at k1 k2
        exact ⟨k1, .inl k2⟩
      · rw [if_neg (by simpa using hl)] at h
        cases h
        exact ⟨RcAt.lists_lengths p.isList p2.isList (by simp; omega) (by omega), .inl (RcNeAt.lists_lengths p.isList p2.isList (by simp; omega) (by omega))⟩
    | _ => simp only [dq] at h; exact (eq_unlike I (d := .lst xs) rfl r q ru rq h (by omega)).2.2.imp id .inl
  | dic ks ds =>
    cases e with
    | dic ks' ds' =>
      simp only [dq] at h
      split at h
      · rename_i c
        cases h
        simp only [Rep] at r q
        obtain ⟨a, us, vs, rfl, l1, h1, k1, _⟩ := r
        obtain ⟨a', us', vs', rfl, l2, h2, k2, _⟩ := q
        cases ru; cases rq
        simp only [Bool.and_eq_true, List.isEmpty_iff] at c
        have e1 : us = [] := by have := k1.length; rw [c.1] at this; simpa using this
        have e2 : us' = [] := by have := k2.length; rw [c.2] at this; simpa using this
        subst e1 e2
        obtain ⟨s1, es, ep, g1, z1⟩ := dic_at I h1
        obtain ⟨s2, es', ep', g2, z2⟩ := dic_at I h2
        rw [z1 (by simp)] at g1
        rw [z2 (by simp)] at g2
        exact ⟨Rc_dd g1 g2 s1 s2 (by omega), .inr rfl⟩
      · cases h
    | _ => simp only [dq] at h; exact (eq_unlike I (d := .dic ks ds) rfl r q ru rq h (by omega)).2.2.imp id .inl
  | scr _ => simp [dq] at h
  | con _ => simp [dq] at h
  | ins _ _ => simp [dq] at h
end
/-! the rules -/
def eqX (d e : D) : Option D := if Nat.ble (dep d) 60 then (dq d e).map D.bl else none
/-- != (not of two dicts) -/
def neX (d e : D) : Option D := match knd d, knd e with
  | some 5, some 5 => none
  | _, _ => if Nat.ble (dep d) 60 then (dq d e).map fun b => D.bl (!b) else none
def rEqX (K : PySem.W.Frag) : R2 := fun x y H Q => ∃ d e b, Rep K H d x ∧ Rep K H e y ∧ dq d e = some b ∧ dep d ≤ 60 ∧ Q (.bl b) H
def rNeX (K : PySem.W.Frag) : R2 := fun x y H Q => ∃ d e b, Rep K H d x ∧ Rep K H e y ∧ dq d e = some b ∧ dep d ≤ 60 ∧ ¬ (knd d = some 5 ∧ knd e = some 5) ∧ Q (.bl (!b)) H
section
variable {X : Cx}
theorem op_eqX (hu : X.A.units + 64 < cLine) : OpR X (compareOp .Eq) (rEqX X.K) := by
  intro pins s σ H x y v u Q I rx ry h
  obtain ⟨d, e, b, r, q, z, hd, hq⟩ := h
  exact (rc_ok I r q rx ry z (by omega : X.A.units + dep d < cLine)).1 X.prog X.w _ _ ⟨.bl b, H, I, rfl, hq⟩
theorem op_neX (hu : X.A.units + 64 < cLine) : OpR X (compareOp .NotEq) (rNeX X.K) := by
  intro pins s σ H x y v u Q I rx ry h
  obtain ⟨d, e, b, r, q, z, hd, hne, hq⟩ := h
  rcases (rc_ok I r q rx ry z (by omega : X.A.units + dep d < cLine)).2 with k | k
  · exact k X.prog X.w _ _ ⟨.bl (!b), H, I, rfl, hq⟩
  · have hu' : X.A.units < cLine := by omega
    cases d with
    | dic ks ds =>
      have z' := z
      cases e with
      | dic _ _ => exact absurd ⟨rfl, rfl⟩ hne
      | _ => simp only [dq] at z'; exact (eq_unlike I (d := .dic ks ds) rfl r q rx ry z' hu').2.2.2 X.prog X.w _ _ ⟨.bl (!b), H, I, rfl, hq⟩
    | _ => cases k
theorem od_eqX {K : PySem.W.Frag} : OpD K (rEqX K) eqX := by
  intro G H d1 d2 d v1 v2 Q s r1 r2 e q
  unfold eqX at e
  split at e
  · rename_i c
    cases z : dq d1 d2 with
    | none => rw [z] at e; cases e
    | some b =>
      rw [z] at e; cases e
      exact ⟨d1, d2, b, Rep.mono s _ _ r1, Rep.mono s _ _ r2, z, by simpa using c, q _ H G (PStp.refl s) (rep_bl _)⟩
  · cases e
theorem od_neX {K : PySem.W.Frag} : OpD K (rNeX K) neX := by
  intro G H d1 d2 d v1 v2 Q s r1 r2 e q
  unfold neX at e
  split at e
  · cases e
  · rename_i hn
    split at e
    · rename_i c
      cases z : dq d1 d2 with
      | none => rw [z] at e; cases e
      | some b =>
        rw [z] at e; cases e
        exact ⟨d1, d2, b, Rep.mono s _ _ r1, Rep.mono s _ _ r2, z, by simpa using c, fun k => hn k.1 k.2, q _ H G (PStp.refl s) (rep_bl _)⟩
    · cases e
end
end M

namespace M
open PySem PySem.Spec PyProof.Rows L2
variable [Tabs]

/-! ### repr, empty dicts in it -/
mutual
def plainE : D → Bool
  | .tup ds => plainsE ds
  | .lst ds => plainsE ds
  | .dic ks ds => ks.isEmpty && ds.isEmpty
  | .scr _ => false
  | .con _ => false
  | .ins _ _ => false
  | _ => true
def plainsE : List D → Bool
  | [] => true
  | d :: ds => plainE d && plainsE ds
end
mutual
def noLst : D → Bool
  | .tup ds => noLsts ds
  | .lst _ => false
  | _ => true
def noLsts : List D → Bool
  | [] => true
  | d :: ds => noLst d && noLsts ds
end
section
variable {X : Cx} {pins : List (Addr × Obj)} {σ : L2.St} {H : Hp} {s : Shared}
mutual
theorem reads_of (I : Inv X pins σ H s) : ∀ (d : D) (v : V) (u : Value), plainE d = true → Rep X.K H d v → RelV v u → ∃ as, Reads s.heap u (pd d) as ∧ (noLst d = true → sysModules ∉ as)
  | .non, v, u, _, r, q => by simp only [Rep] at r; subst r; cases q; exact ⟨_, by simp only [pd]; exact Reads.none, fun _ => by simp⟩
  | .bl b, v, u, _, r, q => by simp only [Rep] at r; subst r; cases q; exact ⟨_, by simp only [pd]; exact Reads.bool b, fun _ => by simp⟩
  | .int i, v, u, _, r, q => by simp only [Rep] at r; subst r; obtain ⟨t, rfl⟩ := q; exact ⟨_, by simp only [pd]; exact Reads.int i t, fun _ => by simp⟩
  | .str x, v, u, _, r, q => by simp only [Rep] at r; subst r; obtain ⟨t, rfl⟩ := q; exact ⟨_, by simp only [pd]; exact Reads.str x t, fun _ => by simp⟩
  | .tup ds, v, u, p, r, q => by
    simp only [Rep] at r
    obtain ⟨a, vs, rfl, h1, r1⟩ := r
    cases q
    obtain ⟨its, rv, ⟨o, ho, hc, n, hd⟩, _⟩ := I.tuple h1
    obtain ⟨as, hr, hn⟩ := readsAll_of I ds vs its (by simpa only [plainE] using p) r1 rv
    exact ⟨_, by simp only [pd]; exact Reads.tuple ho hc hd (by simpa using hr), fun z => hn (by simpa only [noLst] using z)⟩
  | .lst ds, v, u, p, r, q => by
    simp only [Rep] at r
    obtain ⟨a, vs, rfl, h1, r1⟩ := r
    cases q
    obtain ⟨its, rv, ⟨o, n, ho, hc, _, hd⟩, _⟩ := I.list (SqL.of h1)
    obtain ⟨as, hr, _⟩ := readsAll_of I ds vs its (by simpa only [plainE] using p) r1 rv
    exact ⟨_, by simp only [pd]; exact Reads.list ho hc hd (by simpa using hr), fun z => by simp [noLst] at z⟩
  | .dic ks ds, v, u, p, r, q => by
    simp only [plainE, Bool.and_eq_true, List.isEmpty_iff] at p
    obtain ⟨rfl, rfl⟩ := p
    simp only [Rep, Reps] at r
    obtain ⟨a, us, vs, rfl, l, h1, k1, k2⟩ := r
    subst k2
    have e1 : us = [] := by simpa using k1
    subst e1
    cases q
    obtain ⟨sm, es, ep, g, z⟩ := dic_at I h1
    rw [z rfl] at g
    refine ⟨_, by simp only [pd, pds, List.zip_nil_left]; exact Reads.dict g rfl rfl .nil .nil, fun _ hm => ?_⟩
    have : sysModules = a := by simpa using hm
    rw [← this] at sm
    simp at sm
  | .scr _, _, _, p, _, _ => by simp [plainE] at p
  | .con _, _, _, p, _, _ => by simp [plainE] at p
  | .ins _ _, _, _, p, _, _ => by simp [plainE] at p
theorem readsAll_of (I : Inv X pins σ H s) : ∀ (ds : List D) (vs : List V) (us : List Value), plainsE ds = true → Reps X.K H ds vs → Vals vs us → ∃ as, ReadsAll s.heap us (pds ds) as ∧ (noLsts ds = true → sysModules ∉ as)
  | [], vs, us, _, r, q => by
    simp only [Reps] at r; subst r
    cases q
    exact ⟨_, by simp only [pds]; exact .nil, fun _ => by simp⟩
  | d :: ds, vs, us, p, r, q => by
    simp only [Reps] at r
    obtain ⟨v, w, rfl, r1, r2⟩ := r
    simp only [plainsE, Bool.and_eq_true] at p
    cases q with
    | cons q1 q2 =>
      obtain ⟨as, h1, n1⟩ := reads_of I d v _ p.1 r1 q1
      obtain ⟨bs, h2, n2⟩ := readsAll_of I ds w _ p.2 r2 q2
      refine ⟨_, by simp only [pds]; exact .cons h1 h2, fun z => ?_⟩
      simp only [noLsts, Bool.and_eq_true] at z
      rw [List.mem_append, not_or]
      exact ⟨n1 z.1, n2 z.2⟩
end
end
def showDX (d : D) : Bool := plainE d && (pd d).showable && (!(pd d).hasDict || noLst d) && Nat.ble (pd d).depth 60 && Nat.ble (pd d).shown.length sizeLine
def showX : D → Bool
  | .non => true
  | .bl _ => true
  | .int i => Nat.blt i.natAbs.log2 1920
  | .str x => Nat.ble (reprText x).length sizeLine
  | .tup ds => showDX (.tup ds)
  | .lst ds => showDX (.lst ds)
  | .dic ks ds => showDX (.dic ks ds)
  | _ => false
def reprX : List D → Option D
  | [d] => if showX d = true then some (.str (pd d).shown) else none
  | _ => none
section
variable {X : Cx}
def rReprX (K : PySem.W.Frag) : List V → Hp → VK → Prop := fun vs H Q => ∃ v d, vs = [v] ∧ Rep K H d v ∧ showX d = true ∧ Q (.str (pd d).shown) H
theorem cr_reprX (hg : X.A.guards = some []) (hu : X.A.units + 66 < cLine) : CallR X (.builtin "repr") (rReprX X.K) := by
  intro pins s σ H xs us Q I r h
  obtain ⟨v, d, rfl, hd, ok, q⟩ := h
  obtain ⟨u, rfl, ru⟩ := vals1 r
  have disp : ∀ a, u = .ref a → showDX d = true → wpAny (model X.prog X.w) X.A (call (.builtin "repr") [u]) (EP X pins σ Q) X.xe s := fun a e ok => by
    simp only [showDX, Bool.and_eq_true, Nat.ble_eq, Bool.or_eq_true, Bool.not_eq_true'] at ok
    obtain ⟨⟨⟨⟨o1, o2⟩, o3⟩, o4⟩, o5⟩ := ok
    obtain ⟨as, rd, hn⟩ := reads_of I d v u o1 hd ru
    subst e
    refine repr_of_reads' rd o2 (fun z => hn (o3.resolve_left fun k => by rw [z] at k; cases k)) hg (by omega) (fun _ _ e => e) (fun h' u tk hk => ⟨.str _, H, I.kept hk, ⟨u, rfl⟩, q⟩) o5
  cases d with
  | non => simp only [Rep] at hd; subst hd; cases ru; exact PySem.P.repr_of_none ⟨.str _, H, I.tok _, ⟨_, rfl⟩, q⟩
  | bl b =>
    simp only [Rep] at hd; subst hd; cases ru
    refine PySem.P.repr_of_bool ⟨.str (if b then "True" else "False"), H, I.tok _, ⟨_, by cases b <;> rfl⟩, ?_⟩
    simp only [pd, PyData.shown] at q
    cases b <;> simpa using q
  | int i =>
    simp only [Rep] at hd; subst hd
    obtain ⟨t, rfl⟩ := ru
    exact PySem.P.repr_of_int (by simpa [showX, Nat.blt, Nat.succ_le_iff] using ok) ⟨.str _, H, I.tok _, ⟨_, rfl⟩, q⟩
  | str x =>
    simp only [Rep] at hd; subst hd
    obtain ⟨t, rfl⟩ := ru
    exact PySem.P.repr_of_str ⟨.str _, H, I.tok _, ⟨_, rfl⟩, by simpa only [pd, PyData.shown] using q⟩ (by simpa [showX] using ok)
  | tup ds =>
    have hd' := hd
    simp only [Rep] at hd'
    obtain ⟨a, vs, rfl, _⟩ := hd'
    exact disp a ru ok
  | lst ds =>
    have hd' := hd
    simp only [Rep] at hd'
    obtain ⟨a, vs, rfl, _⟩ := hd'
    exact disp a ru ok
  | dic ks ds =>
    have hd' := hd
    simp only [Rep] at hd'
    obtain ⟨a, us, vs, rfl, _⟩ := hd'
    exact disp a ru ok
  | _ => cases ok
theorem cd_reprX {K : PySem.W.Frag} : CallD K (rReprX K) reprX := by
  intro G H ds d vs Q s r e q
  unfold reprX at e
  split at e
  · rename_i d0
    split at e
    · rename_i c
      obtain ⟨v, rfl, r1⟩ := reps1 r
      cases e
      exact ⟨v, d0, rfl, Rep.mono s _ _ r1, c, q _ H G (PStp.refl s) (rep_str _)⟩
    · cases e
  · cases e
end
/-! {} -/
theorem de_dic0 {X : Cx} {pos : Pos} : PE X (.Dict [] [] pos) (rd X.K (eC (.dic [] []))) := by
  refine pe_imp pe_dnewK fun σ H Q ⟨ρ, G, I, h⟩ p hp => ?_
  have P := PStp.laid (o := .dK []) I.sub hp
  refine h _ _ _ P.stp (I.pure P) ?_
  simp only [Rep]
  exact ⟨p, [], [], rfl, rfl, upd_same, Reps.nil, Reps.nil⟩
/-! min of a list, index of a list -/
def minL : List D → Option D
  | [.lst ds] => (match asInts ds with | some (n :: ns) => some (.int (ns.foldl (fun a b => if iLt b a then b else a) n)) | _ => none)
  | _ => none
theorem foldmin : ∀ (ns : List Int) (n : Int), (ns.foldl (fun a b => if iLt b a then b else a) n ∈ n :: ns) ∧ ∀ y ∈ n :: ns, ns.foldl (fun a b => if iLt b a then b else a) n ≤ y
  | [], n => by simp
  | m :: ns, n => by
    obtain ⟨h1, h2⟩ := foldmin ns (if iLt m n then m else n)
    simp only [List.foldl_cons]
    refine ⟨?_, fun y hy => ?_⟩
    · rcases List.mem_cons.mp h1 with e | e
      · rw [e]; split <;> simp
      · simp [e]
    · have h0 := h2 _ List.mem_cons_self
      rw [iLt_eq] at h0
      rcases List.mem_cons.mp hy with e | e
      · subst e
        rw [iLt_eq]
        by_cases c : m < y
        · simp only [c, decide_true, if_true] at h0 ⊢; omega
        · simp only [c, decide_false, if_false] at h0 ⊢; exact h0
      · rcases List.mem_cons.mp e with e | e
        · subst e
          rw [iLt_eq]
          by_cases c : y < n
          · simp only [c, decide_true, if_true] at h0 ⊢; exact h0
          · simp only [c, decide_false, if_false] at h0 ⊢; omega
        · exact h2 y (List.mem_cons_of_mem _ e)
theorem cd_minL {K : PySem.W.Frag} : CallD K (rMin K) minL := by
  intro G H ds d vs Q s r e q
  unfold minL at e
  split at e
  · rename_i ds'
    obtain ⟨v, rfl, r1⟩ := reps1 r
    simp only [Rep] at r1
    obtain ⟨a, us, rfl, h1, q1⟩ := r1
    split at e
    · rename_i n ns hi
      cases e
      rw [asInts_eq hi] at q1
      refine ⟨a, n :: ns, rfl, ?_, by simp, fun m hm hle => ?_⟩
      · rw [← q1.ints]; exact SqL.of (s _ _ h1)
      · obtain ⟨h2, h3⟩ := foldmin ns n
        have : m = ns.foldl (fun a b => if iLt b a then b else a) n := by
          have a1 := hle _ h2
          have a2 := h3 m hm
          omega
        subst this
        exact q _ H G (PStp.refl s) (rep_int _)
    · cases e
  · cases e
/-- where an item first stands -/
def idxF (x : D) : List D → Option Nat
  | [] => none
  | y :: ys => if eqF y x then some 0 else (idxF x ys).map (· + 1)
def idxD (l : D) (ds : List D) : Option D := match l, ds with
  | .lst ys, [x] => if flatD x = true ∧ ys.all flatD = true then (idxF x ys).map fun j => .int (j : Nat) else none
  | _, _ => none
theorem idxF_of {K : PySem.W.Frag} {G : Hp} {x : D} {w : V} (rx : Rep K G x w) (fx : flatD x = true) : ∀ {ys : List D} {vs : List V} {j : Nat}, Reps K G ys vs → ys.all flatD = true → idxF x ys = some j → ∃ z, vs[j]? = some z ∧ eqV z w = true ∧ ∀ (m : Nat) (z' : V), m < j → vs[m]? = some z' → eqV z' w = false
  | [], vs, j, r, _, h => by cases h
  | y :: ys, vs, j, r, hf, h => by
    simp only [Reps] at r
    obtain ⟨v, us, rfl, r1, r2⟩ := r
    rw [List.all_cons, Bool.and_eq_true] at hf
    unfold idxF at h
    by_cases c : eqF y x = true
    · rw [if_pos c] at h; cases h
      exact ⟨v, rfl, by rw [eqF_of r1 rx hf.1 fx]; exact c, fun m z' hm => absurd hm (Nat.not_lt_zero _)⟩
    · rw [if_neg c] at h
      cases z : idxF x ys with
      | none => rw [z] at h; cases h
      | some k =>
        rw [z] at h; cases h
        obtain ⟨z', e1, e2, e3⟩ := idxF_of rx fx r2 hf.2 z
        refine ⟨z', by simpa using e1, e2, fun m z'' hm e => ?_⟩
        cases m with
        | zero => simp at e; subst e; rw [eqF_of r1 rx hf.1 fx]; simpa using c
        | succ m => exact e3 m z'' (Nat.lt_of_succ_lt_succ hm) (by simpa using e)
/-- e.m(..), a method of a list that only reads -/
def eMet (op : D → List D → Option D) (fa : FE) (fs : FA) : FE := bnd fa fun x => bndA fs fun ds => fun ρ => ofO (op x ds) ρ
theorem de_index {X : Cx} {a e : Expr} {fa fe : FE} {pos apos : Pos} (ha : PE X a (rd X.K fa)) (he : PE X e (rd X.K fe)) (hbase : attributeBase a "index" X.env (eval a X.env) = eval a X.env := by rfl)
    (hse : starEach [e] X.env = (false, eval e X.env) :: starEach [] X.env := by rfl)
    (hfew : ((backTo pos (starEach [e] X.env)).all (fun x => !x.1) && (backToKw pos (keywordEach [] X.env)).all (fun x => x.1.isSome)
      && decide (([e] : List Expr).length + ([] : List Keyword).length + (if ([] : List Keyword).isEmpty then 0 else 1) < 30)) = true := by rfl)
    (hline : (apos.endLine == pos.line) = true := by rfl) : PE X (.Call (.Attribute a "index" apos) [e] [] pos) (rd X.K (eMet idxD fa (aCons fe aNil))) := by
  refine pe_imp (pe_bm PySem.F.plainAttrs_list PySem.F.slot_list_index PySem.F.type_list_index mt_index ha (pa_cons he pa_nil hse) hbase hfew hline hse) fun σ H Q ⟨ρ, G, I, h⟩ => ?_
  refine rd_of I (rdK_mono (rdK_bnd h) fun v H1 ⟨d1, ρ1, G1, s1, I1, r1, h1⟩ => ?_)
  have key : ∀ ys, d1 = .lst ys → ∃ a vs, v = .ref a ∧ G1 a = some (.lst vs) ∧ Reps X.K G1 ys vs := fun ys z => by
    subst z; simp only [Rep] at r1; exact r1
  -- the argument
  unfold rdK bndA aCons aNil at h1
  dsimp only [Rz.bind] at h1
  cases e1 : fe ρ1 with
  | ex _ _ => rw [e1] at h1; exact h1.elim
  | no => rw [e1] at h1; exact h1.elim
  | ok p =>
    obtain ⟨d2, ρ2⟩ := p
    rw [e1] at h1
    dsimp only at h1
    cases e2 : idxD d1 [d2] with
    | none => rw [e2] at h1; exact h1.elim
    | some d3 =>
      rw [e2] at h1
      dsimp only [ofO] at h1
      rw [frc_eq] at h1
      unfold idxD at e2
      split at e2
      · rename_i ys x hx
        cases hx
        split at e2
        · rename_i c
          cases e3 : idxF d2 ys with
          | none => rw [e3] at e2; cases e2
          | some j =>
            rw [e3] at e2; cases e2
            obtain ⟨a, vs, rfl, g1, rr⟩ := key ys rfl
            refine ⟨tyV_list (I1.sub _ _ g1), ?_⟩
            refine rd_of I1 ?_
            unfold rdK
            rw [e1]
            intro w H2 G2 s2 I2 r2
            have rr2 := Reps.mono s2.sub _ _ rr
            obtain ⟨z, k1, k2, k3⟩ := idxF_of r2 c.1 rr2 c.2 e3
            exact ⟨a, vs, w, j, z, rfl, rfl, SqL.of (I2.sub _ _ (s2.sub _ _ g1)), flat_of r2 c.1, flats_of rr2 c.2, k1, k2, k3, h1 _ H2 G2 s2 I2 (rep_int _)⟩
        · cases e2
      · cases e2
end M

namespace M
open PySem PySem.Spec PyProof.Rows L2
variable [Tabs]

/-! ### targets: a tuple of targets -/
def tAll : List TgD → List D → Rho → Option Rho
  | [], [], ρ => some ρ
  | t :: ts, d :: ds, ρ => (t d ρ).bind (tAll ts ds)
  | _, _, _ => none
def tTup (ts : List TgD) : TgD := fun d ρ => match d with | .tup ds => tAll ts ds ρ | _ => none
def rdGs (K : PySem.W.Frag) (is : List Nat) (ts : List TgD) : TGs := fun vs σ H Q => ∃ ρ G ds, SR K G H σ ρ ∧ Reps K G ds vs ∧ ∃ ρ', tAll ts ds ρ = some ρ' ∧
  ∀ σ', Stp σ ρ G H σ' ρ' G H → SR K G H σ' ρ' → Only is σ σ' → Q σ' H
theorem Only.trans {is : List Nat} {σ σ1 σ2 : L2.St} (a : Only is σ σ1) (b : Only is σ1 σ2) : Only is σ σ2 := ⟨b.1.trans a.1, fun k h => (b.2 k h).trans (a.2 k h)⟩
theorem tAll_len : ∀ {ts : List TgD} {ds : List D} {ρ ρ' : Rho}, tAll ts ds ρ = some ρ' → ds.length = ts.length
  | [], [], _, _, _ => rfl
  | [], _ :: _, _, _, h => by cases h
  | _ :: _, [], _, _, h => by cases h
  | t :: ts, d :: ds, ρ, ρ', h => by
    unfold tAll at h
    cases q : t d ρ with
    | none => rw [q] at h; cases h
    | some ρ1 => rw [q] at h; rw [List.length_cons, List.length_cons, tAll_len h]
section
variable {X : Cx} {e : Expr} {es : List Expr} {is : List Nat} {t : TgD} {ts : List TgD} {pos : Pos} {k : Nat}
theorem dgs_nil : PGs X [] (rdGs X.K is []) := by
  refine ⟨fun pins s σ H vs us Q I r ⟨ρ, G, ds, J, rd, ρ', e, q⟩ => pgs_nil.run pins s σ H vs us Q I r ?_⟩
  cases ds with
  | nil =>
    cases e
    simp only [Reps] at rd
    exact ⟨rd, q σ (Stp.refl _ _ _ _) J Only.refl⟩
  | cons _ _ => cases e
theorem dgs_cons (h : PG X e (rdG X.K is t)) (r : PGs X es (rdGs X.K is ts)) (hs : (assignEach (e :: es) X.env).map (·.2) = assign e X.env :: (assignEach es X.env).map (·.2) := by rfl) : PGs X (e :: es) (rdGs X.K is (t :: ts)) := by
  refine ⟨fun pins s σ H vs us Q I rv ⟨ρ, G, ds, J, rd, ρ', e0, q⟩ => (pgs_cons h r hs).run pins s σ H vs us Q I rv ?_⟩
  cases ds with
  | nil => cases e0
  | cons d ds =>
    unfold tAll at e0
    cases z : t d ρ with
    | none => rw [z] at e0; cases e0
    | some ρ1 =>
      rw [z] at e0
      simp only [Reps] at rd
      obtain ⟨v, w, rfl, r1, r2⟩ := rd
      exact ⟨v, w, rfl, ρ, G, d, J, r1, ρ1, z, fun σ1 s1 J1 o1 => ⟨ρ1, G, ds, J1, r2, ρ', e0, fun σ2 s2 J2 o2 => q σ2 (s1.trans s2) J2 (o1.trans o2)⟩⟩
theorem dg_tup (hc : X.calm = true) (h : PGs X es (rdGs X.K is ts)) (hn : (assignEach es X.env).length = ts.length := by rfl) (hst : (assignEach es X.env).findIdx? (·.1) = none := by rfl) : PG X (.Tuple es k pos) (rdG X.K is (tTup ts)) := by
  refine ⟨fun pins s σ H v u Q I r ⟨ρ, G, d, J, rd, ρ', e, q⟩ => (pg_tup hc h hn hst).run pins s σ H v u Q I r ?_⟩
  unfold tTup at e
  split at e
  · rename_i ds
    simp only [Rep] at rd
    obtain ⟨a, vs, rfl, h1, r1⟩ := rd
    exact ⟨a, vs, rfl, SqT.mono J.sub h1, by rw [r1.length, tAll_len e], ρ, G, ds, J, r1, ρ', e, q⟩
  · cases e
end
/-! target = value -/
def sAsg (tg : TgD) (fe : FE) : FS := bndS fe fun d => fun ρ => match tg d ρ with | some ρ' => .ok (.nx, ρ') | none => .no
theorem ds_asg {X : Cx} {tg e : Expr} {is : List Nat} {t : TgD} {fe : FE} {pos : Pos} (he : PE X e (rd X.K fe)) (hg : PG X tg (rdG X.K is t)) (hs : swapsWithSole [tg] e pos.line X.env = pure false := by rfl) (hw : swappedStores [tg] e X.env = pure none := by rfl)
    (h1 : (assignEach [tg] X.env).map (·.2) = [assign tg X.env] := by rfl) : PS X (.Assign [tg] e pos) (rdS X.K (sAsg t fe)) := by
  refine ps_imp (ps_asg he hg hs hw h1) fun D σ H ⟨ρ, G, I, h⟩ => ?_
  refine rd_of I (rdK_mono (rdSK_bnd h) fun v H1 ⟨d, ρ1, G1, s1, I1, r1, h1⟩ => ?_)
  unfold rdSK at h1
  dsimp only at h1
  cases z : t d ρ1 with
  | none => rw [z] at h1; exact h1.elim
  | some ρ2 =>
    rw [z] at h1
    exact ⟨ρ1, G1, d, I1, r1, ρ2, z, fun σ' s2 I2 _ => h1 σ' H1 G1 s2 I2⟩

/-! ### x[k] op= e, x one's own -/
theorem get_list {X : Cx} : PGet X (rIxL X.K) := by
  intro pins s σ H x y v u Q I rx ry h
  obtain ⟨p, xs, i, z, rfl, rfl, hq, he, q⟩ := h
  cases rx
  obtain ⟨t, rfl⟩ := ry
  obtain ⟨its, r, pl, hz⟩ := I.list hq
  obtain ⟨j, h1, h2, h3, h4, h5⟩ := atI_get he
  obtain ⟨w, ew, rw'⟩ := r.get h2
  have hl := r.length
  have hn := line63
  by_cases h0 : 0 ≤ i
  · have hj : i.toNat = j := by
      rw [seqIndex_of h0 h5] at h1
      exact Option.some.inj h1
    exact wpAny_getItem_list (x := w) pl.isList h0 (by omega) (by rw [hj]; simpa using ew) ⟨z, H, I, rw', q⟩
  · have hj : (i + (its.toArray.size : Int)).toNat = j := by
      rw [seqIndex_neg (by omega) h4] at h1
      rw [List.size_toArray, ← hl]
      exact Option.some.inj h1
    exact wpAny_getItem_list_neg (x := w) pl.isList (by omega) (by rw [List.size_toArray] <;> omega) (by omega) (by rw [hj]; simpa using ew) ⟨z, H, I, rw', q⟩
def sAugO (j : Nat) (op : D → D → Option D) (fk fe : FE) : FS := fun ρ => match ownL ρ j with
  | none => .no
  | some _ => (bndS fk fun i => fun ρ1 => match ownL ρ1 j, i with
    | some (_, ds), .int i => (match atI ds i with
      | some x => (bndS fe fun y => fun ρ2 => match ownL ρ2 j, op x y with
        | some (io, es), some z => (match ixN es.length i with | some n => .ok (.nx, ρ2.set j (some (.own io (es.set n z)))) | none => .no)
        | _, _ => .no) ρ1
      | none => .no)
    | _, _ => .no) ρ
theorem ds_augO {X : Cx} {k e : Expr} {fk fe : FE} {op : D → D → Option D} {o : Operator} {ti : TIp} {pos tpos px : Pos} {x : Str} (j : Nat) (hd : IpD X.K ti op) (ho : PIp X o ti) (hk : PE X k (rd X.K fk)) (he : PE X e (rd X.K fe)) (hN : X.N[j]? = some x := by rfl)
    (hv : Vis X.env.scope x := by first | exact Or.inl rfl | exact Or.inr (Or.inl rfl) | exact Or.inr (Or.inr rfl)) (hdb : (x == ("__debug__" : Str)) = false := by decide) (hcd : (x == ("__classdict__" : Str)) = false := by decide)
    (ha : ∀ ov iv new, augStore k ov iv new = (do holding [new, ov, iv] (setItem ov iv new); release [new, ov, iv] []; pure .next) := by intros; rfl) :
    PS X (.AugAssign (.Subscript (.Name x px) k tpos) o e pos) (rdS X.K (sAugO j op fk fe)) := by
  refine ps_imp (ps_augS (pe_var (i := j) hN hv hdb hcd) hk get_list he ho set_list ha) fun D σ H ⟨ρ, G, I, h⟩ => ?_
  unfold rdSK sAugO at h
  cases q : ownL ρ j with
  | none => rw [q] at h; exact h.elim
  | some p =>
    obtain ⟨io, ds⟩ := p
    rw [q] at h
    obtain ⟨a, vs, e1, e2, e3, r⟩ := I.own q
    refine ⟨.ref a, e1, ?_⟩
    refine rd_of I (rdK_mono (rdSK_bnd (σ := σ) (ρ := ρ) (G := G) (H := H) (Dn := D) h) fun u H1 ⟨di, ρ1, G1, s1, I1, r1, h1⟩ => ?_)
    unfold rdSK at h1
    dsimp only at h1
    cases q1 : ownL ρ1 j with
    | none => rw [q1] at h1; exact h1.elim
    | some p1 =>
      obtain ⟨io1, ds1⟩ := p1
      rw [q1] at h1
      obtain ⟨a1, vs1, f1, f2, f3, r3⟩ := I1.own q1
      rw [e1] at f1; cases f1
      cases di with
      | int i =>
        dsimp only at h1
        simp only [Rep] at r1
        subst r1
        cases qx : atI ds1 i with
        | none => rw [qx] at h1; exact h1.elim
        | some x0 =>
          rw [qx] at h1
          dsimp only at h1
          obtain ⟨v0, g1, g2⟩ := atI_reps r3 qx
          refine ⟨a, vs1, i, v0, rfl, rfl, SqL.of f2, g1, ?_⟩
          refine rd_of I1 (rdK_mono (rdSK_bnd (σ := σ) (ρ := ρ1) (G := G1) (H := H1) (Dn := D) h1) fun w H2 ⟨dy, ρ2, G2, s2, I2, r2, h2⟩ => ?_)
          unfold rdSK at h2
          dsimp only at h2
          cases q2 : ownL ρ2 j with
          | none => rw [q2] at h2; exact h2.elim
          | some p2 =>
            obtain ⟨io2, ds2⟩ := p2
            cases qo : op x0 dy with
            | none => rw [q2, qo] at h2; exact h2.elim
            | some z =>
              rw [q2, qo] at h2
              dsimp only at h2
              refine hd G2 H2 x0 dy z v0 w _ I2.sub (Rep.mono s2.sub _ _ g2) r2 qo fun v3 H3 G3 P3 r4 => ?_
              have I3 := I2.pure P3
              obtain ⟨a2, vs2, k1, k2, k3, r5⟩ := I3.own q2
              rw [e1] at k1; cases k1
              cases qn : ixN ds2.length i with
              | none => rw [qn] at h2; exact h2.elim
              | some n =>
                rw [qn] at h2
                obtain ⟨A, B⟩ := I3.mut' q2 e1 k2 k3 (Reps.set n r4 r5)
                exact ⟨a, vs2, i, n, rfl, rfl, k2, by rw [r5.length]; exact qn, h2 σ _ G3 (P3.stp.trans B) A⟩
      | _ => exact h1.elim

/-! ### enumerate(tuple), enumerate(list) -/
/-- the tuple at a, each item in a new pair -/
def IteT (K : PySem.W.Frag) (a : Addr) : It :=
  ⟨fun i H => ∃ (xs : List V) (x : V), SqT K H a xs ∧ xs[i]? = some x, fun i H v H' => ∃ T x, v = .ref T ∧ H T = none ∧ H' = upd H T (.tup [.int (i : Nat), x]) ∧ ∀ xs, SqT K H a xs → xs[i]? = some x, fun i H => ∃ xs : List V, SqT K H a xs ∧ xs.length ≤ i⟩
theorem meets_enum1 {v : Value} {o : Obj} {H : Heap → Prop} (B : Begins v o H) :
    Meets (Builtin.«enumerate.__new__» ⟨[.type "enumerate", v], []⟩) (fun _ R s => H s.heap ∧
      R (.ok (.ret (.ref (s.heap.push o).objs.size))) { s with heap := (s.heap.push o).push { cls := .type "enumerate", data := .fields #[.none, .bool false, .ref s.heap.objs.size, rawInt 0, .none, .none] } }) :=
  .of_wp fun prog w A R s h => by
    obtain ⟨hp, g, d, tk, os⟩ := s
    obtain ⟨h1, h⟩ := h
    have hsub := sub_enumerate
    have it : ∀ {A' : Around} {E : Value → Shared → Prop} {Q : Value → Shared → Prop}, Q (.ref hp.objs.size) ⟨hp.push o, g, d, tk, os⟩ → wpAny (model prog w) A' (pyIter v) Q E ⟨hp, g, d, tk, os⟩ :=
      fun q => B.iter prog w _ _ ⟨hp, g, d, tk, os⟩ _ h1 q
    wp_walk using it
    refine wpAny_stack_any fun st => wpAny_pure ?_
    split
    · rename_i c _ _ _ _ _
      cases (c == Value.type "enumerate") <;> (wp_walk using it; exact ⟨_, rfl, h⟩)
    · wp_walk using it
      exact ⟨_, rfl, h⟩
theorem enum_new {prog : Program} {w : World} {A : Around} {E : Value → Shared → Prop} {s : Shared} {v : Value} {o : Obj} {H : Heap → Prop} {Q : Value → Shared → Prop} (B : Begins v o H) (h1 : H s.heap)
    (h : ∀ h', IsEnum h' (s.heap.objs.size + 1) s.heap.objs.size 0 .none → h'.get? s.heap.objs.size = some o → (∀ b o, s.heap.get? b = some o → h'.get? b = some o) → Q (.ref (s.heap.objs.size + 1)) { s with heap := h' }) :
    wpAny (model prog w) A (call (.type "enumerate") [v]) Q E s := by
  refine callType_new F.called_enumerate (by decide) (F.typeCall_enumerate_1 _) (F.newCall_enumerate_1 _) (fun obj => F.args_object_init_2 obj _) F.entry_enumerate_new (meets_enum1 B) ⟨h1, ?_⟩
  have hz : (s.heap.push o).objs.size = s.heap.objs.size + 1 := Heap.size_push ..
  have he := Heap.get?_push_size (s.heap.push o) (o := { cls := .type "enumerate", data := .fields #[.none, .bool false, .ref s.heap.objs.size, rawInt 0, .none, .none] }) rfl
  rw [hz] at he
  show _ ∧ _
  rw [hz]
  exact ⟨⟨_, he, rfl⟩, h _ he (Heap.get?_push_of_some _ (Heap.get?_push_size _ B.free)) fun b o x => Heap.get?_push_of_some _ (Heap.get?_push_of_some _ x)⟩
theorem turn_enumT {P : Program} {w : World} {K : PySem.W.Frag} {elts : List Expr} {kk : Nat} {tpos : Pos} (a e it : Addr) :
    Turn P w K (.Tuple elts kk tpos) (IteT K a) [e, it] e (fun i h => (∃ old, IsEnum h e it ((i : Nat) : Int) old) ∧ h.IsTupleIter it a i ∧ e ≠ it) where
  mem := List.mem_cons_self
  obj := fun i h st b hb => by
    obtain ⟨⟨old, he⟩, ⟨o, ho, hc, hd⟩, _⟩ := st
    rcases List.mem_cons.mp hb with z | z
    · subst z; exact ⟨_, he, fun v q => nomatch q⟩
    · rw [List.mem_singleton.mp z]
      exact ⟨o, ho, fun v q => by rw [hd] at q; cases q⟩
  keep := fun i h h' st k => by
    obtain ⟨⟨old, he⟩, hi, hne⟩ := st
    exact ⟨⟨old, k e (by simp) _ he⟩, hi.at fun o q => k it (by simp) o q, hne⟩
  item := by
    intro X hP hw hK hc i pins s σ H E I hf st hg
    subst hP hw hK
    obtain ⟨⟨old, he⟩, hit, hne⟩ := st
    obtain ⟨xs, x, hq, hx⟩ := hg
    obtain ⟨its, rv, p, hz⟩ := I.tuple hq
    obtain ⟨u, hu, ru⟩ := rv.get hx
    have hlt : i < its.toArray.size := by simpa using (List.getElem?_eq_some_iff.mp hu).1
    have nea : e ≠ a := fun z => by
      subst z
      obtain ⟨o, ho, hc, _⟩ := p
      rw [he] at ho; cases ho; simp at hc
    have nit : a ≠ it := fun z => by
      subst z
      obtain ⟨o, ho, hc, _⟩ := p
      obtain ⟨o2, ho2, hc2, _⟩ := hit
      rw [ho] at ho2; cases ho2; rw [hc] at hc2; simp at hc2
    have D := Draws.tuple (prog := X.prog) (w := X.w) (A := X.A.in1) (I.ok.hd hc) it a nit its.toArray
    have hel : e < s.heap.objs.size := Heap.lt_size he
    have hil : it < s.heap.objs.size := by obtain ⟨_, q, _⟩ := hit; exact Heap.lt_size q
    refine wpAny_pyNext_enum_itemD D he ⟨hit, p⟩ hlt hne (by simp [nea, hne]) fun y h' tk hy ho st' hT hsz hk => ?_
    have ey : y = u := by
      have : its.toArray[i]? = some u := by simpa using hu
      rw [this] at hy; cases hy; rfl
    subst ey
    refine ⟨_, rfl, wpAny_letOwnedTupleGo_enum (s := { s with heap := h', toks := tk + 1 }) ho fun h'' he' sb => ?_⟩
    have hT2 : h''.get? s.heap.objs.size = some { cls := .type "tuple", data := .seq #[.int i tk, y] } := (sb.2 _ (Nat.ne_of_gt hel)).trans hT
    have new : ObjOk X.prog X.w (upd H s.heap.objs.size (.tup [.int (i : Nat), x])) h'' s.heap.objs.size (.tup [.int (i : Nat), x]) :=
      ⟨by show 2 ≤ sizeLine; decide, [.int i tk, y], .cons ⟨_, rfl⟩ (.cons ru .nil), ⟨_, hT2, rfl, _, rfl⟩⟩
    have I1 : Inv X pins σ (upd H s.heap.objs.size (.tup [.int (i : Nat), x])) { s with heap := h'', toks := tk + 1 } :=
      I.turnedNew (ch := [e, it]) (fun b ob hb q => (sb.2 b (fun z => hb (by simp [z]))).trans (hk b ob (fun z => hb (by simp [z])) (fun z => hb (by simp [z])) q)) hf (Nat.le_refl _) new
    refine ⟨.ref s.heap.objs.size, _, I1, rfl, ⟨_, x, rfl, I.hok.fresh (Nat.le_refl _), rfl, fun ys hy => by rw [I.tuple_inj hy hq]; exact hx⟩, ⟨⟨y, ?_⟩, st'.1.at fun o q => (sb.2 it (Ne.symm hne)).trans q, hne⟩, fun b hb => ?_⟩
    · have e1 : ((i + 1 : Nat) : Int) = (i : Int) + 1 := by omega
      rw [e1]; exact he'
    · have hb' : b < s.heap.objs.size := by
        rcases List.mem_cons.mp hb with z | z
        · rw [z]; exact hel
        · rw [List.mem_singleton.mp z]; exact hil
      rw [upd_ne (Nat.ne_of_lt hb')]
      exact (hf b hb).1
  done := by
    intro X hP hw hK hc i pins s σ H E I hf st hg
    subst hP hw hK
    obtain ⟨⟨old, he⟩, hit, hne⟩ := st
    obtain ⟨xs, hq, hx⟩ := hg
    obtain ⟨its, rv, p, hz⟩ := I.tuple hq
    obtain ⟨f0, f1, f2, f3, f4, f5⟩ := hf it (by simp)
    have hl := rv.length
    have nit : a ≠ it := fun z => by
      subst z
      obtain ⟨o, ho, hc, _⟩ := p
      obtain ⟨o2, ho2, hc2, _⟩ := hit
      rw [ho] at ho2; cases ho2; rw [hc] at hc2; simp at hc2
    have hend : its.toArray[i]? = none := by simp; omega
    have hT : s.TypeIs (.ref e) "enumerate" := ⟨_, he, rfl⟩
    unfold pyNext
    refine wpAny_bind (wpAny_attempt (wpAny_callSpecial?_slot (name := Str.ofString "__next__") hT F.slot_enumerate_next
      (wpAny_call_entry F.slot_enumerate_next hT F.entry_enumerate_next ?_ (F.args_enumerate_next_1 _))))
    show wpAny _ _ (field (.ref e) 2 >>= _) _ _ _
    refine wpAny_bind (wpAny_field he rfl (x := .ref it) rfl ?_)
    refine wpAny_bind (wpAny_nextOf_tuple_end (I.ok.hd hc) hit p hend fun h' x eb hx' => ?_)
    obtain ⟨o, ho, hco⟩ := hx'
    refine wpAny_bind (wpAny_isInstance (T := "StopIteration") (b := true) ⟨o, ho, hco⟩ isSubtype_stop ?_)
    exact wpAny_pure ⟨rfl, I.turned (t' := s.toks) (fun b o hb q => eb b o hb q) f0 f1 f3 f4 f5⟩
  self := fun A i s Q E st h => by
    obtain ⟨⟨old, he⟩, _⟩ := st
    exact wpAny_pyIter_enum he h
def iEnumT (K : PySem.W.Frag) (ta : TA) : TI := fun σ H R => ta σ H fun vs H1 => ∃ a xs, vs = [.ref a] ∧ SqT K H1 a xs ∧ R (IteT K a) H1
theorem pi_enumT {X : Cx} {e : Expr} {ta : TA} {p pos tpos : Pos} {elts : List Expr} {kk : Nat} (hg : Gl X "enumerate") (hm : X.mg "enumerate" = none) (ha : PA X [e] ta) (hs : starEach [e] X.env = [(false, eval e X.env)] := by rfl) :
    PI X (.Tuple elts kk tpos) (.Call (.Name "enumerate" p) [e] [] pos) (iEnumT X.K ta) := by
  refine ⟨fun pins s σ H R I h => ?_⟩
  refine Call_ (ld_blt I hg hm boot_enumerate (PyProof.Rows.callWith_type1 (thn (ha.run pos pins s σ H _ I h) fun us s1 ⟨vs, H1, I1, r1, q1⟩ => ?_) hs rfl))
  obtain ⟨a, xs, ex, hq, q⟩ := q1
  subst ex
  obtain ⟨u, rfl, ru⟩ := vals1 r1
  cases ru
  obtain ⟨its, rv, p', hz⟩ := I1.tuple hq
  refine enum_new (begins_tuple a its.toArray) p' fun h' he hit hk => wpAny_pyIter_enum he ?_
  have I2 : Inv X pins σ H1 { s1 with heap := h' } := I1.kept (t' := s1.toks) hk
  refine ⟨s1.heap.objs.size + 1, [s1.heap.objs.size + 1, s1.heap.objs.size], _, _, H1, rfl, I2, turn_enumT a (s1.heap.objs.size + 1) s1.heap.objs.size, ⟨⟨.none, he⟩, ⟨_, hit, rfl, rfl⟩, Nat.succ_ne_self _⟩, fun b hb => ?_, q⟩
  have hle : s1.heap.objs.size ≤ b := by
    rcases List.mem_cons.mp hb with z | z
    · rw [z]; exact Nat.le_add_right _ _
    · rw [List.mem_singleton.mp z]; exact Nat.le_refl _
  exact I1.fpOk hle (I1.hok.fresh hle)
/-- pairs (place, item) -/
def enD (ds : List D) : List D := ds.mapIdx fun i d => .tup [.int (i : Nat), d]
def enOf : List D → Option (List D) | [.tup ds] => some (enD ds) | [.lst ds] => some (enD ds) | _ => none
theorem enOf_of {l es : List D} (h : enOf l = some es) : (∃ ds, l = [.tup ds] ∧ es = enD ds) ∨ ∃ ds, l = [.lst ds] ∧ es = enD ds := by
  unfold enOf at h
  split at h
  · cases h; exact .inl ⟨_, rfl, rfl⟩
  · cases h; exact .inr ⟨_, rfl, rfl⟩
  · cases h
def iEn (fs : FA) : FI := fun ρ => (fs ρ).bind fun p => match enOf p.1 with | some es => .ok (es, p.2) | none => .no
theorem pair_rep {K : PySem.W.Frag} {G0 G H H' : Hp} {T : Addr} {v w : V} {d e : D} (s1 : Same G0 G) (s2 : Same G H) (hT : H T = none) (r1 : Rep K G0 d v) (r2 : Rep K G0 e w) (e1 : H' = upd H T (.tup [v, w])) : ∃ G', PStp G H G' H' ∧ Rep K G' (.tup [d, e]) (.ref T) := by
  subst e1
  exact ⟨_, PStp.laid s2 hT, Rep.tup_new (s2.free hT) (Reps.cons (Rep.mono s1 _ _ r1) (Reps.cons (Rep.mono s1 _ _ r2) Reps.nil))⟩
theorem itD_enL {K : PySem.W.Frag} {G0 : Hp} {a : Addr} {vs : List V} {ds : List D} (h : SqL K G0 a vs) (r : Reps K G0 ds vs) : ItD K G0 (Ite K a) (enD ds) := by
  intro i G H s1 s2
  have hH := SqL.mono s2 (SqL.mono s1 h)
  refine ⟨fun d e => ?_, fun e => ⟨vs, hH, by rw [r.length]; exact Nat.le_of_eq (by simpa [enD] using e)⟩⟩
  unfold enD at e
  rw [List.getElem?_mapIdx] at e
  cases q : ds[i]? with
  | none => rw [q] at e; cases e
  | some d0 =>
    rw [q] at e; cases e
    obtain ⟨v, e1, rv⟩ := r.get q
    refine ⟨⟨vs, v, hH, e1⟩, fun x H' y => ?_⟩
    obtain ⟨T, x0, rfl, hT, e2, y⟩ := y
    have := y vs hH
    rw [e1] at this
    cases this
    exact pair_rep s1 s2 hT (rep_int _) rv e2
theorem itD_enT {K : PySem.W.Frag} {G0 : Hp} {a : Addr} {vs : List V} {ds : List D} (h : SqT K G0 a vs) (r : Reps K G0 ds vs) : ItD K G0 (IteT K a) (enD ds) := by
  intro i G H s1 s2
  have hH := SqT.mono s2 (SqT.mono s1 h)
  refine ⟨fun d e => ?_, fun e => ⟨vs, hH, by rw [r.length]; exact Nat.le_of_eq (by simpa [enD] using e)⟩⟩
  unfold enD at e
  rw [List.getElem?_mapIdx] at e
  cases q : ds[i]? with
  | none => rw [q] at e; cases e
  | some d0 =>
    rw [q] at e; cases e
    obtain ⟨v, e1, rv⟩ := r.get q
    refine ⟨⟨vs, v, hH, e1⟩, fun x H' y => ?_⟩
    obtain ⟨T, x0, rfl, hT, e2, y⟩ := y
    have := y vs hH
    rw [e1] at this
    cases this
    exact pair_rep s1 s2 hT (rep_int _) rv e2
theorem di_enum {X : Cx} {e : Expr} {fs : FA} {p pos tpos : Pos} {elts : List Expr} {kk : Nat} (hg : Gl X "enumerate") (hm : X.mg "enumerate" = none) (ha : PA X [e] (rdA X.K fs)) (hs : starEach [e] X.env = [(false, eval e X.env)] := by rfl) :
    PI X (.Tuple elts kk tpos) (.Call (.Name "enumerate" p) [e] [] pos) (rdI X.K (iEn fs)) := by
  refine pi_imp (pi_or (pi_enum hg hm ha hs) (pi_enumT hg hm ha hs)) fun σ H R ⟨ρ, G, I, h⟩ => ?_
  unfold rdIK iEn at h
  cases e0 : fs ρ with
  | ex _ _ => rw [e0] at h; exact h.elim
  | no => rw [e0] at h; exact h.elim
  | ok q =>
    obtain ⟨ds, ρ1⟩ := q
    rw [e0] at h
    dsimp only [Rz.bind] at h
    cases z : enOf ds with
    | none => rw [z] at h; exact h.elim
    | some es =>
      rw [z] at h
      dsimp only at h
      rcases enOf_of z with ⟨ds0, rfl, rfl⟩ | ⟨ds0, rfl, rfl⟩
      · right
        refine rdA_of I ?_
        unfold rdAK
        rw [e0]
        intro vs H1 G1 s1 I1 r1
        obtain ⟨v, rfl, rv⟩ := reps1 r1
        simp only [Rep] at rv
        obtain ⟨a, us, rfl, h1, q1⟩ := rv
        exact ⟨a, us, rfl, SqT.mono I1.sub h1, h _ H1 G1 s1 I1 (itD_enT h1 q1)⟩
      · left
        refine rdA_of I ?_
        unfold rdAK
        rw [e0]
        intro vs H1 G1 s1 I1 r1
        obtain ⟨v, rfl, rv⟩ := reps1 r1
        simp only [Rep] at rv
        obtain ⟨a, us, rfl, h1, q1⟩ := rv
        exact ⟨a, us, rfl, SqL.of (I1.sub _ _ h1), h _ H1 G1 s1 I1 (itD_enL (SqL.of h1) q1)⟩
end M

namespace M
open PySem PySem.Spec PyProof.Rows L2

/-! ### zip(a, b), a and b lists or tuples; zip(a, b, strict=True) of equal lengths -/
/-- k: a tuple; else a list -/
def SIt (k : Bool) (h : Heap) (it a : Addr) (i : Nat) : Prop := if k then h.IsTupleIter it a i else h.IsListIter it a i
def SSq (k : Bool) (h : Heap) (a : Addr) (items : Array Value) : Prop := if k then h.IsTuple a items else h.IsList a items
def SqK (k : Bool) (K : PySem.W.Frag) (H : Hp) (a : Addr) (xs : List V) : Prop := if k then SqT K H a xs else SqL K H a xs
def itObj (k : Bool) (a : Addr) : Obj := if k then { cls := .type "tuple_iterator", data := .fields #[.ref a, .int 0 0] } else { cls := .type "list_iterator", data := .fields #[.ref a, .int 0 0] }
section
variable {k : Bool} {h h' : Heap} {it a : Addr} {i : Nat} {items : Array Value}
theorem SSq.obj (s : SSq k h a items) : ∃ o, h.get? a = some o ∧ (∃ n, o.data = .seq items n) := by
  cases k with
  | true => obtain ⟨o, e, _, n, d⟩ := (show h.IsTuple a items from s); exact ⟨o, e, n, d⟩
  | false => obtain ⟨o, e, _, n, d⟩ := (show h.IsList a items from s); exact ⟨o, e, n, d⟩
theorem SIt.obj (s : SIt k h it a i) : ∃ o, h.get? it = some o ∧ ∃ vs, o.data = .fields vs := by
  cases k with
  | true => obtain ⟨o, e, _, d⟩ := (show h.IsTupleIter it a i from s); exact ⟨o, e, _, d⟩
  | false => obtain ⟨o, e, _, d⟩ := (show h.IsListIter it a i from s); exact ⟨o, e, _, d⟩
theorem SIt.at (s : SIt k h it a i) (q : ∀ o, h.get? it = some o → h'.get? it = some o) : SIt k h' it a i := by
  cases k with
  | true => exact Heap.IsTupleIter.at (show h.IsTupleIter it a i from s) q
  | false => exact Heap.IsListIter.at (show h.IsListIter it a i from s) q
theorem SSq.at (s : SSq k h a items) (q : ∀ o, h.get? a = some o → h'.get? a = some o) : SSq k h' a items := by
  cases k with
  | true => exact Heap.IsTuple.at (show h.IsTuple a items from s) q
  | false => exact Heap.IsList.at (show h.IsList a items from s) q
theorem sit_new (s : h.get? it = some (itObj k a)) : SIt k h it a 0 := by
  cases k with
  | true => exact ⟨_, s, rfl, rfl⟩
  | false => exact ⟨_, s, rfl, rfl⟩
theorem sq_it (q : SSq k h a items) (s : SIt k h it (show Addr from it) i → False) (z : SIt k h it a i) : a ≠ it := fun e => by
  subst e
  exact s z
theorem sq_ne_it {k2 : Bool} {b : Addr} {j : Nat} (q : SSq k h a items) (s : SIt k2 h it b j) : a ≠ it := fun e => by
  subst e
  obtain ⟨o, e1, n, d1⟩ := q.obj
  obtain ⟨o2, e2, vs, d2⟩ := s.obj
  rw [e1] at e2; cases e2
  rw [d1] at d2; cases d2
end
theorem begins_k (k : Bool) (a : Addr) (items : Array Value) : Begins (.ref a) (itObj k a) fun h => SSq k h a items := by
  cases k with
  | true => exact begins_tuple a items
  | false => exact begins_list a items
theorem draws_k {prog : Program} {w : World} {A : Around} (k : Bool) (hh : A.handled = none) (it a : Addr) (ne : a ≠ it) (items : Array Value) :
    Draws prog w A it [it, a] items.size (fun i v => items[i]? = some v) (fun i h => SIt k h it a i ∧ SSq k h a items) := by
  cases k with
  | true => exact Draws.tuple hh it a ne items
  | false => exact Draws.list hh it a ne items
section
variable {X : Cx} {pins : List (Addr × Obj)} {σ : L2.St} {H : Hp} {s : Shared} {k : Bool} {a : Addr} {xs ys : List V}
theorem inv_sq (I : Inv X pins σ H s) (h : SqK k X.K H a xs) : ∃ its : List Value, Vals xs its ∧ SSq k s.heap a its.toArray := by
  cases k with
  | true => obtain ⟨its, r, p, _⟩ := I.tuple (show SqT X.K H a xs from h); exact ⟨its, r, p⟩
  | false => obtain ⟨its, r, p, _⟩ := I.list (show SqL X.K H a xs from h); exact ⟨its, r, p.isList⟩
theorem sq_inj (I : Inv X pins σ H s) (h : SqK k X.K H a xs) (h' : SqK k X.K H a ys) : xs = ys := by
  cases k with
  | true => exact I.tuple_inj h h'
  | false => exact I.list_inj h h'
end
/-- a zip object; b: strict -/
def ZipO (b : Bool) (h : Heap) (z TI TO : Addr) (f0 : Value) : Prop := h.get? z = some { cls := .type "zip", dict := none, data := .fields #[f0, .bool false, .bool b, .ref TI, .ref TO], slots := #[] }
/-! strict: one turn -/
section
variable {prog : Program} {w : World} {A : Around} {E : Value → Shared → Prop} {s : Shared}
theorem nextE_item {it : Addr} {fp : List Addr} {n i : Nat} {P : Nat → Value → Prop} {St : Nat → Heap → Prop} {Q : Option Value → Shared → Prop} (D : Draws prog w A it fp n P St) (hi : i < n) (st : St i s.heap)
    (h : ∀ x h' tk, P i x → St (i + 1) h' → Heap.SameBut it s.heap h' → Q (some x) { s with heap := h', toks := tk }) : wpAny (model prog w) A (Builtin.SmallTypes.nextOrEnd (.ref it)) Q E s := by
  unfold Builtin.SmallTypes.nextOrEnd
  exact wpAny_bind (wpAny_attempt (D.item i s _ _ hi st fun x h' tk a b c => wpAny_pure (h x h' tk a b c)))
theorem nextE_end {it : Addr} {fp : List Addr} {n : Nat} {P : Nat → Value → Prop} {St : Nat → Heap → Prop} {Q : Option Value → Shared → Prop} (D : Draws prog w A it fp n P St) (st : St n s.heap)
    (h : ∀ h', Heap.ExtBut it s.heap h' → Q none { s with heap := h' }) : wpAny (model prog w) A (Builtin.SmallTypes.nextOrEnd (.ref it)) Q E s := by
  unfold Builtin.SmallTypes.nextOrEnd
  refine wpAny_bind (wpAny_attempt (D.done s _ _ st fun h' e eb he => ?_))
  obtain ⟨o, ho, hc⟩ := he
  exact wpAny_bind (wpAny_isInstance (T := "StopIteration") (b := true) ⟨o, ho, hc⟩ isSubtype_stop (wpAny_pure (h h' eb)))
variable {z TI TO i1 i2 : Addr} {fp1 fp2 : List Addr} {n1 n2 i : Nat} {P1 P2 : Nat → Value → Prop} {St1 St2 : Nat → Heap → Prop} {a1 a2 : Value}
theorem zipS_item {Q : Value → Shared → Prop} (S : ZipSep2 z TI TO i1 i2 fp1 fp2) (D1 : Draws prog w A i1 fp1 n1 P1 St1) (D2 : Draws prog w A i2 fp2 n2 P2 St2)
    (hz : ZipO true s.heap z TI TO .none) (hTI : IsTupOf2 s.heap TI (.ref i1) (.ref i2)) (hTO : IsTupOf2 s.heap TO a1 a2) (st1 : St1 i s.heap) (st2 : St2 i s.heap) (l1 : i < n1) (l2 : i < n2)
    (hQ : ∀ x1 x2 h' tk, P1 i x1 → P2 i x2 → ZipO true h' z TI TO (rawInt s.heap.objs.size) → IsTupOf2 h' TO x1 x2 → St1 (i + 1) h' → St2 (i + 1) h' → IsTupOf2 h' s.heap.objs.size x1 x2 → h'.objs.size = s.heap.objs.size + 1 →
      (∀ c o, c ≠ z → c ≠ TO → c ≠ i1 → c ≠ i2 → s.heap.get? c = some o → h'.get? c = some o) → Q (.ref s.heap.objs.size) { s with heap := h', toks := tk }) :
    wpAny (model prog w) A (Builtin.«zip.__next__» ⟨[.ref z], []⟩) (fun fin s' => ∃ v, fin = .done (.ret v) ∧ Q v s') E s := by
  obtain ⟨hp, gn, dr, t0, os⟩ := s
  show wpAny _ _ (field (.ref z) 2 >>= _) _ _ _
  refine wpAny_bind (wpAny_field hz rfl (x := .bool true) rfl ?_)
  show wpAny _ _ (field (.ref z) 3 >>= _) _ _ _
  refine wpAny_bind (wpAny_field hz rfl (x := .ref TI) rfl (wpAny_bind (wpAny_seqItems hTI rfl ?_)))
  show wpAny _ _ (Builtin.SmallTypes.ownedTupleIsFree (.ref z) >>= _) _ _ _
  refine wpAny_bind ?_
  unfold Builtin.SmallTypes.ownedTupleIsFree
  refine wpAny_bind (wpAny_field hz rfl (x := .none) rfl (wpAny_pure ?_))
  simp only [if_true]
  refine wpAny_bind (wpAny_rule (wpAny_bind (wpAny_field hz rfl (x := .ref TO) rfl (wpAny_bind (wpAny_setField_rec hz (by simp) fun m0 hz0 k0 => ?_)))))
  replace hz0 : ZipO true m0 z TI TO .ellipsis := hz0
  replace k0 : Heap.SameBut z hp m0 := k0
  refine wpAny_bind ?_
  simp only [List.zipIdx_cons, List.zipIdx_nil, List.forIn_cons, List.forIn_nil]
  refine wpAny_bind (wpAny_bind (wpAny_onRaise ?_))
  show wpAny _ _ (Builtin.SmallTypes.nextOrEnd (.ref i1)) _ _ ⟨m0, gn, dr, t0, os⟩
  refine nextE_item D1 l1 (D1.over st1 k0 S.zf1) fun x1 p1 t1 hx1 q1 k1 => ?_
  replace k1 : Heap.SameBut i1 m0 p1 := k1
  have u1 : IsTupOf2 p1 TO a1 a2 := k1.extBut _ _ S.Ti1 (k0.extBut _ _ S.TOz hTO)
  refine wpAny_bind (wpAny_seqItems (s := ⟨p1, gn, dr, t1, os⟩) u1 rfl (wpAny_bind (updateSeq_IsTupOf2 (s := ⟨p1, gn, dr, t1, os⟩) u1 fun m1 v1 k2 => ?_)))
  replace v1 : IsTupOf2 m1 TO x1 a2 := v1
  replace k2 : Heap.SameBut TO p1 m1 := k2
  refine wpAny_bind (wpAny_letGo (wpAny_pure (wpAny_bind (wpAny_bind (wpAny_onRaise ?_)))))
  show wpAny _ _ (Builtin.SmallTypes.nextOrEnd (.ref i2)) _ _ ⟨m1, gn, dr, t1, os⟩
  refine nextE_item D2 l2 (D2.over (D2.over (D2.over st2 k0 S.zf2) k1 S.sep1_2) k2 S.Tf2) fun x2 p2 t2 hx2 q2 k3 => ?_
  replace k3 : Heap.SameBut i2 m1 p2 := k3
  have u2 : IsTupOf2 p2 TO x1 a2 := k3.extBut _ _ S.Ti2 v1
  refine wpAny_bind (wpAny_seqItems (s := ⟨p2, gn, dr, t2, os⟩) u2 rfl (wpAny_bind (updateSeq_IsTupOf2 (s := ⟨p2, gn, dr, t2, os⟩) u2 fun m2 v2 k4 => ?_)))
  replace v2 : IsTupOf2 m2 TO x1 x2 := v2
  replace k4 : Heap.SameBut TO p2 m2 := k4
  refine wpAny_bind (wpAny_letGo (wpAny_pure (wpAny_pure ?_)))
  refine wpAny_bind (wpAny_seqItems (s := ⟨m2, gn, dr, t2, os⟩) v2 rfl (wpAny_bind (wpAny_newTuple ?_)))
  have ez : m2.objs.size = hp.objs.size := by rw [k4.1, k3.1, k2.1, k1.1, k0.1]
  have z2 : ZipO true m2 z TI TO .ellipsis := k4.extBut _ _ S.TOz.symm (k3.extBut _ _ S.zi2 (k2.extBut _ _ S.TOz.symm (k1.extBut _ _ S.zi1 hz0)))
  have kk : ∀ c o, c ≠ z → c ≠ TO → c ≠ i1 → c ≠ i2 → hp.get? c = some o → m2.get? c = some o := fun c o n1 n2 n3 n4 e => k4.extBut _ _ n2 (k3.extBut _ _ n4 (k2.extBut _ _ n2 (k1.extBut _ _ n3 (k0.extBut _ _ n1 e))))
  have f1 : St1 (i + 1) m2 := D1.over (D1.over (D1.over q1 k2 S.Tf1) k3 S.sep2_1) k4 S.Tf1
  have f2 : St2 (i + 1) m2 := D2.over q2 k4 S.Tf2
  have zl : z < m2.objs.size := Heap.lt_size z2
  show wpAny _ _ (Builtin.SmallTypes.ownedTupleHandOut (.ref z) (.ref m2.objs.size) >>= _) _ _ ⟨m2.push { cls := .type "tuple", data := .seq #[x1, x2] }, gn, dr, t2, os⟩
  refine wpAny_bind ?_
  unfold Builtin.SmallTypes.ownedTupleHandOut
  have z3 : ZipO true (m2.push { cls := .type "tuple", data := .seq #[x1, x2] }) z TI TO .ellipsis := Heap.get?_push_of_some _ z2
  refine wpAny_bind (wpAny_setField_rec z3 (by simp) fun m4 z4 k5 => ?_)
  replace z4 : ZipO true m4 z TI TO (rawInt m2.objs.size) := z4
  refine wpAny_setField_rec z4 (by simp) fun m5 z5 k6 => ?_
  replace z5 : ZipO true m5 z TI TO (rawInt m2.objs.size) := z5
  replace k5 : Heap.SameBut z (m2.push { cls := .type "tuple", data := .seq #[x1, x2] }) m4 := k5
  replace k6 : Heap.SameBut z m4 m5 := k6
  have up : ∀ c o, c ≠ z → m2.get? c = some o → m5.get? c = some o := fun c o n e => k6.extBut _ _ n (k5.extBut _ _ n (Heap.get?_push_of_some _ e))
  have tT : IsTupOf2 m5 m2.objs.size x1 x2 := k6.extBut _ _ (Nat.ne_of_gt zl) (k5.extBut _ _ (Nat.ne_of_gt zl) (Heap.get?_push_size _ rfl))
  have e8 : m5.objs.size = m2.objs.size + 1 := by rw [k6.1, k5.1, Heap.size_push]
  rw [ez] at z5 tT e8
  refine wpAny_pure ⟨_, rfl, ?_⟩
  show Q (.ref m2.objs.size) ⟨m5, gn, dr, t2, os⟩
  rw [ez]
  exact hQ x1 x2 m5 t2 hx1 hx2 z5 (up _ _ S.TOz v2) (D1.frame _ _ _ f1 fun b hb o e => up b o (fun q => S.zf1 (q ▸ hb)) e) (D2.frame _ _ _ f2 fun b hb o e => up b o (fun q => S.zf2 (q ▸ hb)) e) tT e8 fun c o c1 c2 c3 c4 e => up c o c1 (kk c o c1 c2 c3 c4 e)
end
end M

namespace M
open PySem PySem.Spec PyProof.Rows L2
section
variable {prog : Program} {w : World} {A : Around} {E : Value → Shared → Prop} {s : Shared} {z TI TO i1 i2 : Addr} {fp1 fp2 : List Addr} {n : Nat} {P1 P2 : Nat → Value → Prop} {St1 St2 : Nat → Heap → Prop} {a1 a2 : Value}
theorem zipS_end {Q : Fin → Shared → Prop} (hh : A.handled = none) (S : ZipSep2 z TI TO i1 i2 fp1 fp2) (D1 : Draws prog w A i1 fp1 n P1 St1) (D2 : Draws prog w A i2 fp2 n P2 St2)
    (hz : ZipO true s.heap z TI TO .none) (hTI : IsTupOf2 s.heap TI (.ref i1) (.ref i2)) (hTO : IsTupOf2 s.heap TO a1 a2) (st1 : St1 n s.heap) (st2 : St2 n s.heap)
    (hE : ∀ h' e, (∀ c o, c ≠ z → c ≠ TO → c ≠ i1 → c ≠ i2 → s.heap.get? c = some o → h'.get? c = some o) → (∃ o, h'.get? e = some o ∧ o.cls = .type "StopIteration") → E (.ref e) { s with heap := h' }) :
    wpAny (model prog w) A (Builtin.«zip.__next__» ⟨[.ref z], []⟩) Q E s := by
  obtain ⟨hp, gn, dr, t0, os⟩ := s
  show wpAny _ _ (field (.ref z) 2 >>= _) _ _ _
  refine wpAny_bind (wpAny_field hz rfl (x := .bool true) rfl ?_)
  show wpAny _ _ (field (.ref z) 3 >>= _) _ _ _
  refine wpAny_bind (wpAny_field hz rfl (x := .ref TI) rfl (wpAny_bind (wpAny_seqItems hTI rfl ?_)))
  show wpAny _ _ (Builtin.SmallTypes.ownedTupleIsFree (.ref z) >>= _) _ _ _
  refine wpAny_bind ?_
  unfold Builtin.SmallTypes.ownedTupleIsFree
  refine wpAny_bind (wpAny_field hz rfl (x := .none) rfl (wpAny_pure ?_))
  simp only [if_true]
  refine wpAny_bind (wpAny_rule (wpAny_bind (wpAny_field hz rfl (x := .ref TO) rfl (wpAny_bind (wpAny_setField_rec hz (by simp) fun m0 hz0 k0 => ?_)))))
  replace hz0 : ZipO true m0 z TI TO .ellipsis := hz0
  replace k0 : Heap.SameBut z hp m0 := k0
  refine wpAny_bind ?_
  simp only [List.zipIdx_cons, List.zipIdx_nil, List.forIn_cons, List.forIn_nil]
  refine wpAny_bind (wpAny_bind (wpAny_onRaise ?_))
  show wpAny _ _ (Builtin.SmallTypes.nextOrEnd (.ref i1)) _ _ ⟨m0, gn, dr, t0, os⟩
  refine nextE_end D1 (D1.over st1 k0 S.zf1) fun p1 k1 => ?_
  replace k1 : Heap.ExtBut i1 m0 p1 := k1
  have z1 : ZipO true p1 z TI TO .ellipsis := k1 _ _ S.zi1 hz0
  show wpAny _ _ (setField (.ref z) 0 .none >>= _) _ _ ⟨p1, gn, dr, t0, os⟩
  refine wpAny_bind (wpAny_setField_rec (s := ⟨p1, gn, dr, t0, os⟩) z1 (by simp) fun m1 _ k2 => ?_)
  replace k2 : Heap.SameBut z p1 m1 := k2
  have keep : ∀ c o, c ≠ z → c ≠ TO → c ≠ i1 → hp.get? c = some o → m1.get? c = some o := fun c o c1 c2 c3 e => k2.extBut _ _ c1 (k1 _ _ c3 (k0.extBut _ _ c1 e))
  have st2' : St2 n m1 := D2.frame _ m0 m1 (D2.over st2 k0 S.zf2) fun b hb o e => k2.extBut _ _ (fun q => S.zf2 (q ▸ hb)) (k1 _ _ (fun q => S.sep1_2 (q ▸ hb)) e)
  refine wpAny_bind (wpAny_bind ?_)
  show wpAny _ _ (if (0 : Nat) > 0 then (pure PUnit.unit : Sem PUnit) else _) _ _ _
  rw [if_neg (by decide)]
  simp only [List.drop_succ_cons, List.drop_zero, List.zipIdx_cons, List.zipIdx_nil, List.forIn_cons, List.forIn_nil]
  refine wpAny_bind (wpAny_bind (nextE_end (s := ⟨m1, gn, dr, t0, os⟩) D2 st2' fun m2 k3 => ?_))
  replace k3 : Heap.ExtBut i2 m1 m2 := k3
  rw [if_neg (by decide)]
  refine wpAny_pure (wpAny_pure (wpAny_bind (wpAny_rule ?_)))
  show wpAny _ _ (newExc (.type "StopIteration") [] >>= _) _ _ _
  refine wpAny_bind ?_
  simp only [newExc, newTuple]
  refine wpAny_bind (wpAny_newObj_type ?_ (by size_fits))
  refine wpAny_bind (m := firstArgMember _ _) (wpAny_of_eq (a := Value.none) (by first | rfl | (simp only [firstArgMember]; rfl)) ?_)
  refine wpAny_newObj_type ?_ (by size_fits)
  simp only [raiseNew]
  refine wpAny_bind (wpAny_handled ?_)
  rw [hh]
  refine wpAny_bind (wpAny_pure (wpAny_throw ?_))
  refine hE _ _ (fun c o c1 c2 c3 c4 e => Heap.get?_push_of_some _ (Heap.get?_push_of_some _ (k3 _ _ c4 (keep c o c1 c2 c3 e)))) ⟨_, Heap.get?_push_size _ rfl, rfl⟩
end
end M

namespace M
open PySem PySem.Spec PyProof.Rows L2

/-- the sequences at a and b, their items in new pairs -/
def ItzM (k1 k2 : Bool) (K : PySem.W.Frag) (a b : Addr) : It :=
  ⟨fun i H => ∃ (xs ys : List V) (x y : V), SqK k1 K H a xs ∧ SqK k2 K H b ys ∧ xs[i]? = some x ∧ ys[i]? = some y ∧ xs.length = ys.length,
    fun i H v H' => ∃ T x y, v = .ref T ∧ H T = none ∧ H' = upd H T (.tup [x, y]) ∧ (∀ xs, SqK k1 K H a xs → xs[i]? = some x) ∧ ∀ ys, SqK k2 K H b ys → ys[i]? = some y,
    fun i H => ∃ xs ys : List V, SqK k1 K H a xs ∧ SqK k2 K H b ys ∧ i = xs.length ∧ i = ys.length⟩
section
variable {prog : Program} {w : World} {A : Around} {E : Value → Shared → Prop} {s : Shared} {z TI TO i1 i2 : Addr} {fp1 fp2 : List Addr} {n i : Nat} {P1 P2 : Nat → Value → Prop} {St1 St2 : Nat → Heap → Prop} {a1 a2 : Value}
theorem next_zip (b : Bool) {Q : Option Value → Shared → Prop} (S : ZipSep2 z TI TO i1 i2 fp1 fp2) (D1 : Draws prog w A.in1 i1 fp1 n P1 St1) (D2 : Draws prog w A.in1 i2 fp2 n P2 St2)
    (hz : ZipO b s.heap z TI TO .none) (hTI : IsTupOf2 s.heap TI (.ref i1) (.ref i2)) (hTO : IsTupOf2 s.heap TO a1 a2) (st1 : St1 i s.heap) (st2 : St2 i s.heap) (l1 : i < n)
    (hQ : ∀ x1 x2 h' tk, P1 i x1 → P2 i x2 → ZipO b h' z TI TO (rawInt s.heap.objs.size) → IsTupOf2 h' TO x1 x2 → St1 (i + 1) h' → St2 (i + 1) h' → IsTupOf2 h' s.heap.objs.size x1 x2 → h'.objs.size = s.heap.objs.size + 1 →
      (∀ c o, c ≠ z → c ≠ TO → c ≠ i1 → c ≠ i2 → s.heap.get? c = some o → h'.get? c = some o) → Q (some (.ref s.heap.objs.size)) { s with heap := h', toks := tk }) :
    wpAny (model prog w) A (pyNext (.ref z)) Q E s := by
  cases b with
  | false => exact wpAny_pyNext_zipD2_item S D1 D2 hz hTI hTO st1 st2 l1 l1 hQ
  | true =>
    have hT : s.TypeIs (.ref z) "zip" := ⟨_, hz, rfl⟩
    unfold pyNext
    exact wpAny_bind (wpAny_attempt (wpAny_callSpecial?_slot (name := Str.ofString "__next__") hT F.slot_zip_next (wpAny_call_entry F.slot_zip_next hT F.entry_zip_next
      (zipS_item S D1 D2 hz hTI hTO st1 st2 l1 l1 fun x1 x2 h' tk y1 y2 y3 y4 y5 y6 y7 y8 y9 => wpAny_pure (hQ x1 x2 h' tk y1 y2 y3 y4 y5 y6 y7 y8 y9)) (F.args_zip_next_1 _))))
theorem end_zip (b : Bool) {Q : Option Value → Shared → Prop} (hh : A.handled = none) (S : ZipSep2 z TI TO i1 i2 fp1 fp2) (D1 : Draws prog w A.in1 i1 fp1 n P1 St1) (D2 : Draws prog w A.in1 i2 fp2 n P2 St2)
    (hz : ZipO b s.heap z TI TO .none) (hTI : IsTupOf2 s.heap TI (.ref i1) (.ref i2)) (hTO : IsTupOf2 s.heap TO a1 a2) (st1 : St1 n s.heap) (st2 : St2 n s.heap)
    (hQ : ∀ h' tk, (∀ c o, c ≠ z → c ≠ TO → c ≠ i1 → c ≠ i2 → s.heap.get? c = some o → h'.get? c = some o) → Q none { s with heap := h', toks := tk }) :
    wpAny (model prog w) A (pyNext (.ref z)) Q E s := by
  cases b with
  | false => exact wpAny_pyNext_zipD2_end S D1 D2 hz hTI hTO st1 st2 (Nat.le_refl _) (Nat.le_refl _) (.inl rfl) hQ
  | true =>
    have hT : s.TypeIs (.ref z) "zip" := ⟨_, hz, rfl⟩
    unfold pyNext
    refine wpAny_bind (wpAny_attempt (wpAny_callSpecial?_slot (name := Str.ofString "__next__") hT F.slot_zip_next (wpAny_call_entry F.slot_zip_next hT F.entry_zip_next
      (zipS_end (show A.in1.handled = none from hh) S D1 D2 hz hTI hTO st1 st2 fun h' e hk he => ?_) (F.args_zip_next_1 _))))
    obtain ⟨o, ho, hc⟩ := he
    exact wpAny_bind (wpAny_isInstance (T := "StopIteration") (b := true) ⟨o, ho, hc⟩ isSubtype_stop (wpAny_pure (hQ h' s.toks hk)))
theorem go_zip (b : Bool) {elts : List Expr} {x1} {pos : Pos} {T : Addr} {Q : Unit → Shared → Prop} (hz : ZipO b s.heap z TI TO (rawInt T)) (hQ : ∀ h', ZipO b h' z TI TO .none → Heap.SameBut z s.heap h' → Q () { s with heap := h' }) :
    wpAny (model prog w) A (letOwnedTupleGo (.Tuple elts x1 pos) (.ref z) (.ref T)) Q E s := by
  unfold letOwnedTupleGo
  refine wpAny_bind (wpAny_load hz ?_)
  show wpAny _ _ (if (_ && (#[rawInt T, .bool false, .bool b, .ref TI, .ref TO] : Array Value)[0]? == some (rawInt T)) = true then _ else _) Q E s
  rw [if_pos (by simp)]
  refine wpAny_bind (wpAny_rule ?_)
  show wpAny _ _ (setField (.ref z) 0 .none) Q E s
  exact wpAny_setField_rec hz (by simp) fun h' h1 h2 => hQ h' h1 h2
theorem self_zip (b : Bool) {f0 : Value} {Q : Value → Shared → Prop} (hz : ZipO b s.heap z TI TO f0) (h : Q (.ref z) s) : wpAny (model prog w) A (pyIter (.ref z)) Q E s := by
  have hT : s.TypeIs (.ref z) "zip" := ⟨_, hz, rfl⟩
  refine wpAny_pyIter_slot hT F.slot_zip_iter (wpAny_call_entry F.slot_zip_iter hT F.entry_zip_iter ?_ (F.args_zip_iter_1 _))
  show wpAny _ _ (ret (.ref z)) _ _ s
  exact wpAny_pure ⟨_, rfl, "zip", _, hT, F.slot_zip_next.lookup, h⟩
end
theorem sep_zip {z TI TO i1 i2 a b : Addr} (D : ZipApart z TI TO i1 i2 a b) : ZipSep2 z TI TO i1 i2 [i1, a] [i2, b] :=
  ⟨D.TIz, D.TOz, D.TITO, D.TIi1, by simp, by simp [D.i1z.symm, D.l1z.symm], by simp [D.TOi1, D.l1TO.symm], D.TIi2, by simp, by simp [D.i2z.symm, D.l2z.symm], by simp [D.TOi2, D.l2TO.symm], by simp [D.i12, D.l2i1.symm], by simp [D.i12.symm, D.l1i2.symm]⟩
theorem turn_zipM {P : Program} {w : World} {K : PySem.W.Frag} {elts : List Expr} {kk : Nat} {tpos : Pos} (c k1 k2 : Bool) {a b z TI TO i1 i2 : Addr} (D : ZipApart z TI TO i1 i2 a b) :
    Turn P w K (.Tuple elts kk tpos) (ItzM k1 k2 K a b) [z, TI, TO, i1, i2] z (fun i h => ZipO c h z TI TO .none ∧ IsTupOf2 h TI (.ref i1) (.ref i2) ∧ (∃ x y, IsTupOf2 h TO x y) ∧ SIt k1 h i1 a i ∧ SIt k2 h i2 b i) where
  mem := by simp
  obj := fun i h st q hq => by
    obtain ⟨hz, hTI, ⟨x, y, hTO⟩, h1, h2⟩ := st
    obtain ⟨o1, e1, v1, d1⟩ := h1.obj
    obtain ⟨o2, e2, v2, d2⟩ := h2.obj
    simp only [List.mem_cons, List.mem_nil_iff, or_false] at hq
    rcases hq with q | q | q | q | q <;> subst q
    · exact ⟨_, hz, fun v z => nomatch z⟩
    · exact ⟨_, hTI, fun v z => nomatch z⟩
    · exact ⟨_, hTO, fun v z => nomatch z⟩
    · exact ⟨o1, e1, fun v z => by rw [d1] at z; cases z⟩
    · exact ⟨o2, e2, fun v z => by rw [d2] at z; cases z⟩
  keep := fun i h h' st k => by
    obtain ⟨hz, hTI, ⟨x, y, hTO⟩, h1, h2⟩ := st
    exact ⟨k z (by simp) _ hz, k TI (by simp) _ hTI, ⟨x, y, k TO (by simp) _ hTO⟩, h1.at fun o q => k i1 (by simp) o q, h2.at fun o q => k i2 (by simp) o q⟩
  item := by
    intro X hP hw hK hc i pins s σ H E I hf st hg
    subst hP hw hK
    obtain ⟨hz, hTI, ⟨x0, y0, hTO⟩, h1, h2⟩ := st
    obtain ⟨xs, ys, x, y, hqx, hqy, hx, hy, hlen⟩ := hg
    obtain ⟨its, rv, p⟩ := inv_sq I hqx
    obtain ⟨its2, rv2, p2⟩ := inv_sq I hqy
    obtain ⟨u, hu, ru⟩ := rv.get hx
    obtain ⟨u2, hu2, ru2⟩ := rv2.get hy
    have hzl : z < s.heap.objs.size := Heap.lt_size hz
    have l1 : i < its.toArray.size := by rw [List.size_toArray]; exact (List.getElem?_eq_some_iff.mp hu).1
    have l2 : its2.toArray.size = its.toArray.size := by rw [List.size_toArray, List.size_toArray, ← rv.length, ← rv2.length, hlen]
    have D1 := draws_k (prog := X.prog) (w := X.w) (A := X.A.in1) k1 (I.ok.hd hc) i1 a (sq_ne_it p h1) its.toArray
    have D2 := draws_k (prog := X.prog) (w := X.w) (A := X.A.in1) k2 (I.ok.hd hc) i2 b (sq_ne_it p2 h2) its2.toArray
    rw [l2] at D2
    refine next_zip c (sep_zip D) D1 D2 hz hTI hTO ⟨h1, p⟩ ⟨h2, p2⟩ l1 fun x1 x2 h' tk ex1 ex2 z' TO' st1' st2' hT hsz hk => ?_
    have q1 : x1 = u := by
      have : its.toArray[i]? = some u := by simpa using hu
      rw [this] at ex1; cases ex1; rfl
    have q2 : x2 = u2 := by
      have : its2.toArray[i]? = some u2 := by simpa using hu2
      rw [this] at ex2; cases ex2; rfl
    subst q1 q2
    refine ⟨_, rfl, go_zip c (s := { s with heap := h', toks := tk }) z' fun h'' z'' sb => ?_⟩
    have hT2 : h''.get? s.heap.objs.size = some { cls := .type "tuple", data := .seq #[x1, x2] } := (sb.2 _ (Nat.ne_of_gt hzl)).trans hT
    have new : ObjOk X.prog X.w (upd H s.heap.objs.size (.tup [x, y])) h'' s.heap.objs.size (.tup [x, y]) :=
      ⟨by show 2 ≤ sizeLine; decide, [x1, x2], .cons ru (.cons ru2 .nil), ⟨_, hT2, rfl, _, rfl⟩⟩
    have I1 : Inv X pins σ (upd H s.heap.objs.size (.tup [x, y])) { s with heap := h'', toks := tk } :=
      I.turnedNew (t' := tk) (ch := [z, TI, TO, i1, i2]) (fun c o hb q => (sb.2 c (fun q' => hb (by simp [q']))).trans (hk c o (fun q' => hb (by simp [q'])) (fun q' => hb (by simp [q'])) (fun q' => hb (by simp [q'])) (fun q' => hb (by simp [q'])) q)) hf (Nat.le_refl _) new
    refine ⟨.ref s.heap.objs.size, _, I1, rfl, ⟨_, x, y, rfl, I.hok.fresh (Nat.le_refl _), rfl, fun l hl => by rw [sq_inj I hl hqx]; exact hx, fun l hl => by rw [sq_inj I hl hqy]; exact hy⟩, ⟨z'', ?_, ⟨x1, x2, ?_⟩, ?_, ?_⟩, fun c hcm => ?_⟩
    · exact (sb.2 _ D.TIz).trans (hk _ _ D.TIz D.TITO D.TIi1 D.TIi2 hTI)
    · exact (sb.2 _ D.TOz).trans TO'
    · exact st1'.1.at fun o q => (sb.2 _ D.i1z).trans q
    · exact st2'.1.at fun o q => (sb.2 _ D.i2z).trans q
    · have hlt : c < s.heap.objs.size := by
        have e' : c = z ∨ c = TI ∨ c = TO ∨ c = i1 ∨ c = i2 := by simpa using hcm
        rcases e' with q | q | q | q | q
        · rw [q]; exact hzl
        · rw [q]; exact Heap.lt_size hTI
        · rw [q]; exact Heap.lt_size hTO
        · rw [q]; obtain ⟨_, e1, _⟩ := h1.obj; exact Heap.lt_size e1
        · rw [q]; obtain ⟨_, e2, _⟩ := h2.obj; exact Heap.lt_size e2
      rw [upd_ne (Nat.ne_of_lt hlt)]
      exact (hf c hcm).1
  done := by
    intro X hP hw hK hc i pins s σ H E I hf st hg
    subst hP hw hK
    obtain ⟨hz, hTI, ⟨x0, y0, hTO⟩, h1, h2⟩ := st
    obtain ⟨xs, ys, hqx, hqy, e1, e2⟩ := hg
    obtain ⟨its, rv, p⟩ := inv_sq I hqx
    obtain ⟨its2, rv2, p2⟩ := inv_sq I hqy
    have l1 : its.toArray.size = i := by rw [List.size_toArray, ← rv.length, e1]
    have l2 : its2.toArray.size = i := by rw [List.size_toArray, ← rv2.length, e2]
    have D1 := draws_k (prog := X.prog) (w := X.w) (A := X.A.in1) k1 (I.ok.hd hc) i1 a (sq_ne_it p h1) its.toArray
    have D2 := draws_k (prog := X.prog) (w := X.w) (A := X.A.in1) k2 (I.ok.hd hc) i2 b (sq_ne_it p2 h2) its2.toArray
    rw [l1] at D1
    rw [l2] at D2
    exact end_zip c (I.ok.hd hc) (sep_zip D) D1 D2 hz hTI hTO ⟨h1, p⟩ ⟨h2, p2⟩ fun h' tk hk => ⟨rfl, I.turnedL (t' := tk) (ch := [z, TI, TO, i1, i2]) (fun q o hb e =>
      hk q o (fun q' => hb (by simp [q'])) (fun q' => hb (by simp [q'])) (fun q' => hb (by simp [q'])) (fun q' => hb (by simp [q'])) e) hf⟩
  self := fun A i s Q E st h => self_zip c st.1 h
end M

namespace M
open PySem PySem.Spec PyProof.Rows L2

abbrev kwS (v : Value) : List (Str × Value) := [(Str.ofString "strict", v)]
theorem tcZS (a b c : Value) : checkTypeCall "zip" ⟨[a, b], kwS c⟩ = pure () := by kernel_rfl
theorem ncZS (a b c : Value) : checkBuiltinCall "zip.__new__" ⟨[.type "zip", a, b], kwS c⟩ = pure () := by kernel_rfl
theorem aoZS (obj a b c : Value) : argsOk "object.__init__" ⟨[obj, a, b], kwS c⟩ := by unfold argsOk; kernel_rfl
abbrev gzZs (h : Heap) (o1 o2 : Obj) : Heap := (gzO2 h o1 o2).push { cls := .type "zip", data := .fields #[.none, .bool false, .bool true, .ref ((h.push o1).push o2).objs.size, .ref (gzT2 h o1 o2).objs.size] }
theorem meets_zipS {v1 v2 : Value} {o1 o2 : Obj} {H1 H2 : Heap → Prop} (B1 : Begins v1 o1 H1) (B2 : Begins v2 o2 H2) :
    Meets (Builtin.«zip.__new__» ⟨[.type "zip", v1, v2], kwS (.bool true)⟩) (fun _ R s => (H1 s.heap ∧ H2 s.heap) ∧
      R (.ok (.ret (.ref (gzO2 s.heap o1 o2).objs.size))) { s with heap := gzZs s.heap o1 o2 }) :=
  .of_wp fun prog w A R s h => by
    obtain ⟨hp, g, d, tk, os⟩ := s; obtain ⟨⟨h1, h2⟩, h⟩ := h
    have hsub := sub_zip
    have q1 : ∀ {A' : Around} {E : Value → Shared → Prop} {Q : Value → Shared → Prop}, Q (.ref hp.objs.size) ⟨(hp.push o1), g, d, tk, os⟩ → wpAny (model prog w) A' (pyIter v1) Q E ⟨hp, g, d, tk, os⟩ :=
      fun q => B1.iter prog w _ _ ⟨hp, g, d, tk, os⟩ _ (B1.keeps _ _ h1 fun b o' e => e) q
    have q2 : ∀ {A' : Around} {E : Value → Shared → Prop} {Q : Value → Shared → Prop}, Q (.ref (hp.push o1).objs.size) ⟨((hp.push o1).push o2), g, d, tk, os⟩ → wpAny (model prog w) A' (pyIter v2) Q E ⟨(hp.push o1), g, d, tk, os⟩ :=
      fun q => B2.iter prog w _ _ ⟨(hp.push o1), g, d, tk, os⟩ _ (B2.keeps _ _ h2 fun b o' e => (Heap.get?_push_of_some _ e)) q
    have e1 : (Str.ofString "strict" == ("strict" : Str)) = true := by decide +kernel
    have e2 : (Str.ofString "strict" != ("strict" : Str)) = false := by decide +kernel
    wp_walk using q1, q2
    exact ⟨_, rfl, h⟩
section
variable {prog : Program} {w : World} {A : Around} {E : Value → Shared → Prop} {s : Shared}
theorem zipS_begins {v1 v2 : Value} {o1 o2 : Obj} {H1 H2 : Heap → Prop} {Q : Value → Shared → Prop} (B1 : Begins v1 o1 H1) (B2 : Begins v2 o2 H2) (h1 : H1 s.heap) (h2 : H2 s.heap)
    (h : ∀ h', ZipO true h' (s.heap.objs.size + 4) (s.heap.objs.size + 2) (s.heap.objs.size + 3) .none → IsTupOf2 h' (s.heap.objs.size + 2) (.ref s.heap.objs.size) (.ref (s.heap.objs.size + 1)) →
      IsTupOf2 h' (s.heap.objs.size + 3) .none .none → h'.get? s.heap.objs.size = some o1 → h'.get? (s.heap.objs.size + 1) = some o2 → h'.objs.size = s.heap.objs.size + 5 →
      (∀ c o, s.heap.get? c = some o → h'.get? c = some o) → Q (.ref (s.heap.objs.size + 4)) { s with heap := h' }) :
    wpAny (model prog w) A (call (.type "zip") [v1, v2] (kwS (.bool true))) Q E s := by
  refine callType_newKw F.called_zip (by decide) (tcZS _ _ _) (ncZS _ _ _) (fun obj => aoZS obj _ _ _) F.entry_zip_new
    (meets_zipS B1 B2) ⟨⟨h1, h2⟩, ?_⟩
  have z1 : (s.heap.push o1).objs.size = s.heap.objs.size + 1 := by rw [Heap.size_push]
  have z2 : ((s.heap.push o1).push o2).objs.size = s.heap.objs.size + 2 := by rw [Heap.size_push, z1]
  have zT : (gzT2 s.heap o1 o2).objs.size = s.heap.objs.size + 3 := by rw [Heap.size_push, z2]
  have zO : (gzO2 s.heap o1 o2).objs.size = s.heap.objs.size + 4 := by rw [Heap.size_push, zT]
  have zZ : (gzZs s.heap o1 o2).objs.size = s.heap.objs.size + 5 := by rw [Heap.size_push, zO]
  have gZ : (gzZs s.heap o1 o2).get? (gzO2 s.heap o1 o2).objs.size = some { cls := .type "zip", data := .fields #[.none, .bool false, .bool true, .ref ((s.heap.push o1).push o2).objs.size, .ref (gzT2 s.heap o1 o2).objs.size] } := Heap.get?_push_size _ rfl
  have gO : (gzZs s.heap o1 o2).get? (gzT2 s.heap o1 o2).objs.size = some { cls := .type "tuple", data := .seq #[.none, .none] } := Heap.get?_push_of_some _ (Heap.get?_push_size _ rfl)
  have gT : (gzZs s.heap o1 o2).get? ((s.heap.push o1).push o2).objs.size = some { cls := .type "tuple", data := .seq #[.ref s.heap.objs.size, .ref (s.heap.push o1).objs.size] } := Heap.get?_push_of_some _ (Heap.get?_push_of_some _ (Heap.get?_push_size _ rfl))
  have g1 : (gzZs s.heap o1 o2).get? s.heap.objs.size = some o1 := Heap.get?_push_of_some _ (Heap.get?_push_of_some _ (Heap.get?_push_of_some _ (Heap.get?_push_of_some _ (Heap.get?_push_size _ B1.free))))
  have g2 : (gzZs s.heap o1 o2).get? (s.heap.push o1).objs.size = some o2 := Heap.get?_push_of_some _ (Heap.get?_push_of_some _ (Heap.get?_push_of_some _ (Heap.get?_push_size _ B2.free)))
  rw [zO, zT, z2] at gZ
  rw [zT] at gO
  rw [z2, z1] at gT
  rw [z1] at g2
  show _ ∧ _
  rw [zO]
  exact ⟨⟨_, gZ, rfl⟩, h _ gZ gT gO g1 g2 zZ fun c o e => Heap.get?_push_of_some _ (Heap.get?_push_of_some _ (Heap.get?_push_of_some _ (Heap.get?_push_of_some _ (Heap.get?_push_of_some _ e))))⟩
end
section
variable {Mo : Model} {A : Around} {E : Value → Shared → Prop} {s : Shared} {env : Env}
theorem callWith_typeKw {pos : Pos} {T : String} {first : List Value} {args : List (Bool × Sem Value)} {keywords : List (Option Str × Sem Value)} {Q : Value → Shared → Prop}
    (hplain : args.any (·.1) = false) (hkw : keywords.any (·.1.isNone) = false)
    (h : wpAny Mo A (evalArgs (.type T) true args keywords) (fun a s₁ => wpAny Mo A (call (.type T) (first ++ a.pos) a.kw) Q E s₁) E s) :
    wpAny Mo A (callWith pos (.type T) first args keywords) Q E s := by
  unfold callWith
  refine wpAny_bind (wpAny_holding (wpAny_mono h (fun a s₁ h₁ => wpAny_bind (wpAny_standAt ?_)) fun _ _ x => x))
  simp only [hplain, hkw, Bool.or_false]
  refine wpAny_bind (wpAny_pure ?_)
  exact wpAny_bind (wpAny_mono h₁ (fun r s₂ hr => wpAny_bind (wpAny_holding (wpAny_point (wpAny_pure hr)))) fun _ _ x => x)
theorem callWith_zipS {pos kp kpos : Pos} {kk} {e : Expr} {rest : List Expr} {Q : Value → Shared → Prop}
    (h : wpAny Mo A (spliced (backTo pos (starEach (e :: rest) env))) (fun vs s₁ => wpAny Mo A (call (.type "zip") vs (kwS (.bool true))) Q E s₁) E s)
    (he : backTo pos (starEach (e :: rest) env) = (false, eval e env) :: backTo pos (starEach rest env) := by rfl)
    (hplain : (backTo pos (starEach (e :: rest) env)).any (·.1) = false := by rfl) :
    wpAny Mo A (callWith pos (.type "zip") [] (backTo pos (starEach (e :: rest) env)) (backToKw pos (keywordEach [⟨some (Str.ofString "strict"), .Constant (.bool true) kk kpos, kp⟩] env))) Q E s := by
  refine callWith_typeKw hplain rfl ?_
  rw [he] at h ⊢
  refine evalArgs_kwB rfl (wpAny_mono h (fun vs s1 h1 => ?_) fun _ _ x => x)
  exact kws_cons (Constant_bool (kws_nil h1))
end
def iZpM (k1 k2 : Bool) (K : PySem.W.Frag) (ta : TA) : TI := fun σ H R => ta σ H fun vs H1 => ∃ a b xs ys, vs = [.ref a, .ref b] ∧ SqK k1 K H1 a xs ∧ SqK k2 K H1 b ys ∧ R (ItzM k1 k2 K a b) H1
section
variable {X : Cx} {pins : List (Addr × Obj)} {σ : L2.St} {H1 : Hp} {s1 : Shared} {elts : List Expr} {kk : Nat} {tpos : Pos}
theorem fresh5 (I1 : Inv X pins σ H1 s1) : ∀ c, c ∈ [s1.heap.objs.size + 4, s1.heap.objs.size + 2, s1.heap.objs.size + 3, s1.heap.objs.size, s1.heap.objs.size + 1] → FpOk X pins H1 c := fun c hcm => by
  have e' : c = s1.heap.objs.size + 4 ∨ c = s1.heap.objs.size + 2 ∨ c = s1.heap.objs.size + 3 ∨ c = s1.heap.objs.size ∨ c = s1.heap.objs.size + 1 := by simpa using hcm
  have hle : s1.heap.objs.size ≤ c := by
    rcases e' with z | z | z | z | z
    · rw [z]; exact Nat.le_add_right _ _
    · rw [z]; exact Nat.le_add_right _ _
    · rw [z]; exact Nat.le_add_right _ _
    · rw [z]; exact Nat.le_refl _
    · rw [z]; exact Nat.le_add_right _ _
  exact I1.fpOk hle (I1.hok.fresh hle)
end
theorem pi_zipM {X : Cx} {e e2 : Expr} {ta : TA} {p pos tpos : Pos} {elts : List Expr} {kk : Nat} (k1 k2 : Bool) (hg : Gl X "zip") (hm : X.mg "zip" = none) (ha : PA X [e, e2] ta)
    (hs : starEach [e, e2] X.env = (false, eval e X.env) :: starEach [e2] X.env := by rfl) (hpl : (backTo pos (starEach [e2] X.env)).any (·.1) = false := by rfl) :
    PI X (.Tuple elts kk tpos) (.Call (.Name "zip" p) [e, e2] [] pos) (iZpM k1 k2 X.K ta) := by
  refine ⟨fun pins s σ H R I h => ?_⟩
  refine Call_ (ld_blt I hg hm PyProof.Rows.boot_zip (PyProof.Rows.callWith_type1 (thn (ha.run pos pins s σ H _ I h) fun us s1 ⟨vs, H1, I1, r1, q1⟩ => ?_) hs hpl))
  obtain ⟨a, b, xs, ys, ex, hqx, hqy, q⟩ := q1
  subst ex
  cases r1 with
  | cons r rr =>
    cases rr with
    | cons r' rr =>
      cases rr
      cases r
      cases r'
      obtain ⟨its, rv, p1⟩ := inv_sq I1 hqx
      obtain ⟨its2, rv2, p2⟩ := inv_sq I1 hqy
      obtain ⟨o1, ho1, _⟩ := p1.obj
      obtain ⟨o2, ho2, _⟩ := p2.obj
      refine zip_begins2 (begins_k k1 a its.toArray) (begins_k k2 b its2.toArray) p1 p2 fun h' hz hTI hTO h1 h2 hsz hk => self_zip false hz ?_
      have I2 : Inv X pins σ H1 { s1 with heap := h' } := I1.kept (t' := s1.toks) hk
      exact ⟨s1.heap.objs.size + 4, [s1.heap.objs.size + 4, s1.heap.objs.size + 2, s1.heap.objs.size + 3, s1.heap.objs.size, s1.heap.objs.size + 1], _, _, H1, rfl, I2, turn_zipM false k1 k2 (PySem.W.ktu_apart s1.heap.objs.size a b (Heap.lt_size ho1) (Heap.lt_size ho2)), ⟨hz, hTI, ⟨_, _, hTO⟩, sit_new h1, sit_new h2⟩, fresh5 I1, q⟩
theorem pi_zipS {X : Cx} {e e2 : Expr} {ta : TA} {p pos tpos kp kpos : Pos} {kc} {elts : List Expr} {kk : Nat} (k1 k2 : Bool) (hg : Gl X "zip") (hm : X.mg "zip" = none) (ha : PA X [e, e2] ta)
    (hs : starEach [e, e2] X.env = (false, eval e X.env) :: starEach [e2] X.env := by rfl) (hpl : (backTo pos (starEach [e2] X.env)).any (·.1) = false := by rfl) :
    PI X (.Tuple elts kk tpos) (.Call (.Name "zip" p) [e, e2] [⟨some (Str.ofString "strict"), .Constant (.bool true) kc kpos, kp⟩] pos) (iZpM k1 k2 X.K ta) := by
  refine ⟨fun pins s σ H R I h => ?_⟩
  refine wpAny_Call_Name_kw (ld_blt I hg hm PyProof.Rows.boot_zip (callWith_zipS (thn (ha.run pos pins s σ H _ I h) fun us s1 ⟨vs, H1, I1, r1, q1⟩ => ?_) (by rw [hs]; rfl) (by rw [hs]; exact hpl)))
  obtain ⟨a, b, xs, ys, ex, hqx, hqy, q⟩ := q1
  subst ex
  cases r1 with
  | cons r rr =>
    cases rr with
    | cons r' rr =>
      cases rr
      cases r
      cases r'
      obtain ⟨its, rv, p1⟩ := inv_sq I1 hqx
      obtain ⟨its2, rv2, p2⟩ := inv_sq I1 hqy
      obtain ⟨o1, ho1, _⟩ := p1.obj
      obtain ⟨o2, ho2, _⟩ := p2.obj
      refine zipS_begins (begins_k k1 a its.toArray) (begins_k k2 b its2.toArray) p1 p2 fun h' hz hTI hTO h1 h2 hsz hk => self_zip true hz ?_
      have I2 : Inv X pins σ H1 { s1 with heap := h' } := I1.kept (t' := s1.toks) hk
      exact ⟨s1.heap.objs.size + 4, [s1.heap.objs.size + 4, s1.heap.objs.size + 2, s1.heap.objs.size + 3, s1.heap.objs.size, s1.heap.objs.size + 1], _, _, H1, rfl, I2, turn_zipM true k1 k2 (PySem.W.ktu_apart s1.heap.objs.size a b (Heap.lt_size ho1) (Heap.lt_size ho2)), ⟨hz, hTI, ⟨_, _, hTO⟩, sit_new h1, sit_new h2⟩, fresh5 I1, q⟩
/-- pairs of items; only of two of one length -/
def sqOf : D → Option (Bool × List D) | .tup ds => some (true, ds) | .lst ds => some (false, ds) | _ => none
def zpD (ds es : List D) : List D := List.zipWith (fun a b => .tup [a, b]) ds es
def zpOf : List D → Option (Bool × Bool × List D)
  | [x, y] => match sqOf x, sqOf y with | some (k1, ds), some (k2, es) => if ds.length = es.length then some (k1, k2, zpD ds es) else none | _, _ => none
  | _ => none
theorem zpOf_of {l : List D} {r : Bool × Bool × List D} (h : zpOf l = some r) : ∃ x y ds es, l = [x, y] ∧ sqOf x = some (r.1, ds) ∧ sqOf y = some (r.2.1, es) ∧ ds.length = es.length ∧ r.2.2 = zpD ds es := by
  unfold zpOf at h
  split at h
  · split at h
    · split at h
      · cases h
        exact ⟨_, _, _, _, rfl, ‹_›, ‹_›, ‹_›, rfl⟩
      · cases h
    · cases h
  · cases h
theorem sqOf_rep {K : PySem.W.Frag} {G : Hp} {x : D} {k : Bool} {ds : List D} {v : V} (e : sqOf x = some (k, ds)) (r : Rep K G x v) : ∃ a us, v = .ref a ∧ SqK k K G a us ∧ Reps K G ds us := by
  unfold sqOf at e
  split at e
  · cases e
    simp only [Rep] at r
    obtain ⟨a, us, rfl, h1, q1⟩ := r
    exact ⟨a, us, rfl, h1, q1⟩
  · cases e
    simp only [Rep] at r
    obtain ⟨a, us, rfl, h1, q1⟩ := r
    exact ⟨a, us, rfl, SqL.of h1, q1⟩
  · cases e
theorem SqK.mono {k : Bool} {K : PySem.W.Frag} {G H : Hp} {a : Addr} {us : List V} (s : Same G H) (h : SqK k K G a us) : SqK k K H a us := by
  cases k with
  | true => exact SqT.mono s h
  | false => exact SqL.mono s h
theorem itD_zp [Tabs] {K : PySem.W.Frag} {G0 : Hp} {k1 k2 : Bool} {a b : Addr} {vs ws : List V} {ds es : List D} (ha : SqK k1 K G0 a vs) (hb : SqK k2 K G0 b ws) (r : Reps K G0 ds vs) (r2 : Reps K G0 es ws) (hl : ds.length = es.length) : ItD K G0 (ItzM k1 k2 K a b) (zpD ds es) := by
  intro i G H s1 s2
  have hA := SqK.mono s2 (SqK.mono s1 ha)
  have hB := SqK.mono s2 (SqK.mono s1 hb)
  have l1 := r.length
  have l2 := r2.length
  refine ⟨fun d e => ?_, fun e => ?_⟩
  · unfold zpD at e
    rw [List.getElem?_zipWith] at e
    cases q : ds[i]? with
    | none => rw [q] at e; cases e
    | some d0 =>
      cases q' : es[i]? with
      | none => rw [q, q'] at e; cases e
      | some e0 =>
        rw [q, q'] at e; cases e
        obtain ⟨v, e1, rv⟩ := r.get q
        obtain ⟨v2, e2, rv2⟩ := r2.get q'
        refine ⟨⟨vs, ws, v, v2, hA, hB, e1, e2, by omega⟩, fun x H' y => ?_⟩
        obtain ⟨T, x0, y0, rfl, hT, e3, y1, y2⟩ := y
        have h1 := y1 vs hA
        have h2 := y2 ws hB
        rw [e1] at h1; cases h1
        rw [e2] at h2; cases h2
        exact pair_rep s1 s2 hT rv rv2 e3
  · have : (zpD ds es).length = ds.length := by unfold zpD; rw [List.length_zipWith, ← hl, Nat.min_self]
    exact ⟨vs, ws, hA, hB, by omega, by omega⟩
def iZp (fs : FA) : FI := fun ρ => (fs ρ).bind fun p => match zpOf p.1 with | some r => .ok (r.2.2, p.2) | none => .no
theorem iZp_sound [Tabs] {K : PySem.W.Frag} {fs : FA} {σ : L2.St} {H : Hp} {R : It → Hp → Prop} (h : rdI K (iZp fs) σ H R) : ∃ k1 k2 : Bool, iZpM k1 k2 K (rdA K fs) σ H R := by
  obtain ⟨ρ, G, I, h⟩ := h
  unfold rdIK iZp at h
  cases e0 : fs ρ with
  | ex _ _ => rw [e0] at h; exact h.elim
  | no => rw [e0] at h; exact h.elim
  | ok q =>
    obtain ⟨ds, ρ1⟩ := q
    rw [e0] at h
    dsimp only [Rz.bind] at h
    cases z : zpOf ds with
    | none => rw [z] at h; exact h.elim
    | some r =>
      rw [z] at h
      dsimp only at h
      obtain ⟨x, y, xs, ys, rfl, ex, ey, hl, er⟩ := zpOf_of z
      rw [er] at h
      refine ⟨r.1, r.2.1, rdA_of I ?_⟩
      unfold rdAK
      rw [e0]
      intro vs H1 G1 s1 I1 r1
      obtain ⟨v, w, rfl, rv, rw'⟩ := reps2 r1
      obtain ⟨a, us, rfl, h1, q1⟩ := sqOf_rep ex rv
      obtain ⟨b, ws, rfl, h2, q2⟩ := sqOf_rep ey rw'
      exact ⟨a, b, us, ws, rfl, SqK.mono I1.sub h1, SqK.mono I1.sub h2, h _ H1 G1 s1 I1 (itD_zp h1 h2 q1 q2 hl)⟩
theorem di_zip [Tabs] {X : Cx} {e e2 : Expr} {fs : FA} {p pos tpos : Pos} {elts : List Expr} {kk : Nat} (hg : Gl X "zip") (hm : X.mg "zip" = none) (ha : PA X [e, e2] (rdA X.K fs))
    (hs : starEach [e, e2] X.env = (false, eval e X.env) :: starEach [e2] X.env := by rfl) (hpl : (backTo pos (starEach [e2] X.env)).any (·.1) = false := by rfl) :
    PI X (.Tuple elts kk tpos) (.Call (.Name "zip" p) [e, e2] [] pos) (rdI X.K (iZp fs)) :=
  ⟨fun pins s σ H R I h => by
    obtain ⟨k1, k2, q⟩ := iZp_sound h
    exact (pi_zipM k1 k2 hg hm ha hs hpl).run pins s σ H R I q⟩
theorem di_zipS [Tabs] {X : Cx} {e e2 : Expr} {fs : FA} {p pos tpos kp kpos : Pos} {kc} {elts : List Expr} {kk : Nat} (hg : Gl X "zip") (hm : X.mg "zip" = none) (ha : PA X [e, e2] (rdA X.K fs))
    (hs : starEach [e, e2] X.env = (false, eval e X.env) :: starEach [e2] X.env := by rfl) (hpl : (backTo pos (starEach [e2] X.env)).any (·.1) = false := by rfl) :
    PI X (.Tuple elts kk tpos) (.Call (.Name "zip" p) [e, e2] [⟨some "strict", .Constant (.bool true) kc kpos, kp⟩] pos) (rdI X.K (iZp fs)) :=
  ⟨fun pins s σ H R I h => by
    obtain ⟨k1, k2, q⟩ := iZp_sound h
    exact (pi_zipS k1 k2 hg hm ha hs hpl).run pins s σ H R I q⟩

end M

namespace M
open PySem PySem.Spec PyProof.Rows L2

/-! ### x not in range(..) -/
variable [Tabs]
section
variable {X : Cx} {a : Expr} {es : List Expr} {fa : FE} {fs : FA} {pos p rpos : Pos}
theorem op_notIn_rng : OpR X (compareOp .NotIn) (fun x y H Q => ∃ i a lo hi, x = V.int i ∧ y = V.ref a ∧ H a = some (.rng lo hi) ∧ Q (.bl (!decide (lo ≤ i ∧ i < hi))) H) := by
  intro pins s σ H x y v u Q I rx ry h
  obtain ⟨i, a, lo, hi, rfl, rfl, ha, q⟩ := h
  obtain ⟨k, rfl⟩ := rx
  obtain rfl : u = Value.ref a := ry
  obtain ⟨t1, t2, t3, ho⟩ := I.hok a _ ha
  show wpAny _ _ (do return Value.bool (!(← contains (Value.ref a) (Value.int i k)))) _ _ s
  refine wpAny_bind (wpAny_contains_slot (T := "range") ⟨_, ho, rfl⟩ F.slot_range_contains (call_meets F.slot_range_contains ⟨_, ho, rfl⟩ F.entry_range_contains (F.args_range_contains_2 _ _) (q_contains a lo hi i t1 t2 t3 k)
    ⟨ho, wpAny_truthy_bool (wpAny_pure ⟨.bl _, H, I, rfl, ?_⟩)⟩))
  rw [place1]
  exact q
def notInRgD (d : D) (ds : List D) : Option D := match d with
  | .int i => match rgPr ds with | some (a, b) => some (.bl (!(!iLt i a && iLt i b))) | none => none
  | _ => none
def eNotInRg (fa : FE) (fs : FA) : FE := bnd fa fun x => bndA fs fun ds => fun ρ => ofO (notInRgD x ds) ρ
def rNotInR : R2 := fun x y H Q => ∃ i a lo hi, x = V.int i ∧ y = V.ref a ∧ H a = some (.rng lo hi) ∧ Q (.bl (!decide (lo ≤ i ∧ i < hi))) H
theorem rd_notInRg (σ : L2.St) (H : Hp) (Q : VK) (h : rd X.K (eNotInRg fa fs) σ H Q) : tOp rNotInR (rd X.K fa) (tCB rRng (rdA X.K fs)) σ H Q := by
  obtain ⟨ρ, G, I, h⟩ := h
  refine rd_of I (rdK_mono (rdK_bnd h) fun v H1 ⟨d1, ρ1, G1, s1, I1, r1, h1⟩ => ?_)
  refine rdA_of I1 (rdAK_mono (rdK_bndA h1) fun vs H2 ⟨ds, ρ2, G2, s2, I2, r2, h2⟩ => ?_)
  obtain ⟨d, e, q⟩ := rdK_ofO h2 I2
  unfold notInRgD at e
  cases d1 with
  | int i =>
    dsimp only at e
    cases e3 : rgPr ds with
    | none => rw [e3] at e; cases e
    | some c =>
      obtain ⟨lo, hi⟩ := c
      rw [e3] at e; cases e
      simp only [Rep] at r1
      subst r1
      refine rRng_of r2 e3 fun p hp => ⟨i, p, lo, hi, rfl, rfl, upd_same, ?_⟩
      have eq : decide (lo ≤ i ∧ i < hi) = (!iLt i lo && iLt i hi) := by
        rw [not_iLt, iLt_eq, Bool.decide_and]
      rw [eq]
      exact q _ _ _ (PStp.laid I2.sub hp) (rep_bl _)
  | _ => cases e
theorem de_notInRg {e1 : Expr} {es : List Expr} (ha : PE X a (rd X.K fa)) (hg : Gl X "range") (hm : X.mg "range" = none) (hs : PA X (e1 :: es) (rdA X.K fs)) (hmk : behindInMarks .NotIn (.Call (.Name "range" p) (e1 :: es) [] rpos) = false)
    (he : starEach (e1 :: es) X.env = (false, eval e1 X.env) :: starEach es X.env := by rfl) (hpl : (backTo rpos (starEach es X.env)).any (·.1) = false := by rfl) :
    PE X (.Compare a [.NotIn] [.Call (.Name "range" p) (e1 :: es) [] rpos] pos) (rd X.K (eNotInRg fa fs)) :=
  pe_imp (pe_cmpR op_notIn_rng ha (pe_callTy cr_rng hg hm (by decide +kernel) hs (by decide) (by decide) he hpl) hmk) rd_notInRg
theorem dt_notInRg {e1 : Expr} {es : List Expr} (ha : PE X a (rd X.K fa)) (hg : Gl X "range") (hm : X.mg "range" = none) (hs : PA X (e1 :: es) (rdA X.K fs)) (hmk : behindInMarks .NotIn (.Call (.Name "range" p) (e1 :: es) [] rpos) = false)
    (he : starEach (e1 :: es) X.env = (false, eval e1 X.env) :: starEach es X.env := by rfl) (hpl : (backTo rpos (starEach es X.env)).any (·.1) = false := by rfl) :
    PT X (.Compare a [.NotIn] [.Call (.Name "range" p) (e1 :: es) [] rpos] pos) (rdT X.K (M.tB (eNotInRg fa fs))) :=
  pt_imp (pt_cmpR op_notIn_rng ha (pe_callTy cr_rng hg hm (by decide +kernel) hs (by decide) (by decide) he hpl) hmk) fun σ H Q h => rd_notInRg _ _ _ (rd_B _ _ _ h)
end
end M

namespace M
theorem filterMap_cong {α β : Type} {f g : α → Option β} : ∀ {l : List α}, (∀ x ∈ l, f x = g x) → l.filterMap f = l.filterMap g
  | [], _ => rfl
  | x :: l, h => by
    rw [List.filterMap_cons, List.filterMap_cons, h x (List.mem_cons_self ..), filterMap_cong (l := l) fun y hy => h y (List.mem_cons_of_mem _ hy)]
end M
namespace HT
open PySem PyProof.Rows
section
variable {prog : Program} {w : World} {A : Around} {E : Value → Shared → Prop} {s : Shared}
theorem places_rev (n : Nat) : Builtin.Slice.slicePlaces ((n : Int) - 1) (-1) (-1) = n := by
  unfold Builtin.Slice.slicePlaces
  have h1 : ¬ ((-1 : Int) > 0) := by decide
  simp only [h1, if_false]
  by_cases h : (n : Int) - 1 > -1
  · simp only [h, if_true]
    have e : ((n : Int) - 1 - -1 - 1) / (- -1) = (n : Int) - 1 := by
      rw [show (- -1 : Int) = 1 by decide, Int.ediv_one]; omega
    rw [e]; omega
  · simp only [h, if_false]; omega
theorem sliceApplied_rev {sl : Addr} {vl vu vs : Value} {n : Nat} {Q : Int × Int × Nat → Shared → Prop} (hs : s.heap.IsSliceOf sl vl vu vs) (pl : IsPart vl none) (pu : IsPart vu none) (ps : IsPart vs (some (-1)))
    (h : Q ((n : Int) - 1, -1, n) s) : wpAny (model prog w) A (Builtin.Slice.sliceApplied (.ref sl) (pure (n : Int))) Q E s := by
  obtain ⟨os, hos, hcs, hds⟩ := id hs
  unfold Builtin.Slice.sliceApplied Builtin.Slice.sliceFields
  refine wpAny_bind (wpAny_bind (wpAny_field hos hds (x := vl) rfl (wpAny_bind (wpAny_field hos hds (x := vu) rfl (wpAny_bind (wpAny_field hos hds (x := vs) rfl (wpAny_pure ?_)))))))
  refine wpAny_bind (slicePart_ ps ?_)
  show wpAny _ _ (if ((-1 : Int) == 0) = true then _ else _) _ _ s
  rw [if_neg (by decide)]
  refine wpAny_bind (slicePart_ pl (wpAny_bind (slicePart_ pu (wpAny_bind (wpAny_pure ?_)))))
  show wpAny _ _ (pure ((n : Int) - 1, (-1 : Int), Builtin.Slice.slicePlaces ((n : Int) - 1) (-1) (-1))) _ _ s
  rw [places_rev]
  exact wpAny_pure h
theorem pick_rev (xs : Array Value) : ((List.range xs.size).filterMap fun (m : Nat) => xs[((xs.size : Int) - 1 + (m : Int) * (-1)).toNat]?).toArray = xs.toList.reverse.toArray := by
  have e : ∀ m, m ∈ List.range xs.size → (fun (m : Nat) => xs[((xs.size : Int) - 1 + (m : Int) * (-1)).toNat]?) m = ((fun i => xs[i]?) ∘ fun k => xs.size - 1 - k) m := fun m hm => by
    have := List.mem_range.mp hm
    have z : ((xs.size : Int) - 1 + (m : Int) * (-1)).toNat = xs.size - 1 - m := by omega
    show xs[((xs.size : Int) - 1 + (m : Int) * (-1)).toNat]? = xs[xs.size - 1 - m]?
    rw [z]
  have e2 : (List.range xs.size).filterMap (fun (m : Nat) => xs[((xs.size : Int) - 1 + (m : Int) * (-1)).toNat]?) = (List.range xs.size).filterMap ((fun i => xs[i]?) ∘ fun k => xs.size - 1 - k) := M.filterMap_cong e
  rw [e2, ← List.filterMap_map, PySem.W.krv_range, List.filterMap_reverse, PySem.W.krv_all]
theorem getItem_tuple_rev {t sl : Addr} {items : Array Value} {vl vu vs : Value} {Q : Value → Shared → Prop} (ht : IsTup s.heap t items) (hs : s.heap.IsSliceOf sl vl vu vs) (pl : IsPart vl none) (pu : IsPart vu none) (ps : IsPart vs (some (-1)))
    (h : Q (.ref s.heap.objs.size) { s with heap := s.heap.push { cls := .type "tuple", data := .seq items.toList.reverse.toArray } })
    (hsz : items.size ≤ sizeLine) : wpAny (model prog w) A (getItem (.ref t) (.ref sl)) Q E s := by
  have htake : sizeOk (.seq items.toList.reverse.toArray) := by
    show items.toList.reverse.toArray.size ≤ sizeLine
    simpa using hsz
  obtain ⟨os, hos, hcs, hds⟩ := id hs
  have hTs : s.TypeIs (.ref sl) "slice" := ⟨os, hos, hcs⟩
  unfold getItem
  try with_reducible refine wpAny_holding ?_
  first | refine wpAny_bind (wpAny_pure ?_) | skip
  refine wpAny_bind (wpAny_sequenceKey ht.typeIs (by decide) ?_)
  refine wpAny_bind (wpAny_callSpecial?_slot (name := Str.ofString "__getitem__") ht.typeIs PyProof.Rows.slot_tuple_getitem
    (wpAny_call_entry PyProof.Rows.slot_tuple_getitem ht.typeIs entry_tuple_getitem ?_ (args_tuple_getitem _ _)))
  show wpAny _ _ (Builtin.Tuple.tupleItemsOf (.ref t) >>= _) _ _ s
  refine wpAny_bind (tupleItemsOf_ ht ?_)
  refine wpAny_bind (wpAny_typeOf hTs ?_)
  rw [if_pos (by decide)]
  refine wpAny_bind (sliceApplied_rev hs pl pu ps ?_)
  have hno : ¬ ((((items.size : Int) - 1) == 0 && (-1 : Int) == 1 && items.size == items.size) = true) := by
    intro q
    rw [Bool.and_eq_true, Bool.and_eq_true] at q
    exact absurd q.1.2 (by decide)
  show wpAny _ _ (if (((items.size : Int) - 1) == 0 && (-1 : Int) == 1 && items.size == items.size) = true then _ else _) _ _ s
  rw [if_neg hno, pick_rev]
  first
    | exact wpAny_bind (m := Builtin.Tuple.tupleExact _) (wpAny_newObj_type (wpAny_pure ⟨_, rfl, wpAny_pure h⟩) htake)
    | exact wpAny_bind (m := Builtin.Tuple.tupleExact _) (wpAny_newObj_type (wpAny_bind (wpAny_pure (wpAny_pure ⟨_, rfl, wpAny_pure h⟩))) htake)
    | exact wpAny_bind (wpAny_bind (m := Builtin.Tuple.tupleExact _) (wpAny_newObj_type (wpAny_pure (wpAny_pure ⟨_, rfl, wpAny_pure h⟩)) htake))
    | exact wpAny_bind (wpAny_bind (m := Builtin.Tuple.tupleExact _) (wpAny_newObj_type (wpAny_pure ⟨_, rfl, wpAny_pure h⟩) htake))
end
end HT
namespace M
open PySem PySem.Spec PyProof.Rows L2
variable [Tabs]
section
variable {X : Cx}
def tRevT (K : PySem.W.Frag) (te : TE) : TE := fun σ H Q => te σ H fun x H1 => ∃ a xs, x = .ref a ∧ SqT K H1 a xs ∧ ∀ p, H1 p = none → Q (.ref p) (upd H1 p (.tup xs.reverse))
theorem pe_revT {e : Expr} {te : TE} {k : Nat} {p1 p2 p3 pos : Pos} (he : PE X e te) : PE X (.Subscript e (.Slice none none (some (.UnaryOp .USub (.Constant (.int 1) k p1) p2)) p3) pos) (tRevT X.K te) := by
  refine ⟨fun pins s σ H Q I h => ?_⟩
  refine Subscript_ (thn (he.run pins s σ H _ I h) fun v s1 ⟨x, H1, I1, r1, q1⟩ => ?_)
  obtain ⟨a, xs, ex, hx, q⟩ := q1
  subst ex
  cases r1
  have hst : PO X (some (.UnaryOp .USub (.Constant (.int 1) k p1) p2)) (tPart (tUn (rU fun i => .int (-i)) (tC (.int 1)))) := po_some (pe_un un_neg pe_int)
  refine wpAny_Slice (thn (po_none.run pins s1 σ H1 (fun o H2 => o = none ∧ H2 = H1) I1 ⟨rfl, rfl⟩) fun vl s2 ⟨l, H2, I2, pl, el, e2⟩ => ?_)
  subst el e2
  refine thn (po_none.run pins s2 σ H2 (fun o H3 => o = none ∧ H3 = H2) I2 ⟨rfl, rfl⟩) fun vu s3 ⟨u, H3, I3, pu, eu, e3⟩ => ?_
  subst eu e3
  refine thn (hst.run pins s3 σ H3 (fun o H4 => o = some (-1) ∧ H4 = H3) I3 ⟨1, rfl, -1, rfl, rfl, rfl⟩) fun vs s4 ⟨o, H4, I4, ps, eo, e4⟩ => ?_
  subst eo e4
  have I5 : Inv X pins σ H4 { s4 with heap := s4.heap.push { cls := .type "slice", data := .fields #[vl, vu, vs] } } := I4.kept (t' := s4.toks) fun b ob q => Heap.get?_push_of_some _ q
  obtain ⟨its, r, ht, hz⟩ := I5.tuple hx
  have hlen := r.length
  show wpAny (model X.prog X.w) X.A (subscriptTail e (.Slice none none (some (.UnaryOp .USub (.Constant (.int 1) k p1) p2)) p3) (.ref a) (.ref s4.heap.objs.size)) (EP X pins σ Q) X.xe { s4 with heap := s4.heap.push { cls := .type "slice", data := .fields #[vl, vu, vs] } }
  refine tail_any (ops := [.ref a, .ref s4.heap.objs.size]) ht.typeIs (PyProof.Rows.slot_tuple_getitem.lookup) ?_ (by with_unfolding_all rfl)
  refine HT.getItem_tuple_rev ht (Heap.IsSliceOf.new _ vl vu vs) pl pu ps ?_ (by rw [List.size_toArray]; omega)
  refine ⟨.ref _, _, I5.laid (t' := s4.toks) (o := .tup xs.reverse) (fun b ob q => Heap.get?_push_of_some _ q) (Nat.le_refl _) ?_, rfl, q _ (I5.hok.fresh (Nat.le_refl _))⟩
  exact ⟨by rw [List.length_reverse]; exact hz, _, r.reverse, IsTup.new _ _⟩
/-- x[::-1] of lists and tuples -/
def revTD : D → Option D | .tup ds => some (.tup ds.reverse) | _ => none
theorem ud_revT {K : PySem.W.Frag} : UnD K (fun x H Q => ∃ a xs, x = .ref a ∧ SqT K H a xs ∧ ∀ p, H p = none → Q (.ref p) (upd H p (.tup xs.reverse))) revTD := by
  intro G H d1 d v1 Q s r1 e q
  unfold revTD at e
  split at e
  · simp only [Rep] at r1
    obtain ⟨a, vs, rfl, h1, q1⟩ := r1
    cases e
    exact ⟨a, _, rfl, SqT.mono s h1, fun p hp => q _ _ _ (PStp.laid s hp) (Rep.tup_new (s.free hp) q1.reverse)⟩
  · cases e
def revX : D → Option D | .tup ds => some (.tup ds.reverse) | .lst ds => some (.lst ds.reverse) | _ => none
theorem de_revX {a : Expr} {fa : FE} {pos : Pos} {k : Nat} {p1 p2 p3 : Pos} (ha : PE X a (rd X.K fa)) : PE X (.Subscript a (.Slice none none (some (.UnaryOp .USub (.Constant (.int 1) k p1) p2)) p3) pos) (rd X.K (e1 revX fa)) := by
  have hT := pe_imp (pe_revT (pos := pos) (k := k) (p1 := p1) (p2 := p2) (p3 := p3) ha) (rd_1 ud_revT)
  have hL := de_rev (pos := pos) (k := k) (p1 := p1) (p2 := p2) (p3 := p3) ha
  refine ⟨fun pins s σ H Q I h => ?_⟩
  obtain ⟨ρ, G, J, h⟩ := h
  have no : ∀ {d : D} {ρ1 : Rho}, fa ρ = .ok (d, ρ1) → revX d = none → False := fun e1' e2' => by
    unfold e1 bnd at h
    rw [e1'] at h
    simp only [Rz.bind, ofO, e2'] at h
  cases q : fa ρ with
  | ex _ _ => unfold e1 bnd at h; rw [q] at h; exact h.elim
  | no => unfold e1 bnd at h; rw [q] at h; exact h.elim
  | ok p =>
    obtain ⟨d, ρ1⟩ := p
    cases d with
    | tup ds =>
      refine hT.run pins s σ H Q I ⟨ρ, G, J, ?_⟩
      have e : e1 revTD fa ρ = e1 revX fa ρ := by simp only [e1, bnd, q, Rz.bind, revTD, revX]
      rw [e]; exact h
    | lst ds =>
      refine hL.run pins s σ H Q I ⟨ρ, G, J, ?_⟩
      have e : e1 revD fa ρ = e1 revX fa ρ := by simp only [e1, bnd, q, Rz.bind, revD, revX]
      rw [e]; exact h
    | _ => exact (no q rfl).elim
/-! a name of an own list that may have been handed on before -/
def eFrV (j : Nat) : FE := fun ρ => match ρ[j]? with | some (some (.dat d)) => .ok (d, ρ) | _ => eFrz j ρ
theorem de_frV (j : Nat) {x : Str} {pos : Pos} (hN : X.N[j]? = some x := by rfl) (hv : Vis X.env.scope x := by first | exact Or.inl rfl | exact Or.inr (Or.inl rfl) | exact Or.inr (Or.inr rfl)) (hd : (x == ("__debug__" : Str)) = false := by decide)
    (hcd : (x == ("__classdict__" : Str)) = false := by decide) : PE X (.Name x pos) (rd X.K (eFrV j)) := by
  refine ⟨fun pins s σ H Q I ⟨ρ, G, J, h⟩ => ?_⟩
  by_cases c : ∃ d, ρ[j]? = some (some (.dat d))
  · obtain ⟨d, c⟩ := c
    refine (de_var j hN hv hd hcd).run pins s σ H Q I ⟨ρ, G, J, ?_⟩
    have e : eV j ρ = eFrV j ρ := by simp only [eV, eFrV, c]
    rw [e]; exact h
  · refine (de_frz j hN hv hd hcd).run pins s σ H Q I ⟨ρ, G, J, ?_⟩
    have e : eFrz j ρ = eFrV j ρ := by
      unfold eFrV
      split
      · rename_i d e0
        exact absurd ⟨d, e0⟩ c
      · rfl
    rw [e]; exact h
end
end M

namespace M
open PySem PySem.Spec PyProof.Rows L2

/-! ### plain laws: a def of data as a plain function of values -/
def Fv (F : FD) (n : Nat) (ds : List D) : Option D := match F n (ds.map Sl.dat) with | some (.dat d, _) => some d | _ => none
theorem ofO_some {d : D} {ρ : Rho} : ofO (some d) ρ = .ok (d, ρ) := by simp only [ofO, frc_eq]
theorem ofO_none {ρ : Rho} : ofO none ρ = .no := rfl
theorem callD_d (F : FD) (n : Nat) (ds : List D) (ρ : Rho) : callD F n (ds.map Ar.d) ρ = ofO (Fv F n ds) ρ := by
  unfold callD Fv
  rw [if_pos (onceO_d (allDat_map ds)), argsOf_d]
  cases e : F n (ds.map Sl.dat) with
  | none => simp only [e]; rfl
  | some r =>
    obtain ⟨s, as'⟩ := r
    cases s with
    | dat d => simp only [e, backO_d (allDat_map ds), ofO_some]
    | own io es => simp only [e]; rfl
theorem eCall1 (F : FD) (n : Nat) (fa : FE) (ρ : Rho) : eCall F n (rCons fa rNil) ρ = (fa ρ).bind fun p => ofO (Fv F n [p.1]) p.2 := by
  unfold eCall rCons rNil
  cases fa ρ with
  | ok p => exact callD_d F n [p.1] p.2
  | ex _ _ => rfl
  | no => rfl
theorem eCall2 (F : FD) (n : Nat) (fa fb : FE) (ρ : Rho) : eCall F n (rCons fa (rCons fb rNil)) ρ = (fa ρ).bind fun p => (fb p.2).bind fun q => ofO (Fv F n [p.1, q.1]) q.2 := by
  unfold eCall rCons rNil
  cases fa ρ with
  | ok p =>
    simp only [Rz.bind]
    cases fb p.2 with
    | ok q => exact callD_d F n [p.1, q.1] q.2
    | ex _ _ => rfl
    | no => rfl
  | ex _ _ => rfl
  | no => rfl
theorem eCall3 (F : FD) (n : Nat) (fa fb fc : FE) (ρ : Rho) : eCall F n (rCons fa (rCons fb (rCons fc rNil))) ρ = (fa ρ).bind fun p => (fb p.2).bind fun q => (fc q.2).bind fun r => ofO (Fv F n [p.1, q.1, r.1]) r.2 := by
  unfold eCall rCons rNil
  cases fa ρ with
  | ok p =>
    simp only [Rz.bind]
    cases fb p.2 with
    | ok q =>
      simp only [Rz.bind]
      cases fc q.2 with
      | ok r => exact callD_d F n [p.1, q.1, r.1] r.2
      | ex _ _ => rfl
      | no => rfl
    | ex _ _ => rfl
    | no => rfl
  | ex _ _ => rfl
  | no => rfl
theorem Fv_rt {F : FD} {n : Nat} {g : FS} {L np : Nat} {ds : List D} {d : D} {ρ : Rho} (hF : F n (ds.map Sl.dat) = runB g L np (ds.map Sl.dat)) (hl : ds.length = np) (h : g (startR L (ds.map Sl.dat)) = .ok (.rt (.dat d), ρ)) : Fv F n ds = some d := by
  unfold Fv
  rw [hF, runB_rt (by rw [List.length_map]; exact hl) h]
theorem Fv_nx {F : FD} {n : Nat} {g : FS} {L np : Nat} {ds : List D} {ρ : Rho} (hF : F n (ds.map Sl.dat) = runB g L np (ds.map Sl.dat)) (hl : ds.length = np) (h : g (startR L (ds.map Sl.dat)) = .ok (.nx, ρ)) : Fv F n ds = some .non := by
  unfold Fv
  rw [hF, runB_nx (by rw [List.length_map]; exact hl) h]
theorem Fv_ex {F : FD} {n : Nat} {ds : List D} {d : D} (h : ∃ as', F n (ds.map Sl.dat) = some (.dat d, as')) : Fv F n ds = some d := by
  obtain ⟨as', e⟩ := h
  unfold Fv; rw [e]
theorem ex_Fv {F : FD} {n : Nat} {ds : List D} {d : D} (h : Fv F n ds = some d) : ∃ as', F n (ds.map Sl.dat) = some (.dat d, as') := by
  unfold Fv at h
  split at h
  · rename_i d' as' e
    cases h
    exact ⟨as', e⟩
  · cases h
/-- list comprehensions without test: each item's value -/
theorem lc_all {fi : FI} {tg : TgD} {fe : FE} {vs : List Nat} {ρ ρ0 : Rho} {ds : List D} (f : D → D) (h1 : fi ρ = .ok (ds, ρ0)) (hn : noIo vs ρ0 = true) (h : ∀ d ∈ ds, ∃ ρ1 ρ2, tg d (wipeR vs ρ0) = some ρ1 ∧ fe ρ1 = .ok (f d, ρ2) ∧ noIo vs ρ2 = true ∧ wipeR vs ρ2 = wipeR vs ρ0)
    (hl : ds.length ≤ sizeLine) : oLc fi tg tYesD fe vs ρ = .ok (ds.map f, restR vs ρ0 (wipeR vs ρ0)) := by
  unfold oLc
  rw [h1]
  simp only [Rz.bind, if_pos hn]
  rw [lcL_map f ds [] h (by simpa using hl)]
  simp only [List.nil_append]
/-- .. with a test -/
theorem lcL_filter {tg : TgD} {ft : FT} {fe : FE} {vs : List Nat} {ρ : Rho} (p : D → Bool) : ∀ (ds acc : List D), (∀ d ∈ ds, ∃ ρ1 ρ2, tg d ρ = some ρ1 ∧ ft ρ1 = .ok (p d, ρ2) ∧ noIo vs ρ2 = true ∧ wipeR vs ρ2 = ρ ∧ fe ρ2 = .ok (d, ρ2)) → acc.length + ds.length ≤ sizeLine →
    lcL tg ft fe vs ds acc ρ = .ok (acc ++ ds.filter p, ρ)
  | [], acc, _, _ => by unfold lcL; rw [frcL_eq, List.filter_nil, List.append_nil]
  | d :: ds, acc, h, hl => by
    obtain ⟨ρ1, ρ2, e1, e2, e3, e4, e5⟩ := h d (List.mem_cons_self ..)
    rw [List.length_cons] at hl
    have ih := fun acc' hl' => lcL_filter p ds acc' (fun x hx => h x (List.mem_cons_of_mem _ hx)) hl'
    unfold lcL
    rw [frc_eq, nrmR_eq, e1]
    simp only [e2, Rz.bind]
    cases q : p d with
    | true =>
      simp only [e5, if_true, e3, and_true, e4]
      rw [if_pos (by omega), ih _ (by rw [List.length_append, List.length_singleton]; omega), List.filter_cons_of_pos q, List.append_assoc]
      rfl
    | false =>
      simp only [Bool.false_eq_true, if_false, e3, if_true, e4]
      rw [ih _ (by omega), List.filter_cons_of_neg (by rw [q]; exact Bool.false_ne_true)]
theorem lc_filter {fi : FI} {tg : TgD} {ft : FT} {fe : FE} {vs : List Nat} {ρ ρ0 : Rho} {ds : List D} (p : D → Bool) (h1 : fi ρ = .ok (ds, ρ0)) (hn : noIo vs ρ0 = true)
    (h : ∀ d ∈ ds, ∃ ρ1 ρ2, tg d (wipeR vs ρ0) = some ρ1 ∧ ft ρ1 = .ok (p d, ρ2) ∧ noIo vs ρ2 = true ∧ wipeR vs ρ2 = wipeR vs ρ0 ∧ fe ρ2 = .ok (d, ρ2)) (hl : ds.length ≤ sizeLine) : oLc fi tg ft fe vs ρ = .ok (ds.filter p, restR vs ρ0 (wipeR vs ρ0)) := by
  unfold oLc
  rw [h1]
  simp only [Rz.bind, if_pos hn]
  rw [lcL_filter p ds [] h (by simpa using hl)]
  simp only [List.nil_append]
/-- a for loop that may return -/
theorem forL_find {tg : TgD} {body : FS} (J : Rho → Prop) (p : D → Bool) (s : Sl) : ∀ (ds : List D), (∀ d ∈ ds, ∀ ρ, J ρ → ∃ ρ1 ρ2, tg d ρ = some ρ1 ∧ J ρ2 ∧ body ρ1 = .ok (if p d = true then (.rt s, ρ2) else (.nx, ρ2))) → ∀ ρ, J ρ →
    ∃ ρ', J ρ' ∧ forL tg body ds ρ = .ok (if ds.any p = true then (.rt s, ρ') else (.nx, ρ'))
  | [], _, ρ, j => ⟨ρ, j, by simp [forL]⟩
  | d :: ds, h, ρ, j => by
    obtain ⟨ρ1, ρ2, e1, j2, e2⟩ := h d (List.mem_cons_self ..) ρ j
    unfold forL
    rw [frc_eq, nrmR_eq, e1]
    dsimp only
    rw [e2]
    cases q : p d with
    | true => exact ⟨ρ2, j2, by simp [Rz.bind, q]⟩
    | false =>
      obtain ⟨ρ', j', e'⟩ := forL_find J p s ds (fun x hx => h x (List.mem_cons_of_mem _ hx)) ρ2 j2
      refine ⟨ρ', j', ?_⟩
      simp only [Bool.false_eq_true, if_false, Rz.bind, List.any_cons, q, Bool.false_or]
      exact e'
end M

namespace M
open PySem PySem.Spec PyProof.Rows L2
variable [Tabs]

/-! ### what may raise: readings with a wish about exceptions -/
/-- an own exception without payload, by its class's name -/
def XcR (K : PySem.W.Frag) : Exn → Value → Option Addr → Prop
  | .mk c none, cls, d => cls = .ref (He.ga K c) ∧ d = none
  | .mk _ (some _), _, _ => False
/-- it lies in the air: the step so far, then the wish -/
def AirX (K : PySem.W.Frag) (W : WX) (σ : L2.St) (ρ : Rho) (G H : Hp) (x : Exn) (ρ' : Rho) : Prop :=
  ∀ (σ' : L2.St) (H' G' : Hp) (cls : Value) (d : Option Addr), Stp σ ρ G H σ' ρ' G' H' → SR K G' H' σ' ρ' → XcR K x cls d → W cls d σ' H'
def OutX (K : PySem.W.Frag) (W : WX) (Dn : Ends) (σ : L2.St) (ρ : Rho) (G H : Hp) : Rz (Fl × Rho) → Prop
  | .ex x ρ' => AirX K W σ ρ G H x ρ'
  | .ok p => OutS K Dn σ ρ G H (.ok p)
  | .no => False
def rdSX (K : PySem.W.Frag) (W : WX) (g : FS) : TS := fun Dn σ H => ∃ ρ G, SR K G H σ ρ ∧ OutX K W Dn σ ρ G H (g ρ)
/-- an expression that may raise -/
def rdXK (K : PySem.W.Frag) (W : WX) (f : FE) (σ : L2.St) (ρ : Rho) (G H : Hp) (Q : VK) : Prop := match f ρ with
  | .ok (d, ρ') => ∀ v H' G', Stp σ ρ G H σ ρ' G' H' → SR K G' H' σ ρ' → Rep K G' d v → Q v H'
  | .ex x ρ' => ∀ (H' G' : Hp) (cls : Value) (d : Option Addr), Stp σ ρ G H σ ρ' G' H' → SR K G' H' σ ρ' → XcR K x cls d → W cls d σ H'
  | .no => False
def rdX (K : PySem.W.Frag) (W : WX) (f : FE) : TE := fun σ H Q => ∃ ρ G, SR K G H σ ρ ∧ rdXK K W f σ ρ G H Q
/-- what of it does not raise -/
def noxE (f : FE) : FE := fun ρ => match f ρ with | .ok p => .ok p | _ => .no
def noxS (g : FS) : FS := fun ρ => match g ρ with | .ok p => .ok p | _ => .no
section
variable {K : PySem.W.Frag} {σ σ1 : L2.St} {ρ ρ1 : Rho} {G H G1 H1 : Hp} {W : WX}
theorem AirX.after {x : Exn} {ρ' : Rho} (st : Stp σ ρ G H σ1 ρ1 G1 H1) (h : AirX K W σ ρ G H x ρ') : AirX K W σ1 ρ1 G1 H1 x ρ' := fun σ' H' G' cls d a b c => h σ' H' G' cls d (st.trans a) b c
theorem OutX.after {g : FS} {Dn : Ends} (st : Stp σ ρ G H σ1 ρ1 G1 H1) (h : OutX K W Dn σ ρ G H (g ρ1)) : OutX K W Dn σ1 ρ1 G1 H1 (g ρ1) := by
  cases e : g ρ1 with
  | ok p =>
    rw [e] at h
    have := rdSK_after (g := fun _ => .ok p) st h
    exact this
  | ex x ρ' => rw [e] at h; exact AirX.after st h
  | no => rw [e] at h; exact h
end
section
variable {X : Cx} {W : WX} {e c : Expr} {fe : FE} {ft : FT} {pos : Pos} {st : Stmt} {rest a b : List Stmt} {ga gb : FS}
theorem dx_of (h : PE X e (rd X.K fe)) : PE X e (rdX X.K W (noxE fe)) := pe_imp h fun σ H Q ⟨ρ, G, I, q⟩ => by
  refine rd_of I ?_
  unfold rdXK noxE at q
  unfold rdK
  cases z : fe ρ with
  | ok p => rw [z] at q; exact q
  | ex _ _ => rw [z] at q; exact q
  | no => rw [z] at q; exact q
theorem dsx_of (h : PS X st (rdS X.K ga)) : PS X st (rdSX X.K W (noxS ga)) := ps_imp h fun D σ H ⟨ρ, G, I, q⟩ => by
  refine rdS_of I ?_
  unfold noxS at q
  unfold rdSK
  cases z : ga ρ with
  | ok p => rw [z] at q; exact q
  | ex _ _ => rw [z] at q; exact q
  | no => rw [z] at q; exact q
theorem dssx_nil : PSs X [] (rdSX X.K W sNx) := pss_imp pss_nil fun D σ H ⟨ρ, G, I, h⟩ => h σ H G (Stp.refl _ _ _ _) I
theorem dssx_one (h : PS X st (rdSX X.K W ga)) : PSs X [st] (rdSX X.K W ga) := pss_one h
theorem dssx_cons (h : PS X st (rdSX X.K W ga)) (t : PSs X rest (rdSX X.K W gb)) : PSs X (st :: rest) (rdSX X.K W (sSeq ga gb)) := by
  refine pss_imp (pss_cons h t) fun D σ H ⟨ρ, G, I, q⟩ => ?_
  refine ⟨ρ, G, I, ?_⟩
  unfold sSeq at q
  cases e : ga ρ with
  | ok p =>
    obtain ⟨f, ρ1⟩ := p
    rw [e] at q
    dsimp only [Rz.bind] at q ⊢
    cases f with
    | nx => exact fun σ' H' G' s1 I1 => ⟨ρ1, G', I1, OutX.after s1 q⟩
    | bk => exact q
    | ct => exact q
    | rt s => exact q
  | ex _ _ => rw [e] at q; exact q
  | no => rw [e] at q; exact q
theorem dsx_if (hc : PT X c (rdT X.K ft)) (ha : PSs X a (rdSX X.K W ga)) (hb : PSs X b (rdSX X.K W gb)) : PS X (.If c a b pos) (rdSX X.K W (fun ρ => match ft ρ with | .ok (t, ρ1) => if t = true then ga ρ1 else gb ρ1 | _ => .no)) := by
  refine ps_imp (ps_if hc ha hb) fun D σ H ⟨ρ, G, I, h⟩ => ?_
  refine rdT_of I ?_
  unfold rdTK
  dsimp only at h
  cases e : ft ρ with
  | ex _ _ => rw [e] at h; exact h
  | no => rw [e] at h; exact h
  | ok p =>
    obtain ⟨t, ρ1⟩ := p
    rw [e] at h
    dsimp only at h ⊢
    intro H1 G1 s1 I1
    cases t with
    | true => exact ⟨ρ1, G1, I1, OutX.after (g := ga) s1 h⟩
    | false => exact ⟨ρ1, G1, I1, OutX.after (g := gb) s1 h⟩
/-- an expression's value, then a statement's end -/
theorem rdSX_bnd {K : PySem.W.Frag} {σ : L2.St} {ρ : Rho} {G H : Hp} {k : D → FS} {Dn : Ends} {T : VK} (I : SR K G H σ ρ) (h : OutX K W Dn σ ρ G H ((fe ρ).bind fun p => k p.1 p.2))
    (q : ∀ v H1 d ρ1 G1, Stp σ ρ G H σ ρ1 G1 H1 → SR K G1 H1 σ ρ1 → Rep K G1 d v → OutX K W Dn σ ρ1 G1 H1 (k d ρ1) → T v H1) : rdX K W fe σ H T := by
  refine ⟨ρ, G, I, ?_⟩
  unfold rdXK
  cases e : fe ρ with
  | ok p =>
    obtain ⟨d, ρ1⟩ := p
    rw [e] at h
    dsimp only [Rz.bind] at h ⊢
    intro v H1 G1 a b c
    exact q v H1 d ρ1 G1 a b c (OutX.after (g := k d) a h)
  | ex _ _ => rw [e] at h; exact fun H' G' cls d a b c => h σ H' G' cls d a b c
  | no => rw [e] at h; exact h
theorem dsx_ret (he : PE X e (rdX X.K W fe)) : PS X (.Return (some e) pos) (rdSX X.K W (sRet fe)) := by
  refine ps_imp (ps_ret he) fun D σ H ⟨ρ, G, I, h⟩ => ?_
  exact rdSX_bnd (k := fun d => fun ρ => .ok (.rt (.dat d), ρ)) (Dn := D) I h fun v H1 d ρ1 G1 a b c z => z v σ H1 G1 (Stp.refl _ _ _ _) b c
theorem dsx_expr (he : PE X e (rdX X.K W fe)) (hs : swapsWith e none pos.line X.env = pure false := by rfl) : PS X (.Expr e pos) (rdSX X.K W (sDrop fe)) := by
  refine ps_imp (ps_expr he hs) fun D σ H ⟨ρ, G, I, h⟩ => ?_
  exact rdSX_bnd (k := fun _ => sNx) (Dn := D) I h fun v H1 d ρ1 G1 a b c z => z σ H1 G1 (Stp.refl _ _ _ _) b
theorem dsx_set (i : Nat) {x : Str} {pos' : Pos} (he : PE X e (rdX X.K W fe)) (hN : X.N.Nodup) (hi : X.N[i]? = some x := by rfl) (hx : Loc X.env.scope x := by first | exact .inl rfl | exact .inr rfl) (hs : swapsWith e (some (.Name x pos')) pos.line X.env = pure false := by rfl)
    (hf : X.fn x = true ∨ X.env.scope.names.lookup x = some .local := by first | exact .inl rfl | exact .inr rfl | assumption) : PS X (.Assign [.Name x pos'] e pos) (rdSX X.K W (sSet i fe)) := by
  refine ps_imp (ps_set hN hi hx he hs hf) fun D σ H ⟨ρ, G, I, h⟩ => ?_
  refine rdSX_bnd (k := fun d => fun ρ => if isIo ρ i = true then .no else .ok (.nx, ρ.set i (some (.dat d)))) (Dn := D) I h fun v H1 d ρ1 G1 a b c z => ?_
  by_cases y : isIo ρ1 i = true
  · simp only [if_pos y] at z
    exact False.elim z
  · simp only [if_neg y] at z
    exact z _ H1 G1 (Stp.set (by simpa using y)) (b.set c)
/-- raise C('..') -/
def sRaise (c : Str) : FS := fun ρ => .ex (.mk c none) ρ
theorem dsx_raise {x m : Str} {j : Nat} {p p2 cpos : Pos} {bmB : List Value} {B newId initId : String} (F : ExcBaseFacts B newId initId bmB) (q : PySem.W.excIn X.K (He.ga X.K x) bmB newId = true) (gC : X.mg x = some (.ref (He.ga X.K x))) (kC : PySem.W.keepIn X.K (.ref (He.ga X.K x)) = true) (r : Raises X (.ref (He.ga X.K x)))
    (hc : X.calm = true) (tk : Takes X W) (hg : Gl X x) (hdb : (x == ("__debug__" : Str)) = false := by decide) : PS X (.Raise (some (.Call (.Name x p) [.Constant (.str m) j p2] [] cpos)) none pos) (rdSX X.K W (sRaise x)) := by
  refine ps_imp (ps_raise hc tk (pmk_own F q gC kC r hg hdb)) fun D σ H ⟨ρ, G, I, h⟩ => ?_
  exact h σ H G _ _ (Stp.refl _ _ _ _) I ⟨rfl, rfl⟩
end
end M

namespace M
open PySem PySem.Spec PyProof.Rows L2
variable [Tabs]

/-! ### defs that may raise -/
abbrev FDX := Nat → Args → Option (Except Exn Sl × Args)
/-- what a call comes to -/
def EndX (K : PySem.W.Frag) (vs : List V) (as as' : Args) (G H : Hp) (Q : VK) (E : XK) : Except Exn Sl → Prop
  | .ok s => ∀ v H' G', Stp (vs.map some) (as.map some) G H (vs.map some) (as'.map some) G' H' → SR K G' H' (vs.map some) (as'.map some) → RetR K (vs.map some) (as.map some) H G' H' v s → Q v H'
  | .error x => ∀ H' G' cls d, Stp (vs.map some) (as.map some) G H (vs.map some) (as'.map some) G' H' → SR K G' H' (vs.map some) (as'.map some) → XcR K x cls d → E cls d H'
def spX (K : PySem.W.Frag) (np : Nat) (F : FDX) : Sp := fun vs H Q E => ∃ (n : Nat) (G : Hp) (as : Args) (r : Except Exn Sl) (as' : Args), vs.length = np ∧ SR K G H (vs.map some) (as.map some) ∧ allIo as = true ∧ F n as = some (r, as') ∧ EndX K vs as as' G H Q E r
def runBX (g : FS) (L np : Nat) (as : Args) : Option (Except Exn Sl × Args) := if as.length = np then frcA as fun as => (match g (startR L as) with
  | .ok (.nx, ρ') => frcA (ends as ρ') fun es => some (.ok (.dat .non), es)
  | .ok (.rt s, ρ') => frcT s fun s => frcA (ends as ρ') fun es => some (.ok s, es)
  | .ex x ρ' => frcA (ends as ρ') fun es => some (.error x, es)
  | _ => none) else none
theorem runBX_len {g : FS} {L np : Nat} {as as' : Args} {r : Except Exn Sl} (h : runBX g L np as = some (r, as')) : as.length = np := by
  unfold runBX at h
  by_cases z : as.length = np
  · exact z
  · rw [if_neg z] at h; cases h
section
variable {K : PySem.W.Frag} {G H : Hp} {vs : List V} {as : Args} {N : List Str}
theorem rdSX_runB {g : FS} {np : Nat} {Q : VK} {E : XK} {r : Except Exn Sl} {as' : Args} (hio : allIo as = true) (I : SR K G H (vs.map some) (as.map some)) (h : runBX g N.length np as = some (r, as'))
    (q : EndX K vs as as' G H Q E r) :
    rdSX K (fun cls d _ H => E cls d H) g { nx := fun _ H' => Q .non H', rt := Q } (L2.start N vs) H := by
  refine ⟨startR N.length as, G, I.start, ?_⟩
  have hl := runBX_len h
  unfold runBX at h
  rw [if_pos hl, frcA_eq] at h
  simp only [frcA_eq, frcT_eq] at h
  cases e : g (startR N.length as) with
  | ex x ρ' =>
    rw [e] at h
    cases h
    intro σ' H' G' cls d st I' c
    obtain ⟨A, B⟩ := back_of hio I st I'
    exact q H' G' cls d A B c
  | no => rw [e] at h; cases h
  | ok p =>
    obtain ⟨f, ρ'⟩ := p
    rw [e] at h
    cases f with
    | nx =>
      cases h
      intro σ' H' G' st I'
      obtain ⟨A, B⟩ := back_of hio I st I'
      exact q .non H' G' A B (rep_non (K := K) (G := G'))
    | bk => cases h
    | ct => cases h
    | rt s =>
      cases h
      intro v σ' H' G' st I' r
      obtain ⟨A, B⟩ := back_of hio I st I'
      exact q v H' G' A B (ret_of hio r)
end
/-- the context of the body of a def that may raise -/
abbrev bodyXX (P : Program) (w : World) (K : PySem.W.Frag) (mg : Str → Option Value) (base : Heap) (N : List Str) (qual : Str) (sc : Scope) (f : Addr) (cdv : Value) (A : Around) (outer : List Env) (s : Shared) (H : Hp) (E : XK) : Cx :=
  cxOf (L2.CX P w) P w K mg base N qual sc f cdv A outer s H E
structure FnX (P : Program) (w : World) (K : PySem.W.Frag) (mg : Str → Option Value) (base : Heap) (k : Nat) (f : Addr) (fd : FuncData) (ps : List Str) (sp : Sp) : Prop where
  size : ∀ xs H Q E, sp xs H Q E → xs.length = ps.length
  go : ∀ (A : Around) (below : List Env) (t : Shared) (H : Hp) (args : PySem.Args) (us : List Value) (xs : List V) (Q : VK) (E : XK), Rm k A → Env0 P w K mg base A below t H → BindsTo t fd args (ps.zip us) → Vals xs us → sp xs H Q E → codeAny (model P w) A (.call (.ref f) args) (CR (L2.CX P w) below P w H t Q E) t
section
variable {P : Program} {w : World} {K : PySem.W.Frag} {mg : Str → Option Value} {base : Heap}
omit [Tabs] in
theorem fnX_of {k : Nat} {f : Addr} {name qual : Str} {params : Arguments} {body : List Stmt} {sc : Scope} {dV kV doc pm cdv ct oc : Value} {an od : Option Addr} {osl : Array (Option Value)} {N ps : List Str} {sp : Sp}
    (lk : K.lookup f = some ⟨oc, od, .func (PySem.W.fnOf name qual params body sc dV kV doc pm an cdv ct), osl⟩) (hc : PySem.W.codeIn K cdv qual = true) (S : FnScope N ps sc) (size : ∀ xs H Q E, sp xs H Q E → xs.length = ps.length)
    (hb : ∀ (A : Around) (below : List Env) (t : Shared) (H : Hp) (xs : List V) (Q : VK) (E : XK), Rm k (A.deeper (envOfC qual sc t.heap.objs.size f cdv)) → sp xs H Q E →
      ∃ T, PSs (bodyXX P w K mg base N qual sc f cdv A below t H E) body T ∧ T { nx := fun _ H' => Q .non H', rt := Q } (L2.start N xs) H) : FnX P w K mg base (k + 1) f (PySem.W.fnOf name qual params body sc dV kV doc pm an cdv ct) ps sp := by
  refine ⟨size, fun A below t H args us xs Q E rm env bt vv sps => ?_⟩
  have inB : ∀ b o, base.get? b = some o → t.heap.get? b = some o := fun b o q => (env.bs b o q).1
  have KT : K.In t.heap := env.mod.kin.keeps inB
  refine codeAny_call_function rm.r.depth (KT _ _ lk) rfl S.co S.gen rfl (PySem.W.codeRec_of KT hc) (bt _ _ _ _ ?_)
  refine wpAny_newFunctionEnv_cells S.kind (fun y hy => ?_) fun e he t1 z => ?_
  · have hm := (List.of_mem_zip (show (y.1, y.2) ∈ ps.zip us from hy)).1
    exact (S.par _ hm).elim .inl fun q => .inr ⟨q, PySem.W.cellsFrom_some _ _ _ (.inl q)⟩
  · subst he
    refine ⟨(env.mod.nolimit.keeps inB).keeps z.toInCall.keep, codeAny_func ?_⟩
    obtain ⟨T, hT, hq⟩ := hb A below t H xs Q E ⟨rm.r.deeper _, rm.g⟩ sps
    have J := inv_start (CX := L2.CX P w) (P := P) (w := w) (E := E) S rm.r.hd env (size _ _ _ _ sps) vv z
    refine wpAny_mono (hT.run [] t1 _ H _ J hq) (fun fl t2 z2 => ?_) fun _ _ q => q
    match fl, z2 with
    | .ret u, ⟨v, _, H', J', rv, q⟩ => exact ⟨v, H', J'.os, J'.bare, J'.base, J'.hok, rv, q⟩
    | .next, ⟨_, H', J', q⟩ => exact ⟨.non, H', J'.os, J'.bare, J'.base, J'.hok, rfl, q⟩
    | .brk, ⟨_, _, _, q⟩ => exact q.elim
    | .cont, ⟨_, _, _, q⟩ => exact q.elim
omit [Tabs] in
/-- what a def's body takes of exceptions -/
theorem takesX {N : List Str} {qual : Str} {sc : Scope} {f : Addr} {cdv : Value} {A : Around} {outer : List Env} {s : Shared} {H : Hp} {E : XK} : Takes (bodyXX P w K mg base N qual sc f cdv A outer s H E) (fun cls d _ H => E cls d H) :=
  takes_of rfl rfl rfl rfl
theorem dfnX_ok {x qual : Str} {st : Stmt} {f : Addr} {fd : FuncData} {cdv : Value} {N ps : List Str} {k : Nat} {g : Nat → FS} (F : FunC K x qual st f fd cdv) (S : FnScope N ps (defScope st))
    (hbody : ∀ (n : Nat) (A : Around) (outer : List Env) (s : Shared) (H : Hp) (E : XK), Rm k (A.deeper (envOfC qual (defScope st) s.heap.objs.size f cdv)) →
      PSs (bodyXX P w K mg base N qual (defScope st) f cdv A outer s H E) (defBody st) (rdSX K (fun cls d _ H => E cls d H) (g n))) : FnX P w K mg base (k + 1) f fd ps (spX K ps.length fun n as => runBX (g n) N.length ps.length as) := by
  obtain ⟨oc, od, kV, doc, pm, an, ct, osl, rfl, lk, hcd⟩ := F.ex
  refine fnX_of lk hcd S (fun vs H Q E ⟨_, _, _, _, _, h, _⟩ => h) fun A outer s H vs Q E hr hsp => ?_
  obtain ⟨n, G, as, r, as', hl, I, hio, h, q⟩ := hsp
  exact ⟨_, hbody n A outer s H E hr, rdSX_runB hio I h q⟩
end
/-- a def of the module that may be called by its name, and may raise -/
structure ClX (P : Program) (w : World) (K : PySem.W.Frag) (mg : Str → Option Value) (base : Heap) (k : Nat) (x : Str) (np : Nat) (F : FDX) : Prop where
  ex : ∃ (f : Addr) (fd : FuncData) (ps : List Str), FnX P w K mg base k f fd ps (spX K np F) ∧ mg x = some (.ref f) ∧ PySem.W.keepIn K (.ref f) = true ∧ Binds K fd ps []
  len : ∀ n as s as', F n as = some (s, as') → as.length = np
def callX (F : FDX) (n : Nat) (xs : List Ar) : Rho → Rz (D × Rho) := fun ρ => if onceO xs = true then (match argsOf ρ xs with
  | some as => (match F n as with
    | some (.ok (.dat d), as') => .ok (d, backO xs as' ρ)
    | some (.error x, as') => .ex x (backO xs as' ρ)
    | _ => .no)
  | none => .no) else .no
def eCallX (F : FDX) (n : Nat) (fr : FAr) : FE := fun ρ => match fr ρ with | .ok p => callX F n p.1 p.2 | _ => .no
section
variable {X : Cx} {W : WX} {k : Nat} {x : Str} {p pos : Pos} {e : Expr} {es : List Expr} {fr : FAr} {F : FDX}
theorem dx_call (n : Nat) {np j : Nat} (c : ClX X.prog X.w X.K X.mg X.base k x np F) (hr : Rm j X.A) (hk : k ≤ j) (hg : Gl X x) (tk : Takes X W) (ha : PA X (e :: es) (rdR X.K fr))
    (hdb : (x == ("__debug__" : Str)) = false := by decide) (he : starEach (e :: es) X.env = (false, eval e X.env) :: starEach es X.env := by rfl) (hpl : (backTo pos (starEach es X.env)).any (·.1) = false := by rfl) :
    PE X (.Call (.Name x p) (e :: es) [] pos) (rdX X.K W (eCallX F n fr)) := by
  obtain ⟨f, fd, ps, FO, hm, kp, hb⟩ := c.ex
  refine ⟨fun pins s σ H Q I h => wpAny_Call_Name_kw (ld_glob I hg hm (PySem.W.callWith_K (h₀ := X.base) I.ok.mod.kin kp (thn (ha.run pos pins s σ H (fun vs H1 => spX X.K np F vs H1 Q fun cls d H' => W cls d σ H') I ?_) fun us s1 ⟨vs, H1, I1, r, q⟩ => ⟨I1.kIn, ?_⟩) he hpl) hdb)⟩
  · obtain ⟨ρ, G, J, h⟩ := h
    refine ⟨ρ, G, J, ?_⟩
    unfold rdXK eCallX at h
    unfold rdRK
    cases e1 : fr ρ with
    | ex _ _ => rw [e1] at h; exact h
    | no => rw [e1] at h; exact h
    | ok q =>
      obtain ⟨xs, ρ1⟩ := q
      rw [e1] at h
      dsimp only at h ⊢
      intro vs H1 G1 s1 I1 r1
      unfold callX at h
      by_cases o : onceO xs = true
      · rw [if_pos o] at h
        cases ea : argsOf ρ1 xs with
        | none => rw [ea] at h; exact h.elim
        | some as =>
          rw [ea] at h
          dsimp only at h
          cases ef : F n as with
          | none => rw [ef] at h; exact h.elim
          | some q =>
            obtain ⟨sl, as'⟩ := q
            rw [ef] at h
            obtain ⟨l1, l2, _⟩ := args_get r1 ea
            cases sl with
            | error y =>
              dsimp only at h
              refine ⟨n, G1, as, .error y, as', by rw [l1]; exact c.len n as _ _ ef, args_SR I1 r1 ea o, args_io ea, ef, fun H' G' cls d st I' cc => ?_⟩
              obtain ⟨A, B, _⟩ := call_back I1 r1 ea o st I'
              exact h H' G' cls d (s1.trans A) B cc
            | ok sl =>
              cases sl with
              | own io ds => exact h.elim
              | dat d =>
                dsimp only at h
                refine ⟨n, G1, as, .ok (.dat d), as', by rw [l1]; exact c.len n as _ _ ef, args_SR I1 r1 ea o, args_io ea, ef, fun v H' G' st I' rr => ?_⟩
                obtain ⟨A, B, _⟩ := call_back I1 r1 ea o st I'
                exact h v H' G' (s1.trans A) B rr
      · rw [if_neg o] at h; exact h.elim
  · show wpAny _ _ (call (.ref f) us) _ _ _
    have hl : us.length = ps.length := by rw [← r.length]; exact FO.size _ _ _ _ q
    have bt := hb s1 us I1.kIn (by simpa using hl)
    rw [List.append_nil] at bt
    refine wpAny_call (codeAny_mono (FO.go X.A X.stack s1 H1 ⟨us, []⟩ us vs Q _ (hr.mono hk) I1.env0 bt r q) fun rr s2 z => ?_)
    match rr, z with
    | .ok (.ret u), z => exact I1.after z
    | .ok .next, z => exact z.elim
    | .ok .brk, z => exact z.elim
    | .ok .cont, z => exact z.elim
    | .error u, z => exact tk u s2 (XE.of_call I1 (fun _ _ _ w => w) z)
end
end M

namespace M
open PySem PySem.Spec PyProof.Rows L2
variable [Tabs]

/-! ### try: .. except C: .. -/
/-- ct: which of the own classes the clause catches -/
def sTry (ct : Str → Option Bool) (g gs : FS) : FS := fun ρ => match g ρ with
  | .ok p => .ok p
  | .ex (.mk c none) ρ' => (match ct c with | some true => noxS gs ρ' | some false => .ex (.mk c none) ρ' | none => .no)
  | .ex (.mk _ (some _)) _ => .no
  | .no => .no
section
variable {X : Cx} {W : WX} {x : Str} {C : Addr} {body suite : List Stmt} {b₀ : Stmt} {np pos pos' : Pos} {g gs : FS} {ct : Str → Option Bool}
theorem dsx_try (hs : X.stack = X.env :: X.outer) (hf : X.env.frame = some X.env.locals) (hc : Names X x (.ref C)) (tk : Takes X W) (hct : ∀ c b, ct c = some b → PySem.W.exmOne X.K (.ref (He.ga X.K c)) (.ref C) = some b)
    (hb : ∀ (W : WX) (pn : List (Addr × Obj)) (xe : Value → Shared → Prop), Takes (X.tr pn xe) W → PSs (X.tr pn xe) body (rdSX X.K W g)) (hsu : ∀ (a : Addr) (q : Addr × Obj) (pn : List (Addr × Obj)), PSs (X.suite a (q :: pn)) (b₀ :: suite) (rdS X.K gs)) :
    PS X (.Try body [.ExceptHandler (some (.Name x np)) none (b₀ :: suite) pos'] [] [] pos) (rdSX X.K W (sTry ct g gs)) := by
  refine ps_imp (ps_try_only (c := .ref C) (tb := fun W' => rdSX X.K W' g) (ts := fun _ _ _ => rdS X.K gs) hs hf hc tk (fun W' pn xe t _ => hb W' pn xe t) (fun a oe cls d pn _ _ => hsu a (a, oe) pn)) fun D σ H ⟨ρ, G, I, h⟩ => ?_
  refine ⟨ρ, G, I, ?_⟩
  unfold sTry at h
  cases e : g ρ with
  | ok p => rw [e] at h; exact h
  | no => rw [e] at h; exact h
  | ex y ρ' =>
    rw [e] at h
    obtain ⟨c, o⟩ := y
    cases o with
    | some d => exact h.elim
    | none =>
      dsimp only at h
      intro σ' H' G' cls d st I' cc
      obtain ⟨rfl, rfl⟩ := cc
      cases z : ct c with
      | none => rw [z] at h; exact h.elim
      | some b =>
        rw [z] at h
        refine ⟨b, hct c b z, fun hb a _ => ?_, fun hb => ?_⟩
        · subst hb
          refine ⟨ρ', G', I', ?_⟩
          have h' : OutX X.K W D σ ρ G H (noxS gs ρ') := h
          unfold noxS at h'
          unfold rdSK
          cases e2 : gs ρ' with
          | ok p =>
            rw [e2] at h'
            have := rdSK_after (g := fun _ => .ok p) st h'
            exact this
          | ex _ _ => rw [e2] at h'; exact h'
          | no => rw [e2] at h'; exact h'
        · subst hb
          exact h σ' H' G' _ _ st I' ⟨rfl, rfl⟩
/-- a reading with a wish, where nothing is let out -/
theorem ds_ofX {st : Stmt} {ga : FS} (h : PS X st (rdSX X.K W ga)) : PS X st (rdS X.K ga) := ps_imp h fun D σ H ⟨ρ, G, I, q⟩ => by
  refine ⟨ρ, G, I, ?_⟩
  unfold rdSK at q
  cases z : ga ρ with
  | ok p => rw [z] at q; exact q
  | ex _ _ => rw [z] at q; exact q.elim
  | no => rw [z] at q; exact q
theorem de_ofX {e : Expr} {fe : FE} (h : PE X e (rdX X.K W fe)) : PE X e (rd X.K fe) := pe_imp h fun σ H Q ⟨ρ, G, I, q⟩ => by
  refine ⟨ρ, G, I, ?_⟩
  unfold rdXK
  cases z : fe ρ with
  | ok p => rw [z] at q; exact q
  | ex _ _ => rw [z] at q; exact q.elim
  | no => rw [z] at q; exact q
end
end M

namespace M
open PySem PySem.Spec PyProof.Rows L2

/-! ### a lambda without parameters, handed to a def that calls it -/
/-- a lambda was made: the maker's table may have grown -/
structure LamStep (H H1 : Hp) (P : Addr) (q : Str) : Prop where
  keep : ∀ b o, b ≠ P → H b = some o → H1 b = some o
  tab : LamX.TabS H1 P q
section
variable {X : Cx} {pins : List (Addr × Obj)} {σ : L2.St} {H : Hp} {s : Shared}
/-- an address that is new to the heap is no frame's -/
theorem no_frame (I : Inv X pins σ H s) {f : Addr} (hf : s.heap.objs.size ≤ f) : f ∉ frs X.stack := fun z => by
  rcases List.mem_cons.mp (I.stkSub _ z) with e | e
  · have h1 := I.lt
    rw [← e] at h1
    exact absurd h1 (Nat.not_lt.mpr hf)
  · exact I.nofs hf e
theorem lam_make3 {c P : Addr} {params : Arguments} {body : Expr} {scope : Scope} {pos : Pos} {E : Value → Shared → Prop} {Q : Value → Shared → Prop} (I : Inv X pins σ H s) (TB : LamX.TabB X.base X.mg c P) (hcode : X.env.code = .ref c)
    (hT : LamX.TabS H P (X.env.qual ++ "<lambda>")) (hdef : defaultsOf params X.env = ([], [])) (hfree : ∀ y ∈ scope.names, y.2 = .free → ∃ c, X.env.cells.lookup y.1 = some c)
    (h : ∀ (f c' : Addr) (pm ctv : Value) (H1 : Hp) (s' : Shared), Inv X pins σ H1 s' → LamStep H H1 P (X.env.qual ++ "<lambda>") → s'.heap.get? f = some (PySem.W.kla_obj "<lambda>" (X.env.qual ++ "<lambda>") params body scope (cloFrom X.env.cells scope.names []) pm c' ctv) →
      H1 f = none → f ∉ frs X.stack → H1 c' = some (LamX.CodeO c' (X.env.qual ++ "<lambda>")) → Q (.ref f) s') : wpAny (model X.prog X.w) X.A (eval (.Lambda params body scope pos) X.env) Q E s := by
  obtain ⟨ps, hP, ht, ha⟩ := id hT
  have hP' : s.heap.get? P = some { cls := .none, data := .fields ps } := I.hok P _ hP
  refine PySem.W.kla_eval hdef ?_
  cases hc : codeAmong pos ps.toList with
  | some cv =>
    -- the code object stands in the table
    obtain ⟨c', rfl, hco⟩ := ha pos cv hc
    refine PySem.W.kla_makeFunctionHit (mg := X.mg) (c := c) (P := P) (ps := ps) (closure_ok hfree) I.ok.glob (I.mod.glob.keeps I.bk) hcode (TB.code.keeps I.bk) hP' ht hc (TB.bm.keeps I.bk) fun ctv h' tk hx hsz => ?_
    exact h h'.objs.size c' ((X.mg "__name__").getD .none) ctv H _ (I.kept fun b o e => Heap.get?_push_of_some _ (hx b o e)) ⟨fun _ _ _ e => e, hT⟩ (Heap.get?_push_size _ rfl) (I.hok.fresh hsz) (no_frame I hsz) hco
  | none =>
    refine PySem.W.kla_makeFunction (mg := X.mg) (c := c) (P := P) (ps := ps) (closure_ok hfree) I.ok.glob (I.mod.glob.keeps I.bk) hcode (TB.code.keeps I.bk) hP' ht hc TB.gP (TB.bm.keeps I.bk) fun c' ctv h' tk hx hge hlt hrec htb => ?_
    obtain ⟨c2, oc, vs, t, e2, hoc, hd, hv⟩ := hrec
    cases e2
    have hsz : s.heap.objs.size ≤ h'.objs.size := Nat.le_trans hge (Nat.le_of_lt hlt)
    have nC : H c' = none := I.hok.fresh hge
    have I1 := LamX.inv_table (t' := tk) (more := #[rawInt pos.line, rawInt pos.col, .ref c']) (h' := h'.push (PySem.W.kla_obj "<lambda>" (X.env.qual ++ "<lambda>") params body scope (cloFrom X.env.cells scope.names []) ((X.mg "__name__").getD .none) c' ctv)) I hP
      (fun b o hb e => Heap.get?_push_of_some _ (hx b o hb e)) (Heap.get?_push_of_some _ htb) hge ⟨oc, vs, t, Heap.get?_push_of_some _ hoc, hd, hv⟩
    have kp : ∀ b o, b ≠ P → H b = some o → upd (upd H P (.tbl (ps ++ #[rawInt pos.line, rawInt pos.col, .ref c']))) c' (LamX.CodeO c' (X.env.qual ++ "<lambda>")) b = some o := fun b o hb e => by
      rw [upd_ne (ne_of_none e nC), upd_ne hb]; exact e
    have eL : (ps ++ #[rawInt pos.line, rawInt pos.col, .ref c']).toList = ps.toList ++ [rawInt pos.line, rawInt pos.col, .ref c'] := by simp
    refine h h'.objs.size c' ((X.mg "__name__").getD .none) ctv _ _ I1 ⟨kp, _, by rw [upd_ne (ne_of_none hP nC), upd_same], by rw [eL]; exact PySem.TriplesOk_snoc _ _ _ _ ht, fun p' cv hcv => ?_⟩ (Heap.get?_push_size _ rfl) ?_ (no_frame I hsz) upd_same
    · rw [eL] at hcv
      rcases LamX.among_app _ ht hcv with z | z
      · obtain ⟨c0, e1, e2⟩ := ha p' cv z
        refine ⟨c0, e1, kp _ _ (fun y => ?_) e2⟩
        rw [y, hP] at e2
        exact LamX.codeO_ne ps (Option.some.inj e2).symm
      · exact ⟨c', z, upd_same⟩
    · rw [upd_ne (Nat.ne_of_gt hlt), upd_ne (Nat.ne_of_gt (Nat.lt_of_lt_of_le (Heap.lt_size hP') hsz))]
      exact I.hok.fresh hsz
end
/-- what told makes of the lambda's reading: None where C is raised -/
def TToldN (K : PySem.W.Frag) (CS : Addr) : (XK → Hp → VK → Prop) → Hp → VK → Prop := fun tl H Q =>
  tl (fun cls _ H' => ∃ b, PySem.W.exmOne K cls (.ref CS) = some b ∧ (b = true → Q .non H') ∧ (b = false → False)) H Q
section
variable {X : Cx}
theorem told_givesN {Ng : List Str} {x a e q : Str} {sg : Scope} {g CS : Addr} {cdg : Value} {j : Nat} {p1 p2 p3 p4 p5 p6 p7 p8 : Pos} (hge : sg.names.lookup e = some .globalImplicit) (hme : X.mg e = some (.ref CS)) (hde : (e == ("__debug__" : Str)) = false) (h0 : ∀ f : Addr, (L2.start Ng [V.ref f])[0]? = some (some (V.ref f))) :
    LamX.GivesTo X Ng x sg g cdg [.Try [.Return (some (.Call (.Name a p1) [] [] p2)) p3] [.ExceptHandler (some (.Name e p4)) none [.Return (some (.Constant .none j p5)) p6] p7] [] [] p8] a q (TToldN X.K CS) := by
  intro f c' s H Q tl act hc h
  have hgl : Gl (cxOf C8.CX0 X.prog X.w X.K X.mg X.base Ng x sg g cdg X.A X.stack s H C8.E0).nox e := hge
  refine ⟨_, pss_one (ps_try_only (X := (cxOf C8.CX0 X.prog X.w X.K X.mg X.base Ng x sg g cdg X.A X.stack s H C8.E0).nox) (c := .ref CS)
      (tb := fun W D σ H => ∃ Ech : XK, (∀ cls d σ' H', Ech cls d H' → W cls d σ' H') ∧ σ[0]? = some (some (.ref f)) ∧ H c' = some (LamX.CodeO c' q) ∧ tl Ech H D.rt)
      rfl rfl ⟨hgl, hde, .inl hme⟩ LamX.takes0 (fun W pn xe tk _ => ⟨fun pins s' σ H' D I h' => ?_⟩) (fun a oe cls d pn _ _ => pss_one (ps_ret pe_non))),
    fun cls _ H' => ∃ b, PySem.W.exmOne X.K cls (.ref CS) = some b ∧ (b = true → Q .non H') ∧ (b = false → False), fun cls d σ' H' ⟨b, e1, e2, e3⟩ => ⟨b, e1, fun hb a _ => e2 hb, fun hb => e3 hb⟩, h0 f, hc, h⟩
  obtain ⟨Ech, hW, h1, h2, h3⟩ := h'
  exact (pss_one (ps_ret (pos := p3) (act W pn xe Ech p1 p2 tk hW))).run pins s' σ H' D I ⟨h1, h2, h3⟩
end
end M

namespace M
open PySem PySem.Spec PyProof.Rows L2

section
variable {X : Cx} {pins : List (Addr × Obj)} {σ : L2.St} {H HZ : Hp} {s s1 : Shared}
/-- the parameter that holds the lambda is called: nothing is under repr there either -/
theorem act_G {CXg : CXT} {Eg : XK} {Ng : List Str} {qg : Str} {sg : Scope} {g f c' : Addr} {cdg pm ctv : Value} {params : Arguments} {body : Expr} {scope : Scope} {k i : Nat} {a : Str} {pn : List (Addr × Obj)} {xe : Value → Shared → Prop} {W : WX} {E : XK} {tb : TE} {p1 p2 : Pos}
    (I : Inv X pins σ H s) (L : LamX.LamS X.env.scope scope) (hf : s.heap.get? f = some (PySem.W.kla_obj "<lambda>" (X.env.qual ++ "<lambda>") params body scope (cloFrom X.env.cells scope.names []) pm c' ctv)) (hfn : H f = none) (hfr : f ∉ frs X.stack)
    (hbind : bindArgs (PySem.W.kla_fn "<lambda>" (X.env.qual ++ "<lambda>") params body scope (cloFrom X.env.cells scope.names []) pm (.ref c') ctv) ⟨[], []⟩ = pure [])
    (tk : Takes ((cxOf CXg X.prog X.w X.K X.mg X.base Ng qg sg g cdg X.A X.stack s H Eg).tr pn xe) W) (hW : ∀ cls d σ' H', E cls d H' → W cls d σ' H') (hr : Rm (k + 1) (X.A.deeper (envOfC qg sg s.heap.objs.size g cdg)))
    (hbody : ∀ (A : Around) (outer : List Env) (s : Shared) (H : Hp), Rm k (A.deeper (LamX.lamEnv X scope s.heap.objs.size f c')) → PE (LamX.lamCx X A outer s H E scope f c') body tb)
    (hN : Ng[i]? = some a) (hv : Vis sg a) (hd : (a == ("__debug__" : Str)) = false) (hcd : (a == ("__classdict__" : Str)) = false) :
    PE ((cxOf CXg X.prog X.w X.K X.mg X.base Ng qg sg g cdg X.A X.stack s H Eg).tr pn xe) (.Call (.Name a p1) [] [] p2)
      (fun σZ HZ Q => σZ[i]? = some (some (.ref f)) ∧ HZ c' = some (LamX.CodeO c' (X.env.qual ++ "<lambda>")) ∧ tb σ HZ Q) := by
  refine ⟨fun pinsZ sZ σZ HZ Q IZ ⟨hs, hc, ht⟩ => wpAny_Call_Name_kw (thn ((pe_var (pos := p1) (i := i) hN hv hd hcd).run pinsZ sZ σZ HZ (fun v H1 => v = .ref f ∧ H1 = HZ) IZ ⟨.ref f, hs, rfl, rfl⟩) fun u s1 ⟨v, H1, I1, r1, q1⟩ => ?_)⟩
  obtain ⟨rfl, rfl⟩ := q1
  obtain rfl : u = Value.ref f := r1
  have of1 := I1.base.keep f _ hf hfn hfr (fun z => nomatch (show f ∈ ([] : List Addr) from z))
  refine PySem.W.callWith_F0 ⟨_, _, _, _, of1⟩ ?_
  obtain ⟨⟨oc, vs, t, hoc, hdc, hvc⟩, _, _⟩ := I1.hok c' _ hc
  have rc : codeAny (model X.prog X.w) (X.A.deeper (envOfC qg sg s.heap.objs.size g cdg)) (.call (.ref f) ⟨[], []⟩) (CR (L2.CX X.prog X.w) (envOfC qg sg s.heap.objs.size g cdg :: X.stack) X.prog X.w H1 s1 Q E) s1 := by
    refine PySem.W.kla_callFunE hr.r.depth of1 rfl L.co L.gen rfl ⟨c', oc, vs, t, rfl, hoc, hdc, hvc⟩ ?_
    rw [hbind]
    refine wpAny_pure (wpAny_newFunctionEnv (fun y hy => (L.own y hy).2) (fun y hy => absurd hy (by simp)) (fun h₁ hns hsb => ⟨I1.nolimit.fresh _ hsb, ?_⟩) L.kind)
    have J := LamX.lam_start2 (c' := c') (f := f) (E := E) (tk := s1.toks + ([] : List (Str × Value)).length) I L I1.env0 hr.r.hd I1.base hns fun b o e => hsb.extBut b o (Nat.ne_of_lt (Heap.lt_size e)) (Heap.get?_push_of_some _ e)
    exact PySem.W.kla_codeExpr (wpAny_mono ((hbody _ _ s1 H1 ⟨hr.r.deeper _, hr.g⟩).run [] _ _ H1 Q J ht) (fun v s' ⟨w', H', J', rv, q⟩ => ⟨w', H', J'.os, J'.bare, J'.base, J'.hok, rv, q⟩) fun _ _ q => q)
  have hx : Passes (L2.CX X.prog X.w) ((cxOf CXg X.prog X.w X.K X.mg X.base Ng qg sg g cdg X.A X.stack s H Eg).tr pn xe) E := passes_call tk hW
  refine wpAny_call (codeAny_mono rc fun r s' hq => ?_)
  match r, hq with
  | .error e, hq => exact hx pinsZ σZ H1 s1 e s' I1 hq
  | .ok (.ret u), hq => exact I1.after hq
  | .ok .next, hq => exact hq.elim
  | .ok .brk, hq => exact hq.elim
  | .ok .cont, hq => exact hq.elim
end
section
variable {X : Cx}
/-- x(lambda: body), the table's growth told -/
theorem pe_lam3 {TT : (XK → Hp → VK → Prop) → Hp → VK → Prop} {x a : Str} {g c P : Addr} {k : Nat} {pg : Arguments} {bg : List Stmt} {sg : Scope} {dV kV doc pm cdv ct oc : Value} {an od : Option Addr} {osl : Array (Option Value)} {Ng : List Str}
    {params : Arguments} {body : Expr} {scope : Scope} {t : XK → TE} {p lpos pos : Pos} (hg : Gl X x) (hm : X.mg x = some (.ref g)) (hk : PySem.W.keepIn X.K (.ref g) = true)
    (lk : X.K.lookup g = some ⟨oc, od, .func (PySem.W.fnOf x x pg bg sg dV kV doc pm an cdv ct), osl⟩) (hcg : PySem.W.codeIn X.K cdv x = true) (hb : L2.Binds X.K (PySem.W.fnOf x x pg bg sg dV kV doc pm an cdv ct) [a] []) (Sg : FnScope Ng [a] sg) (hNg : Ng[0]? = some a) (hva : Vis sg a)
    (hG : LamX.GivesTo X Ng x sg g cdv bg a (X.env.qual ++ "<lambda>") TT)
    (TB : LamX.TabB X.base X.mg c P) (hcode : X.env.code = .ref c) (hr : Rm (k + 2) X.A) (L : LamX.LamS X.env.scope scope) (hdef : defaultsOf params X.env = ([], []))
    (hbind : ∀ (q : Str) (cl : List (Str × Addr)) (pm cv ctv : Value), bindArgs (PySem.W.kla_fn "<lambda>" q params body scope cl pm cv ctv) ⟨[], []⟩ = pure [])
    (hbody : ∀ (A : Around) (outer : List Env) (s : Shared) (H : Hp) (E : XK) (f c' : Addr), Rm k (A.deeper (LamX.lamEnv X scope s.heap.objs.size f c')) → PE (LamX.lamCx X A outer s H E scope f c') body (t E))
    (hdb : (x == ("__debug__" : Str)) = false) (hd : (a == ("__debug__" : Str)) = false) (hcd : (a == ("__classdict__" : Str)) = false) :
    PE X (.Call (.Name x p) [.Lambda params body scope lpos] [] pos) (fun σ H Q => LamX.TabS H P (X.env.qual ++ "<lambda>") ∧ ∀ H1, LamStep H H1 P (X.env.qual ++ "<lambda>") → TT (fun E H' Q' => t E σ H' Q') H1 Q) := by
  refine ⟨fun pins s σ H Q I ⟨hT, h⟩ => ?_⟩
  refine wpAny_Call_Name_kw (ld_glob I hg hm (PySem.W.callWith_K (h₀ := X.base) I.ok.mod.kin hk ?_ (by rfl) (by rfl)) hdb)
  show wpAny _ _ (spliced ((false, eval (.Lambda params body scope lpos) X.env) :: backTo pos (starEach [] X.env))) _ _ s
  refine Calls.spliced_cons (lam_make3 I TB hcode hT hdef (L.has I.ok) fun f c' pm' ctv H1 s' I1 st hf hfn hfr hco => Calls.spliced_nil ⟨I1.kIn, ?_⟩)
  have rc : codeAny (model X.prog X.w) X.A (.call (.ref g) ⟨[.ref f], []⟩) (CR C8.CX0 X.stack X.prog X.w H1 s' Q C8.E0) s' :=
    LamX.run_ofS (N := Ng) (ps := [a]) (us := [.ref f]) (vs := [.ref f]) lk hcg Sg hr.r I1.env0 (hb s' [.ref f] I1.kIn rfl) (.cons rfl .nil) rfl fun hr' => by
      obtain ⟨t', ht', hq'⟩ := hG f c' s' H1 Q (fun E H' Q' => t E σ H' Q') (fun W pn xe E p1 p2 tk hW => act_G (i := 0) I1 L hf hfn hfr (hbind _ _ _ _ _) tk hW ⟨hr', hr.g⟩ (fun A outer s H hr2 => hbody A outer s H E f c' hr2) hNg hva hd hcd) hco (h H1 st)
      exact ⟨t', ht'.nox, hq'⟩
  refine wpAny_call (codeAny_mono rc fun r s2 hq => ?_)
  match r, hq with
  | .ok (.ret u), hq => exact I1.after hq
  | .ok .next, hq => exact hq.elim
  | .ok .brk, hq => exact hq.elim
  | .ok .cont, hq => exact hq.elim
  | .error e, hq => exact (show False from hq).elim
end
variable [Tabs]
/-- the maker's table grows by the lambda's code object -/
theorem lamStep_stp {K : PySem.W.Frag} {σ : L2.St} {ρ : Rho} {G H H1 : Hp} {P : Addr} {q : Str} (I : SR K G H σ ρ) (hT : P ∈ Tabs.T) (hP : (P, q) ∈ Tabs.L) (hu : ∀ p ∈ Tabs.L, p.1 = P → p.2 = q) (st : LamStep H H1 P q) :
    Stp σ ρ G H σ ρ G H1 ∧ SR K G H1 σ ρ := by
  obtain ⟨ps, e0, t0, _⟩ := I.lam _ hP
  obtain ⟨qs, e1, t1, _⟩ := id st.tab
  have nb : ∀ a o, H a = some o → isTb o = false → a ≠ P := fun a o e t z => by rw [z, e0] at e; cases e; cases t
  have kp : ∀ a o, H a = some o → isTb o = false → H1 a = some o := fun a o e t => st.keep a o (nb a o e t) e
  have gr : Grow H H1 := fun a rs e => by
    by_cases z : a = P
    · subst z
      exact ⟨qs, e1, fun _ => t1, fun q' m _ => by have z : q' = q := hu _ m rfl; rw [z]; exact st.tab⟩
    · refine ⟨rs, st.keep a _ z e, id, fun q' _ t => tabS_to t (fun ps h => st.keep a _ z h) fun c h => st.keep c _ (fun y => ?_) h⟩
      rw [y, e0] at h
      exact LamX.codeO_ne ps (Option.some.inj h).symm
  have dm : ∀ a, H a ≠ none → H1 a ≠ none := fun a n => by
    cases e : H a with
    | none => exact absurd e n
    | some o =>
      by_cases z : a = P
      · rw [z, e1]; exact fun z => by cases z
      · rw [st.keep a o z e]; exact fun z => by cases z
  have own : ∀ (a : Addr) (vs : List V), H a = some (.lst vs) → H1 a = some (.lst vs) := fun a vs e => kp a _ e rfl
  have sub : Same G H1 := fun a o e => by
    have e2 := I.sub a o e
    by_cases z : a = P
    · rw [z, (I.tab P hT).2] at e; cases e
    · exact st.keep a o z e2
  exact ⟨⟨fun _ _ h => h, fun _ _ _ => rfl, fun a o e _ t => kp a o e t, gr, dm, fun _ h => .inl h, fun _ h => .inl h, fun i ds h => ⟨rfl, ds, h⟩⟩,
    I.tabs' gr fun _ _ _ => rfl, I.lam' gr, I.len, sub, fun i s o e1 e2 => (by
      have r := I.slot i s o e1 e2
      match s, r with
      | none, _ => trivial
      | some (.dat d), r => exact r
      | some (.own _ ds), ⟨a, vs, e, e2, e3, r⟩ => exact ⟨a, vs, e, own a vs e2, e3, r⟩), I.inj⟩

/-! ### told: try: return call() / except C: return None -/
/-- ct: the classes that are caught -/
def eTold (ct : Str → Option Bool) (f : FE) : FE := fun ρ => match f ρ with
  | .ok p => .ok p
  | .ex (.mk c none) ρ' => if ct c = some true then .ok (.non, ρ') else .no
  | .ex (.mk _ (some _)) _ => .no
  | .no => .no
/-- a lambda's reading: an exception at the very names -/
def rdL (K : PySem.W.Frag) (f : FE) (E : XK) : TE := rdX K (fun cls d _ H => E cls d H) f
section
variable {X : Cx}
theorem takesL {A : Around} {outer : List Env} {s : Shared} {H : Hp} {E : XK} {scope : Scope} {f c' : Addr} : Takes (LamX.lamCx X A outer s H E scope f c') (fun cls d _ H => E cls d H) :=
  takes_of rfl rfl rfl rfl
theorem de_told {x a e : Str} {st : Stmt} {g CS c P : Addr} {fd : FuncData} {cdv : Value} {k : Nat} {Ng : List Str} {params : Arguments} {body : Expr} {scope : Scope} {p lpos pos : Pos} {fe : FE} {ct : Str → Option Bool} {j : Nat} {p1 p2 p3 p4 p5 p6 p7 p8 : Pos}
    (F : FunC X.K x x st g fd cdv) (hb : L2.Binds X.K fd [a] []) (Sg : FnScope Ng [a] (defScope st))
    (hst : defBody st = [.Try [.Return (some (.Call (.Name a p1) [] [] p2)) p3] [.ExceptHandler (some (.Name e p4)) none [.Return (some (.Constant .none j p5)) p6] p7] [] [] p8])
    (hge : (defScope st).names.lookup e = some .globalImplicit) (hme : X.mg e = some (.ref CS)) (hde : (e == ("__debug__" : Str)) = false)
    (h0 : ∀ f : Addr, (L2.start Ng [V.ref f])[0]? = some (some (V.ref f))) (hNg : Ng[0]? = some a) (hva : Vis (defScope st) a)
    (hct : ∀ c b, ct c = some b → PySem.W.exmOne X.K (.ref (He.ga X.K c)) (.ref CS) = some b)
    (hg : Gl X x) (hm : X.mg x = some (.ref g)) (TB : GxR.TabB X.base X.mg c P) (hT : P ∈ Tabs.T) (hcode : X.env.code = .ref c) (hL : (P, X.env.qual ++ "<lambda>") ∈ Tabs.L) (hu : ∀ p ∈ Tabs.L, p.1 = P → p.2 = X.env.qual ++ "<lambda>")
    (hr : Rm (k + 2) X.A) (L : LamX.LamS X.env.scope scope) (hdef : defaultsOf params X.env = ([], []))
    (hbind : ∀ (q : Str) (cl : List (Str × Addr)) (pm cv ctv : Value), bindArgs (PySem.W.kla_fn "<lambda>" q params body scope cl pm cv ctv) ⟨[], []⟩ = pure [])
    (hbody : ∀ (A : Around) (outer : List Env) (s : Shared) (H : Hp) (E : XK) (f c' : Addr), Rm k (A.deeper (LamX.lamEnv X scope s.heap.objs.size f c')) → PE (LamX.lamCx X A outer s H E scope f c') body (rdL X.K fe E))
    (hdb : (x == ("__debug__" : Str)) = false) (hd : (a == ("__debug__" : Str)) = false) (hcd : (a == ("__classdict__" : Str)) = false) :
    PE X (.Call (.Name x p) [.Lambda params body scope lpos] [] pos) (rd X.K (eTold ct fe)) := by
  obtain ⟨oc, od, kV, doc, pm, an, ctv, osl, rfl, lk, hcd'⟩ := F.ex
  have hG : LamX.GivesTo X Ng x (defScope st) g cdv (defBody st) a (X.env.qual ++ "<lambda>") (TToldN X.K CS) := by
    rw [hst]; exact told_givesN hge hme hde h0
  refine pe_imp (pe_lam3 (t := rdL X.K fe) hg hm F.kp lk hcd' hb Sg hNg hva hG ⟨TB.code, TB.bm, TB.gP⟩ hcode hr L hdef hbind hbody hdb hd hcd) fun σ H Q ⟨ρ, G, I, h⟩ => ?_
  refine ⟨I.lam _ hL, fun H1 ls => ?_⟩
  obtain ⟨S1, I1⟩ := lamStep_stp I hT hL hu ls
  refine ⟨ρ, G, I1, ?_⟩
  unfold eTold at h
  unfold rdXK
  cases z : fe ρ with
  | ok p =>
    rw [z] at h
    exact fun v H' G' a b c => h v H' G' (S1.trans a) b c
  | no => rw [z] at h; exact h
  | ex y ρ' =>
    rw [z] at h
    obtain ⟨c0, o⟩ := y
    cases o with
    | some d => exact h.elim
    | none =>
      dsimp only at h ⊢
      by_cases q : ct c0 = some true
      · rw [if_pos q] at h
        intro H' G' cls d a b cc
        obtain ⟨rfl, rfl⟩ := cc
        exact ⟨true, hct c0 true q, fun _ => h .non H' G' (S1.trans a) b (by simp only [Rep]), fun y => by cases y⟩
      · rw [if_neg q] at h; exact h.elim
end
end M

namespace M
open PySem PySem.Spec PyProof.Rows L2
def sIfX (ft : FT) (ga gb : FS) : FS := fun ρ => match ft ρ with | .ok (t, ρ1) => if t = true then ga ρ1 else gb ρ1 | _ => .no
/-- no two defs have one table -/
def tabsNd (tf : List He.Defn) (K : PySem.W.Frag) : Bool := decide (((tf.map (He.cT K)).map (·.2)).Nodup)
theorem nodup_inj {α β : Type} {f : α → β} : ∀ {l : List α}, (l.map f).Nodup → ∀ {p q : α}, p ∈ l → q ∈ l → f p = f q → p = q
  | [], _, p, _, h, _, _ => by cases h
  | x :: l, nd, p, q, hp, hq, e => by
    rw [List.map_cons, List.nodup_cons] at nd
    rcases List.mem_cons.mp hp with h1 | h1
    · rcases List.mem_cons.mp hq with h2 | h2
      · rw [h1, h2]
      · exact absurd (List.mem_map.mpr ⟨q, h2, by rw [← e, h1]⟩) nd.1
    · rcases List.mem_cons.mp hq with h2 | h2
      · exact absurd (List.mem_map.mpr ⟨p, h1, by rw [e, h2]⟩) nd.1
      · exact nodup_inj nd.2 h1 h2 e
theorem tabsNd_inj {tf : List He.Defn} {K : PySem.W.Frag} (h : tabsNd tf K = true) {p q : He.Defn} (hp : p ∈ tf) (hq : q ∈ tf) (e : (He.cT K p).2 = (He.cT K q).2) : p = q := by
  have nd := of_decide_eq_true h
  rw [List.map_map] at nd
  exact nodup_inj nd hp hq e
end M

namespace M
open PySem PySem.Spec PyProof.Rows L2
variable [Tabs]

/-! ### instances of own classes with slots, as data -/
/-- a def's promise by positions, where nothing is under repr -/
def FnP (P : Program) (w : World) (K : PySem.W.Frag) (mg : Str → Option Value) (base : Heap) (k : Nat) (f : Addr) (sp : Sp) : Prop :=
  ∀ (A : Around) (below : List Env) (t : Shared) (H : Hp) (us : List Value) (xs : List V) (Q : VK) (E : XK), Rm k A → Env0 P w K mg base A below t H → Vals xs us → sp xs H Q E → codeAny (model P w) A (.call (.ref f) ⟨us, []⟩) (CR CX0 below P w H t Q E) t
section
variable {P : Program} {w : World} {K : PySem.W.Frag} {mg : Str → Option Value} {base : Heap}
omit [Tabs] in
theorem FnG.pos {k : Nat} {f : Addr} {fd : FuncData} {ps : List Str} {sp : Sp} (F : FnG P w K mg base k f fd ps sp) (hb : Binds K fd ps []) : FnP P w K mg base k f sp := fun A below t H us xs Q E rm env r h => by
  have hl : (us ++ []).length = ps.length := by rw [List.append_nil, ← r.length]; exact F.size _ _ _ _ h
  have KT : K.In t.heap := env.mod.kin.keeps fun b o q => (env.bs b o q).1
  have bt := hb t us KT hl
  rw [List.append_nil] at bt
  exact F.go A below t H ⟨us, []⟩ us xs Q E rm env bt r h
omit [Tabs] in
theorem run_P {X : Cx} {pins : List (Addr × Obj)} {σ : L2.St} {H : Hp} {s : Shared} {A : Around} {k : Nat} {f : Addr} {sp : Sp} {Q : VK} {E : XK} {us : List Value} {ws : List V} (F : FnP X.prog X.w X.K X.mg X.base k f sp) (hr : Rm k A) (e0 : Env0 X.prog X.w X.K X.mg X.base A X.stack s H) (I : Inv X pins σ H s) (r : Vals ws us) (h : sp ws H Q E) :
    codeAny (model X.prog X.w) A (.call (.ref f) ⟨us, []⟩) (fun r s' => match r with | .ok (.ret v) => EP X pins σ Q v s' | .ok _ => False | .error e => X.xe e s') s := by
  refine codeAny_mono (F A X.stack s H us ws Q E hr e0 r h) fun rr s2 z => ?_
  match rr, z with
  | .ok (.ret u), z => exact I.after z
  | .ok .next, z => exact z.elim
  | .ok .brk, z => exact z.elim
  | .ok .cont, z => exact z.elim
  | .error _, z => exact z.elim
end
theorem Rep.slt {K : PySem.W.Frag} {G H : Hp} {c : Str} {fs : List D} {v : V} (s : Same G H) (h : Rep K G (.ins c fs) v) : ∃ a dx vs, v = .ref a ∧ SlX.Slt H a (He.ga K c) dx (vs.map some) ∧ Reps K G fs vs := by
  simp only [Rep] at h
  obtain ⟨a, dx, vs, e, h1, h2, r⟩ := h
  exact ⟨a, dx, vs, e, .inr ⟨s _ _ h1, s _ _ h2⟩, r⟩
/-- what a name behind a dot may be: a slot, a property -/
inductive AtK where
  | sl (i : Nat) | pr (F : FD)
def eAttr (tb : Str → Option AtK) (n : Nat) (fe : FE) : FE := bnd fe fun d => fun ρ => match d with
  | .ins c fs => (match tb c with
    | some (.sl i) => (match fs[i]? with | some r => .ok (r, ρ) | none => .no)
    | some (.pr F) => callD F n [.d (.ins c fs)] ρ
    | none => .no)
  | _ => .no
/-- a property's facts -/
structure PrF (K : PySem.W.Frag) (C : Addr) (f : Str) (g : Addr) : Prop where
  ex : ∃ p, PySem.W.findIn K (.ref C) f = some (some (.ref p)) ∧ PySem.W.specialIn K (.ref p) "__get__" = some (some (.builtin "property.__get__")) ∧ PySem.W.takesIn K (.ref p) = some true ∧ ∃ rest, PySem.W.recIn K p "property" = some (.ref g :: rest)
/-- the table of a name behind a dot tells the truth -/
def AtOk (P : Program) (w : World) (K : PySem.W.Frag) (mg : Str → Option Value) (base : Heap) (k : Nat) (f : Str) (tb : Str → Option AtK) : Prop := ∀ c z, tb c = some z → SlX.SCls K (He.ga K c) ∧ (match z with
  | .sl i => ∃ p, SlX.Slot1 K (He.ga K c) f p i
  | .pr F => (∃ g, PrF K (He.ga K c) f g ∧ FnP P w K mg base k g (spI K 1 F)) ∧ ∀ n as s as', F n as = some (s, as') → as.length = 1)
section
variable {X : Cx} {k j np : Nat} {e o : Expr} {es : List Expr} {f m : Str} {pos apos : Pos} {fe fo : FE} {fr : FAr}
/-- what a call with tracked arguments asks of a promise -/
theorem sp_callD {σ : L2.St} {ρ ρ1 : Rho} {G H G1 H1 : Hp} {F : FD} {n : Nat} {xs : List Ar} {vs : List V} {Q : VK} {E : XK} (hnp : ∀ n as s as', F n as = some (s, as') → as.length = np) (s1 : Stp σ ρ G H σ ρ1 G1 H1) (I1 : SR X.K G1 H1 σ ρ1) (r1 : ArR X.K G1 σ xs vs)
    (h : rdK X.K (callD F n xs) σ ρ1 G1 H1 Q) : spI X.K np F vs H1 Q E := by
  unfold rdK callD at h
  by_cases o : onceO xs = true
  · rw [if_pos o] at h
    cases ea : argsOf ρ1 xs with
    | none => rw [ea] at h; exact h.elim
    | some as =>
      rw [ea] at h
      dsimp only at h
      cases ef : F n as with
      | none => rw [ef] at h; exact h.elim
      | some q =>
        obtain ⟨sl, as'⟩ := q
        rw [ef] at h
        cases sl with
        | own io ds => exact h.elim
        | dat d =>
          dsimp only at h
          obtain ⟨l1, l2, _⟩ := args_get r1 ea
          refine ⟨n, G1, as, .dat d, as', by rw [l1]; exact hnp n as _ _ ef, args_SR I1 r1 ea o, args_io ea, ef, fun v H' G' st I' rr => ?_⟩
          obtain ⟨A, B, _⟩ := call_back I1 r1 ea o st I'
          exact h v H' G' A B rr
  · rw [if_neg o] at h; exact h.elim
/-- e.f: a slot, or a property -/
theorem de_attr {tb : Str → Option AtK} (n : Nat) (ok : AtOk X.prog X.w X.K X.mg X.base k f tb) (hr : Rm j X.A) (hk : k + 1 ≤ j) (he : PE X e (rd X.K fe)) (hb : attributeBase e f X.env (eval e X.env) = eval e X.env := by rfl) :
    PE X (.Attribute e f pos) (rd X.K (eAttr tb n fe)) := by
  refine ⟨fun pins s σ H Q I ⟨ρ, G, J, h⟩ => ?_⟩
  refine attr_of hb (thn (he.run pins s σ H _ I ⟨ρ, G, J, rdK_bnd h⟩) fun u s1 ⟨x, H1, I1, rx, d, ρ1, G1, st, J1, rp, q⟩ => ?_)
  cases d with
  | ins c fs =>
    dsimp only at q
    obtain ⟨a, dx, vs, rfl, hsl, rf⟩ := Rep.slt J1.sub rp
    cases (show u = Value.ref a from rx)
    cases z : tb c with
    | none => unfold rdK at q; simp only [z] at q
    | some y =>
      obtain ⟨sc, q1⟩ := ok c y z
      cases y with
      | sl i =>
        obtain ⟨p, s1'⟩ := q1
        unfold rdK at q
        simp only [z] at q
        cases g : fs[i]? with
        | none => rw [g] at q; exact q.elim
        | some r =>
          rw [g] at q
          dsimp only at q
          obtain ⟨v, hv, rv⟩ := rf.get g
          refine SlX.getslot_ok I1 hsl sc s1' (v := v) (by rw [List.getElem?_map, hv]; rfl) fun u' s2 I2 ru => ⟨v, H1, I2, ru, ?_⟩
          exact q v H1 G1 (Stp.refl _ _ _ _) J1 rv
      | pr F =>
        obtain ⟨⟨g, ⟨p, at_, get, tk, rc⟩, FP⟩, hnp⟩ := q1
        have q2 : rdK X.K (callD F n [.d (.ins c fs)]) σ ρ1 G1 H1 Q := by
          unfold rdK at q ⊢
          simpa only [z] using q
        have hsp : spI X.K 1 F [.ref a] H1 Q E0 := sp_callD hnp st J1 (by simp only [ArR]; exact ⟨_, _, rfl, rp, rfl⟩) q2
        obtain ⟨sl, od, _, JI, _⟩ := SlX.slt_inst I1 hsl
        obtain ⟨rest, hrec⟩ := rc
        have I2 : Inv X pins σ H1 { s1 with toks := s1.toks + 1 } := I1.tok (s1.toks + 1)
        have hr2 : Rm k X.A.in1 := ⟨(hr.r.mono hk).in1, hr.g⟩
        refine PySem.W.get_bind I1.kIn JI (PySem.W.plainGet_of (sc.get f)).1 (PySem.W.findObj_data sc.ic at_ get tk) (PySem.W.plainGet_of (sc.get f)).2 (wpAny_call (PySem.W.prop_get (s := { s1 with toks := s1.toks + 1 }) I1.kIn hrec ?_))
        refine codeAny_mono (FP X.A.in1 X.stack { s1 with toks := s1.toks + 1 } H1 [.ref a] [.ref a] Q E0 hr2 I2.env0.in1 (.cons rfl .nil) hsp) fun r s' hq => ?_
        match r, hq with
        | .ok (.ret u), hq =>
          obtain ⟨v, H', I3, rv, q⟩ := I2.after hq
          exact wpAny_of_eq (PySem.W.handedOut_of (handed_of rv)) ⟨v, H', I3, rv, q⟩
        | .ok .next, hq => exact hq.elim
        | .ok .brk, hq => exact hq.elim
        | .ok .cont, hq => exact hq.elim
        | .error e, hq => exact (show False from hq).elim
  | _ => exact q.elim
/-- the defs of a method's name, class by class -/
def MtOk (P : Program) (w : World) (K : PySem.W.Frag) (mg : Str → Option Value) (base : Heap) (k : Nat) (m : Str) (np : Nat) (tb : Str → Option FD) : Prop := ∀ c F, tb c = some F → SlX.SCls K (He.ga K c) ∧ (∃ g, Meth K (He.ga K c) m g ∧ FnP P w K mg base k g (spI K np F)) ∧ ∀ n as s as', F n as = some (s, as') → as.length = np
def eMeth (tb : Str → Option FD) (n : Nat) (fo : FE) (fr : FAr) : FE := fun ρ => (fo ρ).bind fun p => (fr p.2).bind fun q => match p.1 with
  | .ins c fs => (match tb c with | some F => callD F n (.d (.ins c fs) :: q.1) q.2 | none => .no)
  | _ => .no
theorem rd_eMeth {tb : Str → Option FD} {n : Nat} {σ : L2.St} {ρ : Rho} {G H : Hp} {Q : VK} (h : rdK X.K (eMeth tb n fo fr) σ ρ G H Q) :
    rdK X.K fo σ ρ G H fun v H1 => ∃ d ρ1 G1, Stp σ ρ G H σ ρ1 G1 H1 ∧ SR X.K G1 H1 σ ρ1 ∧ Rep X.K G1 d v ∧ (∃ c fs F, d = .ins c fs ∧ tb c = some F ∧ rdRK X.K fr σ ρ1 G1 H1 fun vs H2 => ∃ xs ρ2 G2, Stp σ ρ1 G1 H1 σ ρ2 G2 H2 ∧ SR X.K G2 H2 σ ρ2 ∧ ArR X.K G2 σ xs vs ∧ Rep X.K G2 d v ∧ rdK X.K (callD F n (.d (.ins c fs) :: xs)) σ ρ2 G2 H2 Q) := by
  unfold rdK eMeth at h
  unfold rdK
  cases e1 : fo ρ with
  | ex _ _ => rw [e1] at h; exact h
  | no => rw [e1] at h; exact h
  | ok p =>
    obtain ⟨d, ρ1⟩ := p
    rw [e1] at h
    dsimp only [Rz.bind] at h ⊢
    intro v H1 G1 s1 I1 r1
    refine ⟨d, ρ1, G1, s1, I1, r1, ?_⟩
    cases e2 : fr ρ1 with
    | ex _ _ => rw [e2] at h; exact h.elim
    | no => rw [e2] at h; exact h.elim
    | ok q =>
      obtain ⟨xs, ρ2⟩ := q
      rw [e2] at h
      dsimp only at h
      cases d with
      | ins c fs =>
        dsimp only at h
        cases z : tb c with
        | none => rw [z] at h; exact h.elim
        | some F =>
          rw [z] at h
          dsimp only at h
          refine ⟨c, fs, F, rfl, z, ?_⟩
          unfold rdRK
          rw [e2]
          dsimp only
          intro vs H2 G2 s2 I2 r2
          refine ⟨xs, ρ2, G2, s2, I2, r2, Rep.mono s2.sub _ _ r1, ?_⟩
          cases e3 : callD F n (.d (.ins c fs) :: xs) ρ2 with
          | ok p =>
            rw [e3] at h
            exact fun v H' G' a b c => h v H' G' (s1.trans (s2.trans a)) b c
          | ex _ _ => rw [e3] at h; exact h
          | no => rw [e3] at h; exact h
      | _ => exact h.elim
theorem de_meth {tb : Str → Option FD} (n : Nat) (ok : MtOk X.prog X.w X.K X.mg X.base k m np tb) (hr : Rm j X.A) (hk : k ≤ j) (he : PE X o (rd X.K fo)) (ha : PA X (e :: es) (rdR X.K fr)) {pl : Sem Bool}
    (hst : starEach (e :: es) X.env = (false, eval e X.env) :: starEach es X.env := by rfl) (hpl : (backTo pos (starEach es X.env)).any (·.1) = false := by rfl)
    (ht : eval (.Call (.Attribute o m apos) (e :: es) [] pos) X.env = (do
      let ov ← eval o X.env
      standAt apos.atName
      let (f, first) ← holding [ov] (getMethod ov m pl)
      callWith pos f first (backTo pos (starEach (e :: es) X.env)) (backToKw pos (keywordEach [] X.env))) := by rfl) :
    PE X (.Call (.Attribute o m apos) (e :: es) [] pos) (rd X.K (eMeth tb n fo fr)) := by
  refine ⟨fun pins s σ H Q I ⟨ρ, G, J, h⟩ => ?_⟩
  refine PySem.W.methodCall_KW (pl := pl) (thn (he.run pins s σ H _ I ⟨ρ, G, J, rd_eMeth h⟩) fun u s1 ⟨x, H1, I1, rx, d, ρ1, G1, st, J1, rp, c, fs, F, e1, z, q⟩ => ?_) ht
  subst e1
  obtain ⟨a, dx, vs, rfl, hsl, rf⟩ := Rep.slt J1.sub rp
  cases (show u = Value.ref a from rx)
  obtain ⟨sc, ⟨g, hm, FP⟩, hnp⟩ := ok c F z
  refine SlX.getmethsl_ok I1 hsl sc hm ?_
  refine PySem.W.callWith_K (first := [.ref a]) (h₀ := X.base) I.ok.mod.kin hm.kp (thn (ha.run pos pins s1 σ H1 _ I1 ⟨ρ1, G1, J1, q⟩) fun us s2 ⟨ws, H2, I2, r, xs, ρ2, G2, st2, J2, ra, rp2, q2⟩ => ⟨I2.kIn, ?_⟩) hst hpl
  have hsp : spI X.K np F (.ref a :: ws) H2 Q E0 := sp_callD hnp st2 J2 (by simp only [ArR]; exact ⟨_, _, rfl, rp2, ra⟩) q2
  exact wpAny_call (run_P (us := .ref a :: us) (ws := .ref a :: ws) FP (hr.mono hk) I2.env0 I2 (.cons rfl r) hsp)
theorem de_meth0 {tb : Str → Option FD} (n : Nat) (ok : MtOk X.prog X.w X.K X.mg X.base k m np tb) (hr : Rm j X.A) (hk : k ≤ j) (he : PE X o (rd X.K fo)) {pl : Sem Bool}
    (ht : eval (.Call (.Attribute o m apos) [] [] pos) X.env = (do
      let ov ← eval o X.env
      standAt apos.atName
      let (f, first) ← holding [ov] (getMethod ov m pl)
      callWith pos f first (backTo pos (starEach [] X.env)) (backToKw pos (keywordEach [] X.env))) := by rfl) :
    PE X (.Call (.Attribute o m apos) [] [] pos) (rd X.K (eMeth tb n fo rNil)) := by
  refine ⟨fun pins s σ H Q I ⟨ρ, G, J, h⟩ => ?_⟩
  refine PySem.W.methodCall_KW (pl := pl) (thn (he.run pins s σ H _ I ⟨ρ, G, J, rd_eMeth h⟩) fun u s1 ⟨x, H1, I1, rx, d, ρ1, G1, st, J1, rp, c, fs, F, e1, z, q⟩ => ?_) ht
  subst e1
  obtain ⟨a, dx, vs, rfl, hsl, rf⟩ := Rep.slt J1.sub rp
  cases (show u = Value.ref a from rx)
  obtain ⟨sc, ⟨g, hm, FP⟩, hnp⟩ := ok c F z
  refine SlX.getmethsl_ok I1 hsl sc hm ?_
  have q' := q [] H1 G1 (Stp.refl _ _ _ _) J1 (by simp only [ArR])
  obtain ⟨xs, ρ2, G2, st2, J2, ra, rp2, q2⟩ := q'
  have hsp : spI X.K np F [.ref a] H1 Q E0 := sp_callD hnp st2 J2 (by simp only [ArR]; exact ⟨_, _, rfl, rp2, ra⟩) q2
  exact PySem.W.callWith_K0 (first := [.ref a]) I1.kIn hm.kp (wpAny_call (run_P (us := [.ref a]) (ws := [.ref a]) FP (hr.mono hk) I1.env0 I1 (.cons rfl .nil) hsp))
end
end M

namespace M
open PySem PySem.Spec PyProof.Rows L2

/-! ### an instance that is being made: self within __init__ -/
theorem codeO_slO {a c C dx : Addr} {q : Str} {vs : List (Option V)} : LamX.CodeO c q ≠ SlX.SlO a C dx vs := fun z => by
  unfold LamX.CodeO SlX.SlO at z
  injection z with z
  let o : Obj := { cls := .none, data := .fields #[.none, .str q default] }
  let h : Heap := { objs := Array.replicate (c + 1) o }
  have hg : ∀ b, h.get? b = if b < c + 1 then some o else none := fun b => by
    show (match (Array.replicate (c + 1) o)[b]? with | some ⟨_, _, .freed, _⟩ => none | o => o) = _
    rw [Array.getElem?_replicate]
    by_cases y : b < c + 1
    · rw [if_pos y]
    · rw [if_neg y]
  have e := congrFun z h
  have l : ∃ (oc : Obj) (vs : Array Value) (t : Tok), h.get? c = some oc ∧ oc.data = .fields vs ∧ vs[1]? = some (.str q t) := ⟨o, _, default, by rw [hg, if_pos (Nat.lt_succ_self c)], rfl, rfl⟩
  rw [e] at l
  obtain ⟨sl, h1, _⟩ := l
  rw [hg] at h1
  split at h1
  · exact absurd (congrArg Obj.data (Option.some.inj h1)) (by simp [o, PySem.W.instObj])
  · cases h1
/-- what the slots hold so far, as data -/
def RepO (K : PySem.W.Frag) (G : Hp) : List (Option D) → List (Option V) → Prop
  | [], us => us = []
  | none :: ds, us => ∃ r, us = none :: r ∧ RepO K G ds r
  | some d :: ds, us => ∃ v r, us = some v :: r ∧ Rep K G d v ∧ RepO K G ds r
def putD (i : Nat) (d : D) (vs : List (Option D)) : List (Option D) := (vs ++ List.replicate (i + 1 - vs.length) none).set i (some d)
section
variable {K : PySem.W.Frag} {G G' : Hp}
theorem RepO.length : ∀ {vs : List (Option D)} {us : List (Option V)}, RepO K G vs us → us.length = vs.length
  | [], us, h => by simp only [RepO] at h; subst h; rfl
  | none :: ds, us, h => by simp only [RepO] at h; obtain ⟨r, rfl, h⟩ := h; rw [List.length_cons, List.length_cons, h.length]
  | some d :: ds, us, h => by simp only [RepO] at h; obtain ⟨v, r, rfl, _, h⟩ := h; rw [List.length_cons, List.length_cons, h.length]
theorem RepO.mono (s : Same G G') : ∀ {vs : List (Option D)} {us : List (Option V)}, RepO K G vs us → RepO K G' vs us
  | [], us, h => by simpa only [RepO] using h
  | none :: ds, us, h => by simp only [RepO] at h ⊢; obtain ⟨r, rfl, h⟩ := h; exact ⟨r, rfl, h.mono s⟩
  | some d :: ds, us, h => by simp only [RepO] at h ⊢; obtain ⟨v, r, rfl, h1, h⟩ := h; exact ⟨v, r, rfl, Rep.mono s _ _ h1, h.mono s⟩
theorem RepO.nones : ∀ n, RepO K G (List.replicate n none) (List.replicate n none)
  | 0 => by simp only [List.replicate_zero, RepO]
  | n + 1 => by rw [List.replicate_succ, List.replicate_succ]; simp only [RepO]; exact ⟨_, rfl, RepO.nones n⟩
theorem RepO.app : ∀ {vs ws : List (Option D)} {us ts : List (Option V)}, RepO K G vs us → RepO K G ws ts → RepO K G (vs ++ ws) (us ++ ts)
  | [], ws, us, ts, h, k => by simp only [RepO] at h; subst h; exact k
  | none :: ds, ws, us, ts, h, k => by simp only [RepO] at h; obtain ⟨r, rfl, h⟩ := h; rw [List.cons_append, List.cons_append]; simp only [RepO]; exact ⟨_, rfl, h.app k⟩
  | some d :: ds, ws, us, ts, h, k => by simp only [RepO] at h; obtain ⟨v, r, rfl, h1, h⟩ := h; rw [List.cons_append, List.cons_append]; simp only [RepO]; exact ⟨v, _, rfl, h1, h.app k⟩
theorem RepO.set {d : D} {v : V} (q : Rep K G d v) : ∀ {vs : List (Option D)} {us : List (Option V)} (i : Nat), RepO K G vs us → RepO K G (vs.set i (some d)) (us.set i (some v))
  | [], us, i, h => by simp only [RepO] at h; subst h; simp only [List.set_nil, RepO]
  | none :: ds, us, 0, h => by simp only [RepO] at h; obtain ⟨r, rfl, h⟩ := h; rw [List.set_cons_zero, List.set_cons_zero]; simp only [RepO]; exact ⟨v, r, rfl, q, h⟩
  | some _ :: ds, us, 0, h => by simp only [RepO] at h; obtain ⟨_, r, rfl, _, h⟩ := h; rw [List.set_cons_zero, List.set_cons_zero]; simp only [RepO]; exact ⟨v, r, rfl, q, h⟩
  | none :: ds, us, i + 1, h => by simp only [RepO] at h; obtain ⟨r, rfl, h⟩ := h; rw [List.set_cons_succ, List.set_cons_succ]; simp only [RepO]; exact ⟨_, rfl, h.set q i⟩
  | some _ :: ds, us, i + 1, h => by simp only [RepO] at h; obtain ⟨w, r, rfl, h1, h⟩ := h; rw [List.set_cons_succ, List.set_cons_succ]; simp only [RepO]; exact ⟨w, _, rfl, h1, h.set q i⟩
theorem RepO.put {d : D} {v : V} {vs : List (Option D)} {us : List (Option V)} (i : Nat) (q : Rep K G d v) (h : RepO K G vs us) : RepO K G (putD i d vs) (SlX.putS i v us) := by
  unfold putD SlX.putS
  rw [h.length]
  exact (h.app (RepO.nones _)).set q i
/-- all are set -/
def allD? : List (Option D) → Option (List D)
  | [] => some []
  | some d :: r => (allD? r).map (d :: ·)
  | none :: _ => none
theorem RepO.all : ∀ {vs : List (Option D)} {us : List (Option V)} {ds : List D}, RepO K G vs us → allD? vs = some ds → ∃ ws : List V, us = ws.map some ∧ Reps K G ds ws
  | [], us, ds, h, e => by simp only [RepO] at h; subst h; cases e; exact ⟨[], rfl, Reps.nil⟩
  | none :: r, us, ds, h, e => by cases e
  | some d :: r, us, ds, h, e => by
    simp only [RepO] at h
    obtain ⟨v, t, rfl, h1, h⟩ := h
    simp only [allD?] at e
    cases z : allD? r with
    | none => rw [z] at e; cases e
    | some es =>
      rw [z] at e; cases e
      obtain ⟨ws, rfl, h2⟩ := h.all z
      exact ⟨v :: ws, rfl, Reps.cons h1 h2⟩
end
variable [Tabs]
/-- the state within __init__: Hb is the heap ahead of the making -/
structure IR (K : PySem.W.Frag) (C : Addr) (Hb : Hp) (σ0 : L2.St) (ρ0 : Rho) (G0 : Hp) (a dx : Addr) (us : List (Option V)) (vs : List (Option D)) (σ : L2.St) (ρ : Rho) (G H : Hp) : Prop where
  sr : SR K G H σ ρ
  st : Stp σ0 ρ0 G0 Hb σ ρ G H
  s0 : σ[0]? = some (some (.ref a))
  r0 : ρ[0]? = some none
  sl : SlX.Slt H a C dx us
  ne : dx ≠ a
  hd : H dx = some (.own a) ∨ H dx = some (.xd [])
  ga : G a = none
  gd : G dx = none
  ba : Hb a = none
  bd : Hb dx = none
  rp : RepO K G vs us
section
variable {K : PySem.W.Frag} {C : Addr} {Hb : Hp} {σ0 : L2.St} {ρ0 : Rho} {G0 : Hp} {a dx : Addr} {us : List (Option V)} {vs : List (Option D)} {σ σ' : L2.St} {ρ ρ' : Rho} {G H G' H' : Hp}
theorem slt_obj (h : SlX.Slt H a C dx us) : ∃ o, H a = some o ∧ isTb o = false ∧ (∀ l, o ≠ .lst l) ∧ (∀ q c, o ≠ LamX.CodeO c q) ∧ (o = .ins C dx [] ∧ us = [] ∨ o = SlX.SlO a C dx us ∧ H dx = some (.xd [])) := by
  rcases h with ⟨h1, h2⟩ | ⟨h1, h2⟩
  · exact ⟨_, h1, rfl, fun l z => (nomatch z), (fun q c z => by unfold LamX.CodeO at z; cases z), .inl ⟨rfl, h2⟩⟩
  · refine ⟨_, h1, ?_, (fun l z => by unfold SlX.SlO at z; cases z), (fun q c z => codeO_slO z.symm), .inr ⟨rfl, h2⟩⟩
    unfold SlX.SlO; rfl
theorem IR.notOwn (I : IR K C Hb σ0 ρ0 G0 a dx us vs σ ρ G H) : ¬ OwnAt σ ρ a ∧ ¬ OwnAt σ ρ dx := by
  obtain ⟨o, h1, _, h2, _⟩ := slt_obj I.sl
  refine ⟨fun ⟨i, io, ds, e1, e2⟩ => ?_, fun ⟨i, io, ds, e1, e2⟩ => ?_⟩
  · obtain ⟨b, ws, q1, q2, _⟩ := I.sr.slot i _ _ e1 e2
    cases q1
    rw [h1] at q2
    exact h2 _ (Option.some.inj q2)
  · obtain ⟨b, ws, q1, q2, _⟩ := I.sr.slot i _ _ e1 e2
    cases q1
    rcases I.hd with h | h <;> (rw [h] at q2; cases q2)
/-- a step beside it -/
theorem IR.step (I : IR K C Hb σ0 ρ0 G0 a dx us vs σ ρ G H) (s : Stp σ ρ G H σ' ρ' G' H') (J : SR K G' H' σ' ρ') (h0 : σ'[0]? = σ[0]?) (hr : ρ'[0]? = some none) : IR K C Hb σ0 ρ0 G0 a dx us vs σ' ρ' G' H' := by
  obtain ⟨n1, n2⟩ := I.notOwn
  obtain ⟨o, h1, t1, _, _, h3⟩ := slt_obj I.sl
  have ka : H' a = some o := s.keep a o h1 n1 t1
  have kd : ∀ u, H dx = some u → isTb u = false → H' dx = some u := fun u e t => s.keep dx u e n2 t
  have hdn : H dx ≠ none := by rcases I.hd with h | h <;> (rw [h]; exact fun z => by cases z)
  refine ⟨J, I.st.trans s, h0.trans I.s0, hr, ?_, I.ne, ?_, ?_, ?_, I.ba, I.bd, I.rp.mono s.sub⟩
  · rcases h3 with ⟨rfl, e⟩ | ⟨rfl, e⟩
    · exact .inl ⟨ka, e⟩
    · exact .inr ⟨ka, kd _ e rfl⟩
  · rcases I.hd with h | h
    · exact .inl (kd _ h rfl)
    · exact .inr (kd _ h rfl)
  · rw [s.new a (by rw [h1]; exact fun z => by cases z) n1]; exact I.ga
  · rw [s.new dx hdn n2]; exact I.gd
/-- self.f = value -/
theorem IR.put {d : D} {v : V} (i : Nat) (I : IR K C Hb σ0 ρ0 G0 a dx us vs σ ρ G H) (r : Rep K G d v) : IR K C Hb σ0 ρ0 G0 a dx (SlX.putS i v us) (putD i d vs) σ ρ G (SlX.slH H a C dx (SlX.putS i v us)) := by
  obtain ⟨n1, n2⟩ := I.notOwn
  obtain ⟨o, h1, t1, h2, h4, h3⟩ := slt_obj I.sl
  have away : ∀ b, b ≠ a → b ≠ dx → SlX.slH H a C dx (SlX.putS i v us) b = H b := fun b e1 e2 => SlX.slH_ne e1 e2
  have hdt : ∀ u, H dx = some u → isTb u = false ∧ (∀ l, u ≠ .lst l) ∧ ∀ q c, u ≠ LamX.CodeO c q := fun u e => by
    rcases I.hd with h | h <;> (rw [h] at e; cases e; exact ⟨rfl, fun l z => (nomatch z), fun q c z => by unfold LamX.CodeO at z; cases z⟩)
  have nTb : ∀ b ps, H b = some (.tbl ps) → b ≠ a ∧ b ≠ dx := fun b ps e => ⟨(fun z => by rw [z, h1] at e; cases e; cases t1), (fun z => by rw [z] at e; have := (hdt _ e).1; cases this)⟩
  have nCo : ∀ c q, H c = some (LamX.CodeO c q) → c ≠ a ∧ c ≠ dx := fun c q e => ⟨fun z => by rw [z, h1] at e; exact h4 q a (Option.some.inj e), fun z => by rw [z] at e; exact (hdt _ e).2.2 q dx rfl⟩
  have nLs : ∀ b l, H b = some (.lst l) → b ≠ a ∧ b ≠ dx := fun b l e => ⟨fun z => by rw [z, h1] at e; exact h2 l (Option.some.inj e), fun z => by rw [z] at e; exact (hdt _ e).2.1 l rfl⟩
  have gr : ∀ (H0 : Hp), (∀ b o, H0 b = some o → b ≠ a ∧ b ≠ dx) ∨ H0 = H → Grow H0 H → Grow H0 (SlX.slH H a C dx (SlX.putS i v us)) := fun H0 _ g b ps e => by
    obtain ⟨qs, e1, f1, f2⟩ := g b ps e
    obtain ⟨x1, x2⟩ := nTb b qs e1
    refine ⟨qs, by rw [away b x1 x2]; exact e1, f1, fun q m t => ?_⟩
    have t2 := f2 q m t
    exact tabS_to t2 (fun ps' y => by rw [away b (nTb b _ y).1 (nTb b _ y).2]; exact y) fun c y => by rw [away c (nCo c q y).1 (nCo c q y).2]; exact y
  have sr' : SR K G (SlX.slH H a C dx (SlX.putS i v us)) σ ρ := by
    refine ⟨I.sr.tabs' (gr H (.inr rfl) (Grow.refl H)) fun _ _ _ => rfl, I.sr.lam' (gr H (.inr rfl) (Grow.refl H)), I.sr.len, fun b ob e => ?_, fun k s ov e1 e2 => ?_, I.sr.inj⟩
    · have x1 : b ≠ a := fun z => by rw [z, I.ga] at e; cases e
      have x2 : b ≠ dx := fun z => by rw [z, I.gd] at e; cases e
      rw [away b x1 x2]; exact I.sr.sub b ob e
    · have r := I.sr.slot k s ov e1 e2
      match s, r with
      | none, _ => trivial
      | some (.dat d), r => exact r
      | some (.own _ ds), ⟨b, ws, e, e2, e3, r⟩ => exact ⟨b, ws, e, by rw [away b (nLs b _ e2).1 (nLs b _ e2).2]; exact e2, e3, r⟩
  have nb : ∀ b ob, Hb b = some ob → b ≠ a ∧ b ≠ dx := fun b ob e => ⟨(fun z => by rw [z, I.ba] at e; cases e), (fun z => by rw [z, I.bd] at e; cases e)⟩
  have st' : Stp σ0 ρ0 G0 Hb σ ρ G (SlX.slH H a C dx (SlX.putS i v us)) := by
    refine ⟨I.st.sub, I.st.new, fun b ob e n t => ?_, gr Hb (.inl nb) I.st.grow, fun b n => ?_, I.st.own, I.st.ownN, I.st.stay⟩
    · rw [away b (nb b ob e).1 (nb b ob e).2]; exact I.st.keep b ob e n t
    · cases q : Hb b with
      | none => exact absurd q n
      | some ob => rw [away b (nb b ob q).1 (nb b ob q).2]; exact I.st.dom b n
  exact ⟨sr', st', I.s0, I.r0, SlX.slH_slt I.ne, I.ne, .inr (by unfold SlX.slH; rw [upd_ne I.ne, upd_same]), I.ga, I.gd, I.ba, I.bd, I.rp.put i r⟩
end
/-! statements of __init__ -/
abbrev ISt := List (Option D) × Rho
def rdN (K : PySem.W.Frag) (c : Str) (g : List (Option D) → Rho → Option ISt) : TS := fun Dn σ H => ∃ Hb σ0 ρ0 G0 a dx us vs ρ G, IR K (He.ga K c) Hb σ0 ρ0 G0 a dx us vs σ ρ G H ∧ (match g vs ρ with
  | none => False
  | some (vs', ρ') => ∀ us' σ' G' H', Same G G' → IR K (He.ga K c) Hb σ0 ρ0 G0 a dx us' vs' σ' ρ' G' H' → Dn.nx σ' H')
section
variable {X : Cx} {c : Str} {st : Stmt} {rest : List Stmt} {g ga gb : List (Option D) → Rho → Option ISt} {fe : FE} {ft : FT} {e t : Expr} {a b : List Stmt} {pos pos' : Pos}
def nSeq (ga gb : List (Option D) → Rho → Option ISt) : List (Option D) → Rho → Option ISt := fun vs ρ => (ga vs ρ).bind fun p => gb p.1 p.2
def nNx : List (Option D) → Rho → Option ISt := fun vs ρ => some (vs, ρ)
theorem dsn_one (h : PS X st (rdN X.K c g)) : PSs X [st] (rdN X.K c g) := pss_one h
theorem dsn_cons (h : PS X st (rdN X.K c ga)) (t : PSs X rest (rdN X.K c gb)) : PSs X (st :: rest) (rdN X.K c (nSeq ga gb)) := by
  refine pss_imp (pss_cons h t) fun Dn σ H ⟨Hb, σ0, ρ0, G0, a, dx, us, vs, ρ, G, I, q⟩ => ?_
  refine ⟨Hb, σ0, ρ0, G0, a, dx, us, vs, ρ, G, I, ?_⟩
  unfold nSeq at q
  cases z : ga vs ρ with
  | none => rw [z] at q; exact q.elim
  | some p =>
    obtain ⟨vs1, ρ1⟩ := p
    rw [z] at q
    dsimp only [Option.bind] at q ⊢
    refine fun us1 σ1 G1 H1 s1 I1 => ⟨Hb, σ0, ρ0, G0, a, dx, us1, vs1, ρ1, G1, I1, ?_⟩
    cases y : gb vs1 ρ1 with
    | none => rw [y] at q; exact q.elim
    | some p2 =>
      rw [y] at q
      exact fun us2 σ2 G2 H2 s2 I2 => q us2 σ2 G2 H2 (fun b o e => s2 b o (s1 b o e)) I2
/-- an expression's value, nothing being thrown -/
def nVal (fe : FE) (k : D → List (Option D) → Rho → Option ISt) : List (Option D) → Rho → Option ISt := fun vs ρ => match fe ρ with
  | .ok (d, ρ1) => (match ρ1[0]? with | some none => k d vs ρ1 | _ => none)
  | _ => none
theorem nVal_run {σ : L2.St} {H : Hp} {Dn : Ends} {k : D → List (Option D) → Rho → Option ISt} {T : VK} (h : rdN X.K c (nVal fe k) Dn σ H)
    (q : ∀ v H1 d Hb σ0 ρ0 G0 a dx us vs ρ1 G1, IR X.K (He.ga X.K c) Hb σ0 ρ0 G0 a dx us vs σ ρ1 G1 H1 → Rep X.K G1 d v → (match k d vs ρ1 with | none => False | some (vs', ρ') => ∀ us' σ' G' H', Same G1 G' → IR X.K (He.ga X.K c) Hb σ0 ρ0 G0 a dx us' vs' σ' ρ' G' H' → Dn.nx σ' H') → T v H1) : rd X.K fe σ H T := by
  obtain ⟨Hb, σ0, ρ0, G0, a, dx, us, vs, ρ, G, I, h⟩ := h
  refine ⟨ρ, G, I.sr, ?_⟩
  unfold nVal at h
  cases z : fe ρ with
  | ex _ _ => rw [z] at h; exact h.elim
  | no => rw [z] at h; exact h.elim
  | ok p =>
    obtain ⟨d, ρ1⟩ := p
    rw [z] at h
    dsimp only at h
    cases y : ρ1[0]? with
    | none => rw [y] at h; exact h.elim
    | some o =>
      rw [y] at h
      cases o with
      | some _ => exact h.elim
      | none =>
        intro v H1 G1 s1 J1 r1
        refine q v H1 d Hb σ0 ρ0 G0 a dx us vs ρ1 G1 (I.step s1 J1 rfl y) r1 ?_
        dsimp only at h
        cases w : k d vs ρ1 with
        | none => rw [w] at h; exact h.elim
        | some p2 =>
          rw [w] at h
          exact fun us2 σ2 G2 H2 s2 I2 => h us2 σ2 G2 H2 (fun b o e => s2 b o (s1.sub b o e)) I2
/-- an expression as a statement -/
def nExpr (fe : FE) := nVal fe fun _ vs ρ => some (vs, ρ)
theorem dsn_expr (he : PE X e (rd X.K fe)) (hs : swapsWith e none pos.line X.env = pure false := by rfl) : PS X (.Expr e pos) (rdN X.K c (nExpr fe)) :=
  ps_imp (ps_expr he hs) fun Dn σ H h => nVal_run h fun v H1 d Hb σ0 ρ0 G0 a dx us vs ρ1 G1 I r k => k us σ G1 H1 (fun _ _ h => h) I
/-- self.f = e, e without self -/
def nSet (i : Nat) (fe : FE) := nVal fe fun d vs ρ => some (putD i d vs, ρ)
theorem dsn_set {f : Str} {p : Addr} {i : Nat} {sp apos : Pos} (sc : SlX.SCls X.K (He.ga X.K c)) (s1 : SlX.Slot1 X.K (He.ga X.K c) f p i) {x : Str} (hN : X.N[0]? = some x) (hv : Vis X.env.scope x) (hd : (x == ("__debug__" : Str)) = false) (hcd : (x == ("__classdict__" : Str)) = false)
    (he : PE X e (rd X.K fe)) (hs : swapsWith e (some (.Attribute (.Name x sp) f apos)) pos.line X.env = pure false := by rfl) : PS X (.Assign [.Attribute (.Name x sp) f apos] e pos) (rdN X.K c (nSet i fe)) := by
  refine ps_imp (SlX.ps_sl (pe_var (i := 0) hN hv hd hcd) he hs) fun Dn σ H h => nVal_run h fun v H1 d Hb σ0 ρ0 G0 a dx us vs ρ1 G1 I r k => ?_
  exact ⟨.ref a, I.s0, a, _, dx, p, us, i, rfl, I.sl, sc, s1, k _ σ G1 _ (fun _ _ h => h) (I.put i r)⟩
/-- if t: (never) -/
def nNever (ft : FT) : List (Option D) → Rho → Option ISt := fun vs ρ => match ft ρ with
  | .ok (false, ρ1) => (match ρ1[0]? with | some none => some (vs, ρ1) | _ => none)
  | _ => none
theorem dsn_never (hc : PT X t (rdT X.K ft)) (ha : PSs X a (rdS X.K sNo)) : PS X (.If t a [] pos) (rdN X.K c (nNever ft)) := by
  refine ps_imp (ps_if (u := fun Dn σ H => Dn.nx σ H) hc ha (pss_imp pss_nil fun Dn σ H h => h)) fun Dn σ H ⟨Hb, σ0, ρ0, G0, a, dx, us, vs, ρ, G, I, h⟩ => ?_
  refine ⟨ρ, G, I.sr, ?_⟩
  unfold nNever at h
  cases z : ft ρ with
  | ex _ _ => rw [z] at h; exact h.elim
  | no => rw [z] at h; exact h.elim
  | ok p =>
    obtain ⟨b, ρ1⟩ := p
    rw [z] at h
    cases b with
    | true => exact h.elim
    | false =>
      dsimp only at h
      cases y : ρ1[0]? with
      | none => rw [y] at h; exact h.elim
      | some o =>
        rw [y] at h
        cases o with
        | some _ => exact h.elim
        | none =>
          intro H1 G1 s1 J1
          exact h us σ G1 H1 s1.sub (I.step s1 J1 rfl y)
end
end M

namespace M
open PySem PySem.Spec PyProof.Rows L2
variable [Tabs]
def noOwnR (ρ : Rho) : Bool := ρ.all fun s => match s with | some (.own _ _) => false | _ => true
def scal : D → Bool | .non => true | .bl _ => true | .int _ => true | .str _ => true | _ => false
theorem scal_rep {K : PySem.W.Frag} {G G' : Hp} {d : D} {v : V} (h : scal d = true) (r : Rep K G d v) : Rep K G' d v := by
  cases d <;> first | (simp only [Rep] at r ⊢; exact r) | cases h
theorem noOwn_get {ρ : Rho} (h : noOwnR ρ = true) {i : Nat} {io : Bool} {ds : List D} (e : ρ[i]? = some (some (.own io ds))) : False := by
  have := List.all_eq_true.mp h _ (List.mem_of_getElem? e)
  cases this
/-- self.f = e, where e may look at self: a plain value -/
def nSetS (c : Str) (i : Nat) (fe : FE) : List (Option D) → Rho → Option ISt := fun vs ρ => if noOwnR ρ = true then (match allD? vs with
  | some (f :: fs) => (match fe (ρ.set 0 (some (.dat (.ins c (f :: fs))))) with | .ok (d, _) => if scal d = true then some (putD i d vs, ρ) else none | _ => none)
  | _ => none) else none
section
variable {X : Cx} {c : Str} {fe : FE} {e : Expr} {pos : Pos}
theorem IR.look {K : PySem.W.Frag} {Hb : Hp} {σ0 : L2.St} {ρ0 : Rho} {G0 : Hp} {a dx : Addr} {us : List (Option V)} {vs : List (Option D)} {σ : L2.St} {ρ : Rho} {G H : Hp} {f : D} {fs : List D} (I : IR K (He.ga K c) Hb σ0 ρ0 G0 a dx us vs σ ρ G H) (no : noOwnR ρ = true) (hv : allD? vs = some (f :: fs)) :
    ∃ Gs, SR K Gs H σ (ρ.set 0 (some (.dat (.ins c (f :: fs))))) ∧ Same G Gs ∧ ∀ ρ1 G1 H1, Stp σ (ρ.set 0 (some (.dat (.ins c (f :: fs))))) Gs H σ ρ1 G1 H1 → SR K G1 H1 σ ρ1 → IR K (He.ga K c) Hb σ0 ρ0 G0 a dx us vs σ ρ G H1 := by
  obtain ⟨ws, rfl, rw_⟩ := I.rp.all hv
  obtain ⟨o, h1, t1, _, _, h3⟩ := slt_obj I.sl
  have hne : ws ≠ [] := fun e => by
    have := rw_.length
    rw [e] at this
    simp at this
  rcases h3 with ⟨_, e⟩ | ⟨rfl, hdx⟩
  · exact absurd (List.map_eq_nil_iff.mp e) hne
  let Gs : Hp := upd (upd G dx (.xd [])) a (SlX.SlO a (He.ga K c) dx (ws.map some))
  have sG : Same G Gs := fun b ob e => by
    have x1 : b ≠ a := fun z => by rw [z, I.ga] at e; cases e
    have x2 : b ≠ dx := fun z => by rw [z, I.gd] at e; cases e
    show upd (upd G dx (.xd [])) a _ b = _
    rw [upd_ne x1, upd_ne x2]; exact e
  have ga : Gs a = some (SlX.SlO a (He.ga K c) dx (ws.map some)) := upd_same
  have gd : Gs dx = some (.xd []) := by show upd (upd G dx (.xd [])) a _ dx = _; rw [upd_ne I.ne, upd_same]
  have gn : ∀ b, b ≠ a → b ≠ dx → Gs b = G b := fun b x1 x2 => by show upd (upd G dx (.xd [])) a _ b = _; rw [upd_ne x1, upd_ne x2]
  have l0 : 0 < ρ.length := (List.getElem?_eq_some_iff.mp I.r0).1
  have J : SR K Gs H σ (ρ.set 0 (some (.dat (.ins c (f :: fs))))) := by
    refine ⟨fun P hP => ?_, I.sr.lam, by rw [List.length_set]; exact I.sr.len, fun b ob e => ?_, fun i s ov e1 e2 => ?_, fun i j io jo ds es b e1 e2 e3 e4 => ?_⟩
    · obtain ⟨⟨ps, e, t⟩, n⟩ := I.sr.tab P hP
      refine ⟨⟨ps, e, t⟩, ?_⟩
      have x1 : P ≠ a := fun z => by rw [z, h1] at e; rw [Option.some.inj e] at t1; cases t1
      have x2 : P ≠ dx := fun z => by rw [z, hdx] at e; cases e
      rw [gn P x1 x2]; exact n
    · by_cases x1 : b = a
      · rw [x1] at e ⊢; exact h1.trans (ga.symm.trans e)
      · by_cases x2 : b = dx
        · rw [x2] at e ⊢; exact hdx.trans (gd.symm.trans e)
        · rw [gn b x1 x2] at e; exact I.sr.sub b ob e
    · by_cases z : i = 0
      · subst z
        rw [List.getElem?_set_self l0] at e1
        cases e1
        rw [I.s0] at e2; cases e2
        refine ⟨_, rfl, ?_⟩
        simp only [Rep]
        exact ⟨a, dx, ws, rfl, ga, gd, Reps.mono sG _ _ rw_⟩
      · rw [List.getElem?_set_ne (fun e => z e.symm)] at e1
        have r := I.sr.slot i s ov e1 e2
        match s, r, e1 with
        | none, _, _ => trivial
        | some (.dat d), ⟨v, e, r⟩, _ => exact ⟨v, e, Rep.mono sG _ _ r⟩
        | some (.own _ ds), _, e1 => exact (noOwn_get no e1).elim
    · have z : i ≠ 0 := fun z => by subst z; rw [List.getElem?_set_self l0] at e1; cases e1
      rw [List.getElem?_set_ne (fun e => z e.symm)] at e1
      exact (noOwn_get no e1).elim
  have nos : ∀ b, ¬ OwnAt σ (ρ.set 0 (some (.dat (.ins c (f :: fs))))) b := fun b ⟨i, io, ds, e1, _⟩ => by
    have z : i ≠ 0 := fun z => by subst z; rw [List.getElem?_set_self l0] at e1; cases e1
    rw [List.getElem?_set_ne (fun e => z e.symm)] at e1
    exact noOwn_get no e1
  refine ⟨Gs, J, sG, fun ρ1 G1 H1 s1 J1 => ?_⟩
  have kp : ∀ b ob, H b = some ob → isTb ob = false → H1 b = some ob := fun b ob e t => s1.keep b ob e (nos b) t
  have sr1 : SR K G H1 σ ρ := by
    refine ⟨I.sr.tabs' s1.grow fun _ _ _ => rfl, I.sr.lam' s1.grow, I.sr.len, fun b ob e => J1.sub b ob (s1.sub b ob (sG b ob e)), fun i s ov e1 e2 => ?_, I.sr.inj⟩
    have r := I.sr.slot i s ov e1 e2
    match s, r, e1 with
    | none, _, _ => trivial
    | some (.dat d), r, _ => exact r
    | some (.own _ ds), _, e1 => exact (noOwn_get no e1).elim
  have st1 : Stp σ ρ G H σ ρ G H1 := ⟨fun _ _ h => h, fun _ _ _ => rfl, fun b ob e _ t => kp b ob e t, s1.grow, s1.dom, fun _ h => .inl h, fun _ h => .inl h, fun i ds h => ⟨rfl, ds, h⟩⟩
  exact ⟨sr1, I.st.trans st1, I.s0, I.r0, .inr ⟨kp _ _ h1 t1, kp _ _ hdx rfl⟩, I.ne, .inr (kp _ _ hdx rfl), I.ga, I.gd, I.ba, I.bd, I.rp⟩
theorem dsn_setS {f : Str} {p : Addr} {i : Nat} {sp apos : Pos} (sc : SlX.SCls X.K (He.ga X.K c)) (s1 : SlX.Slot1 X.K (He.ga X.K c) f p i) {x : Str} (hN : X.N[0]? = some x) (hv : Vis X.env.scope x) (hd : (x == ("__debug__" : Str)) = false) (hcd : (x == ("__classdict__" : Str)) = false)
    (he : PE X e (rd X.K fe)) (hs : swapsWith e (some (.Attribute (.Name x sp) f apos)) pos.line X.env = pure false := by rfl) : PS X (.Assign [.Attribute (.Name x sp) f apos] e pos) (rdN X.K c (nSetS c i fe)) := by
  refine ps_imp (SlX.ps_sl (pe_var (i := 0) hN hv hd hcd) he hs) fun Dn σ H ⟨Hb, σ0, ρ0, G0, a, dx, us, vs, ρ, G, I, h⟩ => ?_
  unfold nSetS at h
  by_cases no : noOwnR ρ = true
  · rw [if_pos no] at h
    cases hv2 : allD? vs with
    | none => rw [hv2] at h; exact h.elim
    | some l =>
      rw [hv2] at h
      cases l with
      | nil => exact h.elim
      | cons f0 fs =>
        dsimp only at h
        obtain ⟨Gs, J, sG, back⟩ := I.look no hv2
        refine ⟨_, Gs, J, ?_⟩
        cases z : fe (ρ.set 0 (some (.dat (.ins c (f0 :: fs))))) with
        | ex _ _ => rw [z] at h; exact h.elim
        | no => rw [z] at h; exact h.elim
        | ok pr =>
          obtain ⟨d, ρ1⟩ := pr
          rw [z] at h
          dsimp only at h ⊢
          by_cases sd : scal d = true
          · rw [if_pos sd] at h
            intro v H1 G1 s1' J1 r1
            have I1 := back ρ1 G1 H1 s1' J1
            exact ⟨.ref a, I1.s0, a, _, dx, p, us, i, rfl, I1.sl, sc, s1, h _ σ G _ (fun _ _ h => h) (I1.put i (scal_rep sd r1))⟩
          · rw [if_neg sd] at h; exact h.elim
  · rw [if_neg no] at h; exact h.elim
end
end M

namespace M
open PySem PySem.Spec PyProof.Rows L2
variable [Tabs]
theorem RepO.get {K : PySem.W.Frag} {G : Hp} : ∀ {vs : List (Option D)} {us : List (Option V)} {i : Nat} {d : D}, RepO K G vs us → vs[i]? = some (some d) → ∃ v, us[i]? = some (some v) ∧ Rep K G d v
  | [], us, i, d, h, e => by simp at e
  | none :: r, us, 0, d, h, e => by simp at e
  | some x :: r, us, 0, d, h, e => by
    simp only [RepO] at h
    obtain ⟨v, t, rfl, h1, _⟩ := h
    simp at e; subst e
    exact ⟨v, rfl, h1⟩
  | none :: r, us, i + 1, d, h, e => by
    simp only [RepO] at h
    obtain ⟨t, rfl, h⟩ := h
    obtain ⟨v, a, b⟩ := h.get (i := i) (by simpa using e)
    exact ⟨v, by simpa using a, b⟩
  | some x :: r, us, i + 1, d, h, e => by
    simp only [RepO] at h
    obtain ⟨w, t, rfl, _, h⟩ := h
    obtain ⟨v, a, b⟩ := h.get (i := i) (by simpa using e)
    exact ⟨v, by simpa using a, b⟩
section
variable {X : Cx} {c : Str} {fe : FE} {e : Expr} {pos : Pos}
/-- e.f op= value, an instance with slots -/
theorem ps_slaug {o value : Expr} {f : Str} {tpos : Pos} {ta tv : TE} {op : Operator} {ti : TIp} (ha : PE X o ta) (hv : PE X value tv) (hop : PIp X op ti) : PS X (.AugAssign (.Attribute o f tpos) op value pos) (fun D σ H => ta σ H fun x H1 => ∃ a C dx p vs i v, x = .ref a ∧ SlX.Slt H1 a C dx vs ∧ SlX.SCls X.K C ∧ SlX.Slot1 X.K C f p i ∧ vs[i]? = some (some v) ∧
    tv σ H1 fun y H2 => ti v y H2 fun z H3 => ∃ vs', SlX.Slt H3 a C dx vs' ∧ D.nx σ (SlX.slH H3 a C dx (SlX.putS i z vs'))) := by
  refine ⟨fun pins s σ H D I h => ?_⟩
  refine wpAny_AugAssign_AttributeAny (thn (ha.run pins s σ H _ I h) fun ov s1 ⟨x, H1, I1, rx, a, C, dx, p, vs, i, v, ex, ea, c, k, l, q⟩ => ?_)
  subst ex
  obtain rfl : ov = Value.ref a := rx
  refine SlX.getslot_ok I1 ea c k l fun u s2 I2 ru => thn (hv.run pins s2 σ H1 _ I2 q) fun w3 s3 ⟨y, H2, I3, ry, q3⟩ => thn (hop pins s3 σ H2 v y u w3 _ I3 ru ry q3) fun w4 s4 ⟨z, H3, I4, rz, vs', ea', q4⟩ => ?_
  exact SlX.setslot_ok I4 ea' c k rz fun s5 I5 => ⟨σ, _, I5, q4⟩
/-- self.f op= e -/
def nAug (i : Nat) (op : D → D → Option D) (fe : FE) : List (Option D) → Rho → Option ISt := fun vs ρ => match vs[i]? with
  | some (some d0) => nVal fe (fun d vs ρ => (op d0 d).bind fun z => some (putD i z vs, ρ)) vs ρ
  | _ => none
theorem dsn_aug {f : Str} {p : Addr} {i : Nat} {sp tpos : Pos} {opr : Operator} {op : D → D → Option D} {ti : TIp} (sc : SlX.SCls X.K (He.ga X.K c)) (s1 : SlX.Slot1 X.K (He.ga X.K c) f p i) {x : Str} (hd' : IpD X.K ti op) (ho : PIp X opr ti) (hN : X.N[0]? = some x) (hv : Vis X.env.scope x) (hd : (x == ("__debug__" : Str)) = false) (hcd : (x == ("__classdict__" : Str)) = false)
    (he : PE X e (rd X.K fe)) : PS X (.AugAssign (.Attribute (.Name x sp) f tpos) opr e pos) (rdN X.K c (nAug i op fe)) := by
  refine ps_imp (ps_slaug (pe_var (i := 0) hN hv hd hcd) he ho) fun Dn σ H ⟨Hb, σ0, ρ0, G0, a, dx, us, vs, ρ, G, I, h⟩ => ?_
  unfold nAug at h
  cases y : vs[i]? with
  | none => rw [y] at h; exact h.elim
  | some o =>
    cases o with
    | none => rw [y] at h; exact h.elim
    | some d0 =>
      rw [y] at h
      dsimp only at h
      obtain ⟨v0, hv0, r0⟩ := I.rp.get y
      refine ⟨.ref a, I.s0, a, _, dx, p, us, i, v0, rfl, I.sl, sc, s1, hv0, ?_⟩
      refine ⟨ρ, G, I.sr, ?_⟩
      unfold nVal at h
      cases z : fe ρ with
      | ex _ _ => rw [z] at h; exact h.elim
      | no => rw [z] at h; exact h.elim
      | ok pr =>
        obtain ⟨d, ρ1⟩ := pr
        rw [z] at h
        dsimp only at h ⊢
        cases y0 : ρ1[0]? with
        | none => rw [y0] at h; exact h.elim
        | some o =>
          rw [y0] at h
          cases o with
          | some _ => exact h.elim
          | none =>
            dsimp only at h
            intro v H1 G1 t1 J1 r1
            cases w : op d0 d with
            | none => rw [w] at h; exact h.elim
            | some d2 =>
              rw [w] at h
              have I1 := I.step t1 J1 rfl y0
              refine hd' G1 H1 d0 d d2 v0 v _ J1.sub (Rep.mono t1.sub _ _ r0) r1 w fun v2 H2 G2 P2 r2 => ?_
              have I2 := I1.step (P2.stp (σ := σ) (ρ := ρ1)) (J1.pure P2) rfl y0
              exact ⟨us, I2.sl, h _ σ G2 _ (fun b o e => P2.sub b o (t1.sub b o e)) (I2.put i r2)⟩
/-- for x in e: .. -/
def forN (tg : TgD) (g : List (Option D) → Rho → Option ISt) : List D → List (Option D) → Rho → Option ISt
  | [], vs, ρ => some (vs, ρ)
  | d :: ds, vs, ρ => match tg d ρ with
    | none => none
    | some ρ1 => (match ρ1[0]? with | some none => (g vs ρ1).bind fun p => forN tg g ds p.1 p.2 | _ => none)
def nFor (fi : FI) (tg : TgD) (g : List (Option D) → Rho → Option ISt) : List (Option D) → Rho → Option ISt := fun vs ρ => match fi ρ with
  | .ok (ds, ρ1) => (match ρ1[0]? with | some none => forN tg g ds vs ρ1 | _ => none)
  | _ => none
theorem dsn_for {iter tgt : Expr} {body : List Stmt} {fi : FI} {is : List Nat} {tg : TgD} {g : List (Option D) → Rho → Option ISt} (hp : PassesOwn (model X.prog X.w) X.A X.env X.xe) (hc : X.calm = true) (h0 : 0 ∉ is) (hi : PI X tgt iter (rdI X.K fi)) (hg : PG X tgt (rdG X.K is tg)) (hb : PSs X body (rdN X.K c g))
    (hs : ∀ x, foldedSetIterable iter X.env x = pure x := by intro _; rfl) : PS X (.For tgt iter body [] pos) (rdN X.K c (nFor fi tg g)) := by
  refine ps_imp (ps_for hp hc hi hg hb hs) fun Dn σ H ⟨Hb, σ0, ρ0, G0, a, dx, us, vs, ρ, G, I, h⟩ => ?_
  refine ⟨ρ, G, I.sr, ?_⟩
  unfold nFor at h
  unfold rdIK
  cases e : fi ρ with
  | ex _ _ => rw [e] at h; exact h
  | no => rw [e] at h; exact h
  | ok p =>
    obtain ⟨ds, ρ1⟩ := p
    rw [e] at h
    dsimp only at h ⊢
    intro J H1 G1 t1 J1 hJ
    cases y0 : ρ1[0]? with
    | none => rw [y0] at h; exact h.elim
    | some o =>
    rw [y0] at h
    cases o with
    | some _ => exact h.elim
    | none =>
    dsimp only at h
    have I1 := I.step t1 J1 rfl y0
    refine ⟨fun i m σ' H' => m = ds.length - i ∧ i ≤ ds.length ∧ ∃ us' vs' ρ' G', Same G1 G' ∧ IR X.K (He.ga X.K c) Hb σ0 ρ0 G0 a dx us' vs' σ' ρ' G' H' ∧ (match forN tg g (ds.drop i) vs' ρ' with
      | none => False
      | some (vs', ρ') => ∀ us' σ' G' H', Same G G' → IR X.K (He.ga X.K c) Hb σ0 ρ0 G0 a dx us' vs' σ' ρ' G' H' → Dn.nx σ' H'), ⟨ds.length, rfl, Nat.zero_le _, us, vs, ρ1, G1, fun _ _ h => h, I1, h⟩, ?_⟩
    rintro i m σ' H' ⟨rfl, hi, us', vs', ρ', G', sG, I', h'⟩
    by_cases hlt : i < ds.length
    · have ed : ds.drop i = ds[i] :: ds.drop (i + 1) := List.drop_eq_getElem_cons hlt
      obtain ⟨go, yl⟩ := (hJ i G' H' sG I'.sr.sub).1 ds[i] (List.getElem?_eq_getElem hlt)
      right
      refine ⟨go, fun σ2 H2 => ∃ us2 vs2 ρ2 G2, Same G1 G2 ∧ IR X.K (He.ga X.K c) Hb σ0 ρ0 G0 a dx us2 vs2 σ2 ρ2 G2 H2 ∧ (match forN tg g (ds.drop (i + 1)) vs2 ρ2 with
        | none => False
        | some (vs', ρ') => ∀ us' σ' G' H', Same G G' → IR X.K (He.ga X.K c) Hb σ0 ρ0 G0 a dx us' vs' σ' ρ' G' H' → Dn.nx σ' H'), fun σ2 H2 ⟨us2, vs2, ρ2, G2, a, b, c⟩ => ⟨ds.length - (i + 1), by omega, rfl, hlt, us2, vs2, ρ2, G2, a, b, c⟩, fun x H2 y => ?_⟩
      obtain ⟨G2, P2, rx⟩ := yl x H2 y
      have I2 := I'.step (P2.stp (σ := σ') (ρ := ρ')) (I'.sr.pure P2) rfl I'.r0
      rw [ed] at h'
      unfold forN at h'
      cases et : tg ds[i] ρ' with
      | none => rw [et] at h'; exact h'.elim
      | some ρ3 =>
        rw [et] at h'
        dsimp only at h'
        refine ⟨ρ', G2, ds[i], I2.sr, rx, ρ3, et, fun σ3 s3 I3 on => ?_⟩
        cases y3 : ρ3[0]? with
        | none => rw [y3] at h'; exact h'.elim
        | some o3 =>
          rw [y3] at h'
          cases o3 with
          | some _ => exact h'.elim
          | none =>
            dsimp only at h'
            have I4 := I2.step s3 I3 (on.2 0 h0) y3
            refine ⟨Hb, σ0, ρ0, G0, a, dx, us', vs', ρ3, G2, I4, ?_⟩
            cases eb : g vs' ρ3 with
            | none => rw [eb] at h'; exact h'.elim
            | some q =>
              obtain ⟨vs4, ρ4⟩ := q
              rw [eb] at h'
              exact fun us4 σ4 G4 H4 s5 I5 => ⟨us4, vs4, ρ4, G4, (fun b o q => s5 b o (P2.sub b o (sG b o q))), I5, h'⟩
    · left
      have e0 : ds.drop i = [] := List.drop_eq_nil_of_le (by omega)
      rw [e0] at h'
      exact ⟨(hJ i G' H' sG I'.sr.sub).2 (by omega), h' us' σ' G' H' (fun b o e => sG b o (t1.sub b o e)) I'⟩
end
end M

namespace M
open PySem PySem.Spec PyProof.Rows L2
variable [Tabs]
/-! ### __init__'s promise, the making -/
abbrev FNd := Nat → List D → Option (List D)
def datS (ds : List D) : Rho := (ds.map Sl.dat).map some
def runN (g : List (Option D) → Rho → Option ISt) (L np : Nat) (ds : List D) : Option (List D) := if ds.length = np then frcM ds fun ds => (match g [] (none :: startR (L - 1) (ds.map Sl.dat)) with
  | some (vs, _) => (match allD? vs with | some (f :: fs) => frcM (f :: fs) fun fs => some fs | _ => none)
  | none => none) else none
def spN (K : PySem.W.Frag) (c : Str) (np : Nat) (F : FNd) : Sp := fun vs H Q _ => ∃ (n : Nat) (Hb G0 : Hp) (a dx : Addr) (ws : List V) (ds fs : List D), vs = .ref a :: ws ∧ ws.length = np ∧ Hb a = none ∧ Hb dx = none ∧ dx ≠ a ∧ H = upd (upd Hb dx (.own a)) a (.ins (He.ga K c) dx []) ∧ SR K G0 Hb (ws.map some) (datS ds) ∧ F n ds = some fs ∧
  ∀ us G' H', Stp (ws.map some) (datS ds) G0 Hb (ws.map some) (datS ds) G' H' → SR K G' H' (ws.map some) (datS ds) → H' a = some (SlX.SlO a (He.ga K c) dx (us.map some)) → H' dx = some (.xd []) → G' a = none → G' dx = none → Reps K G' fs us → Q .non H'
theorem datS_get {ds : List D} {i : Nat} {s : Option Sl} (h : (datS ds)[i]? = some s) : ∃ d, ds[i]? = some d ∧ s = some (.dat d) := by
  unfold datS at h
  obtain ⟨y, h1, rfl⟩ := get_map_some h
  rw [List.getElem?_map] at h1
  cases q : ds[i]? with
  | none => rw [q] at h1; cases h1
  | some d => rw [q] at h1; cases h1; exact ⟨d, rfl, rfl⟩
section
variable {K : PySem.W.Frag} {G H G' H' : Hp} {σ : L2.St} {ρ : Rho}
theorem SR.cons (o : Option V) (I : SR K G H σ ρ) : SR K G H (o :: σ) (none :: ρ) where
  tab := I.tab
  lam := I.lam
  len := by rw [List.length_cons, List.length_cons, I.len]
  sub := I.sub
  slot := fun i s o' h1 h2 => by
    cases i with
    | zero => simp at h1; subst h1; trivial
    | succ i => exact I.slot i s o' (by simpa using h1) (by simpa using h2)
  inj := fun i j io jo ds es a h1 h2 h3 h4 => by
    cases i with
    | zero => simp at h1
    | succ i =>
      cases j with
      | zero => simp at h2
      | succ j => rw [I.inj i j io jo ds es a (by simpa using h1) (by simpa using h2) (by simpa using h3) (by simpa using h4)]
theorem noOwn_dat {ds : List D} {L : Nat} : noOwnR (none :: startR L (ds.map Sl.dat)) = true := by
  unfold noOwnR
  rw [List.all_eq_true]
  intro s hs
  rcases List.mem_cons.mp hs with e | hs
  · rw [e]
  · unfold startR at hs
    rcases List.mem_append.mp hs with hs | hs
    · obtain ⟨y, hy, rfl⟩ := List.mem_map.mp hs
      obtain ⟨d, _, rfl⟩ := List.mem_map.mp hy
      rfl
    · rw [(List.mem_replicate.mp hs).2]
theorem start_cons {N : List Str} {a : Addr} {ws : List V} (h : 0 < N.length) : L2.start N (.ref a :: ws) = some (.ref a) :: L2.start (N.drop 1) ws := by
  unfold L2.start
  rw [List.map_cons, List.cons_append, List.length_cons, List.length_drop]
  congr 3
  omega
theorem noOwnAt {ρ : Rho} {σ : L2.St} {b : Addr} (no : noOwnR ρ = true) : ¬ OwnAt σ ρ b := fun ⟨i, io, ds, e, _⟩ => noOwn_get no e
end
section
variable {P : Program} {w : World} {K : PySem.W.Frag} {mg : Str → Option Value} {base : Heap}
theorem dfnN_ok {x qual : Str} {st : Stmt} {f : Addr} {fd : FuncData} {cdv : Value} {N ps : List Str} {k : Nat} {c : Str} {g : Nat → List (Option D) → Rho → Option ISt} (hN : 0 < N.length) (hps : 0 < ps.length) (F : FunC K x qual st f fd cdv) (S : FnScope N ps (defScope st))
    (hbody : ∀ (n : Nat) (A : Around) (outer : List Env) (s : Shared) (H : Hp) (E : XK), Rm k (A.deeper (envOfC qual (defScope st) s.heap.objs.size f cdv)) →
      PSs (bodyX P w K mg base N qual (defScope st) f cdv A outer s H E) (defBody st) (rdN K c (g n))) : FnG P w K mg base (k + 1) f fd ps (spN K c (ps.length - 1) fun n ds => runN (g n) N.length (ps.length - 1) ds) := by
  obtain ⟨oc, od, kV, doc, pm, an, ct, osl, rfl, lk, hcd⟩ := F.ex
  refine fnG_of lk hcd S (fun vs H Q E ⟨_, _, _, _, _, ws, _, _, e, h, _⟩ => by rw [e, List.length_cons, h]; omega) fun A outer s H vs Q E hr hsp => ?_
  obtain ⟨n, Hb, G0, a, dx, ws, ds, fs, rfl, hl, ba, bd, ne, rfl, I, hF, q⟩ := hsp
  refine ⟨_, (hbody n A outer s _ E hr).nox, ?_⟩
  let σ0 := L2.start N (.ref a :: ws)
  let ρ0 : Rho := none :: startR (N.length - 1) (ds.map Sl.dat)
  have no0 : noOwnR ρ0 = true := noOwn_dat
  have I0 : SR K G0 Hb σ0 ρ0 := by
    show SR K G0 Hb (L2.start N (.ref a :: ws)) _
    rw [start_cons hN]
    have := SR.start (N := N.drop 1) I
    rw [List.length_drop] at this
    exact this.cons _
  obtain ⟨I1, S1, _⟩ := I0.fresh (o := .own a) bd
  have ba1 : upd Hb dx (.own a) a = none := by rw [upd_ne (Ne.symm ne)]; exact ba
  obtain ⟨I2, S2, _⟩ := I1.fresh (o := .ins (He.ga K c) dx []) ba1
  have gn : ∀ b, Hb b = none → G0 b = none := fun b e => by
    cases y : G0 b with
    | none => rfl
    | some o => rw [I.sub b o y] at e; cases e
  have IR0 : IR K (He.ga K c) Hb σ0 ρ0 G0 a dx [] [] σ0 ρ0 G0 (upd (upd Hb dx (.own a)) a (.ins (He.ga K c) dx [])) :=
    ⟨I2, S1.trans S2, by show (L2.start N (.ref a :: ws))[0]? = _; rw [start_cons hN]; rfl, rfl, .inl ⟨upd_same, rfl⟩, ne, .inl (by rw [upd_ne ne, upd_same]), gn a ba, gn dx bd, ba, bd, by simp only [RepO]⟩
  refine ⟨Hb, σ0, ρ0, G0, a, dx, [], [], ρ0, G0, IR0, ?_⟩
  have hF : runN (g n) N.length (ps.length - 1) ds = some fs := hF
  have hl2 : ds.length = ps.length - 1 := by
    unfold runN at hF
    by_cases z : ds.length = ps.length - 1
    · exact z
    · rw [if_neg z] at hF; cases hF
  unfold runN at hF
  rw [if_pos hl2, frcM_eq] at hF
  cases z : g n [] ρ0 with
  | none => rw [show g n [] (none :: startR (N.length - 1) (ds.map Sl.dat)) = none from z] at hF; cases hF
  | some p =>
    obtain ⟨vs', ρ'⟩ := p
    rw [show g n [] (none :: startR (N.length - 1) (ds.map Sl.dat)) = some (vs', ρ') from z] at hF
    dsimp only at hF ⊢
    cases y : allD? vs' with
    | none => rw [y] at hF; cases hF
    | some l =>
      rw [y] at hF
      cases l with
      | nil => cases hF
      | cons f0 fs0 =>
        dsimp only at hF
        rw [frcM_eq] at hF
        cases hF
        intro us' σ' G' H' sg I'
        obtain ⟨ws', rfl, rws⟩ := I'.rp.all y
        obtain ⟨o, h1, t1, _, _, h3⟩ := slt_obj I'.sl
        rcases h3 with ⟨_, e⟩ | ⟨rfl, hdx⟩
        · have := rws.length
          rw [List.map_eq_nil_iff.mp e] at this
          simp at this
        · have nd : noOwnR (datS ds) = true := by
            unfold noOwnR
            rw [List.all_eq_true]
            intro s hs
            unfold datS at hs
            obtain ⟨y, hy, rfl⟩ := List.mem_map.mp hs
            obtain ⟨d, _, rfl⟩ := List.mem_map.mp hy
            rfl
          refine q ws' G' H' ⟨I'.st.sub, fun b n _ => I'.st.new b n (noOwnAt no0), fun b o e _ t => I'.st.keep b o e (noOwnAt no0) t, I'.st.grow, I'.st.dom, fun b h => absurd h (noOwnAt nd), fun b ⟨i, es, e1, e2⟩ => (noOwn_get nd e1).elim, fun i es e => (noOwn_get nd e).elim⟩
            ⟨I'.sr.tab, I'.sr.lam, I.len, I'.sr.sub, fun i s o e1 e2 => ?_, fun i j io jo es fs b e1 => (noOwn_get nd e1).elim⟩ h1 hdx I'.ga I'.gd rws
          obtain ⟨d, _, rfl⟩ := datS_get e1
          obtain ⟨v, ev, r⟩ := I.slot i _ o e1 e2
          exact ⟨v, ev, Rep.mono I'.st.sub _ _ r⟩
end
/-- C(e, ..) -/
def eMake (c : Str) (F : FNd) (n : Nat) (fa : FA) : FE := bndA fa fun ds => fun ρ => match F n ds with | some fs => .ok (.ins c fs, ρ) | none => .no
/-- the instance is seen from now on -/
theorem SR.seenI {K : PySem.W.Frag} {C : Addr} {σ : L2.St} {ρ : Rho} {G H : Hp} {a dx : Addr} {us : List (Option V)} (I : SR K G H σ ρ) (ne : dx ≠ a) (h1 : H a = some (SlX.SlO a C dx us)) (h2 : H dx = some (.xd [])) (g1 : G a = none) (g2 : G dx = none) :
    SR K (upd (upd G dx (.xd [])) a (SlX.SlO a C dx us)) H σ ρ ∧ Same G (upd (upd G dx (.xd [])) a (SlX.SlO a C dx us)) := by
  have gn : ∀ b, b ≠ a → b ≠ dx → upd (upd G dx (.xd [])) a (SlX.SlO a C dx us) b = G b := fun b x1 x2 => by rw [upd_ne x1, upd_ne x2]
  have ga : upd (upd G dx (.xd [])) a (SlX.SlO a C dx us) a = some (SlX.SlO a C dx us) := upd_same
  have gd : upd (upd G dx (.xd [])) a (SlX.SlO a C dx us) dx = some (.xd []) := by rw [upd_ne ne, upd_same]
  have sG : Same G (upd (upd G dx (.xd [])) a (SlX.SlO a C dx us)) := fun b o e => by
    rw [gn b (fun z => by rw [z, g1] at e; cases e) (fun z => by rw [z, g2] at e; cases e)]; exact e
  have nt : ∀ b ps, H b = some (.tbl ps) → b ≠ a ∧ b ≠ dx := fun b ps e => ⟨(fun z => by rw [z, h1] at e; have e := Option.some.inj e; unfold SlX.SlO at e; cases e), (fun z => by rw [z, h2] at e; cases e)⟩
  have nl : ∀ b l, H b = some (.lst l) → b ≠ a ∧ b ≠ dx := fun b l e => ⟨(fun z => by rw [z, h1] at e; have e := Option.some.inj e; unfold SlX.SlO at e; cases e), (fun z => by rw [z, h2] at e; cases e)⟩
  refine ⟨⟨fun P hP => ?_, I.lam, I.len, fun b o e => ?_, fun i s o e1 e2 => ?_, I.inj⟩, sG⟩
  · obtain ⟨⟨ps, e, t⟩, n⟩ := I.tab P hP
    exact ⟨⟨ps, e, t⟩, by rw [gn P (nt P ps e).1 (nt P ps e).2]; exact n⟩
  · by_cases x1 : b = a
    · rw [x1] at e ⊢; exact h1.trans (ga.symm.trans e)
    · by_cases x2 : b = dx
      · rw [x2] at e ⊢; exact h2.trans (gd.symm.trans e)
      · rw [gn b x1 x2] at e; exact I.sub b o e
  · have r := I.slot i s o e1 e2
    match s, r with
    | none, _ => trivial
    | some (.dat d), ⟨v, e, r⟩ => exact ⟨v, e, Rep.mono sG _ _ r⟩
    | some (.own _ ds), ⟨b, ws, e, q1, q2, r⟩ => exact ⟨b, ws, e, q1, by rw [gn b (nl b ws q1).1 (nl b ws q1).2]; exact q2, Reps.mono sG _ _ r⟩
section
variable {X : Cx} {j k np : Nat} {c : Str} {f : Addr} {F : FNd} {p pos : Pos} {e : Expr} {es : List Expr} {fa : FA}
theorem arR_dat {K : PySem.W.Frag} {G : Hp} {σ : L2.St} : ∀ {ds : List D} {vs : List V}, Reps K G ds vs → ArR K G σ (ds.map Ar.d) vs
  | [], vs, h => by simp only [Reps] at h; subst h; simp only [List.map_nil, ArR]
  | d :: ds, vs, h => by
    simp only [Reps] at h
    obtain ⟨v, r, rfl, h1, h2⟩ := h
    simp only [List.map_cons, ArR]
    exact ⟨v, r, rfl, h1, arR_dat h2⟩
theorem de_make (n : Nat) (Mc : Mk X.K (He.ga X.K c) f) (FP : FnP X.prog X.w X.K X.mg X.base k f (spN X.K c np F)) (hnp : ∀ n ds fs, F n ds = some fs → ds.length = np) (hr : Rm j X.A) (hk : k + 1 ≤ j) (hg : Gl X c) (hm : X.mg c = some (.ref (He.ga X.K c))) (ha : PA X (e :: es) (rdA X.K fa))
    (hdb : (c == ("__debug__" : Str)) = false := by decide) (he : starEach (e :: es) X.env = (false, eval e X.env) :: starEach es X.env := by rfl) (hpl : (backTo pos (starEach es X.env)).any (·.1) = false := by rfl) :
    PE X (.Call (.Name c p) (e :: es) [] pos) (rd X.K (eMake c F n fa)) := by
  refine ⟨fun pins s σ H Q I ⟨ρ, G, J, h⟩ => ?_⟩
  refine wpAny_Call_Name_kw (ld_glob I hg hm ?_ hdb)
  refine PySem.W.callWith_K (h₀ := X.base) I.ok.mod.kin Mc.kp (thn (ha.run pos pins s σ H _ I ⟨ρ, G, J, rdK_bndA h⟩) fun us s1 ⟨ws, H1, I1, r, ds, ρ1, G1, st, J1, rp, q⟩ => ⟨I1.kIn, ?_⟩) he hpl
  show wpAny (model X.prog X.w) X.A (call (.ref (He.ga X.K c)) us) (EP X pins σ Q) X.xe s1
  unfold rdK at q
  cases z : F n ds with
  | none => rw [z] at q; exact q.elim
  | some fs =>
    rw [z] at q
    dsimp only at q
    let a := s1.heap.objs.size + 1
    let dx := s1.heap.objs.size
    have na : H1 a = none := I1.hok.fresh (Nat.le_succ _)
    have nd : H1 dx = none := I1.hok.fresh (Nat.le_refl _)
    have ne : dx ≠ a := Nat.ne_of_lt (Nat.lt_succ_self _)
    have ar := arR_dat (σ := σ) rp
    have asr := args_SR J1 ar (argsOf_d ds) (onceO_d (allDat_map ds))
    have hq : spN X.K c np F (.ref a :: ws) (upd (upd H1 dx (.own a)) a (.ins (He.ga X.K c) dx [])) (fun v H2 => v = .non ∧ Q (.ref a) H2) E0 := by
      refine ⟨n, H1, G1, a, dx, ws, ds, fs, rfl, by rw [rp.length]; exact hnp n ds fs z, na, nd, ne, rfl, asr, z, fun us' G' H' s2 J2 h1 h2 g1 g2 rf => ⟨rfl, ?_⟩⟩
      obtain ⟨A, B, _⟩ := call_back J1 ar (argsOf_d ds) (onceO_d (allDat_map ds)) s2 J2
      rw [backO_d (allDat_map ds)] at A B
      obtain ⟨B2, sG⟩ := B.seenI ne h1 h2 g1 g2
      refine q (.ref a) H' _ ⟨fun b o e => sG b o (A.sub b o e), fun b y m => ?_, A.keep, A.grow, A.dom, A.own, A.ownN, A.stay⟩ B2 ?_
      · have x1 : b ≠ a := fun z => y (by rw [z]; exact na)
        have x2 : b ≠ dx := fun z => y (by rw [z]; exact nd)
        rw [upd_ne x1, upd_ne x2]; exact A.new b y m
      · simp only [Rep]
        exact ⟨a, dx, us', rfl, upd_same, by rw [upd_ne ne, upd_same], Reps.mono sG _ _ rf⟩
    have I2 := Inv.made (C := He.ga X.K c) I1
    have r2 : Vals (V.ref a :: ws) (Value.ref a :: us) := .cons rfl r
    refine wpAny_call (make_map (f := f) I1.kIn Mc.makes Mc.init (beq_iff_eq.mp Mc.fn) (codeAny_mono (FP _ X.stack _ _ (Value.ref a :: us) _ _ E0 ⟨(hr.r.mono hk).make (He.ga X.K c) us [], hr.g⟩ (I2.env0.make (He.ga X.K c) us []) r2 hq) fun r s' hq' => ?_))
    match r, hq' with
    | .error e, hq' => exact (show False from hq').elim
    | .ok (.ret u), hq' =>
      obtain ⟨v, H', I3, rv, ev, q3⟩ := I2.after hq'
      subst ev
      exact ⟨rv, ⟨V.ref a, H', I3, rfl, q3⟩⟩
    | .ok .next, hq' => exact hq'.elim
    | .ok .brk, hq' => exact hq'.elim
    | .ok .cont, hq' => exact hq'.elim
end
end M

namespace M
open PySem PySem.Spec PyProof.Rows L2
variable [Tabs]

/-! ### [e for a in x for b in y] -/
section
variable {K : PySem.W.Frag}
/-- the turns of a comprehension's loop, the list at D0 growing -/
theorem lc_loop {is : List Nat} {tg : TgD} {ft : FT} {fe : FE} {vs : List Nat} (hs : ∀ i ∈ is, i ∈ vs) {σb σ2 : L2.St} {ρb ρw ρf : Rho} {Gb Hb G0 G H : Hp} {D0 : Addr} {us : List V} {acc ds res : List D} {J : It} {NX : Hp → Prop} (hD : Hb D0 = none)
    (S : Stp σb ρb Gb Hb (wipe σ2 vs) ρw G H) (I : SR K G H (wipe σ2 vs) ρw) (bw : Bare vs ρw) (hDl : H D0 = some (.lst us)) (hDg : G D0 = none) (hDn : ¬ OwnAt (wipe σ2 vs) ρw D0) (rr : Reps K G acc us) (hlen : us.length = acc.length) (s0 : Same G0 G) (hJ : ItD K G0 J ds)
    (eL : lcL tg ft fe vs ds acc ρw = .ok (res, ρf))
    (fin : ∀ (H' G' : Hp) (us' : List V), Stp σb ρb Gb Hb (wipe σ2 vs) ρf G' H' → SR K G' H' (wipe σ2 vs) ρf → Bare vs ρf → H' D0 = some (.lst us') → G' D0 = none → ¬ OwnAt (wipe σ2 vs) ρf D0 → Reps K G' res us' → us'.length = res.length → Same G G' → NX H') :
    ∃ W : Nat → Nat → Hp → Prop, (∃ m, W 0 m H) ∧ ∀ i m H', W i m H' → (J.stop i H' ∧ NX H') ∨ (J.go i H' ∧ ∃ Nx : Hp → Prop, (∀ H2, Nx H2 → ∃ m', m' < m ∧ W (i + 1) m' H2) ∧ ∀ x H2, J.yld i H' x H2 → rdG K is tg x (wipe σ2 vs) H2 fun σ3 H3 => wipe σ3 vs = wipe σ2 vs ∧ rdT K ft σ3 H3 fun b H4 =>
      if b = true then rd K fe σ3 H4 fun y H5 => ∃ acc, H5 D0 = some (.lst acc) ∧ acc.length < sizeLine ∧ Nx (upd H5 D0 (.lst (acc ++ [y]))) else Nx H4) := by
  let W : Nat → Nat → Hp → Prop := fun i m H' => m = ds.length - i ∧ i ≤ ds.length ∧ ∃ ρ' G' acc us, Stp σb ρb Gb Hb (wipe σ2 vs) ρ' G' H' ∧ SR K G' H' (wipe σ2 vs) ρ' ∧ Bare vs ρ' ∧ H' D0 = some (.lst us) ∧ G' D0 = none ∧ ¬ OwnAt (wipe σ2 vs) ρ' D0 ∧ Reps K G' acc us ∧ us.length = acc.length ∧ Same G G' ∧
    lcL tg ft fe vs (ds.drop i) acc ρ' = .ok (res, ρf)
  refine ⟨W, ⟨ds.length, rfl, Nat.zero_le _, ρw, G, acc, us, S, I, bw, hDl, hDg, hDn, rr, hlen, fun _ _ h => h, eL⟩, ?_⟩
  rintro i m H' ⟨rfl, hi, ρ', G', acc, us, sW, I', bW, hDl, hDg, hDn, rr, hlen, sG, eq⟩
  by_cases hlt : i < ds.length
  · have ed : ds.drop i = ds[i] :: ds.drop (i + 1) := List.drop_eq_getElem_cons hlt
    obtain ⟨go, yl⟩ := (hJ i G' H' (fun b o e => sG b o (s0 b o e)) I'.sub).1 ds[i] (List.getElem?_eq_getElem hlt)
    right
    refine ⟨go, fun H2 => W (i + 1) (ds.length - (i + 1)) H2, fun H2 w => ⟨ds.length - (i + 1), by omega, w⟩, fun x H2 y => ?_⟩
    obtain ⟨G2, P2, rx⟩ := yl x H2 y
    have I2 := I'.pure P2
    rw [ed] at eq
    unfold lcL at eq
    rw [frc_eq, nrmR_eq] at eq
    cases et : tg ds[i] ρ' with
    | none => rw [et] at eq; cases eq
    | some ρ3 =>
      rw [et] at eq
      dsimp only at eq
      refine ⟨ρ', G2, ds[i], I2, rx, ρ3, et, fun σ3 s3 I3 o3 => ⟨wipe_only hs o3, ?_⟩⟩
      have base : Stp (wipe σ2 vs) ρ' G' H' σ3 ρ3 G2 H2 := (P2.stp (σ := wipe σ2 vs) (ρ := ρ')).trans s3
      have wq : wipe σ3 vs = wipe σ2 vs := wipe_only hs o3
      have keepD : ∀ {ρ4 : Rho} {G4 H4 : Hp}, Stp (wipe σ2 vs) ρ' G' H' σ3 ρ4 G4 H4 → SR K G4 H4 σ3 ρ4 → H4 D0 = some (.lst us) ∧ G4 D0 = none ∧ ¬ OwnAt σ3 ρ4 D0 := fun {ρ4 G4 H4} st I4 => by
        refine ⟨st.keep D0 _ hDl hDn rfl, (st.new D0 (by rw [hDl]; exact fun z => by cases z) hDn).trans hDg, fun z => ?_⟩
        rcases st.own D0 z with z | z
        · exact hDn z
        · rw [hDl] at z; cases z
      refine rdT_of I3 ?_
      unfold rdTK
      cases ec : ft ρ3 with
      | ex _ _ => rw [ec] at eq; cases eq
      | no => rw [ec] at eq; cases eq
      | ok c =>
        obtain ⟨b, ρ4⟩ := c
        rw [ec] at eq
        dsimp only [Rz.bind] at eq ⊢
        intro H4 G4 s4 I4
        have st4 : Stp (wipe σ2 vs) ρ' G' H' σ3 ρ4 G4 H4 := base.trans s4
        cases b with
        | true =>
          simp only [if_true] at eq ⊢
          refine rd_of I4 ?_
          unfold rdK
          cases ee : fe ρ4 with
          | ex _ _ => rw [ee] at eq; cases eq
          | no => rw [ee] at eq; cases eq
          | ok q =>
            obtain ⟨d5, ρ5⟩ := q
            rw [ee] at eq
            dsimp only [Rz.bind] at eq ⊢
            intro v H5 G5 s5 I5 r5
            have st5 : Stp (wipe σ2 vs) ρ' G' H' σ3 ρ5 G5 H5 := st4.trans s5
            obtain ⟨k1, k2, k3⟩ := keepD st5 I5
            by_cases z : acc.length < sizeLine ∧ noIo vs ρ5 = true
            · rw [if_pos z] at eq
              have stw : Stp (wipe σ2 vs) ρ' G' H' (wipe σ2 vs) (wipeR vs ρ5) G5 H5 := by
                have := st5.trans (Stp.wipe (vs := vs) z.2)
                rw [wq] at this
                exact this
              have Iw : SR K G5 H5 (wipe σ2 vs) (wipeR vs ρ5) := by
                have := I5.wipe (vs := vs)
                rw [wq] at this
                exact this
              have nw : ¬ OwnAt (wipe σ2 vs) (wipeR vs ρ5) D0 := fun y => by
                rw [← wq] at y
                exact k3 y.unwipe
              refine ⟨us, k1, by rw [hlen]; exact z.1, rfl, hlt, wipeR vs ρ5, G5, acc ++ [d5], us ++ [v], (sW.trans stw).blind hD k1, Iw.blind k1 k2 nw, bare_wipeR, upd_same, k2, nw, Reps.append (Reps.mono st5.sub _ _ rr) (Reps.cons r5 Reps.nil), by rw [List.length_append, List.length_append, hlen]; rfl, fun b o e => st5.sub b o (sG b o e), eq⟩
            · rw [if_neg z] at eq; cases eq
        | false =>
          simp only [Bool.false_eq_true, if_false] at eq ⊢
          obtain ⟨k1, k2, k3⟩ := keepD st4 I4
          by_cases z : noIo vs ρ4 = true
          · rw [if_pos z] at eq
            have stw : Stp (wipe σ2 vs) ρ' G' H' (wipe σ2 vs) (wipeR vs ρ4) G4 H4 := by
              have := st4.trans (Stp.wipe (vs := vs) z)
              rw [wq] at this
              exact this
            have Iw : SR K G4 H4 (wipe σ2 vs) (wipeR vs ρ4) := by
              have := I4.wipe (vs := vs)
              rw [wq] at this
              exact this
            have nw : ¬ OwnAt (wipe σ2 vs) (wipeR vs ρ4) D0 := fun y => by
              rw [← wq] at y
              exact k3 y.unwipe
            exact ⟨rfl, hlt, wipeR vs ρ4, G4, acc, us, sW.trans stw, Iw, bare_wipeR, k1, k2, nw, Reps.mono st4.sub _ _ rr, hlen, (fun b o e => st4.sub b o (sG b o e)), eq⟩
          · rw [if_neg z] at eq; cases eq
  · left
    have e0 : ds.drop i = [] := List.drop_eq_nil_of_le (by omega)
    rw [e0] at eq
    unfold lcL at eq
    rw [frcL_eq] at eq
    cases eq
    exact ⟨(hJ i G' H' (fun b o e => sG b o (s0 b o e)) I'.sub).2 (by omega), fin H' G' us sW I' bW hDl hDg hDn rr hlen sG⟩
end
def lcL2 (tg : TgD) (ft : FT) (fi1 : FI) (tg1 : TgD) (ft1 : FT) (fe : FE) (vs vs1 : List Nat) : List D → List D → Rho → Rz (List D × Rho)
  | [], acc, ρ => frcL acc fun acc => .ok (acc, ρ)
  | d :: ds, acc, ρ => frc d fun d => nrmR ρ fun ρ => match tg d ρ with
    | none => .no
    | some ρ1 => (ft ρ1).bind fun c => if c.1 = true then (fi1 c.2).bind fun p => if noIo vs1 p.2 = true then (lcL tg1 ft1 fe vs1 p.1 acc (wipeR vs1 p.2)).bind fun q => if noIo vs q.2 = true then lcL2 tg ft fi1 tg1 ft1 fe vs vs1 ds q.1 (wipeR vs q.2) else .no else .no
      else if noIo vs c.2 = true then lcL2 tg ft fi1 tg1 ft1 fe vs vs1 ds acc (wipeR vs c.2) else .no
def oLc2 (fi : FI) (tg : TgD) (ft : FT) (fi1 : FI) (tg1 : TgD) (ft1 : FT) (fe : FE) (vs vs1 : List Nat) : FA := fun ρ => (fi ρ).bind fun p => if noIo vs p.2 = true then (lcL2 tg ft fi1 tg1 ft1 fe vs vs1 p.1 [] (wipeR vs p.2)).bind fun q => .ok (q.1, restR vs p.2 q.2) else .no
section
variable {X : Cx}
theorem wipe_sub {σ : L2.St} {vs vs1 : List Nat} (hv : ∀ i ∈ vs1, i ∈ vs) : wipe (wipe σ vs1) vs = wipe σ vs := wipe_eq (by rw [wipe_length]) fun i h => wipe_get fun z => h (hv i z)
theorem rd_lc2 {fi fi1 : FI} {is is1 : List Nat} {tg tg1 : TgD} {ft ft1 : FT} {fe : FE} {vs vs1 : List Nat} (hs : ∀ i ∈ is, i ∈ vs) (hs1 : ∀ i ∈ is1, i ∈ vs1) (hv : ∀ i ∈ vs1, i ∈ vs) (σ : L2.St) (H : Hp) (Q : VK) (h : rdO X.K (oLc2 fi tg ft fi1 tg1 ft1 fe vs vs1) σ H Q) :
    tLc2 (rdI X.K fi) (rdG X.K is tg) (rdT X.K ft) (rdI X.K fi1) (rdG X.K is1 tg1) (rdT X.K ft1) (rd X.K fe) vs vs1 σ H Q := by
  obtain ⟨ρ, G, I, h⟩ := h
  refine ⟨ρ, G, I, ?_⟩
  unfold oLc2 at h
  unfold rdIK
  cases e : fi ρ with
  | ex _ _ => rw [e] at h; exact h
  | no => rw [e] at h; exact h
  | ok p =>
    obtain ⟨ds, ρ1⟩ := p
    rw [e] at h
    dsimp only [Rz.bind] at h ⊢
    intro J H1 G1 s1 I1 hJ D0 hD
    by_cases io1 : noIo vs ρ1 = true
    · rw [if_pos io1] at h
      cases eL : lcL2 tg ft fi1 tg1 ft1 fe vs vs1 ds [] (wipeR vs ρ1) with
      | ex _ _ => rw [eL] at h; exact h.elim
      | no => rw [eL] at h; exact h.elim
      | ok r =>
        obtain ⟨res, ρf⟩ := r
        rw [eL] at h
        dsimp only at h
        have hD0 : H D0 = none := by
          cases q : H D0 with
          | none => rfl
          | some o => exact absurd hD (s1.dom D0 (by rw [q]; exact fun z => by cases z))
        have I1w : SR X.K G1 H1 (wipe σ vs) (wipeR vs ρ1) := I1.wipe
        obtain ⟨J0, S0, N0⟩ := I1w.fresh (o := .lst []) hD
        let W : Nat → Nat → Hp → Prop := fun i m H' => m = ds.length - i ∧ i ≤ ds.length ∧ ∃ ρ' G' acc us, Stp (wipe σ vs) (wipeR vs ρ1) G1 H1 (wipe σ vs) ρ' G' H' ∧ SR X.K G' H' (wipe σ vs) ρ' ∧ Bare vs ρ' ∧ H' D0 = some (.lst us) ∧ G' D0 = none ∧ ¬ OwnAt (wipe σ vs) ρ' D0 ∧ Reps X.K G' acc us ∧ us.length = acc.length ∧
          lcL2 tg ft fi1 tg1 ft1 fe vs vs1 (ds.drop i) acc ρ' = .ok (res, ρf)
        refine ⟨W, ⟨ds.length, rfl, Nat.zero_le _, wipeR vs ρ1, G1, [], [], S0, J0, bare_wipeR, upd_same, I1.sub.free hD, N0, Reps.nil, rfl, eL⟩, ?_⟩
        rintro i m H' ⟨rfl, hi, ρ', G', acc, us, sW, I', bW, hDl, hDg, hDn, rr, hlen, eq⟩
        by_cases hlt : i < ds.length
        · have ed : ds.drop i = ds[i] :: ds.drop (i + 1) := List.drop_eq_getElem_cons hlt
          obtain ⟨go, yl⟩ := (hJ i G' H' sW.sub I'.sub).1 ds[i] (List.getElem?_eq_getElem hlt)
          right
          refine ⟨go, fun H2 => W (i + 1) (ds.length - (i + 1)) H2, fun H2 w => ⟨ds.length - (i + 1), by omega, w⟩, fun x H2 y => ?_⟩
          obtain ⟨G2, P2, rx⟩ := yl x H2 y
          have I2 := I'.pure P2
          rw [ed] at eq
          unfold lcL2 at eq
          rw [frc_eq, nrmR_eq] at eq
          cases et : tg ds[i] ρ' with
          | none => rw [et] at eq; cases eq
          | some ρ3 =>
            rw [et] at eq
            dsimp only at eq
            refine ⟨ρ', G2, ds[i], I2, rx, ρ3, et, fun σ3 s3 I3 o3 => ⟨wipe_only hs o3, ?_⟩⟩
            have base : Stp (wipe σ vs) ρ' G' H' σ3 ρ3 G2 H2 := (P2.stp (σ := wipe σ vs) (ρ := ρ')).trans s3
            have wq : wipe σ3 vs = wipe σ vs := wipe_only hs o3
            have keepD : ∀ {σ4 : L2.St} {ρ4 : Rho} {G4 H4 : Hp}, Stp (wipe σ vs) ρ' G' H' σ4 ρ4 G4 H4 → H4 D0 = some (.lst us) ∧ G4 D0 = none ∧ ¬ OwnAt σ4 ρ4 D0 := fun {σ4 ρ4 G4 H4} st => by
              refine ⟨st.keep D0 _ hDl hDn rfl, (st.new D0 (by rw [hDl]; exact fun z => by cases z) hDn).trans hDg, fun z => ?_⟩
              rcases st.own D0 z with z | z
              · exact hDn z
              · rw [hDl] at z; cases z
            refine rdT_of I3 ?_
            unfold rdTK
            cases ec : ft ρ3 with
            | ex _ _ => rw [ec] at eq; cases eq
            | no => rw [ec] at eq; cases eq
            | ok c =>
              obtain ⟨b, ρ4⟩ := c
              rw [ec] at eq
              dsimp only [Rz.bind] at eq ⊢
              intro H4 G4 s4 I4
              have st4 : Stp (wipe σ vs) ρ' G' H' σ3 ρ4 G4 H4 := base.trans s4
              cases b with
              | true =>
                simp only [if_true] at eq ⊢
                refine ⟨ρ4, G4, I4, ?_⟩
                unfold rdIK
                cases e5 : fi1 ρ4 with
                | ex _ _ => rw [e5] at eq; cases eq
                | no => rw [e5] at eq; cases eq
                | ok p5 =>
                  obtain ⟨ds1, ρ5⟩ := p5
                  rw [e5] at eq
                  dsimp only [Rz.bind] at eq ⊢
                  intro J1 H5 G5 s5 I5 hJ1
                  by_cases io5 : noIo vs1 ρ5 = true
                  · rw [if_pos io5] at eq
                    cases eL1 : lcL tg1 ft1 fe vs1 ds1 acc (wipeR vs1 ρ5) with
                    | ex _ _ => rw [eL1] at eq; cases eq
                    | no => rw [eL1] at eq; cases eq
                    | ok r1 =>
                      obtain ⟨acc6, ρ6⟩ := r1
                      rw [eL1] at eq
                      dsimp only at eq
                      by_cases io6 : noIo vs ρ6 = true
                      · rw [if_pos io6] at eq
                        have st5 := st4.trans s5
                        have st5w := st5.trans (Stp.wipe (vs := vs1) io5)
                        have I5w : SR X.K G5 H5 (wipe σ3 vs1) (wipeR vs1 ρ5) := I5.wipe
                        obtain ⟨k1, k2, k3⟩ := keepD st5w
                        refine lc_loop (K := X.K) hs1 (σ2 := σ3) (σb := wipe σ vs) (ρb := wipeR vs ρ1) (Gb := G1) (Hb := H1) (G0 := G5) (us := us) (acc := acc) (D0 := D0) hD (sW.trans st5w) I5w bare_wipeR k1 k2 k3 (Reps.mono st5.sub _ _ rr) hlen (fun _ _ h => h) hJ1 eL1 fun H6 G6 us6 s6 I6 b6 d1 d2 d3 r6 l6 sG6 => ?_
                        have wv : wipe (wipe σ3 vs1) vs = wipe σ vs := (wipe_sub hv).trans wq
                        have s6w := s6.trans (Stp.wipe (vs := vs) io6)
                        have I6w := I6.wipe (vs := vs)
                        have n6 : ¬ OwnAt (wipe (wipe σ3 vs1) vs) (wipeR vs ρ6) D0 := fun y => d3 y.unwipe
                        rw [wv] at s6w I6w n6
                        exact ⟨rfl, hlt, wipeR vs ρ6, G6, acc6, us6, s6w, I6w, bare_wipeR, d1, d2, n6, r6, l6, eq⟩
                      · rw [if_neg io6] at eq; cases eq
                  · rw [if_neg io5] at eq; cases eq
              | false =>
                simp only [Bool.false_eq_true, if_false] at eq ⊢
                obtain ⟨k1, k2, k3⟩ := keepD st4
                by_cases z : noIo vs ρ4 = true
                · rw [if_pos z] at eq
                  have stw := st4.trans (Stp.wipe (vs := vs) z)
                  have Iw := I4.wipe (vs := vs)
                  have nw : ¬ OwnAt (wipe σ3 vs) (wipeR vs ρ4) D0 := fun y => k3 y.unwipe
                  rw [wq] at stw Iw nw
                  exact ⟨rfl, hlt, wipeR vs ρ4, G4, acc, us, sW.trans stw, Iw, bare_wipeR, k1, k2, nw, Reps.mono st4.sub _ _ rr, hlen, eq⟩
                · rw [if_neg z] at eq; cases eq
        · left
          have e0 : ds.drop i = [] := List.drop_eq_nil_of_le (by omega)
          rw [e0] at eq
          unfold lcL2 at eq
          rw [frcL_eq] at eq
          cases eq
          refine ⟨(hJ i G' H' sW.sub I'.sub).2 (by omega), ?_⟩
          have If := SR.rest sW.sub I1 I'
          have sf : Stp σ ρ G H σ (restR vs ρ1 ρf) G' H' := (s1.trans (Stp.wipe io1)).trans (sW.trans (Stp.rest bW))
          exact h D0 us H' G' sf If hD0 hDl hDg (fun y => hDn y.rest) rr
    · rw [if_neg io1] at h; exact h.elim
theorem do_lc2 {elt tg iter tg1 iter1 : Expr} {ifs ifs1 : List Expr} {scope : Scope} {own : List (Str × Nat)} {vs1 : List Nat} {pos : Pos} {fi fi1 : FI} {is is1 : List Nat} {tgd tgd1 : TgD} {ft ft1 : FT} {fe : FE} (hc : X.calm = true) (hN : X.N.Nodup) (hi : PI X tg iter (rdI X.K fi)) (ok : BlkOk X.N X.env.scope scope own) (hsub : ∀ i ∈ is, i ∈ own.map (·.2)) (hv : ∀ i ∈ vs1, i ∈ own.map (·.2)) (hsub1 : ∀ i ∈ is1, i ∈ vs1)
    (hg : ∀ (s : Shared) (H : Hp) (C : Addr) (cl : List (Str × Addr)) (fp : List Addr), PG (X.blk s H scope (compEnvC scope cl C X.env) fp) tg (rdG X.K is tgd)) (ht : ∀ (s : Shared) (H : Hp) (C : Addr) (cl : List (Str × Addr)) (fp : List Addr), PTs (X.blk s H scope (compEnvC scope cl C X.env) fp) ifs (rdT X.K ft))
    (hi1 : ∀ (s : Shared) (H : Hp) (C : Addr) (cl : List (Str × Addr)) (fp : List Addr), PI (X.blk s H scope (compEnvC scope cl C X.env) fp) tg1 iter1 (rdI X.K fi1))
    (hg1 : ∀ (s : Shared) (H : Hp) (C : Addr) (cl : List (Str × Addr)) (fp : List Addr), PG (X.blk s H scope (compEnvC scope cl C X.env) fp) tg1 (rdG X.K is1 tgd1)) (ht1 : ∀ (s : Shared) (H : Hp) (C : Addr) (cl : List (Str × Addr)) (fp : List Addr), PTs (X.blk s H scope (compEnvC scope cl C X.env) fp) ifs1 (rdT X.K ft1))
    (he : ∀ (s : Shared) (H : Hp) (C : Addr) (cl : List (Str × Addr)) (fp : List Addr), PE (X.blk s H scope (compEnvC scope cl C X.env) fp) elt (rd X.K fe)) (hs : ∀ x, foldedSetIterable iter X.env x = pure x := by intro _; rfl) (hs1 : ∀ env x, foldedSetIterable iter1 env x = pure x := by intro _ _; rfl) :
    PE X (.ListComp elt [⟨tg, iter, ifs, 0⟩, ⟨tg1, iter1, ifs1, 0⟩] scope pos) (rdO X.K (oLc2 fi tgd ft fi1 tgd1 ft1 fe (own.map (·.2)) vs1)) :=
  pe_imp (pe_lc2 hc hN hi ok hv hg ht hi1 hg1 ht1 he hs hs1) (rd_lc2 hsub hsub1 hv)
end
end M

namespace M
open PySem PySem.Spec PyProof.Rows L2

/-! ### the head: properties' getters, facts of classes with slots -/
/-- the getter of the property f of the class c -/
def gAd (K : PySem.W.Frag) (c f : Str) : Addr := match PySem.W.findIn K (.ref (He.ga K c)) f with
  | some (some (.ref p)) => (match PySem.W.recIn K p "property" with
    | some (.ref g :: _) => g
    | _ => 0)
  | _ => 0
structure GtD where
  cls : Str
  f : Str
  qual : Str
  st : Stmt
def fnAt (K : PySem.W.Frag) (a : Addr) : He.FnV := match K.lookup a with
  | some ⟨_, _, .func fd, _⟩ => some (fd.name, fd.qualname, fd.params, fd.body, fd.scope, fd.globals, fd.closure, fd.defaults, fd.builtins)
  | _ => none
def GtD.val (d : GtD) : He.FnV := some (d.f, d.qual, defArgs d.st, .stmts (defBody d.st), defScope d.st, mainGlobals, [], .none, builtinsNs)
def GtD.ok (K : PySem.W.Frag) (d : GtD) : Bool := PySem.W.keepIn K (.ref (gAd K d.cls d.f)) && ((match K.lookup (gAd K d.cls d.f) with
  | some ⟨_, _, .func fd, _⟩ => PySem.W.codeIn K fd.code d.qual
  | _ => false) && (match PySem.W.findIn K (.ref (He.ga K d.cls)) d.f with
  | some (some (.ref p)) => He.eqO (PySem.W.specialIn K (.ref p) "__get__") (some (some (.builtin "property.__get__"))) && (decide (PySem.W.takesIn K (.ref p) = some true) && (match PySem.W.recIn K p "property" with
    | some (.ref _ :: _) => true
    | _ => false))
  | _ => false))
theorem gtd_ok {K : PySem.W.Frag} {d : GtD} (e : fnAt K (gAd K d.cls d.f) = d.val) (c : d.ok K = true) : (∃ fd cdv, FunC K d.f d.qual d.st (gAd K d.cls d.f) fd cdv) ∧ PrF K (He.ga K d.cls) d.f (gAd K d.cls d.f) := by
  unfold GtD.ok at c
  obtain ⟨c1, c⟩ := He.ba c
  obtain ⟨c2, c3⟩ := He.ba c
  constructor
  · unfold fnAt at e
    cases q : K.lookup (gAd K d.cls d.f) with
    | none => rw [q] at c2; cases c2
    | some o =>
      obtain ⟨oc, od, dt, osl⟩ := o
      rw [q] at c2 e
      cases dt with
      | func fd =>
        obtain ⟨n1, n2, n3, n4, n5, n6, n7, n8, n9, n10, n11, n12, n13, n14, n15⟩ := fd
        have e2 : (some (n1, n2, n3, n4, n5, n6, n7, n8, n15) : He.FnV) = some (d.f, d.qual, defArgs d.st, .stmts (defBody d.st), defScope d.st, mainGlobals, [], .none, builtinsNs) := e
        simp only [Option.some.injEq, Prod.mk.injEq] at e2
        obtain ⟨h1, h2, h3, h4, h5, h6, h7, h8, h9⟩ := e2
        subst h1 h2 h3 h4 h5 h6 h7 h8 h9
        exact ⟨_, n13, ⟨⟨oc, od, n9, n10, n11, n12, n14, osl, rfl, q, c2⟩, c1⟩⟩
      | _ => cases c2
  · cases y : PySem.W.findIn K (.ref (He.ga K d.cls)) d.f with
    | none => rw [y] at c3; cases c3
    | some o =>
      cases o with
      | none => rw [y] at c3; cases c3
      | some v =>
        cases v with
        | ref p =>
          rw [y] at c3
          dsimp only at c3
          obtain ⟨c4, c5⟩ := He.ba c3
          obtain ⟨c6, c7⟩ := He.ba c5
          refine ⟨p, y, He.eqO_ok c4, of_decide_eq_true c6, ?_⟩
          cases z : PySem.W.recIn K p "property" with
          | none => rw [z] at c7; cases c7
          | some l =>
            rw [z] at c7
            match l, c7, z with
            | .ref g :: rest, _, z =>
              refine ⟨rest, ?_⟩
              have : gAd K d.cls d.f = g := by unfold gAd; rw [y]; dsimp only; rw [z]
              rw [this]
        | _ => rw [y] at c3; cases c3
/-- a class with slots -/
def sclsB (K : PySem.W.Frag) (c : Str) : Bool := PySem.W.plainGet K (He.ga K c) Str.empty && (PySem.W.isClsIn K (He.ga K c) && (PySem.W.plainOver K (He.ga K c) && He.eqO (PySem.W.findIn K (.ref (He.ga K c)) "__setattr__") (some (some (.builtin "object.__setattr__")))))
theorem scls_ok {K : PySem.W.Frag} {c : Str} (h : sclsB K c = true) : SlX.SCls K (He.ga K c) := by
  obtain ⟨h1, h⟩ := He.ba h
  obtain ⟨h2, h⟩ := He.ba h
  obtain ⟨h3, h4⟩ := He.ba h
  exact ⟨h1, h2, h3, He.eqO_ok h4⟩
def slotB (K : PySem.W.Frag) (c f : Str) (i : Nat) : Bool := match PySem.W.findIn K (.ref (He.ga K c)) f with
  | some (some (.ref p)) => He.eqO (PySem.W.specialIn K (.ref p) "__get__") (some (some (.builtin "member_descriptor.__get__"))) && (decide (PySem.W.takesIn K (.ref p) = some true) && (decide (PySem.W.typeIn K (.ref p) = some (.type "member_descriptor")) && (decide (PySem.W.slotIn K p (He.ga K c) = some i) && Nat.blt i 1000)))
  | _ => false
theorem slot_ok {K : PySem.W.Frag} {c f : Str} {i : Nat} (h : slotB K c f i = true) : ∃ p, SlX.Slot1 K (He.ga K c) f p i := by
  unfold slotB at h
  cases y : PySem.W.findIn K (.ref (He.ga K c)) f with
  | none => rw [y] at h; cases h
  | some o =>
    cases o with
    | none => rw [y] at h; cases h
    | some v =>
      cases v with
      | ref p =>
        rw [y] at h
        dsimp only at h
        obtain ⟨h1, h⟩ := He.ba h
        obtain ⟨h2, h⟩ := He.ba h
        obtain ⟨h3, h⟩ := He.ba h
        obtain ⟨h4, h5⟩ := He.ba h
        exact ⟨p, y, He.eqO_ok h1, of_decide_eq_true h2, of_decide_eq_true h3, of_decide_eq_true h4, Nat.blt_eq.mp h5⟩
      | _ => rw [y] at h; cases h
/-- isinstance(x, D), x an instance of the class c -/
def isiB (K : PySem.W.Frag) (c d : Str) (b : Bool) : Bool := He.eqO (PySem.W.findIn K (.ref (He.ga K c)) "__class__") (some (some (.builtin "object.__class__"))) && (He.eqO (PySem.W.specialIn K (.builtin "object.__class__") "__get__") (some (some (.builtin "getset_descriptor.__get__"))) &&
  (decide (PySem.W.takesIn K (.builtin "object.__class__") = some true) && (decide (PySem.W.mroIn K (He.ga K c) (.type "object") = some true) && decide (PySem.W.kitOne K (.ref (He.ga K c)) (.ref (He.ga K d)) = some b))))
theorem isi_ok {K : PySem.W.Frag} {c d : Str} {b : Bool} (h : isiB K c d b = true) : SlX.SIsi K (He.ga K c) ∧ PySem.W.kitOne K (.ref (He.ga K c)) (.ref (He.ga K d)) = some b := by
  obtain ⟨h1, h⟩ := He.ba h
  obtain ⟨h2, h⟩ := He.ba h
  obtain ⟨h3, h⟩ := He.ba h
  obtain ⟨h4, h5⟩ := He.ba h
  exact ⟨⟨He.eqO_ok h1, He.eqO_ok h2, of_decide_eq_true h3, of_decide_eq_true h4⟩, of_decide_eq_true h5⟩
/-! the hook, with getters -/
abbrev AlY : Type := He.AlX × (List He.FnV × Bool)
def obsY (n : Nat) (fa : List He.Fa) (fn : List He.DefD) (tf : List He.Defn) (ex : PySem.W.Frag → Bool) (gs : List GtD) (g : Addr → Option Obj) : AlY :=
  (He.obsX n fa fn [] tf ex g, (gs.map fun d => fnAt (He.frT g (He.asD g n)) (gAd (He.frT g (He.asD g n)) d.cls d.f)), gs.all fun d => d.ok (He.frT g (He.asD g n)))
structure SaysY (fa : List He.Fa) (fn : List He.DefD) (tf : List He.Defn) (ex : PySem.W.Frag → Bool) (gs : List GtD) (w : World) (h : Heap) (K : PySem.W.Frag) : Prop where
  x : He.SaysX fa fn [] tf ex w h K
  g : (gs.map fun d => fnAt K (gAd K d.cls d.f)) = gs.map GtD.val
  ok : (gs.all fun d => d.ok K) = true
theorem SaysY.get {fa : List He.Fa} {fn : List He.DefD} {tf : List He.Defn} {ex : PySem.W.Frag → Bool} {gs : List GtD} {w : World} {h : Heap} {K : PySem.W.Frag} (c : SaysY fa fn tf ex gs w h K) (i : Nat) {d : GtD} (e : gs[i]? = some d) : (∃ fd cdv, FunC K d.f d.qual d.st (gAd K d.cls d.f) fd cdv) ∧ PrF K (He.ga K d.cls) d.f (gAd K d.cls d.f) := by
  have e2 : (gs.map fun d => fnAt K (gAd K d.cls d.f))[i]? = (gs.map GtD.val)[i]? := by rw [c.g]
  rw [List.getElem?_map, List.getElem?_map, e] at e2
  exact gtd_ok (Option.some.inj e2) (List.all_eq_true.mp c.ok d (List.mem_of_getElem? e))
def hookY (n : Nat) (fa : List He.Fa) (fn : List He.DefD) (tf : List He.Defn) (ex : PySem.W.Frag → Bool) (gs : List GtD) : PySem.W.Hook where
  α := AlY
  obs := fun s => obsY n fa fn tf ex gs s.heap.get?
  val := fun w => (He.valX fn [] w, (gs.map GtD.val, true))
  says := fun w h => ∃ K : PySem.W.Frag, K.In h ∧ SaysY fa fn tf ex gs w h K
  of := fun _ _ e => ⟨_, He.frT_in, He.saysX_of (congrArg (fun z : AlY => z.1) e), congrArg (fun z : AlY => z.2.1) e, congrArg (fun z : AlY => z.2.2) e⟩
  keeps := fun _ _ _ ⟨K, hK, c⟩ k => ⟨K, PySem.W.Frag.In.keeps hK k, ⟨c.x.t, c.x.more, c.x.hd, c.x.out, fun p hp => k _ _ (c.x.empty p hp)⟩, c.g, c.ok⟩
theorem obsY_eq {n : Nat} {fa : List He.Fa} {fn : List He.DefD} {tf : List He.Defn} {ex : PySem.W.Frag → Bool} {gs : List GtD} {g : Addr → Option Obj} {s : Shared} (h : ∀ a, g a = s.heap.get? a) : obsY n fa fn tf ex gs g = (hookY n fa fn tf ex gs).obs s := by
  have e : g = s.heap.get? := funext h
  rw [e] <;> rfl
theorem funC_ofM {K : PySem.W.Frag} {x qual c m : Str} {st : Stmt} {fd : FuncData} (F : FunD K x qual (defArgs st) (defBody st) (defScope st) [] [] (He.fAd K (c, some m)) fd) : FunC K x qual st (He.ma K (He.ga K c) m) fd (.ref (He.codeOf K (c, some m))) := by
  obtain ⟨⟨oc, od, dV, kV, doc, pm, an, cdv, ct, osl, rfl, lk, hcd, hD, _⟩, kp⟩ := F
  obtain ⟨a, rfl⟩ := He.codeIn_ref hcd
  rw [He.codeOf_eq lk rfl]
  rcases hD with ⟨_, rfl⟩ | ⟨e, _⟩
  · exact ⟨⟨oc, od, kV, doc, pm, an, ct, osl, rfl, lk, hcd⟩, kp⟩
  · exact absurd rfl e
/-- a class's body -/
def clsBody : Stmt → List Stmt
  | .ClassDef _ _ _ b _ _ _ _ _ _ _ => b
  | _ => []
end M

namespace M
open PySem PySem.Spec PyProof.Rows L2
variable [Tabs]
section
variable {X : Cx}
/-- name = [.. for .. for ..] on one line -/
theorem ds_setLc2 (i : Nat) {y : Str} {py : Pos} {elt tg iter tg1 iter1 : Expr} {ifs ifs1 : List Expr} {scope : Scope} {own : List (Str × Nat)} {vs1 : List Nat} {pos spos : Pos} {fi fi1 : FI} {is is1 : List Nat} {tgd tgd1 : TgD} {ft ft1 : FT} {fe : FE} (hc : X.calm = true) (hN : X.N.Nodup) (hi : PI X tg iter (rdI X.K fi)) (ok : BlkOk X.N X.env.scope scope own) (hsub : ∀ i ∈ is, i ∈ own.map (·.2)) (hv : ∀ i ∈ vs1, i ∈ own.map (·.2)) (hsub1 : ∀ i ∈ is1, i ∈ vs1)
    (hg : ∀ (s : Shared) (H : Hp) (C : Addr) (cl : List (Str × Addr)) (fp : List Addr), PG (X.blk s H scope (compEnvC scope cl C X.env) fp) tg (rdG X.K is tgd)) (ht : ∀ (s : Shared) (H : Hp) (C : Addr) (cl : List (Str × Addr)) (fp : List Addr), PTs (X.blk s H scope (compEnvC scope cl C X.env) fp) ifs (rdT X.K ft))
    (hi1 : ∀ (s : Shared) (H : Hp) (C : Addr) (cl : List (Str × Addr)) (fp : List Addr), PI (X.blk s H scope (compEnvC scope cl C X.env) fp) tg1 iter1 (rdI X.K fi1))
    (hg1 : ∀ (s : Shared) (H : Hp) (C : Addr) (cl : List (Str × Addr)) (fp : List Addr), PG (X.blk s H scope (compEnvC scope cl C X.env) fp) tg1 (rdG X.K is1 tgd1)) (ht1 : ∀ (s : Shared) (H : Hp) (C : Addr) (cl : List (Str × Addr)) (fp : List Addr), PTs (X.blk s H scope (compEnvC scope cl C X.env) fp) ifs1 (rdT X.K ft1))
    (he : ∀ (s : Shared) (H : Hp) (C : Addr) (cl : List (Str × Addr)) (fp : List Addr), PE (X.blk s H scope (compEnvC scope cl C X.env) fp) elt (rd X.K fe)) (hy : X.N[i]? = some y := by rfl) (hyl : X.env.scope.names.lookup y = some .local := by rfl) (hk : X.env.scope.kind = .function := by rfl) (hl : (py.line == pos.line) = true := by rfl)
    (ha : (scope.names.any fun (n, k) => n == y && (k == .local || k == .cell)) = false := by decide +kernel) (hs : ∀ x, foldedSetIterable iter X.env x = pure x := by intro _; rfl) (hs1 : ∀ env x, foldedSetIterable iter1 env x = pure x := by intro _ _; rfl) :
    PS X (.Assign [.Name y py] (.ListComp elt [⟨tg, iter, ifs, 0⟩, ⟨tg1, iter1, ifs1, 0⟩] scope pos) spos) (rdS X.K (sSet i (eFz (oLc2 fi tgd ft fi1 tgd1 ft1 fe (own.map (·.2)) vs1)))) := by
  refine ps_imp (ps_setLc2 hc hN hy hyl (sw_true hk hyl hl ha) hi ok hv hg ht hi1 hg1 ht1 he hs hs1) fun D σ H ⟨ρ, G, I, h⟩ => ?_
  refine rd_lc2 hsub hsub1 hv σ H (fun x H1 => gName i x σ H1 D.nx) ⟨ρ, G, I, ?_⟩
  unfold rdSK at h
  unfold sSet bndS eFz at h
  cases e : oLc2 fi tgd ft fi1 tgd1 ft1 fe (own.map (·.2)) vs1 ρ with
  | ex _ _ => rw [e] at h; exact h
  | no => rw [e] at h; exact h
  | ok p =>
    obtain ⟨ds, ρ1⟩ := p
    rw [e] at h
    dsimp only [Rz.bind] at h
    intro p us H1 G1 s1 I1 e1 e2 e3 n r
    by_cases z : isIo ρ1 i = true
    · rw [if_pos z] at h; exact h.elim
    · rw [if_neg z] at h
      have ne : ∀ a, H a ≠ none → a ≠ p := fun a h z => h (by rw [z]; exact e1)
      have st : Stp σ ρ G H σ ρ1 (upd G1 p (.lst us)) H1 := ⟨fun a o z => by rw [upd_ne (ne_of_none (s1.sub a o z) e3)]; exact s1.sub a o z, fun a z z2 => by rw [upd_ne (ne a z)]; exact s1.new a z z2, s1.keep, s1.grow, s1.dom, s1.own, s1.ownN, s1.stay⟩
      exact h _ H1 (upd G1 p (.lst us)) (st.trans (Stp.set (by simpa using z))) ((I1.seen e2 e3 n).set (Rep.lst_new e3 r))
/-- len(set(xs)), a list of ints that are all unlike -/
def lenSetD : D → Option D
  | .lst ds => (match asInts ds with | some ns => if ns.Nodup ∧ ns.length ≤ 4000 then some (.int (ns.length : Nat)) else none | none => none)
  | _ => none
theorem de_lenSet {a : Expr} {fa : FE} {p p2 q pos : Pos} (ha : PE X a (rd X.K fa)) (hg : Gl X "len") (hm : X.mg "len" = none) (hg2 : Gl X "set") (hm2 : X.mg "set" = none) (hc : X.calm = true := by rfl)
    (na : starEach [a] X.env = (false, eval a X.env) :: starEach [] X.env := by rfl) : PE X (.Call (.Name "len" p) [.Call (.Name "set" p2) [a] [] q] [] pos) (rd X.K (e1 lenSetD fa)) := by
  refine pe_imp (RZ.pe_lenSetI hg hm hg2 hm2 ha hc na) fun σ H Q ⟨ρ, G, I, h⟩ => ?_
  refine rd_of I (rdK_mono (rdK_bnd h) fun v H1 ⟨d1, ρ1, G1, s1, I1, r1, h1⟩ => ?_)
  obtain ⟨d, e, q⟩ := rdK_ofO h1 I1
  unfold lenSetD at e
  split at e
  · rename_i ds
    cases ha : asInts ds with
    | none => rw [ha] at e; cases e
    | some ns =>
      rw [ha] at e
      dsimp only at e
      by_cases z : ns.Nodup ∧ ns.length ≤ 4000
      · rw [if_pos z] at e
        cases e
        simp only [Rep] at r1
        obtain ⟨a, vs, rfl, h2, q2⟩ := r1
        rw [asInts_eq ha] at q2
        rw [q2.ints] at h2
        exact ⟨a, ns, rfl, SqL.of (I1.sub _ _ h2), z.1, z.2, q _ H1 G1 (PStp.refl I1.sub) (rep_int _)⟩
      · rw [if_neg z] at e; cases e
  · cases e
/-- isinstance(e, C), C a class of one's own: e an instance -/
def eIsC (tb : Str → Option Bool) (fe : FE) : FE := e1 (fun d => match d with | .ins c _ => (tb c).map D.bl | _ => none) fe
theorem de_isC {tb : Str → Option Bool} {e : Expr} {fe : FE} {C : Str} {p pc pos : Pos} (he : PE X e (rd X.K fe)) (ok : ∀ c b, tb c = some b → SlX.SCls X.K (He.ga X.K c) ∧ SlX.SIsi X.K (He.ga X.K c) ∧ PySem.W.kitOne X.K (.ref (He.ga X.K c)) (.ref (He.ga X.K C)) = some b)
    (hg : Gl X "isinstance") (hm : X.mg "isinstance" = none) (hgC : Gl X C) (hmC : X.mg C = some (.ref (He.ga X.K C))) (hdb : (C == ("__debug__" : Str)) = false := by decide)
    (n1 : starEach [e, .Name C pc] X.env = (false, eval e X.env) :: starEach [.Name C pc] X.env := by rfl) (n2 : starEach [.Name C pc] X.env = (false, eval (.Name C pc) X.env) :: starEach [] X.env := by rfl) (hpl : (backTo pos (starEach [.Name C pc] X.env)).any (·.1) = false := by rfl) :
    PE X (.Call (.Name "isinstance" p) [e, .Name C pc] [] pos) (rd X.K (eIsC tb fe)) := by
  refine pe_imp (pe_callB (SlX.call_isiSl (.ref (He.ga X.K C))) hg hm PyProof.Rows.boot_isinstance (pa_cons he (pa_cons (pe_glob (v := .ref (He.ga X.K C)) hgC hmC rfl hdb) pa_nil n2) n1) (by decide) (by decide) n1 hpl) fun σ H Q ⟨ρ, G, I, h⟩ => ?_
  refine ⟨ρ, G, I, ?_⟩
  have h : rdK X.K (bnd fe fun x => fun ρ => ofO ((fun d => match d with | .ins c _ => (tb c).map D.bl | _ => none) x) ρ) σ ρ G H Q := h
  refine rdK_mono (rdK_bnd h) fun v H1 ⟨d1, ρ1, G1, s1, I1, r1, h1⟩ => ?_
  obtain ⟨d, ed, q⟩ := rdK_ofO h1 I1
  cases d1 with
  | ins c fs =>
    dsimp only at ed
    cases z : tb c with
    | none => rw [z] at ed; cases ed
    | some b =>
      rw [z] at ed; cases ed
      obtain ⟨sc, si, ki⟩ := ok c b z
      obtain ⟨a, dx, vs, rfl, hsl, _⟩ := Rep.slt I1.sub r1
      refine ⟨a, _, dx, _, .ref (He.ga X.K C), b, rfl, rfl, fun w hw => hw, hsl, sc, si, ki, ?_⟩
      exact q _ H1 G1 (PStp.refl I1.sub) (rep_bl _)
  | _ => cases ed
end
end M

/-! sorted(x), x a tuple of ints -/
namespace PyProof.Rows
open PySem
section
variable {prog : Program} {w : World} {A : Around} {E : Value → Shared → Prop} {s : Shared}
theorem m_collect_seq {l : Addr} {o : Obj} {n : Nat} {vs : List Value} {Q : List Value → Shared → Prop} (ho : s.heap.get? l = some o) (hc : o.cls = .type "tuple") (hd : o.data = .seq vs.toArray n)
    (h : Q vs { s with heap := (s.heap.push (seqObj "list" #[] 0)).update s.heap.objs.size (Obj.mapSeq (· ++ vs.toArray)) }) (hsz : vs.length ≤ sizeLine) : wpAny (model prog w) A (collect (.ref l)) Q E s := by
  unfold collect
  refine wpAny_bind (wpAny_runValue (codeAny_builtin entry_proto_collect' ?_))
  show wpAny _ _ (do again (.builtin "list.__iadd__" ⟨[← newList [], .ref l], []⟩)) _ _ s
  refine wpAny_bind (wpAny_newList (wpAny_pure ⟨Code.quiet_builtin _ (by decide +kernel), codeAny_builtin entry_list_iadd' ?_⟩))
  show wpAny _ _ (Builtin.List.listExtendWith (.ref s.heap.objs.size) (.ref l) (.ref s.heap.objs.size)) _ _ { s with heap := s.heap.push (seqObj "list" #[] 0) }
  unfold Builtin.List.listExtendWith
  have ho2 : (s.heap.push (seqObj "list" #[] 0)).get? l = some o := Heap.get?_push_of_some _ ho
  refine wpAny_bind (wpAny_typeOf (T := "tuple") ⟨o, ho2, hc⟩ ?_)
  have ht : (Value.type "tuple" == Value.type "tuple") = true := by rfl
  rw [if_pos (by rw [ht]; simp)]
  refine wpAny_bind (listItems_at ho2 hd ?_)
  refine wpAny_bind (listItems_at (xs := #[]) (n := 0) (Heap.get?_push_size _ rfl) rfl ?_)
  rw [if_neg (by simp)]
  refine wpAny_bind (listUpdate_at (xs := #[]) (n := 0) (Heap.get?_push_size _ rfl) rfl ?_ (Nat.zero_le _) (by show (#[] ++ vs.toArray).size ≤ sizeLine + 1; simp only [Array.size_append, List.size_toArray, List.length_nil]; omega))
  refine wpAny_pure ?_
  show wpAny (model prog w) A (do
      let o ← load s.heap.objs.size
      match o.data with
      | .seq xs _ => pure xs.toList
      | _ => unsupported "internal:collect") Q E { s with heap := (s.heap.push (seqObj "list" #[] 0)).update s.heap.objs.size (Obj.mapSeq (· ++ vs.toArray)) }
  refine wpAny_bind (wpAny_load (get?_update_seq (Heap.get?_push_size _ rfl) _) ?_)
  show wpAny _ _ (pure ((#[] : Array Value) ++ vs.toArray).toList) Q E _
  rw [show ((#[] : Array Value) ++ vs.toArray).toList = vs by simp]
  exact wpAny_pure h
end
end PyProof.Rows
namespace SrtO
open PySem PyProof.Rows
section
variable {prog : Program} {w : World} {A : Around} {E : Value → Shared → Prop} {s : Shared}
theorem m_sorted_ordT {l : Addr} {o : Obj} {n : Nat} {vs : List Value} {ltv : Value → Value → Bool} {Q : Value → Shared → Prop} (O : Swo ltv) (ho : s.heap.get? l = some o) (hc : o.cls = .type "tuple") (hd : o.data = .seq vs.toArray n) (hz : vs.length ≤ sizeLine)
    (hS : 2 ≤ vs.length → ∀ (h₁ : Heap) (a : Addr), h₁.get? a = some (seqObj "list" vs.toArray 0) → (∀ b o, s.heap.get? b = some o → b ≠ a ∧ h₁.get? b = some o) → SortableO prog w A.in1.in1 { s with heap := h₁ } a vs ltv)
    (h : ∀ out : List Value, Srtd ltv out → Stb ltv out vs → Q (.ref (s.heap.objs.size + 1)) { s with heap := sortedAll s.heap vs out.toArray }) :
    wpAny (model prog w) A (call (.builtin "sorted") [.ref l]) Q E s := by
  refine Calls.call_function_entry kind_sorted plain_sorted entry_sorted (args_sorted1 _) ?_
  unfold Builtin.«sorted»
  refine wpAny_bind (m := checkCount "sorted" 1 1 _) (wpAny_pure ?_)
  refine wpAny_bind (m_collect_seq ho hc hd ?_ hz)
  refine wpAny_bind (wpAny_newList ?_ hz)
  have hsz : ((s.heap.push (seqObj "list" #[] 0)).update s.heap.objs.size (Obj.mapSeq (· ++ vs.toArray))).objs.size = s.heap.objs.size + 1 := by
    rw [Heap.size_update, size_push']
  have hoL : (((s.heap.push (seqObj "list" #[] 0)).update s.heap.objs.size (Obj.mapSeq (· ++ vs.toArray))).push (seqObj "list" vs.toArray 0)).get? (s.heap.objs.size + 1) = some (seqObj "list" vs.toArray 0) := by
    rw [← hsz]; exact Heap.get?_push_size _ rfl
  have keep : ∀ b o, s.heap.get? b = some o → b ≠ s.heap.objs.size + 1 ∧ (((s.heap.push (seqObj "list" #[] 0)).update s.heap.objs.size (Obj.mapSeq (· ++ vs.toArray))).push (seqObj "list" vs.toArray 0)).get? b = some o := fun b o q => by
    have hlt : b < s.heap.objs.size := Heap.lt_size q
    refine ⟨Nat.ne_of_lt (Nat.lt_succ_of_lt hlt), Heap.get?_push_of_some _ ?_⟩
    rw [Heap.get?_update_ne _ _ _ _ (Nat.ne_of_lt hlt)]
    exact Heap.get?_push_of_some _ q
  show wpAny _ _ _ _ _ { s with heap := ((s.heap.push (seqObj "list" #[] 0)).update s.heap.objs.size (Obj.mapSeq (· ++ vs.toArray))).push (seqObj "list" vs.toArray 0) }
  rw [hsz]
  refine wpAny_bind (wpAny_holding (wpAny_call_entry slot_list_sort ⟨_, hoL, rfl⟩ entry_list_sort (list_sort_ord O hoL hz (fun h2 => hS h2 _ _ hoL keep) fun out hs hb => ⟨_, rfl, ?_⟩) (args_list_sort _)))
  exact wpAny_pure ⟨_, rfl, h out hs hb⟩
end
end SrtO
namespace M
open PySem PySem.Spec PyProof.Rows L2
variable [Tabs]
def rSortedTI (K : PySem.W.Frag) : List V → Hp → VK → Prop := fun vs H Q => ∃ (a : Addr) (ns : List Int), vs = [V.ref a] ∧ SqT K H a (ns.map V.int) ∧
  ∀ (ns' : List Int) (p : Addr), ns'.Perm ns → ns'.Pairwise (· ≤ ·) → H p = none → Q (.ref p) (upd H p (.lst (ns'.map V.int)))
theorem cr_sortedTI {X : Cx} : CallR X (.builtin "sorted") (rSortedTI X.K) := by
  intro pins s σ H vs us Q I r h
  obtain ⟨a, ns, rfl, hs, q⟩ := h
  obtain ⟨its, rv, hl, hz⟩ := I.tuple hs
  rw [Vals.ref1 r]
  have hi := rv.ints
  obtain ⟨o, ho, hc, n, hd⟩ := (show s.heap.IsTuple a its.toArray from hl)
  refine SrtO.m_sorted_ordT SrtO.swo_int ho hc hd (by rw [← rv.length]; exact hz) (fun h2 h₁ a' _ _ => SrtO.ints_sortable hi h2) fun out h1 h2 => ?_
  obtain ⟨k1, k2, k3⟩ := SrtO.ints_out hi h1 h2
  obtain ⟨ep, he'⟩ := PyProof.Rows.sortedAll_at s.heap its out.toArray
  have hlen : ((out.map SrtO.iv).map V.int).length ≤ sizeLine := by
    rw [List.length_map, k2.length_eq]
    rw [List.length_map] at hz
    exact hz
  exact ⟨.ref _, upd H (s.heap.objs.size + 1) (.lst ((out.map SrtO.iv).map V.int)), I.laid (t' := s.toks) (fun _ _ => PyProof.Rows.sortedAll_old) (Nat.le_succ _) ⟨hlen, out, ep, vals_of_ints k1, he'⟩, rfl, q _ _ k2 k3 (I.hok.fresh (Nat.le_succ _))⟩
/-- sorted of a list (ints, truths) or of a tuple of ints -/
def rSortX (K : PySem.W.Frag) : List V → Hp → VK → Prop := fun vs H Q => rSortA K vs H Q ∨ rSortedTI K vs H Q
theorem cr_sortX {X : Cx} (hu : X.A.units + 2 < cLine) : CallR X (.builtin "sorted") (rSortX X.K) := by
  intro pins s σ H vs us Q I r h
  exact h.elim (cr_sortedA hu pins s σ H vs us Q I r) (cr_sortedTI pins s σ H vs us Q I r)
def sortXD : List D → Option D
  | [.tup ds] => (asInts ds).map fun ns => .lst ((isort leI ns).map D.int)
  | ds => sortedD ds
theorem cd_sortX {K : PySem.W.Frag} : CallD K (rSortX K) sortXD := by
  intro G H ds d vs Q s r e q
  unfold sortXD at e
  split at e
  · rename_i ds'
    obtain ⟨v, rfl, r1⟩ := reps1 r
    simp only [Rep] at r1
    obtain ⟨a, us, rfl, h1, q1⟩ := r1
    cases h : asInts ds' with
    | none => rw [h] at e; cases e
    | some ns =>
      rw [h] at e; cases e
      rw [asInts_eq h] at q1
      rw [q1.ints] at h1
      refine .inr ⟨a, ns, rfl, SqT.mono s h1, fun ns' p hp hs hn => ?_⟩
      have e2 : ns' = isort leI ns := perm_sorted_eq (hp.trans (isort_perm ns).symm) hs (isort_sorted ns)
      subst e2
      exact q _ _ _ (PStp.laid s hn) (Rep.lst_new (s.free hn) (Reps.of_ints _))
  · exact .inl (cd_sorted G H ds d vs Q s r e q)
end M

/-! sorted(set(x)), x a list of ints -/
namespace L2
open PySem PySem.Spec PyProof.Rows
section
variable {P : Program} {w : World} {A : Around} {E : Value → Shared → Prop} {s : Shared}
/-- the new set -/
abbrev setO0 (w : World) : Obj := { cls := .type "set", dict := none, data := .set #[] 0 (.fresh 0 0 (!w.params.followText "set-order")) }
/-- set(l), l a list of ints: what is in it, how it is laid -/
theorem call_set_lstI {l : Addr} {items : Array Value} (ns : List Int) {Q : Value → Shared → Prop} (hh : A.handled = none) (hl : s.heap.IsList l items) (hit : IntsAre items.toList ns) (hb : ns.length + 1 < scanBound)
    (h : ∀ (h' : Heap) (tk c : Nat), SetR w h' s.heap.objs.size (fun j => decide (j ∈ ns)) c → c ≤ ns.length → (∀ b o, s.heap.get? b = some o → h'.get? b = some o) → Q (.ref s.heap.objs.size) { s with heap := h', toks := tk }) :
    wpAny (model P w) A (call (.type "set") [.ref l]) Q E s := by
  have hisz : items.size = ns.length := by rw [← Array.length_toList]; exact IntsAre.length hit
  obtain ⟨c, tl, hmro⟩ := F.called_set.mro
  have hmade := F.called_set.made
  have hsub := F.called_set.sub
  have h1 := F.called_set.notType
  have h2 := F.called_set.canCreate
  have hct := F.typeCall_set_1 (.ref l)
  refine wpAny_call (codeAny_of_tree ?_)
  show wpAny _ _ (callAny (.type "set") _) _ _ _
  refine wpAny_pure ⟨Code.quiet_builtin _ (by decide +kernel), codeAny_builtin F.entry_type_call ?_⟩
  rw [Around.under_plain (weight_type_call_type "set" [.ref l] []) rfl]
  repeat (any_goals (first | assumption | wp_step))
  refine codeAny_mono (code_set_led1 (.ref l) (E := E) (Q₁ := fun obj s₁ => obj = .ref s.heap.objs.size ∧ s₁ = { s with heap := s.heap.push (setO0 w) }) ⟨rfl, rfl⟩) fun r s₁ hr => ?_
  match r, hr with
  | .error e, hr => exact hr
  | .ok (.ret obj), hr =>
    obtain ⟨rfl, rfl⟩ := hr
    have hS : (s.heap.push (setO0 w)).get? s.heap.objs.size = some (setO0 w) := Heap.get?_push_size _ rfl
    have hT : Shared.TypeIs { s with heap := s.heap.push (setO0 w) } (.ref s.heap.objs.size) "set" := ⟨_, hS, rfl⟩
    have hli := F.called_set.init.lookup
    have hbi := F.called_set.init.bind (.ref s.heap.objs.size)
    repeat (any_goals (first | assumption | wp_step))
    refine codeAny_mono (codeAny_call_builtin (R := wants (fun r s₂ => r = .none ∧ ∃ h' tk c, s₂ = { s with heap := h', toks := tk } ∧ SetR w h' s.heap.objs.size (fun j => decide (j ∈ ns)) c ∧ c ≤ ns.length ∧
          (∀ b o, s.heap.get? b = some o → h'.get? b = some o)) E) F.called_set.init.plain F.entry_set_init (check_set_init_1 hT ?_)) fun r₂ s₂ hr₂ => ?_
    · obtain ⟨⟨ocls, odict, odata, oslots⟩, hol, hcl, nl, hdl⟩ := hl
      simp only at hcl hdl
      subst hcl; subst hdl
      have hl1 : (s.heap.push (setO0 w)).IsList l items := ⟨_, Heap.get?_push_of_some _ hol, rfl, nl, rfl⟩
      have hol' := Heap.get?_push_of_some (setO0 w) hol
      have hsls := F.sub_list_set
      have hslf := F.sub_list_frozenset
      have hne : (Value.type "list" == Value.type "dict") = false := by decide
      unfold Builtin.«set.__init__» noKeywords Builtin.Frozenset.updateFrom
      generalize hPI : pyIter = PI
      wp_walk
      subst hPI
      refine wpAny_pyIter_list hl1 (wpAny_bind (wpAny_runValue ?_))
      have hlS : l < s.heap.objs.size := Heap.lt_size hol
      have hz1 : (s.heap.push (setO0 w)).objs.size = s.heap.objs.size + 1 := Heap.size_push ..
      have hneI : l ≠ (s.heap.push (setO0 w)).objs.size := by rw [hz1]; exact Nat.ne_of_lt (Nat.lt_succ_of_lt hlS)
      have hSf : s.heap.objs.size ∉ [(s.heap.push (setO0 w)).objs.size, l] := by
        simp only [List.mem_cons, List.not_mem_nil, or_false, not_or]
        rw [hz1]
        exact ⟨Nat.ne_of_lt (Nat.lt_succ_self _), Nat.ne_of_gt hlS⟩
      have hval : ∀ (i : Nat) (v : Value), items[i]? = some v → ∃ k t, ns[i]? = some k ∧ v = .int k t := fun i v hv => by
        have hi : i < ns.length := by rw [← hisz]; exact (Array.getElem?_eq_some_iff.mp hv).1
        obtain ⟨t, e⟩ := PyProof.Rows.IntsAre.int_at hit i v (by rw [Array.getElem?_toList]; exact hv)
        exact ⟨ns[i], t, List.getElem?_eq_getElem hi, by rw [e, List.getD_eq_getElem?_getD, List.getElem?_eq_getElem hi] <;> rfl⟩
      refine set_update_ints ((Walks.list (by simp [hh] : A.in1.in1.in1.handled = none) _ l hneI items).toS) s.heap.objs.size
        hSf ns hisz hb hval (items.size - 0) 0 _ (by omega) (Nat.zero_le _) ⟨⟨_, Heap.get?_push_size _ rfl, rfl, rfl⟩, (hl1.push _)⟩ ⟨0, Nat.le_refl 0, setR_new_at (Heap.get?_push_of_some _ hS)⟩ ?_
      intro ⟨h', g2, d', tk', os'⟩ c' hm hc' hS'
      have eg : g2 = s.gens := hm.gens
      have ed : d' = s.drawn := hm.drawn
      have eo : os' = s.os := hm.os
      subst eg; subst ed; subst eo
      refine wpAny_pure (wpAny_pure ⟨rfl, h', tk', c', rfl, hS', by omega, fun b o e => ?_⟩)
      have hb0 : b < s.heap.objs.size := Heap.lt_size e
      refine hm.heap b o ?_ (Heap.get?_push_of_some _ (Heap.get?_push_of_some _ e))
      simp only [List.mem_cons, List.not_mem_nil, or_false, not_or]
      rw [hz1]
      exact ⟨Nat.ne_of_lt hb0, Nat.ne_of_lt (Nat.lt_succ_of_lt hb0)⟩
    · match r₂, hr₂ with
      | .error e, hr₂ => exact hr₂
      | .ok (.ret r), hr₂ =>
        obtain ⟨rfl, h', tk, c', rfl, hS', hc', hk'⟩ := hr₂
        repeat (any_goals (first | assumption | wp_step))
        exact h _ _ _ hS' hc' hk'
      | .ok .next, hr₂ => exact hr₂.elim
      | .ok .brk, hr₂ => exact hr₂.elim
      | .ok .cont, hr₂ => exact hr₂.elim
  | .ok .next, hr => exact hr.elim
  | .ok .brk, hr => exact hr.elim
  | .ok .cont, hr => exact hr.elim
end
end L2
namespace M
open PySem PySem.Spec PyProof.Rows L2
variable [Tabs]
def rSetL (K : PySem.W.Frag) (w : World) : List V → Hp → VK → Prop := fun vs H Q => ∃ (a : Addr) (ns : List Int), vs = [.ref a] ∧ SqL K H a (ns.map V.int) ∧ ns.length < 64 ∧ ∀ p c, H p = none → c ≤ ns.length → Q (.ref p) (upd H p (SetO w p (fun j => decide (j ∈ ns)) c))
theorem cr_setL {X : Cx} (hc : X.calm = true) : CallR X (.type "set") (rSetL X.K X.w) := by
  intro pins s σ H vs us Q I r h
  obtain ⟨a, ns, rfl, hq, hz, q⟩ := h
  obtain ⟨its, rv, pl, _⟩ := I.list hq
  rw [Vals.ref1 r]
  have hi : IntsAre its.toArray.toList ns := by
    have := rv.ints
    simpa using this
  refine call_set_lstI ns (I.ok.hd hc) pl.isList hi (by unfold scanBound; omega) fun h' tk c R1 hcn k => ?_
  exact ⟨.ref s.heap.objs.size, _, I.laid (t' := tk) k (Nat.le_refl _) (setO_new R1), rfl, q _ c (I.hok.fresh (Nat.le_refl _)) hcn⟩
/-- sorted(set(x)), x a list or a tuple of ints -/
def sortSetX : D → Option D
  | .lst ds => (match asInts ds with | some ns => if ns.length < 64 then some (.lst ((isort leI (dedup ns)).map D.int)) else none | none => none)
  | d => sortSetD d
section
variable {X : Cx}
theorem de_sortSetL {a : Expr} {fa : FE} {p p2 pos pos2 : Pos} (ha : PE X a (rd X.K fa)) (hc : X.calm = true) (hg : Gl X "sorted") (hm : X.mg "sorted" = none) (hg2 : Gl X "set") (hm2 : X.mg "set" = none)
    (na : starEach [a] X.env = (false, eval a X.env) :: starEach [] X.env := by rfl) (na2 : starEach [.Call (.Name "set" p2) [a] [] pos2] X.env = (false, eval (.Call (.Name "set" p2) [a] [] pos2) X.env) :: starEach [] X.env := by rfl) :
    PE X (.Call (.Name "sorted" p) [.Call (.Name "set" p2) [a] [] pos2] [] pos) (rd X.K (e1 (fun d => match d with | .lst ds => sortSetX (.lst ds) | _ => none) fa)) := by
  refine pe_imp (pe_callB (cr_sortedSet hc) hg hm PyProof.Rows.boot_sorted (pa_cons (pe_callTy (cr_setL hc) hg2 hm2 PyProof.Rows.boot_set (pa_cons ha pa_nil na) (by decide) (by decide) na) pa_nil na2) (by decide) (by decide) na2) fun σ H Q ⟨ρ, G, I, h⟩ => ?_
  refine rd_of I (rdK_mono (rdK_bnd h) fun v H1 ⟨d1, ρ1, G1, s1, I1, r1, h1⟩ => ?_)
  obtain ⟨d, e, q⟩ := rdK_ofO h1 I1
  dsimp only at e
  split at e
  · rename_i ds
    unfold sortSetX at e
    dsimp only at e
    cases ha : asInts ds with
    | none => rw [ha] at e; cases e
    | some ns =>
      rw [ha] at e
      dsimp only at e
      by_cases z : ns.length < 64
      · rw [if_pos z] at e
        cases e
        simp only [Rep] at r1
        obtain ⟨a, vs, rfl, h2, q2⟩ := r1
        rw [asInts_eq ha] at q2
        rw [q2.ints] at h2
        refine ⟨a, ns, rfl, SqL.of (I1.sub _ _ h2), z, fun p c hp hcn => ?_⟩
        refine ⟨p, _, c, rfl, upd_same, by omega, fun out p2 hs hm hl hn => ?_⟩
        have eo : out = isort leI (dedup ns) := set_sorted hs fun k => by rw [hm k, decide_eq_true_eq]
        subst eo
        have n2 : H1 p2 = none := by
          by_cases y : p2 = p
          · subst y; exact hp
          · rw [upd_ne y] at hn; exact hn
        have n3 : p2 ≠ p := fun y => by subst y; rw [upd_same] at hn; cases hn
        refine q _ _ (upd G1 p2 (.lst ((isort leI (dedup ns)).map V.int))) ⟨same_upd (I1.sub.free n2), fun a ha => upd_ne fun y => ha (by rw [y]; exact n2), fun a o y _ => ?_, fun a ps y => ⟨ps, ?_, id, fun _ _ t => t.ext fun b o y => by rw [upd_ne (ne_of_none y n2), upd_ne (ne_of_none y hp)]; exact y⟩, fun a o y => ?_⟩ (Rep.lst_new (I1.sub.free n2) (Reps.of_ints _))
        · rw [upd_ne (ne_of_none y n2), upd_ne (ne_of_none y hp)]; exact y
        · rw [upd_ne (ne_of_none y n2), upd_ne (ne_of_none y hp)]; exact y
        · by_cases w1 : a = p2
          · subst w1; rw [upd_same] at y ⊢; exact y
          · rw [upd_ne w1] at y ⊢
            have y2 := I1.sub a o y
            rw [upd_ne (ne_of_none y2 hp)]; exact y2
      · rw [if_neg z] at e; cases e
  · cases e
theorem pe_or {X : Cx} {e : Expr} {ta tb : TE} (ha : PE X e ta) (hb : PE X e tb) : PE X e (fun σ H Q => ta σ H Q ∨ tb σ H Q) := ⟨fun pins s σ H Q I h => h.elim (ha.run pins s σ H Q I) (hb.run pins s σ H Q I)⟩
theorem de_sortSetX {a : Expr} {fa : FE} {p p2 pos pos2 : Pos} (ha : PE X a (rd X.K fa)) (hc : X.calm = true) (hg : Gl X "sorted") (hm : X.mg "sorted" = none) (hg2 : Gl X "set") (hm2 : X.mg "set" = none)
    (na : starEach [a] X.env = (false, eval a X.env) :: starEach [] X.env := by rfl) (na2 : starEach [.Call (.Name "set" p2) [a] [] pos2] X.env = (false, eval (.Call (.Name "set" p2) [a] [] pos2) X.env) :: starEach [] X.env := by rfl) :
    PE X (.Call (.Name "sorted" p) [.Call (.Name "set" p2) [a] [] pos2] [] pos) (rd X.K (e1 sortSetX fa)) := by
  refine pe_imp (pe_or (de_sortSetL ha hc hg hm hg2 hm2 na na2) (de_sortSet ha hc hg hm hg2 hm2 na na2)) fun σ H Q ⟨ρ, G, I, h⟩ => ?_
  cases e : fa ρ with
  | ex _ _ => left; refine ⟨ρ, G, I, ?_⟩; show rdK X.K _ σ ρ G H Q; unfold rdK; unfold e1 bnd at h ⊢; rw [e] at h ⊢; exact h
  | no => left; refine ⟨ρ, G, I, ?_⟩; show rdK X.K _ σ ρ G H Q; unfold rdK; unfold e1 bnd at h ⊢; rw [e] at h ⊢; exact h
  | ok p =>
    obtain ⟨d, ρ1⟩ := p
    cases d with
    | lst ds => left; refine ⟨ρ, G, I, ?_⟩; show rdK X.K _ σ ρ G H Q; unfold rdK; unfold e1 bnd at h ⊢; rw [e] at h ⊢; exact h
    | _ => right; refine ⟨ρ, G, I, ?_⟩; show rdK X.K _ σ ρ G H Q; unfold rdK; unfold e1 bnd at h ⊢; rw [e] at h ⊢; exact h
end
theorem runN_len {g : List (Option D) → Rho → Option ISt} {L np : Nat} {ds fs : List D} (h : runN g L np ds = some fs) : ds.length = np := by
  unfold runN at h
  by_cases z : ds.length = np
  · exact z
  · rw [if_neg z] at h; cases h
section
variable {P : Program} {w : World} {K : PySem.W.Frag} {mg : Str → Option Value} {base : Heap}
omit [Tabs] in
theorem FnP.mono {j k : Nat} {f : Addr} {sp : Sp} (F : FnP P w K mg base j f sp) (h : j ≤ k) : FnP P w K mg base k f sp := fun A below t H us xs Q E hr => F A below t H us xs Q E (hr.mono h)
end
end M

/-! x, y = a, b with names that are seen from within (a tuple is made); own lists besides -/
namespace M
open PySem PySem.Spec PyProof.Rows L2
variable [Tabs]
section
variable {X : Cx} {a b : Expr} {fa fb : FV}
theorem ds_parC (i j : Nat) {x y : Str} {px py pt pt2 pos : Pos} {kt k2 : Nat} (ha : PE X a (rdV X.K fa)) (hb : PE X b (rdV X.K fb)) (hc : X.calm = true) (hN : X.N.Nodup) (hi : X.N[i]? = some x := by rfl) (hj : X.N[j]? = some y := by rfl) (hij : i ≠ j := by decide)
    (hx : Loc X.env.scope x := by first | exact .inl rfl | exact .inr rfl) (hy : Loc X.env.scope y := by first | exact .inl rfl | exact .inr rfl) (hf : X.fn x = true ∨ X.env.scope.names.lookup x = some .local := by first | exact .inl rfl | exact .inr rfl | assumption) (hg : X.fn y = true ∨ X.env.scope.names.lookup y = some .local := by first | exact .inl rfl | exact .inr rfl | assumption)
    (na : starEach [a, b] X.env = (false, eval a X.env) :: starEach [b] X.env := by rfl) (nb : starEach [b] X.env = (false, eval b X.env) :: starEach [] X.env := by rfl)
    (hw : swappedStores [.Tuple [.Name x px, .Name y py] kt pt] (.Tuple [a, b] k2 pt2) X.env = pure none := by rfl)
    (hs : swapsWithSole [.Tuple [.Name x px, .Name y py] kt pt] (.Tuple [a, b] k2 pt2) pos.line X.env = pure false := by rfl)
    (h1 : (assignEach [.Tuple [.Name x px, .Name y py] kt pt] X.env).map (·.2) = [assign (.Tuple [.Name x px, .Name y py] kt pt) X.env] := by rfl) :
    PS X (.Assign [.Tuple [.Name x px, .Name y py] kt pt] (.Tuple [a, b] k2 pt2) pos) (rdS X.K (sParV i j fa fb)) := by
  refine ps_imp (ps_asg (pe_tup (pa_cons ha (pa_cons hb pa_nil nb) na)) (pg_tup hc (pgs_cons (pg_name hN hi hx hf) (pgs_cons (pg_name hN hj hy hg) pgs_nil))) hs hw h1) fun D σ H ⟨ρ, G, I, h⟩ => ?_
  unfold rdSK sParV at h
  refine ⟨ρ, G, I, ?_⟩
  cases q : fa ρ with
  | ex _ _ => rw [q] at h; exact h
  | no => rw [q] at h; exact h
  | ok p =>
    obtain ⟨s, ρ1⟩ := p
    rw [q] at h
    dsimp only [Rz.bind] at h
    intro v H1 G1 s1 I1 n1
    refine ⟨ρ1, G1, I1, ?_⟩
    cases q2 : fb ρ1 with
    | ex _ _ => rw [q2] at h; exact h
    | no => rw [q2] at h; exact h
    | ok p2 =>
      obtain ⟨t, ρ2⟩ := p2
      rw [q2] at h
      dsimp only at h
      intro u H2 G2 s2 I2 n2
      by_cases z : isIo ρ2 i = true ∨ isIo ρ2 j = true ∨ i = j
      · rw [if_pos z] at h; exact h.elim
      · rw [if_neg z] at h
        simp only [not_or] at z
        refine ⟨by show 2 ≤ sizeLine; rw [sizeLine_eq]; decide, fun p hp => ⟨p, [v, u], rfl, .inl (.inl upd_same), rfl, v, [u], rfl, u, [], rfl, rfl, ?_⟩⟩
        obtain ⟨I3, s3, _⟩ := I2.fresh (o := .tup [v, u]) hp
        have m1 := (n1.step s2).step s3
        have n2 := n2.step s3
        have z2 : isIo (ρ2.set i (some s)) j = false := by
          have := z.2.1
          unfold isIo at this ⊢
          rw [List.getElem?_set_ne z.2.2]
          simpa using this
        have m2 : NewV X.K (σ.set i (some v)) (ρ2.set i (some s)) H1 G2 (upd H2 p (.tup [v, u])) t u := m1.other n2 fun p io us hs e => by
          subst hs
          match io, n1 with
          | false, ⟨p', us', e', h0, h1, _⟩ => rw [e'] at e; cases e; rw [h1]; exact fun z => by cases z
          | true, n1 => exact n1.elim
        refine h _ _ G2 ?_ (NewV.set (NewV.set I3 m1) m2)
        exact (((s1.trans s2).trans s3).setV (by simpa using z.1) m1).setV z2 (m2.back fun p hp => dom_none s1 hp)
end
end M

/-! walking an instance whose __iter__ hands out iter(a slot's tuple) -/
namespace M
open PySem PySem.Spec PyProof.Rows L2
/-- at it: the iterator of the tuple at l, ahead of its first item -/
def ItTO (l it : Addr) : HO := .ext fun h => h.IsTupleIter it l 0
theorem itTO_ok {P : Program} {w : World} {H : Hp} {h : Heap} {l it : Addr} (e : h.IsTupleIter it l 0) : ObjOk P w H h it (ItTO l it) :=
  ⟨e, (by obtain ⟨o, z, _⟩ := e; exact ⟨o, z⟩), fun h1 h2 q k => q.at k⟩
def rIterT (K : PySem.W.Frag) (n : Nat) : List V → Hp → VK → Prop := fun xs H Q => ∃ (l : Addr) (zs : List V), xs = [.ref l] ∧ SqT K H l zs ∧ ∀ it, H it = none → n ≤ it → Q (.ref it) (upd H it (ItTO l it))
section
variable {X : Cx}
theorem call_iterT : CallR X (.builtin "iter") (rIterT X.K X.s_0.heap.objs.size) := by
  intro pins s σ H xs us Q I r h
  obtain ⟨l, zs, rfl, hq, q⟩ := h
  obtain ⟨u, rfl, ru⟩ := r.one
  cases (show u = Value.ref l from ru)
  obtain ⟨its, rv, pl, hz⟩ := I.tuple hq
  refine Calls.call_function_entry (by decide +kernel) (by decide +kernel) PySem.W.kdk_entry_iter (PySem.W.kdk_args_iter _) ?_
  unfold Builtin.«iter»
  refine wpAny_bind (m := someArgs "iter" 1 2 _) (wpAny_of_eq (a := [Value.ref l]) (by first | rfl | kernel_rfl!) ?_)
  show wpAny _ _ (pyIter (.ref l) >>= _) _ _ _
  refine wpAny_bind (wpAny_pyIter_tuple (show s.heap.IsTuple l its.toArray from pl) ?_)
  exact wpAny_pure ⟨_, rfl, .ref s.heap.objs.size, _, I.laid (t' := s.toks) (fun b u e => Heap.get?_push_of_some _ e) (Nat.le_refl _) (itTO_ok ⟨_, Heap.get?_push_size _ rfl, rfl, rfl⟩), rfl, q _ (I.hok.fresh (Nat.le_refl _)) I.sz⟩
/-- the first parameter's slot -/
def tSl0 (C : Addr) (i : Nat) : TE := fun σ H Q => ∃ a dx us v, σ[0]? = some (some (.ref a)) ∧ SlX.Slt H a C dx us ∧ us[i]? = some (some v) ∧ Q v H
theorem pe_sl0 {C : Addr} {i : Nat} {me f : Str} {px pos : Pos} (sc : SlX.SCls X.K C) (sl : ∃ p, SlX.Slot1 X.K C f p i) (hN : X.N[0]? = some me) (hv : Vis X.env.scope me) (hd : (me == ("__debug__" : Str)) = false := by decide) (hcd : (me == ("__classdict__" : Str)) = false := by decide)
    (hb : attributeBase (.Name me px) f X.env (eval (.Name me px) X.env) = eval (.Name me px) X.env := by rfl) : PE X (.Attribute (.Name me px) f pos) (tSl0 C i) := by
  obtain ⟨p, sl⟩ := sl
  refine ⟨fun pins s σ H Q I ⟨a, dx, us, v, h0, hs, hi, q⟩ => ?_⟩
  refine attr_of hb (thn ((pe_var hN hv hd hcd).run pins s σ H (fun x H1 => x = .ref a ∧ H1 = H) I ⟨_, h0, rfl, rfl⟩) fun u s1 ⟨x, H1, I1, rx, e1, e2⟩ => ?_)
  subst e1
  cases e2
  cases (show u = Value.ref a from rx)
  exact SlX.getslot_ok I1 hs sc sl hi fun u' s2 I2 ru => ⟨v, _, I2, ru, q⟩
/-- return iter(self.f) -/
def tIt (K : PySem.W.Frag) (C : Addr) (i n : Nat) : TS := fun D σ H => ∃ a dx us l xs, σ[0]? = some (some (.ref a)) ∧ SlX.Slt H a C dx us ∧ us[i]? = some (some (.ref l)) ∧ SqT K H l xs ∧ ∀ it, H it = none → n ≤ it → D.rt (.ref it) (upd H it (ItTO l it))
theorem ds_iter {C : Addr} {i : Nat} {me f : Str} {p px pa pos rp : Pos} (sc : SlX.SCls X.K C) (sl : ∃ p, SlX.Slot1 X.K C f p i) (hg : Gl X "iter") (hm : X.mg "iter" = none) (hN : X.N[0]? = some me := by rfl) (hv : Vis X.env.scope me := by first | exact .inl rfl | exact .inr rfl | decide) (hd : (me == ("__debug__" : Str)) = false := by decide) (hcd : (me == ("__classdict__" : Str)) = false := by decide)
    (hb : attributeBase (.Name me px) f X.env (eval (.Name me px) X.env) = eval (.Name me px) X.env := by rfl) (hst : starEach [.Attribute (.Name me px) f pa] X.env = (false, eval (.Attribute (.Name me px) f pa) X.env) :: starEach [] X.env := by rfl) :
    PSs X [.Return (some (.Call (.Name "iter" p) [.Attribute (.Name me px) f pa] [] pos)) rp] (tIt X.K C i X.s_0.heap.objs.size) := by
  refine ⟨fun pins s σ H D I ⟨a, dx, us, l, xs, h0, hs, hi, hq, q⟩ => ?_⟩
  refine (pss_one (ps_ret (pe_callB call_iterT hg hm PyProof.Rows.boot_iter (pa_cons (pe_sl0 (i := i) sc sl hN hv hd hcd hb) pa_nil hst) (by decide) (by decide) hst))).run pins s σ H D I ?_
  exact ⟨a, dx, us, .ref l, h0, hs, hi, l, xs, rfl, hq, q⟩
end
/-- what an __iter__ promises -/
def ItP (P : Program) (w : World) (K : PySem.W.Frag) (mg : Str → Option Value) (base : Heap) (k : Nat) (f C : Addr) (i : Nat) : Prop :=
  ∀ (A : Around) (below : List Env) (t : Shared) (H : Hp) (a dx : Addr) (us : List (Option V)) (l : Addr) (xs : List V) (Q : VK), Rm k A → Env0 P w K mg base A below t H → SlX.Slt H a C dx us → us[i]? = some (some (.ref l)) → SqT K H l xs →
    (∀ it, H it = none → t.heap.objs.size ≤ it → Q (.ref it) (upd H it (ItTO l it))) → codeAny (model P w) A (.call (.ref f) ⟨[.ref a], []⟩) (CR CX0 below P w H t Q E0) t
section
variable {P : Program} {w : World} {K : PySem.W.Frag} {mg : Str → Option Value} {base : Heap}
theorem itP_ok {x qual me : Str} {st : Stmt} {f C : Addr} {i : Nat} {fd : FuncData} {cdv : Value} {k : Nat} (F : FunC K x qual st f fd cdv) (S : FnScope [me] [me] (defScope st)) (hb : Binds K fd [me] [])
    (hbody : ∀ (A : Around) (outer : List Env) (s : Shared) (H : Hp), PSs (cxOf CX0 P w K mg base [me] qual (defScope st) f cdv A outer s H E0) (defBody st) (tIt K C i s.heap.objs.size)) : ItP P w K mg base (k + 1) f C i := by
  obtain ⟨oc, od, kV, doc, pm, an, ct, osl, rfl, lk, hcd⟩ := F.ex
  intro A below t H a dx us l xs Q rm env hs hi hq q
  have inB : ∀ b o, base.get? b = some o → t.heap.get? b = some o := fun b o q => (env.bs b o q).1
  have KT : K.In t.heap := env.mod.kin.keeps inB
  refine codeAny_call_function rm.r.depth (KT _ _ lk) rfl S.co S.gen rfl (PySem.W.codeRec_of KT hcd) (hb t [.ref a] KT rfl _ _ _ _ ?_)
  refine wpAny_newFunctionEnv_cells S.kind (fun y hy => ?_) fun e he t1 z => ?_
  · have hm := (List.of_mem_zip (show (y.1, y.2) ∈ [me].zip [Value.ref a] from hy)).1
    exact (S.par _ hm).elim .inl fun q => .inr ⟨q, PySem.W.cellsFrom_some _ _ _ (.inl q)⟩
  · subst he
    refine ⟨(env.mod.nolimit.keeps inB).keeps z.toInCall.keep, codeAny_func ?_⟩
    have J := inv_start (CX := CX0) (P := P) (w := w) (E := E0) S rm.r.hd env (vs := [.ref a]) rfl (.cons rfl .nil) z
    refine wpAny_mono ((hbody A below t H).run [] t1 _ H { nx := fun _ H' => False, rt := Q } J ⟨a, dx, us, l, xs, rfl, hs, hi, hq, q⟩) (fun fl t2 z2 => ?_) fun _ _ q => q
    match fl, z2 with
    | .ret u, ⟨v, _, H', J', rv, q⟩ => exact ⟨v, H', J'.os, J'.bare, J'.base, J'.hok, rv, q⟩
    | .next, ⟨_, _, _, q⟩ => exact q.elim
    | .brk, ⟨_, _, _, q⟩ => exact q.elim
    | .cont, ⟨_, _, _, q⟩ => exact q.elim
end
variable [Tabs]
/-- the table of the slots that are walked, class by class -/
def ItOk (P : Program) (w : World) (K : PySem.W.Frag) (mg : Str → Option Value) (base : Heap) (k : Nat) (tb : Str → Option Nat) : Prop := ∀ c i, tb c = some i → ∃ g, Meth K (He.ga K c) "__iter__" g ∧ ItP P w K mg base k g (He.ga K c) i
def iIns (tb : Str → Option Nat) (fa : FE) : FI := fun ρ => (fa ρ).bind fun p => match p.1 with
  | .ins c fs => (match tb c with | some i => (match fs[i]? with | some (.tup ds) => .ok (ds, p.2) | _ => .no) | none => .no)
  | .tup ds => .ok (ds, p.2)
  | .lst ds => .ok (ds, p.2)
  | _ => .no
section
variable {X : Cx}
theorem pi_ins {k j : Nat} {tb : Str → Option Nat} {tg e : Expr} {fa : FE} (ok : ItOk X.prog X.w X.K X.mg X.base k tb) (hr : Rm j X.A) (hk : k ≤ j) (he : PE X e (rd X.K fa)) :
    PI X tg e (fun σ H R => ∃ ρ G, SR X.K G H σ ρ ∧ rdK X.K fa σ ρ G H fun v H1 => ∃ a c dx us i l xs, v = .ref a ∧ tb c = some i ∧ SlX.Slt H1 a (He.ga X.K c) dx us ∧ us[i]? = some (some (.ref l)) ∧ SqT X.K H1 l xs ∧ R (Itt X.K l) H1) := by
  refine ⟨fun pins s σ H R I ⟨ρ, G, J, h⟩ => ?_⟩
  refine thn (he.run pins s σ H _ I ⟨ρ, G, J, h⟩) fun u s1 ⟨x, H1, I1, rx, a, c, dx, us, i, l, xs, ev, et, hs, hi, hq, q⟩ => ?_
  subst ev
  cases (show u = Value.ref a from rx)
  obtain ⟨g, hm, IP⟩ := ok c i et
  obtain ⟨sl, od, _, JI, _⟩ := SlX.slt_inst I1 hs
  obtain ⟨m, hF⟩ := I1.fr
  refine PySem.W.owit_iter hF I1.ok.mod.kin JI hm.at_ hm.fn (wpAny_call (codeAny_mono (IP X.A X.stack s1 H1 a dx us l xs (fun v H' => ∃ it, v = .ref it ∧ H' = upd H1 it (ItTO l it) ∧ H1 it = none ∧ s1.heap.objs.size ≤ it) (hr.mono hk) I1.env0 hs hi hq fun it h1 h2 => ⟨it, rfl, rfl, h1, h2⟩) fun r s2 z => ?_))
  match r, z with
  | .ok .next, z => exact z.elim
  | .ok .brk, z => exact z.elim
  | .ok .cont, z => exact z.elim
  | .error _, z => exact z.elim
  | .ok (.ret w), z =>
    obtain ⟨v, H2, I2, rv, it, ev, eH, hn, hl⟩ := I1.after z
    subst ev
    subst eH
    cases (show w = Value.ref it from rv)
    have st : s2.heap.IsTupleIter it l 0 := (I2.hok it _ upd_same).1
    have e0 : upd H1 it (ItTO l it) it = some (.ext fun h => h.IsTupleIter it l 0) := upd_same
    have hd : ItX.dropH (upd H1 it (ItTO l it)) it = H1 := ItX.dropH_upd hn
    have I3 := ItX.inv_drop I2 e0
    rw [hd] at I3
    show wpAny _ _ (specialOf (.ref it) "__next__") _ _ s2
    refine wpAny_specialOf (name := Str.ofString "__next__") st.typeIs slot_tupleiter_next.lookup ?_
    refine ⟨it, [it], _, Itt X.K l, H1, rfl, I3, turn_tuple l it, st, fun b hb => ?_, q⟩
    have e : b = it := by simpa using hb
    rw [e]
    have := ItX.inv_fp I2 e0 (Nat.le_trans I1.sz hl)
    rw [hd] at this
    exact this
theorem di_ins {k j : Nat} {tb : Str → Option Nat} {tg e : Expr} {fa : FE} (ok : ItOk X.prog X.w X.K X.mg X.base k tb) (hr : Rm j X.A) (hk : k ≤ j) (he : PE X e (rd X.K fa)) : PI X tg e (rdI X.K (iIns tb fa)) := by
  refine pi_imp (pi_or (pi_ins ok hr hk he) (di_seq he)) fun σ H R ⟨ρ, G, I, h⟩ => ?_
  unfold rdIK iIns at h
  cases e : fa ρ with
  | ex _ _ => rw [e] at h; exact h.elim
  | no => rw [e] at h; exact h.elim
  | ok p =>
    obtain ⟨d, ρ1⟩ := p
    rw [e] at h
    dsimp only [Rz.bind] at h
    cases d with
    | tup ds => right; refine ⟨ρ, G, I, ?_⟩; unfold rdIK iSeq; rw [e]; exact h
    | lst ds => right; refine ⟨ρ, G, I, ?_⟩; unfold rdIK iSeq; rw [e]; exact h
    | ins c fs =>
      left
      refine ⟨ρ, G, I, ?_⟩
      dsimp only at h
      cases z : tb c with
      | none => rw [z] at h; exact h.elim
      | some i =>
        rw [z] at h
        dsimp only at h
        cases y : fs[i]? with
        | none => rw [y] at h; exact h.elim
        | some d =>
          rw [y] at h
          cases d with
          | tup ds =>
            dsimp only at h
            unfold rdK
            rw [e]
            intro v H1 G1 s1 I1 r1
            obtain ⟨a, dx, vs, rfl, hsl, rf⟩ := Rep.slt I1.sub r1
            obtain ⟨w, hw, rw'⟩ := rf.get y
            simp only [Rep] at rw'
            obtain ⟨l, xs, rfl, h1, q1⟩ := rw'
            exact ⟨a, c, dx, vs.map some, i, l, xs, rfl, z, hsl, by rw [List.getElem?_map, hw]; rfl, SqT.mono I1.sub h1, h _ H1 G1 s1 I1 (itD_tup h1 q1)⟩
          | _ => exact h.elim
    | _ => exact h.elim
end
end M

/-! == and != of instances by their own __eq__; == of tuples of such -/
namespace EqH
open PySem PySem.SeqAt PySem.Builtin
open AutoSeq1 (wpAny_loadPart')
section
variable {prog : Program} {w : World} {A : Around} {R : Result → Shared → Prop}
theorem all_stop {m i : Nat} {e : Nat → Bool} (hi : i < m) (h : e i = false) : (List.range m).all e = false := by
  rw [Bool.eq_false_iff]
  intro z
  have := List.all_eq_true.mp z i (List.mem_range.mpr hi)
  rw [h] at this; cases this
/-- two tuples, where looking may make objects -/
theorem tuple_eqH (l b : Addr) (items items2 : Array Value) (n n2 : Nat) (dd dd2 : Option Addr) (sl sl2 : Array (Option Value)) (e : Nat → Bool) (I : Nat → Shared → Prop)
    (turn : ∀ i (h1 : i < items.size) (h2 : i < items2.size) s, I i s → wpAny (model prog w) A.in1 (eqBool items[i] items2[i]) (fun r s' => r = e i ∧ I (i + 1) s') (fun e s' => R (.error e) s') s)
    (fin : ∀ i s, I i s → R (.ok (.ret (.bool ((List.range (min items.size items2.size)).all e && items.size == items2.size)))) s) {s : Shared} (hl1 : s.heap.get? l = some { cls := .type "tuple", dict := dd, data := .seq items n, slots := sl }) (hb1 : s.heap.get? b = some { cls := .type "tuple", dict := dd2, data := .seq items2 n2, slots := sl2 }) (h : I 0 s) :
    wpAny (model prog w) A.in1 (Builtin.«tuple.__eq__» ⟨[.ref l, .ref b], []⟩) (GQ.FinOf prog w A R) (fun e s' => R (.error e) s') s := by
  have f2 := AutoSeq1.sub_tuple_tuple
  have hZ : (items.toList.zip items2.toList).length = min items.size items2.size := by simp
  have h0 := h
  obtain ⟨hp, g, d, tk, os⟩ := s
  wp_walk using wpAny_loadPart' hl1, wpAny_loadPart' hb1, wpAny_forIn_list _ (fun rest b s' => b.1 = none ∧ ∃ i, rest = (items.toList.zip items2.toList).drop i ∧ i ≤ min items.size items2.size ∧ I i s' ∧ ∀ j, j < i → e j = true) _
  case turn =>
    rintro ⟨y, x⟩ rest b s' ⟨hb', i, hz, hi, hI, hj⟩
    have hlt : i < (items.toList.zip items2.toList).length := by
      rcases Nat.lt_or_ge i (items.toList.zip items2.toList).length with h' | h'
      · exact h'
      · rw [List.drop_of_length_le h'] at hz; cases hz
    have hm : i < min items.size items2.size := hZ ▸ hlt
    have h1 : i < items.size := Nat.lt_of_lt_of_le hm (Nat.min_le_left _ _)
    have h2 : i < items2.size := Nat.lt_of_lt_of_le hm (Nat.min_le_right _ _)
    rw [List.drop_eq_getElem_cons hlt] at hz
    injection hz with hyx hrest
    have hy : y = items[i] := by have := congrArg Prod.fst hyx; simpa using this
    have hx : x = items2[i] := by have := congrArg Prod.snd hyx; simpa using this
    subst hy hx
    refine wpAny_bind (wpAny_mono (turn i h1 h2 s' hI) (fun r s2 q2 => ?_) fun _ _ x => x)
    obtain ⟨hr, q2⟩ := q2
    cases hy : e i with
    | true =>
      rw [hy] at hr; subst hr
      wp_walk
      exact ⟨rfl, i + 1, hrest, hm, q2, fun j z => by
        rcases Nat.lt_succ_iff_lt_or_eq.mp z with z | z
        · exact hj j z
        · rw [z]; exact hy⟩
    | false =>
      rw [hy] at hr; subst hr
      have f := fin (i + 1) s2 q2
      rw [all_stop hm hy] at f
      wp_walk
      simpa using f
  case fin =>
    rintro ⟨b1, b2⟩ s' ⟨hb', i, hz, hi, hI, hj⟩
    simp only at hb'
    subst hb'
    have hge : min items.size items2.size ≤ i := by
      rcases Nat.lt_or_ge i (items.toList.zip items2.toList).length with h' | h'
      · rw [List.drop_eq_getElem_cons h'] at hz; cases hz
      · exact hZ ▸ h'
    have f := fin i s' hI
    have ha : (List.range (min items.size items2.size)).all e = true := List.all_eq_true.mpr fun j z => hj j (Nat.lt_of_lt_of_le (List.mem_range.mp z) hge)
    rw [ha] at f
    wp_walk
    simpa [Builtin.Tuple.tupleCompareSizes] using f
  case h =>
    exact ⟨rfl, 0, rfl, Nat.zero_le _, h0, fun j z => absurd z (Nat.not_lt_zero _)⟩
theorem rc_tupH {E : Value → Shared → Prop} {s : Shared} {l b : Addr} {items items2 : Array Value} {Q : Value → Shared → Prop} (hu : A.units < cLine) (e : Nat → Bool) (I : Nat → Shared → Prop) (hl : s.heap.IsTuple l items) (hb : s.heap.IsTuple b items2)
    (turn : ∀ i (h1 : i < items.size) (h2 : i < items2.size) s, I i s → wpAny (model prog w) A.in1 (eqBool items[i] items2[i]) (fun r s' => r = e i ∧ I (i + 1) s') E s)
    (fin : ∀ i s, I i s → Q (.bool ((List.range (min items.size items2.size)).all e && items.size == items2.size)) s) (h : I 0 s) : wpAny (model prog w) A (richCompare .Eq (.ref l) (.ref b)) Q E s := by
  obtain ⟨⟨cls, dd, data, sl⟩, ho, hc, n, hd⟩ := id hl
  obtain ⟨⟨cls2, dd2, data2, sl2⟩, ho2, hc2, n2, hd2⟩ := id hb
  simp only at hc hd hc2 hd2
  subst hc hd hc2 hd2
  refine wpAny_richCompare_same_room (op := .Eq) ⟨_, ho, rfl⟩ ⟨_, ho2, rfl⟩ F.slot_tuple_eq (GQ.call_here F.slot_tuple_eq ⟨_, ho, rfl⟩ F.entry_tuple_eq (F.args_tuple_eq_2 _ _) ?_) hu
  exact tuple_eqH (R := wants (fun v s' => v ≠ .notImplemented ∧ Q v s') E) l b items items2 n n2 dd dd2 sl sl2 e I turn (fun i s' q => ⟨(fun x => nomatch x), fin i s' q⟩) ho ho2 h
end
section
variable {prog : Program} {w : World} {A : Around} {E : Value → Shared → Prop} {s : Shared} {K : PySem.W.Frag} {x C f L : Addr} {b : Value} {h₀ : Heap} {m : Str → Option Value} {ox : Obj} {od : Option Obj}
/-- x != y, x an instance with its own == and the default != -/
theorem ne_K {Q : Value → Shared → Prop} (hu : A.units + 1 < cLine) (X : K.In s.heap) (I : PySem.W.InstAt s.heap x ox C od) (hb : PySem.W.Looks (model prog w) s.heap (typeOf b) (.ref C)) (hm : PySem.W.mroIn K C (.type "object") = some true)
    (hn : PySem.W.findIn K (.ref C) "__ne__" = some (some (.builtin "object.__ne__"))) (hs : PySem.W.findIn K (.ref C) "__eq__" = some (some (.ref f))) (hf : PySem.W.isFn K (.ref f) = true)
    (h : wpAny (model prog w) A.in1 (call (.ref f) [.ref x, b]) (fun v s' => ∃ c, v = .bool c ∧ Q (.bool (!c)) s') E s) : wpAny (model prog w) A (richCompare .NotEq (.ref x) b) Q E s := by
  have one : wpAny (model prog w) A (tryCompare (.ref x) "__ne__" b) (fun r s' => ∃ v, r = some v ∧ Q v s') E s := by
    unfold tryCompare
    refine wpAny_bind ?_
    simp only [callSpecialIfBound?, bindSpecialIfBound?]
    refine wpAny_holding (wpAny_bind (wpAny_bind (wpAny_bind (I.type.here ((PySem.W.looks_findIn X hn).here ?_)))))
    simp only [F.cmp_object.ne.bind]
    refine wpAny_bind (wpAny_askSetting (wpAny_ite ?_))
    have fin : wpAny (model prog w) A (call (.builtin "object.__ne__") ([.ref x] ++ [b]) >>= fun v => pure (some v)) (fun r s' => wpAny (model prog w) A (match r with
        | some .notImplemented | none => pure none
        | some v => pure (some v)) (fun r s' => ∃ v, r = some v ∧ Q v s') E s') E s := by
      refine wpAny_bind (wpAny_call (codeAny_call_builtin F.cmp_object.ne.plain F.cmpEntry_ne (PySem.W.check_slot (i := "object.__ne__") (owner := "object") (n := "__ne__") F.cmpKind_ne F.cmpSplit_ne (I.type.andThen (PySem.W.looks_mroIn X hm)) (F.cmpArgs_ne _ _) ?_)))
      unfold Builtin.«object.__ne__»
      refine wpAny_bind (m := slotArgs "__ne__" 1 _) (wpAny_pure ?_)
      refine wpAny_bind (m := cRoomFor _ _) (wpAny_cRoomFor (by show A.units + 1 < cLine; exact hu) ?_)
      refine wpAny_bind (m := callSpecialIfBound? (.ref x) (Str.ofString "__eq__") _) (PySem.W.ifBound_K X I hs hf (wpAny_mono h (fun v s' hq => ?_) fun _ _ y => y))
      obtain ⟨c, rfl, hq⟩ := hq
      dsimp only
      refine wpAny_bind (wpAny_truthy_bool ?_)
      refine wpAny_pure ?_
      exact wpAny_pure (wpAny_pure ⟨_, rfl, hq⟩)
    split
    · exact wpAny_bind (wpAny_pure (wpAny_pure fin))
    · exact wpAny_tryCatch (wpAny_bind (wpAny_pure (wpAny_pure fin)))
  unfold richCompare
  simp only [oneThing_ref]
  refine wpAny_holding (wpAny_bind (wpAny_cRoomFor (by omega) ?_))
  refine wpAny_bind (I.type.here (wpAny_bind (hb.here ?_)))
  rw [show (Value.ref C != Value.ref C) = false from by simp]
  simp only [Bool.false_eq_true, if_false]
  refine wpAny_bind (wpAny_pure ?_)
  simp only [Bool.false_eq_true, if_false]
  refine wpAny_bind (wpAny_mono one (fun r s' z => ?_) fun _ _ y => y)
  obtain ⟨v, rfl, hq⟩ := z
  exact wpAny_pure hq
end
end EqH

/-! == and != of instances as data -/
namespace M
open PySem PySem.Spec PyProof.Rows L2 PySem.SeqAt
variable [Tabs]
/-- the defs of __eq__, class by class -/
structure EqOk1 (P : Program) (w : World) (K : PySem.W.Frag) (mg : Str → Option Value) (base : Heap) (k : Nat) (c : Str) (F : FD) : Prop where
  me : ∃ g, Meth K (He.ga K c) "__eq__" g ∧ FnP P w K mg base k g (spI K 2 F)
  len : ∀ n as s as', F n as = some (s, as') → as.length = 2
  ne : PySem.W.findIn K (.ref (He.ga K c)) "__ne__" = some (some (.builtin "object.__ne__"))
  ob : PySem.W.mroIn K (He.ga K c) (.type "object") = some true
def EqOk (P : Program) (w : World) (K : PySem.W.Frag) (mg : Str → Option Value) (base : Heap) (k : Nat) (tq : Str → Option FD) : Prop := ∀ c F, tq c = some F → EqOk1 P w K mg base k c F
/-- x == y by the own __eq__ -/
def insEq (tq : Str → Option FD) (n : Nat) : D → D → Option Bool
  | .ins c fs, .ins c' gs => if c = c' then (match tq c with
    | some F => (match F n [.dat (.ins c fs), .dat (.ins c gs)] with | some (.dat (.bl b), _) => some b | _ => none)
    | none => none) else none
  | _, _ => none
/-- .. within a tuple: the same object is equal to itself -/
def elEq (tq : Str → Option FD) (n : Nat) (d e : D) : Option Bool := match insEq tq n d e with
  | some true => some true
  | some false => (match d, e with | .ins _ fs, .ins _ gs => (match dqs fs gs with | some false => some false | _ => none) | _, _ => none)
  | none => none
def elsEq (tq : Str → Option FD) (n : Nat) : List D → List D → Option Bool
  | x :: xs, y :: ys => (match elEq tq n x y, elsEq tq n xs ys with | some a, some b => some (a && b) | _, _ => none)
  | _, _ => some true
def eqI (tq : Str → Option FD) (n : Nat) : D → D → Option Bool
  | .tup xs, .tup ys => (elsEq tq n xs ys).map fun b => b && xs.length == ys.length
  | d, e => insEq tq n d e
theorem elsEq_get {tq : Str → Option FD} {n : Nat} : ∀ {xs ys : List D} {b : Bool}, elsEq tq n xs ys = some b → ∀ (j : Nat) (x y : D), xs[j]? = some x → ys[j]? = some y → ∃ c, elEq tq n x y = some c
  | [], _, _, _, j, x, y, h1, _ => by simp at h1
  | _ :: _, [], _, _, j, x, y, _, h2 => by simp at h2
  | x :: xs, y :: ys, b, h, j, x', y', h1, h2 => by
    unfold elsEq at h
    cases a : elEq tq n x y with
    | none => rw [a] at h; cases h
    | some c =>
      cases a2 : elsEq tq n xs ys with
      | none => rw [a, a2] at h; cases h
      | some c2 =>
        cases j with
        | zero =>
          rw [List.getElem?_cons_zero] at h1 h2
          cases h1; cases h2; exact ⟨c, a⟩
        | succ j => exact elsEq_get a2 j x' y' (by simpa using h1) (by simpa using h2)
def pel (tq : Str → Option FD) (n : Nat) (xs ys : List D) (j : Nat) : Bool := match xs[j]?, ys[j]? with | some x, some y => (elEq tq n x y).getD false | _, _ => false
theorem elsEq_all {tq : Str → Option FD} {n : Nat} : ∀ {xs ys : List D} {b : Bool}, elsEq tq n xs ys = some b → (List.range (min xs.length ys.length)).all (pel tq n xs ys) = b
  | [], ys, b, h => by simp only [elsEq] at h; cases h; simp
  | x :: xs, [], b, h => by simp only [elsEq] at h; cases h; simp
  | x :: xs, y :: ys, b, h => by
    simp only [elsEq] at h
    cases z : elEq tq n x y with
    | none => rw [z] at h; cases h
    | some c =>
      cases z2 : elsEq tq n xs ys with
      | none => rw [z, z2] at h; cases h
      | some c2 =>
        rw [z, z2] at h; cases h
        have ih := elsEq_all z2
        have hm : min (x :: xs).length (y :: ys).length = min xs.length ys.length + 1 := by simp only [List.length_cons]; omega
        rw [hm, List.range_succ_eq_map, List.all_cons, List.all_map]
        have h0 : pel tq n (x :: xs) (y :: ys) 0 = c := by simp [pel, z]
        have hs : (pel tq n (x :: xs) (y :: ys) ∘ Nat.succ) = pel tq n xs ys := by funext j; simp [pel]
        rw [h0, hs, ih]
theorem backO_dd {d e : D} {as' : Args} {ρ : Rho} : backO [.d d, .d e] as' ρ = ρ := by
  apply List.ext_getElem?
  intro i
  unfold backO
  rw [List.getElem?_mapIdx]
  cases ρ[i]? with
  | none => rfl
  | some s =>
    cases s with
    | none => rfl
    | some s => cases s <;> rfl
section
variable {X : Cx} {pins : List (Addr × Obj)} {σ σ0 : L2.St} {ρ : Rho} {tq : Str → Option FD} {k n : Nat}
/-- what is kept: a step, nothing of one's own -/
def LpI (X : Cx) (pins : List (Addr × Obj)) (σ σ0 : L2.St) (ρ : Rho) (G H : Hp) (s : Shared) : Prop := ∃ H' G', Stp σ0 ρ G H σ0 ρ G' H' ∧ SR X.K G' H' σ0 ρ ∧ Inv X pins σ H' s
theorem LpI.refl {G H : Hp} {s : Shared} (J : SR X.K G H σ0 ρ) (I : Inv X pins σ H s) : LpI X pins σ σ0 ρ G H s := ⟨H, G, Stp.refl _ _ _ _, J, I⟩
/-- the slots at one address are what they are -/
theorem slt_vals {s : Shared} {H : Hp} (I : Inv X pins σ H s) {a C C' dx dx' : Addr} {vs ws : List V} (h1 : SlX.Slt H a C dx (vs.map some)) (h2 : SlX.Slt H a C' dx' (ws.map some)) : ∀ (i : Nat) (x y : V), vs[i]? = some x → ws[i]? = some y → x = y := by
  intro i x y e1 e2
  obtain ⟨_, sl, _, g1, r1, _⟩ := SlX.slt_at I h1
  obtain ⟨_, sl', _, g2, r2, _⟩ := SlX.slt_at I h2
  rw [g1] at g2
  have es : sl = sl' := congrArg Obj.slots (Option.some.inj g2)
  subst es
  obtain ⟨u, q1, rx⟩ := r1 i x (by rw [List.getElem?_map, e1]; rfl)
  obtain ⟨u', q2, ry⟩ := r2 i y (by rw [List.getElem?_map, e2]; rfl)
  rw [q1] at q2
  cases q2
  exact rx.inj ry
theorem dqs_sameV {s : Shared} {H : Hp} (I : Inv X pins σ H s) : ∀ (ds es : List D) (vs ws : List V) (b : Bool), Reps X.K H ds vs → Reps X.K H es ws → (∀ (i : Nat) (x y : V), vs[i]? = some x → ws[i]? = some y → x = y) → dqs ds es = some b → b = true
  | [], _, _, _, b, _, _, _, h => by simp only [dqs] at h; cases h; rfl
  | x :: xs, [], _, _, b, _, _, _, h => by simp only [dqs] at h; cases h; rfl
  | x :: xs, y :: ys, vs, ws, b, r, q, hv, h => by
    simp only [Reps] at r q
    obtain ⟨v, vs', rfl, r1, r2⟩ := r
    obtain ⟨w, ws', rfl, q1, q2⟩ := q
    have e := hv 0 v w rfl rfl
    subst e
    simp only [dqs] at h
    cases z : dq x y with
    | none => rw [z] at h; cases h
    | some c =>
      rw [z] at h
      dsimp only at h
      cases z2 : dqs xs ys with
      | none => rw [z2] at h; cases h
      | some c2 =>
        rw [z2] at h; cases h
        rw [dq_same I x y v c r1 q1 z, dqs_sameV I xs ys vs' ws' c2 r2 q2 (fun i => hv (i + 1)) z2]; rfl
/-- the own __eq__ is run -/
theorem ins_call (ok : EqOk X.prog X.w X.K X.mg X.base k tq) {A : Around} (hr : Rm k A) (fr : A.frames = X.A.frames) {s : Shared} {G H : Hp} (I : Inv X pins σ H s) (J : SR X.K G H σ0 ρ) {d e : D} {v w : V} {u u' : Value} {b : Bool} (r : Rep X.K G d v) (q : Rep X.K G e w) (ru : RelV v u) (rq : RelV w u') (h : insEq tq n d e = some b) :
    ∃ c a dx vs a' dx' vs' g, v = .ref a ∧ w = .ref a' ∧ SlX.Slt H a (He.ga X.K c) dx vs ∧ SlX.Slt H a' (He.ga X.K c) dx' vs' ∧ (∃ F, tq c = some F) ∧ Meth X.K (He.ga X.K c) "__eq__" g ∧ wpAny (model X.prog X.w) A (call (.ref g) [.ref a, .ref a']) (fun v s' => v = .bool b ∧ LpI X pins σ σ0 ρ G H s') X.xe s := by
  unfold insEq at h
  split at h
  · rename_i c fs c' gs
    split at h
    · rename_i hcc
      subst hcc
      cases z : tq c with
      | none => rw [z] at h; cases h
      | some F =>
        rw [z] at h
        dsimp only at h
        obtain ⟨a, dx, vs, rfl, hs, _⟩ := Rep.slt J.sub r
        obtain ⟨a', dx', vs', rfl, hs', _⟩ := Rep.slt J.sub q
        have ok1 := ok c F z
        obtain ⟨g, hm, FP⟩ := ok1.me
        refine ⟨c, a, dx, _, a', dx', _, g, rfl, rfl, hs, hs', ⟨F, z⟩, hm, ?_⟩
        cases y : F n [.dat (.ins c fs), .dat (.ins c gs)] with
        | none => rw [y] at h; cases h
        | some p =>
          obtain ⟨sl, as'⟩ := p
          rw [y] at h
          cases sl with
          | own _ _ => cases h
          | dat d =>
            cases d with
            | bl b' =>
              cases h
              have hd : rdK X.K (callD F n [.d (.ins c fs), .d (.ins c gs)]) σ0 ρ G H (fun v H' => v = .bl b ∧ ∃ G', Stp σ0 ρ G H σ0 ρ G' H' ∧ SR X.K G' H' σ0 ρ) := by
                unfold rdK callD
                rw [if_pos (by rfl)]
                show (match (match F n [.dat (.ins c fs), .dat (.ins c gs)] with | some (.dat d, as') => Rz.ok (d, backO [.d (.ins c fs), .d (.ins c gs)] as' ρ) | _ => .no) with
                  | .ok (d, ρ') => _
                  | .ex _ _ => False
                  | .no => False)
                rw [y]
                dsimp only
                rw [backO_dd]
                intro v H' G' st J' rv
                simp only [Rep] at rv
                exact ⟨rv, G', st, J'⟩
              have hsp : spI X.K 2 F [.ref a, .ref a'] H (fun v H' => v = .bl b ∧ ∃ G', Stp σ0 ρ G H σ0 ρ G' H' ∧ SR X.K G' H' σ0 ρ) E0 :=
                sp_callD ok1.len (Stp.refl _ _ _ _) J (by simp only [ArR]; exact ⟨_, _, rfl, r, _, _, rfl, q, rfl⟩) hd
              have e0 : Env0 X.prog X.w X.K X.mg X.base A X.stack s H := by
                have e := I.env0
                exact ⟨by rw [fr]; exact e.frames, e.mod, e.bs, e.bsz, e.funs, e.frf, e.hok, e.bare⟩
              refine wpAny_call (codeAny_mono (run_P (us := [.ref a, .ref a']) (ws := [.ref a, .ref a']) FP hr e0 I (.cons rfl (.cons rfl .nil)) hsp) fun rr s2 z => ?_)
              match rr, z with
              | .ok .next, z => exact z.elim
              | .ok .brk, z => exact z.elim
              | .ok .cont, z => exact z.elim
              | .error _, z => exact z
              | .ok (.ret u), ⟨v, H', I', rv, e, G', st, J'⟩ =>
                subst e
                exact ⟨rv, H', G', st, J', I'⟩
            | _ => cases h
    · cases h
  · cases h
theorem ins_rc (ok : EqOk X.prog X.w X.K X.mg X.base k tq) {A : Around} (hr : Rm k A) (fr : A.frames = X.A.frames) {s : Shared} {G H : Hp} (I : Inv X pins σ H s) (J : SR X.K G H σ0 ρ) {d e : D} {v w : V} {u u' : Value} {b : Bool} (r : Rep X.K G d v) (q : Rep X.K G e w) (ru : RelV v u) (rq : RelV w u') (h : insEq tq n d e = some b) :
    wpAny (model X.prog X.w) A (richCompare .Eq u u') (fun v s' => v = .bool b ∧ LpI X pins σ σ0 ρ G H s') X.xe s := by
  obtain ⟨c, a, dx, vs, a', dx', vs', g, rfl, rfl, hs, hs', ⟨F, _⟩, hm, hc⟩ := ins_call ok hr fr I J r q ru rq h
  cases (show u = Value.ref a from ru)
  cases (show u' = Value.ref a' from rq)
  obtain ⟨sl, od, _, JI, _⟩ := SlX.slt_inst I hs
  obtain ⟨sl', od', _, JI', _⟩ := SlX.slt_inst I hs'
  obtain ⟨m, hF⟩ := I.fr
  refine PySem.W.cmp_K (op := .Eq) (tb := .ref (He.ga X.K c)) hr.r.units0 hF I.ok.mod.kin JI JI'.type (by simp [PySem.W.notFirst]) hm.at_ hm.fn (wpAny_mono hc (fun v s' hv => ?_) fun _ _ e => e)
  obtain ⟨rfl, hv⟩ := hv
  exact ⟨rfl, hv⟩
theorem ins_ne (ok : EqOk X.prog X.w X.K X.mg X.base k tq) {A : Around} (hr : Rm (k + 1) A) (fr : A.frames = X.A.frames) {s : Shared} {G H : Hp} (I : Inv X pins σ H s) (J : SR X.K G H σ0 ρ) {d e : D} {v w : V} {u u' : Value} {b : Bool} (r : Rep X.K G d v) (q : Rep X.K G e w) (ru : RelV v u) (rq : RelV w u') (h : insEq tq n d e = some b) :
    wpAny (model X.prog X.w) A (richCompare .NotEq u u') (fun v s' => v = .bool (!b) ∧ LpI X pins σ σ0 ρ G H s') X.xe s := by
  obtain ⟨c, a, dx, vs, a', dx', vs', g, rfl, rfl, hs, hs', ⟨F, hF'⟩, hm, hc⟩ := ins_call ok (A := A.in1) ⟨(show Room (k + 1) A from hr.r).in1, hr.g⟩ fr I J r q ru rq h
  cases (show u = Value.ref a from ru)
  cases (show u' = Value.ref a' from rq)
  obtain ⟨sl, od, _, JI, _⟩ := SlX.slt_inst I hs
  obtain ⟨sl', od', _, JI', _⟩ := SlX.slt_inst I hs'
  have ok1 := ok c F hF'
  refine EqH.ne_K (by have := hr.r.un; omega) I.kIn JI JI'.type ok1.ob ok1.ne hm.at_ hm.fn (wpAny_mono hc (fun v s' hv => ?_) fun _ _ e => e)
  obtain ⟨rfl, hv⟩ := hv
  exact ⟨b, rfl, rfl, hv⟩
theorem el_eq (ok : EqOk X.prog X.w X.K X.mg X.base k tq) {A : Around} (hr : Rm k A) (fr : A.frames = X.A.frames) {s : Shared} {G H : Hp} (I : Inv X pins σ H s) (J : SR X.K G H σ0 ρ) {d e : D} {v w : V} {u u' : Value} {b : Bool} (r : Rep X.K G d v) (q : Rep X.K G e w) (ru : RelV v u) (rq : RelV w u') (h : elEq tq n d e = some b) :
    wpAny (model X.prog X.w) A (eqBool u u') (fun c s' => c = b ∧ LpI X pins σ σ0 ρ G H s') X.xe s := by
  have hi : insEq tq n d e = some b := by
    unfold elEq at h
    cases z : insEq tq n d e with
    | none => rw [z] at h; cases h
    | some c =>
      rw [z] at h
      cases c with
      | true => exact h
      | false =>
        dsimp only at h
        split at h
        · split at h
          · exact h
          · cases h
        · cases h
  obtain ⟨c, a, dx, vs, a', dx', vs', g, rfl, rfl, _⟩ := ins_call ok hr fr I J r q ru rq hi
  have rcc := ins_rc ok hr fr I J r q ru rq hi
  cases (show u = Value.ref a from ru)
  cases (show u' = Value.ref a' from rq)
  by_cases ne : a = a'
  · subst ne
    have hb : b = true := by
      cases b with
      | true => rfl
      | false =>
        exfalso
        unfold elEq at h
        rw [hi] at h
        dsimp only at h
        split at h
        · rename_i c1 fs c2 gs
          split at h
          · rename_i hq
            have hq2 := hi
            unfold insEq at hq2
            dsimp only at hq2
            split at hq2
            · rename_i hcc
              subst hcc
              obtain ⟨b1, dx1, vs1, e1, hs1, rf⟩ := Rep.slt J.sub r
              obtain ⟨b2, dx2, vs2, e2, hs2, rg⟩ := Rep.slt J.sub q
              cases e1; cases e2
              have := dqs_sameV I fs gs vs1 vs2 false (Reps.mono J.sub _ _ rf) (Reps.mono J.sub _ _ rg) (slt_vals I hs1 hs2) hq
              cases this
            · cases hq2
          · cases h
        · cases h
    subst hb
    exact EqAt.same (A := A) (s := s) (.ref a) X.prog X.w X.xe _ ⟨rfl, LpI.refl J I⟩
  · refine GQ.eqBool_refG ne (wpAny_mono rcc (fun v s' z => ?_) fun _ _ x => x)
    obtain ⟨rfl, z⟩ := z
    exact ⟨b, rfl, rfl, z⟩
/-- == of two tuples of instances, of two instances -/
theorem eqI_rc (ok : EqOk X.prog X.w X.K X.mg X.base k tq) {A : Around} (hr : Rm (k + 1) A) (fr : A.frames = X.A.frames) {s : Shared} {G H : Hp} (I : Inv X pins σ H s) (J : SR X.K G H σ0 ρ) {d e : D} {v w : V} {u u' : Value} {b : Bool} (r : Rep X.K G d v) (q : Rep X.K G e w) (ru : RelV v u) (rq : RelV w u') (h : eqI tq n d e = some b) :
    wpAny (model X.prog X.w) A (richCompare .Eq u u') (fun v s' => v = .bool b ∧ LpI X pins σ σ0 ρ G H s') X.xe s := by
  unfold eqI at h
  split at h
  · rename_i xs ys
    cases z : elsEq tq n xs ys with
    | none => rw [z] at h; cases h
    | some c =>
      rw [z] at h; cases h
      simp only [Rep] at r q
      obtain ⟨a, vs, rfl, h1, r1⟩ := r
      obtain ⟨a', ws, rfl, h2, r2⟩ := q
      cases (show u = Value.ref a from ru)
      cases (show u' = Value.ref a' from rq)
      obtain ⟨its, rv, p, _⟩ := I.tuple (SqT.mono J.sub h1)
      obtain ⟨its2, rv2, p2, _⟩ := I.tuple (SqT.mono J.sub h2)
      have l1 : xs.length = its.length := by rw [← r1.length]; exact rv.length
      have l2 : ys.length = its2.length := by rw [← r2.length]; exact rv2.length
      refine EqH.rc_tupH hr.r.units0 (pel tq n xs ys) (fun _ s' => LpI X pins σ σ0 ρ G H s') p p2 (fun i j1 j2 s' ⟨H', G', st, J', I'⟩ => ?_) (fun i s' q => ?_) (LpI.refl J I)
      · have k1 : i < xs.length := by rw [l1]; simpa using j1
        have k2 : i < ys.length := by rw [l2]; simpa using j2
        obtain ⟨x1, hx1, rx1⟩ := r1.get (List.getElem?_eq_getElem k1)
        obtain ⟨x2, hx2, rx2⟩ := r2.get (List.getElem?_eq_getElem k2)
        obtain ⟨u1, hu1, ru1⟩ := rv.get hx1
        obtain ⟨u2, hu2, ru2⟩ := rv2.get hx2
        have g1 : its[i]? = some its.toArray[i] := by
          have h1' : i < its.length := by simpa using j1
          rw [List.getElem?_eq_getElem h1'] <;> simp
        have g2 : its2[i]? = some its2.toArray[i] := by
          have h2' : i < its2.length := by simpa using j2
          rw [List.getElem?_eq_getElem h2'] <;> simp
        rw [g1] at hu1
        rw [g2] at hu2
        rw [Option.some.inj hu1, Option.some.inj hu2]
        obtain ⟨c1, hc1⟩ := elsEq_get z i _ _ (List.getElem?_eq_getElem k1) (List.getElem?_eq_getElem k2)
        have hp : pel tq n xs ys i = c1 := by unfold pel; rw [List.getElem?_eq_getElem k1, List.getElem?_eq_getElem k2]; simp only [hc1, Option.getD_some]
        rw [hp]
        refine wpAny_mono (el_eq ok (A := A.in1) ⟨(show Room (k + 1) A from hr.r).in1, hr.g⟩ fr I' J' (Rep.mono st.sub _ _ rx1) (Rep.mono st.sub _ _ rx2) ru1 ru2 hc1) (fun r s2 z => ?_) fun _ _ x => x
        obtain ⟨e1, H2, G2, st2, J2, I2⟩ := z
        exact ⟨e1, H2, G2, st.trans st2, J2, I2⟩
      · refine ⟨?_, q⟩
        simp only [List.size_toArray]
        rw [← l1, ← l2, elsEq_all z]
  · exact ins_rc ok ⟨hr.r.mono (Nat.le_succ _), hr.g⟩ fr I J r q ru rq h
def rEqI (K : PySem.W.Frag) (f : D → D → Option D) : R2 := fun x y H Q => ∃ σ ρ G d e b, SR K G H σ ρ ∧ Rep K G d x ∧ Rep K G e y ∧ f d e = some (.bl b) ∧ ∀ H' G', Stp σ ρ G H σ ρ G' H' → SR K G' H' σ ρ → Q (.bl b) H'
def eqID (tq : Str → Option FD) (n : Nat) (d e : D) : Option D := (eqI tq n d e).map D.bl
def neID (tq : Str → Option FD) (n : Nat) (d e : D) : Option D := (insEq tq n d e).map fun b => D.bl (!b)
theorem op_eqI (ok : EqOk X.prog X.w X.K X.mg X.base k tq) {j : Nat} (hr : Rm j X.A) (hk : k + 1 ≤ j) (n : Nat) : OpR X (compareOp .Eq) (rEqI X.K (eqID tq n)) := by
  intro pins s σ H x y v u Q I rx ry ⟨σ0, ρ, G, d, e, b, J, r, q, h, hq⟩
  unfold eqID at h
  cases z : eqI tq n d e with
  | none => rw [z] at h; cases h
  | some c =>
    rw [z] at h; cases h
    refine wpAny_mono (eqI_rc ok (A := X.A) (hr.mono hk) rfl I J r q rx ry z) (fun v s' y => ?_) fun _ _ x => x
    obtain ⟨rfl, H', G', st, J', I'⟩ := y
    exact ⟨.bl b, H', I', rfl, hq H' G' st J'⟩
theorem op_neI (ok : EqOk X.prog X.w X.K X.mg X.base k tq) {j : Nat} (hr : Rm j X.A) (hk : k + 1 ≤ j) (n : Nat) : OpR X (compareOp .NotEq) (rEqI X.K (neID tq n)) := by
  intro pins s σ H x y v u Q I rx ry ⟨σ0, ρ, G, d, e, b, J, r, q, h, hq⟩
  unfold neID at h
  cases z : insEq tq n d e with
  | none => rw [z] at h; cases h
  | some c =>
    rw [z] at h; cases h
    refine wpAny_mono (ins_ne ok (A := X.A) (hr.mono hk) rfl I J r q rx ry z) (fun v s' y => ?_) fun _ _ x => x
    obtain ⟨rfl, H', G', st, J', I'⟩ := y
    exact ⟨.bl (!c), H', I', rfl, hq H' G' st J'⟩
theorem rd_2I {fa fb : FE} {f : D → D → Option D} (hf : ∀ d e x, f d e = some x → ∃ b, x = .bl b) (σ : L2.St) (H : Hp) (Q : VK) (h : rd X.K (e2 f fa fb) σ H Q) : tOp (rEqI X.K f) (rd X.K fa) (rd X.K fb) σ H Q := by
  obtain ⟨ρ, G, I, h⟩ := h
  refine rd_of I (rdK_mono (rdK_bnd h) fun v H1 ⟨d1, ρ1, G1, s1, I1, r1, h1⟩ => ?_)
  refine rd_of I1 (rdK_mono (rdK_bnd h1) fun u H2 ⟨d2, ρ2, G2, s2, I2, r2, h2⟩ => ?_)
  unfold rdK at h2
  cases z : f d1 d2 with
  | none => unfold ofO at h2; rw [z] at h2; exact h2.elim
  | some x =>
    obtain ⟨b, rfl⟩ := hf _ _ _ z
    unfold ofO at h2
    rw [z] at h2
    simp only [frc_eq] at h2
    exact ⟨σ, ρ2, G2, d1, d2, b, I2, Rep.mono s2.sub _ _ r1, r2, z, fun H' G' st J' => h2 _ H' G' st J' (rep_bl _)⟩
theorem bl_eqID {n : Nat} {d e x : D} (h : eqID tq n d e = some x) : ∃ b, x = .bl b := by
  unfold eqID at h
  cases z : eqI tq n d e with
  | none => rw [z] at h; cases h
  | some c => rw [z] at h; cases h; exact ⟨c, rfl⟩
theorem bl_neID {n : Nat} {d e x : D} (h : neID tq n d e = some x) : ∃ b, x = .bl b := by
  unfold neID at h
  cases z : insEq tq n d e with
  | none => rw [z] at h; cases h
  | some c => rw [z] at h; cases h; exact ⟨_, rfl⟩
theorem de_eqI (n : Nat) {j : Nat} {a b : Expr} {fa fb : FE} {pos : Pos} (ok : EqOk X.prog X.w X.K X.mg X.base k tq) (hr : Rm j X.A) (hk : k + 1 ≤ j) (ha : PE X a (rd X.K fa)) (hb : PE X b (rd X.K fb)) (hm : behindInMarks .Eq b = false := by rfl) : PE X (.Compare a [.Eq] [b] pos) (rd X.K (e2 (eqID tq n) fa fb)) :=
  pe_imp (pe_cmpR (op_eqI ok hr hk n) ha hb hm) (rd_2I fun _ _ _ => bl_eqID)
theorem de_neI (n : Nat) {j : Nat} {a b : Expr} {fa fb : FE} {pos : Pos} (ok : EqOk X.prog X.w X.K X.mg X.base k tq) (hr : Rm j X.A) (hk : k + 1 ≤ j) (ha : PE X a (rd X.K fa)) (hb : PE X b (rd X.K fb)) (hm : behindInMarks .NotEq b = false := by rfl) : PE X (.Compare a [.NotEq] [b] pos) (rd X.K (e2 (neID tq n) fa fb)) :=
  pe_imp (pe_cmpR (op_neI ok hr hk n) ha hb hm) (rd_2I fun _ _ _ => bl_neID)
theorem dt_eqI (n : Nat) {j : Nat} {a b : Expr} {fa fb : FE} {pos : Pos} (ok : EqOk X.prog X.w X.K X.mg X.base k tq) (hr : Rm j X.A) (hk : k + 1 ≤ j) (ha : PE X a (rd X.K fa)) (hb : PE X b (rd X.K fb)) (hm : behindInMarks .Eq b = false := by rfl) : PT X (.Compare a [.Eq] [b] pos) (rdT X.K (M.tB (e2 (eqID tq n) fa fb))) :=
  pt_imp (pt_cmpR (op_eqI ok hr hk n) ha hb hm) fun σ H Q h => rd_2I (fun _ _ _ => bl_eqID) _ _ _ (rd_B _ _ _ h)
theorem dt_neI (n : Nat) {j : Nat} {a b : Expr} {fa fb : FE} {pos : Pos} (ok : EqOk X.prog X.w X.K X.mg X.base k tq) (hr : Rm j X.A) (hk : k + 1 ≤ j) (ha : PE X a (rd X.K fa)) (hb : PE X b (rd X.K fb)) (hm : behindInMarks .NotEq b = false := by rfl) : PT X (.Compare a [.NotEq] [b] pos) (rdT X.K (M.tB (e2 (neID tq n) fa fb))) :=
  pt_imp (pt_cmpR (op_neI ok hr hk n) ha hb hm) fun σ H Q h => rd_2I (fun _ _ _ => bl_neID) _ _ _ (rd_B _ _ _ h)
end
end M

namespace M
open PySem PySem.Spec PyProof.Rows L2
/-- the default !=; object above -/
def neB (K : PySem.W.Frag) (c : Str) : Bool := He.eqO (PySem.W.findIn K (.ref (He.ga K c)) "__ne__") (some (some (.builtin "object.__ne__"))) && decide (PySem.W.mroIn K (He.ga K c) (.type "object") = some true)
theorem ne_ok {K : PySem.W.Frag} {c : Str} (h : neB K c = true) : PySem.W.findIn K (.ref (He.ga K c)) "__ne__" = some (some (.builtin "object.__ne__")) ∧ PySem.W.mroIn K (He.ga K c) (.type "object") = some true := by
  unfold neB at h
  rw [Bool.and_eq_true] at h
  exact ⟨He.eqO_ok h.1, of_decide_eq_true h.2⟩
end M

/-! self.f = 1 if (len(self.g) - len(x)) % 2 == 0 else -1, while self is made -/
namespace M
open PySem PySem.Spec PyProof.Rows L2
variable [Tabs]
def parI (m k : Nat) : Int := if ((m : Int) - k) % 2 = 0 then 1 else -1
def nPar (i j k : Nat) : List (Option D) → Rho → Option ISt := fun vs ρ => match vs[j]?, ρ[k]? with
  | some (some (.tup xs)), some (some (.dat (.tup ys))) => some (putD i (.int (parI xs.length ys.length)) vs, ρ)
  | _, _ => none
section
variable {X : Cx} {c : Str}
theorem dsn_par {f g : Str} {p : Addr} {i j : Nat} (k : Nat) {sp apos p0 p1 p2 p3 p4 p5 p6 p7 p8 p9 q0 q1 q2 q3 pos : Pos} {k1 k2 k3 k4} (sc : SlX.SCls X.K (He.ga X.K c)) (s1 : SlX.Slot1 X.K (He.ga X.K c) f p i) (s2 : ∃ p, SlX.Slot1 X.K (He.ga X.K c) g p j) {x y : Str} (hN : X.N[0]? = some x) (hv : Vis X.env.scope x) (hd : (x == ("__debug__" : Str)) = false) (hcd : (x == ("__classdict__" : Str)) = false)
    (hg : Gl X "len") (hm : X.mg "len" = none) (hNk : X.N[k]? = some y := by rfl) (hvk : Vis X.env.scope y := by first | exact .inl rfl | exact .inr (.inl rfl) | exact .inr (.inr rfl)) (hdk : (y == ("__debug__" : Str)) = false := by decide) (hcdk : (y == ("__classdict__" : Str)) = false := by decide)
    (hb : attributeBase (.Name x p0) g X.env (eval (.Name x p0) X.env) = eval (.Name x p0) X.env := by rfl)
    (n1 : starEach [.Attribute (.Name x p0) g p1] X.env = (false, eval (.Attribute (.Name x p0) g p1) X.env) :: starEach [] X.env := by rfl) (n2 : starEach [.Name y p4] X.env = (false, eval (.Name y p4) X.env) :: starEach [] X.env := by rfl)
    (hmk : behindInMarks .Eq (.Constant (.int 0) k2 q0) = false := by rfl)
    {q4 q5 : Pos}
    (hs' : swapsWith (.IfExp (.Compare (.BinOp (.BinOp (.Call (.Name "len" p2) [.Attribute (.Name x p0) g p1] [] p3) .Sub (.Call (.Name "len" p5) [.Name y p4] [] p6) p7) .Mod (.Constant (.int 2) k1 p8) p9) [.Eq] [.Constant (.int 0) k2 q0] q1) (.Constant (.int 1) k3 q2) (.UnaryOp .USub (.Constant (.int 1) k4 q3) q4) q5) (some (.Attribute (.Name x sp) f apos)) pos.line X.env = pure false := by rfl) :
    PS X (.Assign [.Attribute (.Name x sp) f apos] (.IfExp (.Compare (.BinOp (.BinOp (.Call (.Name "len" p2) [.Attribute (.Name x p0) g p1] [] p3) .Sub (.Call (.Name "len" p5) [.Name y p4] [] p6) p7) .Mod (.Constant (.int 2) k1 p8) p9) [.Eq] [.Constant (.int 0) k2 q0] q1) (.Constant (.int 1) k3 q2) (.UnaryOp .USub (.Constant (.int 1) k4 q3) q4) q5) pos) (rdN X.K c (nPar i j k)) := by
  have e1 := pe_callB call_len_seq hg hm PySem.boot_len (pa_cons (pe_sl0 (pos := p1) (i := j) sc s2 hN hv hd hcd hb) pa_nil n1) (by decide) (by decide) n1 (p := p2) (pos := p3)
  have e2 := pe_callB call_len_seq hg hm PySem.boot_len (pa_cons (pe_var (i := k) (pos := p4) hNk hvk hdk hcdk) pa_nil n2) (by decide) (by decide) n2 (p := p5) (pos := p6)
  have e3 := pe_op (pos := p9) op_mod (pe_op (pos := p7) op_sub e1 e2) (pe_int (i := 2) (j := k1) (pos := p8))
  have t1 := pt_cmpR (pos := q1) op_eq e3 (pe_int (i := 0) (j := k2) (pos := q0)) hmk
  refine ps_imp (SlX.ps_sl (pe_var (i := 0) hN hv hd hcd) (pe_ifExp t1 (pe_int (i := 1)) (pe_un un_neg (pe_int (i := 1)))) hs') fun Dn σ H ⟨Hb, σ0, ρ0, G0, a, dx, us, vs, ρ, G, I, h⟩ => ?_
  cases y0 : nPar i j k vs ρ with
  | none => rw [y0] at h; exact h.elim
  | some pp =>
    rw [y0] at h
    unfold nPar at y0
    split at y0
    · rename_i xs ys h1 h2
      cases y0
      dsimp only at h
      obtain ⟨v0, hv0, r0⟩ := I.rp.get h1
      simp only [Rep] at r0
      obtain ⟨l, us1, rfl, g1, rr1⟩ := r0
      have hl : k < σ.length := by rw [← I.sr.len]; exact (List.getElem?_eq_some_iff.mp h2).1
      obtain ⟨v2, ev2, r2⟩ := I.sr.slot k _ _ h2 (List.getElem?_eq_getElem hl)
      simp only [Rep] at r2
      obtain ⟨l2, us2, rfl, g2, rr2⟩ := r2
      have fin : ∀ z : Int, z = parI xs.length ys.length → ∃ o, σ[0]? = some (some o) ∧ ∃ a C dx p vs i, o = .ref a ∧ SlX.Slt H a C dx vs ∧ SlX.SCls X.K C ∧ SlX.Slot1 X.K C f p i ∧ Dn.nx σ (SlX.slH H a C dx (SlX.putS i (.int z) vs)) := fun z hz => by
        subst hz
        exact ⟨.ref a, I.s0, a, _, dx, p, us, i, rfl, I.sl, sc, s1, h _ σ G _ (fun _ _ h => h) (I.put i (rep_int _))⟩
      refine ⟨a, dx, us, .ref l, I.s0, I.sl, hv0, l, us1, rfl, .inr (SqT.mono I.sr.sub g1), ?_⟩
      refine ⟨.ref l2, by rw [List.getElem?_eq_getElem hl, ev2], l2, us2, rfl, .inr (SqT.mono I.sr.sub g2), ?_⟩
      refine ⟨_, _, rfl, rfl, _, _, rfl, rfl, (by show (0 : Int) < 2; decide), rfl, _, rfl, ?_⟩
      have e1 := rr1.length
      have e2 := rr2.length
      rw [e1, e2]
      by_cases z : ((xs.length : Int) - ys.length) % 2 = 0
      · have e0 : decide (V.int (((xs.length : Int) - ys.length) % 2) = V.int 0) = true := by rw [z]; rfl
        rw [e0]
        show if true = true then _ else _
        rw [if_pos rfl]
        exact fin 1 (by unfold parI; rw [if_pos z])
      · have e0 : decide (V.int (((xs.length : Int) - ys.length) % 2) = V.int 0) = false := decide_eq_false fun q => z (V.int.inj q)
        rw [e0]
        show if false = true then _ else _
        rw [if_neg Bool.false_ne_true]
        exact ⟨1, rfl, fin (-1) (by unfold parI; rw [if_neg z])⟩
    · cases y0
end
end M

namespace Lk
open PySem PySem.Spec PyProof.Rows L2 M
def topS (i : Nat) : Stmt := PySem.Challenge.pw_fewnames_k08_whole_hidden_threads.main.body.getD i (.Pass ⟨0, 0, 0, 0⟩)
def inS (i j : Nat) : Stmt := (clsBody (topS i)).getD j (.Pass ⟨0, 0, 0, 0⟩)
abbrev s__law_dish : Stmt := topS 32
abbrev s__law_spoon : Stmt := topS 33
abbrev s__law_pick_of : Stmt := topS 35
abbrev s__law_some_of : Stmt := topS 34
abbrev s__law_blocks : Stmt := topS 36
abbrev s__law_rows_drawn : Stmt := topS 37
abbrev s_is_integer : Stmt := topS 11
abbrev s_is_old_name : Stmt := topS 14
abbrev s_are_old_names : Stmt := topS 15
abbrev s_are_threads : Stmt := topS 16
abbrev s_require_threads : Stmt := topS 17
abbrev s_are_blocks : Stmt := topS 18
abbrev s_Round___init__ : Stmt := inS 19 1
abbrev s_are_rounds : Stmt := topS 26
abbrev s_Run___init__ : Stmt := inS 27 1
abbrev s__law_run_of : Stmt := topS 38
abbrev s_Round___eq__ : Stmt := inS 19 14
abbrev s_Run___eq__ : Stmt := inS 27 14
abbrev s_is_between : Stmt := topS 12
abbrev s_require_number : Stmt := topS 13
abbrev s_Run_shortened : Stmt := inS 27 6
abbrev s_require_thread : Stmt := topS 28
abbrev s_is_last_alone : Stmt := topS 23
abbrev s_is_hidden_in : Stmt := topS 30
abbrev s_Run_is_hidden : Stmt := inS 27 9
abbrev s_require_one : Stmt := topS 20
abbrev s_Round_without : Stmt := inS 19 7
abbrev s_run_without : Stmt := topS 29
abbrev s_Run_without : Stmt := inS 27 7
abbrev s_Run___iter__ : Stmt := inS 27 12
abbrev s_Round_sign : Stmt := inS 19 4
abbrev s_Run_sign : Stmt := inS 27 4
abbrev s_place_of : Stmt := topS 21
abbrev s_seen_by : Stmt := topS 22
abbrev s_Run_known : Stmt := inS 27 8
abbrev s_Round_blocks : Stmt := inS 19 2
abbrev s__law_right : Stmt := topS 39
abbrev s_law : Stmt := topS 40
theorem sc__law_dish : FnScope ["script", "at", "cell", "great", "seed"] ["script", "at"] (defScope s__law_dish) := ⟨rfl, rfl, rfl, by decide +kernel, rfl, by decide +kernel, by decide +kernel⟩
theorem sc__law_spoon : FnScope ["dish", "total", "one", "two", "three", "found"] ["dish", "total"] (defScope s__law_spoon) := ⟨rfl, rfl, rfl, by decide +kernel, rfl, by decide +kernel, by decide +kernel⟩
theorem sc__law_pick_of : FnScope ["dish", "items"] ["dish", "items"] (defScope s__law_pick_of) := ⟨rfl, rfl, rfl, by decide +kernel, rfl, by decide +kernel, by decide +kernel⟩
theorem sc__law_some_of : FnScope ["dish", "items", "count", "turn", "left", "found"] ["dish", "items", "count"] (defScope s__law_some_of) := ⟨rfl, rfl, rfl, by decide +kernel, rfl, by decide +kernel, by decide +kernel⟩
theorem sc__law_blocks : FnScope ["dish", "threads", "wide", "left", "found", "size"] ["dish", "threads"] (defScope s__law_blocks) := ⟨rfl, rfl, rfl, by decide +kernel, rfl, by decide +kernel, by decide +kernel⟩
theorem sc__law_rows_drawn : FnScope ["dish", "threads", "count", "way", "turn", "found", "last", "blocks", "rest", "one"] ["dish", "threads", "count"] (defScope s__law_rows_drawn) := ⟨rfl, rfl, rfl, by decide +kernel, rfl, by decide +kernel, by decide +kernel⟩
theorem sc_is_integer : FnScope ["value"] ["value"] (defScope s_is_integer) := ⟨rfl, rfl, rfl, by decide +kernel, rfl, by decide +kernel, by decide +kernel⟩
theorem sc_is_old_name : FnScope ["value"] ["value"] (defScope s_is_old_name) := ⟨rfl, rfl, rfl, by decide +kernel, rfl, by decide +kernel, by decide +kernel⟩
theorem sc_are_old_names : FnScope ["value", "one"] ["value"] (defScope s_are_old_names) := ⟨rfl, rfl, rfl, by decide +kernel, rfl, by decide +kernel, by decide +kernel⟩
theorem sc_are_threads : FnScope ["value"] ["value"] (defScope s_are_threads) := ⟨rfl, rfl, rfl, by decide +kernel, rfl, by decide +kernel, by decide +kernel⟩
theorem sc_require_threads : FnScope ["value"] ["value"] (defScope s_require_threads) := ⟨rfl, rfl, rfl, by decide +kernel, rfl, by decide +kernel, by decide +kernel⟩
theorem sc_are_blocks : FnScope ["value", "found", "block", "thread"] ["value"] (defScope s_are_blocks) := ⟨rfl, rfl, rfl, by decide +kernel, rfl, by decide +kernel, by decide +kernel⟩
theorem sc_Round___init__ : FnScope ["self", "blocks", "block", "thread"] ["self", "blocks"] (defScope s_Round___init__) := ⟨rfl, rfl, rfl, by decide +kernel, rfl, by decide +kernel, by decide +kernel⟩
theorem sc_are_rounds : FnScope ["threads", "value", "one"] ["threads", "value"] (defScope s_are_rounds) := ⟨rfl, rfl, rfl, by decide +kernel, rfl, by decide +kernel, by decide +kernel⟩
theorem sc_Run___init__ : FnScope ["self", "threads", "rounds", "one"] ["self", "threads", "rounds"] (defScope s_Run___init__) := ⟨rfl, rfl, rfl, by decide +kernel, rfl, by decide +kernel, by decide +kernel⟩
theorem sc__law_run_of : FnScope ["threads", "rows", "blocks"] ["threads", "rows"] (defScope s__law_run_of) := ⟨rfl, rfl, rfl, by decide +kernel, rfl, by decide +kernel, by decide +kernel⟩
theorem sc_Round___eq__ : FnScope ["self", "other"] ["self", "other"] (defScope s_Round___eq__) := ⟨rfl, rfl, rfl, by decide +kernel, rfl, by decide +kernel, by decide +kernel⟩
theorem sc_Run___eq__ : FnScope ["self", "other"] ["self", "other"] (defScope s_Run___eq__) := ⟨rfl, rfl, rfl, by decide +kernel, rfl, by decide +kernel, by decide +kernel⟩
theorem sc_is_between : FnScope ["value", "low", "high"] ["value", "low", "high"] (defScope s_is_between) := ⟨rfl, rfl, rfl, by decide +kernel, rfl, by decide +kernel, by decide +kernel⟩
theorem sc_require_number : FnScope ["value", "low", "high"] ["value", "low", "high"] (defScope s_require_number) := ⟨rfl, rfl, rfl, by decide +kernel, rfl, by decide +kernel, by decide +kernel⟩
theorem sc_Run_shortened : FnScope ["self", "length"] ["self", "length"] (defScope s_Run_shortened) := ⟨rfl, rfl, rfl, by decide +kernel, rfl, by decide +kernel, by decide +kernel⟩
theorem sc_require_thread : FnScope ["run", "thread"] ["run", "thread"] (defScope s_require_thread) := ⟨rfl, rfl, rfl, by decide +kernel, rfl, by decide +kernel, by decide +kernel⟩
theorem sc_is_last_alone : FnScope ["round_of", "thread"] ["round_of", "thread"] (defScope s_is_last_alone) := ⟨rfl, rfl, rfl, by decide +kernel, rfl, by decide +kernel, by decide +kernel⟩
theorem sc_is_hidden_in : FnScope ["run", "thread", "one"] ["run", "thread"] (defScope s_is_hidden_in) := ⟨rfl, rfl, rfl, by decide +kernel, rfl, by decide +kernel, by decide +kernel⟩
theorem sc_Run_is_hidden : FnScope ["self", "thread"] ["self", "thread"] (defScope s_Run_is_hidden) := ⟨rfl, rfl, rfl, by decide +kernel, rfl, by decide +kernel, by decide +kernel⟩
theorem sc_require_one : FnScope ["round_of", "thread"] ["round_of", "thread"] (defScope s_require_one) := ⟨rfl, rfl, rfl, by decide +kernel, rfl, by decide +kernel, by decide +kernel⟩
theorem sc_Round_without : FnScope ["self", "thread", "rows", "block", "one", "row"] ["self", "thread"] (defScope s_Round_without) := ⟨rfl, rfl, rfl, by decide +kernel, rfl, by decide +kernel, by decide +kernel⟩
theorem sc_run_without : FnScope ["run", "thread", "threads", "one"] ["run", "thread"] (defScope s_run_without) := ⟨rfl, rfl, rfl, by decide +kernel, rfl, by decide +kernel, by decide +kernel⟩
theorem sc_Run_without : FnScope ["self", "thread"] ["self", "thread"] (defScope s_Run_without) := ⟨rfl, rfl, rfl, by decide +kernel, rfl, by decide +kernel, by decide +kernel⟩
theorem sc_Run___iter__ : FnScope ["self"] ["self"] (defScope s_Run___iter__) := ⟨rfl, rfl, rfl, by decide +kernel, rfl, by decide +kernel, by decide +kernel⟩
theorem sc_Round_sign : FnScope ["self"] ["self"] (defScope s_Round_sign) := ⟨rfl, rfl, rfl, by decide +kernel, rfl, by decide +kernel, by decide +kernel⟩
theorem sc_Run_sign : FnScope ["self"] ["self"] (defScope s_Run_sign) := ⟨rfl, rfl, rfl, by decide +kernel, rfl, by decide +kernel, by decide +kernel⟩
theorem sc_place_of : FnScope ["round_of", "thread", "place", "block"] ["round_of", "thread"] (defScope s_place_of) := ⟨rfl, rfl, rfl, by decide +kernel, rfl, by decide +kernel, by decide +kernel⟩
theorem sc_seen_by : FnScope ["round_of", "thread", "place", "block", "one"] ["round_of", "thread"] (defScope s_seen_by) := ⟨rfl, rfl, rfl, by decide +kernel, rfl, by decide +kernel, by decide +kernel⟩
theorem sc_Run_known : FnScope ["self", "thread", "found", "one", "near", "other"] ["self", "thread"] (defScope s_Run_known) := ⟨rfl, rfl, rfl, by decide +kernel, rfl, by decide +kernel, by decide +kernel⟩
theorem sc_Round_blocks : FnScope ["self"] ["self"] (defScope s_Round_blocks) := ⟨rfl, rfl, rfl, by decide +kernel, rfl, by decide +kernel, by decide +kernel⟩
theorem sc__law_right : FnScope ["dish", "threads", "rows", "run", "thread", "count", "others", "strange", "wide", "more", "ahead", "less", "due", "one", "blocks"] ["dish"] (defScope s__law_right) := ⟨rfl, rfl, rfl, by decide +kernel, rfl, by decide +kernel, by decide +kernel⟩
theorem sc_law : FnScope ["script", "at", "dish", "turn"] ["script"] (defScope s_law) := ⟨rfl, rfl, rfl, by decide +kernel, rfl, by decide +kernel, by decide +kernel⟩
/-! ### what the defs compute -/
def g__law_dish (n : Nat) : FS := (sSeq (sSet 2 (eIf (M.tB (e2 ltD (eV 1) (eB lenD (aCons (eV 0) aNil)))) (e2 ixD (eV 0) (eV 1)) (e2 addD (e2 mulD (eC (.int 89)) (eV 1)) (eC (.int 31)))))
  (sSeq (sSet 3 (e2 modD (eB intD (aCons (eB absD (aCons (eV 2) aNil)) aNil)) (e2 powD (e2 powD (eC (.int 10)) (eC (.int 60))) (eC (.int 9)))))
  (sSeq (sSet 4 (e2 modD (eB intD (aCons (e2 addD (e2 addD (e2 addD (e2 mulD (eV 3) (eC (.int 3))) (e2 mulD (eC (.int 10007)) (eV 1))) (eB intD (aCons (e2 ltD (eV 2) (eC (.int 0))) aNil))) (eC (.int 40487))) aNil)) (e2 addD (e2 powD (eC (.int 10)) (eC (.int 18))) (eC (.int 3)))))
  (sRetO (oLst (aCons (eIf (M.tB (e2 gtD (eV 3) (e2 powD (eC (.int 10)) (eC (.int 18))))) (e2 subD (eV 3) (e2 powD (eC (.int 10)) (eC (.int 18)))) (eC (.int 0))) (aCons (eV 4) (aCons (eC (.int 0)) aNil))))))))
def F__law_dish : FD := fun n as => runB (g__law_dish n) (["script", "at", "cell", "great", "seed"] : List Str).length (["script", "at"] : List Str).length as
def g__law_spoon (n : Nat) : FS := (sSeq (sIf (M.tB (e2 gtD (eIxO 0 (eC (.int 0))) (eC (.int 0)))) (sSeq (sSet 5 (e2 modD (eB intD (aCons (eIxO 0 (eC (.int 0))) aNil)) (eV 1)))
  (sSeq (sItO 0 (e2 fdivD (eIxO 0 (eC (.int 0))) (eV 1)) (eC (.int 0)))
  (sRet (eV 5)))) sNx)
  (sSeq (sItO 0 (e2 addD (eIxO 0 (eC (.int 2))) (eC (.int 1))) (eC (.int 2)))
  (sSeq (sSet 2 (e2 modD (eB intD (aCons (e2 addD (eIxO 0 (eC (.int 1))) (e2 mulD (eC (.int 32452843)) (eIxO 0 (eC (.int 2))))) aNil)) (eC (.int 1000000087))))
  (sSeq (sSet 3 (e2 modD (eB intD (aCons (e2 addD (e2 addD (e2 mulD (eV 2) (eV 2)) (e2 fdivD (eIxO 0 (eC (.int 1))) (eC (.int 1000003)))) (e2 mulD (eC (.int 6151)) (eIxO 0 (eC (.int 2))))) aNil)) (eC (.int 998244353))))
  (sSeq (sSet 4 (e2 modD (eB intD (aCons (e2 addD (e2 mulD (eV 3) (eV 3)) (eV 2)) aNil)) (eC (.int 1000000093))))
  (sRet (e2 modD (eB intD (aCons (e2 fdivD (eV 4) (eC (.int 128))) aNil)) (eV 1))))))))
def F__law_spoon : FD := fun n as => runB (g__law_spoon n) (["dish", "total", "one", "two", "three", "found"] : List Str).length (["dish", "total"] : List Str).length as
def g__law_pick_of (n : Nat) : FS := (sRet (e2 ixD (eV 1) (eCall F__law_spoon n (rOwn 0 (rCons (eB lenD (aCons (eV 1) aNil)) rNil)))))
def F__law_pick_of : FD := fun n as => runB (g__law_pick_of n) (["dish", "items"] : List Str).length (["dish", "items"] : List Str).length as
def g__law_some_of (n : Nat) : FS := (sSeq (sParV 4 5 (vO (oLstOf (eV 1))) (vO (oLst aNil)))
  (sSeq (sFor (iRg rg1 (aCons (eB minD (aCons (eV 2) (aCons (eB lenD (aCons (eV 1) aNil)) aNil))) aNil)) (tName 3) (sApp 5 (ePopO 4 (eCall F__law_spoon n (rOwn 0 (rCons (eLenO 4) rNil))))))
  (sRet (eFrz 5))))
def F__law_some_of : FD := fun n as => runB (g__law_some_of n) (["dish", "items", "count", "turn", "left", "found"] : List Str).length (["dish", "items", "count"] : List Str).length as
def g__law_blocks (n : Nat) : FS := (sSeq (sParV 3 4 (vD (eCall F__law_some_of n (rOwn 0 (rCons (eV 1) (rCons (eB lenD (aCons (eV 1) aNil)) rNil))))) (vO (oLst aNil)))
  (sSeq (sSet 2 (eCall F__law_pick_of n (rOwn 0 (rCons (eLst (aCons (eC (.int 1)) (aCons (eC (.int 2)) (aCons (eC (.int 2)) (aCons (eC (.int 3)) (aCons (eC (.int 5)) aNil)))))) rNil))))
  (sSeq (whl (M.tB (e2 neX (eV 3) (eLst aNil))) (sSeq (sSet 5 (e2 addD (eC (.int 1)) (eCall F__law_spoon n (rOwn 0 (rCons (eB minD (aCons (eV 2) (aCons (eB lenD (aCons (eV 3) aNil)) aNil))) rNil)))))
  (sSeq (sApp 4 (e1 tupD (eB sortXD (aCons (eSl (eV 3) pNone (pSome (eV 5))) aNil))))
  (sSet 3 (eSl (eV 3) (pSome (eV 5)) pNone)))) n)
  (sRet (e1 tupD (eFrz 4))))))
def F__law_blocks : FD := fun n as => runB (g__law_blocks n) (["dish", "threads", "wide", "left", "found", "size"] : List Str).length (["dish", "threads"] : List Str).length as
def g__law_rows_drawn (n : Nat) : FS := (sSeq (sParV 5 6 (vO (oLst aNil)) (vD (eCall F__law_pick_of n (rOwn 0 (rCons (eV 1) rNil)))))
  (sSeq (sSet 3 (eCall F__law_spoon n (rOwn 0 (rCons (eC (.int 4)) rNil))))
  (sSeq (sFor (iRg rg1 (aCons (eV 2) aNil)) (tName 4) (sSeq (sSet 7 (eCall F__law_blocks n (rOwn 0 (rCons (eV 1) rNil))))
  (sSeq (sSet 8 (e1 tupD (eFz (oLc (iSeq (eV 1)) (tName 9) (M.tB (e2 neX (eV 9) (eV 6))) (eV 9) [9]))))
  (sSeq (sIf (tAndD (M.tB (e2 eqX (eV 3) (eC (.int 0)))) (tAndD (M.tB (e2 neX (eV 8) (eTup aNil))) (M.tB (e2 gtD (eCall F__law_spoon n (rOwn 0 (rCons (eC (.int 3)) rNil))) (eC (.int 0)))))) (sSet 7 (e2 addD (eCall F__law_blocks n (rOwn 0 (rCons (eV 8) rNil))) (eTup (aCons (eTup (aCons (eV 6) aNil)) aNil)))) sNx)
  (sApp 5 (eV 7))))))
  (sRet (e1 tupD (eFrz 5))))))
def F__law_rows_drawn : FD := fun n as => runB (g__law_rows_drawn n) (["dish", "threads", "count", "way", "turn", "found", "last", "blocks", "rest", "one"] : List Str).length (["dish", "threads", "count"] : List Str).length as
def g_is_integer (n : Nat) : FS := (sRet (eAnd (eB isiD (aCons (eV 0) (aCons (eC (.con (.ty "int"))) aNil))) (eAnd (eNot (eB isiD (aCons (eV 0) (aCons (eC (.con (.ty "bool"))) aNil)))) (eCh ltD ltD (e1 negD (eC (.int 1000000000000000000000000000000000000000000000000000000000000))) (eV 0) (eC (.int 1000000000000000000000000000000000000000000000000000000000000))))))
def F_is_integer : FD := fun n as => runB (g_is_integer n) (["value"] : List Str).length (["value"] : List Str).length as
def g_is_old_name (n : Nat) : FS := (sRet (eAnd (eCall F_is_integer n (rCons (eV 0) rNil)) (e2 geD (eV 0) (eC (.int 0)))))
def F_is_old_name : FD := fun n as => runB (g_is_old_name n) (["value"] : List Str).length (["value"] : List Str).length as
def g_are_old_names (n : Nat) : FS := (sRet (eAnd (eB isiD (aCons (eV 0) (aCons (eC (.con (.ty "tuple"))) aNil))) (eAnd (eB allD (aCons (eFz (oLc (iSeq (eV 0)) (tName 1) tYesD (eCall F_is_old_name n (rCons (eV 1) rNil)) [1])) aNil)) (e2 eqX (eB lstD (aCons (eV 0) aNil)) (e1 sortSetX (eV 0))))))
def F_are_old_names : FD := fun n as => runB (g_are_old_names n) (["value", "one"] : List Str).length (["value"] : List Str).length as
def g_are_threads (n : Nat) : FS := (sRet (eAnd (eCall F_are_old_names n (rCons (eV 0) rNil)) (eCh leD leD (eC (.int 1)) (eB lenD (aCons (eV 0) aNil)) (eC (.int 5)))))
def F_are_threads : FD := fun n as => runB (g_are_threads n) (["value"] : List Str).length (["value"] : List Str).length as
def g_require_threads (n : Nat) : FS := (sIf (tNotD (tTr (eCall F_are_threads n (rCons (eV 0) rNil)))) sNo sNx)
def F_require_threads : FD := fun n as => runB (g_require_threads n) (["value"] : List Str).length (["value"] : List Str).length as
def g_are_blocks (n : Nat) : FS := (sSeq (sIf (tOrD (tNotD (tTr (eB isiD (aCons (eV 0) (aCons (eC (.con (.ty "tuple"))) aNil))))) (tNotD (tTr (eB allD (aCons (eFz (oLc (iSeq (eV 0)) (tName 2) tYesD (eCall F_are_threads n (rCons (eV 2) rNil)) [2])) aNil))))) (sRet (eC (.bl false))) sNx)
  (sSeq (sSet 1 (eFz (oLc2 (iSeq (eV 0)) (tName 2) tYesD (iSeq (eV 2)) (tName 3) tYesD (eV 3) [2, 3] [3])))
  (sRet (eAnd (eCh leD leD (eC (.int 1)) (eB lenD (aCons (eV 1) aNil)) (eC (.int 5))) (e2 eqX (e1 lenSetD (eV 1)) (eB lenD (aCons (eV 1) aNil)))))))
def F_are_blocks : FD := fun n as => runB (g_are_blocks n) (["value", "found", "block", "thread"] : List Str).length (["value"] : List Str).length as
def g_Round___init__ (n : Nat) : List (Option D) → Rho → Option ISt := (nSeq (nNever (tNotD (tTr (eCall F_are_blocks n (rCons (eV 1) rNil)))))
  (nSeq (nSet 0 (eV 1))
  (nSeq (nSet 3 (e1 tupD (eB sortXD (aCons (eFz (oLc2 (iSeq (eV 1)) (tName 2) tYesD (iSeq (eV 2)) (tName 3) tYesD (eV 3) [2, 3] [3])) aNil))))
  (nSeq (nPar 1 3 1)
  (nSet 2 (eB lenD (aCons (eV 1) aNil)))))))
def F_Round___init__ : FNd := fun n ds => runN (g_Round___init__ n) (["self", "blocks", "block", "thread"] : List Str).length ((["self", "blocks"] : List Str).length - 1) ds
def ti_Round : Str → Option Bool := fun c => if c = "Round" then some (true) else if c = "Run" then some (false) else none
def ta_own_threads : Str → Option AtK := fun c => if c = "Round" then some (.sl 3) else if c = "Run" then some (.sl 2) else none
def g_are_rounds (n : Nat) : FS := (sSeq (sIf (tOrD (tNotD (tTr (eB isiD (aCons (eV 1) (aCons (eC (.con (.ty "tuple"))) aNil))))) (M.tB (e2 gtD (eB lenD (aCons (eV 1) aNil)) (eC (.int 6))))) (sRet (eC (.bl false))) sNx)
  (sRet (eB allD (aCons (eFz (oLc (iSeq (eV 1)) (tName 2) tYesD (eAnd (eIsC ti_Round (eV 2)) (e2 eqX (eAttr ta_own_threads n (eV 2)) (eV 0))) [2])) aNil))))
def F_are_rounds : FD := fun n as => runB (g_are_rounds n) (["threads", "value", "one"] : List Str).length (["threads", "value"] : List Str).length as
def ta_own_sign : Str → Option AtK := fun c => if c = "Round" then some (.sl 1) else if c = "Run" then some (.sl 1) else none
def g_Run___init__ (n : Nat) : List (Option D) → Rho → Option ISt := (nSeq (nExpr (eCall F_require_threads n (rCons (eV 1) rNil)))
  (nSeq (nNever (tNotD (tTr (eCall F_are_rounds n (rCons (eV 1) (rCons (eV 2) rNil))))))
  (nSeq (nSet 2 (eV 1))
  (nSeq (nSet 0 (eV 2))
  (nSeq (nSet 1 (eC (.int 1)))
  (nFor (iSeq (eV 2)) (tName 3) (nAug 1 mulD (eAttr ta_own_sign n (eV 3)))))))))
def F_Run___init__ : FNd := fun n ds => runN (g_Run___init__ n) (["self", "threads", "rounds", "one"] : List Str).length ((["self", "threads", "rounds"] : List Str).length - 1) ds
def g__law_run_of (n : Nat) : FS := (sRet (eMake "Run" F_Run___init__ n (aCons (eV 0) (aCons (e1 tupD (eFz (oLc (iSeq (eV 1)) (tName 2) tYesD (eMake "Round" F_Round___init__ n (aCons (eV 2) aNil)) [2]))) aNil))))
def F__law_run_of : FD := fun n as => runB (g__law_run_of n) (["threads", "rows", "blocks"] : List Str).length (["threads", "rows"] : List Str).length as
def ta_own_blocks : Str → Option AtK := fun c => if c = "Round" then some (.sl 0) else none
def g_Round___eq__ (n : Nat) : FS := (sRet (eAnd (eIsC ti_Round (eV 1)) (e2 eqX (eAttr ta_own_blocks n (eV 0)) (eAttr ta_own_blocks n (eV 1)))))
def F_Round___eq__ : FD := fun n as => runB (g_Round___eq__ n) (["self", "other"] : List Str).length (["self", "other"] : List Str).length as
def ti_Run : Str → Option Bool := fun c => if c = "Round" then some (false) else if c = "Run" then some (true) else none
def tq_Round : Str → Option FD := fun c => if c = "Round" then some (F_Round___eq__) else none
def ta_own_rounds : Str → Option AtK := fun c => if c = "Run" then some (.sl 0) else none
def g_Run___eq__ (n : Nat) : FS := (sRet (eAnd (eIsC ti_Run (eV 1)) (eAnd (e2 eqX (eAttr ta_own_threads n (eV 0)) (eAttr ta_own_threads n (eV 1))) (e2 (eqID tq_Round n) (eAttr ta_own_rounds n (eV 0)) (eAttr ta_own_rounds n (eV 1))))))
def F_Run___eq__ : FD := fun n as => runB (g_Run___eq__ n) (["self", "other"] : List Str).length (["self", "other"] : List Str).length as
def g_is_between (n : Nat) : FS := (sRet (eAnd (eCall F_is_integer n (rCons (eV 0) rNil)) (eCh leD leD (eV 1) (eV 0) (eV 2))))
def F_is_between : FD := fun n as => runB (g_is_between n) (["value", "low", "high"] : List Str).length (["value", "low", "high"] : List Str).length as
def g_require_number (n : Nat) : FS := (sIf (tNotD (tTr (eCall F_is_between n (rCons (eV 0) (rCons (eV 1) (rCons (eV 2) rNil)))))) sNo sNx)
def F_require_number : FD := fun n as => runB (g_require_number n) (["value", "low", "high"] : List Str).length (["value", "low", "high"] : List Str).length as
def g_Run_shortened (n : Nat) : FS := (sSeq (sDrop (eCall F_require_number n (rCons (eV 1) (rCons (eC (.int 0)) (rCons (eB lenD (aCons (eAttr ta_own_rounds n (eV 0)) aNil)) rNil)))))
  (sRet (eMake "Run" F_Run___init__ n (aCons (eAttr ta_own_threads n (eV 0)) (aCons (eSl (eAttr ta_own_rounds n (eV 0)) pNone (pSome (eV 1))) aNil)))))
def F_Run_shortened : FD := fun n as => runB (g_Run_shortened n) (["self", "length"] : List Str).length (["self", "length"] : List Str).length as
def g_require_thread (n : Nat) : FS := (sIf (tOrD (tNotD (tTr (eCall F_is_old_name n (rCons (eV 1) rNil)))) (M.tB (e2 notInD (eV 1) (eAttr ta_own_threads n (eV 0))))) sNo sNx)
def F_require_thread : FD := fun n as => runB (g_require_thread n) (["run", "thread"] : List Str).length (["run", "thread"] : List Str).length as
def g_is_last_alone (n : Nat) : FS := (sRet (e2 eqX (e2 ixD (eAttr ta_own_blocks n (eV 0)) (e1 negD (eC (.int 1)))) (eTup (aCons (eV 1) aNil))))
def F_is_last_alone : FD := fun n as => runB (g_is_last_alone n) (["round_of", "thread"] : List Str).length (["round_of", "thread"] : List Str).length as
def g_is_hidden_in (n : Nat) : FS := (sRet (eB allD (aCons (eFz (oLc (iSeq (eAttr ta_own_rounds n (eV 0))) (tName 2) tYesD (eCall F_is_last_alone n (rCons (eV 2) (rCons (eV 1) rNil))) [2])) aNil)))
def F_is_hidden_in : FD := fun n as => runB (g_is_hidden_in n) (["run", "thread", "one"] : List Str).length (["run", "thread"] : List Str).length as
def g_Run_is_hidden (n : Nat) : FS := (sSeq (sDrop (eCall F_require_thread n (rCons (eV 0) (rCons (eV 1) rNil))))
  (sRet (eCall F_is_hidden_in n (rCons (eV 0) (rCons (eV 1) rNil)))))
def F_Run_is_hidden : FD := fun n as => runB (g_Run_is_hidden n) (["self", "thread"] : List Str).length (["self", "thread"] : List Str).length as
def g_require_one (n : Nat) : FS := (sIf (tOrD (tNotD (tTr (eCall F_is_old_name n (rCons (eV 1) rNil)))) (M.tB (e2 notInD (eV 1) (eAttr ta_own_threads n (eV 0))))) sNo sNx)
def F_require_one : FD := fun n as => runB (g_require_one n) (["round_of", "thread"] : List Str).length (["round_of", "thread"] : List Str).length as
def g_Round_without (n : Nat) : FS := (sSeq (sDrop (eCall F_require_one n (rCons (eV 0) (rCons (eV 1) rNil))))
  (sSeq (sIf (M.tB (e2 eqX (eB lenD (aCons (eAttr ta_own_threads n (eV 0)) aNil)) (eC (.int 1)))) sNo sNx)
  (sSeq (sSet 2 (eFz (oLc (iSeq (eAttr ta_own_blocks n (eV 0))) (tName 3) tYesD (e1 tupD (eFz (oLc (iSeq (eV 3)) (tName 4) (M.tB (e2 neX (eV 4) (eV 1))) (eV 4) [4]))) [3])))
  (sRet (eMake "Round" F_Round___init__ n (aCons (e1 tupD (eFz (oLc (iSeq (eV 2)) (tName 5) (M.tB (e2 neX (eV 5) (eTup aNil))) (eV 5) [5]))) aNil))))))
def F_Round_without : FD := fun n as => runB (g_Round_without n) (["self", "thread", "rows", "block", "one", "row"] : List Str).length (["self", "thread"] : List Str).length as
def tm_without_Round : Str → Option FD := fun c => if c = "Round" then some (F_Round_without) else none
def g_run_without (n : Nat) : FS := (sSeq (sSet 2 (e1 tupD (eFz (oLc (iSeq (eAttr ta_own_threads n (eV 0))) (tName 3) (M.tB (e2 neX (eV 3) (eV 1))) (eV 3) [3]))))
  (sRet (eMake "Run" F_Run___init__ n (aCons (eV 2) (aCons (e1 tupD (eFz (oLc (iSeq (eAttr ta_own_rounds n (eV 0))) (tName 3) tYesD (eMeth tm_without_Round n (eV 3) (rCons (eV 1) rNil)) [3]))) aNil)))))
def F_run_without : FD := fun n as => runB (g_run_without n) (["run", "thread", "threads", "one"] : List Str).length (["run", "thread"] : List Str).length as
def g_Run_without (n : Nat) : FS := (sSeq (sDrop (eCall F_require_thread n (rCons (eV 0) (rCons (eV 1) rNil))))
  (sSeq (sIf (M.tB (e2 eqX (eB lenD (aCons (eAttr ta_own_threads n (eV 0)) aNil)) (eC (.int 1)))) sNo sNx)
  (sRet (eCall F_run_without n (rCons (eV 0) (rCons (eV 1) rNil))))))
def F_Run_without : FD := fun n as => runB (g_Run_without n) (["self", "thread"] : List Str).length (["self", "thread"] : List Str).length as
def g_Round_sign (n : Nat) : FS := (sRet (eAttr ta_own_sign n (eV 0)))
def F_Round_sign : FD := fun n as => runB (g_Round_sign n) (["self"] : List Str).length (["self"] : List Str).length as
def g_Run_sign (n : Nat) : FS := (sRet (eAttr ta_own_sign n (eV 0)))
def F_Run_sign : FD := fun n as => runB (g_Run_sign n) (["self"] : List Str).length (["self"] : List Str).length as
def g_place_of (n : Nat) : FS := (sRet (eNext (iEn (aCons (eAttr ta_own_blocks n (eV 0)) aNil)) (tPair 2 3) (M.tB (e2 inD (eV 1) (eV 3))) (eV 2) (.int 0) [2, 3]))
def F_place_of : FD := fun n as => runB (g_place_of n) (["round_of", "thread", "place", "block"] : List Str).length (["round_of", "thread"] : List Str).length as
def g_seen_by (n : Nat) : FS := (sSeq (sSet 2 (eCall F_place_of n (rCons (eV 0) (rCons (eV 1) rNil))))
  (sRet (e1 tupD (eB sortXD (aCons (eFz (oLc2 (iSeq (eSl (eAttr ta_own_blocks n (eV 0)) pNone (pSome (e2 addD (eV 2) (eC (.int 1)))))) (tName 3) tYesD (iSeq (eV 3)) (tName 4) tYesD (eV 4) [3, 4] [4])) aNil)))))
def F_seen_by : FD := fun n as => runB (g_seen_by n) (["round_of", "thread", "place", "block", "one"] : List Str).length (["round_of", "thread"] : List Str).length as
def g_Run_known (n : Nat) : FS := (sSeq (sDrop (eCall F_require_thread n (rCons (eV 0) (rCons (eV 1) rNil))))
  (sSeq (sSet 2 (eTup (aCons (eV 1) aNil)))
  (sSeq (sFor (iSeq (e1 revX (eAttr ta_own_rounds n (eV 0)))) (tName 3) (sSet 2 (e1 tupD (e1 sortSetX (eFz (oLc2 (iSeq (eV 2)) (tName 4) tYesD (iSeq (eCall F_seen_by n (rCons (eV 3) (rCons (eV 4) rNil)))) (tName 5) tYesD (eV 5) [4, 5] [5]))))))
  (sRet (eV 2)))))
def F_Run_known : FD := fun n as => runB (g_Run_known n) (["self", "thread", "found", "one", "near", "other"] : List Str).length (["self", "thread"] : List Str).length as
def g_Round_blocks (n : Nat) : FS := (sRet (eAttr ta_own_blocks n (eV 0)))
def F_Round_blocks : FD := fun n as => runB (g_Round_blocks n) (["self"] : List Str).length (["self"] : List Str).length as
def tm_known_Run : Str → Option FD := fun c => if c = "Run" then some (F_Run_known) else none
def tm_is_hidden_Run : Str → Option FD := fun c => if c = "Run" then some (F_Run_is_hidden) else none
def tm_without_Round_Run : Str → Option FD := fun c => if c = "Round" then some (F_Round_without) else if c = "Run" then some (F_Run_without) else none
def ta_sign : Str → Option AtK := fun c => if c = "Round" then some (.pr F_Round_sign) else if c = "Run" then some (.pr F_Run_sign) else none
def tit_Run : Str → Option Nat := fun c => if c = "Run" then some (0) else none
def ta_blocks : Str → Option AtK := fun c => if c = "Round" then some (.pr F_Round_blocks) else none
def tq_Run : Str → Option FD := fun c => if c = "Run" then some (F_Run___eq__) else none
def tm_shortened_Run : Str → Option FD := fun c => if c = "Run" then some (F_Run_shortened) else none
def g__law_right (n : Nat) : FS := (sSeq (sSet 1 (e1 tupD (eB sortXD (aCons (eCall F__law_some_of n (rOwn 0 (rCons (eLst (aCons (eC (.int 0)) (aCons (eC (.int 1)) (aCons (eC (.int 2)) (aCons (eC (.int 3)) (aCons (eC (.int 6)) (aCons (eC (.int 9)) aNil))))))) (rCons (e2 addD (eC (.int 2)) (eCall F__law_spoon n (rOwn 0 (rCons (eC (.int 4)) rNil)))) rNil)))) aNil))))
  (sSeq (sSet 2 (eCall F__law_rows_drawn n (rOwn 0 (rCons (eV 1) (rCons (eCall F__law_spoon n (rOwn 0 (rCons (eC (.int 6)) rNil))) rNil)))))
  (sSeq (sSet 3 (eCall F__law_run_of n (rCons (eV 1) (rCons (eV 2) rNil))))
  (sSeq (sFor (iSeq (eV 1)) (tName 4) (sSeq (sSet 6 (eFz (oLc (iSeq (eV 1)) (tName 13) (M.tB (e2 neX (eV 13) (eV 4))) (eV 13) [13])))
  (sSeq (sSet 7 (eFz (oLc (iSeq (eV 6)) (tName 13) (M.tB (e2 inD (eV 4) (eMeth tm_known_Run n (eV 3) (rCons (eV 13) rNil)))) (eV 13) [13])))
  (sSeq (sIf (M.tB (e2 neX (eMeth tm_is_hidden_Run n (eV 3) (rCons (eV 4) rNil)) (e2 eqX (eV 7) (eLst aNil)))) (sRet (eC (.bl false))) sNx)
  (sIf (M.tB (e2 eqX (eV 7) (eLst aNil))) (sSeq (sSet 11 (eMeth tm_without_Round_Run n (eV 3) (rCons (eV 4) rNil)))
  (sSeq (sSet 12 (eFz (oLc (iSeq (eV 6)) (tName 13) tYesD (eMeth tm_known_Run n (eV 3) (rCons (eV 13) rNil)) [13])))
  (sSeq (sIf (tOrD (M.tB (e2 neX (eAttr ta_sign n (eV 11)) (eAttr ta_sign n (eV 3)))) (M.tB (e2 neX (eFz (oLc (iSeq (eV 6)) (tName 13) tYesD (eMeth tm_known_Run n (eV 11) (rCons (eV 13) rNil)) [13])) (eV 12)))) (sRet (eC (.bl false))) sNx)
  (sIf (M.tB (e2 neX (eFz (oLc (iIns tit_Run (eV 3)) (tName 13) (M.tB (e2 neX (e2 ixD (eAttr ta_blocks n (eV 13)) (e1 negD (eC (.int 1)))) (eTup (aCons (eV 4) aNil)))) (eV 13) [13])) (eLst aNil))) (sRet (eC (.bl false))) sNx)))) sNx)))))
  (sSeq (sIf (M.tB (e2 ltD (eB lenD (aCons (eV 1) aNil)) (eC (.int 5)))) (sSeq (sSet 8 (e1 tupD (eB sortXD (aCons (e2 addD (eV 1) (eTup (aCons (eC (.int 5)) aNil))) aNil))))
  (sSeq (sSet 9 (eCall F__law_run_of n (rCons (eV 8) (rCons (e1 tupD (eFz (oLc (iSeq (eV 2)) (tName 14) tYesD (e2 addD (eV 14) (eTup (aCons (eTup (aCons (eC (.int 5)) aNil)) aNil))) [14]))) rNil))))
  (sSeq (sIf (tOrD (tNotD (tTr (eMeth tm_is_hidden_Run n (eV 9) (rCons (eC (.int 5)) rNil)))) (tOrD (M.tB (e2 neX (eAttr ta_sign n (eV 9)) (eAttr ta_sign n (eV 3)))) (M.tB (e2 (neID tq_Run n) (eMeth tm_without_Round_Run n (eV 9) (rCons (eC (.int 5)) rNil)) (eV 3))))) (sRet (eC (.bl false))) sNx)
  (sSeq (sIf (M.tB (e2 neX (eFz (oLc (iSeq (eV 1)) (tName 13) tYesD (eMeth tm_known_Run n (eV 9) (rCons (eV 13) rNil)) [13])) (eFz (oLc (iSeq (eV 1)) (tName 13) tYesD (eMeth tm_known_Run n (eV 3) (rCons (eV 13) rNil)) [13])))) (sRet (eC (.bl false))) sNx)
  (sIf (M.tB (e2 neX (eMeth tm_known_Run n (eV 9) (rCons (eC (.int 5)) rNil)) (eIf (M.tB (e2 neX (eV 2) (eTup aNil))) (eV 8) (eTup (aCons (eC (.int 5)) aNil))))) (sRet (eC (.bl false))) sNx))))) sNx)
  (sSeq (sFor (iRg rg1 (aCons (eB lenD (aCons (eV 2) aNil)) aNil)) (tName 5) (sSeq (sSet 10 (eMeth tm_shortened_Run n (eV 3) (rCons (eV 5) rNil)))
  (sFor (iSeq (eV 1)) (tName 4) (sIf (M.tB (e2 neX (eFz (oLc (iSeq (eMeth tm_known_Run n (eV 10) (rCons (eV 4) rNil))) (tName 13) (M.tB (e2 notInD (eV 13) (eMeth tm_known_Run n (eMeth tm_shortened_Run n (eV 3) (rCons (e2 addD (eV 5) (eC (.int 1))) rNil)) (rCons (eV 4) rNil)))) (eV 13) [13])) (eLst aNil))) (sRet (eC (.bl false))) sNx))))
  (sRet (eC (.bl true)))))))))
def F__law_right : FD := fun n as => runB (g__law_right n) (["dish", "threads", "rows", "run", "thread", "count", "others", "strange", "wide", "more", "ahead", "less", "due", "one", "blocks"] : List Str).length (["dish"] : List Str).length as
def g_law (n : Nat) : FS := (sSeq (sFor (iRg rg1 (aCons (eB maxD (aCons (eC (.int 1)) (aCons (eB minD (aCons (eC (.int 5)) (aCons (eB lenD (aCons (eV 0) aNil)) aNil))) aNil))) aNil)) (tName 1) (sSeq (sOwn 2 (oCall F__law_dish n (rCons (eV 0) (rCons (eV 1) rNil))))
  (sFor (iRg rg1 (aCons (eC (.int 4)) aNil)) (tName 3) (sIf (tNotD (tTr (eCall F__law_right n (rOwn 2 rNil)))) (sRet (eC (.bl false))) sNx))))
  (sRet (eC (.bl true))))
def F_law : FD := fun n as => runB (g_law n) (["script", "at", "dish", "turn"] : List Str).length (["script"] : List Str).length as
/-! ### what the top has made -/
structure Fx [Tabs] (K : PySem.W.Frag) (mg : Str → Option Value) (base : Heap) : Prop where
  fc__law_dish : ∃ fd, FunC K "_law_dish" "_law_dish" s__law_dish (He.ga K "_law_dish") fd (.ref (He.codeOf K ("_law_dish", none)))
  m__law_dish : mg "_law_dish" = some (.ref (He.ga K "_law_dish"))
  fc__law_spoon : ∃ fd, FunC K "_law_spoon" "_law_spoon" s__law_spoon (He.ga K "_law_spoon") fd (.ref (He.codeOf K ("_law_spoon", none)))
  m__law_spoon : mg "_law_spoon" = some (.ref (He.ga K "_law_spoon"))
  fc__law_pick_of : ∃ fd, FunC K "_law_pick_of" "_law_pick_of" s__law_pick_of (He.ga K "_law_pick_of") fd (.ref (He.codeOf K ("_law_pick_of", none)))
  m__law_pick_of : mg "_law_pick_of" = some (.ref (He.ga K "_law_pick_of"))
  fc__law_some_of : ∃ fd, FunC K "_law_some_of" "_law_some_of" s__law_some_of (He.ga K "_law_some_of") fd (.ref (He.codeOf K ("_law_some_of", none)))
  m__law_some_of : mg "_law_some_of" = some (.ref (He.ga K "_law_some_of"))
  fc__law_blocks : ∃ fd, FunC K "_law_blocks" "_law_blocks" s__law_blocks (He.ga K "_law_blocks") fd (.ref (He.codeOf K ("_law_blocks", none)))
  m__law_blocks : mg "_law_blocks" = some (.ref (He.ga K "_law_blocks"))
  fc__law_rows_drawn : ∃ fd, FunC K "_law_rows_drawn" "_law_rows_drawn" s__law_rows_drawn (He.ga K "_law_rows_drawn") fd (.ref (He.codeOf K ("_law_rows_drawn", none)))
  m__law_rows_drawn : mg "_law_rows_drawn" = some (.ref (He.ga K "_law_rows_drawn"))
  fc_is_integer : ∃ fd, FunC K "is_integer" "is_integer" s_is_integer (He.ga K "is_integer") fd (.ref (He.codeOf K ("is_integer", none)))
  m_is_integer : mg "is_integer" = some (.ref (He.ga K "is_integer"))
  fc_is_old_name : ∃ fd, FunC K "is_old_name" "is_old_name" s_is_old_name (He.ga K "is_old_name") fd (.ref (He.codeOf K ("is_old_name", none)))
  m_is_old_name : mg "is_old_name" = some (.ref (He.ga K "is_old_name"))
  fc_are_old_names : ∃ fd, FunC K "are_old_names" "are_old_names" s_are_old_names (He.ga K "are_old_names") fd (.ref (He.codeOf K ("are_old_names", none)))
  m_are_old_names : mg "are_old_names" = some (.ref (He.ga K "are_old_names"))
  fc_are_threads : ∃ fd, FunC K "are_threads" "are_threads" s_are_threads (He.ga K "are_threads") fd (.ref (He.codeOf K ("are_threads", none)))
  m_are_threads : mg "are_threads" = some (.ref (He.ga K "are_threads"))
  fc_require_threads : ∃ fd, FunC K "require_threads" "require_threads" s_require_threads (He.ga K "require_threads") fd (.ref (He.codeOf K ("require_threads", none)))
  m_require_threads : mg "require_threads" = some (.ref (He.ga K "require_threads"))
  fc_are_blocks : ∃ fd, FunC K "are_blocks" "are_blocks" s_are_blocks (He.ga K "are_blocks") fd (.ref (He.codeOf K ("are_blocks", none)))
  m_are_blocks : mg "are_blocks" = some (.ref (He.ga K "are_blocks"))
  fc_Round___init__ : ∃ fd, FunC K "__init__" "Round.__init__" s_Round___init__ (He.ma K (He.ga K "Round") "__init__") fd (.ref (He.codeOf K ("Round", some "__init__")))
  mk_Round___init__ : Mk K (He.ga K "Round") (He.ma K (He.ga K "Round") "__init__")
  fc_are_rounds : ∃ fd, FunC K "are_rounds" "are_rounds" s_are_rounds (He.ga K "are_rounds") fd (.ref (He.codeOf K ("are_rounds", none)))
  m_are_rounds : mg "are_rounds" = some (.ref (He.ga K "are_rounds"))
  fc_Run___init__ : ∃ fd, FunC K "__init__" "Run.__init__" s_Run___init__ (He.ma K (He.ga K "Run") "__init__") fd (.ref (He.codeOf K ("Run", some "__init__")))
  mk_Run___init__ : Mk K (He.ga K "Run") (He.ma K (He.ga K "Run") "__init__")
  fc__law_run_of : ∃ fd, FunC K "_law_run_of" "_law_run_of" s__law_run_of (He.ga K "_law_run_of") fd (.ref (He.codeOf K ("_law_run_of", none)))
  m__law_run_of : mg "_law_run_of" = some (.ref (He.ga K "_law_run_of"))
  fc_Round___eq__ : ∃ fd, FunC K "__eq__" "Round.__eq__" s_Round___eq__ (He.ma K (He.ga K "Round") "__eq__") fd (.ref (He.codeOf K ("Round", some "__eq__")))
  me_Round___eq__ : Meth K (He.ga K "Round") "__eq__" (He.ma K (He.ga K "Round") "__eq__")
  fc_Run___eq__ : ∃ fd, FunC K "__eq__" "Run.__eq__" s_Run___eq__ (He.ma K (He.ga K "Run") "__eq__") fd (.ref (He.codeOf K ("Run", some "__eq__")))
  me_Run___eq__ : Meth K (He.ga K "Run") "__eq__" (He.ma K (He.ga K "Run") "__eq__")
  fc_is_between : ∃ fd, FunC K "is_between" "is_between" s_is_between (He.ga K "is_between") fd (.ref (He.codeOf K ("is_between", none)))
  m_is_between : mg "is_between" = some (.ref (He.ga K "is_between"))
  fc_require_number : ∃ fd, FunC K "require_number" "require_number" s_require_number (He.ga K "require_number") fd (.ref (He.codeOf K ("require_number", none)))
  m_require_number : mg "require_number" = some (.ref (He.ga K "require_number"))
  fc_Run_shortened : ∃ fd, FunC K "shortened" "Run.shortened" s_Run_shortened (He.ma K (He.ga K "Run") "shortened") fd (.ref (He.codeOf K ("Run", some "shortened")))
  me_Run_shortened : Meth K (He.ga K "Run") "shortened" (He.ma K (He.ga K "Run") "shortened")
  fc_require_thread : ∃ fd, FunC K "require_thread" "require_thread" s_require_thread (He.ga K "require_thread") fd (.ref (He.codeOf K ("require_thread", none)))
  m_require_thread : mg "require_thread" = some (.ref (He.ga K "require_thread"))
  fc_is_last_alone : ∃ fd, FunC K "is_last_alone" "is_last_alone" s_is_last_alone (He.ga K "is_last_alone") fd (.ref (He.codeOf K ("is_last_alone", none)))
  m_is_last_alone : mg "is_last_alone" = some (.ref (He.ga K "is_last_alone"))
  fc_is_hidden_in : ∃ fd, FunC K "is_hidden_in" "is_hidden_in" s_is_hidden_in (He.ga K "is_hidden_in") fd (.ref (He.codeOf K ("is_hidden_in", none)))
  m_is_hidden_in : mg "is_hidden_in" = some (.ref (He.ga K "is_hidden_in"))
  fc_Run_is_hidden : ∃ fd, FunC K "is_hidden" "Run.is_hidden" s_Run_is_hidden (He.ma K (He.ga K "Run") "is_hidden") fd (.ref (He.codeOf K ("Run", some "is_hidden")))
  me_Run_is_hidden : Meth K (He.ga K "Run") "is_hidden" (He.ma K (He.ga K "Run") "is_hidden")
  fc_require_one : ∃ fd, FunC K "require_one" "require_one" s_require_one (He.ga K "require_one") fd (.ref (He.codeOf K ("require_one", none)))
  m_require_one : mg "require_one" = some (.ref (He.ga K "require_one"))
  fc_Round_without : ∃ fd, FunC K "without" "Round.without" s_Round_without (He.ma K (He.ga K "Round") "without") fd (.ref (He.codeOf K ("Round", some "without")))
  me_Round_without : Meth K (He.ga K "Round") "without" (He.ma K (He.ga K "Round") "without")
  fc_run_without : ∃ fd, FunC K "run_without" "run_without" s_run_without (He.ga K "run_without") fd (.ref (He.codeOf K ("run_without", none)))
  m_run_without : mg "run_without" = some (.ref (He.ga K "run_without"))
  fc_Run_without : ∃ fd, FunC K "without" "Run.without" s_Run_without (He.ma K (He.ga K "Run") "without") fd (.ref (He.codeOf K ("Run", some "without")))
  me_Run_without : Meth K (He.ga K "Run") "without" (He.ma K (He.ga K "Run") "without")
  fc_Run___iter__ : ∃ fd, FunC K "__iter__" "Run.__iter__" s_Run___iter__ (He.ma K (He.ga K "Run") "__iter__") fd (.ref (He.codeOf K ("Run", some "__iter__")))
  me_Run___iter__ : Meth K (He.ga K "Run") "__iter__" (He.ma K (He.ga K "Run") "__iter__")
  fc_Round_sign : ∃ fd cdv, FunC K "sign" "Round.sign" s_Round_sign (gAd K "Round" "sign") fd cdv
  pr_Round_sign : PrF K (He.ga K "Round") "sign" (gAd K "Round" "sign")
  fc_Run_sign : ∃ fd cdv, FunC K "sign" "Run.sign" s_Run_sign (gAd K "Run" "sign") fd cdv
  pr_Run_sign : PrF K (He.ga K "Run") "sign" (gAd K "Run" "sign")
  fc_place_of : ∃ fd, FunC K "place_of" "place_of" s_place_of (He.ga K "place_of") fd (.ref (He.codeOf K ("place_of", none)))
  m_place_of : mg "place_of" = some (.ref (He.ga K "place_of"))
  tb_place_of : GxR.TabB base mg (He.codeOf K ("place_of", none)) (He.cT K ("place_of", none)).2
  tt_place_of : (He.cT K ("place_of", none)).2 ∈ Tabs.T
  tl_place_of : ∀ q, ((He.cT K ("place_of", none)).2, q) ∉ Tabs.L
  fc_seen_by : ∃ fd, FunC K "seen_by" "seen_by" s_seen_by (He.ga K "seen_by") fd (.ref (He.codeOf K ("seen_by", none)))
  m_seen_by : mg "seen_by" = some (.ref (He.ga K "seen_by"))
  fc_Run_known : ∃ fd, FunC K "known" "Run.known" s_Run_known (He.ma K (He.ga K "Run") "known") fd (.ref (He.codeOf K ("Run", some "known")))
  me_Run_known : Meth K (He.ga K "Run") "known" (He.ma K (He.ga K "Run") "known")
  fc_Round_blocks : ∃ fd cdv, FunC K "blocks" "Round.blocks" s_Round_blocks (gAd K "Round" "blocks") fd cdv
  pr_Round_blocks : PrF K (He.ga K "Round") "blocks" (gAd K "Round" "blocks")
  fc__law_right : ∃ fd, FunC K "_law_right" "_law_right" s__law_right (He.ga K "_law_right") fd (.ref (He.codeOf K ("_law_right", none)))
  m__law_right : mg "_law_right" = some (.ref (He.ga K "_law_right"))
  fc_law : ∃ fd, FunC K "law" "law" s_law (He.ga K "law") fd (.ref (He.codeOf K ("law", none)))
  m_law : mg "law" = some (.ref (He.ga K "law"))
  m_Round : mg "Round" = some (.ref (He.ga K "Round"))
  sc_Round : SlX.SCls K (He.ga K "Round")
  m_Run : mg "Run" = some (.ref (He.ga K "Run"))
  sc_Run : SlX.SCls K (He.ga K "Run")
  sl_Round_own_blocks : ∃ p, SlX.Slot1 K (He.ga K "Round") "own_blocks" p 0
  sl_Round_own_sign : ∃ p, SlX.Slot1 K (He.ga K "Round") "own_sign" p 1
  sl_Round_own_size : ∃ p, SlX.Slot1 K (He.ga K "Round") "own_size" p 2
  sl_Round_own_threads : ∃ p, SlX.Slot1 K (He.ga K "Round") "own_threads" p 3
  sl_Run_own_rounds : ∃ p, SlX.Slot1 K (He.ga K "Run") "own_rounds" p 0
  sl_Run_own_sign : ∃ p, SlX.Slot1 K (He.ga K "Run") "own_sign" p 1
  sl_Run_own_threads : ∃ p, SlX.Slot1 K (He.ga K "Run") "own_threads" p 2
  is_Round_Round : SlX.SIsi K (He.ga K "Round") ∧ PySem.W.kitOne K (.ref (He.ga K "Round")) (.ref (He.ga K "Round")) = some true
  is_Run_Round : SlX.SIsi K (He.ga K "Run") ∧ PySem.W.kitOne K (.ref (He.ga K "Run")) (.ref (He.ga K "Round")) = some false
  is_Round_Run : SlX.SIsi K (He.ga K "Round") ∧ PySem.W.kitOne K (.ref (He.ga K "Round")) (.ref (He.ga K "Run")) = some false
  is_Run_Run : SlX.SIsi K (He.ga K "Run") ∧ PySem.W.kitOne K (.ref (He.ga K "Run")) (.ref (He.ga K "Run")) = some true
  ne_Round : PySem.W.findIn K (.ref (He.ga K "Round")) "__ne__" = some (some (.builtin "object.__ne__")) ∧ PySem.W.mroIn K (He.ga K "Round") (.type "object") = some true
  ne_Run : PySem.W.findIn K (.ref (He.ga K "Run")) "__ne__" = some (some (.builtin "object.__ne__")) ∧ PySem.W.mroIn K (He.ga K "Run") (.type "object") = some true
  z_abs : mg "abs" = none
  z_all : mg "all" = none
  z_bool : mg "bool" = none
  z_enumerate : mg "enumerate" = none
  z_int : mg "int" = none
  z_isinstance : mg "isinstance" = none
  z_iter : mg "iter" = none
  z_len : mg "len" = none
  z_list : mg "list" = none
  z_max : mg "max" = none
  z_min : mg "min" = none
  z_next : mg "next" = none
  z_range : mg "range" = none
  z_set : mg "set" = none
  z_sorted : mg "sorted" = none
  z_tuple : mg "tuple" = none
  i_GREATEST : ∃ t, mg "GREATEST" = some (.int 1000000000000000000000000000000000000000000000000000000000000 t)
  i_MAX_ROUNDS : ∃ t, mg "MAX_ROUNDS" = some (.int 6 t)
  i_MAX_THREADS : ∃ t, mg "MAX_THREADS" = some (.int 5 t)
/-! ### the walk -/
section
variable [Tabs] {P : Program} {w : World} {K : PySem.W.Frag} {mg : Str → Option Value} {base : Heap}
theorem d__law_dish (h : Fx K mg base) {fa : Addr} (n : Nat) {A : Around} {outer : List Env} {s : Shared} {H : Hp} {E : XK} (hr : Rm 0 (A.deeper (envOfC "_law_dish" (defScope s__law_dish) s.heap.objs.size fa (.ref (He.codeOf K ("_law_dish", none)))))) :
    PSs (bodyX P w K mg base ["script", "at", "cell", "great", "seed"] "_law_dish" (defScope s__law_dish) fa (.ref (He.codeOf K ("_law_dish", none))) A outer s H E) (defBody s__law_dish) (rdS K (g__law_dish n)) :=
  (dss_cons (ds_set 2 (de_if (dt_cmp op_lt od_lt (de_var 1) (de_callB call_len_seq cd_len (by rfl) h.z_len (by decide +kernel) (da_cons (de_var 0) da_nil)) (nomark _)) (de_ix (de_var 0) (de_var 1) (fun _ _ => rfl)) (de_op op_addA od_add (de_op op_mul od_mul de_int (de_var 1)) de_int)) sc__law_dish.nd)
  (dss_cons (ds_set 3 (de_op op_mod od_mod (de_callTy call_int1 cd_int (by rfl) h.z_int (by decide +kernel) (da_cons (de_callB call_abs cd_abs (by rfl) h.z_abs (by decide +kernel) (da_cons (de_var 2) da_nil)) da_nil)) (de_op op_powW od_pow (de_op op_powW od_pow de_int de_int) de_int)) sc__law_dish.nd)
  (dss_cons (ds_set 4 (de_op op_mod od_mod (de_callTy call_int1 cd_int (by rfl) h.z_int (by decide +kernel) (da_cons (de_op op_addA od_add (de_op op_addA od_add (de_op op_addA od_add (de_op op_mul od_mul (de_var 3) de_int) (de_op op_mul od_mul de_int (de_var 1))) (de_callTy call_int1 cd_int (by rfl) h.z_int (by decide +kernel) (da_cons (de_cmp op_lt od_lt (de_var 2) de_int (nomark _)) da_nil))) de_int) da_nil)) (de_op op_addA od_add (de_op op_powW od_pow de_int de_int) de_int)) sc__law_dish.nd)
  (dss_one (ds_retO (do_lst (da_cons (de_if (dt_cmp op_gt od_gt (de_var 3) (de_op op_powW od_pow de_int de_int) (nomark _)) (de_op op_sub od_sub (de_var 3) (de_op op_powW od_pow de_int de_int)) de_int) (da_cons (de_var 4) (da_cons de_int da_nil)))))))))
theorem cl__law_dish (h : Fx K mg base) : Cl P w K mg base 1 "_law_dish" 2 F__law_dish := by
  obtain ⟨fd, F⟩ := h.fc__law_dish
  exact ⟨⟨_, fd, ["script", "at"], dfn_ok (g := g__law_dish) F sc__law_dish (fun n A outer s H E hr => d__law_dish h n hr), h.m__law_dish, F.kp, F.binds (fun _ _ _ _ _ _ us hl => match us, hl with | [_, _], _ => rfl)⟩, fun n as s as' e => runB_len e⟩
theorem d__law_spoon (h : Fx K mg base) {fa : Addr} (n : Nat) {A : Around} {outer : List Env} {s : Shared} {H : Hp} {E : XK} (hr : Rm 0 (A.deeper (envOfC "_law_spoon" (defScope s__law_spoon) s.heap.objs.size fa (.ref (He.codeOf K ("_law_spoon", none)))))) :
    PSs (bodyX P w K mg base ["dish", "total", "one", "two", "three", "found"] "_law_spoon" (defScope s__law_spoon) fa (.ref (He.codeOf K ("_law_spoon", none))) A outer s H E) (defBody s__law_spoon) (rdS K (g__law_spoon n)) :=
  (dss_cons (ds_if (dt_cmp op_gt od_gt (de_ixO 0 de_int (fun _ _ => rfl)) de_int (nomark _)) (dss_cons (ds_set 5 (de_op op_mod od_mod (de_callTy call_int1 cd_int (by rfl) h.z_int (by decide +kernel) (da_cons (de_ixO 0 de_int (fun _ _ => rfl)) da_nil)) (de_var 1)) sc__law_spoon.nd)
  (dss_cons (ds_itO 0 (de_op op_fdivW od_fdiv (de_ixO 0 de_int (fun _ _ => rfl)) (de_var 1)) de_int)
  (dss_one (ds_ret (de_var 5))))) dss_nil)
  (dss_cons (ds_itO 0 (de_op op_addA od_add (de_ixO 0 de_int (fun _ _ => rfl)) de_int) de_int)
  (dss_cons (ds_set 2 (de_op op_mod od_mod (de_callTy call_int1 cd_int (by rfl) h.z_int (by decide +kernel) (da_cons (de_op op_addA od_add (de_ixO 0 de_int (fun _ _ => rfl)) (de_op op_mul od_mul de_int (de_ixO 0 de_int (fun _ _ => rfl)))) da_nil)) de_int) sc__law_spoon.nd)
  (dss_cons (ds_set 3 (de_op op_mod od_mod (de_callTy call_int1 cd_int (by rfl) h.z_int (by decide +kernel) (da_cons (de_op op_addA od_add (de_op op_addA od_add (de_op op_mul od_mul (de_var 2) (de_var 2)) (de_op op_fdivW od_fdiv (de_ixO 0 de_int (fun _ _ => rfl)) de_int)) (de_op op_mul od_mul de_int (de_ixO 0 de_int (fun _ _ => rfl)))) da_nil)) de_int) sc__law_spoon.nd)
  (dss_cons (ds_set 4 (de_op op_mod od_mod (de_callTy call_int1 cd_int (by rfl) h.z_int (by decide +kernel) (da_cons (de_op op_addA od_add (de_op op_mul od_mul (de_var 3) (de_var 3)) (de_var 2)) da_nil)) de_int) sc__law_spoon.nd)
  (dss_one (ds_ret (de_op op_mod od_mod (de_callTy call_int1 cd_int (by rfl) h.z_int (by decide +kernel) (da_cons (de_op op_fdivW od_fdiv (de_var 4) de_int) da_nil)) (de_var 1)))))))))
theorem cl__law_spoon (h : Fx K mg base) : Cl P w K mg base 1 "_law_spoon" 2 F__law_spoon := by
  obtain ⟨fd, F⟩ := h.fc__law_spoon
  exact ⟨⟨_, fd, ["dish", "total"], dfn_ok (g := g__law_spoon) F sc__law_spoon (fun n A outer s H E hr => d__law_spoon h n hr), h.m__law_spoon, F.kp, F.binds (fun _ _ _ _ _ _ us hl => match us, hl with | [_, _], _ => rfl)⟩, fun n as s as' e => runB_len e⟩
theorem d__law_pick_of (h : Fx K mg base) {fa : Addr} (n : Nat) {A : Around} {outer : List Env} {s : Shared} {H : Hp} {E : XK} (hr : Rm 1 (A.deeper (envOfC "_law_pick_of" (defScope s__law_pick_of) s.heap.objs.size fa (.ref (He.codeOf K ("_law_pick_of", none)))))) :
    PSs (bodyX P w K mg base ["dish", "items"] "_law_pick_of" (defScope s__law_pick_of) fa (.ref (He.codeOf K ("_law_pick_of", none))) A outer s H E) (defBody s__law_pick_of) (rdS K (g__law_pick_of n)) :=
  (dss_one (ds_ret (de_ix (de_var 1) (de_call n (cl__law_spoon h) hr (by decide) (by rfl) (dr_own 0 (dr_cons (de_callB call_len_seq cd_len (by rfl) h.z_len (by decide +kernel) (da_cons (de_var 1) da_nil)) dr_nil))) (fun _ _ => rfl))))
theorem cl__law_pick_of (h : Fx K mg base) : Cl P w K mg base 2 "_law_pick_of" 2 F__law_pick_of := by
  obtain ⟨fd, F⟩ := h.fc__law_pick_of
  exact ⟨⟨_, fd, ["dish", "items"], dfn_ok (g := g__law_pick_of) F sc__law_pick_of (fun n A outer s H E hr => d__law_pick_of h n hr), h.m__law_pick_of, F.kp, F.binds (fun _ _ _ _ _ _ us hl => match us, hl with | [_, _], _ => rfl)⟩, fun n as s as' e => runB_len e⟩
theorem d__law_some_of (h : Fx K mg base) {fa : Addr} (n : Nat) {A : Around} {outer : List Env} {s : Shared} {H : Hp} {E : XK} (hr : Rm 1 (A.deeper (envOfC "_law_some_of" (defScope s__law_some_of) s.heap.objs.size fa (.ref (He.codeOf K ("_law_some_of", none)))))) :
    PSs (bodyX P w K mg base ["dish", "items", "count", "turn", "left", "found"] "_law_some_of" (defScope s__law_some_of) fa (.ref (He.codeOf K ("_law_some_of", none))) A outer s H E) (defBody s__law_some_of) (rdS K (g__law_some_of n)) :=
  (dss_cons (ds_parV 4 5 (dv_O (do_listOf (de_var 1) (by rfl) h.z_list)) (dv_O (do_lst da_nil)) rfl sc__law_some_of.nd)
  (dss_cons (ds_for PassesOwn.never rfl (di_range1 (by rfl) h.z_range (da_cons (de_callB (call_min2 rfl) cd_min (by rfl) h.z_min (by decide +kernel) (da_cons (de_var 2) (da_cons (de_callB call_len_seq cd_len (by rfl) h.z_len (by decide +kernel) (da_cons (de_var 1) da_nil)) da_nil))) da_nil)) (dg_name (is := [3]) 3 (by decide) sc__law_some_of.nd) (dss_one (ds_app 5 (de_popO 4 (de_call n (cl__law_spoon h) hr (by decide) (by rfl) (dr_own 0 (dr_cons (de_lenO 4 (by rfl) h.z_len) dr_nil)))))))
  (dss_one (ds_ret (de_frz 5)))))
theorem cl__law_some_of (h : Fx K mg base) : Cl P w K mg base 2 "_law_some_of" 3 F__law_some_of := by
  obtain ⟨fd, F⟩ := h.fc__law_some_of
  exact ⟨⟨_, fd, ["dish", "items", "count"], dfn_ok (g := g__law_some_of) F sc__law_some_of (fun n A outer s H E hr => d__law_some_of h n hr), h.m__law_some_of, F.kp, F.binds (fun _ _ _ _ _ _ us hl => match us, hl with | [_, _, _], _ => rfl)⟩, fun n as s as' e => runB_len e⟩
theorem d__law_blocks (h : Fx K mg base) {fa : Addr} (n : Nat) {A : Around} {outer : List Env} {s : Shared} {H : Hp} {E : XK} (hr : Rm 2 (A.deeper (envOfC "_law_blocks" (defScope s__law_blocks) s.heap.objs.size fa (.ref (He.codeOf K ("_law_blocks", none)))))) :
    PSs (bodyX P w K mg base ["dish", "threads", "wide", "left", "found", "size"] "_law_blocks" (defScope s__law_blocks) fa (.ref (He.codeOf K ("_law_blocks", none))) A outer s H E) (defBody s__law_blocks) (rdS K (g__law_blocks n)) :=
  (dss_cons (ds_parV 3 4 (dv_D (de_call n (cl__law_some_of h) hr (by decide) (by rfl) (dr_own 0 (dr_cons (de_var 1) (dr_cons (de_callB call_len_seq cd_len (by rfl) h.z_len (by decide +kernel) (da_cons (de_var 1) da_nil)) dr_nil))))) (dv_O (do_lst da_nil)) rfl sc__law_blocks.nd)
  (dss_cons (ds_set 2 (de_call n (cl__law_pick_of h) hr (by decide) (by rfl) (dr_own 0 (dr_cons (de_lst (da_cons de_int (da_cons de_int (da_cons de_int (da_cons de_int (da_cons de_int da_nil)))))) dr_nil))) sc__law_blocks.nd)
  (dss_cons (ds_while n PassesOwn.never (dt_cmp (op_neX (hu64 hr)) od_neX (de_var 3) (de_lst da_nil) (nomark _)) (dss_cons (ds_set 5 (de_op op_addA od_add de_int (de_call n (cl__law_spoon h) hr (by decide) (by rfl) (dr_own 0 (dr_cons (de_callB (call_min2 rfl) cd_min (by rfl) h.z_min (by decide +kernel) (da_cons (de_var 2) (da_cons (de_callB call_len_seq cd_len (by rfl) h.z_len (by decide +kernel) (da_cons (de_var 3) da_nil)) da_nil))) dr_nil)))) sc__law_blocks.nd)
  (dss_cons (ds_app 4 (de_tuple (de_callB (cr_sortX (hu2 hr)) cd_sortX (by rfl) h.z_sorted (by decide +kernel) (da_cons (de_slice (de_var 3) dp_none (dp_some (de_var 5))) da_nil)) (by rfl) h.z_tuple))
  (dss_one (ds_set 3 (de_slice (de_var 3) (dp_some (de_var 5)) dp_none) sc__law_blocks.nd)))))
  (dss_one (ds_ret (de_tuple (de_frz 4) (by rfl) h.z_tuple))))))
theorem cl__law_blocks (h : Fx K mg base) : Cl P w K mg base 3 "_law_blocks" 2 F__law_blocks := by
  obtain ⟨fd, F⟩ := h.fc__law_blocks
  exact ⟨⟨_, fd, ["dish", "threads"], dfn_ok (g := g__law_blocks) F sc__law_blocks (fun n A outer s H E hr => d__law_blocks h n hr), h.m__law_blocks, F.kp, F.binds (fun _ _ _ _ _ _ us hl => match us, hl with | [_, _], _ => rfl)⟩, fun n as s as' e => runB_len e⟩
theorem d__law_rows_drawn (h : Fx K mg base) {fa : Addr} (n : Nat) {A : Around} {outer : List Env} {s : Shared} {H : Hp} {E : XK} (hr : Rm 3 (A.deeper (envOfC "_law_rows_drawn" (defScope s__law_rows_drawn) s.heap.objs.size fa (.ref (He.codeOf K ("_law_rows_drawn", none)))))) :
    PSs (bodyX P w K mg base ["dish", "threads", "count", "way", "turn", "found", "last", "blocks", "rest", "one"] "_law_rows_drawn" (defScope s__law_rows_drawn) fa (.ref (He.codeOf K ("_law_rows_drawn", none))) A outer s H E) (defBody s__law_rows_drawn) (rdS K (g__law_rows_drawn n)) :=
  (dss_cons (ds_parC 5 6 (dv_O (do_lst da_nil)) (dv_D (de_call n (cl__law_pick_of h) hr (by decide) (by rfl) (dr_own 0 (dr_cons (de_var 1) dr_nil)))) rfl sc__law_rows_drawn.nd)
  (dss_cons (ds_set 3 (de_call n (cl__law_spoon h) hr (by decide) (by rfl) (dr_own 0 (dr_cons de_int dr_nil))) sc__law_rows_drawn.nd)
  (dss_cons (ds_for PassesOwn.never rfl (di_range1 (by rfl) h.z_range (da_cons (de_var 2) da_nil)) (dg_name (is := [4]) 4 (by decide) sc__law_rows_drawn.nd) (dss_cons (ds_set 7 (de_call n (cl__law_blocks h) hr (by decide) (by rfl) (dr_own 0 (dr_cons (de_var 1) dr_nil))) sc__law_rows_drawn.nd)
  (dss_cons (ds_set 8 (de_tuple (de_ofO (do_lc (own := [("one", 9)]) rfl sc__law_rows_drawn.nd (di_seq (de_var 1)) (blkOk_by (N := ["dish", "threads", "count", "way", "turn", "found", "last", "blocks", "rest", "one"]) (sc := defScope s__law_rows_drawn) (by decide +kernel)) (by decide) (fun _ _ _ _ _ => (dg_name (is := [9]) 9 (by decide) sc__law_rows_drawn.nd)) (fun _ _ _ _ _ => (dts_one (dt_cmp (op_neX (hu64 hr)) od_neX (de_var 9) (de_var 6) (nomark _)))) (fun _ _ _ _ _ => (de_var 9)))) (by rfl) h.z_tuple) sc__law_rows_drawn.nd)
  (dss_cons (ds_if ((dw_and (dt_cmp (op_eqX (hu64 hr)) od_eqX (de_var 3) de_int (nomark _)) (dw_and (dt_cmp (op_neX (hu64 hr)) od_neX (de_var 8) (de_tup da_nil) (nomark _)) (dw_and1 (dt_cmp op_gt od_gt (de_call n (cl__law_spoon h) hr (by decide) (by rfl) (dr_own 0 (dr_cons de_int dr_nil))) de_int (nomark _)))))).pt (dss_one (ds_set 7 (de_op op_addA od_add (de_call n (cl__law_blocks h) hr (by decide) (by rfl) (dr_own 0 (dr_cons (de_var 8) dr_nil))) (de_tup (da_cons (de_tup (da_cons (de_var 6) da_nil)) da_nil))) sc__law_rows_drawn.nd)) dss_nil)
  (dss_one (ds_app 5 (de_var 7)))))))
  (dss_one (ds_ret (de_tuple (de_frz 5) (by rfl) h.z_tuple))))))
theorem cl__law_rows_drawn (h : Fx K mg base) : Cl P w K mg base 4 "_law_rows_drawn" 3 F__law_rows_drawn := by
  obtain ⟨fd, F⟩ := h.fc__law_rows_drawn
  exact ⟨⟨_, fd, ["dish", "threads", "count"], dfn_ok (g := g__law_rows_drawn) F sc__law_rows_drawn (fun n A outer s H E hr => d__law_rows_drawn h n hr), h.m__law_rows_drawn, F.kp, F.binds (fun _ _ _ _ _ _ us hl => match us, hl with | [_, _, _], _ => rfl)⟩, fun n as s as' e => runB_len e⟩
theorem d_is_integer (h : Fx K mg base) {fa : Addr} (n : Nat) {A : Around} {outer : List Env} {s : Shared} {H : Hp} {E : XK} (hr : Rm 0 (A.deeper (envOfC "is_integer" (defScope s_is_integer) s.heap.objs.size fa (.ref (He.codeOf K ("is_integer", none)))))) :
    PSs (bodyX P w K mg base ["value"] "is_integer" (defScope s_is_integer) fa (.ref (He.codeOf K ("is_integer", none))) A outer s H E) (defBody s_is_integer) (rdS K (g_is_integer n)) :=
  (dss_one (ds_ret (de_and (de_callB call_isi cd_isi (by rfl) h.z_isinstance (by decide +kernel) (da_cons (de_var 0) (da_cons (de_ty (by rfl) h.z_int (by decide +kernel)) da_nil))) (de_and (de_not (de_callB call_isi cd_isi (by rfl) h.z_isinstance (by decide +kernel) (da_cons (de_var 0) (da_cons (de_ty (by rfl) h.z_bool (by decide +kernel)) da_nil)))) (de_one (de_chain op_lt od_lt op_lt od_lt (de_un un_neg ud_neg (de_gint (by rfl) h.i_GREATEST)) (de_var 0) (de_gint (by rfl) h.i_GREATEST)))))))
theorem cl_is_integer (h : Fx K mg base) : Cl P w K mg base 1 "is_integer" 1 F_is_integer := by
  obtain ⟨fd, F⟩ := h.fc_is_integer
  exact ⟨⟨_, fd, ["value"], dfn_ok (g := g_is_integer) F sc_is_integer (fun n A outer s H E hr => d_is_integer h n hr), h.m_is_integer, F.kp, F.binds (fun _ _ _ _ _ _ us hl => match us, hl with | [_], _ => rfl)⟩, fun n as s as' e => runB_len e⟩
theorem d_is_old_name (h : Fx K mg base) {fa : Addr} (n : Nat) {A : Around} {outer : List Env} {s : Shared} {H : Hp} {E : XK} (hr : Rm 1 (A.deeper (envOfC "is_old_name" (defScope s_is_old_name) s.heap.objs.size fa (.ref (He.codeOf K ("is_old_name", none)))))) :
    PSs (bodyX P w K mg base ["value"] "is_old_name" (defScope s_is_old_name) fa (.ref (He.codeOf K ("is_old_name", none))) A outer s H E) (defBody s_is_old_name) (rdS K (g_is_old_name n)) :=
  (dss_one (ds_ret (de_and (de_call n (cl_is_integer h) hr (by decide) (by rfl) (dr_cons (de_var 0) dr_nil)) (de_one (de_cmp op_ge od_ge (de_var 0) de_int (nomark _))))))
theorem cl_is_old_name (h : Fx K mg base) : Cl P w K mg base 2 "is_old_name" 1 F_is_old_name := by
  obtain ⟨fd, F⟩ := h.fc_is_old_name
  exact ⟨⟨_, fd, ["value"], dfn_ok (g := g_is_old_name) F sc_is_old_name (fun n A outer s H E hr => d_is_old_name h n hr), h.m_is_old_name, F.kp, F.binds (fun _ _ _ _ _ _ us hl => match us, hl with | [_], _ => rfl)⟩, fun n as s as' e => runB_len e⟩
theorem d_are_old_names (h : Fx K mg base) {fa : Addr} (n : Nat) {A : Around} {outer : List Env} {s : Shared} {H : Hp} {E : XK} (hr : Rm 2 (A.deeper (envOfC "are_old_names" (defScope s_are_old_names) s.heap.objs.size fa (.ref (He.codeOf K ("are_old_names", none)))))) :
    PSs (bodyX P w K mg base ["value", "one"] "are_old_names" (defScope s_are_old_names) fa (.ref (He.codeOf K ("are_old_names", none))) A outer s H E) (defBody s_are_old_names) (rdS K (g_are_old_names n)) :=
  (dss_one (ds_ret (de_and (de_callB call_isi cd_isi (by rfl) h.z_isinstance (by decide +kernel) (da_cons (de_var 0) (da_cons (de_ty (by rfl) h.z_tuple (by decide +kernel)) da_nil))) (de_and (de_callB (cr_all rfl) cd_all (by rfl) h.z_all (by decide +kernel) (da_cons (de_ofO (do_lc (own := [("one", 1)]) rfl sc_are_old_names.nd (di_seq (de_var 0)) (blkOk_by (N := ["value", "one"]) (sc := defScope s_are_old_names) (by decide +kernel)) (by decide) (fun _ _ _ _ _ => (dg_name (is := [1]) 1 (by decide) sc_are_old_names.nd)) (fun _ _ _ _ _ => dts_nil) (fun _ _ _ _ _ => (de_call n (cl_is_old_name h) hr (by decide) (by rfl) (dr_cons (de_var 1) dr_nil))))) da_nil)) (de_one (de_cmp (op_eqX (hu64 hr)) od_eqX (de_callTy call_list_of cd_list (by rfl) h.z_list (by decide +kernel) (da_cons (de_var 0) da_nil)) (de_sortSetX (de_var 0) rfl (by rfl) h.z_sorted (by rfl) h.z_set) (nomark _)))))))
theorem cl_are_old_names (h : Fx K mg base) : Cl P w K mg base 3 "are_old_names" 1 F_are_old_names := by
  obtain ⟨fd, F⟩ := h.fc_are_old_names
  exact ⟨⟨_, fd, ["value"], dfn_ok (g := g_are_old_names) F sc_are_old_names (fun n A outer s H E hr => d_are_old_names h n hr), h.m_are_old_names, F.kp, F.binds (fun _ _ _ _ _ _ us hl => match us, hl with | [_], _ => rfl)⟩, fun n as s as' e => runB_len e⟩
theorem d_are_threads (h : Fx K mg base) {fa : Addr} (n : Nat) {A : Around} {outer : List Env} {s : Shared} {H : Hp} {E : XK} (hr : Rm 3 (A.deeper (envOfC "are_threads" (defScope s_are_threads) s.heap.objs.size fa (.ref (He.codeOf K ("are_threads", none)))))) :
    PSs (bodyX P w K mg base ["value"] "are_threads" (defScope s_are_threads) fa (.ref (He.codeOf K ("are_threads", none))) A outer s H E) (defBody s_are_threads) (rdS K (g_are_threads n)) :=
  (dss_one (ds_ret (de_and (de_call n (cl_are_old_names h) hr (by decide) (by rfl) (dr_cons (de_var 0) dr_nil)) (de_one (de_chain op_le od_le op_le od_le de_int (de_callB call_len_seq cd_len (by rfl) h.z_len (by decide +kernel) (da_cons (de_var 0) da_nil)) (de_gint (by rfl) h.i_MAX_THREADS))))))
theorem cl_are_threads (h : Fx K mg base) : Cl P w K mg base 4 "are_threads" 1 F_are_threads := by
  obtain ⟨fd, F⟩ := h.fc_are_threads
  exact ⟨⟨_, fd, ["value"], dfn_ok (g := g_are_threads) F sc_are_threads (fun n A outer s H E hr => d_are_threads h n hr), h.m_are_threads, F.kp, F.binds (fun _ _ _ _ _ _ us hl => match us, hl with | [_], _ => rfl)⟩, fun n as s as' e => runB_len e⟩
theorem d_require_threads (h : Fx K mg base) {fa : Addr} (n : Nat) {A : Around} {outer : List Env} {s : Shared} {H : Hp} {E : XK} (hr : Rm 4 (A.deeper (envOfC "require_threads" (defScope s_require_threads) s.heap.objs.size fa (.ref (He.codeOf K ("require_threads", none)))))) :
    PSs (bodyX P w K mg base ["value"] "require_threads" (defScope s_require_threads) fa (.ref (He.codeOf K ("require_threads", none))) A outer s H E) (defBody s_require_threads) (rdS K (g_require_threads n)) :=
  (dss_one (ds_if (dt_not (dt_truth (de_call n (cl_are_threads h) hr (by decide) (by rfl) (dr_cons (de_var 0) dr_nil)))) (dss_one ds_never) dss_nil))
theorem cl_require_threads (h : Fx K mg base) : Cl P w K mg base 5 "require_threads" 1 F_require_threads := by
  obtain ⟨fd, F⟩ := h.fc_require_threads
  exact ⟨⟨_, fd, ["value"], dfn_ok (g := g_require_threads) F sc_require_threads (fun n A outer s H E hr => d_require_threads h n hr), h.m_require_threads, F.kp, F.binds (fun _ _ _ _ _ _ us hl => match us, hl with | [_], _ => rfl)⟩, fun n as s as' e => runB_len e⟩
theorem d_are_blocks (h : Fx K mg base) {fa : Addr} (n : Nat) {A : Around} {outer : List Env} {s : Shared} {H : Hp} {E : XK} (hr : Rm 4 (A.deeper (envOfC "are_blocks" (defScope s_are_blocks) s.heap.objs.size fa (.ref (He.codeOf K ("are_blocks", none)))))) :
    PSs (bodyX P w K mg base ["value", "found", "block", "thread"] "are_blocks" (defScope s_are_blocks) fa (.ref (He.codeOf K ("are_blocks", none))) A outer s H E) (defBody s_are_blocks) (rdS K (g_are_blocks n)) :=
  (dss_cons (ds_if ((dw_or (dt_not (dt_truth (de_callB call_isi cd_isi (by rfl) h.z_isinstance (by decide +kernel) (da_cons (de_var 0) (da_cons (de_ty (by rfl) h.z_tuple (by decide +kernel)) da_nil))))) (dw_or1 (dt_not (dt_truth (de_callB (cr_all rfl) cd_all (by rfl) h.z_all (by decide +kernel) (da_cons (de_ofO (do_lc (own := [("block", 2)]) rfl sc_are_blocks.nd (di_seq (de_var 0)) (blkOk_by (N := ["value", "found", "block", "thread"]) (sc := defScope s_are_blocks) (by decide +kernel)) (by decide) (fun _ _ _ _ _ => (dg_name (is := [2]) 2 (by decide) sc_are_blocks.nd)) (fun _ _ _ _ _ => dts_nil) (fun _ _ _ _ _ => (de_call n (cl_are_threads h) hr (by decide) (by rfl) (dr_cons (de_var 2) dr_nil))))) da_nil))))))).pt (dss_one (ds_ret de_bl)) dss_nil)
  (dss_cons (ds_setLc2 (own := [("block", 2), ("thread", 3)]) (vs1 := [3]) 1 rfl sc_are_blocks.nd (di_seq (de_var 0)) (blkOk_by (N := ["value", "found", "block", "thread"]) (sc := defScope s_are_blocks) (by decide +kernel)) (by decide) (by decide) (by decide) (fun _ _ _ _ _ => (dg_name (is := [2]) 2 (by decide) sc_are_blocks.nd)) (fun _ _ _ _ _ => dts_nil) (fun _ _ _ _ _ => (di_seq (de_var 2))) (fun _ _ _ _ _ => (dg_name (is := [3]) 3 (by decide) sc_are_blocks.nd)) (fun _ _ _ _ _ => dts_nil) (fun _ _ _ _ _ => (de_var 3)))
  (dss_one (ds_ret (de_and (de_chain op_le od_le op_le od_le de_int (de_callB call_len_seq cd_len (by rfl) h.z_len (by decide +kernel) (da_cons (de_var 1) da_nil)) (de_gint (by rfl) h.i_MAX_THREADS)) (de_one (de_cmp (op_eqX (hu64 hr)) od_eqX (de_lenSet (de_var 1) (by rfl) h.z_len (by rfl) h.z_set) (de_callB call_len_seq cd_len (by rfl) h.z_len (by decide +kernel) (da_cons (de_var 1) da_nil)) (nomark _))))))))
theorem cl_are_blocks (h : Fx K mg base) : Cl P w K mg base 5 "are_blocks" 1 F_are_blocks := by
  obtain ⟨fd, F⟩ := h.fc_are_blocks
  exact ⟨⟨_, fd, ["value"], dfn_ok (g := g_are_blocks) F sc_are_blocks (fun n A outer s H E hr => d_are_blocks h n hr), h.m_are_blocks, F.kp, F.binds (fun _ _ _ _ _ _ us hl => match us, hl with | [_], _ => rfl)⟩, fun n as s as' e => runB_len e⟩
theorem d_Round___init__ (h : Fx K mg base) {fa : Addr} (n : Nat) {A : Around} {outer : List Env} {s : Shared} {H : Hp} {E : XK} (hr : Rm 5 (A.deeper (envOfC "Round.__init__" (defScope s_Round___init__) s.heap.objs.size fa (.ref (He.codeOf K ("Round", some "__init__")))))) :
    PSs (bodyX P w K mg base ["self", "blocks", "block", "thread"] "Round.__init__" (defScope s_Round___init__) fa (.ref (He.codeOf K ("Round", some "__init__"))) A outer s H E) (defBody s_Round___init__) (rdN K "Round" (g_Round___init__ n)) :=
  (dsn_cons (dsn_never (dt_not (dt_truth (de_call n (cl_are_blocks h) hr (by decide) (by rfl) (dr_cons (de_var 1) dr_nil)))) (dss_one ds_never))
  (dsn_cons (dsn_set h.sc_Round (h.sl_Round_own_blocks.choose_spec) rfl (by first | exact Or.inl rfl | exact Or.inr (Or.inl rfl) | exact Or.inr (Or.inr rfl)) (by decide) (by decide) (de_var 1))
  (dsn_cons (dsn_set h.sc_Round (h.sl_Round_own_threads.choose_spec) rfl (by first | exact Or.inl rfl | exact Or.inr (Or.inl rfl) | exact Or.inr (Or.inr rfl)) (by decide) (by decide) (de_tuple (de_callB (cr_sortX (hu2 hr)) cd_sortX (by rfl) h.z_sorted (by decide +kernel) (da_cons (de_ofO (do_lc2 (own := [("block", 2), ("thread", 3)]) (vs1 := [3]) rfl sc_Round___init__.nd (di_seq (de_var 1)) (blkOk_by (N := ["self", "blocks", "block", "thread"]) (sc := defScope s_Round___init__) (by decide +kernel)) (by decide) (by decide) (by decide) (fun _ _ _ _ _ => (dg_name (is := [2]) 2 (by decide) sc_Round___init__.nd)) (fun _ _ _ _ _ => dts_nil) (fun _ _ _ _ _ => (di_seq (de_var 2))) (fun _ _ _ _ _ => (dg_name (is := [3]) 3 (by decide) sc_Round___init__.nd)) (fun _ _ _ _ _ => dts_nil) (fun _ _ _ _ _ => (de_var 3)))) da_nil)) (by rfl) h.z_tuple))
  (dsn_cons (dsn_par 1 h.sc_Round (h.sl_Round_own_sign.choose_spec) h.sl_Round_own_threads rfl (by first | exact Or.inl rfl | exact Or.inr (Or.inl rfl) | exact Or.inr (Or.inr rfl)) (by decide) (by decide) (by rfl) h.z_len)
  (dsn_one (dsn_set h.sc_Round (h.sl_Round_own_size.choose_spec) rfl (by first | exact Or.inl rfl | exact Or.inr (Or.inl rfl) | exact Or.inr (Or.inr rfl)) (by decide) (by decide) (de_callB call_len_seq cd_len (by rfl) h.z_len (by decide +kernel) (da_cons (de_var 1) da_nil))))))))
theorem mk_Round (h : Fx K mg base) : Mk K (He.ga K "Round") (He.ma K (He.ga K "Round") "__init__") ∧ FnP P w K mg base 6 (He.ma K (He.ga K "Round") "__init__") (spN K "Round" 1 F_Round___init__) := by
  obtain ⟨fd, F⟩ := h.fc_Round___init__
  exact ⟨h.mk_Round___init__, (dfnN_ok (c := "Round") (g := g_Round___init__) (by decide) (by decide) F sc_Round___init__ (fun n A outer s H E hr => d_Round___init__ h n hr)).pos (F.binds (fun _ _ _ _ _ _ us hl => match us, hl with | [_, _], _ => rfl))⟩
theorem ok_isi_Round (h : Fx K mg base) : ∀ c b, ti_Round c = some b → SlX.SCls K (He.ga K c) ∧ SlX.SIsi K (He.ga K c) ∧ PySem.W.kitOne K (.ref (He.ga K c)) (.ref (He.ga K "Round")) = some b := by
  intro c b e
  unfold ti_Round at e
  by_cases y0 : c = "Round"
  · rw [if_pos y0] at e; cases e; rw [y0]; exact ⟨h.sc_Round, h.is_Round_Round⟩
  rw [if_neg y0] at e
  by_cases y1 : c = "Run"
  · rw [if_pos y1] at e; cases e; rw [y1]; exact ⟨h.sc_Run, h.is_Run_Round⟩
  rw [if_neg y1] at e
  cases e
theorem ok_at_own_threads (h : Fx K mg base) : AtOk P w K mg base 0 "own_threads" ta_own_threads := by
  intro c z e
  unfold ta_own_threads at e
  by_cases y0 : c = "Round"
  · rw [if_pos y0] at e; cases e; rw [y0]; exact ⟨h.sc_Round, h.sl_Round_own_threads⟩
  rw [if_neg y0] at e
  by_cases y1 : c = "Run"
  · rw [if_pos y1] at e; cases e; rw [y1]; exact ⟨h.sc_Run, h.sl_Run_own_threads⟩
  rw [if_neg y1] at e
  cases e
theorem d_are_rounds (h : Fx K mg base) {fa : Addr} (n : Nat) {A : Around} {outer : List Env} {s : Shared} {H : Hp} {E : XK} (hr : Rm 7 (A.deeper (envOfC "are_rounds" (defScope s_are_rounds) s.heap.objs.size fa (.ref (He.codeOf K ("are_rounds", none)))))) :
    PSs (bodyX P w K mg base ["threads", "value", "one"] "are_rounds" (defScope s_are_rounds) fa (.ref (He.codeOf K ("are_rounds", none))) A outer s H E) (defBody s_are_rounds) (rdS K (g_are_rounds n)) :=
  (dss_cons (ds_if ((dw_or (dt_not (dt_truth (de_callB call_isi cd_isi (by rfl) h.z_isinstance (by decide +kernel) (da_cons (de_var 1) (da_cons (de_ty (by rfl) h.z_tuple (by decide +kernel)) da_nil))))) (dw_or1 (dt_cmp op_gt od_gt (de_callB call_len_seq cd_len (by rfl) h.z_len (by decide +kernel) (da_cons (de_var 1) da_nil)) (de_gint (by rfl) h.i_MAX_ROUNDS) (nomark _))))).pt (dss_one (ds_ret de_bl)) dss_nil)
  (dss_one (ds_ret (de_callB (cr_all rfl) cd_all (by rfl) h.z_all (by decide +kernel) (da_cons (de_ofO (do_lc (own := [("one", 2)]) rfl sc_are_rounds.nd (di_seq (de_var 1)) (blkOk_by (N := ["threads", "value", "one"]) (sc := defScope s_are_rounds) (by decide +kernel)) (by decide) (fun _ _ _ _ _ => (dg_name (is := [2]) 2 (by decide) sc_are_rounds.nd)) (fun _ _ _ _ _ => dts_nil) (fun _ _ _ _ _ => (de_and (de_isC (de_var 2) (ok_isi_Round h) (by rfl) h.z_isinstance (by rfl) h.m_Round) (de_one (de_cmp (op_eqX (hu64 hr)) od_eqX (de_attr n (ok_at_own_threads h) hr (by decide) (de_var 2)) (de_var 0) (nomark _))))))) da_nil)))))
theorem cl_are_rounds (h : Fx K mg base) : Cl P w K mg base 8 "are_rounds" 2 F_are_rounds := by
  obtain ⟨fd, F⟩ := h.fc_are_rounds
  exact ⟨⟨_, fd, ["threads", "value"], dfn_ok (g := g_are_rounds) F sc_are_rounds (fun n A outer s H E hr => d_are_rounds h n hr), h.m_are_rounds, F.kp, F.binds (fun _ _ _ _ _ _ us hl => match us, hl with | [_, _], _ => rfl)⟩, fun n as s as' e => runB_len e⟩
theorem ok_at_own_sign (h : Fx K mg base) : AtOk P w K mg base 0 "own_sign" ta_own_sign := by
  intro c z e
  unfold ta_own_sign at e
  by_cases y0 : c = "Round"
  · rw [if_pos y0] at e; cases e; rw [y0]; exact ⟨h.sc_Round, h.sl_Round_own_sign⟩
  rw [if_neg y0] at e
  by_cases y1 : c = "Run"
  · rw [if_pos y1] at e; cases e; rw [y1]; exact ⟨h.sc_Run, h.sl_Run_own_sign⟩
  rw [if_neg y1] at e
  cases e
theorem d_Run___init__ (h : Fx K mg base) {fa : Addr} (n : Nat) {A : Around} {outer : List Env} {s : Shared} {H : Hp} {E : XK} (hr : Rm 8 (A.deeper (envOfC "Run.__init__" (defScope s_Run___init__) s.heap.objs.size fa (.ref (He.codeOf K ("Run", some "__init__")))))) :
    PSs (bodyX P w K mg base ["self", "threads", "rounds", "one"] "Run.__init__" (defScope s_Run___init__) fa (.ref (He.codeOf K ("Run", some "__init__"))) A outer s H E) (defBody s_Run___init__) (rdN K "Run" (g_Run___init__ n)) :=
  (dsn_cons (dsn_expr (de_call n (cl_require_threads h) hr (by decide) (by rfl) (dr_cons (de_var 1) dr_nil)))
  (dsn_cons (dsn_never (dt_not (dt_truth (de_call n (cl_are_rounds h) hr (by decide) (by rfl) (dr_cons (de_var 1) (dr_cons (de_var 2) dr_nil))))) (dss_one ds_never))
  (dsn_cons (dsn_set h.sc_Run (h.sl_Run_own_threads.choose_spec) rfl (by first | exact Or.inl rfl | exact Or.inr (Or.inl rfl) | exact Or.inr (Or.inr rfl)) (by decide) (by decide) (de_var 1))
  (dsn_cons (dsn_set h.sc_Run (h.sl_Run_own_rounds.choose_spec) rfl (by first | exact Or.inl rfl | exact Or.inr (Or.inl rfl) | exact Or.inr (Or.inr rfl)) (by decide) (by decide) (de_var 2))
  (dsn_cons (dsn_set h.sc_Run (h.sl_Run_own_sign.choose_spec) rfl (by first | exact Or.inl rfl | exact Or.inr (Or.inl rfl) | exact Or.inr (Or.inr rfl)) (by decide) (by decide) de_int)
  (dsn_one (dsn_for PassesOwn.never rfl (by decide) (di_seq (de_var 2)) (dg_name (is := [3]) 3 (by decide) sc_Run___init__.nd) (dsn_one (dsn_aug h.sc_Run (h.sl_Run_own_sign.choose_spec) ipd_mul ip_mul rfl (by first | exact Or.inl rfl | exact Or.inr (Or.inl rfl) | exact Or.inr (Or.inr rfl)) (by decide) (by decide) (de_attr n (ok_at_own_sign h) hr (by decide) (de_var 3)))))))))))
theorem mk_Run (h : Fx K mg base) : Mk K (He.ga K "Run") (He.ma K (He.ga K "Run") "__init__") ∧ FnP P w K mg base 9 (He.ma K (He.ga K "Run") "__init__") (spN K "Run" 2 F_Run___init__) := by
  obtain ⟨fd, F⟩ := h.fc_Run___init__
  exact ⟨h.mk_Run___init__, (dfnN_ok (c := "Run") (g := g_Run___init__) (by decide) (by decide) F sc_Run___init__ (fun n A outer s H E hr => d_Run___init__ h n hr)).pos (F.binds (fun _ _ _ _ _ _ us hl => match us, hl with | [_, _, _], _ => rfl))⟩
theorem d__law_run_of (h : Fx K mg base) {fa : Addr} (n : Nat) {A : Around} {outer : List Env} {s : Shared} {H : Hp} {E : XK} (hr : Rm 10 (A.deeper (envOfC "_law_run_of" (defScope s__law_run_of) s.heap.objs.size fa (.ref (He.codeOf K ("_law_run_of", none)))))) :
    PSs (bodyX P w K mg base ["threads", "rows", "blocks"] "_law_run_of" (defScope s__law_run_of) fa (.ref (He.codeOf K ("_law_run_of", none))) A outer s H E) (defBody s__law_run_of) (rdS K (g__law_run_of n)) :=
  (dss_one (ds_ret (de_make n h.mk_Run___init__ (mk_Run h).2 (fun n ds fs e => runN_len e) hr (by decide) (by rfl) h.m_Run (da_cons (de_var 0) (da_cons (de_tuple (de_ofO (do_lc (own := [("blocks", 2)]) rfl sc__law_run_of.nd (di_seq (de_var 1)) (blkOk_by (N := ["threads", "rows", "blocks"]) (sc := defScope s__law_run_of) (by decide +kernel)) (by decide) (fun _ _ _ _ _ => (dg_name (is := [2]) 2 (by decide) sc__law_run_of.nd)) (fun _ _ _ _ _ => dts_nil) (fun _ _ _ _ _ => (de_make n h.mk_Round___init__ (mk_Round h).2 (fun n ds fs e => runN_len e) hr (by decide) (by rfl) h.m_Round (da_cons (de_var 2) da_nil))))) (by rfl) h.z_tuple) da_nil)))))
theorem cl__law_run_of (h : Fx K mg base) : Cl P w K mg base 11 "_law_run_of" 2 F__law_run_of := by
  obtain ⟨fd, F⟩ := h.fc__law_run_of
  exact ⟨⟨_, fd, ["threads", "rows"], dfn_ok (g := g__law_run_of) F sc__law_run_of (fun n A outer s H E hr => d__law_run_of h n hr), h.m__law_run_of, F.kp, F.binds (fun _ _ _ _ _ _ us hl => match us, hl with | [_, _], _ => rfl)⟩, fun n as s as' e => runB_len e⟩
theorem ok_at_own_blocks (h : Fx K mg base) : AtOk P w K mg base 0 "own_blocks" ta_own_blocks := by
  intro c z e
  unfold ta_own_blocks at e
  by_cases y0 : c = "Round"
  · rw [if_pos y0] at e; cases e; rw [y0]; exact ⟨h.sc_Round, h.sl_Round_own_blocks⟩
  rw [if_neg y0] at e
  cases e
theorem d_Round___eq__ (h : Fx K mg base) {fa : Addr} (n : Nat) {A : Around} {outer : List Env} {s : Shared} {H : Hp} {E : XK} (hr : Rm 7 (A.deeper (envOfC "Round.__eq__" (defScope s_Round___eq__) s.heap.objs.size fa (.ref (He.codeOf K ("Round", some "__eq__")))))) :
    PSs (bodyX P w K mg base ["self", "other"] "Round.__eq__" (defScope s_Round___eq__) fa (.ref (He.codeOf K ("Round", some "__eq__"))) A outer s H E) (defBody s_Round___eq__) (rdS K (g_Round___eq__ n)) :=
  (dss_one (ds_ret (de_and (de_isC (de_var 1) (ok_isi_Round h) (by rfl) h.z_isinstance (by rfl) h.m_Round) (de_one (de_cmp (op_eqX (hu64 hr)) od_eqX (de_attr n (ok_at_own_blocks h) hr (by decide) (de_var 0)) (de_attr n (ok_at_own_blocks h) hr (by decide) (de_var 1)) (nomark _))))))
theorem fp_Round___eq__ (h : Fx K mg base) : FnP P w K mg base 8 (He.ma K (He.ga K "Round") "__eq__") (spI K 2 F_Round___eq__) := by
  obtain ⟨fd, F⟩ := h.fc_Round___eq__
  exact (dfn_ok (g := g_Round___eq__) F sc_Round___eq__ (fun n A outer s H E hr => d_Round___eq__ h n hr)).pos (F.binds (fun _ _ _ _ _ _ us hl => match us, hl with | [_, _], _ => rfl))
theorem ok_isi_Run (h : Fx K mg base) : ∀ c b, ti_Run c = some b → SlX.SCls K (He.ga K c) ∧ SlX.SIsi K (He.ga K c) ∧ PySem.W.kitOne K (.ref (He.ga K c)) (.ref (He.ga K "Run")) = some b := by
  intro c b e
  unfold ti_Run at e
  by_cases y0 : c = "Round"
  · rw [if_pos y0] at e; cases e; rw [y0]; exact ⟨h.sc_Round, h.is_Round_Run⟩
  rw [if_neg y0] at e
  by_cases y1 : c = "Run"
  · rw [if_pos y1] at e; cases e; rw [y1]; exact ⟨h.sc_Run, h.is_Run_Run⟩
  rw [if_neg y1] at e
  cases e
theorem ok_tq_Round (h : Fx K mg base) : EqOk P w K mg base 8 tq_Round := by
  intro c z e
  unfold tq_Round at e
  by_cases y0 : c = "Round"
  · rw [if_pos y0] at e; cases e; rw [y0]; exact ⟨⟨_, h.me_Round___eq__, (fp_Round___eq__ h).mono (by decide)⟩, fun n as s as' e => runB_len e, h.ne_Round.1, h.ne_Round.2⟩
  rw [if_neg y0] at e
  cases e
theorem ok_at_own_rounds (h : Fx K mg base) : AtOk P w K mg base 0 "own_rounds" ta_own_rounds := by
  intro c z e
  unfold ta_own_rounds at e
  by_cases y0 : c = "Run"
  · rw [if_pos y0] at e; cases e; rw [y0]; exact ⟨h.sc_Run, h.sl_Run_own_rounds⟩
  rw [if_neg y0] at e
  cases e
theorem d_Run___eq__ (h : Fx K mg base) {fa : Addr} (n : Nat) {A : Around} {outer : List Env} {s : Shared} {H : Hp} {E : XK} (hr : Rm 10 (A.deeper (envOfC "Run.__eq__" (defScope s_Run___eq__) s.heap.objs.size fa (.ref (He.codeOf K ("Run", some "__eq__")))))) :
    PSs (bodyX P w K mg base ["self", "other"] "Run.__eq__" (defScope s_Run___eq__) fa (.ref (He.codeOf K ("Run", some "__eq__"))) A outer s H E) (defBody s_Run___eq__) (rdS K (g_Run___eq__ n)) :=
  (dss_one (ds_ret (de_and (de_isC (de_var 1) (ok_isi_Run h) (by rfl) h.z_isinstance (by rfl) h.m_Run) (de_and (de_cmp (op_eqX (hu64 hr)) od_eqX (de_attr n (ok_at_own_threads h) hr (by decide) (de_var 0)) (de_attr n (ok_at_own_threads h) hr (by decide) (de_var 1)) (nomark _)) (de_one (de_eqI n (ok_tq_Round h) hr (by decide) (de_attr n (ok_at_own_rounds h) hr (by decide) (de_var 0)) (de_attr n (ok_at_own_rounds h) hr (by decide) (de_var 1))))))))
theorem fp_Run___eq__ (h : Fx K mg base) : FnP P w K mg base 11 (He.ma K (He.ga K "Run") "__eq__") (spI K 2 F_Run___eq__) := by
  obtain ⟨fd, F⟩ := h.fc_Run___eq__
  exact (dfn_ok (g := g_Run___eq__) F sc_Run___eq__ (fun n A outer s H E hr => d_Run___eq__ h n hr)).pos (F.binds (fun _ _ _ _ _ _ us hl => match us, hl with | [_, _], _ => rfl))
theorem d_is_between (h : Fx K mg base) {fa : Addr} (n : Nat) {A : Around} {outer : List Env} {s : Shared} {H : Hp} {E : XK} (hr : Rm 1 (A.deeper (envOfC "is_between" (defScope s_is_between) s.heap.objs.size fa (.ref (He.codeOf K ("is_between", none)))))) :
    PSs (bodyX P w K mg base ["value", "low", "high"] "is_between" (defScope s_is_between) fa (.ref (He.codeOf K ("is_between", none))) A outer s H E) (defBody s_is_between) (rdS K (g_is_between n)) :=
  (dss_one (ds_ret (de_and (de_call n (cl_is_integer h) hr (by decide) (by rfl) (dr_cons (de_var 0) dr_nil)) (de_one (de_chain op_le od_le op_le od_le (de_var 1) (de_var 0) (de_var 2))))))
theorem cl_is_between (h : Fx K mg base) : Cl P w K mg base 2 "is_between" 3 F_is_between := by
  obtain ⟨fd, F⟩ := h.fc_is_between
  exact ⟨⟨_, fd, ["value", "low", "high"], dfn_ok (g := g_is_between) F sc_is_between (fun n A outer s H E hr => d_is_between h n hr), h.m_is_between, F.kp, F.binds (fun _ _ _ _ _ _ us hl => match us, hl with | [_, _, _], _ => rfl)⟩, fun n as s as' e => runB_len e⟩
theorem d_require_number (h : Fx K mg base) {fa : Addr} (n : Nat) {A : Around} {outer : List Env} {s : Shared} {H : Hp} {E : XK} (hr : Rm 2 (A.deeper (envOfC "require_number" (defScope s_require_number) s.heap.objs.size fa (.ref (He.codeOf K ("require_number", none)))))) :
    PSs (bodyX P w K mg base ["value", "low", "high"] "require_number" (defScope s_require_number) fa (.ref (He.codeOf K ("require_number", none))) A outer s H E) (defBody s_require_number) (rdS K (g_require_number n)) :=
  (dss_one (ds_if (dt_not (dt_truth (de_call n (cl_is_between h) hr (by decide) (by rfl) (dr_cons (de_var 0) (dr_cons (de_var 1) (dr_cons (de_var 2) dr_nil)))))) (dss_one ds_never) dss_nil))
theorem cl_require_number (h : Fx K mg base) : Cl P w K mg base 3 "require_number" 3 F_require_number := by
  obtain ⟨fd, F⟩ := h.fc_require_number
  exact ⟨⟨_, fd, ["value", "low", "high"], dfn_ok (g := g_require_number) F sc_require_number (fun n A outer s H E hr => d_require_number h n hr), h.m_require_number, F.kp, F.binds (fun _ _ _ _ _ _ us hl => match us, hl with | [_, _, _], _ => rfl)⟩, fun n as s as' e => runB_len e⟩
theorem d_Run_shortened (h : Fx K mg base) {fa : Addr} (n : Nat) {A : Around} {outer : List Env} {s : Shared} {H : Hp} {E : XK} (hr : Rm 10 (A.deeper (envOfC "Run.shortened" (defScope s_Run_shortened) s.heap.objs.size fa (.ref (He.codeOf K ("Run", some "shortened")))))) :
    PSs (bodyX P w K mg base ["self", "length"] "Run.shortened" (defScope s_Run_shortened) fa (.ref (He.codeOf K ("Run", some "shortened"))) A outer s H E) (defBody s_Run_shortened) (rdS K (g_Run_shortened n)) :=
  (dss_cons (ds_expr (de_call n (cl_require_number h) hr (by decide) (by rfl) (dr_cons (de_var 1) (dr_cons de_int (dr_cons (de_callB call_len_seq cd_len (by rfl) h.z_len (by decide +kernel) (da_cons (de_attr n (ok_at_own_rounds h) hr (by decide) (de_var 0)) da_nil)) dr_nil)))))
  (dss_one (ds_ret (de_make n h.mk_Run___init__ (mk_Run h).2 (fun n ds fs e => runN_len e) hr (by decide) (by rfl) h.m_Run (da_cons (de_attr n (ok_at_own_threads h) hr (by decide) (de_var 0)) (da_cons (de_slice (de_attr n (ok_at_own_rounds h) hr (by decide) (de_var 0)) dp_none (dp_some (de_var 1))) da_nil))))))
theorem fp_Run_shortened (h : Fx K mg base) : FnP P w K mg base 11 (He.ma K (He.ga K "Run") "shortened") (spI K 2 F_Run_shortened) := by
  obtain ⟨fd, F⟩ := h.fc_Run_shortened
  exact (dfn_ok (g := g_Run_shortened) F sc_Run_shortened (fun n A outer s H E hr => d_Run_shortened h n hr)).pos (F.binds (fun _ _ _ _ _ _ us hl => match us, hl with | [_, _], _ => rfl))
theorem d_require_thread (h : Fx K mg base) {fa : Addr} (n : Nat) {A : Around} {outer : List Env} {s : Shared} {H : Hp} {E : XK} (hr : Rm 2 (A.deeper (envOfC "require_thread" (defScope s_require_thread) s.heap.objs.size fa (.ref (He.codeOf K ("require_thread", none)))))) :
    PSs (bodyX P w K mg base ["run", "thread"] "require_thread" (defScope s_require_thread) fa (.ref (He.codeOf K ("require_thread", none))) A outer s H E) (defBody s_require_thread) (rdS K (g_require_thread n)) :=
  (dss_one (ds_if ((dw_or (dt_not (dt_truth (de_call n (cl_is_old_name h) hr (by decide) (by rfl) (dr_cons (de_var 1) dr_nil)))) (dw_or1 (dt_cmp op_notIn_seq od_notIn (de_var 1) (de_attr n (ok_at_own_threads h) hr (by decide) (de_var 0)) (by rfl))))).pt (dss_one ds_never) dss_nil))
theorem cl_require_thread (h : Fx K mg base) : Cl P w K mg base 3 "require_thread" 2 F_require_thread := by
  obtain ⟨fd, F⟩ := h.fc_require_thread
  exact ⟨⟨_, fd, ["run", "thread"], dfn_ok (g := g_require_thread) F sc_require_thread (fun n A outer s H E hr => d_require_thread h n hr), h.m_require_thread, F.kp, F.binds (fun _ _ _ _ _ _ us hl => match us, hl with | [_, _], _ => rfl)⟩, fun n as s as' e => runB_len e⟩
theorem d_is_last_alone (h : Fx K mg base) {fa : Addr} (n : Nat) {A : Around} {outer : List Env} {s : Shared} {H : Hp} {E : XK} (hr : Rm 1 (A.deeper (envOfC "is_last_alone" (defScope s_is_last_alone) s.heap.objs.size fa (.ref (He.codeOf K ("is_last_alone", none)))))) :
    PSs (bodyX P w K mg base ["round_of", "thread"] "is_last_alone" (defScope s_is_last_alone) fa (.ref (He.codeOf K ("is_last_alone", none))) A outer s H E) (defBody s_is_last_alone) (rdS K (g_is_last_alone n)) :=
  (dss_one (ds_ret (de_cmp (op_eqX (hu64 hr)) od_eqX (de_ix (de_attr n (ok_at_own_blocks h) hr (by decide) (de_var 0)) (de_un un_neg ud_neg de_int) (fun _ _ => rfl)) (de_tup (da_cons (de_var 1) da_nil)) (nomark _))))
theorem cl_is_last_alone (h : Fx K mg base) : Cl P w K mg base 2 "is_last_alone" 2 F_is_last_alone := by
  obtain ⟨fd, F⟩ := h.fc_is_last_alone
  exact ⟨⟨_, fd, ["round_of", "thread"], dfn_ok (g := g_is_last_alone) F sc_is_last_alone (fun n A outer s H E hr => d_is_last_alone h n hr), h.m_is_last_alone, F.kp, F.binds (fun _ _ _ _ _ _ us hl => match us, hl with | [_, _], _ => rfl)⟩, fun n as s as' e => runB_len e⟩
theorem d_is_hidden_in (h : Fx K mg base) {fa : Addr} (n : Nat) {A : Around} {outer : List Env} {s : Shared} {H : Hp} {E : XK} (hr : Rm 2 (A.deeper (envOfC "is_hidden_in" (defScope s_is_hidden_in) s.heap.objs.size fa (.ref (He.codeOf K ("is_hidden_in", none)))))) :
    PSs (bodyX P w K mg base ["run", "thread", "one"] "is_hidden_in" (defScope s_is_hidden_in) fa (.ref (He.codeOf K ("is_hidden_in", none))) A outer s H E) (defBody s_is_hidden_in) (rdS K (g_is_hidden_in n)) :=
  (dss_one (ds_ret (de_callB (cr_all rfl) cd_all (by rfl) h.z_all (by decide +kernel) (da_cons (de_ofO (do_lc (own := [("one", 2)]) rfl sc_is_hidden_in.nd (di_seq (de_attr n (ok_at_own_rounds h) hr (by decide) (de_var 0))) (blkOk_by (N := ["run", "thread", "one"]) (sc := defScope s_is_hidden_in) (by decide +kernel)) (by decide) (fun _ _ _ _ _ => (dg_name (is := [2]) 2 (by decide) sc_is_hidden_in.nd)) (fun _ _ _ _ _ => dts_nil) (fun _ _ _ _ _ => (de_call n (cl_is_last_alone h) hr (by decide) (by rfl) (dr_cons (de_var 2) (dr_cons (de_var 1) dr_nil)))))) da_nil))))
theorem cl_is_hidden_in (h : Fx K mg base) : Cl P w K mg base 3 "is_hidden_in" 2 F_is_hidden_in := by
  obtain ⟨fd, F⟩ := h.fc_is_hidden_in
  exact ⟨⟨_, fd, ["run", "thread"], dfn_ok (g := g_is_hidden_in) F sc_is_hidden_in (fun n A outer s H E hr => d_is_hidden_in h n hr), h.m_is_hidden_in, F.kp, F.binds (fun _ _ _ _ _ _ us hl => match us, hl with | [_, _], _ => rfl)⟩, fun n as s as' e => runB_len e⟩
theorem d_Run_is_hidden (h : Fx K mg base) {fa : Addr} (n : Nat) {A : Around} {outer : List Env} {s : Shared} {H : Hp} {E : XK} (hr : Rm 3 (A.deeper (envOfC "Run.is_hidden" (defScope s_Run_is_hidden) s.heap.objs.size fa (.ref (He.codeOf K ("Run", some "is_hidden")))))) :
    PSs (bodyX P w K mg base ["self", "thread"] "Run.is_hidden" (defScope s_Run_is_hidden) fa (.ref (He.codeOf K ("Run", some "is_hidden"))) A outer s H E) (defBody s_Run_is_hidden) (rdS K (g_Run_is_hidden n)) :=
  (dss_cons (ds_expr (de_call n (cl_require_thread h) hr (by decide) (by rfl) (dr_cons (de_var 0) (dr_cons (de_var 1) dr_nil))))
  (dss_one (ds_ret (de_call n (cl_is_hidden_in h) hr (by decide) (by rfl) (dr_cons (de_var 0) (dr_cons (de_var 1) dr_nil))))))
theorem fp_Run_is_hidden (h : Fx K mg base) : FnP P w K mg base 4 (He.ma K (He.ga K "Run") "is_hidden") (spI K 2 F_Run_is_hidden) := by
  obtain ⟨fd, F⟩ := h.fc_Run_is_hidden
  exact (dfn_ok (g := g_Run_is_hidden) F sc_Run_is_hidden (fun n A outer s H E hr => d_Run_is_hidden h n hr)).pos (F.binds (fun _ _ _ _ _ _ us hl => match us, hl with | [_, _], _ => rfl))
theorem d_require_one (h : Fx K mg base) {fa : Addr} (n : Nat) {A : Around} {outer : List Env} {s : Shared} {H : Hp} {E : XK} (hr : Rm 2 (A.deeper (envOfC "require_one" (defScope s_require_one) s.heap.objs.size fa (.ref (He.codeOf K ("require_one", none)))))) :
    PSs (bodyX P w K mg base ["round_of", "thread"] "require_one" (defScope s_require_one) fa (.ref (He.codeOf K ("require_one", none))) A outer s H E) (defBody s_require_one) (rdS K (g_require_one n)) :=
  (dss_one (ds_if ((dw_or (dt_not (dt_truth (de_call n (cl_is_old_name h) hr (by decide) (by rfl) (dr_cons (de_var 1) dr_nil)))) (dw_or1 (dt_cmp op_notIn_seq od_notIn (de_var 1) (de_attr n (ok_at_own_threads h) hr (by decide) (de_var 0)) (by rfl))))).pt (dss_one ds_never) dss_nil))
theorem cl_require_one (h : Fx K mg base) : Cl P w K mg base 3 "require_one" 2 F_require_one := by
  obtain ⟨fd, F⟩ := h.fc_require_one
  exact ⟨⟨_, fd, ["round_of", "thread"], dfn_ok (g := g_require_one) F sc_require_one (fun n A outer s H E hr => d_require_one h n hr), h.m_require_one, F.kp, F.binds (fun _ _ _ _ _ _ us hl => match us, hl with | [_, _], _ => rfl)⟩, fun n as s as' e => runB_len e⟩
theorem d_Round_without (h : Fx K mg base) {fa : Addr} (n : Nat) {A : Around} {outer : List Env} {s : Shared} {H : Hp} {E : XK} (hr : Rm 7 (A.deeper (envOfC "Round.without" (defScope s_Round_without) s.heap.objs.size fa (.ref (He.codeOf K ("Round", some "without")))))) :
    PSs (bodyX P w K mg base ["self", "thread", "rows", "block", "one", "row"] "Round.without" (defScope s_Round_without) fa (.ref (He.codeOf K ("Round", some "without"))) A outer s H E) (defBody s_Round_without) (rdS K (g_Round_without n)) :=
  (dss_cons (ds_expr (de_call n (cl_require_one h) hr (by decide) (by rfl) (dr_cons (de_var 0) (dr_cons (de_var 1) dr_nil))))
  (dss_cons (ds_if (dt_cmp (op_eqX (hu64 hr)) od_eqX (de_callB call_len_seq cd_len (by rfl) h.z_len (by decide +kernel) (da_cons (de_attr n (ok_at_own_threads h) hr (by decide) (de_var 0)) da_nil)) de_int (nomark _)) (dss_one ds_never) dss_nil)
  (dss_cons (ds_setLc (own := [("block", 3)]) 2 rfl sc_Round_without.nd (di_seq (de_attr n (ok_at_own_blocks h) hr (by decide) (de_var 0))) (blkOk_by (N := ["self", "thread", "rows", "block", "one", "row"]) (sc := defScope s_Round_without) (by decide +kernel)) (by decide) (fun _ _ _ _ _ => (dg_name (is := [3]) 3 (by decide) sc_Round_without.nd)) (fun _ _ _ _ _ => dts_nil) (fun _ _ _ _ _ => (de_tuple (de_ofO (do_lc (own := [("one", 4)]) rfl sc_Round_without.nd (di_seq (de_var 3)) (blkOk_by (N := ["self", "thread", "rows", "block", "one", "row"]) (by rfl)) (by decide) (fun _ _ _ _ _ => (dg_name (is := [4]) 4 (by decide) sc_Round_without.nd)) (fun _ _ _ _ _ => (dts_one (dt_cmp (op_neX (hu64 hr)) od_neX (de_var 4) (de_var 1) (nomark _)))) (fun _ _ _ _ _ => (de_var 4)))) (by rfl) h.z_tuple)))
  (dss_one (ds_ret (de_make n h.mk_Round___init__ (mk_Round h).2 (fun n ds fs e => runN_len e) hr (by decide) (by rfl) h.m_Round (da_cons (de_tuple (de_ofO (do_lc (own := [("row", 5)]) rfl sc_Round_without.nd (di_seq (de_var 2)) (blkOk_by (N := ["self", "thread", "rows", "block", "one", "row"]) (sc := defScope s_Round_without) (by decide +kernel)) (by decide) (fun _ _ _ _ _ => (dg_name (is := [5]) 5 (by decide) sc_Round_without.nd)) (fun _ _ _ _ _ => (dts_one (dt_cmp (op_neX (hu64 hr)) od_neX (de_var 5) (de_tup da_nil) (nomark _)))) (fun _ _ _ _ _ => (de_var 5)))) (by rfl) h.z_tuple) da_nil)))))))
theorem fp_Round_without (h : Fx K mg base) : FnP P w K mg base 8 (He.ma K (He.ga K "Round") "without") (spI K 2 F_Round_without) := by
  obtain ⟨fd, F⟩ := h.fc_Round_without
  exact (dfn_ok (g := g_Round_without) F sc_Round_without (fun n A outer s H E hr => d_Round_without h n hr)).pos (F.binds (fun _ _ _ _ _ _ us hl => match us, hl with | [_, _], _ => rfl))
theorem ok_tm_without_Round (h : Fx K mg base) : MtOk P w K mg base 8 "without" 2 tm_without_Round := by
  intro c z e
  unfold tm_without_Round at e
  by_cases y0 : c = "Round"
  · rw [if_pos y0] at e; cases e; rw [y0]; exact ⟨h.sc_Round, ⟨_, h.me_Round_without, (fp_Round_without h).mono (by decide)⟩, fun n as s as' e => runB_len e⟩
  rw [if_neg y0] at e
  cases e
theorem d_run_without (h : Fx K mg base) {fa : Addr} (n : Nat) {A : Around} {outer : List Env} {s : Shared} {H : Hp} {E : XK} (hr : Rm 10 (A.deeper (envOfC "run_without" (defScope s_run_without) s.heap.objs.size fa (.ref (He.codeOf K ("run_without", none)))))) :
    PSs (bodyX P w K mg base ["run", "thread", "threads", "one"] "run_without" (defScope s_run_without) fa (.ref (He.codeOf K ("run_without", none))) A outer s H E) (defBody s_run_without) (rdS K (g_run_without n)) :=
  (dss_cons (ds_set 2 (de_tuple (de_ofO (do_lc (own := [("one", 3)]) rfl sc_run_without.nd (di_seq (de_attr n (ok_at_own_threads h) hr (by decide) (de_var 0))) (blkOk_by (N := ["run", "thread", "threads", "one"]) (sc := defScope s_run_without) (by decide +kernel)) (by decide) (fun _ _ _ _ _ => (dg_name (is := [3]) 3 (by decide) sc_run_without.nd)) (fun _ _ _ _ _ => (dts_one (dt_cmp (op_neX (hu64 hr)) od_neX (de_var 3) (de_var 1) (nomark _)))) (fun _ _ _ _ _ => (de_var 3)))) (by rfl) h.z_tuple) sc_run_without.nd)
  (dss_one (ds_ret (de_make n h.mk_Run___init__ (mk_Run h).2 (fun n ds fs e => runN_len e) hr (by decide) (by rfl) h.m_Run (da_cons (de_var 2) (da_cons (de_tuple (de_ofO (do_lc (own := [("one", 3)]) rfl sc_run_without.nd (di_seq (de_attr n (ok_at_own_rounds h) hr (by decide) (de_var 0))) (blkOk_by (N := ["run", "thread", "threads", "one"]) (sc := defScope s_run_without) (by decide +kernel)) (by decide) (fun _ _ _ _ _ => (dg_name (is := [3]) 3 (by decide) sc_run_without.nd)) (fun _ _ _ _ _ => dts_nil) (fun _ _ _ _ _ => (de_meth n (ok_tm_without_Round h) hr (by decide) (de_var 3) (dr_cons (de_var 1) dr_nil))))) (by rfl) h.z_tuple) da_nil))))))
theorem cl_run_without (h : Fx K mg base) : Cl P w K mg base 11 "run_without" 2 F_run_without := by
  obtain ⟨fd, F⟩ := h.fc_run_without
  exact ⟨⟨_, fd, ["run", "thread"], dfn_ok (g := g_run_without) F sc_run_without (fun n A outer s H E hr => d_run_without h n hr), h.m_run_without, F.kp, F.binds (fun _ _ _ _ _ _ us hl => match us, hl with | [_, _], _ => rfl)⟩, fun n as s as' e => runB_len e⟩
theorem d_Run_without (h : Fx K mg base) {fa : Addr} (n : Nat) {A : Around} {outer : List Env} {s : Shared} {H : Hp} {E : XK} (hr : Rm 11 (A.deeper (envOfC "Run.without" (defScope s_Run_without) s.heap.objs.size fa (.ref (He.codeOf K ("Run", some "without")))))) :
    PSs (bodyX P w K mg base ["self", "thread"] "Run.without" (defScope s_Run_without) fa (.ref (He.codeOf K ("Run", some "without"))) A outer s H E) (defBody s_Run_without) (rdS K (g_Run_without n)) :=
  (dss_cons (ds_expr (de_call n (cl_require_thread h) hr (by decide) (by rfl) (dr_cons (de_var 0) (dr_cons (de_var 1) dr_nil))))
  (dss_cons (ds_if (dt_cmp (op_eqX (hu64 hr)) od_eqX (de_callB call_len_seq cd_len (by rfl) h.z_len (by decide +kernel) (da_cons (de_attr n (ok_at_own_threads h) hr (by decide) (de_var 0)) da_nil)) de_int (nomark _)) (dss_one ds_never) dss_nil)
  (dss_one (ds_ret (de_call n (cl_run_without h) hr (by decide) (by rfl) (dr_cons (de_var 0) (dr_cons (de_var 1) dr_nil)))))))
theorem fp_Run_without (h : Fx K mg base) : FnP P w K mg base 12 (He.ma K (He.ga K "Run") "without") (spI K 2 F_Run_without) := by
  obtain ⟨fd, F⟩ := h.fc_Run_without
  exact (dfn_ok (g := g_Run_without) F sc_Run_without (fun n A outer s H E hr => d_Run_without h n hr)).pos (F.binds (fun _ _ _ _ _ _ us hl => match us, hl with | [_, _], _ => rfl))
theorem it_Run___iter__ {k : Nat} (h : Fx K mg base) : ItP P w K mg base (k + 1) (He.ma K (He.ga K "Run") "__iter__") (He.ga K "Run") 0 := by
  obtain ⟨fd, F⟩ := h.fc_Run___iter__
  exact itP_ok (me := "self") F sc_Run___iter__ (F.binds (fun _ _ _ _ _ _ us hl => match us, hl with | [_], _ => rfl)) (fun A outer s H => ds_iter h.sc_Run h.sl_Run_own_rounds (by rfl) h.z_iter)
theorem d_Round_sign (h : Fx K mg base) {fa : Addr} {cdv : Value} (n : Nat) {A : Around} {outer : List Env} {s : Shared} {H : Hp} {E : XK} (hr : Rm 1 (A.deeper (envOfC "Round.sign" (defScope s_Round_sign) s.heap.objs.size fa cdv))) :
    PSs (bodyX P w K mg base ["self"] "Round.sign" (defScope s_Round_sign) fa cdv A outer s H E) (defBody s_Round_sign) (rdS K (g_Round_sign n)) :=
  (dss_one (ds_ret (de_attr n (ok_at_own_sign h) hr (by decide) (de_var 0))))
theorem fp_Round_sign (h : Fx K mg base) : FnP P w K mg base 2 (gAd K "Round" "sign") (spI K 1 F_Round_sign) := by
  obtain ⟨fd, cdv, F⟩ := h.fc_Round_sign
  exact (dfn_ok (g := g_Round_sign) F sc_Round_sign (fun n A outer s H E hr => d_Round_sign h n hr)).pos (F.binds (fun _ _ _ _ _ _ us hl => match us, hl with | [_], _ => rfl))
theorem d_Run_sign (h : Fx K mg base) {fa : Addr} {cdv : Value} (n : Nat) {A : Around} {outer : List Env} {s : Shared} {H : Hp} {E : XK} (hr : Rm 1 (A.deeper (envOfC "Run.sign" (defScope s_Run_sign) s.heap.objs.size fa cdv))) :
    PSs (bodyX P w K mg base ["self"] "Run.sign" (defScope s_Run_sign) fa cdv A outer s H E) (defBody s_Run_sign) (rdS K (g_Run_sign n)) :=
  (dss_one (ds_ret (de_attr n (ok_at_own_sign h) hr (by decide) (de_var 0))))
theorem fp_Run_sign (h : Fx K mg base) : FnP P w K mg base 2 (gAd K "Run" "sign") (spI K 1 F_Run_sign) := by
  obtain ⟨fd, cdv, F⟩ := h.fc_Run_sign
  exact (dfn_ok (g := g_Run_sign) F sc_Run_sign (fun n A outer s H E hr => d_Run_sign h n hr)).pos (F.binds (fun _ _ _ _ _ _ us hl => match us, hl with | [_], _ => rfl))
theorem d_place_of (h : Fx K mg base) {fa : Addr} (n : Nat) {A : Around} {outer : List Env} {s : Shared} {H : Hp} {E : XK} (hr : Rm 1 (A.deeper (envOfC "place_of" (defScope s_place_of) s.heap.objs.size fa (.ref (He.codeOf K ("place_of", none)))))) :
    PSs (bodyX P w K mg base ["round_of", "thread", "place", "block"] "place_of" (defScope s_place_of) fa (.ref (He.codeOf K ("place_of", none))) A outer s H E) (defBody s_place_of) (rdS K (g_place_of n)) :=
  (dss_one (ds_ret (de_next (own := [("place", 2), ("block", 3)]) (k := 0) hr rfl sc_place_of.nd (by rfl) h.z_next h.tb_place_of h.tt_place_of h.tl_place_of rfl (di_enum (by rfl) h.z_enumerate (da_cons (de_attr n (ok_at_own_blocks h) hr (by decide) (de_var 0)) da_nil)) (blkOk_by (N := ["round_of", "thread", "place", "block"]) (sc := defScope s_place_of) (by decide +kernel)) (by decide) dfl_int (fun _ _ _ _ _ _ _ _ => (dg_pair (is := [2, 3]) 2 3 (by decide) (by decide) rfl sc_place_of.nd)) (fun _ _ _ _ _ _ _ _ hr2 => (dts_one (dt_cmp op_in_seq od_in (de_var 1) (de_var 3) (by rfl)))) (fun _ _ _ _ _ _ _ _ hr2 => (de_var 2)))))
theorem cl_place_of (h : Fx K mg base) : Cl P w K mg base 2 "place_of" 2 F_place_of := by
  obtain ⟨fd, F⟩ := h.fc_place_of
  exact ⟨⟨_, fd, ["round_of", "thread"], dfn_ok (g := g_place_of) F sc_place_of (fun n A outer s H E hr => d_place_of h n hr), h.m_place_of, F.kp, F.binds (fun _ _ _ _ _ _ us hl => match us, hl with | [_, _], _ => rfl)⟩, fun n as s as' e => runB_len e⟩
theorem d_seen_by (h : Fx K mg base) {fa : Addr} (n : Nat) {A : Around} {outer : List Env} {s : Shared} {H : Hp} {E : XK} (hr : Rm 2 (A.deeper (envOfC "seen_by" (defScope s_seen_by) s.heap.objs.size fa (.ref (He.codeOf K ("seen_by", none)))))) :
    PSs (bodyX P w K mg base ["round_of", "thread", "place", "block", "one"] "seen_by" (defScope s_seen_by) fa (.ref (He.codeOf K ("seen_by", none))) A outer s H E) (defBody s_seen_by) (rdS K (g_seen_by n)) :=
  (dss_cons (ds_set 2 (de_call n (cl_place_of h) hr (by decide) (by rfl) (dr_cons (de_var 0) (dr_cons (de_var 1) dr_nil))) sc_seen_by.nd)
  (dss_one (ds_ret (de_tuple (de_callB (cr_sortX (hu2 hr)) cd_sortX (by rfl) h.z_sorted (by decide +kernel) (da_cons (de_ofO (do_lc2 (own := [("block", 3), ("one", 4)]) (vs1 := [4]) rfl sc_seen_by.nd (di_seq (de_slice (de_attr n (ok_at_own_blocks h) hr (by decide) (de_var 0)) dp_none (dp_some (de_op op_addA od_add (de_var 2) de_int)))) (blkOk_by (N := ["round_of", "thread", "place", "block", "one"]) (sc := defScope s_seen_by) (by decide +kernel)) (by decide) (by decide) (by decide) (fun _ _ _ _ _ => (dg_name (is := [3]) 3 (by decide) sc_seen_by.nd)) (fun _ _ _ _ _ => dts_nil) (fun _ _ _ _ _ => (di_seq (de_var 3))) (fun _ _ _ _ _ => (dg_name (is := [4]) 4 (by decide) sc_seen_by.nd)) (fun _ _ _ _ _ => dts_nil) (fun _ _ _ _ _ => (de_var 4)))) da_nil)) (by rfl) h.z_tuple))))
theorem cl_seen_by (h : Fx K mg base) : Cl P w K mg base 3 "seen_by" 2 F_seen_by := by
  obtain ⟨fd, F⟩ := h.fc_seen_by
  exact ⟨⟨_, fd, ["round_of", "thread"], dfn_ok (g := g_seen_by) F sc_seen_by (fun n A outer s H E hr => d_seen_by h n hr), h.m_seen_by, F.kp, F.binds (fun _ _ _ _ _ _ us hl => match us, hl with | [_, _], _ => rfl)⟩, fun n as s as' e => runB_len e⟩
theorem d_Run_known (h : Fx K mg base) {fa : Addr} (n : Nat) {A : Around} {outer : List Env} {s : Shared} {H : Hp} {E : XK} (hr : Rm 3 (A.deeper (envOfC "Run.known" (defScope s_Run_known) s.heap.objs.size fa (.ref (He.codeOf K ("Run", some "known")))))) :
    PSs (bodyX P w K mg base ["self", "thread", "found", "one", "near", "other"] "Run.known" (defScope s_Run_known) fa (.ref (He.codeOf K ("Run", some "known"))) A outer s H E) (defBody s_Run_known) (rdS K (g_Run_known n)) :=
  (dss_cons (ds_expr (de_call n (cl_require_thread h) hr (by decide) (by rfl) (dr_cons (de_var 0) (dr_cons (de_var 1) dr_nil))))
  (dss_cons (ds_set 2 (de_tup (da_cons (de_var 1) da_nil)) sc_Run_known.nd)
  (dss_cons (ds_for PassesOwn.never rfl (di_seq (de_revX (de_attr n (ok_at_own_rounds h) hr (by decide) (de_var 0)))) (dg_name (is := [3]) 3 (by decide) sc_Run_known.nd) (dss_one (ds_set 2 (de_tuple (de_sortSetX (de_ofO (do_lc2 (own := [("near", 4), ("other", 5)]) (vs1 := [5]) rfl sc_Run_known.nd (di_seq (de_var 2)) (blkOk_by (N := ["self", "thread", "found", "one", "near", "other"]) (sc := defScope s_Run_known) (by decide +kernel)) (by decide) (by decide) (by decide) (fun _ _ _ _ _ => (dg_name (is := [4]) 4 (by decide) sc_Run_known.nd)) (fun _ _ _ _ _ => dts_nil) (fun _ _ _ _ _ => (di_seq (de_call n (cl_seen_by h) hr (by decide) (by rfl) (dr_cons (de_var 3) (dr_cons (de_var 4) dr_nil))))) (fun _ _ _ _ _ => (dg_name (is := [5]) 5 (by decide) sc_Run_known.nd)) (fun _ _ _ _ _ => dts_nil) (fun _ _ _ _ _ => (de_var 5)))) rfl (by rfl) h.z_sorted (by rfl) h.z_set) (by rfl) h.z_tuple) sc_Run_known.nd)))
  (dss_one (ds_ret (de_var 2))))))
theorem fp_Run_known (h : Fx K mg base) : FnP P w K mg base 4 (He.ma K (He.ga K "Run") "known") (spI K 2 F_Run_known) := by
  obtain ⟨fd, F⟩ := h.fc_Run_known
  exact (dfn_ok (g := g_Run_known) F sc_Run_known (fun n A outer s H E hr => d_Run_known h n hr)).pos (F.binds (fun _ _ _ _ _ _ us hl => match us, hl with | [_, _], _ => rfl))
theorem d_Round_blocks (h : Fx K mg base) {fa : Addr} {cdv : Value} (n : Nat) {A : Around} {outer : List Env} {s : Shared} {H : Hp} {E : XK} (hr : Rm 1 (A.deeper (envOfC "Round.blocks" (defScope s_Round_blocks) s.heap.objs.size fa cdv))) :
    PSs (bodyX P w K mg base ["self"] "Round.blocks" (defScope s_Round_blocks) fa cdv A outer s H E) (defBody s_Round_blocks) (rdS K (g_Round_blocks n)) :=
  (dss_one (ds_ret (de_attr n (ok_at_own_blocks h) hr (by decide) (de_var 0))))
theorem fp_Round_blocks (h : Fx K mg base) : FnP P w K mg base 2 (gAd K "Round" "blocks") (spI K 1 F_Round_blocks) := by
  obtain ⟨fd, cdv, F⟩ := h.fc_Round_blocks
  exact (dfn_ok (g := g_Round_blocks) F sc_Round_blocks (fun n A outer s H E hr => d_Round_blocks h n hr)).pos (F.binds (fun _ _ _ _ _ _ us hl => match us, hl with | [_], _ => rfl))
theorem ok_tm_known_Run (h : Fx K mg base) : MtOk P w K mg base 4 "known" 2 tm_known_Run := by
  intro c z e
  unfold tm_known_Run at e
  by_cases y0 : c = "Run"
  · rw [if_pos y0] at e; cases e; rw [y0]; exact ⟨h.sc_Run, ⟨_, h.me_Run_known, (fp_Run_known h).mono (by decide)⟩, fun n as s as' e => runB_len e⟩
  rw [if_neg y0] at e
  cases e
theorem ok_tm_is_hidden_Run (h : Fx K mg base) : MtOk P w K mg base 4 "is_hidden" 2 tm_is_hidden_Run := by
  intro c z e
  unfold tm_is_hidden_Run at e
  by_cases y0 : c = "Run"
  · rw [if_pos y0] at e; cases e; rw [y0]; exact ⟨h.sc_Run, ⟨_, h.me_Run_is_hidden, (fp_Run_is_hidden h).mono (by decide)⟩, fun n as s as' e => runB_len e⟩
  rw [if_neg y0] at e
  cases e
theorem ok_tm_without_Round_Run (h : Fx K mg base) : MtOk P w K mg base 12 "without" 2 tm_without_Round_Run := by
  intro c z e
  unfold tm_without_Round_Run at e
  by_cases y0 : c = "Round"
  · rw [if_pos y0] at e; cases e; rw [y0]; exact ⟨h.sc_Round, ⟨_, h.me_Round_without, (fp_Round_without h).mono (by decide)⟩, fun n as s as' e => runB_len e⟩
  rw [if_neg y0] at e
  by_cases y1 : c = "Run"
  · rw [if_pos y1] at e; cases e; rw [y1]; exact ⟨h.sc_Run, ⟨_, h.me_Run_without, (fp_Run_without h).mono (by decide)⟩, fun n as s as' e => runB_len e⟩
  rw [if_neg y1] at e
  cases e
theorem ok_at_sign (h : Fx K mg base) : AtOk P w K mg base 2 "sign" ta_sign := by
  intro c z e
  unfold ta_sign at e
  by_cases y0 : c = "Round"
  · rw [if_pos y0] at e; cases e; rw [y0]; exact ⟨h.sc_Round, ⟨_, h.pr_Round_sign, fp_Round_sign h⟩, fun n as s as' e => runB_len e⟩
  rw [if_neg y0] at e
  by_cases y1 : c = "Run"
  · rw [if_pos y1] at e; cases e; rw [y1]; exact ⟨h.sc_Run, ⟨_, h.pr_Run_sign, fp_Run_sign h⟩, fun n as s as' e => runB_len e⟩
  rw [if_neg y1] at e
  cases e
theorem ok_tit_Run (h : Fx K mg base) : ItOk P w K mg base 2 tit_Run := by
  intro c z e
  unfold tit_Run at e
  by_cases y0 : c = "Run"
  · rw [if_pos y0] at e; cases e; rw [y0]; exact ⟨_, h.me_Run___iter__, it_Run___iter__ (k := 1) h⟩
  rw [if_neg y0] at e
  cases e
theorem ok_at_blocks (h : Fx K mg base) : AtOk P w K mg base 2 "blocks" ta_blocks := by
  intro c z e
  unfold ta_blocks at e
  by_cases y0 : c = "Round"
  · rw [if_pos y0] at e; cases e; rw [y0]; exact ⟨h.sc_Round, ⟨_, h.pr_Round_blocks, fp_Round_blocks h⟩, fun n as s as' e => runB_len e⟩
  rw [if_neg y0] at e
  cases e
theorem ok_tq_Run (h : Fx K mg base) : EqOk P w K mg base 11 tq_Run := by
  intro c z e
  unfold tq_Run at e
  by_cases y0 : c = "Run"
  · rw [if_pos y0] at e; cases e; rw [y0]; exact ⟨⟨_, h.me_Run___eq__, (fp_Run___eq__ h).mono (by decide)⟩, fun n as s as' e => runB_len e, h.ne_Run.1, h.ne_Run.2⟩
  rw [if_neg y0] at e
  cases e
theorem ok_tm_shortened_Run (h : Fx K mg base) : MtOk P w K mg base 11 "shortened" 2 tm_shortened_Run := by
  intro c z e
  unfold tm_shortened_Run at e
  by_cases y0 : c = "Run"
  · rw [if_pos y0] at e; cases e; rw [y0]; exact ⟨h.sc_Run, ⟨_, h.me_Run_shortened, (fp_Run_shortened h).mono (by decide)⟩, fun n as s as' e => runB_len e⟩
  rw [if_neg y0] at e
  cases e
theorem d__law_right (h : Fx K mg base) {fa : Addr} (n : Nat) {A : Around} {outer : List Env} {s : Shared} {H : Hp} {E : XK} (hr : Rm 13 (A.deeper (envOfC "_law_right" (defScope s__law_right) s.heap.objs.size fa (.ref (He.codeOf K ("_law_right", none)))))) :
    PSs (bodyX P w K mg base ["dish", "threads", "rows", "run", "thread", "count", "others", "strange", "wide", "more", "ahead", "less", "due", "one", "blocks"] "_law_right" (defScope s__law_right) fa (.ref (He.codeOf K ("_law_right", none))) A outer s H E) (defBody s__law_right) (rdS K (g__law_right n)) :=
  (dss_cons (ds_set 1 (de_tuple (de_callB (cr_sortX (hu2 hr)) cd_sortX (by rfl) h.z_sorted (by decide +kernel) (da_cons (de_call n (cl__law_some_of h) hr (by decide) (by rfl) (dr_own 0 (dr_cons (de_lst (da_cons de_int (da_cons de_int (da_cons de_int (da_cons de_int (da_cons de_int (da_cons de_int da_nil))))))) (dr_cons (de_op op_addA od_add de_int (de_call n (cl__law_spoon h) hr (by decide) (by rfl) (dr_own 0 (dr_cons de_int dr_nil)))) dr_nil)))) da_nil)) (by rfl) h.z_tuple) sc__law_right.nd)
  (dss_cons (ds_set 2 (de_call n (cl__law_rows_drawn h) hr (by decide) (by rfl) (dr_own 0 (dr_cons (de_var 1) (dr_cons (de_call n (cl__law_spoon h) hr (by decide) (by rfl) (dr_own 0 (dr_cons de_int dr_nil))) dr_nil)))) sc__law_right.nd)
  (dss_cons (ds_set 3 (de_call n (cl__law_run_of h) hr (by decide) (by rfl) (dr_cons (de_var 1) (dr_cons (de_var 2) dr_nil))) sc__law_right.nd)
  (dss_cons (ds_for PassesOwn.never rfl (di_seq (de_var 1)) (dg_name (is := [4]) 4 (by decide) sc__law_right.nd) (dss_cons (ds_setLc (own := [("one", 13)]) 6 rfl sc__law_right.nd (di_seq (de_var 1)) (blkOk_by (N := ["dish", "threads", "rows", "run", "thread", "count", "others", "strange", "wide", "more", "ahead", "less", "due", "one", "blocks"]) (sc := defScope s__law_right) (by decide +kernel)) (by decide) (fun _ _ _ _ _ => (dg_name (is := [13]) 13 (by decide) sc__law_right.nd)) (fun _ _ _ _ _ => (dts_one (dt_cmp (op_neX (hu64 hr)) od_neX (de_var 13) (de_var 4) (nomark _)))) (fun _ _ _ _ _ => (de_var 13)))
  (dss_cons (ds_setLc (own := [("one", 13)]) 7 rfl sc__law_right.nd (di_seq (de_var 6)) (blkOk_by (N := ["dish", "threads", "rows", "run", "thread", "count", "others", "strange", "wide", "more", "ahead", "less", "due", "one", "blocks"]) (sc := defScope s__law_right) (by decide +kernel)) (by decide) (fun _ _ _ _ _ => (dg_name (is := [13]) 13 (by decide) sc__law_right.nd)) (fun _ _ _ _ _ => (dts_one (dt_cmp op_in_seq od_in (de_var 4) (de_meth n (ok_tm_known_Run h) hr (by decide) (de_var 3) (dr_cons (de_var 13) dr_nil)) (by rfl)))) (fun _ _ _ _ _ => (de_var 13)))
  (dss_cons (ds_if (dt_cmp (op_neX (hu64 hr)) od_neX (de_meth n (ok_tm_is_hidden_Run h) hr (by decide) (de_var 3) (dr_cons (de_var 4) dr_nil)) (de_cmp (op_eqX (hu64 hr)) od_eqX (de_var 7) (de_lst da_nil) (nomark _)) (nomark _)) (dss_one (ds_ret de_bl)) dss_nil)
  (dss_one (ds_if (dt_cmp (op_eqX (hu64 hr)) od_eqX (de_var 7) (de_lst da_nil) (nomark _)) (dss_cons (ds_set 11 (de_meth n (ok_tm_without_Round_Run h) hr (by decide) (de_var 3) (dr_cons (de_var 4) dr_nil)) sc__law_right.nd)
  (dss_cons (ds_setLc (own := [("one", 13)]) 12 rfl sc__law_right.nd (di_seq (de_var 6)) (blkOk_by (N := ["dish", "threads", "rows", "run", "thread", "count", "others", "strange", "wide", "more", "ahead", "less", "due", "one", "blocks"]) (sc := defScope s__law_right) (by decide +kernel)) (by decide) (fun _ _ _ _ _ => (dg_name (is := [13]) 13 (by decide) sc__law_right.nd)) (fun _ _ _ _ _ => dts_nil) (fun _ _ _ _ _ => (de_meth n (ok_tm_known_Run h) hr (by decide) (de_var 3) (dr_cons (de_var 13) dr_nil))))
  (dss_cons (ds_if ((dw_or (dt_cmp (op_neX (hu64 hr)) od_neX (de_attr n (ok_at_sign h) hr (by decide) (de_var 11)) (de_attr n (ok_at_sign h) hr (by decide) (de_var 3)) (nomark _)) (dw_or1 (dt_cmp (op_neX (hu64 hr)) od_neX (de_ofO (do_lc (own := [("one", 13)]) rfl sc__law_right.nd (di_seq (de_var 6)) (blkOk_by (N := ["dish", "threads", "rows", "run", "thread", "count", "others", "strange", "wide", "more", "ahead", "less", "due", "one", "blocks"]) (sc := defScope s__law_right) (by decide +kernel)) (by decide) (fun _ _ _ _ _ => (dg_name (is := [13]) 13 (by decide) sc__law_right.nd)) (fun _ _ _ _ _ => dts_nil) (fun _ _ _ _ _ => (de_meth n (ok_tm_known_Run h) hr (by decide) (de_var 11) (dr_cons (de_var 13) dr_nil))))) (de_var 12) (nomark _))))).pt (dss_one (ds_ret de_bl)) dss_nil)
  (dss_one (ds_if (dt_cmp (op_neX (hu64 hr)) od_neX (de_ofO (do_lc (own := [("one", 13)]) rfl sc__law_right.nd (di_ins (ok_tit_Run h) hr (by decide) (de_var 3)) (blkOk_by (N := ["dish", "threads", "rows", "run", "thread", "count", "others", "strange", "wide", "more", "ahead", "less", "due", "one", "blocks"]) (sc := defScope s__law_right) (by decide +kernel)) (by decide) (fun _ _ _ _ _ => (dg_name (is := [13]) 13 (by decide) sc__law_right.nd)) (fun _ _ _ _ _ => (dts_one (dt_cmp (op_neX (hu64 hr)) od_neX (de_ix (de_attr n (ok_at_blocks h) hr (by decide) (de_var 13)) (de_un un_neg ud_neg de_int) (fun _ _ => rfl)) (de_tup (da_cons (de_var 4) da_nil)) (nomark _)))) (fun _ _ _ _ _ => (de_var 13)))) (de_lst da_nil) (nomark _)) (dss_one (ds_ret de_bl)) dss_nil))))) dss_nil))))))
  (dss_cons (ds_if (dt_cmp op_lt od_lt (de_callB call_len_seq cd_len (by rfl) h.z_len (by decide +kernel) (da_cons (de_var 1) da_nil)) de_int (nomark _)) (dss_cons (ds_set 8 (de_tuple (de_callB (cr_sortX (hu2 hr)) cd_sortX (by rfl) h.z_sorted (by decide +kernel) (da_cons (de_op op_addA od_add (de_var 1) (de_tup (da_cons de_int da_nil))) da_nil)) (by rfl) h.z_tuple) sc__law_right.nd)
  (dss_cons (ds_set 9 (de_call n (cl__law_run_of h) hr (by decide) (by rfl) (dr_cons (de_var 8) (dr_cons (de_tuple (de_ofO (do_lc (own := [("blocks", 14)]) rfl sc__law_right.nd (di_seq (de_var 2)) (blkOk_by (N := ["dish", "threads", "rows", "run", "thread", "count", "others", "strange", "wide", "more", "ahead", "less", "due", "one", "blocks"]) (sc := defScope s__law_right) (by decide +kernel)) (by decide) (fun _ _ _ _ _ => (dg_name (is := [14]) 14 (by decide) sc__law_right.nd)) (fun _ _ _ _ _ => dts_nil) (fun _ _ _ _ _ => (de_op op_addA od_add (de_var 14) (de_tup (da_cons (de_tup (da_cons de_int da_nil)) da_nil)))))) (by rfl) h.z_tuple) dr_nil))) sc__law_right.nd)
  (dss_cons (ds_if ((dw_or (dt_not (dt_truth (de_meth n (ok_tm_is_hidden_Run h) hr (by decide) (de_var 9) (dr_cons de_int dr_nil)))) (dw_or (dt_cmp (op_neX (hu64 hr)) od_neX (de_attr n (ok_at_sign h) hr (by decide) (de_var 9)) (de_attr n (ok_at_sign h) hr (by decide) (de_var 3)) (nomark _)) (dw_or1 (dt_neI n (ok_tq_Run h) hr (by decide) (de_meth n (ok_tm_without_Round_Run h) hr (by decide) (de_var 9) (dr_cons de_int dr_nil)) (de_var 3)))))).pt (dss_one (ds_ret de_bl)) dss_nil)
  (dss_cons (ds_if (dt_cmp (op_neX (hu64 hr)) od_neX (de_ofO (do_lc (own := [("one", 13)]) rfl sc__law_right.nd (di_seq (de_var 1)) (blkOk_by (N := ["dish", "threads", "rows", "run", "thread", "count", "others", "strange", "wide", "more", "ahead", "less", "due", "one", "blocks"]) (sc := defScope s__law_right) (by decide +kernel)) (by decide) (fun _ _ _ _ _ => (dg_name (is := [13]) 13 (by decide) sc__law_right.nd)) (fun _ _ _ _ _ => dts_nil) (fun _ _ _ _ _ => (de_meth n (ok_tm_known_Run h) hr (by decide) (de_var 9) (dr_cons (de_var 13) dr_nil))))) (de_ofO (do_lc (own := [("one", 13)]) rfl sc__law_right.nd (di_seq (de_var 1)) (blkOk_by (N := ["dish", "threads", "rows", "run", "thread", "count", "others", "strange", "wide", "more", "ahead", "less", "due", "one", "blocks"]) (sc := defScope s__law_right) (by decide +kernel)) (by decide) (fun _ _ _ _ _ => (dg_name (is := [13]) 13 (by decide) sc__law_right.nd)) (fun _ _ _ _ _ => dts_nil) (fun _ _ _ _ _ => (de_meth n (ok_tm_known_Run h) hr (by decide) (de_var 3) (dr_cons (de_var 13) dr_nil))))) (nomark _)) (dss_one (ds_ret de_bl)) dss_nil)
  (dss_one (ds_if (dt_cmp (op_neX (hu64 hr)) od_neX (de_meth n (ok_tm_known_Run h) hr (by decide) (de_var 9) (dr_cons de_int dr_nil)) (de_if (dt_cmp (op_neX (hu64 hr)) od_neX (de_var 2) (de_tup da_nil) (nomark _)) (de_var 8) (de_tup (da_cons de_int da_nil))) (nomark _)) (dss_one (ds_ret de_bl)) dss_nil)))))) dss_nil)
  (dss_cons (ds_for PassesOwn.never rfl (di_range1 (by rfl) h.z_range (da_cons (de_callB call_len_seq cd_len (by rfl) h.z_len (by decide +kernel) (da_cons (de_var 2) da_nil)) da_nil)) (dg_name (is := [5]) 5 (by decide) sc__law_right.nd) (dss_cons (ds_set 10 (de_meth n (ok_tm_shortened_Run h) hr (by decide) (de_var 3) (dr_cons (de_var 5) dr_nil)) sc__law_right.nd)
  (dss_one (ds_for PassesOwn.never rfl (di_seq (de_var 1)) (dg_name (is := [4]) 4 (by decide) sc__law_right.nd) (dss_one (ds_if (dt_cmp (op_neX (hu64 hr)) od_neX (de_ofO (do_lc (own := [("one", 13)]) rfl sc__law_right.nd (di_seq (de_meth n (ok_tm_known_Run h) hr (by decide) (de_var 10) (dr_cons (de_var 4) dr_nil))) (blkOk_by (N := ["dish", "threads", "rows", "run", "thread", "count", "others", "strange", "wide", "more", "ahead", "less", "due", "one", "blocks"]) (sc := defScope s__law_right) (by decide +kernel)) (by decide) (fun _ _ _ _ _ => (dg_name (is := [13]) 13 (by decide) sc__law_right.nd)) (fun _ _ _ _ _ => (dts_one (dt_cmp op_notIn_seq od_notIn (de_var 13) (de_meth n (ok_tm_known_Run h) hr (by decide) (de_meth n (ok_tm_shortened_Run h) hr (by decide) (de_var 3) (dr_cons (de_op op_addA od_add (de_var 5) de_int) dr_nil)) (dr_cons (de_var 4) dr_nil)) (by rfl)))) (fun _ _ _ _ _ => (de_var 13)))) (de_lst da_nil) (nomark _)) (dss_one (ds_ret de_bl)) dss_nil))))))
  (dss_one (ds_ret de_bl))))))))
theorem cl__law_right (h : Fx K mg base) : Cl P w K mg base 14 "_law_right" 1 F__law_right := by
  obtain ⟨fd, F⟩ := h.fc__law_right
  exact ⟨⟨_, fd, ["dish"], dfn_ok (g := g__law_right) F sc__law_right (fun n A outer s H E hr => d__law_right h n hr), h.m__law_right, F.kp, F.binds (fun _ _ _ _ _ _ us hl => match us, hl with | [_], _ => rfl)⟩, fun n as s as' e => runB_len e⟩
theorem d_law (h : Fx K mg base) {fa : Addr} (n : Nat) {A : Around} {outer : List Env} {s : Shared} {H : Hp} {E : XK} (hr : Rm 14 (A.deeper (envOfC "law" (defScope s_law) s.heap.objs.size fa (.ref (He.codeOf K ("law", none)))))) :
    PSs (bodyX P w K mg base ["script", "at", "dish", "turn"] "law" (defScope s_law) fa (.ref (He.codeOf K ("law", none))) A outer s H E) (defBody s_law) (rdS K (g_law n)) :=
  (dss_cons (ds_for PassesOwn.never rfl (di_range1 (by rfl) h.z_range (da_cons (de_callB (call_max2 rfl) cd_max (by rfl) h.z_max (by decide +kernel) (da_cons de_int (da_cons (de_callB (call_min2 rfl) cd_min (by rfl) h.z_min (by decide +kernel) (da_cons de_int (da_cons (de_callB call_len_seq cd_len (by rfl) h.z_len (by decide +kernel) (da_cons (de_var 0) da_nil)) da_nil))) da_nil))) da_nil)) (dg_name (is := [1]) 1 (by decide) sc_law.nd) (dss_cons (ds_own 2 (do_call n (cl__law_dish h) hr (by decide) (by rfl) (dr_cons (de_var 0) (dr_cons (de_var 1) dr_nil))) sc_law.nd)
  (dss_one (ds_for PassesOwn.never rfl (di_range1 (by rfl) h.z_range (da_cons de_int da_nil)) (dg_name (is := [3]) 3 (by decide) sc_law.nd) (dss_one (ds_if (dt_not (dt_truth (de_call n (cl__law_right h) hr (by decide) (by rfl) (dr_own 2 dr_nil)))) (dss_one (ds_ret de_bl)) dss_nil))))))
  (dss_one (ds_ret de_bl)))
theorem cl_law (h : Fx K mg base) : Cl P w K mg base 15 "law" 1 F_law := by
  obtain ⟨fd, F⟩ := h.fc_law
  exact ⟨⟨_, fd, ["script"], dfn_ok (g := g_law) F sc_law (fun n A outer s H E hr => d_law h n hr), h.m_law, F.kp, F.binds (fun _ _ _ _ _ _ us hl => match us, hl with | [_], _ => rfl)⟩, fun n as s as' e => runB_len e⟩
end
/-! ### the head -/
def dd__law_dish : He.DefD := ⟨("_law_dish", none), "_law_dish", "_law_dish", defArgs s__law_dish, defBody s__law_dish, defScope s__law_dish, [], []⟩
def dd__law_spoon : He.DefD := ⟨("_law_spoon", none), "_law_spoon", "_law_spoon", defArgs s__law_spoon, defBody s__law_spoon, defScope s__law_spoon, [], []⟩
def dd__law_pick_of : He.DefD := ⟨("_law_pick_of", none), "_law_pick_of", "_law_pick_of", defArgs s__law_pick_of, defBody s__law_pick_of, defScope s__law_pick_of, [], []⟩
def dd__law_some_of : He.DefD := ⟨("_law_some_of", none), "_law_some_of", "_law_some_of", defArgs s__law_some_of, defBody s__law_some_of, defScope s__law_some_of, [], []⟩
def dd__law_blocks : He.DefD := ⟨("_law_blocks", none), "_law_blocks", "_law_blocks", defArgs s__law_blocks, defBody s__law_blocks, defScope s__law_blocks, [], []⟩
def dd__law_rows_drawn : He.DefD := ⟨("_law_rows_drawn", none), "_law_rows_drawn", "_law_rows_drawn", defArgs s__law_rows_drawn, defBody s__law_rows_drawn, defScope s__law_rows_drawn, [], []⟩
def dd_is_integer : He.DefD := ⟨("is_integer", none), "is_integer", "is_integer", defArgs s_is_integer, defBody s_is_integer, defScope s_is_integer, [], []⟩
def dd_is_old_name : He.DefD := ⟨("is_old_name", none), "is_old_name", "is_old_name", defArgs s_is_old_name, defBody s_is_old_name, defScope s_is_old_name, [], []⟩
def dd_are_old_names : He.DefD := ⟨("are_old_names", none), "are_old_names", "are_old_names", defArgs s_are_old_names, defBody s_are_old_names, defScope s_are_old_names, [], []⟩
def dd_are_threads : He.DefD := ⟨("are_threads", none), "are_threads", "are_threads", defArgs s_are_threads, defBody s_are_threads, defScope s_are_threads, [], []⟩
def dd_require_threads : He.DefD := ⟨("require_threads", none), "require_threads", "require_threads", defArgs s_require_threads, defBody s_require_threads, defScope s_require_threads, [], []⟩
def dd_are_blocks : He.DefD := ⟨("are_blocks", none), "are_blocks", "are_blocks", defArgs s_are_blocks, defBody s_are_blocks, defScope s_are_blocks, [], []⟩
def dd_Round___init__ : He.DefD := ⟨("Round", some "__init__"), "__init__", "Round.__init__", defArgs s_Round___init__, defBody s_Round___init__, defScope s_Round___init__, [], []⟩
def dd_are_rounds : He.DefD := ⟨("are_rounds", none), "are_rounds", "are_rounds", defArgs s_are_rounds, defBody s_are_rounds, defScope s_are_rounds, [], []⟩
def dd_Run___init__ : He.DefD := ⟨("Run", some "__init__"), "__init__", "Run.__init__", defArgs s_Run___init__, defBody s_Run___init__, defScope s_Run___init__, [], []⟩
def dd__law_run_of : He.DefD := ⟨("_law_run_of", none), "_law_run_of", "_law_run_of", defArgs s__law_run_of, defBody s__law_run_of, defScope s__law_run_of, [], []⟩
def dd_Round___eq__ : He.DefD := ⟨("Round", some "__eq__"), "__eq__", "Round.__eq__", defArgs s_Round___eq__, defBody s_Round___eq__, defScope s_Round___eq__, [], []⟩
def dd_Run___eq__ : He.DefD := ⟨("Run", some "__eq__"), "__eq__", "Run.__eq__", defArgs s_Run___eq__, defBody s_Run___eq__, defScope s_Run___eq__, [], []⟩
def dd_is_between : He.DefD := ⟨("is_between", none), "is_between", "is_between", defArgs s_is_between, defBody s_is_between, defScope s_is_between, [], []⟩
def dd_require_number : He.DefD := ⟨("require_number", none), "require_number", "require_number", defArgs s_require_number, defBody s_require_number, defScope s_require_number, [], []⟩
def dd_Run_shortened : He.DefD := ⟨("Run", some "shortened"), "shortened", "Run.shortened", defArgs s_Run_shortened, defBody s_Run_shortened, defScope s_Run_shortened, [], []⟩
def dd_require_thread : He.DefD := ⟨("require_thread", none), "require_thread", "require_thread", defArgs s_require_thread, defBody s_require_thread, defScope s_require_thread, [], []⟩
def dd_is_last_alone : He.DefD := ⟨("is_last_alone", none), "is_last_alone", "is_last_alone", defArgs s_is_last_alone, defBody s_is_last_alone, defScope s_is_last_alone, [], []⟩
def dd_is_hidden_in : He.DefD := ⟨("is_hidden_in", none), "is_hidden_in", "is_hidden_in", defArgs s_is_hidden_in, defBody s_is_hidden_in, defScope s_is_hidden_in, [], []⟩
def dd_Run_is_hidden : He.DefD := ⟨("Run", some "is_hidden"), "is_hidden", "Run.is_hidden", defArgs s_Run_is_hidden, defBody s_Run_is_hidden, defScope s_Run_is_hidden, [], []⟩
def dd_require_one : He.DefD := ⟨("require_one", none), "require_one", "require_one", defArgs s_require_one, defBody s_require_one, defScope s_require_one, [], []⟩
def dd_Round_without : He.DefD := ⟨("Round", some "without"), "without", "Round.without", defArgs s_Round_without, defBody s_Round_without, defScope s_Round_without, [], []⟩
def dd_run_without : He.DefD := ⟨("run_without", none), "run_without", "run_without", defArgs s_run_without, defBody s_run_without, defScope s_run_without, [], []⟩
def dd_Run_without : He.DefD := ⟨("Run", some "without"), "without", "Run.without", defArgs s_Run_without, defBody s_Run_without, defScope s_Run_without, [], []⟩
def dd_Run___iter__ : He.DefD := ⟨("Run", some "__iter__"), "__iter__", "Run.__iter__", defArgs s_Run___iter__, defBody s_Run___iter__, defScope s_Run___iter__, [], []⟩
def dd_place_of : He.DefD := ⟨("place_of", none), "place_of", "place_of", defArgs s_place_of, defBody s_place_of, defScope s_place_of, [], []⟩
def dd_seen_by : He.DefD := ⟨("seen_by", none), "seen_by", "seen_by", defArgs s_seen_by, defBody s_seen_by, defScope s_seen_by, [], []⟩
def dd_Run_known : He.DefD := ⟨("Run", some "known"), "known", "Run.known", defArgs s_Run_known, defBody s_Run_known, defScope s_Run_known, [], []⟩
def dd__law_right : He.DefD := ⟨("_law_right", none), "_law_right", "_law_right", defArgs s__law_right, defBody s__law_right, defScope s__law_right, [], []⟩
def dd_law : He.DefD := ⟨("law", none), "law", "law", defArgs s_law, defBody s_law, defScope s_law, [], []⟩
def fn : List He.DefD := [dd__law_dish, dd__law_spoon, dd__law_pick_of, dd__law_some_of, dd__law_blocks, dd__law_rows_drawn, dd_is_integer, dd_is_old_name, dd_are_old_names, dd_are_threads, dd_require_threads, dd_are_blocks, dd_Round___init__, dd_are_rounds, dd_Run___init__, dd__law_run_of, dd_Round___eq__, dd_Run___eq__, dd_is_between, dd_require_number, dd_Run_shortened, dd_require_thread, dd_is_last_alone, dd_is_hidden_in, dd_Run_is_hidden, dd_require_one, dd_Round_without, dd_run_without, dd_Run_without, dd_Run___iter__, dd_place_of, dd_seen_by, dd_Run_known, dd__law_right, dd_law]
def gs : List GtD := [⟨"Round", "sign", "Round.sign", s_Round_sign⟩, ⟨"Run", "sign", "Run.sign", s_Run_sign⟩, ⟨"Round", "blocks", "Round.blocks", s_Round_blocks⟩]
def fa : List He.Fa := [.glo "_law_dish", .glo "_law_spoon", .glo "_law_pick_of", .glo "_law_some_of", .glo "_law_blocks", .glo "_law_rows_drawn", .glo "is_integer", .glo "is_old_name", .glo "are_old_names", .glo "are_threads", .glo "require_threads", .glo "are_blocks", .glo "are_rounds", .glo "_law_run_of", .glo "is_between", .glo "require_number", .glo "require_thread", .glo "is_last_alone", .glo "is_hidden_in", .glo "require_one", .glo "run_without", .glo "place_of", .glo "seen_by", .glo "_law_right", .glo "law", .glo "Round", .glo "Run", .meth "Round" "__eq__", .meth "Run" "__eq__", .meth "Run" "shortened", .meth "Run" "is_hidden", .meth "Round" "without", .meth "Run" "without", .meth "Run" "__iter__", .meth "Run" "known", .mkr "Round", .mkr "Run", .free "abs", .free "all", .free "bool", .free "enumerate", .free "int", .free "isinstance", .free "iter", .free "len", .free "list", .free "max", .free "min", .free "next", .free "range", .free "set", .free "sorted", .free "tuple", .int "GREATEST" 1000000000000000000000000000000000000000000000000000000000000, .int "MAX_ROUNDS" 6, .int "MAX_THREADS" 5]
def tf : List He.Defn := [("place_of", none)]
def exL (K : PySem.W.Frag) : List Bool := [tabsNd tf K, sclsB K "Round", sclsB K "Run", slotB K "Round" "own_blocks" 0, slotB K "Round" "own_sign" 1, slotB K "Round" "own_size" 2, slotB K "Round" "own_threads" 3, slotB K "Run" "own_rounds" 0, slotB K "Run" "own_sign" 1, slotB K "Run" "own_threads" 2, isiB K "Round" "Round" true, isiB K "Run" "Round" false, isiB K "Round" "Run" false, isiB K "Run" "Run" true, neB K "Round", neB K "Run"]
def exB (K : PySem.W.Frag) : Bool := (exL K).all id
theorem ex_get {K : PySem.W.Frag} (h : exB K = true) (i : Nat) {b : Bool} (e : (exL K)[i]? = some b) : b = true := List.all_eq_true.mp h b (List.mem_of_getElem? e)
def names0 : List PySem.Str := ["_wall", "FewError", "InvalidThreads", "InvalidRound", "InvalidRun", "InvalidOperation", "InvalidNumber", "MAX_THREADS", "GREATEST", "is_integer", "is_between", "require_number", "is_old_name", "are_old_names", "are_threads", "require_threads", "are_blocks", "Round", "require_one", "place_of", "seen_by", "is_last_alone", "MAX_ROUNDS", "are_rounds", "Run", "require_thread", "run_without", "is_hidden_in", "_law_dish", "_law_spoon"]
def names1 : List PySem.Str := ["_law_some_of", "_law_pick_of", "_law_blocks", "_law_rows_drawn", "_law_run_of", "_law_right"]
def names : List PySem.Str := names0 ++ names1
def lamL (K : PySem.W.Frag) : List (Addr × Str) := []
abbrev R : PySem.W.OpenRow := PySem.W.OpenLaw.row PySem.Challenge.rw_fewnames_k08_whole_hidden_threads
abbrev hk : PySem.W.Hook := hookY 6 fa fn tf exB gs
def ob (s : PySem.W.SharedT) : AlY := obsY 6 fa fn tf exB gs (HandSHeadRun.getT s)
theorem ob_eq (s : PySem.W.SharedT) : ob s = hk.obs s.abs := obsY_eq (HandSHeadRun.getT_eq s)
theorem run (w : World) : HandSHeadRun.RunEq R (PySem.W.view R.prog [40]) hk ob 6000 names w := by
  intro os
  kernel_rfl
theorem fx {K : PySem.W.Frag} {h base : Heap} {mg : Str → Option Value} {w : World} (X : K.In h) (G : h.Ns mainGlobals mg) (y : SaysY fa fn tf exB gs w h K) (tb : ∀ p ∈ tf.map (He.cT K), LamX.TabB base mg p.1 p.2) :
    @Fx ⟨(tf.map (He.cT K)).map (·.2), lamL K⟩ K mg base := by
  letI : Tabs := ⟨(tf.map (He.cT K)).map (·.2), lamL K⟩
  have c := y.x
  have c1 := c.t.d
  have nd : tabsNd tf K = true := ex_get c.more 0 rfl
  refine ⟨
(by obtain ⟨fd, F⟩ := c1.def_ 0 (d := dd__law_dish) rfl; exact ⟨fd, funC_of F⟩),
    He.glo_ok X G (c1.fact 0 (f := .glo "_law_dish") rfl),
    (by obtain ⟨fd, F⟩ := c1.def_ 1 (d := dd__law_spoon) rfl; exact ⟨fd, funC_of F⟩),
    He.glo_ok X G (c1.fact 1 (f := .glo "_law_spoon") rfl),
    (by obtain ⟨fd, F⟩ := c1.def_ 2 (d := dd__law_pick_of) rfl; exact ⟨fd, funC_of F⟩),
    He.glo_ok X G (c1.fact 2 (f := .glo "_law_pick_of") rfl),
    (by obtain ⟨fd, F⟩ := c1.def_ 3 (d := dd__law_some_of) rfl; exact ⟨fd, funC_of F⟩),
    He.glo_ok X G (c1.fact 3 (f := .glo "_law_some_of") rfl),
    (by obtain ⟨fd, F⟩ := c1.def_ 4 (d := dd__law_blocks) rfl; exact ⟨fd, funC_of F⟩),
    He.glo_ok X G (c1.fact 4 (f := .glo "_law_blocks") rfl),
    (by obtain ⟨fd, F⟩ := c1.def_ 5 (d := dd__law_rows_drawn) rfl; exact ⟨fd, funC_of F⟩),
    He.glo_ok X G (c1.fact 5 (f := .glo "_law_rows_drawn") rfl),
    (by obtain ⟨fd, F⟩ := c1.def_ 6 (d := dd_is_integer) rfl; exact ⟨fd, funC_of F⟩),
    He.glo_ok X G (c1.fact 6 (f := .glo "is_integer") rfl),
    (by obtain ⟨fd, F⟩ := c1.def_ 7 (d := dd_is_old_name) rfl; exact ⟨fd, funC_of F⟩),
    He.glo_ok X G (c1.fact 7 (f := .glo "is_old_name") rfl),
    (by obtain ⟨fd, F⟩ := c1.def_ 8 (d := dd_are_old_names) rfl; exact ⟨fd, funC_of F⟩),
    He.glo_ok X G (c1.fact 8 (f := .glo "are_old_names") rfl),
    (by obtain ⟨fd, F⟩ := c1.def_ 9 (d := dd_are_threads) rfl; exact ⟨fd, funC_of F⟩),
    He.glo_ok X G (c1.fact 9 (f := .glo "are_threads") rfl),
    (by obtain ⟨fd, F⟩ := c1.def_ 10 (d := dd_require_threads) rfl; exact ⟨fd, funC_of F⟩),
    He.glo_ok X G (c1.fact 10 (f := .glo "require_threads") rfl),
    (by obtain ⟨fd, F⟩ := c1.def_ 11 (d := dd_are_blocks) rfl; exact ⟨fd, funC_of F⟩),
    He.glo_ok X G (c1.fact 11 (f := .glo "are_blocks") rfl),
    (by obtain ⟨fd, F⟩ := c1.def_ 12 (d := dd_Round___init__) rfl; exact ⟨fd, funC_ofM F⟩),
    He.mkr_ok (c1.fact 35 (f := .mkr "Round") rfl),
    (by obtain ⟨fd, F⟩ := c1.def_ 13 (d := dd_are_rounds) rfl; exact ⟨fd, funC_of F⟩),
    He.glo_ok X G (c1.fact 12 (f := .glo "are_rounds") rfl),
    (by obtain ⟨fd, F⟩ := c1.def_ 14 (d := dd_Run___init__) rfl; exact ⟨fd, funC_ofM F⟩),
    He.mkr_ok (c1.fact 36 (f := .mkr "Run") rfl),
    (by obtain ⟨fd, F⟩ := c1.def_ 15 (d := dd__law_run_of) rfl; exact ⟨fd, funC_of F⟩),
    He.glo_ok X G (c1.fact 13 (f := .glo "_law_run_of") rfl),
    (by obtain ⟨fd, F⟩ := c1.def_ 16 (d := dd_Round___eq__) rfl; exact ⟨fd, funC_ofM F⟩),
    He.meth_ok (c1.fact 27 (f := .meth "Round" "__eq__") rfl),
    (by obtain ⟨fd, F⟩ := c1.def_ 17 (d := dd_Run___eq__) rfl; exact ⟨fd, funC_ofM F⟩),
    He.meth_ok (c1.fact 28 (f := .meth "Run" "__eq__") rfl),
    (by obtain ⟨fd, F⟩ := c1.def_ 18 (d := dd_is_between) rfl; exact ⟨fd, funC_of F⟩),
    He.glo_ok X G (c1.fact 14 (f := .glo "is_between") rfl),
    (by obtain ⟨fd, F⟩ := c1.def_ 19 (d := dd_require_number) rfl; exact ⟨fd, funC_of F⟩),
    He.glo_ok X G (c1.fact 15 (f := .glo "require_number") rfl),
    (by obtain ⟨fd, F⟩ := c1.def_ 20 (d := dd_Run_shortened) rfl; exact ⟨fd, funC_ofM F⟩),
    He.meth_ok (c1.fact 29 (f := .meth "Run" "shortened") rfl),
    (by obtain ⟨fd, F⟩ := c1.def_ 21 (d := dd_require_thread) rfl; exact ⟨fd, funC_of F⟩),
    He.glo_ok X G (c1.fact 16 (f := .glo "require_thread") rfl),
    (by obtain ⟨fd, F⟩ := c1.def_ 22 (d := dd_is_last_alone) rfl; exact ⟨fd, funC_of F⟩),
    He.glo_ok X G (c1.fact 17 (f := .glo "is_last_alone") rfl),
    (by obtain ⟨fd, F⟩ := c1.def_ 23 (d := dd_is_hidden_in) rfl; exact ⟨fd, funC_of F⟩),
    He.glo_ok X G (c1.fact 18 (f := .glo "is_hidden_in") rfl),
    (by obtain ⟨fd, F⟩ := c1.def_ 24 (d := dd_Run_is_hidden) rfl; exact ⟨fd, funC_ofM F⟩),
    He.meth_ok (c1.fact 30 (f := .meth "Run" "is_hidden") rfl),
    (by obtain ⟨fd, F⟩ := c1.def_ 25 (d := dd_require_one) rfl; exact ⟨fd, funC_of F⟩),
    He.glo_ok X G (c1.fact 19 (f := .glo "require_one") rfl),
    (by obtain ⟨fd, F⟩ := c1.def_ 26 (d := dd_Round_without) rfl; exact ⟨fd, funC_ofM F⟩),
    He.meth_ok (c1.fact 31 (f := .meth "Round" "without") rfl),
    (by obtain ⟨fd, F⟩ := c1.def_ 27 (d := dd_run_without) rfl; exact ⟨fd, funC_of F⟩),
    He.glo_ok X G (c1.fact 20 (f := .glo "run_without") rfl),
    (by obtain ⟨fd, F⟩ := c1.def_ 28 (d := dd_Run_without) rfl; exact ⟨fd, funC_ofM F⟩),
    He.meth_ok (c1.fact 32 (f := .meth "Run" "without") rfl),
    (by obtain ⟨fd, F⟩ := c1.def_ 29 (d := dd_Run___iter__) rfl; exact ⟨fd, funC_ofM F⟩),
    He.meth_ok (c1.fact 33 (f := .meth "Run" "__iter__") rfl),
    (y.get 0 rfl).1,
    (y.get 0 rfl).2,
    (y.get 1 rfl).1,
    (y.get 1 rfl).2,
    (by obtain ⟨fd, F⟩ := c1.def_ 30 (d := dd_place_of) rfl; exact ⟨fd, funC_of F⟩),
    He.glo_ok X G (c1.fact 21 (f := .glo "place_of") rfl),
    tabB_of (tb (He.cT K ("place_of", none)) (List.mem_map.mpr ⟨("place_of", none), by simp [tf], rfl⟩)),
    List.mem_map.mpr ⟨He.cT K ("place_of", none), List.mem_map.mpr ⟨("place_of", none), by simp [tf], rfl⟩, rfl⟩,
    (fun q hq => by have hq : _ ∈ lamL K := hq; simp [lamL] at hq),
    (by obtain ⟨fd, F⟩ := c1.def_ 31 (d := dd_seen_by) rfl; exact ⟨fd, funC_of F⟩),
    He.glo_ok X G (c1.fact 22 (f := .glo "seen_by") rfl),
    (by obtain ⟨fd, F⟩ := c1.def_ 32 (d := dd_Run_known) rfl; exact ⟨fd, funC_ofM F⟩),
    He.meth_ok (c1.fact 34 (f := .meth "Run" "known") rfl),
    (y.get 2 rfl).1,
    (y.get 2 rfl).2,
    (by obtain ⟨fd, F⟩ := c1.def_ 33 (d := dd__law_right) rfl; exact ⟨fd, funC_of F⟩),
    He.glo_ok X G (c1.fact 23 (f := .glo "_law_right") rfl),
    (by obtain ⟨fd, F⟩ := c1.def_ 34 (d := dd_law) rfl; exact ⟨fd, funC_of F⟩),
    He.glo_ok X G (c1.fact 24 (f := .glo "law") rfl),
    He.glo_ok X G (c1.fact 25 (f := .glo "Round") rfl),
    scls_ok (ex_get c.more 1 rfl),
    He.glo_ok X G (c1.fact 26 (f := .glo "Run") rfl),
    scls_ok (ex_get c.more 2 rfl),
    slot_ok (ex_get c.more 3 rfl),
    slot_ok (ex_get c.more 4 rfl),
    slot_ok (ex_get c.more 5 rfl),
    slot_ok (ex_get c.more 6 rfl),
    slot_ok (ex_get c.more 7 rfl),
    slot_ok (ex_get c.more 8 rfl),
    slot_ok (ex_get c.more 9 rfl),
    isi_ok (ex_get c.more 10 rfl),
    isi_ok (ex_get c.more 11 rfl),
    isi_ok (ex_get c.more 12 rfl),
    isi_ok (ex_get c.more 13 rfl),
    ne_ok (ex_get c.more 14 rfl),
    ne_ok (ex_get c.more 15 rfl),
    He.free_ok X G (c1.fact 37 (f := .free "abs") rfl),
    He.free_ok X G (c1.fact 38 (f := .free "all") rfl),
    He.free_ok X G (c1.fact 39 (f := .free "bool") rfl),
    He.free_ok X G (c1.fact 40 (f := .free "enumerate") rfl),
    He.free_ok X G (c1.fact 41 (f := .free "int") rfl),
    He.free_ok X G (c1.fact 42 (f := .free "isinstance") rfl),
    He.free_ok X G (c1.fact 43 (f := .free "iter") rfl),
    He.free_ok X G (c1.fact 44 (f := .free "len") rfl),
    He.free_ok X G (c1.fact 45 (f := .free "list") rfl),
    He.free_ok X G (c1.fact 46 (f := .free "max") rfl),
    He.free_ok X G (c1.fact 47 (f := .free "min") rfl),
    He.free_ok X G (c1.fact 48 (f := .free "next") rfl),
    He.free_ok X G (c1.fact 49 (f := .free "range") rfl),
    He.free_ok X G (c1.fact 50 (f := .free "set") rfl),
    He.free_ok X G (c1.fact 51 (f := .free "sorted") rfl),
    He.free_ok X G (c1.fact 52 (f := .free "tuple") rfl),
    He.int_ok X G (c1.fact 53 (f := .int "GREATEST" 1000000000000000000000000000000000000000000000000000000000000) rfl),
    He.int_ok X G (c1.fact 54 (f := .int "MAX_ROUNDS" 6) rfl),
    He.int_ok X G (c1.fact 55 (f := .int "MAX_THREADS" 5) rfl)⟩
theorem fin {w : World} {mg : Str → Option Value} {f : Addr} {h : Heap} {K : PySem.W.Frag} (KX : K.In h) (G : h.Ns mainGlobals mg) (hmg : mg ("law" : Str) = some (.ref f)) (y : SaysY fa fn tf exB gs w h K)
    (hF : ∀ ns : List Int, ns.length ≤ 63 → (∀ z ∈ ns, Builtin.Int.intBits z ≤ 1048576) → ∃ m as', F_law m [.dat (.scr ns)] = some (.dat (.bl true), as')) : LawAtG PySem.Challenge.rw_fewnames_k08_whole_hidden_threads w K 15 63 "script" mg f h := by
  letI : Tabs := ⟨(tf.map (He.cT K)).map (·.2), lamL K⟩
  have c := y.x
  have e1 := hmg.symm.trans (He.glo_ok KX G (c.t.d.fact 24 (f := .glo "law") rfl))
  cases e1
  obtain ⟨fd, F⟩ := c.t.d.def_ 34 (d := dd_law) rfl
  have b := FunD.bindsA (ps := ["script"]) F fun _ _ _ _ _ _ us hl => match us, hl with | [_], _ => rfl
  refine ⟨fd, tf.map (He.cT K), spI K 1 F_law, fun p hp => ?_, fun p hp => ?_, fun p hp => ?_, fun s v => b s [v] rfl, fun H a ns hl hz hT hS => sp_law (L := lamL K) (fun p hp => by simp [lamL] at hp) hF H a ns hl hz hT hS, fun base KB GB TB => ?_⟩
  · obtain ⟨q, hq, e⟩ := List.mem_map.mp hp
    rw [← e]; exact c.empty q hq
  · obtain ⟨q, hq, e⟩ := List.mem_map.mp hp
    rw [← e]; exact c.out q hq
  · obtain ⟨q, hq, e⟩ := List.mem_map.mp hp
    rw [← e]; exact PySem.W.codeHd_of_K KX (c.hd q hq)
  · have hx := fx KX G y TB
    exact dfn_ok (g := g_law) (funC_of (x := "law") (st := s_law) F) sc_law (fun n A outer s H E hr => d_law hx n hr)
/-- the law, from the plain one -/
theorem law_holds (hF : ∀ ns : List Int, ns.length ≤ 63 → (∀ z ∈ ns, Builtin.Int.intBits z ≤ 1048576) → ∃ m as', F_law m [.dat (.scr ns)] = some (.dat (.bl true), as')) : PySem.Challenge.rw_fewnames_k08_whole_hidden_threads.Holds := by
  open PySem.W PySem.Calls in
  w_on; o_law
  refine HandSHeadRun.head_any (r := PySem.W.OpenLaw.row PySem.Challenge.rw_fewnames_k08_whole_hidden_threads) (q := PySem.W.view (PySem.W.OpenLaw.row PySem.Challenge.rw_fewnames_k08_whole_hidden_threads).prog [40]) (H := hk) (ob := ob) (M := 6000) (loose := names) (d := HandSHeadRun.topDef (PySem.W.OpenLaw.row PySem.Challenge.rw_fewnames_k08_whole_hidden_threads).prog 40) (kwd := []) ob_eq
    (by kernel_rfl) (fun s => by kernel_rfl) run (by kernel_rfl) (by kernel_rfl) (by kernel_rfl) (by rfl) (by first | assumption | decide +kernel) (by decide +kernel) ⟨rfl, rfl, rfl, rfl, rfl, by decide +kernel⟩ ?hw ?hc
  case hw => w_witness2
  case hc =>
    refine M.walk_G (l := PySem.Challenge.rw_fewnames_k08_whole_hidden_threads) (n := 63) (k := 15) (x := "script") rfl (by decide) (by kernel_rfl) ⟨⟨rfl, by decide, by decide⟩, rfl⟩ ?F
    intro w mg f h Y G hmg0
    obtain ⟨K, KX, c⟩ := Y
    have hmg : mg ("law" : PySem.Str) = some (.ref f) := by
      have e : (HandSHeadRun.topDef (PySem.W.OpenLaw.row PySem.Challenge.rw_fewnames_k08_whole_hidden_threads).prog 40).name = ("law" : PySem.Str) := by kernel_rfl
      rw [← e]
      exact hmg0
    exact ⟨K, KX, fin KX G hmg c hF⟩
end Lk

/-! rounds and runs as lists of lists of ints: what threads see and know -/
namespace Rn
open M
abbrev Bs := List (List Int)
local instance tb0 : Tabs := ⟨[], []⟩
def srt (l : List Int) : List Int := isort leI l
theorem srt_perm (l : List Int) : (srt l).Perm l := isort_perm l
theorem srt_mem {l : List Int} {k : Int} : k ∈ srt l ↔ k ∈ l := (srt_perm l).mem_iff
theorem srt_of {l T : List Int} (h : l.Perm T) (a : T.Pairwise (· < ·)) : srt l = T := perm_sorted_eq ((srt_perm l).trans h) (isort_sorted l) (a.imp fun {a b} z => Int.le_of_lt z)
theorem nodup_asc {T : List Int} (a : T.Pairwise (· < ·)) : T.Nodup := a.imp fun {a b} z e => by omega
theorem asc_of {l : List Int} (h1 : l.Pairwise (· ≤ ·)) (h2 : l.Nodup) : l.Pairwise (· < ·) := by
  have := h1.and h2
  exact this.imp fun {a b} z => by have := z.1; have := z.2; omega
theorem srt_asc {l : List Int} (h : l.Nodup) : (srt l).Pairwise (· < ·) := asc_of (isort_sorted l) ((srt_perm l).nodup_iff.mpr h)
/-- the place of a thread's block -/
def plc (bs : Bs) (t : Int) : Nat := (bs.findIdx? fun b => b.contains t).getD 0
def seen (bs : Bs) (t : Int) : List Int := srt (bs.take (plc bs t + 1)).flatten
/-- whom those know who saw this round -/
def stp (bs : Bs) (f : List Int) : List Int := srt (dedup (f.flatMap (seen bs)))
def known (rs : List Bs) (t : Int) : List Int := rs.foldr stp [t]
structure Wf (T : List Int) (bs : Bs) : Prop where
  perm : bs.flatten.Perm T
  ne : ∀ b ∈ bs, b ≠ []
  asc : ∀ b ∈ bs, b.Pairwise (· < ·)
structure Th (T : List Int) : Prop where
  asc : T.Pairwise (· < ·)
  rng : ∀ t ∈ T, 0 ≤ t ∧ t < 100
  ne : T ≠ []
  len : T.length ≤ 5
theorem mem_take_flat {bs : Bs} {k : Int} {m : Nat} (h : k ∈ (bs.take m).flatten) : k ∈ bs.flatten := by
  obtain ⟨b, hb, hk⟩ := List.mem_flatten.mp h
  exact List.mem_flatten.mpr ⟨b, List.mem_of_mem_take hb, hk⟩
theorem seen_sub {bs : Bs} {t k : Int} (h : k ∈ seen bs t) : k ∈ bs.flatten := mem_take_flat (srt_mem.mp h)
theorem plc_get {bs : Bs} {t : Int} (h : t ∈ bs.flatten) : ∃ i, bs.findIdx? (fun b => b.contains t) = some i ∧ plc bs t = i ∧ ∃ b, bs[i]? = some b ∧ t ∈ b := by
  obtain ⟨b, hb, hk⟩ := List.mem_flatten.mp h
  cases e : bs.findIdx? (fun b => b.contains t) with
  | none =>
    have := List.findIdx?_eq_none_iff.mp e b hb
    simp [hk] at this
  | some i =>
    obtain ⟨hi, hp, _⟩ := List.findIdx?_eq_some_iff_getElem.mp e
    exact ⟨i, rfl, by unfold plc; rw [e]; rfl, bs[i], List.getElem?_eq_getElem hi, by simpa using hp⟩
theorem seen_self {bs : Bs} {t : Int} (h : t ∈ bs.flatten) : t ∈ seen bs t := by
  obtain ⟨i, _, ep, b, hb, ht⟩ := plc_get h
  unfold seen
  rw [srt_mem, ep]
  refine List.mem_flatten.mpr ⟨b, ?_, ht⟩
  obtain ⟨hi, rfl⟩ := List.getElem?_eq_some_iff.mp hb
  exact List.mem_take_iff_getElem.mpr ⟨i, by omega, rfl⟩
theorem seen_app {bs cs : Bs} {t : Int} (h : t ∈ bs.flatten) : seen (bs ++ cs) t = seen bs t := by
  obtain ⟨i, e, ep, b, hb, _⟩ := plc_get h
  have e2 : (bs ++ cs).findIdx? (fun b => b.contains t) = some i := by rw [List.findIdx?_append, e]; rfl
  have ep2 : plc (bs ++ cs) t = i := by unfold plc; rw [e2]; rfl
  have hi : i < bs.length := (List.getElem?_eq_some_iff.mp hb).1
  unfold seen
  rw [ep, ep2, List.take_append_of_le_length (by omega)]
theorem seen_last {bs : Bs} {t : Int} {b : List Int} (h : t ∉ bs.flatten) (hb : t ∈ b) : seen (bs ++ [b]) t = srt (bs ++ [b]).flatten := by
  have e : bs.findIdx? (fun b => b.contains t) = none := List.findIdx?_eq_none_iff.mpr fun c hc => by
    have : t ∉ c := fun z => h (List.mem_flatten.mpr ⟨c, hc, z⟩)
    simpa using this
  have e2 : (bs ++ [b]).findIdx? (fun b => b.contains t) = some bs.length := by
    rw [List.findIdx?_append, e, List.findIdx?_cons]
    simp [hb]
  have ep : plc (bs ++ [b]) t = bs.length := by unfold plc; rw [e2]; rfl
  unfold seen
  rw [ep, List.take_of_length_le (by simp)]
theorem stp_mem {bs : Bs} {f : List Int} {k : Int} : k ∈ stp bs f ↔ ∃ o ∈ f, k ∈ seen bs o := by
  unfold stp
  rw [srt_mem, dedup_mem, List.mem_flatMap]
theorem stp_asc (bs : Bs) (f : List Int) : (stp bs f).Pairwise (· < ·) := srt_asc (dedup_nodup _)
theorem stp_self {bs : Bs} {f : List Int} {k : Int} (h : k ∈ f) (hk : k ∈ bs.flatten) : k ∈ stp bs f := stp_mem.mpr ⟨k, h, seen_self hk⟩
theorem stp_mono {bs : Bs} {f g : List Int} (h : ∀ k ∈ f, k ∈ g) {k : Int} (hk : k ∈ stp bs f) : k ∈ stp bs g := by
  obtain ⟨o, ho, hs⟩ := stp_mem.mp hk
  exact stp_mem.mpr ⟨o, h o ho, hs⟩
section
variable {T : List Int} {bs : Bs} {rs : List Bs} {t o k : Int}
theorem Wf.mem (w : Wf T bs) : k ∈ bs.flatten ↔ k ∈ T := w.perm.mem_iff
theorem known_sub (w : ∀ bs ∈ rs, Wf T bs) (ht : t ∈ T) (h : k ∈ known rs t) : k ∈ T := by
  cases rs with
  | nil => rw [List.mem_singleton.mp h]; exact ht
  | cons r rs =>
    obtain ⟨o, _, hs⟩ := stp_mem.mp (show k ∈ stp r (known rs t) from h)
    exact (w r (List.mem_cons_self ..)).mem.mp (seen_sub hs)
theorem known_self (w : ∀ bs ∈ rs, Wf T bs) (ht : t ∈ T) : t ∈ known rs t := by
  induction rs with
  | nil => exact List.mem_singleton.mpr rfl
  | cons r rs ih => exact stp_self (ih fun b hb => w b (List.mem_cons_of_mem _ hb)) ((w r (List.mem_cons_self ..)).mem.mpr ht)
theorem known_asc (rs : List Bs) (t : Int) : (known rs t).Pairwise (· < ·) := by
  cases rs with
  | nil => simp [known]
  | cons r rs => exact stp_asc r _
theorem len_sub : ∀ {a b : List Int}, a.Nodup → (∀ k ∈ a, k ∈ b) → a.length ≤ b.length
  | [], b, _, _ => Nat.zero_le _
  | x :: a, b, h1, h => by
    obtain ⟨hx, h2⟩ := List.nodup_cons.mp h1
    have xb := h x (List.mem_cons_self ..)
    have := len_sub (b := b.erase x) h2 fun k hk => (List.mem_erase_of_ne (fun e : k = x => hx (e ▸ hk))).mpr (h k (List.mem_cons_of_mem _ hk))
    rw [List.length_erase_of_mem xb] at this
    have : 0 < b.length := List.length_pos_of_mem xb
    simp only [List.length_cons]; omega
theorem known_len (w : ∀ bs ∈ rs, Wf T bs) (ht : t ∈ T) : (known rs t).length ≤ T.length := len_sub (nodup_asc (known_asc rs t)) fun k h => known_sub w ht h
theorem seen_len (w : Wf T bs) (a : T.Nodup) : (seen bs t).length ≤ T.length := by
  refine len_sub ?_ fun k h => w.mem.mp (seen_sub h)
  unfold seen
  rw [(srt_perm _).nodup_iff]
  have nd : bs.flatten.Nodup := w.perm.nodup_iff.mpr a
  rw [← List.take_append_drop (plc bs t + 1) bs, List.flatten_append, List.nodup_append] at nd
  exact nd.1
/-- somebody who is not last alone is seen -/
theorem witness (w : Wf T bs) (a : T.Nodup) (ht : t ∈ T) (h : ∀ b, bs.getLast? = some b → b ≠ [t]) : ∃ o ∈ T, o ≠ t ∧ t ∈ seen bs o := by
  have hne : bs ≠ [] := fun e => by
    have := w.mem.mpr ht
    rw [e] at this; simp at this
  obtain ⟨ini, b, rfl⟩ : ∃ ini b, bs = ini ++ [b] := ⟨bs.dropLast, bs.getLast hne, (List.dropLast_concat_getLast hne).symm⟩
  have hb := h b (by simp)
  have bm : b ∈ ini ++ [b] := by simp
  have bne := w.ne b bm
  have basc := w.asc b bm
  have ex : ∃ o ∈ b, o ≠ t := by
    cases b with
    | nil => exact absurd rfl bne
    | cons x xs =>
      by_cases z : x = t
      · cases xs with
        | nil => exact absurd (by rw [z]) hb
        | cons y ys =>
          have := (List.pairwise_cons.mp basc).1 y (List.mem_cons_self ..)
          exact ⟨y, by simp, by omega⟩
      · exact ⟨x, List.mem_cons_self .., z⟩
  obtain ⟨o, ho, ne⟩ := ex
  have nd : (ini ++ [b]).flatten.Nodup := w.perm.nodup_iff.mpr a
  have hno : o ∉ ini.flatten := fun z => by
    rw [List.flatten_append, List.nodup_append] at nd
    exact nd.2.2 o z o (by simpa using ho) rfl
  refine ⟨o, w.mem.mp (List.mem_flatten.mpr ⟨b, bm, ho⟩), ne, ?_⟩
  rw [seen_last hno ho, srt_mem]
  exact w.mem.mpr ht
theorem known_of (w : ∀ bs ∈ rs, Wf T bs) (ho : o ∈ T) (ht : t ∈ T) (h : ∃ bs ∈ rs, t ∈ seen bs o) : t ∈ known rs o := by
  induction rs with
  | nil => obtain ⟨_, h, _⟩ := h; simp at h
  | cons r rs ih =>
    have w2 : ∀ b ∈ rs, Wf T b := fun b hb => w b (List.mem_cons_of_mem _ hb)
    obtain ⟨b, hb, hs⟩ := h
    rcases List.mem_cons.mp hb with e | hb
    · rw [e] at hs; exact stp_mem.mpr ⟨o, known_self w2 ho, hs⟩
    · exact stp_self (ih w2 ⟨b, hb, hs⟩) ((w r (List.mem_cons_self ..)).mem.mpr ht)
/-- a thread more, which comes last -/
def ext (t : Int) (bs : Bs) : Bs := bs ++ [[t]]
theorem stp_ext {f : List Int} (h : ∀ k ∈ f, k ∈ bs.flatten) : stp (ext t bs) f = stp bs f := by
  unfold stp ext
  congr 2
  induction f with
  | nil => rfl
  | cons x xs ih =>
    rw [List.flatMap_cons, List.flatMap_cons, ih fun k hk => h k (List.mem_cons_of_mem _ hk), seen_app (h x (List.mem_cons_self ..))]
theorem known_ext (w : ∀ bs ∈ rs, Wf T bs) (ho : o ∈ T) : known (rs.map (ext t)) o = known rs o := by
  induction rs with
  | nil => rfl
  | cons r rs ih =>
    have w2 : ∀ b ∈ rs, Wf T b := fun b hb => w b (List.mem_cons_of_mem _ hb)
    show stp (ext t r) (known (rs.map (ext t)) o) = stp r (known rs o)
    rw [ih w2]
    exact stp_ext fun k hk => (w r (List.mem_cons_self ..)).mem.mpr (known_sub w2 ho hk)
/-- without a thread that comes last -/
theorem unext (w : Wf T bs) (a : T.Nodup) (h : bs.getLast? = some [t]) : ∃ cs, bs = ext t cs ∧ Wf (T.filter (· ≠ t)) cs ∧ t ∉ cs.flatten := by
  have hne : bs ≠ [] := fun e => by rw [e] at h; simp at h
  have e : bs = ext t bs.dropLast := by
    have := List.dropLast_concat_getLast hne
    rw [List.getLast?_eq_getLast hne] at h
    unfold ext
    rw [← Option.some.inj h]
    exact this.symm
  have hm : ∀ b ∈ bs.dropLast, b ∈ bs := fun b hb => (List.dropLast_sublist _).subset hb
  have p := w.perm
  have nd : bs.flatten.Nodup := p.nodup_iff.mpr a
  rw [e] at p nd
  unfold ext at p nd
  rw [List.flatten_append] at p nd
  have nt : t ∉ bs.dropLast.flatten := fun z => (List.nodup_append.mp nd).2.2 t z t (by simp) rfl
  refine ⟨bs.dropLast, e, ⟨?_, fun b hb => w.ne b (hm b hb), fun b hb => w.asc b (hm b hb)⟩, nt⟩
  have p2 := p.filter (fun x => decide (x ≠ t))
  rw [List.filter_append] at p2
  have f1 : bs.dropLast.flatten.filter (fun x => decide (x ≠ t)) = bs.dropLast.flatten := List.filter_eq_self.mpr fun x hx => by
    simp only [decide_eq_true_eq]
    exact fun z => nt (z ▸ hx)
  have f2 : ([[t]] : Bs).flatten.filter (fun x => decide (x ≠ t)) = [] := by simp
  rw [f1, f2, List.append_nil] at p2
  exact p2
def wout (t : Int) (bs : Bs) : Bs := (bs.map fun b => b.filter (· ≠ t)).filter (· ≠ [])
theorem wout_ext (h : t ∉ bs.flatten) (hne : ∀ b ∈ bs, b ≠ []) : wout t (ext t bs) = bs := by
  unfold wout ext
  rw [List.map_append, List.filter_append]
  have e1 : bs.map (fun b => b.filter (· ≠ t)) = bs := by
    conv => rhs; rw [← List.map_id bs]
    refine List.map_congr_left fun b hb => ?_
    refine List.filter_eq_self.mpr fun x hx => ?_
    simp only [decide_eq_true_eq]
    exact fun z => h (List.mem_flatten.mpr ⟨b, hb, z ▸ hx⟩)
  rw [e1, List.filter_eq_self.mpr fun b hb => by simpa using hne b hb]
  simp
/-- the sign -/
def sg (bs : Bs) : Int := if ((bs.flatten.length : Int) - bs.length) % 2 = 0 then 1 else -1
theorem sg_ext : sg (ext t bs) = sg bs := by
  have h : (((ext t bs).flatten.length : Int) - (ext t bs).length) = (bs.flatten.length : Int) - bs.length := by
    unfold ext
    simp only [List.flatten_append, List.length_append, List.flatten_cons, List.flatten_nil, List.length_cons, List.length_nil, List.append_nil, Int.natCast_add]
    omega
  unfold sg
  rw [h]
def sgn (rs : List Bs) : Int := rs.foldl (fun s b => s * sg b) 1
theorem sgn_ext : sgn (rs.map (ext t)) = sgn rs := by
  unfold sgn
  rw [List.foldl_map]
  congr 1
  funext s b
  rw [sg_ext]
theorem wf_ext {w : List Int} (h : Wf T bs) (p : (T ++ [t]).Perm w) : Wf w (ext t bs) := by
  refine ⟨?_, fun b hb => ?_, fun b hb => ?_⟩
  · unfold ext
    rw [List.flatten_append]
    exact (h.perm.append (List.Perm.refl _)).trans p
  · rcases List.mem_append.mp hb with z | z
    · exact h.ne b z
    · rw [List.mem_singleton.mp z]; simp
  · rcases List.mem_append.mp hb with z | z
    · exact h.asc b z
    · rw [List.mem_singleton.mp z]; simp
/-- the last one sees all -/
theorem known_last {w : List Int} (a : w.Pairwise (· < ·)) (h : ∀ bs ∈ rs, Wf T bs) (p : (T ++ [t]).Perm w) (ht : t ∉ T) (hne : rs ≠ []) : known (rs.map (ext t)) t = w := by
  have tw : t ∈ w := p.mem_iff.mp (by simp)
  have all : ∀ bs ∈ rs, seen (ext t bs) t = w := fun bs hb => by
    have hn : t ∉ bs.flatten := fun z => ht ((h bs hb).mem.mp z)
    unfold ext
    rw [seen_last hn (List.mem_singleton.mpr rfl)]
    exact srt_of (wf_ext (h bs hb) p).perm a
  have key : ∀ (bs : Bs) (f : List Int), bs ∈ rs → t ∈ f → stp (ext t bs) f = w := fun bs f hb hf => by
    refine (set_sorted a fun k => ?_).symm
    rw [List.mem_flatMap]
    refine ⟨fun hk => ⟨t, hf, by rw [all bs hb]; exact hk⟩, fun ⟨o, _, hs⟩ => (wf_ext (h bs hb) p).mem.mp (seen_sub hs)⟩
  cases rs with
  | nil => exact absurd rfl hne
  | cons r rs =>
    refine key r _ (List.mem_cons_self ..) ?_
    have w2 : ∀ b ∈ rs.map (ext t), Wf w b := fun b hb => by
      obtain ⟨c, hc, rfl⟩ := List.mem_map.mp hb
      exact wf_ext (h c (List.mem_cons_of_mem _ hc)) p
    exact known_self w2 tw
theorem known_take (w : ∀ bs ∈ rs, Wf T bs) (ht : t ∈ T) (c : Nat) (h : k ∈ known (rs.take c) t) : k ∈ known (rs.take (c + 1)) t := by
  rw [List.take_add_one]
  cases e : rs[c]? with
  | none => rw [show (none : Option Bs).toList = [] from rfl, List.append_nil]; exact h
  | some r =>
    have hr : r ∈ rs := List.mem_of_getElem? e
    show k ∈ known (rs.take c ++ [r]) t
    unfold known at h ⊢
    rw [List.foldr_append]
    have hs : ∀ x ∈ [t], x ∈ stp r [t] := fun x hx => by rw [List.mem_singleton.mp hx]; exact stp_self (List.mem_singleton.mpr rfl) ((w r hr).mem.mpr ht)
    have gen : ∀ (l : List Bs) (f g : List Int), (∀ x ∈ f, x ∈ g) → ∀ x ∈ l.foldr stp f, x ∈ l.foldr stp g := fun l => by
      induction l with
      | nil => exact fun f g hfg x hx => hfg x hx
      | cons b l ih => exact fun f g hfg x hx => stp_mono (ih f g hfg) hx
    exact gen _ _ _ hs k h
/-- hidden: last alone in each round -/
def hid (rs : List Bs) (t : Int) : Bool := rs.all fun bs => bs.getLast? == some [t]
theorem hid_map (w : ∀ bs ∈ rs, Wf T bs) (a : T.Nodup) (h : hid rs t = true) : ∃ cs : List Bs, rs = cs.map (ext t) ∧ (∀ c ∈ cs, Wf (T.filter (· ≠ t)) c) ∧ ∀ c ∈ cs, t ∉ c.flatten := by
  induction rs with
  | nil => exact ⟨[], rfl, fun c hc => by simp at hc, fun c hc => by simp at hc⟩
  | cons r rs ih =>
    unfold hid at h
    rw [List.all_cons, Bool.and_eq_true] at h
    obtain ⟨cs, e, h1, h2⟩ := ih (fun b hb => w b (List.mem_cons_of_mem _ hb)) h.2
    obtain ⟨c, e2, w2, nt⟩ := unext (w r (List.mem_cons_self ..)) a (eq_of_beq h.1)
    refine ⟨c :: cs, by rw [e, e2]; rfl, fun x hx => ?_, fun x hx => ?_⟩
    · rcases List.mem_cons.mp hx with z | z
      · rw [z]; exact w2
      · exact h1 x z
    · rcases List.mem_cons.mp hx with z | z
      · rw [z]; exact nt
      · exact h2 x z
/-- hidden exactly if nobody else knows of it -/
theorem hid_iff (w : ∀ bs ∈ rs, Wf T bs) (a : T.Nodup) (ht : t ∈ T) : hid rs t = true ↔ (T.filter (· ≠ t)).filter (fun o => (known rs o).contains t) = [] := by
  rw [List.filter_eq_nil_iff]
  constructor
  · intro h o ho
    obtain ⟨cs, rfl, w2, nt⟩ := hid_map w a h
    rw [known_ext w2 ho]
    simp only [List.contains_eq_mem, decide_eq_true_eq]
    intro z
    have := known_sub w2 ho z
    simp at this
  · intro h
    unfold hid
    rw [List.all_eq_true]
    intro bs hb
    by_cases z : bs.getLast? = some [t]
    · rw [z]; exact beq_self_eq_true _
    · exfalso
      obtain ⟨o, ho, ne, hs⟩ := witness (w bs hb) a ht fun b e => fun e2 => z (by rw [e, e2])
      have hk := known_of w ho ht ⟨bs, hb, hs⟩
      exact h o (List.mem_filter.mpr ⟨ho, by simpa using ne⟩) (by simpa using hk)
end
end Rn

/-! lemmas for plain laws with rounds and runs: comparisons, comprehensions, calls -/
namespace M
open PySem PySem.Spec PyProof.Rows L2
/-! == -/
theorem dqs_map {α : Type} [BEq α] {f : α → D} (hf : ∀ x y, dq (f x) (f y) = some (x == y)) : ∀ a b : List α, ∃ c, dqs (a.map f) (b.map f) = some c ∧ (c && a.length == b.length) = (a == b)
  | [], b => ⟨true, by simp only [List.map_nil, dqs], by cases b <;> rfl⟩
  | x :: a, [] => ⟨true, by simp only [List.map_cons, List.map_nil, dqs], rfl⟩
  | x :: a, y :: b => by
    obtain ⟨c, h1, h2⟩ := dqs_map hf a b
    refine ⟨(x == y) && c, by simp only [List.map_cons, dqs, hf, h1, Option.map_some], ?_⟩
    rw [List.length_cons, List.length_cons, List.cons_beq_cons, ← h2, Bool.and_assoc]
    congr 2
    rw [Bool.eq_iff_iff, beq_iff_eq, beq_iff_eq]; omega
theorem dq_tup {α : Type} [BEq α] {f : α → D} (hf : ∀ x y, dq (f x) (f y) = some (x == y)) (a b : List α) : dq (.tup (a.map f)) (.tup (b.map f)) = some (a == b) := by
  obtain ⟨c, h1, h2⟩ := dqs_map hf a b
  simp only [dq, h1, Option.map_some, List.length_map]
  rw [h2]
theorem dq_lst {α : Type} [BEq α] {f : α → D} (hf : ∀ x y, dq (f x) (f y) = some (x == y)) (a b : List α) : dq (.lst (a.map f)) (.lst (b.map f)) = some (a == b) := by
  obtain ⟨c, h1, h2⟩ := dqs_map hf a b
  simp only [dq, List.length_map]
  by_cases z : (a.length == b.length) = true
  · rw [if_pos z, h1, ← h2, z, Bool.and_true]
  · have z' : (a.length == b.length) = false := by simpa using z
    rw [if_neg z, ← h2, z', Bool.and_false]
theorem dq_int (a b : Int) : dq (.int a) (.int b) = some (a == b) := by simp only [dq]
theorem dep_map {α : Type} {f : α → D} {k : Nat} (h : ∀ x, dep (f x) ≤ k) : ∀ a : List α, deps (a.map f) ≤ k
  | [] => Nat.zero_le _
  | x :: a => by simp only [List.map_cons, deps]; exact Nat.max_le.mpr ⟨h x, dep_map h a⟩
theorem eqX_of {d e : D} {b : Bool} (h : dq d e = some b) (hd : dep d ≤ 60) : eqX d e = some (.bl b) := by
  unfold eqX; rw [if_pos (Nat.ble_eq_true_of_le hd), h]; rfl
theorem neX_of {d e : D} {b : Bool} (h : dq d e = some b) (hd : dep d ≤ 60) (hk : knd d ≠ some 5) : neX d e = some (.bl (!b)) := by
  unfold neX
  split
  · rename_i a c
    exact absurd a hk
  · rw [if_pos (Nat.ble_eq_true_of_le hd), h]; rfl
/-- a tuple of ints -/
def bD (b : List Int) : D := .tup (b.map D.int)
theorem dq_bD (a b : List Int) : dq (bD a) (bD b) = some (a == b) := dq_tup dq_int a b
theorem dep_bD (a : List Int) : dep (bD a) ≤ 1 := by
  unfold bD; simp only [dep]
  exact Nat.succ_le_succ (dep_map (f := D.int) (k := 0) (fun _ => Nat.le_refl 0) a)
def bsD (bs : List (List Int)) : D := .tup (bs.map bD)
theorem dq_bsD (a b : List (List Int)) : dq (bsD a) (bsD b) = some (a == b) := dq_tup dq_bD a b
theorem dep_bsD (a : List (List Int)) : dep (bsD a) ≤ 2 := by
  unfold bsD; simp only [dep]
  exact Nat.succ_le_succ (dep_map dep_bD a)
theorem dq_lb (a b : List (List Int)) : dq (.lst (a.map bD)) (.lst (b.map bD)) = some (a == b) := dq_lst dq_bD a b
theorem dep_lb (a : List (List Int)) : dep (.lst (a.map bD)) ≤ 2 := by
  simp only [dep]
  exact Nat.succ_le_succ (dep_map dep_bD a)
theorem dq_li (a b : List Int) : dq (.lst (a.map D.int)) (.lst (b.map D.int)) = some (a == b) := dq_lst dq_int a b
theorem dep_li (a : List Int) : dep (.lst (a.map D.int)) ≤ 1 := by
  simp only [dep]
  exact Nat.succ_le_succ (dep_map (f := D.int) (k := 0) (fun _ => Nat.le_refl 0) a)
theorem eqX_bD (a b : List Int) : eqX (bD a) (bD b) = some (.bl (a == b)) := eqX_of (dq_bD a b) (Nat.le_trans (dep_bD a) (by decide))
theorem neX_bD (a b : List Int) : neX (bD a) (bD b) = some (.bl (!(a == b))) := neX_of (dq_bD a b) (Nat.le_trans (dep_bD a) (by decide)) (by simp [bD, knd])
theorem eqX_bsD (a b : List (List Int)) : eqX (bsD a) (bsD b) = some (.bl (a == b)) := eqX_of (dq_bsD a b) (Nat.le_trans (dep_bsD a) (by decide))
theorem neX_lb (a b : List (List Int)) : neX (.lst (a.map bD)) (.lst (b.map bD)) = some (.bl (!(a == b))) := neX_of (dq_lb a b) (Nat.le_trans (dep_lb a) (by decide)) (by simp [knd])
theorem eqX_li (a b : List Int) : eqX (.lst (a.map D.int)) (.lst (b.map D.int)) = some (.bl (a == b)) := eqX_of (dq_li a b) (Nat.le_trans (dep_li a) (by decide))
theorem neX_li (a b : List Int) : neX (.lst (a.map D.int)) (.lst (b.map D.int)) = some (.bl (!(a == b))) := neX_of (dq_li a b) (Nat.le_trans (dep_li a) (by decide)) (by simp [knd])
theorem eqX_ii (a b : Int) : eqX (.int a) (.int b) = some (.bl (a == b)) := eqX_of (dq_int a b) (Nat.zero_le _)
theorem neX_ii (a b : Int) : neX (.int a) (.int b) = some (.bl (!(a == b))) := neX_of (dq_int a b) (Nat.zero_le _) (by simp [knd])
theorem neX_bb (a b : Bool) : neX (.bl a) (.bl b) = some (.bl (!(a == b))) := neX_of (by simp only [dq]) (Nat.zero_le _) (by simp [knd])
theorem asInts_map (xs : List Int) : asInts (xs.map D.int) = some xs := by
  induction xs with
  | nil => rfl
  | cons x xs ih => simp only [List.map_cons, asInts, ih, Option.map_some]
theorem allD_map (xs : List Bool) : allD [.lst (xs.map D.bl)] = some (.bl (xs.all id)) := by
  have : asBools (xs.map D.bl) = some xs := by
    induction xs with
    | nil => rfl
    | cons x xs ih => simp only [List.map_cons, asBools, ih, Option.map_some]
  simp only [allD, this, Option.map_some]
theorem sortX_l (xs : List Int) : sortXD [.lst (xs.map D.int)] = some (.lst ((Rn.srt xs).map D.int)) := by
  show sortedD [.lst (xs.map D.int)] = _
  simp only [sortedD, asInts_map]; rfl
theorem sortX_t (xs : List Int) : sortXD [bD xs] = some (.lst ((Rn.srt xs).map D.int)) := by
  show (asInts (xs.map D.int)).map _ = _
  rw [asInts_map]; rfl
theorem inSq_ints (t : Int) (xs : List Int) : inSq (.int t) (bD xs) = some (xs.contains t) := by
  have hf : (xs.map D.int).all flatD = true := by rw [List.all_map]; exact List.all_eq_true.mpr fun _ _ => rfl
  simp only [inSq, bD]
  rw [if_pos ⟨rfl, hf⟩, List.any_map]
  congr 1
  induction xs with
  | nil => rfl
  | cons x xs ih =>
    rw [List.any_cons, List.contains_cons]
    have ih' := ih (by rw [List.all_map]; exact List.all_eq_true.mpr fun _ _ => rfl)
    rw [ih']
    congr 1
    show (x == t) = (t == x)
    rw [Bool.eq_iff_iff, beq_iff_eq, beq_iff_eq]; exact eq_comm
/-! tests -/
theorem ret_if' {t : FT} {d : D} {ρ ρ1 : Rho} {b : FS} (h : t ρ = .ok (true, ρ1)) : sIf t (sRet (eC d)) b ρ = .ok (.rt (.dat d), ρ1) := by simp [sIf, bndTS, h, Rz.bind, sRet, bndS, eC]
theorem if_f {t : FT} {ρ ρ1 : Rho} {a b : FS} (h : t ρ = .ok (false, ρ1)) : sIf t a b ρ = b ρ1 := by simp [sIf, bndTS, h, Rz.bind]
theorem if_t {t : FT} {ρ ρ1 : Rho} {a b : FS} (h : t ρ = .ok (true, ρ1)) : sIf t a b ρ = a ρ1 := by simp [sIf, bndTS, h, Rz.bind]
theorem or_t' {a b : FT} {ρ ρ1 : Rho} (h : a ρ = .ok (true, ρ1)) : tOrD a b ρ = .ok (true, ρ1) := by simp [tOrD, bndT_T, h, Rz.bind]
theorem or_f' {a b : FT} {ρ ρ1 : Rho} (h : a ρ = .ok (false, ρ1)) : tOrD a b ρ = b ρ1 := by simp [tOrD, bndT_T, h, Rz.bind]
theorem andT_t {a b : FT} {ρ ρ1 : Rho} (h : a ρ = .ok (true, ρ1)) : tAndD a b ρ = b ρ1 := by simp [tAndD, bndT_T, h, Rz.bind]
theorem andT_f {a b : FT} {ρ ρ1 : Rho} (h : a ρ = .ok (false, ρ1)) : tAndD a b ρ = .ok (false, ρ1) := by simp [tAndD, bndT_T, h, Rz.bind]
theorem not_t {f : FE} {b : Bool} {ρ ρ1 : Rho} (h : f ρ = .ok (.bl b, ρ1)) : tNotD (tTr f) ρ = .ok (!b, ρ1) := by simp only [tNotD, bndT_T, tTr, bnd_T, h, Rz.bind, trD]
theorem and_tt {a b : FE} {ρ ρ1 : Rho} (h : a ρ = .ok (.bl true, ρ1)) : eAnd a b ρ = b ρ1 := by simp only [eAnd, bnd, h, Rz.bind]
theorem drop_ok {f : FE} {ρ ρ1 : Rho} {d : D} (h : f ρ = .ok (d, ρ1)) : sDrop f ρ = .ok (.nx, ρ1) := by simp only [sDrop, bndS, h, Rz.bind, sNx]
theorem ret_ok {f : FE} {ρ ρ1 : Rho} {d : D} (h : f ρ = .ok (d, ρ1)) : sRet f ρ = .ok (.rt (.dat d), ρ1) := by simp only [sRet, bndS, h, Rz.bind]
theorem call1 {F : FD} {n : Nat} {fa : FE} {ρ ρ1 : Rho} {a r : D} (h : fa ρ = .ok (a, ρ1)) (hF : Fv F n [a] = some r) : eCall F n (rCons fa rNil) ρ = .ok (r, ρ1) := by
  rw [eCall1, h]; simp only [Rz.bind, hF, ofO_some]
theorem call2 {F : FD} {n : Nat} {fa fb : FE} {ρ ρ1 ρ2 : Rho} {a b r : D} (h : fa ρ = .ok (a, ρ1)) (h2 : fb ρ1 = .ok (b, ρ2)) (hF : Fv F n [a, b] = some r) : eCall F n (rCons fa (rCons fb rNil)) ρ = .ok (r, ρ2) := by
  rw [eCall2, h]; simp only [Rz.bind, h2, hF, ofO_some]
theorem call3 {F : FD} {n : Nat} {fa fb fc : FE} {ρ ρ1 ρ2 ρ3 : Rho} {a b c r : D} (h : fa ρ = .ok (a, ρ1)) (h2 : fb ρ1 = .ok (b, ρ2)) (h3 : fc ρ2 = .ok (c, ρ3)) (hF : Fv F n [a, b, c] = some r) : eCall F n (rCons fa (rCons fb (rCons fc rNil))) ρ = .ok (r, ρ3) := by
  rw [eCall3, h]; simp only [Rz.bind, h2, h3, hF, ofO_some]
theorem attr_sl {tb : Str → Option AtK} {n i : Nat} {fe : FE} {ρ ρ1 : Rho} {c : Str} {fs : List D} {r : D} (h : fe ρ = .ok (.ins c fs, ρ1)) (ht : tb c = some (.sl i)) (hi : fs[i]? = some r) : eAttr tb n fe ρ = .ok (r, ρ1) := by
  simp only [eAttr, bnd, h, Rz.bind, ht, hi]
theorem attr_pr {tb : Str → Option AtK} {n : Nat} {F : FD} {fe : FE} {ρ ρ1 : Rho} {c : Str} {fs : List D} {r : D} (h : fe ρ = .ok (.ins c fs, ρ1)) (ht : tb c = some (.pr F)) (hF : Fv F n [.ins c fs] = some r) : eAttr tb n fe ρ = .ok (r, ρ1) := by
  have e := callD_d F n [.ins c fs] ρ1
  rw [hF, ofO_some] at e
  simp only [eAttr, bnd, h, Rz.bind, ht]
  exact e
theorem meth1 {tb : Str → Option FD} {n : Nat} {F : FD} {fo fa : FE} {ρ ρ1 ρ2 : Rho} {c : Str} {fs : List D} {a r : D} (h : fo ρ = .ok (.ins c fs, ρ1)) (h2 : fa ρ1 = .ok (a, ρ2)) (ht : tb c = some F) (hF : Fv F n [.ins c fs, a] = some r) : eMeth tb n fo (rCons fa rNil) ρ = .ok (r, ρ2) := by
  have e := callD_d F n [.ins c fs, a] ρ2
  rw [hF, ofO_some] at e
  simp only [eMeth, h, Rz.bind, rCons, rNil, h2, ht]
  exact e
theorem make_ok {c : Str} {F : FNd} {n : Nat} {fa : FA} {ρ ρ1 : Rho} {ds fs : List D} (h : fa ρ = .ok (ds, ρ1)) (hF : F n ds = some fs) : eMake c F n fa ρ = .ok (.ins c fs, ρ1) := by
  simp only [eMake, bndA, h, Rz.bind, hF]
theorem isC_ok {tb : Str → Option Bool} {fe : FE} {ρ ρ1 : Rho} {c : Str} {fs : List D} {b : Bool} (h : fe ρ = .ok (.ins c fs, ρ1)) (ht : tb c = some b) : eIsC tb fe ρ = .ok (.bl b, ρ1) := by
  simp only [eIsC, e1, bnd, h, Rz.bind, ht, Option.map_some, ofO_some]
theorem if_ok {t : FT} {a b : FE} {ρ ρ1 : Rho} {c : Bool} (h : t ρ = .ok (c, ρ1)) : eIf t a b ρ = (if c = true then a else b) ρ1 := by simp only [eIf, bndT, h, Rz.bind]
theorem ch_ok {op op' : D → D → Option D} {fa fb fc : FE} {ρ ρ1 ρ2 ρ3 : Rho} {a b c d : D} (h1 : fa ρ = .ok (a, ρ1)) (h2 : fb ρ1 = .ok (b, ρ2)) (o1 : op a b = some (.bl true)) (h3 : fc ρ2 = .ok (c, ρ3)) (o2 : op' b c = some d) : eCh op op' fa fb fc ρ = .ok (d, ρ3) := by
  simp only [eCh, bnd, h1, Rz.bind, h2, o1, h3, o2, ofO_some]
theorem cons_ok {fa : FE} {fs : FA} {ρ ρ1 ρ2 : Rho} {a : D} {ds : List D} (h : fa ρ = .ok (a, ρ1)) (h2 : fs ρ1 = .ok (ds, ρ2)) : aCons fa fs ρ = .ok (a :: ds, ρ2) := by simp only [aCons, h, Rz.bind, h2]
theorem nil_ok {ρ : Rho} : aNil ρ = .ok ([], ρ) := rfl
theorem iSeq_t {fe : FE} {ρ ρ1 : Rho} {ds : List D} (h : fe ρ = .ok (.tup ds, ρ1)) : iSeq fe ρ = .ok (ds, ρ1) := by simp only [iSeq, h, Rz.bind]
theorem iSeq_l {fe : FE} {ρ ρ1 : Rho} {ds : List D} (h : fe ρ = .ok (.lst ds, ρ1)) : iSeq fe ρ = .ok (ds, ρ1) := by simp only [iSeq, h, Rz.bind]
theorem tup_ok {fs : FA} {ρ ρ1 : Rho} {ds : List D} (h : fs ρ = .ok (ds, ρ1)) (hl : ds.length ≤ 1000) : eTup fs ρ = .ok (.tup ds, ρ1) := by
  have z : (1000 : Nat) ≤ sizeLine := by decide +kernel
  simp only [eTup, bndA, h, Rz.bind]
  rw [if_pos (by omega)]
theorem lst_ok {fs : FA} {ρ ρ1 : Rho} {ds : List D} (h : fs ρ = .ok (ds, ρ1)) (hl : ds.length ≤ 1000) : eLst fs ρ = .ok (.lst ds, ρ1) := by
  have z : (1000 : Nat) ≤ sizeLine := by decide +kernel
  simp only [eLst, bndA, h, Rz.bind]
  rw [if_pos (by omega)]
/-! comprehensions with two fors -/
theorem lc2_ok {fi fi1 : FI} {tg tg1 : TgD} {fe : FE} {vs vs1 : List Nat} {ρ ρ0 : Rho} {ds : List D} (g : D → List D) (h1 : fi ρ = .ok (ds, ρ0)) (hn : noIo vs ρ0 = true)
    (h : ∀ d ∈ ds, ∃ ρ1 ρ2, tg d (wipeR vs ρ0) = some ρ1 ∧ fi1 ρ1 = .ok (g d, ρ2) ∧ noIo vs1 ρ2 = true ∧ noIo vs (wipeR vs1 ρ2) = true ∧ wipeR vs (wipeR vs1 ρ2) = wipeR vs ρ0 ∧
      ∀ e ∈ g d, ∃ ρ3 ρ4, tg1 e (wipeR vs1 ρ2) = some ρ3 ∧ fe ρ3 = .ok (e, ρ4) ∧ noIo vs1 ρ4 = true ∧ wipeR vs1 ρ4 = wipeR vs1 ρ2)
    (hl : (ds.flatMap g).length ≤ 1000) : oLc2 fi tg tYesD fi1 tg1 tYesD fe vs vs1 ρ = .ok (ds.flatMap g, restR vs ρ0 (wipeR vs ρ0)) := by
  have z : (1000 : Nat) ≤ sizeLine := by decide +kernel
  have key : ∀ (ds acc : List D), (∀ d ∈ ds, ∃ ρ1 ρ2, tg d (wipeR vs ρ0) = some ρ1 ∧ fi1 ρ1 = .ok (g d, ρ2) ∧ noIo vs1 ρ2 = true ∧ noIo vs (wipeR vs1 ρ2) = true ∧ wipeR vs (wipeR vs1 ρ2) = wipeR vs ρ0 ∧
      ∀ e ∈ g d, ∃ ρ3 ρ4, tg1 e (wipeR vs1 ρ2) = some ρ3 ∧ fe ρ3 = .ok (e, ρ4) ∧ noIo vs1 ρ4 = true ∧ wipeR vs1 ρ4 = wipeR vs1 ρ2) → acc.length + (ds.flatMap g).length ≤ 1000 →
      lcL2 tg tYesD fi1 tg1 tYesD fe vs vs1 ds acc (wipeR vs ρ0) = .ok (acc ++ ds.flatMap g, wipeR vs ρ0) := by
    intro ds
    induction ds with
    | nil => intro acc _ _; unfold lcL2; rw [frcL_eq, List.flatMap_nil, List.append_nil]
    | cons d ds ih =>
      intro acc h hl
      obtain ⟨ρ1, ρ2, e1, e2, e3, e4, e5, e6⟩ := h d (List.mem_cons_self ..)
      rw [List.flatMap_cons, List.length_append] at hl
      have q := lcL_map (tg := tg1) (fe := fe) (vs := vs1) (ρ := wipeR vs1 ρ2) (fun d => d) (g d) acc e6 (by omega)
      rw [List.map_id'] at q
      unfold lcL2
      rw [frc_eq, nrmR_eq, e1]
      simp only [tYesD, Rz.bind, if_true, e2, e3]
      rw [q]
      simp only [e4, if_true, e5]
      rw [ih _ (fun x hx => h x (List.mem_cons_of_mem _ hx)) (by rw [List.length_append]; omega), List.flatMap_cons, List.append_assoc]
  unfold oLc2
  rw [h1]
  simp only [Rz.bind, if_pos hn]
  rw [key ds [] h (by simpa using hl)]
  simp only [List.nil_append]
/-- a comprehension, wholly -/
theorem lcm_ok {fi : FI} {tg : TgD} {fe : FE} {vs : List Nat} {ρ ρ0 : Rho} {α : Type} {xs : List α} {u f : α → D} (h1 : fi ρ = .ok (xs.map u, ρ0)) (hn : noIo vs ρ0 = true) (hw : restR vs ρ0 (wipeR vs ρ0) = ρ0) (h : ∀ x ∈ xs, ∃ ρ1 ρ2, tg (u x) (wipeR vs ρ0) = some ρ1 ∧ fe ρ1 = .ok (f x, ρ2) ∧ noIo vs ρ2 = true ∧ wipeR vs ρ2 = wipeR vs ρ0)
    (hl : xs.length ≤ 1000) : oLc fi tg tYesD fe vs ρ = .ok (xs.map f, ρ0) := by
  have z : (1000 : Nat) ≤ sizeLine := by decide +kernel
  have key : ∀ (xs : List α) (acc : List D), (∀ x ∈ xs, ∃ ρ1 ρ2, tg (u x) (wipeR vs ρ0) = some ρ1 ∧ fe ρ1 = .ok (f x, ρ2) ∧ noIo vs ρ2 = true ∧ wipeR vs ρ2 = wipeR vs ρ0) → acc.length + xs.length ≤ 1000 → lcL tg tYesD fe vs (xs.map u) acc (wipeR vs ρ0) = .ok (acc ++ xs.map f, wipeR vs ρ0) := by
    intro xs
    induction xs with
    | nil => intro acc _ _; rw [List.map_nil]; unfold lcL; rw [frcL_eq, List.map_nil, List.append_nil]
    | cons x xs ih =>
      intro acc h hl
      obtain ⟨ρ1, ρ2, e1, e2, e3, e4⟩ := h x (List.mem_cons_self ..)
      rw [List.length_cons] at hl
      rw [List.map_cons]
      unfold lcL
      rw [frc_eq, nrmR_eq, e1]
      simp only [tYesD, Rz.bind, if_true, e2, e3, and_true]
      rw [if_pos (by omega), e4, ih _ (fun y hy => h y (List.mem_cons_of_mem _ hy)) (by rw [List.length_append, List.length_singleton]; omega), List.map_cons, List.append_assoc]
      rfl
  unfold oLc
  rw [h1]
  simp only [Rz.bind, if_pos hn]
  rw [key xs [] h (by simpa using hl), List.nil_append]
  simp only [hw]
theorem lcf_ok {fi : FI} {tg : TgD} {ft : FT} {fe : FE} {vs : List Nat} {ρ ρ0 : Rho} {α : Type} {xs : List α} {u : α → D} (p : α → Bool) (h1 : fi ρ = .ok (xs.map u, ρ0)) (hn : noIo vs ρ0 = true) (hw : restR vs ρ0 (wipeR vs ρ0) = ρ0)
    (h : ∀ x ∈ xs, ∃ ρ1 ρ2, tg (u x) (wipeR vs ρ0) = some ρ1 ∧ ft ρ1 = .ok (p x, ρ2) ∧ noIo vs ρ2 = true ∧ wipeR vs ρ2 = wipeR vs ρ0 ∧ fe ρ2 = .ok (u x, ρ2)) (hl : xs.length ≤ 1000) : oLc fi tg ft fe vs ρ = .ok ((xs.filter p).map u, ρ0) := by
  have z : (1000 : Nat) ≤ sizeLine := by decide +kernel
  have key : ∀ (xs : List α) (acc : List D), (∀ x ∈ xs, ∃ ρ1 ρ2, tg (u x) (wipeR vs ρ0) = some ρ1 ∧ ft ρ1 = .ok (p x, ρ2) ∧ noIo vs ρ2 = true ∧ wipeR vs ρ2 = wipeR vs ρ0 ∧ fe ρ2 = .ok (u x, ρ2)) → acc.length + xs.length ≤ 1000 → lcL tg ft fe vs (xs.map u) acc (wipeR vs ρ0) = .ok (acc ++ (xs.filter p).map u, wipeR vs ρ0) := by
    intro xs
    induction xs with
    | nil => intro acc _ _; rw [List.map_nil]; unfold lcL; rw [frcL_eq, List.filter_nil, List.map_nil, List.append_nil]
    | cons x xs ih =>
      intro acc h hl
      obtain ⟨ρ1, ρ2, e1, e2, e3, e4, e5⟩ := h x (List.mem_cons_self ..)
      rw [List.length_cons] at hl
      have ih' := fun acc hl => ih acc (fun y hy => h y (List.mem_cons_of_mem _ hy)) hl
      rw [List.map_cons]
      unfold lcL
      rw [frc_eq, nrmR_eq, e1]
      simp only [e2, Rz.bind]
      cases q : p x with
      | true =>
        simp only [e5, if_true, e3, and_true, e4]
        rw [if_pos (by omega), ih' _ (by rw [List.length_append, List.length_singleton]; omega), List.filter_cons_of_pos q, List.map_cons, List.append_assoc]
        rfl
      | false =>
        simp only [Bool.false_eq_true, if_false, e3, if_true, e4]
        rw [ih' _ (by omega), List.filter_cons_of_neg (by rw [q]; exact Bool.false_ne_true)]
  unfold oLc
  rw [h1]
  simp only [Rz.bind, if_pos hn]
  rw [key xs [] h (by simpa using hl), List.nil_append]
  simp only [hw]
end M

/-! what the program's functions tell about rounds and runs -/
namespace Lk
open PySem PySem.Spec PyProof.Rows L2 M Rn
local instance tb1 : Tabs := ⟨[], []⟩
theorem lt_ok {a b : Int} (h : a < b) : ltD (.int a) (.int b) = some (.bl true) := by show some (D.bl (iLt a b)) = _; rw [iLt_eq, decide_eq_true h]
theorem le_ok {a b : Int} (h : a ≤ b) : leD (.int a) (.int b) = some (.bl true) := by show some (D.bl (!iLt b a)) = _; rw [not_iLt, decide_eq_true h]
theorem ge_ok {a b : Int} (h : b ≤ a) : geD (.int a) (.int b) = some (.bl true) := by show some (D.bl (!iLt a b)) = _; rw [not_iLt, decide_eq_true h]
theorem gt_no {a b : Int} (h : a ≤ b) : gtD (.int a) (.int b) = some (.bl false) := by show some (D.bl (iLt b a)) = _; rw [iLt_eq, decide_eq_false (by omega)]
/-- an old name -/
abbrev Nm (t : Int) : Prop := 0 ≤ t ∧ t < 100
theorem isint_v (n : Nat) {t : Int} (h : Nm t) : Fv F_is_integer n [.int t] = some (.bl true) := by
  refine Fv_rt (g := g_is_integer n) rfl rfl (ρ := [some (.dat (.int t))]) ?_
  show g_is_integer n [some (.dat (.int t))] = _
  have c1 : eB isiD (aCons (eV 0) (aCons (eC (.con (.ty "int"))) aNil)) [some (.dat (.int t))] = .ok (.bl true, [some (.dat (.int t))]) := eB2_ok (eV_ok rfl) eC_ok rfl
  have c2 : eNot (eB isiD (aCons (eV 0) (aCons (eC (.con (.ty "bool"))) aNil))) [some (.dat (.int t))] = .ok (.bl true, [some (.dat (.int t))]) := e1_ok (eB2_ok (eV_ok rfl) eC_ok (show isiD [.int t, .con (.ty "bool")] = some (.bl false) from rfl)) rfl
  have c3 : eCh ltD ltD (M.e1 negD (eC (.int 1000000000000000000000000000000000000000000000000000000000000))) (eV 0) (eC (.int 1000000000000000000000000000000000000000000000000000000000000)) [some (.dat (.int t))] = .ok (.bl true, [some (.dat (.int t))]) := ch_ok (e1_ok eC_ok rfl) (eV_ok rfl) (lt_ok (by omega)) eC_ok (lt_ok (by omega))
  exact ret_ok ((and_tt c1).trans ((and_tt c2).trans c3))
theorem old_v (n : Nat) {t : Int} (h : Nm t) : Fv F_is_old_name n [.int t] = some (.bl true) := by
  refine Fv_rt (g := g_is_old_name n) rfl rfl (ρ := [some (.dat (.int t))]) ?_
  show g_is_old_name n [some (.dat (.int t))] = _
  exact ret_ok ((and_tt (call1 (eV_ok rfl) (isint_v n h))).trans (e2_ok (eV_ok rfl) eC_ok (ge_ok h.1)))
theorem sortSet_t {T : List Int} (a : T.Pairwise (· < ·)) (hl : T.length < 64) : sortSetX (bD T) = some (.lst (T.map D.int)) := by
  show (match asInts (T.map D.int) with | some ns => if ns.length < 64 then some (D.lst ((isort leI (dedup ns)).map D.int)) else none | none => none) = _
  rw [asInts_map]
  dsimp only
  rw [if_pos hl, ← set_sorted a fun k => Iff.rfl]
theorem sortSet_l {l : List Int} (hl : l.length < 64) : sortSetX (.lst (l.map D.int)) = some (.lst ((srt (dedup l)).map D.int)) := by
  show (match asInts (l.map D.int) with | some ns => if ns.length < 64 then some (D.lst ((isort leI (dedup ns)).map D.int)) else none | none => none) = _
  rw [asInts_map]
  dsimp only
  rw [if_pos hl]; rfl
theorem all_true {α : Type} (xs : List α) : allD [.lst (xs.map fun _ => D.bl true)] = some (.bl true) := by
  have e : xs.map (fun _ => D.bl true) = (xs.map fun _ => true).map D.bl := by rw [List.map_map]; rfl
  rw [e, allD_map]
  congr 2
  rw [List.all_map]; exact List.all_eq_true.mpr fun _ _ => rfl
theorem olds_v (n : Nat) {T : List Int} (a : T.Pairwise (· < ·)) (r : ∀ t ∈ T, Nm t) (hl : T.length ≤ 50) : Fv F_are_old_names n [bD T] = some (.bl true) := by
  refine Fv_rt (g := g_are_old_names n) rfl rfl (ρ := [some (.dat (bD T)), none]) ?_
  show g_are_old_names n [some (.dat (bD T)), none] = _
  have c1 : eB isiD (aCons (eV 0) (aCons (eC (.con (.ty "tuple"))) aNil)) [some (.dat (bD T)), none] = .ok (.bl true, [some (.dat (bD T)), none]) := eB2_ok (eV_ok rfl) eC_ok rfl
  have c2 := lcm_ok (ρ := [some (.dat (bD T)), none]) (fi := iSeq (eV 0)) (tg := tName 1) (fe := eCall F_is_old_name n (rCons (eV 1) rNil)) (vs := [1]) (xs := T) (u := D.int) (f := fun _ => D.bl true) (iSeq_t (eV_ok rfl)) rfl rfl (fun t ht => ⟨[some (.dat (bD T)), some (.dat (.int t))], [some (.dat (bD T)), some (.dat (.int t))], rfl, call1 (eV_ok rfl) (old_v n (r t ht)), rfl, rfl⟩) (by omega)
  have c3 : M.e2 eqX (eB lstD (aCons (eV 0) aNil)) (M.e1 sortSetX (eV 0)) [some (.dat (bD T)), none] = .ok (.bl true, [some (.dat (bD T)), none]) := e2_ok (eB1_ok (eV_ok rfl) rfl) (e1_ok (eV_ok rfl) (sortSet_t a (by omega))) ((eqX_li T T).trans (by rw [beq_self_eq_true]))
  exact ret_ok ((and_tt c1).trans ((and_tt (eB1_ok (fz_ok c2) (all_true T))).trans c3))
theorem threads_v (n : Nat) {T : List Int} (h : Th T) : Fv F_are_threads n [bD T] = some (.bl true) := by
  refine Fv_rt (g := g_are_threads n) rfl rfl (ρ := [some (.dat (bD T))]) ?_
  show g_are_threads n [some (.dat (bD T))] = _
  have h0 : 0 < T.length := List.length_pos_iff.mpr h.ne
  have h5 := h.len
  have hl : lenD [bD T] = some (.int (T.length : Nat)) := by show some (D.int ((T.map D.int).length : Nat)) = _; rw [List.length_map]
  exact ret_ok ((and_tt (call1 (eV_ok rfl) (olds_v n h.asc h.rng (by omega)))).trans (ch_ok eC_ok (eB1_ok (eV_ok rfl) hl) (le_ok (by omega)) eC_ok (le_ok (by omega))))
theorem reqT_v (n : Nat) {T : List Int} (h : Th T) : Fv F_require_threads n [bD T] = some .non := by
  refine Fv_nx (g := g_require_threads n) rfl rfl (ρ := [some (.dat (bD T))]) ?_
  show g_require_threads n [some (.dat (bD T))] = _
  exact if_f (not_t (call1 (eV_ok rfl) (threads_v n h)))
theorem blk_th {T b : List Int} {bs : Bs} (w : Wf T bs) (h : Th T) (hb : b ∈ bs) : Th b := by
  have sub : ∀ k ∈ b, k ∈ T := fun k hk => w.mem.mp (List.mem_flatten.mpr ⟨b, hb, hk⟩)
  exact ⟨w.asc b hb, fun t ht => h.rng t (sub t ht), w.ne b hb, Nat.le_trans (len_sub (nodup_asc (w.asc b hb)) sub) h.len⟩
def unT : D → List D | .tup ds => ds | _ => []
theorem flat_un (bs : Bs) : (bs.map bD).flatMap unT = bs.flatten.map D.int := by
  induction bs with
  | nil => rfl
  | cons b bs ih => rw [List.map_cons, List.flatMap_cons, ih, List.flatten_cons, List.map_append]; rfl
theorem wf_len {T : List Int} {bs : Bs} (w : Wf T bs) : bs.flatten.length = T.length := w.perm.length_eq
theorem wf_len2 {T : List Int} {bs : Bs} (w : Wf T bs) : bs.length ≤ T.length := by
  rw [← wf_len w]
  have : ∀ bs : Bs, (∀ b ∈ bs, b ≠ []) → bs.length ≤ bs.flatten.length := fun bs => by
    induction bs with
    | nil => intro _; exact Nat.zero_le _
    | cons b bs ih =>
      intro h
      have h1 := ih fun c hc => h c (List.mem_cons_of_mem _ hc)
      have h2 : 0 < b.length := List.length_pos_iff.mpr (h b (List.mem_cons_self ..))
      rw [List.length_cons, List.flatten_cons, List.length_append]; omega
  exact this bs w.ne
theorem lenb {b : List Int} : lenD [bD b] = some (.int (b.length : Nat)) := by show some (D.int ((b.map D.int).length : Nat)) = _; rw [List.length_map]
theorem lenbs {bs : Bs} : lenD [bsD bs] = some (.int (bs.length : Nat)) := by show some (D.int ((bs.map bD).length : Nat)) = _; rw [List.length_map]
theorem blocks_v (n : Nat) {T : List Int} {bs : Bs} (w : Wf T bs) (h : Th T) : Fv F_are_blocks n [bsD bs] = some (.bl true) := by
  let F : D := .lst (bs.flatten.map D.int)
  refine Fv_rt (g := g_are_blocks n) rfl rfl (ρ := [some (.dat (bsD bs)), some (.dat F), none, none]) ?_
  show g_are_blocks n [some (.dat (bsD bs)), none, none, none] = _
  have h5 := h.len
  have hl := wf_len w
  have hl2 := wf_len2 w
  have h0 : 0 < T.length := List.length_pos_iff.mpr h.ne
  have nd : bs.flatten.Nodup := w.perm.nodup_iff.mpr (nodup_asc h.asc)
  have c1 : tNotD (tTr (eB isiD (aCons (eV 0) (aCons (eC (.con (.ty "tuple"))) aNil)))) [some (.dat (bsD bs)), none, none, none] = .ok (false, [some (.dat (bsD bs)), none, none, none]) := not_t (b := true) (eB2_ok (eV_ok rfl) eC_ok rfl)
  have c2 := lcm_ok (ρ := [some (.dat (bsD bs)), none, none, none]) (fi := iSeq (eV 0)) (tg := tName 2) (fe := eCall F_are_threads n (rCons (eV 2) rNil)) (vs := [2]) (xs := bs) (u := bD) (f := fun _ => D.bl true) (iSeq_t (eV_ok rfl)) rfl rfl (fun b hb => ⟨[some (.dat (bsD bs)), none, some (.dat (bD b)), none], [some (.dat (bsD bs)), none, some (.dat (bD b)), none], rfl, call1 (eV_ok rfl) (threads_v n (blk_th w h hb)), rfl, rfl⟩) (by omega)
  have c3 : oLc2 (iSeq (eV 0)) (tName 2) tYesD (iSeq (eV 2)) (tName 3) tYesD (eV 3) [2, 3] [3] [some (.dat (bsD bs)), none, none, none] = .ok ((bs.map bD).flatMap unT, [some (.dat (bsD bs)), none, none, none]) := lc2_ok (ρ := [some (.dat (bsD bs)), none, none, none]) (ρ0 := [some (.dat (bsD bs)), none, none, none]) unT (iSeq_t (eV_ok rfl)) rfl (fun d hd => by
    obtain ⟨b, hb, rfl⟩ := List.mem_map.mp hd
    refine ⟨[some (.dat (bsD bs)), none, some (.dat (bD b)), none], [some (.dat (bsD bs)), none, some (.dat (bD b)), none], rfl, iSeq_t (eV_ok rfl), rfl, rfl, rfl, fun e he => ?_⟩
    exact ⟨[some (.dat (bsD bs)), none, some (.dat (bD b)), some (.dat e)], [some (.dat (bsD bs)), none, some (.dat (bD b)), some (.dat e)], rfl, eV_ok rfl, rfl, rfl⟩) (by rw [flat_un, List.length_map]; omega)
  rw [flat_un] at c3
  have c4 := set_ok (i := 1) (fz_ok c3) rfl
  have hF : lenD [F] = some (.int (bs.flatten.length : Nat)) := by show some (D.int ((bs.flatten.map D.int).length : Nat)) = _; rw [List.length_map]
  have hS : lenSetD F = some (.int (bs.flatten.length : Nat)) := by
    show (match asInts (bs.flatten.map D.int) with | some ns => if ns.Nodup ∧ ns.length ≤ 4000 then some (D.int (ns.length : Nat)) else none | none => none) = _
    rw [asInts_map]
    dsimp only
    rw [if_pos ⟨nd, by omega⟩]
  refine (seq_nx (if_f ((or_f' c1).trans (not_t (eB1_ok (fz_ok c2) (all_true bs)))))).trans ?_
  refine (seq_nx c4).trans ?_
  exact ret_ok ((and_tt (ch_ok eC_ok (eB1_ok (eV_ok rfl) hF) (le_ok (by omega)) eC_ok (le_ok (by omega)))).trans (e2_ok (e1_ok (eV_ok rfl) hS) (eB1_ok (eV_ok rfl) hF) ((eqX_ii _ _).trans (by rw [beq_self_eq_true]))))
/-! making -/
theorem nseq {ga gb : List (Option D) → Rho → Option ISt} {vs vs1 : List (Option D)} {ρ ρ1 : Rho} (h : ga vs ρ = some (vs1, ρ1)) : nSeq ga gb vs ρ = gb vs1 ρ1 := by simp only [nSeq, h, Option.bind_some]
theorem nnever {ft : FT} {vs : List (Option D)} {ρ ρ1 : Rho} (h : ft ρ = .ok (false, ρ1)) (h0 : ρ1[0]? = some none) : nNever ft vs ρ = some (vs, ρ1) := by simp only [nNever, h, h0]
theorem nexpr {fe : FE} {vs : List (Option D)} {ρ ρ1 : Rho} {d : D} (h : fe ρ = .ok (d, ρ1)) (h0 : ρ1[0]? = some none) : nExpr fe vs ρ = some (vs, ρ1) := by simp only [nExpr, nVal, h, h0]
theorem nset {fe : FE} {i : Nat} {vs : List (Option D)} {ρ ρ1 : Rho} {d : D} (h : fe ρ = .ok (d, ρ1)) (h0 : ρ1[0]? = some none) : nSet i fe vs ρ = some (putD i d vs, ρ1) := by simp only [nSet, nVal, h, h0]
theorem naug {fe : FE} {op : D → D → Option D} {i : Nat} {vs : List (Option D)} {ρ ρ1 : Rho} {d d0 z : D} (hv : vs[i]? = some (some d0)) (h : fe ρ = .ok (d, ρ1)) (h0 : ρ1[0]? = some none) (ho : op d0 d = some z) : nAug i op fe vs ρ = some (putD i z vs, ρ1) := by
  simp only [nAug, hv, nVal, h, h0, ho, Option.bind_some]
theorem runN_ok {g : List (Option D) → Rho → Option ISt} {L np : Nat} {ds fs : List D} {f : D} {ρ : Rho} {vs : List (Option D)} (hl : ds.length = np) (h : g [] (none :: startR (L - 1) (ds.map Sl.dat)) = some (vs, ρ)) (ha : allD? vs = some (f :: fs)) : M.runN g L np ds = some (f :: fs) := by
  unfold M.runN
  rw [if_pos hl, frcM_eq, h]
  dsimp only
  rw [ha]
  dsimp only
  rw [frcM_eq]
/-- a round -/
def rF (bs : Bs) : List D := [bsD bs, .int (sg bs), .int (bs.length : Nat), bD (srt bs.flatten)]
def rD (bs : Bs) : D := .ins "Round" (rF bs)
def runF (T : List Int) (rs : List Bs) : List D := [.tup (rs.map rD), .int (sgn rs), bD T]
def runD (T : List Int) (rs : List Bs) : D := .ins "Run" (runF T rs)
theorem mkRound_v (n : Nat) {T : List Int} {bs : Bs} (w : Wf T bs) (h : Th T) : F_Round___init__ n [bsD bs] = some (rF bs) := by
  have h5 := h.len
  have hl := wf_len w
  let ρ : Rho := [none, some (.dat (bsD bs)), none, none]
  refine runN_ok (g := g_Round___init__ n) (vs := [some (bsD bs), some (.int (sg bs)), some (.int (bs.length : Nat)), some (bD (srt bs.flatten))]) (ρ := ρ) rfl ?_ rfl
  show g_Round___init__ n [] ρ = _
  have c3 : oLc2 (iSeq (eV 1)) (tName 2) tYesD (iSeq (eV 2)) (tName 3) tYesD (eV 3) [2, 3] [3] ρ = .ok ((bs.map bD).flatMap unT, ρ) := lc2_ok (ρ := ρ) (ρ0 := ρ) unT (iSeq_t (eV_ok rfl)) rfl (fun d hd => by
    obtain ⟨b, hb, rfl⟩ := List.mem_map.mp hd
    refine ⟨[none, some (.dat (bsD bs)), some (.dat (bD b)), none], [none, some (.dat (bsD bs)), some (.dat (bD b)), none], rfl, iSeq_t (eV_ok rfl), rfl, rfl, rfl, fun e he => ?_⟩
    exact ⟨[none, some (.dat (bsD bs)), some (.dat (bD b)), some (.dat e)], [none, some (.dat (bsD bs)), some (.dat (bD b)), some (.dat e)], rfl, eV_ok rfl, rfl, rfl⟩) (by rw [flat_un, List.length_map]; omega)
  rw [flat_un] at c3
  refine (nseq (nnever (not_t (call1 (eV_ok rfl) (blocks_v n w h))) rfl)).trans ?_
  refine (nseq (nset (eV_ok rfl) rfl)).trans ?_
  refine (nseq (nset (e1_ok (eB1_ok (fz_ok c3) (sortX_l _)) (show tupD _ = some (bD (srt bs.flatten)) from rfl)) rfl)).trans ?_
  have hp : nPar 1 3 1 [some (bsD bs), none, none, some (bD (srt bs.flatten))] ρ = some ([some (bsD bs), some (.int (sg bs)), none, some (bD (srt bs.flatten))], ρ) := by
    have e : parI ((srt bs.flatten).map D.int).length (bs.map bD).length = sg bs := by
      unfold parI sg
      rw [List.length_map, List.length_map, (srt_perm bs.flatten).length_eq]
    show some (putD 1 (.int (parI ((srt bs.flatten).map D.int).length (bs.map bD).length)) _, ρ) = _
    rw [e]; rfl
  refine (nseq hp).trans ?_
  exact nset (eB1_ok (eV_ok rfl) lenbs) rfl
theorem ti1 : ti_Round "Round" = some true := rfl
theorem ta1 : ta_own_threads "Round" = some (.sl 3) := rfl
theorem rounds_v (n : Nat) {T : List Int} {rs : List Bs} (w : ∀ bs ∈ rs, Wf T bs) (h : Th T) (hr : rs.length ≤ 6) : Fv F_are_rounds n [bD T, .tup (rs.map rD)] = some (.bl true) := by
  let ρ : Rho := [some (.dat (bD T)), some (.dat (.tup (rs.map rD))), none]
  refine Fv_rt (g := g_are_rounds n) rfl rfl (ρ := ρ) ?_
  show g_are_rounds n ρ = _
  have c1 : tNotD (tTr (eB isiD (aCons (eV 1) (aCons (eC (.con (.ty "tuple"))) aNil)))) ρ = .ok (false, ρ) := not_t (b := true) (eB2_ok (eV_ok rfl) eC_ok rfl)
  have hl : lenD [.tup (rs.map rD)] = some (.int (rs.length : Nat)) := by show some (D.int ((rs.map rD).length : Nat)) = _; rw [List.length_map]
  have c2 : M.tB (M.e2 gtD (eB lenD (aCons (eV 1) aNil)) (eC (.int 6))) ρ = .ok (false, ρ) := tB_ok (e2_ok (eB1_ok (eV_ok rfl) hl) eC_ok (gt_no (by omega)))
  have c3 := lcm_ok (ρ := ρ) (ρ0 := ρ) (fi := iSeq (eV 1)) (tg := tName 2) (fe := eAnd (eIsC ti_Round (eV 2)) (M.e2 eqX (eAttr ta_own_threads n (eV 2)) (eV 0))) (vs := [2]) (xs := rs) (u := rD) (f := fun _ => D.bl true) (iSeq_t (eV_ok rfl)) rfl rfl (fun bs hb => by
    let ρ1 : Rho := [some (.dat (bD T)), some (.dat (.tup (rs.map rD))), some (.dat (rD bs))]
    have e : srt bs.flatten = T := srt_of (w bs hb).perm h.asc
    exact ⟨ρ1, ρ1, rfl, (and_tt (isC_ok (eV_ok (d := rD bs) rfl) ti1)).trans (e2_ok (attr_sl (eV_ok (d := rD bs) rfl) ta1 rfl) (eV_ok rfl) ((eqX_bD _ _).trans (by rw [e, beq_self_eq_true]))), rfl, rfl⟩) (by omega)
  refine (seq_nx (if_f ((or_f' c1).trans c2))).trans ?_
  exact ret_ok (eB1_ok (fz_ok c3) (all_true rs))
theorem ta2 : ta_own_sign "Round" = some (.sl 1) := rfl
theorem sg_sm (bs : Bs) : small (sg bs) = true := by unfold sg; split <;> decide
theorem mkRun_v (n : Nat) {T : List Int} {rs : List Bs} (w : ∀ bs ∈ rs, Wf T bs) (h : Th T) (hr : rs.length ≤ 6) : F_Run___init__ n [bD T, .tup (rs.map rD)] = some (runF T rs) := by
  let ρ : Rho := [none, some (.dat (bD T)), some (.dat (.tup (rs.map rD))), none]
  have loop : ∀ (l : List Bs) (s : Int) (x : Option D), ∃ y : Option D, forN (tName 3) (nAug 1 mulD (eAttr ta_own_sign n (eV 3))) (l.map rD) [some (.tup (rs.map rD)), some (.int s), some (bD T)] [none, some (.dat (bD T)), some (.dat (.tup (rs.map rD))), x.map Sl.dat] = some ([some (.tup (rs.map rD)), some (.int (l.foldl (fun s b => s * sg b) s)), some (bD T)], [none, some (.dat (bD T)), some (.dat (.tup (rs.map rD))), y.map Sl.dat]) := by
    intro l
    induction l with
    | nil => intro s x; exact ⟨x, rfl⟩
    | cons b l ih =>
      intro s x
      obtain ⟨y, e⟩ := ih (s * sg b) (some (rD b))
      refine ⟨y, ?_⟩
      have t : tName 3 (rD b) [none, some (.dat (bD T)), some (.dat (.tup (rs.map rD))), x.map Sl.dat] = some [none, some (.dat (bD T)), some (.dat (.tup (rs.map rD))), some (.dat (rD b))] := by cases x <;> rfl
      have hm : mulD (.int s) (.int (sg b)) = some (.int (s * sg b)) := if_pos (.inr (sg_sm b))
      have a := naug (i := 1) (vs := [some (.tup (rs.map rD)), some (.int s), some (bD T)]) (ρ := [none, some (.dat (bD T)), some (.dat (.tup (rs.map rD))), some (.dat (rD b))]) rfl (attr_sl (n := n) (eV_ok (d := rD b) (i := 3) rfl) ta2 rfl) rfl hm
      rw [List.map_cons]
      unfold forN
      rw [t]
      dsimp only
      rw [show ([none, some (.dat (bD T)), some (.dat (.tup (rs.map rD))), some (.dat (rD b))] : Rho)[0]? = some none from rfl]
      dsimp only
      rw [a, Option.bind_some]
      exact e
  obtain ⟨y, e⟩ := loop rs 1 none
  refine runN_ok (g := g_Run___init__ n) (vs := [some (.tup (rs.map rD)), some (.int (sgn rs)), some (bD T)]) (ρ := [none, some (.dat (bD T)), some (.dat (.tup (rs.map rD))), y.map Sl.dat]) rfl ?_ rfl
  show g_Run___init__ n [] ρ = _
  refine (nseq (nexpr (call1 (eV_ok rfl) (reqT_v n h)) rfl)).trans ?_
  refine (nseq (nnever (not_t (call2 (eV_ok rfl) (eV_ok rfl) (rounds_v n w h hr))) rfl)).trans ?_
  refine (nseq (nset (eV_ok rfl) rfl)).trans ?_
  refine (nseq (nset (eV_ok rfl) rfl)).trans ?_
  refine (nseq (nset eC_ok rfl)).trans ?_
  have hi : iSeq (eV 2) ρ = .ok (rs.map rD, ρ) := iSeq_t (eV_ok rfl)
  show nFor _ _ _ [some (.tup (rs.map rD)), some (.int 1), some (bD T)] ρ = _
  unfold nFor
  rw [hi]
  exact e
theorem runof_v (n : Nat) {T : List Int} {rs : List Bs} (w : ∀ bs ∈ rs, Wf T bs) (h : Th T) (hr : rs.length ≤ 6) : Fv F__law_run_of n [bD T, .tup (rs.map bsD)] = some (runD T rs) := by
  let ρ : Rho := [some (.dat (bD T)), some (.dat (.tup (rs.map bsD))), none]
  refine Fv_rt (g := g__law_run_of n) rfl rfl (ρ := ρ) ?_
  show g__law_run_of n ρ = _
  have c := lcm_ok (ρ := ρ) (ρ0 := ρ) (fi := iSeq (eV 1)) (tg := tName 2) (fe := eMake "Round" F_Round___init__ n (aCons (eV 2) aNil)) (vs := [2]) (xs := rs) (u := bsD) (f := rD) (iSeq_t (eV_ok rfl)) rfl rfl (fun bs hb => by
    let ρ1 : Rho := [some (.dat (bD T)), some (.dat (.tup (rs.map bsD))), some (.dat (bsD bs))]
    exact ⟨ρ1, ρ1, rfl, make_ok (cons_ok (eV_ok rfl) nil_ok) (mkRound_v n (w bs hb) h), rfl, rfl⟩) (by omega)
  exact ret_ok (make_ok (cons_ok (eV_ok rfl) (cons_ok (e1_ok (fz_ok c) rfl) nil_ok)) (mkRun_v n w h hr))
end Lk

/-! what threads see and know, as the program's functions tell it -/
namespace Lk
open PySem PySem.Spec PyProof.Rows L2 M Rn
local instance tb2 : Tabs := ⟨[], []⟩
theorem forL_mp {α β : Type} {tg : TgD} {body : FS} (u : α → D) (R : β → Rho → Prop) (f : β → α → β) : ∀ (xs : List α), (∀ x ∈ xs, ∀ a ρ, R a ρ → ∃ ρ1 ρ2, tg (u x) ρ = some ρ1 ∧ body ρ1 = .ok (.nx, ρ2) ∧ R (f a x) ρ2) → ∀ a ρ, R a ρ → ∃ ρ', forL tg body (xs.map u) ρ = .ok (.nx, ρ') ∧ R (xs.foldl f a) ρ'
  | [], _, a, ρ, j => ⟨ρ, rfl, j⟩
  | d :: ds, h, a, ρ, j => by
    obtain ⟨ρ1, ρ2, e1, e2, j2⟩ := h d List.mem_cons_self a ρ j
    obtain ⟨ρ', e3, j3⟩ := forL_mp u R f ds (fun d hd => h d (List.mem_cons_of_mem _ hd)) (f a d) ρ2 j2
    refine ⟨ρ', ?_, j3⟩
    rw [List.map_cons]
    unfold forL
    rw [frc_eq, nrmR_eq, e1]
    simp only [e2, Rz.bind]
    exact e3
theorem atI_last {α : Type} {xs : List α} (h : xs ≠ []) : L2.atI xs (-1) = xs.getLast? := by
  have h0 : 0 < xs.length := List.length_pos_iff.mpr h
  unfold L2.atI L2.ixN
  rw [if_neg (by omega), if_pos (by omega), Option.bind_some, List.getLast?_eq_getElem?]
  congr 1
  omega
theorem last_map (bs : Bs) {b : List Int} (h : bs.getLast? = some b) : ixD (bsD bs) (.int (-1)) = some (bD b) := by
  have hne : bs.map bD ≠ [] := by
    cases bs with
    | nil => cases h
    | cons _ _ => simp
  show L2.atI (bs.map bD) (-1) = _
  rw [atI_last hne, List.getLast?_map, h]; rfl
theorem ta3 : ta_own_blocks "Round" = some (.sl 0) := rfl
theorem ta4 : ta_own_rounds "Run" = some (.sl 0) := rfl
theorem ta5 : ta_own_threads "Run" = some (.sl 2) := rfl
theorem ta6 : ta_own_sign "Run" = some (.sl 1) := rfl
theorem tup1 {ρ : Rho} {i : Nat} {t : Int} (h : ρ[i]? = some (some (.dat (.int t)))) : eTup (aCons (eV i) aNil) ρ = .ok (bD [t], ρ) := tup_ok (cons_ok (eV_ok h) nil_ok) (by simp)
theorem last_v (n : Nat) {bs : Bs} {t : Int} (h : bs ≠ []) : Fv F_is_last_alone n [rD bs, .int t] = some (.bl (bs.getLast? == some [t])) := by
  let ρ : Rho := [some (.dat (rD bs)), some (.dat (.int t))]
  refine Fv_rt (g := g_is_last_alone n) rfl rfl (ρ := ρ) ?_
  show g_is_last_alone n ρ = _
  have hb : bs.getLast? = some (bs.getLast h) := List.getLast?_eq_getLast h
  rw [hb]
  exact ret_ok (e2_ok (e2_ok (attr_sl (eV_ok (d := rD bs) rfl) ta3 rfl) (e1_ok eC_ok rfl) (last_map bs hb)) (tup1 rfl) (eqX_bD _ _))
theorem wf_ne {T : List Int} {bs : Bs} (w : Wf T bs) (h : T ≠ []) : bs ≠ [] := fun e => by
  have := wf_len w
  rw [e] at this
  exact h (List.length_eq_zero_iff.mp this.symm)
theorem notIn_no {t : Int} {T : List Int} (h : t ∈ T) : notInD (.int t) (bD T) = some (.bl false) := by
  unfold notInD
  rw [inSq_ints]
  simp [h]
theorem reqth_v (n : Nat) {T : List Int} {rs : List Bs} {t : Int} (ht : t ∈ T) (hn : Nm t) : Fv F_require_thread n [runD T rs, .int t] = some .non := by
  let ρ : Rho := [some (.dat (runD T rs)), some (.dat (.int t))]
  refine Fv_nx (g := g_require_thread n) rfl rfl (ρ := ρ) ?_
  show g_require_thread n ρ = _
  exact if_f ((or_f' (not_t (call1 (eV_ok rfl) (old_v n hn)))).trans (tB_ok (e2_ok (eV_ok rfl) (attr_sl (eV_ok (d := runD T rs) rfl) ta5 rfl) (notIn_no ht))))
theorem reqone_v (n : Nat) {bs : Bs} {t : Int} (ht : t ∈ bs.flatten) (hn : Nm t) : Fv F_require_one n [rD bs, .int t] = some .non := by
  let ρ : Rho := [some (.dat (rD bs)), some (.dat (.int t))]
  refine Fv_nx (g := g_require_one n) rfl rfl (ρ := ρ) ?_
  show g_require_one n ρ = _
  exact if_f ((or_f' (not_t (call1 (eV_ok rfl) (old_v n hn)))).trans (tB_ok (e2_ok (eV_ok rfl) (attr_sl (eV_ok (d := rD bs) rfl) ta1 rfl) (notIn_no (srt_mem.mpr ht)))))
theorem hiddenin_v (n : Nat) {T : List Int} {rs : List Bs} {t : Int} (w : ∀ bs ∈ rs, Wf T bs) (h : T ≠ []) (hr : rs.length ≤ 6) : Fv F_is_hidden_in n [runD T rs, .int t] = some (.bl (hid rs t)) := by
  let ρ : Rho := [some (.dat (runD T rs)), some (.dat (.int t)), none]
  refine Fv_rt (g := g_is_hidden_in n) rfl rfl (ρ := ρ) ?_
  show g_is_hidden_in n ρ = _
  have c := lcm_ok (ρ := ρ) (ρ0 := ρ) (fi := iSeq (eAttr ta_own_rounds n (eV 0))) (tg := tName 2) (fe := eCall F_is_last_alone n (rCons (eV 2) (rCons (eV 1) rNil))) (vs := [2]) (xs := rs) (u := rD) (f := fun bs => D.bl (bs.getLast? == some [t])) (iSeq_t (attr_sl (eV_ok (d := runD T rs) rfl) ta4 rfl)) rfl rfl (fun bs hb => by
    let ρ1 : Rho := [some (.dat (runD T rs)), some (.dat (.int t)), some (.dat (rD bs))]
    exact ⟨ρ1, ρ1, rfl, call2 (eV_ok rfl) (eV_ok rfl) (last_v n (wf_ne (w bs hb) h)), rfl, rfl⟩) (by omega)
  have e : rs.map (fun bs => D.bl (bs.getLast? == some [t])) = (rs.map fun bs => bs.getLast? == some [t]).map D.bl := by rw [List.map_map]; rfl
  rw [e] at c
  refine ret_ok ((eB1_ok (fz_ok c) (allD_map _)).trans ?_)
  rw [List.all_map]; rfl
theorem hidden_v (n : Nat) {T : List Int} {rs : List Bs} {t : Int} (w : ∀ bs ∈ rs, Wf T bs) (h : Th T) (ht : t ∈ T) (hr : rs.length ≤ 6) : Fv F_Run_is_hidden n [runD T rs, .int t] = some (.bl (hid rs t)) := by
  let ρ : Rho := [some (.dat (runD T rs)), some (.dat (.int t))]
  refine Fv_rt (g := g_Run_is_hidden n) rfl rfl (ρ := ρ) ?_
  show g_Run_is_hidden n ρ = _
  refine (seq_nx (drop_ok (call2 (eV_ok rfl) (eV_ok rfl) (reqth_v n ht (h.rng t ht))))).trans ?_
  exact ret_ok (call2 (eV_ok rfl) (eV_ok rfl) (hiddenin_v n w h.ne hr))
/-! places -/
def enB (k : Nat) (bs : Bs) : List D := bs.mapIdx fun i b => .tup [.int ((i + k : Nat) : Int), bD b]
theorem enB_cons (k : Nat) (b : List Int) (bs : Bs) : enB k (b :: bs) = .tup [.int (k : Nat), bD b] :: enB (k + 1) bs := by
  unfold enB
  rw [List.mapIdx_cons, Nat.zero_add]
  congr 1
  congr 1
  funext i b
  congr 4
  omega
theorem place_v (n : Nat) {bs : Bs} {t : Int} : Fv F_place_of n [rD bs, .int t] = some (.int (plc bs t : Nat)) := by
  let ρ : Rho := [some (.dat (rD bs)), some (.dat (.int t)), none, none]
  refine Fv_rt (g := g_place_of n) rfl rfl (ρ := ρ) ?_
  show g_place_of n ρ = _
  have hi : iEn (aCons (eAttr ta_own_blocks n (eV 0)) aNil) ρ = .ok (enB 0 bs, ρ) := by
    simp only [iEn, cons_ok (attr_sl (n := n) (eV_ok (ρ := ρ) (i := 0) (d := rD bs) rfl) ta3 rfl) nil_ok, Rz.bind]
    show Rz.ok (enD (bs.map bD), ρ) = _
    congr 2
    unfold enD enB
    apply List.ext_getElem?
    intro i
    rw [List.getElem?_mapIdx, List.getElem?_mapIdx, List.getElem?_map, Option.map_map]
    rfl
  have key : ∀ (l : Bs) (k : Nat), nxL (tPair 2 3) (M.tB (M.e2 inD (eV 1) (eV 3))) (eV 2) [2, 3] (enB k l) ρ = .ok ((l.findIdx? fun b => b.contains t).map (fun i => D.int ((i + k : Nat) : Int)), ρ) := by
    intro l
    induction l with
    | nil => intro k; unfold enB nxL; rfl
    | cons b l ih =>
      intro k
      rw [enB_cons]
      unfold nxL
      rw [frc_eq, nrmR_eq]
      let ρ1 : Rho := [some (.dat (rD bs)), some (.dat (.int t)), some (.dat (.int (k : Nat))), some (.dat (bD b))]
      rw [show tPair 2 3 (.tup [.int (k : Nat), bD b]) ρ = some ρ1 from rfl]
      dsimp only
      have hin : inD (.int t) (bD b) = some (.bl (b.contains t)) := by unfold inD; rw [inSq_ints]; rfl
      have e1 : M.tB (M.e2 inD (eV 1) (eV 3)) ρ1 = .ok (b.contains t, ρ1) := tB_ok (e2_ok (eV_ok rfl) (eV_ok rfl) hin)
      have e2 : eV 2 ρ1 = .ok (.int (k : Nat), ρ1) := eV_ok rfl
      rw [e1, List.findIdx?_cons]
      simp only [Rz.bind]
      have nio : noIo [2, 3] ρ1 = true := rfl
      have wip : wipeR [2, 3] ρ1 = ρ := rfl
      cases q : b.contains t with
      | true =>
        simp only [if_true, e2, nio, wip, Option.map_some, Nat.zero_add]
      | false =>
        simp only [Bool.false_eq_true, if_false, nio, if_true, wip]
        rw [ih (k + 1), Option.map_map]
        congr 3
        funext i
        show D.int ((i + (k + 1) : Nat) : Int) = D.int ((i + 1 + k : Nat) : Int)
        rw [show i + (k + 1) = i + 1 + k by omega]
  refine ret_ok ?_
  simp only [eNext, hi, Rz.bind]
  rw [if_pos (show noIo [2, 3] ρ = true from rfl), show wipeR [2, 3] ρ = ρ from rfl, key bs 0]
  show Rz.ok _ = Rz.ok _
  congr 1
  refine Prod.ext ?_ rfl
  unfold plc
  cases bs.findIdx? (fun b => b.contains t) with
  | none => rfl
  | some i => rfl
theorem cut_take (ds : List D) (j : Nat) : M.cutD ds none (some (j : Int)) = ds.take j := by
  unfold M.cutD
  rw [HT.sIx_none, HT.sIx_nat, List.drop_zero, Nat.sub_zero]
  by_cases h : j ≤ ds.length
  · rw [Nat.min_eq_left h]
  · rw [Nat.min_eq_right (by omega), List.take_of_length_le (Nat.le_refl _), List.take_of_length_le (by omega)]
theorem sl_take {fe fh : FE} {ρ ρ1 ρ2 : Rho} {ds : List D} {j : Nat} (h : fe ρ = .ok (.tup ds, ρ1)) (h2 : fh ρ1 = .ok (.int (j : Nat), ρ2)) : eSl fe pNone (pSome fh) ρ = .ok (.tup (ds.take j), ρ2) := by
  simp only [eSl, h, Rz.bind, pNone, pSome, h2, slD, cut_take, ofO_some]
theorem seen_v (n : Nat) {T : List Int} {bs : Bs} {t : Int} (w : Wf T bs) (h : Th T) : Fv F_seen_by n [rD bs, .int t] = some (bD (seen bs t)) := by
  let ρ0 : Rho := [some (.dat (rD bs)), some (.dat (.int t)), none, none, none]
  let ρ : Rho := [some (.dat (rD bs)), some (.dat (.int t)), some (.dat (.int (plc bs t : Nat))), none, none]
  refine Fv_rt (g := g_seen_by n) rfl rfl (ρ := ρ) ?_
  show g_seen_by n ρ0 = _
  refine (seq_nx (set_ok (ρ1 := ρ0) (i := 2) (call2 (eV_ok rfl) (eV_ok rfl) (place_v n)) rfl)).trans ?_
  show sRet _ ρ = _
  have h5 := h.len
  have hl := wf_len w
  have hfl : (bs.take (plc bs t + 1)).flatten.length ≤ bs.flatten.length := by
    conv => rhs; rw [← List.take_append_drop (plc bs t + 1) bs, List.flatten_append, List.length_append]
    omega
  have c1 : eSl (eAttr ta_own_blocks n (eV 0)) pNone (pSome (M.e2 addD (eV 2) (eC (.int 1)))) ρ = .ok (bsD (bs.take (plc bs t + 1)), ρ) := by
    have := sl_take (fe := eAttr ta_own_blocks n (eV 0)) (fh := M.e2 addD (eV 2) (eC (.int 1))) (ρ := ρ) (j := plc bs t + 1) (attr_sl (eV_ok (d := rD bs) rfl) ta3 rfl) (e2_ok (eV_ok rfl) eC_ok rfl)
    rw [this]
    unfold bsD
    rw [List.map_take]
  have c3 : oLc2 (iSeq (eSl (eAttr ta_own_blocks n (eV 0)) pNone (pSome (M.e2 addD (eV 2) (eC (.int 1)))))) (tName 3) tYesD (iSeq (eV 3)) (tName 4) tYesD (eV 4) [3, 4] [4] ρ = .ok (((bs.take (plc bs t + 1)).map bD).flatMap unT, ρ) := lc2_ok (ρ := ρ) (ρ0 := ρ) unT (iSeq_t c1) rfl (fun d hd => by
    obtain ⟨b, hb, rfl⟩ := List.mem_map.mp hd
    let ρ1 : Rho := [some (.dat (rD bs)), some (.dat (.int t)), some (.dat (.int (plc bs t : Nat))), some (.dat (bD b)), none]
    refine ⟨ρ1, ρ1, rfl, iSeq_t (eV_ok rfl), rfl, rfl, rfl, fun e he => ?_⟩
    let ρ2 : Rho := [some (.dat (rD bs)), some (.dat (.int t)), some (.dat (.int (plc bs t : Nat))), some (.dat (bD b)), some (.dat e)]
    exact ⟨ρ2, ρ2, rfl, eV_ok rfl, rfl, rfl⟩) (by rw [flat_un, List.length_map]; omega)
  rw [flat_un] at c3
  exact ret_ok (e1_ok (eB1_ok (fz_ok c3) (sortX_l _)) rfl)
def unI : D → Int | .int i => i | _ => 0
theorem fm_len {α : Type} {l : List α} {f : α → List Int} {m : Nat} (h : ∀ x ∈ l, (f x).length ≤ m) : (l.flatMap f).length ≤ l.length * m := by
  induction l with
  | nil => simp
  | cons x l ih =>
    rw [List.flatMap_cons, List.length_append, List.length_cons, Nat.succ_mul]
    have := h x (List.mem_cons_self ..)
    have := ih fun y hy => h y (List.mem_cons_of_mem _ hy)
    omega
theorem known_v (n : Nat) {T : List Int} {rs : List Bs} {t : Int} (w : ∀ bs ∈ rs, Wf T bs) (h : Th T) (ht : t ∈ T) : Fv F_Run_known n [runD T rs, .int t] = some (bD (known rs t)) := by
  have h5 := h.len
  let ρs : List Int → Option D → Rho := fun f x => [some (.dat (runD T rs)), some (.dat (.int t)), some (.dat (bD f)), x.map Sl.dat, none, none]
  let R : List Int → Rho → Prop := fun f ρ => (∀ k ∈ f, k ∈ T) ∧ f.length ≤ T.length ∧ ∃ x, ρ = ρs f x
  obtain ⟨ρ', e, _, _, x, rfl⟩ := forL_mp (tg := tName 3) (body := sSet 2 (M.e1 tupD (M.e1 sortSetX (eFz (oLc2 (iSeq (eV 2)) (tName 4) tYesD (iSeq (eCall F_seen_by n (rCons (eV 3) (rCons (eV 4) rNil)))) (tName 5) tYesD (eV 5) [4, 5] [5]))))) rD R (fun f bs => stp bs f) rs.reverse (fun bs hb f ρ ⟨hs, hl, x, e⟩ => by
    have hb := List.mem_reverse.mp hb
    subst e
    have t1 : tName 3 (rD bs) (ρs f x) = some (ρs f (some (rD bs))) := by cases x <;> rfl
    let ρ1 : Rho := ρs f (some (rD bs))
    let g : D → List D := fun d => (seen bs (unI d)).map D.int
    have ef : (f.map D.int).flatMap g = (f.flatMap (seen bs)).map D.int := by
      rw [List.map_flatMap, List.flatMap_map]
      rfl
    have fl : (f.flatMap (seen bs)).length ≤ 25 := by
      have := fm_len (l := f) (f := seen bs) (m := T.length) fun o _ => seen_len (w bs hb) (nodup_asc h.asc)
      have h2 : f.length * T.length ≤ 5 * 5 := Nat.mul_le_mul (by omega) (by omega)
      omega
    have c3 : oLc2 (iSeq (eV 2)) (tName 4) tYesD (iSeq (eCall F_seen_by n (rCons (eV 3) (rCons (eV 4) rNil)))) (tName 5) tYesD (eV 5) [4, 5] [5] ρ1 = .ok ((f.map D.int).flatMap g, ρ1) := lc2_ok (ρ := ρ1) (ρ0 := ρ1) g (iSeq_t (eV_ok rfl)) rfl (fun d hd => by
      obtain ⟨o, ho, rfl⟩ := List.mem_map.mp hd
      let ρ2 : Rho := [some (.dat (runD T rs)), some (.dat (.int t)), some (.dat (bD f)), some (.dat (rD bs)), some (.dat (.int o)), none]
      refine ⟨ρ2, ρ2, rfl, iSeq_t (call2 (eV_ok rfl) (eV_ok rfl) (seen_v n (w bs hb) h)), rfl, rfl, rfl, fun e he => ?_⟩
      let ρ3 : Rho := [some (.dat (runD T rs)), some (.dat (.int t)), some (.dat (bD f)), some (.dat (rD bs)), some (.dat (.int o)), some (.dat e)]
      exact ⟨ρ3, ρ3, rfl, eV_ok rfl, rfl, rfl⟩) (by rw [ef, List.length_map]; omega)
    rw [ef] at c3
    have c4 := set_ok (i := 2) (e1_ok (op := tupD) (e1_ok (fz_ok c3) (sortSet_l (by omega))) rfl) rfl
    have hsub : ∀ k ∈ stp bs f, k ∈ T := fun k hk => by
      obtain ⟨o, _, hk⟩ := stp_mem.mp hk
      exact (w bs hb).mem.mp (seen_sub hk)
    exact ⟨ρ1, ρs (stp bs f) (some (rD bs)), t1, c4, hsub, len_sub (nodup_asc (stp_asc bs f)) hsub, some (rD bs), rfl⟩) [t] (ρs [t] none) ⟨fun k hk => by rw [List.mem_singleton.mp hk]; exact ht, by have := List.length_pos_iff.mpr h.ne; simp only [List.length_singleton]; omega, none, rfl⟩
  have hk : rs.reverse.foldl (fun f bs => stp bs f) [t] = known rs t := by rw [List.foldl_reverse]; rfl
  rw [hk] at e
  let ρ0 : Rho := [some (.dat (runD T rs)), some (.dat (.int t)), none, none, none, none]
  refine Fv_rt (g := g_Run_known n) rfl rfl (ρ := ρs (known rs t) x) ?_
  show g_Run_known n ρ0 = _
  refine (seq_nx (drop_ok (call2 (eV_ok rfl) (eV_ok rfl) (reqth_v n ht (h.rng t ht))))).trans ?_
  refine (seq_nx (set_ok (i := 2) (ρ1 := ρ0) (tup1 rfl) rfl)).trans ?_
  refine (seq_nx (ρ1 := ρs (known rs t) x) ?_).trans (ret_ok (eV_ok rfl))
  have hi : iSeq (M.e1 revX (eAttr ta_own_rounds n (eV 0))) (ρs [t] none) = .ok (rs.reverse.map rD, ρs [t] none) := by
    rw [List.map_reverse]
    exact iSeq_t (e1_ok (attr_sl (eV_ok (d := runD T rs) rfl) ta4 rfl) rfl)
  show sFor _ _ _ (ρs [t] none) = _
  simp only [sFor, hi, Rz.bind]
  exact e
end Lk

/-! without a thread, shortened, equal -/
namespace Lk
open PySem PySem.Spec PyProof.Rows L2 M Rn
local instance tb3 : Tabs := ⟨[], []⟩
theorem ne_dec (t : Int) : (fun x : Int => !(x == t)) = fun x => decide (x ≠ t) := by
  funext x
  rw [Bool.eq_iff_iff]; simp
theorem neb_dec : (fun b : List Int => !(b == [])) = fun b => decide (b ≠ []) := by
  funext b
  rw [Bool.eq_iff_iff]; simp
theorem neq_li {t x : Int} {ρ : Rho} {i j : Nat} (h : ρ[i]? = some (some (.dat (.int x)))) (h2 : ρ[j]? = some (some (.dat (.int t)))) : M.tB (M.e2 neX (eV i) (eV j)) ρ = .ok (decide (x ≠ t), ρ) := by
  have := tB_ok (e2_ok (eV_ok h) (eV_ok h2) (neX_ii x t))
  rw [this]
  congr 2
  rw [Bool.eq_iff_iff]; simp
/-- [one for one in block if one != thread] -/
theorem rwithout_v (n : Nat) {T T' : List Int} {c : Bs} {t : Int} (w : Wf T (ext t c)) (w' : Wf T' c) (h : Th T) (h' : Th T') (ht : t ∉ c.flatten) : Fv F_Round_without n [rD (ext t c), .int t] = some (rD c) := by
  have tT : t ∈ T := w.mem.mp (by unfold ext; simp)
  have h5 := h.len
  have hl := wf_len w
  have hl2 := wf_len2 w
  have hl' := wf_len w'
  have h0 : 0 < T'.length := List.length_pos_iff.mpr h'.ne
  let A : D := rD (ext t c)
  let ρ0 : Rho := [some (.dat A), some (.dat (.int t)), none, none, none, none]
  let rows : Bs := (ext t c).map fun b => b.filter (· ≠ t)
  let ρ : Rho := [some (.dat A), some (.dat (.int t)), some (.dat (.lst (rows.map bD))), none, none, none]
  refine Fv_rt (g := g_Round_without n) rfl rfl (ρ := ρ) ?_
  show g_Round_without n ρ0 = _
  have lT : lenD [bD (srt (ext t c).flatten)] = some (.int (T.length : Nat)) := by rw [lenb, (srt_perm _).length_eq, hl]
  have ll : T.length = T'.length + 1 := by
    rw [← hl, ← hl']; unfold ext; simp
  have q1 : M.tB (M.e2 eqX (eB lenD (aCons (eAttr ta_own_threads n (eV 0)) aNil)) (eC (.int 1))) ρ0 = .ok (false, ρ0) := by
    refine (tB_ok (e2_ok (eB1_ok (attr_sl (eV_ok (d := A) rfl) ta1 rfl) lT) eC_ok (eqX_ii _ _))).trans ?_
    congr 2
    rw [beq_eq_false_iff_ne]; omega
  have inner : ∀ b ∈ ext t c, e1 tupD (eFz (oLc (iSeq (eV 3)) (tName 4) (M.tB (M.e2 neX (eV 4) (eV 1))) (eV 4) [4])) [some (.dat A), some (.dat (.int t)), none, some (.dat (bD b)), none, none] = .ok (bD (b.filter (· ≠ t)), [some (.dat A), some (.dat (.int t)), none, some (.dat (bD b)), none, none]) := fun b hb => by
    have hbl := (blk_th w h hb).len
    let ρ1 : Rho := [some (.dat A), some (.dat (.int t)), none, some (.dat (bD b)), none, none]
    have c1 := lcf_ok (ρ := ρ1) (ρ0 := ρ1) (fi := iSeq (eV 3)) (tg := tName 4) (ft := M.tB (M.e2 neX (eV 4) (eV 1))) (fe := eV 4) (vs := [4]) (xs := b) (u := D.int) (fun x => decide (x ≠ t)) (iSeq_t (eV_ok rfl)) rfl rfl (fun x hx => by
      let ρ2 : Rho := [some (.dat A), some (.dat (.int t)), none, some (.dat (bD b)), some (.dat (.int x)), none]
      exact ⟨ρ2, ρ2, rfl, neq_li rfl rfl, rfl, rfl, eV_ok rfl⟩) (by omega)
    exact e1_ok (fz_ok c1) rfl
  have c2 := lcm_ok (ρ := ρ0) (ρ0 := ρ0) (fi := iSeq (eAttr ta_own_blocks n (eV 0))) (tg := tName 3) (fe := e1 tupD (eFz (oLc (iSeq (eV 3)) (tName 4) (M.tB (M.e2 neX (eV 4) (eV 1))) (eV 4) [4]))) (vs := [3]) (xs := ext t c) (u := bD) (f := fun b => bD (b.filter (· ≠ t))) (iSeq_t (attr_sl (eV_ok (d := A) rfl) ta3 rfl)) rfl rfl (fun b hb => ⟨[some (.dat A), some (.dat (.int t)), none, some (.dat (bD b)), none, none], [some (.dat A), some (.dat (.int t)), none, some (.dat (bD b)), none, none], rfl, inner b hb, rfl, rfl⟩) (by omega)
  have er : (ext t c).map (fun b => bD (b.filter (· ≠ t))) = rows.map bD := by rw [List.map_map]; rfl
  rw [er] at c2
  have lrows : rows.length ≤ 1000 := by show ((ext t c).map _).length ≤ _; rw [List.length_map]; omega
  have c3 := lcf_ok (ρ := ρ) (ρ0 := ρ) (fi := iSeq (eV 2)) (tg := tName 5) (ft := M.tB (M.e2 neX (eV 5) (eTup aNil))) (fe := eV 5) (vs := [5]) (xs := rows) (u := bD) (fun b => decide (b ≠ [])) (iSeq_l (eV_ok rfl)) rfl rfl (fun x hx => by
    let ρ2 : Rho := [some (.dat A), some (.dat (.int t)), some (.dat (.lst (rows.map bD))), none, none, some (.dat (bD x))]
    refine ⟨ρ2, ρ2, rfl, ?_, rfl, rfl, eV_ok rfl⟩
    have := tB_ok (e2_ok (eV_ok (i := 5) (ρ := ρ2) (d := bD x) rfl) (tup_ok (ρ := ρ2) nil_ok (by simp)) (neX_bD x []))
    refine this.trans ?_
    congr 2
    rw [Bool.eq_iff_iff]; simp) lrows
  have ew : rows.filter (fun b => decide (b ≠ [])) = c := wout_ext ht w'.ne
  rw [ew] at c3
  refine (seq_nx (drop_ok (call2 (eV_ok rfl) (eV_ok rfl) (reqone_v n (w.mem.mpr tT) (h.rng t tT))))).trans ?_
  refine (seq_nx (if_f q1)).trans ?_
  refine (seq_nx (set_ok (i := 2) (fz_ok c2) rfl)).trans ?_
  exact ret_ok (make_ok (cons_ok (e1_ok (fz_ok c3) rfl) nil_ok) (mkRound_v n w' h'))
theorem tm1 : tm_without_Round "Round" = some F_Round_without := rfl
theorem without_v (n : Nat) {T : List Int} {cs : List Bs} {t : Int} (w : ∀ c ∈ cs, Wf T (ext t c)) (w' : ∀ c ∈ cs, Wf (T.filter (· ≠ t)) c) (h : Th T) (h' : Th (T.filter (· ≠ t))) (tT : t ∈ T) (ht : ∀ c ∈ cs, t ∉ c.flatten) (hr : cs.length ≤ 6) :
    Fv F_Run_without n [runD T (cs.map (ext t)), .int t] = some (runD (T.filter (· ≠ t)) cs) := by
  have h5 := h.len
  let A : D := runD T (cs.map (ext t))
  have inner : Fv F_run_without n [A, .int t] = some (runD (T.filter (· ≠ t)) cs) := by
    let ρ0 : Rho := [some (.dat A), some (.dat (.int t)), none, none]
    let ρ : Rho := [some (.dat A), some (.dat (.int t)), some (.dat (bD (T.filter (· ≠ t)))), none]
    refine Fv_rt (g := g_run_without n) rfl rfl (ρ := ρ) ?_
    show g_run_without n ρ0 = _
    have c1 := lcf_ok (ρ := ρ0) (ρ0 := ρ0) (fi := iSeq (eAttr ta_own_threads n (eV 0))) (tg := tName 3) (ft := M.tB (M.e2 neX (eV 3) (eV 1))) (fe := eV 3) (vs := [3]) (xs := T) (u := D.int) (fun x => decide (x ≠ t)) (iSeq_t (attr_sl (eV_ok (d := A) rfl) ta5 rfl)) rfl rfl (fun x hx => by
      let ρ2 : Rho := [some (.dat A), some (.dat (.int t)), none, some (.dat (.int x))]
      exact ⟨ρ2, ρ2, rfl, neq_li rfl rfl, rfl, rfl, eV_ok rfl⟩) (by omega)
    refine (seq_nx (set_ok (i := 2) (e1_ok (op := tupD) (fz_ok c1) rfl) rfl)).trans ?_
    have c2 := lcm_ok (ρ := ρ) (ρ0 := ρ) (fi := iSeq (eAttr ta_own_rounds n (eV 0))) (tg := tName 3) (fe := eMeth tm_without_Round n (eV 3) (rCons (eV 1) rNil)) (vs := [3]) (xs := cs) (u := fun c => rD (ext t c)) (f := rD) (by
        have : (cs.map fun c => rD (ext t c)) = (cs.map (ext t)).map rD := by rw [List.map_map]; rfl
        rw [this]
        exact iSeq_t (attr_sl (eV_ok (d := A) rfl) ta4 rfl)) rfl rfl (fun c hc => by
      let ρ2 : Rho := [some (.dat A), some (.dat (.int t)), some (.dat (bD (T.filter (· ≠ t)))), some (.dat (rD (ext t c)))]
      exact ⟨ρ2, ρ2, rfl, meth1 (eV_ok (d := rD (ext t c)) rfl) (eV_ok rfl) tm1 (rwithout_v n (w c hc) (w' c hc) h h' (ht c hc)), rfl, rfl⟩) (by omega)
    exact ret_ok (make_ok (cons_ok (eV_ok rfl) (cons_ok (e1_ok (fz_ok c2) rfl) nil_ok)) (mkRun_v n w' h' hr))
  let ρ : Rho := [some (.dat A), some (.dat (.int t))]
  refine Fv_rt (g := g_Run_without n) rfl rfl (ρ := ρ) ?_
  show g_Run_without n ρ = _
  have q1 : M.tB (M.e2 eqX (eB lenD (aCons (eAttr ta_own_threads n (eV 0)) aNil)) (eC (.int 1))) ρ = .ok (false, ρ) := by
    refine (tB_ok (e2_ok (eB1_ok (attr_sl (eV_ok (d := A) rfl) ta5 rfl) lenb) eC_ok (eqX_ii _ _))).trans ?_
    congr 2
    rw [beq_eq_false_iff_ne]
    intro z
    have z : T.length = 1 := by omega
    obtain ⟨x, rfl⟩ := List.length_eq_one_iff.mp z
    have : t = x := by simpa using tT
    subst this
    exact h'.ne (by simp)
  refine (seq_nx (drop_ok (call2 (eV_ok rfl) (eV_ok rfl) (reqth_v n tT (h.rng t tT))))).trans ?_
  refine (seq_nx (if_f q1)).trans ?_
  exact ret_ok (call2 (eV_ok rfl) (eV_ok rfl) inner)
theorem betw_v (n : Nat) {i lo hi : Int} (h : Nm i) (h1 : lo ≤ i) (h2 : i ≤ hi) : Fv F_is_between n [.int i, .int lo, .int hi] = some (.bl true) := by
  let ρ : Rho := [some (.dat (.int i)), some (.dat (.int lo)), some (.dat (.int hi))]
  refine Fv_rt (g := g_is_between n) rfl rfl (ρ := ρ) ?_
  show g_is_between n ρ = _
  exact ret_ok ((and_tt (call1 (eV_ok rfl) (isint_v n h))).trans (ch_ok (eV_ok rfl) (eV_ok rfl) (le_ok h1) (eV_ok rfl) (le_ok h2)))
theorem reqnum_v (n : Nat) {i lo hi : Int} (h : Nm i) (h1 : lo ≤ i) (h2 : i ≤ hi) : Fv F_require_number n [.int i, .int lo, .int hi] = some .non := by
  let ρ : Rho := [some (.dat (.int i)), some (.dat (.int lo)), some (.dat (.int hi))]
  refine Fv_nx (g := g_require_number n) rfl rfl (ρ := ρ) ?_
  show g_require_number n ρ = _
  exact if_f (not_t (call3 (eV_ok rfl) (eV_ok rfl) (eV_ok rfl) (betw_v n h h1 h2)))
theorem short_v (n : Nat) {T : List Int} {rs : List Bs} (w : ∀ bs ∈ rs, Wf T bs) (h : Th T) (hr : rs.length ≤ 6) {c : Nat} (hc : c ≤ rs.length) : Fv F_Run_shortened n [runD T rs, .int (c : Nat)] = some (runD T (rs.take c)) := by
  let ρ : Rho := [some (.dat (runD T rs)), some (.dat (.int (c : Nat)))]
  refine Fv_rt (g := g_Run_shortened n) rfl rfl (ρ := ρ) ?_
  show g_Run_shortened n ρ = _
  have hl : lenD [.tup (rs.map rD)] = some (.int (rs.length : Nat)) := by show some (D.int ((rs.map rD).length : Nat)) = _; rw [List.length_map]
  have hR : eAttr ta_own_rounds n (eV 0) ρ = .ok (.tup (rs.map rD), ρ) := attr_sl (eV_ok (d := runD T rs) rfl) ta4 rfl
  refine (seq_nx (drop_ok (call3 (eV_ok rfl) eC_ok (eB1_ok hR hl) (reqnum_v n ⟨by omega, by omega⟩ (by omega) (by omega))))).trans ?_
  have s := sl_take (fh := eV 1) hR (j := c) (eV_ok rfl)
  rw [← List.map_take] at s
  exact ret_ok (make_ok (cons_ok (attr_sl (eV_ok (d := runD T rs) rfl) ta5 rfl) (cons_ok s nil_ok)) (mkRun_v n (fun b hb => w b (List.mem_of_mem_take hb)) h (by rw [List.length_take]; omega)))
theorem rsign_v (n : Nat) (T : List Int) (rs : List Bs) : Fv F_Run_sign n [runD T rs] = some (.int (sgn rs)) := by
  let ρ : Rho := [some (.dat (runD T rs))]
  refine Fv_rt (g := g_Run_sign n) rfl rfl (ρ := ρ) ?_
  show g_Run_sign n ρ = _
  exact ret_ok (attr_sl (eV_ok (d := runD T rs) rfl) ta6 rfl)
theorem rblocks_v (n : Nat) (bs : Bs) : Fv F_Round_blocks n [rD bs] = some (bsD bs) := by
  let ρ : Rho := [some (.dat (rD bs))]
  refine Fv_rt (g := g_Round_blocks n) rfl rfl (ρ := ρ) ?_
  show g_Round_blocks n ρ = _
  exact ret_ok (attr_sl (eV_ok (d := rD bs) rfl) ta3 rfl)
theorem req_v (n : Nat) (bs : Bs) : Fv F_Round___eq__ n [rD bs, rD bs] = some (.bl true) := by
  let ρ : Rho := [some (.dat (rD bs)), some (.dat (rD bs))]
  refine Fv_rt (g := g_Round___eq__ n) rfl rfl (ρ := ρ) ?_
  show g_Round___eq__ n ρ = _
  exact ret_ok ((and_tt (isC_ok (eV_ok (d := rD bs) rfl) ti1)).trans (e2_ok (attr_sl (eV_ok (d := rD bs) rfl) ta3 rfl) (attr_sl (eV_ok (d := rD bs) rfl) ta3 rfl) ((eqX_bsD _ _).trans (by rw [beq_self_eq_true]))))
theorem ti2 : ti_Run "Run" = some true := rfl
theorem tq1 : tq_Round "Round" = some F_Round___eq__ := rfl
theorem tq2 : tq_Run "Run" = some F_Run___eq__ := rfl
theorem insEq_same {tq : Str → Option FD} {n : Nat} {c : Str} {fs : List D} {F : FD} (h : tq c = some F) (hF : Fv F n [.ins c fs, .ins c fs] = some (.bl true)) : insEq tq n (.ins c fs) (.ins c fs) = some true := by
  obtain ⟨as', e⟩ := ex_Fv hF
  have e : F n [.dat (.ins c fs), .dat (.ins c fs)] = some (.dat (.bl true), as') := e
  unfold insEq
  dsimp only
  rw [if_pos rfl, h]
  dsimp only
  rw [e]
theorem els_same (n : Nat) : ∀ rs : List Bs, elsEq tq_Round n (rs.map rD) (rs.map rD) = some true
  | [] => rfl
  | b :: rs => by
    have h1 : elEq tq_Round n (rD b) (rD b) = some true := by
      unfold elEq
      rw [show insEq tq_Round n (rD b) (rD b) = some true from insEq_same tq1 (req_v n b)]
    rw [List.map_cons]
    unfold elsEq
    rw [h1, els_same n rs]; rfl
theorem runeq_v (n : Nat) (T : List Int) (rs : List Bs) : Fv F_Run___eq__ n [runD T rs, runD T rs] = some (.bl true) := by
  let ρ : Rho := [some (.dat (runD T rs)), some (.dat (runD T rs))]
  refine Fv_rt (g := g_Run___eq__ n) rfl rfl (ρ := ρ) ?_
  show g_Run___eq__ n ρ = _
  have e : eqID tq_Round n (.tup (rs.map rD)) (.tup (rs.map rD)) = some (.bl true) := by
    unfold eqID eqI
    dsimp only
    rw [els_same]
    simp
  refine ret_ok ((and_tt (isC_ok (eV_ok (d := runD T rs) rfl) ti2)).trans ?_)
  refine (and_tt (e2_ok (attr_sl (eV_ok (d := runD T rs) rfl) ta5 rfl) (attr_sl (eV_ok (d := runD T rs) rfl) ta5 rfl) ((eqX_bD _ _).trans (by rw [beq_self_eq_true])))).trans ?_
  exact e2_ok (attr_sl (eV_ok (d := runD T rs) rfl) ta4 rfl) (attr_sl (eV_ok (d := runD T rs) rfl) ta4 rfl) e
theorem ne_same (n : Nat) (T : List Int) (rs : List Bs) : neID tq_Run n (runD T rs) (runD T rs) = some (.bl false) := by
  unfold neID
  rw [show insEq tq_Run n (runD T rs) (runD T rs) = some true from insEq_same tq2 (runeq_v n T rs)]
  rfl
end Lk

/-! what is drawn: spoons, threads, rows of blocks -/
namespace Lk
open PySem PySem.Spec PyProof.Rows L2 M Rn
local instance tb4 : Tabs := ⟨[], []⟩
theorem small_le {i : Int} (h1 : -1000 ≤ i) (h2 : i ≤ 1000) : small i = true := by rw [small_iff]; omega
theorem small62_le {i : Int} (h1 : -1000 ≤ i) (h2 : i ≤ 1000) : small62 i = true := by rw [small62_iff]; omega
theorem log_le {i : Int} (h1 : 0 ≤ i) (h2 : i ≤ 1000) : i.natAbs.log2 < 9000 := by
  have : i.natAbs < 2 ^ 9000 := Nat.lt_of_le_of_lt (show i.natAbs ≤ 1000 by omega) (by decide +kernel)
  by_cases z : i.natAbs = 0
  · rw [z]; decide
  · exact (Nat.log2_lt z).mpr this
/-! spoons -/
def spoonA (x y z t : Int) : Int × Int × Int := if 0 < x then (x % t, x / t, z) else
  (((((y + 32452843 * (z + 1)) % 1000000087 * ((y + 32452843 * (z + 1)) % 1000000087) + y / 1000003 + 6151 * (z + 1)) % 998244353 * (((y + 32452843 * (z + 1)) % 1000000087 * ((y + 32452843 * (z + 1)) % 1000000087) + y / 1000003 + 6151 * (z + 1)) % 998244353) + (y + 32452843 * (z + 1)) % 1000000087) % 1000000093) / 128 % t, x, z + 1)
theorem spoon_eq (n : Nat) (x y z t : Int) (ht : 0 < t) (ht2 : t.natAbs.log2 < 9000) :
    F__law_spoon n [.own true [.int x, .int y, .int z], .dat (.int t)] = some (.dat (.int (spoonA x y z t).1), [.own true [.int (spoonA x y z t).2.1, .int y, .int (spoonA x y z t).2.2], .dat (.int t)]) := by
  have h1 : small 32452843 = true := by decide
  have h2 : small 6151 = true := by decide
  have h3 : ∀ x, small (x % 1000000087) = true := fun x => small_mod x _ (by decide) (by decide)
  have h4 : ∀ x, small (x % 998244353) = true := fun x => small_mod x _ (by decide) (by decide)
  have h5 : (1000003 : Int).natAbs.log2 < 9000 := by decide +kernel
  have h6 : (128 : Int).natAbs.log2 < 9000 := by decide +kernel
  have h5' : Nat.log2 1000003 < 9000 := by decide +kernel
  have h6' : Nat.log2 128 < 9000 := by decide +kernel
  by_cases hx : 0 < x
  · refine (runB_rt (ρ := [some (.own true [.int (x / t), .int y, .int z]), some (.dat (.int t)), none, none, none, some (.dat (.int (x % t)))]) (s := .dat (.int (x % t))) rfl ?_).trans ?_
    · show g__law_spoon n [some (.own true [.int x, .int y, .int z]), some (.dat (.int t)), none, none, none, none] = _
      simp [hx, g__law_spoon, sSeq, sIf, bndTS, M.tB, bnd_T, bnd, e2, eIxO, eC, eV, ownL, Rz.bind, ofO, frc_eq, iLt_eq, ixD, atI, ixN, gtD, sSet, bndS, eB, bndA, aCons, aNil, M.intD, modD, ht, isIo, sItO, fdivD, ht2, sRet]
    · simp [spoonA, hx, ends]
  · refine (runB_rt (ρ := _) (s := .dat (.int (spoonA x y z t).1)) rfl (by
      show g__law_spoon n [some (.own true [.int x, .int y, .int z]), some (.dat (.int t)), none, none, none, none] = _
      simp [hx, g__law_spoon, sSeq, sIf, bndTS, M.tB, bnd_T, bnd, e2, eIxO, eC, eV, ownL, Rz.bind, ofO, frc_eq, iLt_eq, ixD, atI, ixN, gtD, sSet, bndS, eB, bndA, aCons, aNil, M.intD, modD, ht, isIo, sItO, fdivD, ht2, sRet, sNx, addD, mulD, h1, h2, h3, h4, h5, h6, h5', h6']
      exact ⟨by simp [spoonA, hx], rfl⟩)).trans ?_
    simp [spoonA, hx, ends]
theorem spoonA_rng (x y z t : Int) (ht : 0 < t) : 0 ≤ (spoonA x y z t).1 ∧ (spoonA x y z t).1 < t := by
  unfold spoonA
  split
  · exact ⟨Int.emod_nonneg _ (by omega), Int.emod_lt_of_pos _ ht⟩
  · exact ⟨Int.emod_nonneg _ (by omega), Int.emod_lt_of_pos _ ht⟩
/-- a dish: three ints -/
def dish (p : Int × Int × Int) : List D := [.int p.1, .int p.2.1, .int p.2.2]
/-- a spoon from a dish, in short -/
theorem spoon_ex (n : Nat) (p : Int × Int × Int) (t : Int) (ht : 0 < t) (ht2 : t ≤ 1000) : ∃ (r : Nat) (q : Int × Int × Int) (as' : M.Args), (r : Int) < t ∧ F__law_spoon n [.own true (dish p), .dat (.int t)] = some (.dat (.int r), .own true (dish q) :: as') := by
  obtain ⟨x, y, z⟩ := p
  have e := spoon_eq n x y z t ht (log_le (by omega) ht2)
  obtain ⟨h1, h2⟩ := spoonA_rng x y z t ht
  refine ⟨(spoonA x y z t).1.toNat, ((spoonA x y z t).2.1, y, (spoonA x y z t).2.2), [.dat (.int t)], by omega, ?_⟩
  have : (((spoonA x y z t).1.toNat : Nat) : Int) = (spoonA x y z t).1 := by omega
  rw [this]
  exact e
/-- .. as a call: the dish at slot j -/
theorem spoon_call (n j : Nat) (ρ : Rho) (io : Bool) (p : Int × Int × Int) (fe : FE) (t : Int) (hj : ownL ρ j = some (io, dish p)) (he : fe ρ = .ok (.int t, ρ)) (ht : 0 < t) (ht2 : t ≤ 1000) :
    ∃ (r : Nat) (q : Int × Int × Int), (r : Int) < t ∧ eCall F__law_spoon n (rOwn j (rCons fe rNil)) ρ = .ok (.int r, ρ.set j (some (.own io (dish q)))) := by
  obtain ⟨r, q, as', h1, h2⟩ := spoon_ex n p t ht ht2
  refine ⟨r, q, h1, call_o1 (ds := [.int t]) hj ?_ h2⟩
  simp [rOwn, rCons, rNil, he, Rz.bind, hj]
theorem call_o2 {F : FD} {n j : Nat} {fr : FAr} {ρ0 ρ : Rho} {ds es es' : List D} {d : D} {io : Bool} {as' : M.Args} (ho : ownL ρ j = some (io, es)) (h : fr ρ0 = .ok (.o j :: ds.map Ar.d, ρ)) (hF : F n (.own true es :: ds.map Sl.dat) = some (.dat d, .own true es' :: as')) : eCall F n fr ρ0 = .ok (d, ρ.set j (some (.own io es'))) := by
  have := call_o1 (fr := fun _ => .ok (.o j :: ds.map Ar.d, ρ)) (ρ := ρ) (F := F) (n := n) ho rfl hF
  unfold eCall at this ⊢
  rw [h]
  exact this
theorem dish_eq (n : Nat) (ns : List Int) (k : Nat) : ∃ x y, F__law_dish n [.dat (.scr ns), .dat (.int k)] = some (.own false [.int x, .int y, .int 0], [.dat (.scr ns), .dat (.int k)]) := by
  have h1 : small 89 = true := by decide
  have h2 : small 3 = true := by decide
  have h3 : small 10007 = true := by decide
  have hc : ∃ c : Int, (eIf (M.tB (M.e2 ltD (eV 1) (eB lenD (aCons (eV 0) aNil)))) (M.e2 ixD (eV 0) (eV 1)) (M.e2 addD (M.e2 mulD (eC (.int 89)) (eV 1)) (eC (.int 31)))) [some (.dat (.scr ns)), some (.dat (.int k)), none, none, none] = .ok (.int c, [some (.dat (.scr ns)), some (.dat (.int k)), none, none, none]) := by
    by_cases hk : k < ns.length
    · refine ⟨ns[k], ?_⟩
      simp [eIf, bndT, M.tB, bnd_T, bnd, e2, eV, eB, bndA, aCons, aNil, lenD, ltD, ofO, frc_eq, iLt_eq, Rz.bind, hk, ixD, atI, ixN]
    · refine ⟨89 * k + 31, ?_⟩
      simp [eIf, bndT, M.tB, bnd_T, bnd, e2, eV, eC, eB, bndA, aCons, aNil, lenD, ltD, ofO, frc_eq, iLt_eq, Rz.bind, hk, mulD, addD, h1]
  obtain ⟨c, hc⟩ := hc
  have m1 : (0 : Int) < (10 ^ (60 : Int).toNat) ^ (9 : Int).toNat := by decide +kernel
  have m2 : (0 : Int) < 10 ^ (18 : Int).toNat + 3 := by decide +kernel
  have key : ∀ (fc : FE) (Q9 E : Int), fc [some (.dat (.scr ns)), some (.dat (.int k)), none, none, none] = .ok (.int c, [some (.dat (.scr ns)), some (.dat (.int k)), none, none, none]) → 0 < Q9 → 0 < E + 3 → ∃ x y ρ, (sSeq (sSet 2 fc)
  (sSeq (sSet 3 (M.e2 modD (eB M.intD (aCons (eB absD (aCons (eV 2) aNil)) aNil)) (eC (.int Q9))))
  (sSeq (sSet 4 (M.e2 modD (eB M.intD (aCons (M.e2 addD (M.e2 addD (M.e2 addD (M.e2 mulD (eV 3) (eC (.int 3))) (M.e2 mulD (eC (.int 10007)) (eV 1))) (eB M.intD (aCons (M.e2 ltD (eV 2) (eC (.int 0))) aNil))) (eC (.int 40487))) aNil)) (M.e2 addD (eC (.int E)) (eC (.int 3)))))
  (sRetO (oLst (aCons (eIf (M.tB (M.e2 gtD (eV 3) (eC (.int E)))) (M.e2 subD (eV 3) (eC (.int E))) (eC (.int 0))) (aCons (eV 4) (aCons (eC (.int 0)) aNil)))))))) [some (.dat (.scr ns)), some (.dat (.int k)), none, none, none] = .ok (.rt (.own false [.int x, .int y, .int 0]), some (.dat (.scr ns)) :: some (.dat (.int k)) :: ρ) := by
    intro fc Q9 E hc hM hE
    by_cases hz : E < (if c < 0 then -c else c) % Q9
    · simp [sSeq, sSet, bndS, hc, Rz.bind, isIo, e2, bnd, eB, bndA, aCons, aNil, eV, eC, absD, M.intD, modD, mulD, addD, subD, gtD, ltD, ofO, frc_eq, iLt_eq, h2, h3, sRetO, oLst, eIf, bndT, M.tB, bnd_T, hM, hE, hz, sizeLine]
    · simp [sSeq, sSet, bndS, hc, Rz.bind, isIo, e2, bnd, eB, bndA, aCons, aNil, eV, eC, absD, M.intD, modD, mulD, addD, subD, gtD, ltD, ofO, frc_eq, iLt_eq, h2, h3, sRetO, oLst, eIf, bndT, M.tB, bnd_T, hM, hE, hz, sizeLine]
  obtain ⟨x, y, ρ, e⟩ := key _ _ _ hc m1 m2
  refine ⟨x, y, (runB_rt (ρ := some (.dat (.scr ns)) :: some (.dat (.int k)) :: ρ) (s := .own false [.int x, .int y, .int 0]) rfl (by
      show g__law_dish n [some (.dat (.scr ns)), some (.dat (.int k)), none, none, none] = _
      unfold g__law_dish
      rw [e2_C pw1, e2_C pw2, e2_C pw3]
      exact e)).trans ?_⟩
  simp [ends]

/-- one of a sequence's items -/
theorem pick_ex (n : Nat) (p : Int × Int × Int) (I : D) (ds : List D) (hI : I = .tup ds ∨ I = .lst ds) (h1 : 0 < ds.length) (h2 : ds.length ≤ 1000) : ∃ d ∈ ds, ∃ (q : Int × Int × Int) (as' : M.Args), F__law_pick_of n [.own true (dish p), .dat I] = some (.dat d, .own true (dish q) :: as') := by
  have hl : lenD [I] = some (.int (ds.length : Nat)) := by rcases hI with rfl | rfl <;> rfl
  obtain ⟨r, q, h3, h4⟩ := spoon_call n 0 [some (.own true (dish p)), some (.dat I)] true p (eB lenD (aCons (eV 1) aNil)) ds.length rfl (eB1_ok (eV_ok rfl) hl) (by omega) (by omega)
  have hr : r < ds.length := by omega
  refine ⟨ds[r], List.getElem_mem hr, q, [.dat I], (runB_rt (s := .dat ds[r]) (ρ := [some (.own true (dish q)), some (.dat I)]) rfl ?_).trans (by simp [ends])⟩
  show g__law_pick_of n [some (.own true (dish p)), some (.dat I)] = _
  have hv : ixD I (.int r) = some ds[r] := by
    have : L2.atI ds (r : Int) = some ds[r] := by simp [L2.atI, L2.ixN, hr]
    rcases hI with rfl | rfl <;> exact this
  have c1 := e2_ok (op := ixD) (fa := eV 1) (ρ := [some (.own true (dish p)), some (.dat I)]) (eV_ok rfl) h4 hv
  unfold g__law_pick_of
  simp only [sRet, bndS, c1, Rz.bind]
  rfl
theorem pick_call (n j : Nat) (ρ0 ρ : Rho) (io io0 : Bool) (p : Int × Int × Int) (es0 : List D) (fe : FE) (I : D) (ds : List D) (hI : I = .tup ds ∨ I = .lst ds) (hj0 : ownL ρ0 j = some (io0, es0)) (hj : ownL ρ j = some (io, dish p)) (he : fe ρ0 = .ok (I, ρ)) (h1 : 0 < ds.length) (h2 : ds.length ≤ 1000) :
    ∃ d ∈ ds, ∃ (q : Int × Int × Int), eCall F__law_pick_of n (rOwn j (rCons fe rNil)) ρ0 = .ok (d, ρ.set j (some (.own io (dish q)))) := by
  obtain ⟨d, hd, q, as', e⟩ := pick_ex n p I ds hI h1 h2
  refine ⟨d, hd, q, call_o2 (ds := [I]) hj ?_ e⟩
  simp [rOwn, rCons, rNil, he, Rz.bind, hj0]
theorem spoon_call2 (n j : Nat) (ρ0 ρ : Rho) (io io0 : Bool) (p : Int × Int × Int) (es0 : List D) (fe : FE) (t : Int) (hj0 : ownL ρ0 j = some (io0, es0)) (hj : ownL ρ j = some (io, dish p)) (he : fe ρ0 = .ok (.int t, ρ)) (ht : 0 < t) (ht2 : t ≤ 1000) :
    ∃ (r : Nat) (q : Int × Int × Int), (r : Int) < t ∧ eCall F__law_spoon n (rOwn j (rCons fe rNil)) ρ0 = .ok (.int r, ρ.set j (some (.own io (dish q)))) := by
  obtain ⟨r, q, as', h1, h2⟩ := spoon_ex n p t ht ht2
  refine ⟨r, q, h1, call_o2 (ds := [.int t]) hj ?_ h2⟩
  simp [rOwn, rCons, rNil, he, Rz.bind, hj0]
theorem erase_permI : ∀ (l : List Int) (r : Nat) (h : r < l.length), (l[r] :: l.eraseIdx r).Perm l
  | a :: l, 0, _ => List.Perm.refl _
  | a :: l, r + 1, h => by
    have h' : r < l.length := by simpa using h
    exact (List.Perm.swap _ _ _).trans ((erase_permI l r h').cons a)
theorem pop_permI {l found : List Int} {r : Nat} (h : r < l.length) : (l.eraseIdx r ++ (found ++ [l[r]])).Perm (l ++ found) := by
  have p1 : (l[r] :: l.eraseIdx r).Perm l := erase_permI l r h
  have p2 : (l.eraseIdx r ++ (found ++ [l[r]])).Perm (l[r] :: (l.eraseIdx r ++ found)) := by
    rw [← List.append_assoc]
    exact List.perm_append_singleton _ _
  exact p2.trans (p1.append_right found)
theorem erase_mapI (l : List Int) (r : Nat) : (l.map D.int).eraseIdx r = (l.eraseIdx r).map D.int := by
  induction l generalizing r with
  | nil => rfl
  | cons a l ih => cases r with
    | zero => rfl
    | succ r => simp [List.eraseIdx, ih]
theorem some_ex (n : Nat) (p : Int × Int × Int) (I : D) (items : List Int) (cnt : Nat) (hI : I = bD items ∨ I = .lst (items.map D.int)) (h1 : cnt ≤ items.length) (h2 : items.length ≤ 100) : ∃ (q : Int × Int × Int) (left fs : List Int) (as' : M.Args), (left ++ fs).Perm items ∧ fs.length = cnt ∧
    F__law_some_of n [.own true (dish p), .dat I, .dat (.int cnt)] = some (.dat (.lst (fs.map D.int)), .own true (dish q) :: as') := by
  have z0 : (500 : Nat) ≤ sizeLine := by decide +kernel
  have hlst : lstD [I] = some (.lst (items.map D.int)) := by rcases hI with rfl | rfl <;> rfl
  have hlen : lenD [I] = some (.int (items.length : Nat)) := by
    rcases hI with rfl | rfl
    · exact lenb
    · show some (D.int ((items.map D.int).length : Nat)) = _; rw [List.length_map]
  let R : Nat → Rho → Prop := fun k ρ => ∃ (p : Int × Int × Int) (left found : List Int) (s3 : Option Sl), ρ = [some (.own true (dish p)), some (.dat I), some (.dat (.int cnt)), s3, some (.own false (left.map D.int)), some (.own false (found.map D.int))] ∧ (left ++ found).Perm items ∧ found.length = k ∧ isIo ρ 3 = false
  obtain ⟨ρ', e, q, left, found, s3, rfl, hp, hk, _⟩ := forL_rg (tg := tName 3) (body := sApp 5 (ePopO 4 (eCall F__law_spoon n (rOwn 0 (rCons (eLenO 4) rNil))))) R 0 cnt (fun k hk ρ ⟨p, left, found, s3, e, hp, hl, i3⟩ => by
      subst e
      have len := hp.length_eq
      rw [List.length_append] at len
      obtain ⟨r, q, hr, c1⟩ := spoon_call n 0 [some (.own true (dish p)), some (.dat I), some (.dat (.int cnt)), some (.dat (.int k)), some (.own false (left.map D.int)), some (.own false (found.map D.int))] true p (eLenO 4) left.length rfl (by simp [eLenO, ownL]) (by omega) (by omega)
      have hr2 : r < left.length := by omega
      have c2 : ePopO 4 (eCall F__law_spoon n (rOwn 0 (rCons (eLenO 4) rNil))) [some (.own true (dish p)), some (.dat I), some (.dat (.int cnt)), some (.dat (.int k)), some (.own false (left.map D.int)), some (.own false (found.map D.int))] =
          .ok (D.int left[r], [some (.own true (dish q)), some (.dat I), some (.dat (.int cnt)), some (.dat (.int k)), some (.own false ((left.eraseIdx r).map D.int)), some (.own false (found.map D.int))]) := by
        have b1 : (r : Int) < 2 ^ 63 := by omega
        simp [ePopO, bnd, c1, ownL, Rz.bind, hr2, erase_mapI]
        omega
      refine ⟨[some (.own true (dish p)), some (.dat I), some (.dat (.int cnt)), some (.dat (.int k)), some (.own false (left.map D.int)), some (.own false (found.map D.int))], [some (.own true (dish q)), some (.dat I), some (.dat (.int cnt)), some (.dat (.int k)), some (.own false ((left.eraseIdx r).map D.int)), some (.own false ((found ++ [left[r]]).map D.int))], ?_, ?_, ⟨_, _, _, _, rfl, (pop_permI hr2).trans hp, by simp [hl], rfl⟩⟩
      · simp only [tName, i3, Int.zero_add]; rfl
      · have b2 : found.length < sizeLine := by omega
        simp [sApp, bndS, c2, ownL, Rz.bind, b2]) [some (.own true (dish p)), some (.dat I), some (.dat (.int cnt)), none, some (.own false (items.map D.int)), some (.own false ([].map D.int))] ⟨p, _, _, none, rfl, by simp, rfl, rfl⟩
  refine ⟨q, left, found, [.dat I, .dat (.int cnt)], hp, hk, (runB_rt (s := .dat (.lst (found.map D.int))) (ρ := [some (.own true (dish q)), some (.dat I), some (.dat (.int cnt)), s3, some (.own false (left.map D.int)), some (.dat (.lst (found.map D.int)))]) rfl ?_).trans (by simp [ends])⟩
  show g__law_some_of n [some (.own true (dish p)), some (.dat I), some (.dat (.int cnt)), none, none, none] = _
  unfold g__law_some_of
  rw [seq_nx (ρ1 := [some (.own true (dish p)), some (.dat I), some (.dat (.int cnt)), none, some (.own false (items.map D.int)), some (.own false [])]) (by
    simp [sParV, vO, oLstOf, eV, Rz.bind, hlst, oLst, aNil, isIo])]
  have e1 : sFor (iRg rg1 (aCons (eB minD (aCons (eV 2) (aCons (eB lenD (aCons (eV 1) aNil)) aNil))) aNil)) (tName 3) (sApp 5 (ePopO 4 (eCall F__law_spoon n (rOwn 0 (rCons (eLenO 4) rNil))))) [some (.own true (dish p)), some (.dat I), some (.dat (.int cnt)), none, some (.own false (items.map D.int)), some (.own false [])] =
      .ok (.nx, [some (.own true (dish q)), some (.dat I), some (.dat (.int cnt)), s3, some (.own false (left.map D.int)), some (.own false (found.map D.int))]) := by
    have hmin : minD [.int cnt, .int (items.length : Nat)] = some (.int cnt) := by
      simp only [minD, iLt_eq]
      by_cases z : ((items.length : Nat) : Int) < cnt
      · omega
      · simp only [z, decide_false, Bool.false_eq_true, if_false]
    have hr : small62 cnt = true := small62_le (by omega) (by omega)
    have l1 : eB minD (aCons (eV 2) (aCons (eB lenD (aCons (eV 1) aNil)) aNil)) [some (.own true (dish p)), some (.dat I), some (.dat (.int cnt)), none, some (.own false (items.map D.int)), some (.own false [])] = .ok (.int cnt, [some (.own true (dish p)), some (.dat I), some (.dat (.int cnt)), none, some (.own false (items.map D.int)), some (.own false [])]) :=
      eB2_ok (eV_ok rfl) (eB1_ok (eV_ok rfl) hlen) hmin
    simp only [sFor, iRg, aCons, aNil, Rz.bind] at l1 ⊢
    simp only [l1, rg1, hr, if_true, Int.toNat_natCast]
    exact e
  rw [seq_nx e1]
  simp [sRet, bndS, eFrz, ownL, Rz.bind]
end Lk

/-! drawn blocks, drawn rows -/
namespace Lk
open PySem PySem.Spec PyProof.Rows L2 M Rn
local instance tb5 : Tabs := ⟨[], []⟩
theorem cut_drop (ds : List D) (j : Nat) : M.cutD ds (some (j : Int)) none = ds.drop j := by
  unfold M.cutD
  rw [HT.sIx_none, HT.sIx_nat]
  by_cases h : j ≤ ds.length
  · rw [Nat.min_eq_left h, List.take_of_length_le (by rw [List.length_drop]; exact Nat.le_refl _)]
  · rw [Nat.min_eq_right (by omega), List.drop_of_length_le (Nat.le_refl _), List.drop_of_length_le (by omega), List.take_nil]
theorem sl_takeL {fe fh : FE} {ρ ρ1 ρ2 : Rho} {ds : List D} {j : Nat} (h : fe ρ = .ok (.lst ds, ρ1)) (h2 : fh ρ1 = .ok (.int (j : Nat), ρ2)) : eSl fe pNone (pSome fh) ρ = .ok (.lst (ds.take j), ρ2) := by
  simp only [eSl, h, Rz.bind, pNone, pSome, h2, slD, cut_take, ofO_some]
theorem sl_dropL {fe fh : FE} {ρ ρ1 ρ2 : Rho} {ds : List D} {j : Nat} (h : fe ρ = .ok (.lst ds, ρ1)) (h2 : fh ρ1 = .ok (.int (j : Nat), ρ2)) : eSl fe (pSome fh) pNone ρ = .ok (.lst (ds.drop j), ρ2) := by
  simp only [eSl, h, Rz.bind, pNone, pSome, h2, slD, cut_drop, ofO_some]
theorem app_ok {j : Nat} {fe : FE} {ρ ρ1 : Rho} {d : D} {io0 io : Bool} {es ds : List D} (h0 : ownL ρ j = some (io0, es)) (h : fe ρ = .ok (d, ρ1)) (h1 : ownL ρ1 j = some (io, ds)) (hl : ds.length ≤ 1000) : sApp j fe ρ = .ok (.nx, ρ1.set j (some (.own io (ds ++ [d])))) := by
  have z : (2000 : Nat) ≤ sizeLine := by decide +kernel
  simp only [sApp, h0, bndS, h, Rz.bind, h1]
  rw [if_pos (by omega)]
theorem frz_ok {j : Nat} {ρ : Rho} {ds : List D} (h : ownL ρ j = some (false, ds)) : eFrz j ρ = .ok (.lst ds, ρ.set j (some (.dat (.lst ds)))) := by simp only [eFrz, h]
theorem blocks_ex (n : Nat) (p : Int × Int × Int) {T : List Int} (h : Th T) : ∃ (q : Int × Int × Int) (bs : Bs) (as' : M.Args), Wf T bs ∧ F__law_blocks (n + 10) [.own true (dish p), .dat (bD T)] = some (.dat (bsD bs), .own true (dish q) :: as') := by
  have h5 := h.len
  have h0 : 0 < T.length := List.length_pos_iff.mpr h.ne
  have ndT := nodup_asc h.asc
  let S : (Int × Int × Int) → D → List Int → Bs → Option D → Rho := fun p wd left found sz => [some (.own true (dish p)), some (.dat (bD T)), some (.dat wd), some (.dat (.lst (left.map D.int))), some (.own false (found.map bD)), sz.map Sl.dat]
  -- all of them, in drawn order
  obtain ⟨p1, l1, fs, a1, hp, hl, e1⟩ := some_ex (n + 10) p (bD T) T T.length (.inl rfl) (Nat.le_refl _) (by omega)
  have hl1 : l1 = [] := by
    have := hp.length_eq
    rw [List.length_append] at this
    exact List.length_eq_zero_iff.mp (by omega)
  subst hl1
  rw [List.nil_append] at hp
  let ρ0 : Rho := [some (.own true (dish p)), some (.dat (bD T)), none, none, none, none]
  let ρ1 : Rho := [some (.own true (dish p1)), some (.dat (bD T)), none, none, none, none]
  let ρ2 : Rho := [some (.own true (dish p1)), some (.dat (bD T)), none, some (.dat (.lst (fs.map D.int))), some (.own false []), none]
  have c1 : eCall F__law_some_of (n + 10) (rOwn 0 (rCons (eV 1) (rCons (eB lenD (aCons (eV 1) aNil)) rNil))) ρ0 = .ok (.lst (fs.map D.int), ρ1) := by
    refine call_o1 (ds := [bD T, .int (T.length : Nat)]) (ρ := ρ0) (j := 0) (io := true) (es := dish p) rfl ?_ e1
    have lb : eB lenD (aCons (eV 1) aNil) ρ0 = .ok (.int (T.length : Nat), ρ0) := eB1_ok (eV_ok rfl) lenb
    simp only [rOwn, rCons, rNil, show ownL ρ0 0 = some (true, dish p) from rfl, show eV 1 ρ0 = .ok (bD T, ρ0) from rfl, lb, Rz.bind]
    rfl
  have s1 : sParV 3 4 (vD (eCall F__law_some_of (n + 10) (rOwn 0 (rCons (eV 1) (rCons (eB lenD (aCons (eV 1) aNil)) rNil))))) (vO (oLst aNil)) ρ0 = .ok (.nx, ρ2) := by
    simp only [sParV, vD, c1, Rz.bind, vO, oLst, aNil]
    rfl
  obtain ⟨wd, hwd, p2, c2⟩ := pick_call (n + 10) 0 ρ2 ρ2 true true p1 (dish p1) (eLst (aCons (eC (.int 1)) (aCons (eC (.int 2)) (aCons (eC (.int 2)) (aCons (eC (.int 3)) (aCons (eC (.int 5)) aNil)))))) (.lst [.int 1, .int 2, .int 2, .int 3, .int 5]) [.int 1, .int 2, .int 2, .int 3, .int 5] (.inr rfl) rfl rfl (lst_ok (cons_ok eC_ok (cons_ok eC_ok (cons_ok eC_ok (cons_ok eC_ok (cons_ok eC_ok nil_ok))))) (by decide)) (by decide) (by decide)
  obtain ⟨w, rfl, hw⟩ : ∃ w : Nat, wd = .int (w : Nat) ∧ 1 ≤ w := by
    simp only [List.mem_cons, List.not_mem_nil, or_false] at hwd
    rcases hwd with rfl | rfl | rfl | rfl | rfl
    · exact ⟨1, rfl, by omega⟩
    · exact ⟨2, rfl, by omega⟩
    · exact ⟨2, rfl, by omega⟩
    · exact ⟨3, rfl, by omega⟩
    · exact ⟨5, rfl, by omega⟩
  have s2 : sSet 2 (eCall F__law_pick_of (n + 10) (rOwn 0 (rCons (eLst (aCons (eC (.int 1)) (aCons (eC (.int 2)) (aCons (eC (.int 2)) (aCons (eC (.int 3)) (aCons (eC (.int 5)) aNil)))))) rNil))) ρ2 = .ok (.nx, S p2 (.int (w : Nat)) fs [] none) := set_ok c2 rfl
  let t : FT := M.tB (M.e2 neX (eV 3) (eLst aNil))
  let body : FS := (sSeq (sSet 5 (M.e2 addD (eC (.int 1)) (eCall F__law_spoon (n + 10) (rOwn 0 (rCons (eB minD (aCons (eV 2) (aCons (eB lenD (aCons (eV 3) aNil)) aNil))) rNil)))))
  (sSeq (sApp 4 (M.e1 tupD (eB sortXD (aCons (eSl (eV 3) pNone (pSome (eV 5))) aNil))))
  (sSet 3 (eSl (eV 3) (pSome (eV 5)) pNone))))
  have ht : ∀ p left found sz, t (S p (.int (w : Nat)) left found sz) = .ok (!(left == []), S p (.int (w : Nat)) left found sz) := fun p left found sz =>
    tB_ok (e2_ok (eV_ok (i := 3) (d := .lst (left.map D.int)) rfl) (lst_ok nil_ok (by simp)) (neX_li left []))
  have loop : ∀ (m k : Nat) (p : Int × Int × Int) (left : List Int) (found : Bs) (sz : Option D), left.length ≤ m → m < k → (found.flatten ++ left).Perm T → (∀ b ∈ found, b ≠ []) → (∀ b ∈ found, b.Pairwise (· < ·)) → ∃ p' bs sz', Wf T bs ∧ whl t body k (S p (.int (w : Nat)) left found sz) = .ok (.nx, S p' (.int (w : Nat)) [] bs sz') := by
    intro m
    induction m with
    | zero =>
      intro k p left found sz h1 h2 h3 h4 h6
      have hz : left = [] := List.length_eq_zero_iff.mp (by omega)
      subst hz
      rw [List.append_nil] at h3
      obtain ⟨k, rfl⟩ : ∃ j, k = j + 1 := ⟨k - 1, by omega⟩
      exact ⟨p, found, sz, ⟨h3, h4, h6⟩, whl_end (ht p [] found sz)⟩
    | succ m ih =>
      intro k p left found sz h1 h2 h3 h4 h6
      obtain ⟨k, rfl⟩ : ∃ j, k = j + 1 := ⟨k - 1, by omega⟩
      by_cases hz : left = []
      · subst hz
        rw [List.append_nil] at h3
        exact ⟨p, found, sz, ⟨h3, h4, h6⟩, whl_end (ht p [] found sz)⟩
      · have hb : (!(left == [])) = true := by simpa using hz
        have hll : 0 < left.length := List.length_pos_iff.mpr hz
        have len := h3.length_eq
        rw [List.length_append] at len
        have nd : left.Nodup := (List.nodup_append.mp (h3.nodup_iff.mpr ndT)).2.1
        have fl5 : found.length ≤ 5 := by
          have : ∀ bs : Bs, (∀ b ∈ bs, b ≠ []) → bs.length ≤ bs.flatten.length := fun bs => by
            induction bs with
            | nil => intro _; exact Nat.zero_le _
            | cons b bs ih =>
              intro h
              have h1 := ih fun c hc => h c (List.mem_cons_of_mem _ hc)
              have h2 : 0 < b.length := List.length_pos_iff.mpr (h b (List.mem_cons_self ..))
              rw [List.length_cons, List.flatten_cons, List.length_append]; omega
          have := this found h4
          omega
        let A : Rho := S p (.int (w : Nat)) left found sz
        have lenl : lenD [.lst (left.map D.int)] = some (.int (left.length : Nat)) := by show some (D.int ((left.map D.int).length : Nat)) = _; rw [List.length_map]
        have mn : eB minD (aCons (eV 2) (aCons (eB lenD (aCons (eV 3) aNil)) aNil)) A = .ok (.int (min w left.length : Nat), A) := by
          refine eB2_ok (eV_ok (i := 2) (d := .int (w : Nat)) rfl) (eB1_ok (eV_ok (i := 3) (d := .lst (left.map D.int)) rfl) lenl) ?_
          simp only [minD, iLt_eq]
          congr 2
          by_cases z : ((left.length : Nat) : Int) < w
          · simp only [z, decide_true, if_true]; omega
          · simp only [z, decide_false, Bool.false_eq_true, if_false]; omega
        obtain ⟨r, q, hr, c3⟩ := spoon_call2 (n + 10) 0 A A true true p (dish p) _ (min w left.length : Nat) rfl rfl mn (by omega) (by omega)
        have hs1 : 1 + r ≤ left.length := by omega
        let A1 : Rho := S q (.int (w : Nat)) left found sz
        have c3' : eCall F__law_spoon (n + 10) (rOwn 0 (rCons (eB minD (aCons (eV 2) (aCons (eB lenD (aCons (eV 3) aNil)) aNil))) rNil)) A = .ok (.int r, A1) := c3
        let A2 : Rho := S q (.int (w : Nat)) left found (some (.int ((1 + r : Nat) : Int)))
        have ea : addD (.int 1) (.int (r : Nat)) = some (.int ((1 + r : Nat) : Int)) := by
          show some (D.int _) = _
          congr 2
        have i5 : isIo A1 5 = false := by cases sz <;> rfl
        have b1 : sSet 5 (M.e2 addD (eC (.int 1)) (eCall F__law_spoon (n + 10) (rOwn 0 (rCons (eB minD (aCons (eV 2) (aCons (eB lenD (aCons (eV 3) aNil)) aNil))) rNil)))) A = .ok (.nx, A2) := set_ok (e2_ok eC_ok c3' ea) i5
        let blk : List Int := srt (left.take (1 + r))
        have v5 : eV 5 A2 = .ok (.int ((1 + r : Nat) : Int), A2) := eV_ok rfl
        have v3 : eV 3 A2 = .ok (.lst (left.map D.int), A2) := eV_ok rfl
        have tk := sl_takeL v3 v5
        rw [← List.map_take] at tk
        have dr := sl_dropL v3 v5
        rw [← List.map_drop] at dr
        have b2 : sApp 4 (M.e1 tupD (eB sortXD (aCons (eSl (eV 3) pNone (pSome (eV 5))) aNil))) A2 = .ok (.nx, S q (.int (w : Nat)) left (found ++ [blk]) (some (.int ((1 + r : Nat) : Int)))) := by
          have := app_ok (j := 4) (io0 := false) (es := found.map bD) (io := false) (ds := found.map bD) rfl (e1_ok (op := tupD) (d := bD blk) (eB1_ok tk (sortX_l _)) rfl) rfl (by rw [List.length_map]; omega)
          rw [this]
          show Rz.ok (_, S q _ left found _ |>.set 4 _) = _
          rw [show found.map bD ++ [bD blk] = (found ++ [blk]).map bD by rw [List.map_append]; rfl]
          rfl
        let A3 : Rho := S q (.int (w : Nat)) left (found ++ [blk]) (some (.int ((1 + r : Nat) : Int)))
        have dr3 := sl_dropL (ρ := A3) (ρ1 := A3) (ρ2 := A3) (fe := eV 3) (fh := eV 5) (ds := left.map D.int) (j := 1 + r) (eV_ok rfl) (eV_ok rfl)
        rw [← List.map_drop] at dr3
        have b3 : sSet 3 (eSl (eV 3) (pSome (eV 5)) pNone) A3 = .ok (.nx, S q (.int (w : Nat)) (left.drop (1 + r)) (found ++ [blk]) (some (.int ((1 + r : Nat) : Int)))) := set_ok dr3 rfl
        have hbody : body A = .ok (.nx, S q (.int (w : Nat)) (left.drop (1 + r)) (found ++ [blk]) (some (.int ((1 + r : Nat) : Int)))) := (seq_nx b1).trans ((seq_nx b2).trans b3)
        rw [whl_step ((ht p left found sz).trans (by rw [hb])) hbody]
        have ndk : (left.take (1 + r)).Nodup := by
          have := nd
          rw [← List.take_append_drop (1 + r) left, List.nodup_append] at this
          exact this.1
        refine ih k q (left.drop (1 + r)) (found ++ [blk]) _ (by rw [List.length_drop]; omega) (by omega) ?_ (fun b hb => ?_) (fun b hb => ?_)
        · rw [List.flatten_append, List.append_assoc]
          refine List.Perm.trans (List.Perm.append_left _ ?_) h3
          have e : ([blk] : Bs).flatten = blk := by simp
          rw [e]
          have := (srt_perm (left.take (1 + r))).append_right (left.drop (1 + r))
          rw [List.take_append_drop] at this
          exact this
        · rcases List.mem_append.mp hb with z | z
          · exact h4 b z
          · rw [List.mem_singleton.mp z]
            intro e
            have := (srt_perm (left.take (1 + r))).length_eq
            rw [show srt (left.take (1 + r)) = [] from e, List.length_take] at this
            simp at this; omega
        · rcases List.mem_append.mp hb with z | z
          · exact h6 b z
          · rw [List.mem_singleton.mp z]; exact srt_asc ndk
  have hfl := hp.length_eq
  obtain ⟨p', bs, sz', wf, lp⟩ := loop fs.length (n + 10) p2 fs [] none (Nat.le_refl _) (by omega) (by simpa using hp) (fun b hb => by simp at hb) (fun b hb => by simp at hb)
  let ρe : Rho := [some (.own true (dish p')), some (.dat (bD T)), some (.dat (.int (w : Nat))), some (.dat (.lst [])), some (.dat (.lst (bs.map bD))), sz'.map Sl.dat]
  refine ⟨p', bs, [.dat (bD T)], wf, (runB_rt (s := .dat (bsD bs)) (ρ := ρe) rfl ?_).trans (by simp [ends, ρe])⟩
  show g__law_blocks (n + 10) ρ0 = _
  unfold g__law_blocks
  refine (seq_nx s1).trans ((seq_nx s2).trans ((seq_nx lp).trans ?_))
  exact ret_ok (e1_ok (frz_ok rfl) rfl)
end Lk

/-! drawn rows -/
namespace Lk
open PySem PySem.Spec PyProof.Rows L2 M Rn
local instance tb6 : Tabs := ⟨[], []⟩
theorem filter_perm {T : List Int} {t : Int} (nd : T.Nodup) (h : t ∈ T) : (T.filter (· ≠ t) ++ [t]).Perm T := by
  have nf : t ∉ T.filter (· ≠ t) := fun z => by simp at z
  have n1 : (T.filter (· ≠ t) ++ [t]).Nodup := by
    rw [List.nodup_append]
    refine ⟨nd.sublist List.filter_sublist, by simp, fun a ha b hb e => ?_⟩
    rw [List.mem_singleton.mp hb] at e
    exact nf (e ▸ ha)
  refine (List.perm_ext_iff_of_nodup n1 nd).mpr fun k => ?_
  rw [List.mem_append, List.mem_filter, List.mem_singleton]
  by_cases z : k = t
  · subst z; simp [h]
  · simp [z]
theorem th_filter {T : List Int} {t : Int} (h : Th T) (hne : T.filter (· ≠ t) ≠ []) : Th (T.filter (· ≠ t)) :=
  ⟨h.asc.sublist List.filter_sublist, fun k hk => h.rng k (List.mem_filter.mp hk).1, hne, Nat.le_trans (List.length_filter_le _ _) h.len⟩
theorem blocks_call (n : Nat) (ρ0 : Rho) (p : Int × Int × Int) {T : List Int} (h : Th T) (i : Nat) (hj : ownL ρ0 0 = some (true, dish p)) (he : ρ0[i]? = some (some (.dat (bD T)))) :
    ∃ (q : Int × Int × Int) (bs : Bs), Wf T bs ∧ eCall F__law_blocks (n + 10) (rOwn 0 (rCons (eV i) rNil)) ρ0 = .ok (bsD bs, ρ0.set 0 (some (.own true (dish q)))) := by
  obtain ⟨q, bs, as', w, e⟩ := blocks_ex n p h
  refine ⟨q, bs, w, call_o2 (ds := [bD T]) hj ?_ e⟩
  simp [rOwn, rCons, rNil, eV_ok he, Rz.bind, hj]
theorem rows_ex (n : Nat) (p : Int × Int × Int) {T : List Int} (h : Th T) (cnt : Nat) (hc : cnt ≤ 6) : ∃ (q : Int × Int × Int) (rows : List Bs) (as' : M.Args), (∀ bs ∈ rows, Wf T bs) ∧ rows.length = cnt ∧
    F__law_rows_drawn (n + 10) [.own true (dish p), .dat (bD T), .dat (.int (cnt : Nat))] = some (.dat (.tup (rows.map bsD)), .own true (dish q) :: as') := by
  have h5 := h.len
  have h0 : 0 < T.length := List.length_pos_iff.mpr h.ne
  have ndT := nodup_asc h.asc
  let ρ0 : Rho := [some (.own true (dish p)), some (.dat (bD T)), some (.dat (.int (cnt : Nat))), none, none, none, none, none, none, none]
  obtain ⟨d, hd, p1, c1⟩ := pick_call (n + 10) 0 ρ0 ρ0 true true p (dish p) (eV 1) (bD T) (T.map D.int) (.inl rfl) rfl rfl (eV_ok rfl) (by rw [List.length_map]; omega) (by rw [List.length_map]; omega)
  obtain ⟨last, hlast, rfl⟩ := List.mem_map.mp hd
  let ρ1 : Rho := [some (.own true (dish p1)), some (.dat (bD T)), some (.dat (.int (cnt : Nat))), none, none, some (.own false []), some (.dat (.int last)), none, none, none]
  have s1 : sParV 5 6 (vO (oLst aNil)) (vD (eCall F__law_pick_of (n + 10) (rOwn 0 (rCons (eV 1) rNil)))) ρ0 = .ok (.nx, ρ1) := by
    have o : oLst aNil ρ0 = .ok ([], ρ0) := rfl
    simp only [sParV, vO, o, Rz.bind, vD, c1]
    rfl
  obtain ⟨way, p2, hway, c2⟩ := spoon_call2 (n + 10) 0 ρ1 ρ1 true true p1 (dish p1) (eC (.int 4)) 4 rfl rfl eC_ok (by omega) (by omega)
  let S : (Int × Int × Int) → List Bs → Option D → Option D → Option D → Rho := fun p found x4 x7 x8 => [some (.own true (dish p)), some (.dat (bD T)), some (.dat (.int (cnt : Nat))), some (.dat (.int (way : Nat))), x4.map Sl.dat, some (.own false (found.map bsD)), some (.dat (.int last)), x7.map Sl.dat, x8.map Sl.dat, none]
  have s2 : sSet 3 (eCall F__law_spoon (n + 10) (rOwn 0 (rCons (eC (.int 4)) rNil))) ρ1 = .ok (.nx, S p2 [] none none none) := set_ok c2 rfl
  let rest : List Int := T.filter (· ≠ last)
  let body : FS := (sSeq (sSet 7 (eCall F__law_blocks (n + 10) (rOwn 0 (rCons (eV 1) rNil))))
  (sSeq (sSet 8 (M.e1 tupD (eFz (oLc (iSeq (eV 1)) (tName 9) (M.tB (M.e2 neX (eV 9) (eV 6))) (eV 9) [9]))))
  (sSeq (sIf (tAndD (M.tB (M.e2 eqX (eV 3) (eC (.int 0)))) (tAndD (M.tB (M.e2 neX (eV 8) (eTup aNil))) (M.tB (M.e2 gtD (eCall F__law_spoon (n + 10) (rOwn 0 (rCons (eC (.int 3)) rNil))) (eC (.int 0)))))) (sSet 7 (M.e2 addD (eCall F__law_blocks (n + 10) (rOwn 0 (rCons (eV 8) rNil))) (eTup (aCons (eTup (aCons (eV 6) aNil)) aNil)))) sNx)
  (sApp 5 (eV 7)))))
  have step : ∀ (p : Int × Int × Int) (found : List Bs) (k : Nat) (x7 x8 : Option D), found.length ≤ 10 → ∃ q bs, Wf T bs ∧ body (S p found (some (.int (k : Nat))) x7 x8) = .ok (.nx, S q (found ++ [bs]) (some (.int (k : Nat))) (some (bsD bs)) (some (bD rest))) := by
    intro p found k x7 x8 hfl
    obtain ⟨q1, bs1, w1, b1⟩ := blocks_call n (S p found (some (.int (k : Nat))) x7 x8) p h 1 rfl rfl
    have b1' : eCall F__law_blocks (n + 10) (rOwn 0 (rCons (eV 1) rNil)) (S p found (some (.int (k : Nat))) x7 x8) = .ok (bsD bs1, S q1 found (some (.int (k : Nat))) x7 x8) := b1
    have i7 : isIo (S q1 found (some (.int (k : Nat))) x7 x8) 7 = false := by cases x7 <;> rfl
    have t1 : sSet 7 (eCall F__law_blocks (n + 10) (rOwn 0 (rCons (eV 1) rNil))) (S p found (some (.int (k : Nat))) x7 x8) = .ok (.nx, S q1 found (some (.int (k : Nat))) (some (bsD bs1)) x8) := set_ok b1' i7
    let A : Rho := S q1 found (some (.int (k : Nat))) (some (bsD bs1)) x8
    have hwp : wipeR [9] A = A := by cases x8 <;> rfl
    have hrs : restR [9] A (wipeR [9] A) = A := by cases x8 <;> rfl
    have hno : noIo [9] A = true := by cases x8 <;> rfl
    have c3 := lcf_ok (ρ := A) (ρ0 := A) (fi := iSeq (eV 1)) (tg := tName 9) (ft := M.tB (M.e2 neX (eV 9) (eV 6))) (fe := eV 9) (vs := [9]) (xs := T) (u := D.int) (fun x => decide (x ≠ last)) (iSeq_t (eV_ok rfl)) hno hrs (fun x hx => by
      rw [hwp]
      let B : Rho := A.set 9 (some (.dat (.int x)))
      refine ⟨B, B, ?_, neq_li (ρ := B) (i := 9) (j := 6) rfl rfl, ?_, ?_, eV_ok (ρ := B) (i := 9) rfl⟩
      · cases x8 <;> rfl
      · cases x8 <;> rfl
      · cases x8 <;> rfl) (by omega)
    have i8 : isIo A 8 = false := by cases x8 <;> rfl
    have t2 : sSet 8 (M.e1 tupD (eFz (oLc (iSeq (eV 1)) (tName 9) (M.tB (M.e2 neX (eV 9) (eV 6))) (eV 9) [9]))) A = .ok (.nx, S q1 found (some (.int (k : Nat))) (some (bsD bs1)) (some (bD rest))) := set_ok (e1_ok (op := tupD) (d := bD rest) (fz_ok c3) rfl) i8
    let C : Rho := S q1 found (some (.int (k : Nat))) (some (bsD bs1)) (some (bD rest))
    have fin : ∀ (q : Int × Int × Int) (bs : Bs), sApp 5 (eV 7) (S q found (some (.int (k : Nat))) (some (bsD bs)) (some (bD rest))) = .ok (.nx, S q (found ++ [bs]) (some (.int (k : Nat))) (some (bsD bs)) (some (bD rest))) := fun q bs => by
      have := app_ok (j := 5) (ρ := S q found (some (.int (k : Nat))) (some (bsD bs)) (some (bD rest))) (io0 := false) (es := found.map bsD) (io := false) (ds := found.map bsD) rfl (eV_ok (i := 7) (d := bsD bs) rfl) rfl (by rw [List.length_map]; omega)
      rw [this]
      rw [show found.map bsD ++ [bsD bs] = (found ++ [bs]).map bsD by rw [List.map_append]; rfl]
      rfl
    have cond : ∃ q bs, Wf T bs ∧ sIf (tAndD (M.tB (M.e2 eqX (eV 3) (eC (.int 0)))) (tAndD (M.tB (M.e2 neX (eV 8) (eTup aNil))) (M.tB (M.e2 gtD (eCall F__law_spoon (n + 10) (rOwn 0 (rCons (eC (.int 3)) rNil))) (eC (.int 0)))))) (sSet 7 (M.e2 addD (eCall F__law_blocks (n + 10) (rOwn 0 (rCons (eV 8) rNil))) (eTup (aCons (eTup (aCons (eV 6) aNil)) aNil)))) sNx C = .ok (.nx, S q found (some (.int (k : Nat))) (some (bsD bs)) (some (bD rest))) := by
      have k1 := tB_ok (e2_ok (ρ := C) (eV_ok (i := 3) (d := .int (way : Nat)) rfl) (eC_ok (d := .int 0)) (eqX_ii _ _))
      cases z1 : (((way : Nat) : Int) == 0) with
      | false =>
        rw [z1] at k1
        exact ⟨q1, bs1, w1, if_f (andT_f k1)⟩
      | true =>
        rw [z1] at k1
        have k2 := tB_ok (e2_ok (ρ := C) (eV_ok (i := 8) (d := bD rest) rfl) (tup_ok (ρ := C) nil_ok (by simp)) (neX_bD rest []))
        cases z2 : (rest == []) with
        | true =>
          rw [z2] at k2
          exact ⟨q1, bs1, w1, if_f ((andT_t k1).trans (andT_f k2))⟩
        | false =>
          rw [z2] at k2
          have hrne : rest ≠ [] := by simpa using z2
          obtain ⟨r, q2, hr, c4⟩ := spoon_call2 (n + 10) 0 C C true true q1 (dish q1) (eC (.int 3)) 3 rfl rfl eC_ok (by omega) (by omega)
          let C2 : Rho := S q2 found (some (.int (k : Nat))) (some (bsD bs1)) (some (bD rest))
          have c4' : eCall F__law_spoon (n + 10) (rOwn 0 (rCons (eC (.int 3)) rNil)) C = .ok (.int r, C2) := c4
          have gt : gtD (.int r) (.int 0) = some (.bl (decide ((0 : Int) < r))) := by simp only [gtD, iLt_eq]
          have k3 := tB_ok (e2_ok c4' (eC_ok (d := .int 0)) gt)
          cases z3 : decide ((0 : Int) < r) with
          | false =>
            rw [z3] at k3
            exact ⟨q2, bs1, w1, if_f ((andT_t k1).trans ((andT_t k2).trans k3))⟩
          | true =>
            rw [z3] at k3
            have hth := th_filter h hrne
            obtain ⟨q3, bs2, w2, b2⟩ := blocks_call n C2 q2 hth 8 rfl rfl
            let C3 : Rho := S q3 found (some (.int (k : Nat))) (some (bsD bs1)) (some (bD rest))
            have b2' : eCall F__law_blocks (n + 10) (rOwn 0 (rCons (eV 8) rNil)) C2 = .ok (bsD bs2, C3) := b2
            have w3 : Wf T (ext last bs2) := wf_ext w2 (filter_perm ndT hlast)
            have tt : eTup (aCons (eTup (aCons (eV 6) aNil)) aNil) C3 = .ok (bsD [[last]], C3) := tup_ok (cons_ok (tup1 (i := 6) rfl) nil_ok) (by simp)
            have z : (1000 : Nat) ≤ sizeLine := by decide +kernel
            have l2 := wf_len2 w3
            have ad : addD (bsD bs2) (bsD [[last]]) = some (bsD (ext last bs2)) := by
              have l3 : bs2.length + 1 ≤ 5 := by unfold ext at l2; rw [List.length_append] at l2; simp at l2; omega
              show (if (bs2.map bD).length + (([[last]] : Bs).map bD).length ≤ sizeLine then some (D.tup (bs2.map bD ++ ([[last]] : Bs).map bD)) else none) = _
              rw [if_pos (by rw [List.length_map]; simp; omega), ← List.map_append]; rfl
            refine ⟨q3, ext last bs2, w3, (if_t ((andT_t k1).trans ((andT_t k2).trans k3))).trans ?_⟩
            exact set_ok (e2_ok b2' tt ad) rfl
    obtain ⟨q, bs, w, e⟩ := cond
    exact ⟨q, bs, w, (seq_nx t1).trans ((seq_nx t2).trans ((seq_nx e).trans (fin q bs)))⟩
  let R : Nat → Rho → Prop := fun k ρ => ∃ p found x4 x7 x8, ρ = S p found x4 x7 x8 ∧ (∀ bs ∈ found, Wf T bs) ∧ found.length = k
  obtain ⟨ρ', e, q, rows, x4, x7, x8, rfl, hw, hl⟩ := forL_rg (tg := tName 4) (body := body) R 0 cnt (fun k hk ρ ⟨p, found, x4, x7, x8, e, hw, hl⟩ => by
    subst e
    obtain ⟨q, bs, w, e⟩ := step p found k x7 x8 (by omega)
    refine ⟨S p found (some (.int (k : Nat))) x7 x8, _, ?_, e, q, found ++ [bs], _, _, _, rfl, fun b hb => ?_, by rw [List.length_append, hl]; rfl⟩
    · rw [Int.zero_add]; cases x4 <;> rfl
    · rcases List.mem_append.mp hb with z | z
      · exact hw b z
      · rw [List.mem_singleton.mp z]; exact w) (S p2 [] none none none) ⟨p2, [], none, none, none, rfl, fun b hb => by simp at hb, rfl⟩
  let ρe : Rho := [some (.own true (dish q)), some (.dat (bD T)), some (.dat (.int (cnt : Nat))), some (.dat (.int (way : Nat))), x4.map Sl.dat, some (.dat (.lst (rows.map bsD))), some (.dat (.int last)), x7.map Sl.dat, x8.map Sl.dat, none]
  refine ⟨q, rows, [.dat (bD T), .dat (.int (cnt : Nat))], hw, hl, (runB_rt (s := .dat (.tup (rows.map bsD))) (ρ := ρe) rfl ?_).trans (by simp [ends, ρe])⟩
  show g__law_rows_drawn (n + 10) ρ0 = _
  unfold g__law_rows_drawn
  have hr : small62 (cnt : Nat) = true := small62_le (by omega) (by omega)
  have sf : sFor (iRg rg1 (aCons (eV 2) aNil)) (tName 4) body (S p2 [] none none none) = .ok (.nx, S q rows x4 x7 x8) := by
    have v : aCons (eV 2) aNil (S p2 [] none none none) = .ok ([.int (cnt : Nat)], S p2 [] none none none) := cons_ok (eV_ok rfl) nil_ok
    simp only [sFor, iRg, v, Rz.bind, rg1, hr, if_true, Int.toNat_natCast]
    exact e
  refine (seq_nx s1).trans ((seq_nx s2).trans ((seq_nx sf).trans ?_))
  exact ret_ok (e1_ok (frz_ok rfl) rfl)
end Lk

/-! the law's own: parts -/
namespace Lk
open PySem PySem.Spec PyProof.Rows L2 M Rn
local instance tb7 : Tabs := ⟨[], []⟩
theorem nio (x : Option D) : (match (some (Option.map Sl.dat x) : Option (Option Sl)) with | some (some (.own true _)) => true | _ => false) = false := by cases x <;> rfl
/-- slot j is a comprehension's own -/
structure Cmp (ρ : Rho) (j : Nat) : Prop where
  w : wipeR [j] ρ = ρ
  r : restR [j] ρ ρ = ρ
  no : noIo [j] ρ = true
  t : ∀ d, tName j d ρ = some (ρ.set j (some (.dat d)))
  w2 : ∀ d, wipeR [j] (ρ.set j (some (.dat d))) = ρ
  no2 : ∀ d, noIo [j] (ρ.set j (some (.dat d))) = true
  g : ∀ d, (ρ.set j (some (.dat d)))[j]? = some (some (.dat d))
theorem Cmp.o {ρ : Rho} {j i : Nat} (c : Cmp ρ j) (h : j ≠ i) {d x : D} (e : ρ[i]? = some (some (.dat x))) : (ρ.set j (some (.dat d)))[i]? = some (some (.dat x)) := by rw [List.getElem?_set_ne h]; exact e
theorem lcmC {fi : FI} {fe : FE} {j : Nat} {ρ : Rho} {α : Type} {xs : List α} {u f : α → D} (c : Cmp ρ j) (h1 : fi ρ = .ok (xs.map u, ρ)) (h : ∀ x ∈ xs, fe (ρ.set j (some (.dat (u x)))) = .ok (f x, ρ.set j (some (.dat (u x))))) (hl : xs.length ≤ 1000) :
    oLc fi (tName j) tYesD fe [j] ρ = .ok (xs.map f, ρ) :=
  lcm_ok h1 c.no (by rw [c.w]; exact c.r) (fun x hx => ⟨_, _, by rw [c.w]; exact c.t _, h x hx, c.no2 _, by rw [c.w2, c.w]⟩) hl
theorem lcfC {fi : FI} {ft : FT} {j : Nat} {ρ : Rho} {α : Type} {xs : List α} {u : α → D} (p : α → Bool) (c : Cmp ρ j) (h1 : fi ρ = .ok (xs.map u, ρ)) (h : ∀ x ∈ xs, ft (ρ.set j (some (.dat (u x)))) = .ok (p x, ρ.set j (some (.dat (u x))))) (hl : xs.length ≤ 1000) :
    oLc fi (tName j) ft (eV j) [j] ρ = .ok ((xs.filter p).map u, ρ) :=
  lcf_ok p h1 c.no (by rw [c.w]; exact c.r) (fun x hx => ⟨_, _, by rw [c.w]; exact c.t _, h x hx, c.no2 _, by rw [c.w2, c.w], eV_ok (c.g _)⟩) hl
theorem tmK : tm_known_Run "Run" = some F_Run_known := rfl
theorem tmH : tm_is_hidden_Run "Run" = some F_Run_is_hidden := rfl
theorem tmW : tm_without_Round_Run "Run" = some F_Run_without := rfl
theorem tmS : tm_shortened_Run "Run" = some F_Run_shortened := rfl
theorem taS : ta_sign "Run" = some (.pr F_Run_sign) := rfl
theorem taB : ta_blocks "Round" = some (.pr F_Round_blocks) := rfl
theorem titR : tit_Run "Run" = some 0 := rfl
/-- [run.known(one) for one in ..] -/
theorem knowns (n : Nat) {fi : FI} {ρ : Rho} {i : Nat} {T xs : List Int} {rs : List Bs} (c : Cmp ρ 13) (hi : 13 ≠ i) (hR : ρ[i]? = some (some (.dat (runD T rs)))) (h1 : fi ρ = .ok (xs.map D.int, ρ)) (w : ∀ bs ∈ rs, Wf T bs) (h : Th T) (hx : ∀ x ∈ xs, x ∈ T) (hl : xs.length ≤ 1000) :
    eFz (oLc fi (tName 13) tYesD (eMeth tm_known_Run n (eV i) (rCons (eV 13) rNil)) [13]) ρ = .ok (.lst ((xs.map (known rs)).map bD), ρ) := by
  have := lcmC (f := fun o => bD (known rs o)) c h1 (fe := eMeth tm_known_Run n (eV i) (rCons (eV 13) rNil)) (fun x hxm => meth1 (eV_ok (d := runD T rs) (c.o hi hR)) (eV_ok (c.g _)) tmK (known_v n w h (hx x hxm))) hl
  rw [fz_ok this, List.map_map]; rfl
/-- strange -/
theorem strange_ok (n : Nat) {fi : FI} {ρ : Rho} {T xs : List Int} {rs : List Bs} {t : Int} (c : Cmp ρ 13) (hR : ρ[3]? = some (some (.dat (runD T rs)))) (ht : ρ[4]? = some (some (.dat (.int t)))) (h1 : fi ρ = .ok (xs.map D.int, ρ)) (w : ∀ bs ∈ rs, Wf T bs) (h : Th T) (hx : ∀ x ∈ xs, x ∈ T) (hl : xs.length ≤ 1000) :
    eFz (oLc fi (tName 13) (M.tB (M.e2 inD (eV 4) (eMeth tm_known_Run n (eV 3) (rCons (eV 13) rNil)))) (eV 13) [13]) ρ = .ok (.lst ((xs.filter fun o => (known rs o).contains t).map D.int), ρ) := by
  refine fz_ok (lcfC (fun o => (known rs o).contains t) c h1 (fun x hxm => ?_) hl)
  refine tB_ok (e2_ok (eV_ok (c.o (by decide) ht)) (meth1 (eV_ok (d := runD T rs) (c.o (by decide) hR)) (eV_ok (c.g _)) tmK (known_v n w h (hx x hxm))) ?_)
  unfold inD; rw [inSq_ints]; rfl
/-- [one for one in threads if one != thread] -/
theorem others_ok {fi : FI} {ρ : Rho} {xs : List Int} {t : Int} (c : Cmp ρ 13) (ht : ρ[4]? = some (some (.dat (.int t)))) (h1 : fi ρ = .ok (xs.map D.int, ρ)) (hl : xs.length ≤ 1000) :
    eFz (oLc fi (tName 13) (M.tB (M.e2 neX (eV 13) (eV 4))) (eV 13) [13]) ρ = .ok (.lst ((xs.filter (· ≠ t)).map D.int), ρ) :=
  fz_ok (lcfC (fun x => decide (x ≠ t)) c h1 (fun x hxm => neq_li (c.g _) (c.o (by decide) ht)) hl)
theorem iIns_ok {ρ : Rho} {T : List Int} {rs : List Bs} {i : Nat} (hR : ρ[i]? = some (some (.dat (runD T rs)))) : iIns tit_Run (eV i) ρ = .ok (rs.map rD, ρ) := by
  simp only [iIns, eV_ok hR, Rz.bind, runD, titR]
  rfl
/-- [one for one in run if one.blocks[-1] != (thread,)] -/
theorem lasts_ok (n : Nat) {ρ : Rho} {T : List Int} {rs : List Bs} {t : Int} (c : Cmp ρ 13) (hR : ρ[3]? = some (some (.dat (runD T rs)))) (ht : ρ[4]? = some (some (.dat (.int t)))) (hh : hid rs t = true) (hl : rs.length ≤ 1000) :
    eFz (oLc (iIns tit_Run (eV 3)) (tName 13) (M.tB (M.e2 neX (M.e2 ixD (eAttr ta_blocks n (eV 13)) (M.e1 negD (eC (.int 1)))) (eTup (aCons (eV 4) aNil)))) (eV 13) [13]) ρ = .ok (.lst [], ρ) := by
  have := lcfC (u := rD) (xs := rs) (fun _ => false) c (iIns_ok hR) (ft := M.tB (M.e2 neX (M.e2 ixD (eAttr ta_blocks n (eV 13)) (M.e1 negD (eC (.int 1)))) (eTup (aCons (eV 4) aNil)))) (fun bs hb => by
    have hb2 := List.all_eq_true.mp hh bs hb
    have e : bs.getLast? = some [t] := eq_of_beq hb2
    refine (tB_ok (e2_ok (e2_ok (attr_pr (eV_ok (d := rD bs) (c.g _)) taB (rblocks_v n bs)) (e1_ok eC_ok rfl) (last_map bs e)) (tup1 (c.o (by decide) ht)) (neX_bD _ _))).trans ?_
    rw [beq_self_eq_true]; rfl) hl
  rw [fz_ok this]
  congr 2
  rw [List.filter_eq_nil_iff.mpr fun _ _ => Bool.false_ne_true]; rfl
section
variable (n : Nat) (p : Int × Int × Int) (T : List Int) (rs : List Bs)
/-- the state behind the drawing -/
def St (x4 x5 x6 x7 x8 x9 x10 x11 x12 : Option D) : Rho := [some (.own true (dish p)), some (.dat (bD T)), some (.dat (.tup (rs.map bsD))), some (.dat (runD T rs)), x4.map Sl.dat, x5.map Sl.dat, x6.map Sl.dat, x7.map Sl.dat, x8.map Sl.dat, x9.map Sl.dat, x10.map Sl.dat, x11.map Sl.dat, x12.map Sl.dat, none, none]
theorem St.c (x4 x5 x6 x7 x8 x9 x10 x11 x12 : Option D) : Cmp (St p T rs x4 x5 x6 x7 x8 x9 x10 x11 x12) 13 := ⟨rfl, rfl, rfl, fun _ => rfl, fun _ => rfl, fun _ => rfl, fun _ => rfl⟩
theorem St.c14 (x4 x5 x6 x7 x8 x9 x10 x11 x12 : Option D) : Cmp (St p T rs x4 x5 x6 x7 x8 x9 x10 x11 x12) 14 := ⟨rfl, rfl, rfl, fun _ => rfl, fun _ => rfl, fun _ => rfl, fun _ => rfl⟩
end
def bodyT (n : Nat) : FS := (sSeq (sSet 6 (eFz (oLc (iSeq (eV 1)) (tName 13) (M.tB (M.e2 neX (eV 13) (eV 4))) (eV 13) [13])))
  (sSeq (sSet 7 (eFz (oLc (iSeq (eV 6)) (tName 13) (M.tB (M.e2 inD (eV 4) (eMeth tm_known_Run n (eV 3) (rCons (eV 13) rNil)))) (eV 13) [13])))
  (sSeq (sIf (M.tB (M.e2 neX (eMeth tm_is_hidden_Run n (eV 3) (rCons (eV 4) rNil)) (M.e2 eqX (eV 7) (eLst aNil)))) (sRet (eC (.bl false))) sNx)
  (sIf (M.tB (M.e2 eqX (eV 7) (eLst aNil))) (sSeq (sSet 11 (eMeth tm_without_Round_Run n (eV 3) (rCons (eV 4) rNil)))
  (sSeq (sSet 12 (eFz (oLc (iSeq (eV 6)) (tName 13) tYesD (eMeth tm_known_Run n (eV 3) (rCons (eV 13) rNil)) [13])))
  (sSeq (sIf (tOrD (M.tB (M.e2 neX (eAttr ta_sign n (eV 11)) (eAttr ta_sign n (eV 3)))) (M.tB (M.e2 neX (eFz (oLc (iSeq (eV 6)) (tName 13) tYesD (eMeth tm_known_Run n (eV 11) (rCons (eV 13) rNil)) [13])) (eV 12)))) (sRet (eC (.bl false))) sNx)
  (sIf (M.tB (M.e2 neX (eFz (oLc (iIns tit_Run (eV 3)) (tName 13) (M.tB (M.e2 neX (M.e2 ixD (eAttr ta_blocks n (eV 13)) (M.e1 negD (eC (.int 1)))) (eTup (aCons (eV 4) aNil)))) (eV 13) [13])) (eLst aNil))) (sRet (eC (.bl false))) sNx)))) sNx))))
section
variable {n : Nat} {p : Int × Int × Int} {T : List Int} {rs : List Bs}
theorem tl_ne (h2 : 2 ≤ T.length) (nd : T.Nodup) {t : Int} (ht : t ∈ T) : T.filter (· ≠ t) ≠ [] := fun e => by
  have := (filter_perm nd ht).length_eq
  rw [e] at this
  simp at this; omega
theorem body_v (w : ∀ bs ∈ rs, Wf T bs) (h : Th T) (h2 : 2 ≤ T.length) (hr : rs.length ≤ 6) {t : Int} (ht : t ∈ T) (x6 x7 x11 x12 : Option D) : ∃ y6 y7 y11 y12, bodyT n (St p T rs (some (.int t)) none x6 x7 none none none x11 x12) = .ok (.nx, St p T rs (some (.int t)) none y6 y7 none none none y11 y12) := by
  have h5 := h.len
  have nd := nodup_asc h.asc
  let T' := T.filter (· ≠ t)
  let st := T'.filter fun o => (known rs o).contains t
  have sub : ∀ x ∈ T', x ∈ T := fun x hx => (List.mem_filter.mp hx).1
  have hl' : T'.length ≤ 5 := Nat.le_trans (List.length_filter_le _ _) h5
  let A6 : D := .lst (T'.map D.int)
  let A7 : D := .lst (st.map D.int)
  have b1 : sSet 6 (eFz (oLc (iSeq (eV 1)) (tName 13) (M.tB (M.e2 neX (eV 13) (eV 4))) (eV 13) [13])) (St p T rs (some (.int t)) none x6 x7 none none none x11 x12) = .ok (.nx, St p T rs (some (.int t)) none (some A6) x7 none none none x11 x12) :=
    set_ok (others_ok (St.c ..) rfl (iSeq_t (eV_ok rfl)) (by omega)) (nio x6)
  have b2 : sSet 7 (eFz (oLc (iSeq (eV 6)) (tName 13) (M.tB (M.e2 inD (eV 4) (eMeth tm_known_Run n (eV 3) (rCons (eV 13) rNil)))) (eV 13) [13])) (St p T rs (some (.int t)) none (some A6) x7 none none none x11 x12) = .ok (.nx, St p T rs (some (.int t)) none (some A6) (some A7) none none none x11 x12) :=
    set_ok (strange_ok n (St.c ..) rfl rfl (iSeq_l (eV_ok rfl)) w h sub (by omega)) (nio x7)
  have hh : hid rs t = (st == []) := by
    rw [Bool.eq_iff_iff, beq_iff_eq]
    exact hid_iff w nd ht
  let B : Rho := St p T rs (some (.int t)) none (some A6) (some A7) none none none x11 x12
  have q0 : M.e2 eqX (eV 7) (eLst aNil) B = .ok (.bl (st == []), B) := e2_ok (eV_ok (i := 7) (d := A7) rfl) (lst_ok nil_ok (by simp)) (eqX_li st [])
  have q1 : M.tB (M.e2 neX (eMeth tm_is_hidden_Run n (eV 3) (rCons (eV 4) rNil)) (M.e2 eqX (eV 7) (eLst aNil))) B = .ok (false, B) := by
    refine (tB_ok (e2_ok (meth1 (eV_ok (i := 3) (d := runD T rs) rfl) (eV_ok (i := 4) rfl) tmH (hidden_v n w h ht hr)) q0 (neX_bb _ _))).trans ?_
    rw [hh, beq_self_eq_true]; rfl
  unfold bodyT
  cases z : (st == []) with
  | false =>
    rw [z] at q0
    exact ⟨_, _, _, _, (seq_nx b1).trans ((seq_nx b2).trans ((seq_nx (if_f q1)).trans (if_f (tB_ok q0))))⟩
  | true =>
    rw [z] at q0 hh
    obtain ⟨cs, e, w', nt⟩ := hid_map w nd hh
    have hne : T' ≠ [] := tl_ne h2 nd ht
    have h' : Th T' := th_filter h hne
    have wx : ∀ c ∈ cs, Wf T (ext t c) := fun c hc => w _ (by rw [e]; exact List.mem_map_of_mem hc)
    have hrc : cs.length ≤ 6 := by rw [e, List.length_map] at hr; exact hr
    have wv := without_v n wx w' h h' ht nt hrc
    rw [← e] at wv
    let L : D := runD T' cs
    let U : D := .lst ((T'.map (known rs)).map bD)
    have c1 : sSet 11 (eMeth tm_without_Round_Run n (eV 3) (rCons (eV 4) rNil)) B = .ok (.nx, St p T rs (some (.int t)) none (some A6) (some A7) none none none (some L) x12) :=
      set_ok (meth1 (eV_ok (i := 3) (d := runD T rs) rfl) (eV_ok (i := 4) rfl) tmW wv) (nio x11)
    have c2 : sSet 12 (eFz (oLc (iSeq (eV 6)) (tName 13) tYesD (eMeth tm_known_Run n (eV 3) (rCons (eV 13) rNil)) [13])) (St p T rs (some (.int t)) none (some A6) (some A7) none none none (some L) x12) = .ok (.nx, St p T rs (some (.int t)) none (some A6) (some A7) none none none (some L) (some U)) :=
      set_ok (knowns n (St.c ..) (by decide) rfl (iSeq_l (eV_ok rfl)) w h sub (by omega)) (nio x12)
    let C : Rho := St p T rs (some (.int t)) none (some A6) (some A7) none none none (some L) (some U)
    have k0 : T'.map (known cs) = T'.map (known rs) := List.map_congr_left fun o ho => by rw [e, known_ext w' ho]
    have c3 : tOrD (M.tB (M.e2 neX (eAttr ta_sign n (eV 11)) (eAttr ta_sign n (eV 3)))) (M.tB (M.e2 neX (eFz (oLc (iSeq (eV 6)) (tName 13) tYesD (eMeth tm_known_Run n (eV 11) (rCons (eV 13) rNil)) [13])) (eV 12))) C = .ok (false, C) := by
      have s1 : M.tB (M.e2 neX (eAttr ta_sign n (eV 11)) (eAttr ta_sign n (eV 3))) C = .ok (false, C) := by
        refine (tB_ok (e2_ok (attr_pr (eV_ok (i := 11) (d := L) rfl) taS (rsign_v n T' cs)) (attr_pr (eV_ok (i := 3) (d := runD T rs) rfl) taS (rsign_v n T rs)) (neX_ii _ _))).trans ?_
        rw [show sgn rs = sgn cs by rw [e, sgn_ext], beq_self_eq_true]; rfl
      refine (or_f' s1).trans ?_
      have kk := knowns n (i := 11) (fi := iSeq (eV 6)) (St.c p T rs (some (.int t)) none (some A6) (some A7) none none none (some L) (some U)) (by decide) (T := T') (rs := cs) rfl (iSeq_l (eV_ok rfl)) w' h' (fun x hx => hx) (by omega)
      refine (tB_ok (e2_ok kk (eV_ok (i := 12) (d := U) rfl) (neX_lb _ _))).trans ?_
      rw [k0, beq_self_eq_true]; rfl
    have c4 : M.tB (M.e2 neX (eFz (oLc (iIns tit_Run (eV 3)) (tName 13) (M.tB (M.e2 neX (M.e2 ixD (eAttr ta_blocks n (eV 13)) (M.e1 negD (eC (.int 1)))) (eTup (aCons (eV 4) aNil)))) (eV 13) [13])) (eLst aNil)) C = .ok (false, C) :=
      tB_ok (e2_ok (lasts_ok n (St.c ..) rfl rfl hh (by omega)) (lst_ok nil_ok (by simp)) (neX_li [] []))
    exact ⟨_, _, _, _, (seq_nx b1).trans ((seq_nx b2).trans ((seq_nx (if_f q1)).trans ((if_t (tB_ok q0)).trans ((seq_nx c1).trans ((seq_nx c2).trans ((seq_nx (if_f c3)).trans (if_f c4)))))))⟩
end
end Lk

/-! a thread more; shorter runs -/
namespace Lk
open PySem PySem.Spec PyProof.Rows L2 M Rn
local instance tb8 : Tabs := ⟨[], []⟩
def bodyW (n : Nat) : FS := (sSeq (sSet 8 (M.e1 tupD (eB sortXD (aCons (M.e2 addD (eV 1) (eTup (aCons (eC (.int 5)) aNil))) aNil))))
  (sSeq (sSet 9 (eCall F__law_run_of n (rCons (eV 8) (rCons (M.e1 tupD (eFz (oLc (iSeq (eV 2)) (tName 14) tYesD (M.e2 addD (eV 14) (eTup (aCons (eTup (aCons (eC (.int 5)) aNil)) aNil))) [14]))) rNil))))
  (sSeq (sIf (tOrD (tNotD (tTr (eMeth tm_is_hidden_Run n (eV 9) (rCons (eC (.int 5)) rNil)))) (tOrD (M.tB (M.e2 neX (eAttr ta_sign n (eV 9)) (eAttr ta_sign n (eV 3)))) (M.tB (M.e2 (neID tq_Run n) (eMeth tm_without_Round_Run n (eV 9) (rCons (eC (.int 5)) rNil)) (eV 3))))) (sRet (eC (.bl false))) sNx)
  (sSeq (sIf (M.tB (M.e2 neX (eFz (oLc (iSeq (eV 1)) (tName 13) tYesD (eMeth tm_known_Run n (eV 9) (rCons (eV 13) rNil)) [13])) (eFz (oLc (iSeq (eV 1)) (tName 13) tYesD (eMeth tm_known_Run n (eV 3) (rCons (eV 13) rNil)) [13])))) (sRet (eC (.bl false))) sNx)
  (sIf (M.tB (M.e2 neX (eMeth tm_known_Run n (eV 9) (rCons (eC (.int 5)) rNil)) (eIf (M.tB (M.e2 neX (eV 2) (eTup aNil))) (eV 8) (eTup (aCons (eC (.int 5)) aNil))))) (sRet (eC (.bl false))) sNx)))))
section
variable {n : Nat} {p : Int × Int × Int} {T : List Int} {rs : List Bs}
theorem wide_v (w : ∀ bs ∈ rs, Wf T bs) (h : Th T) (hr : rs.length ≤ 6) (h4 : T.length < 5) (n5 : (5 : Int) ∉ T) (x4 x6 x7 x11 x12 : Option D) : ∃ y8 y9, bodyW n (St p T rs x4 none x6 x7 none none none x11 x12) = .ok (.nx, St p T rs x4 none x6 x7 y8 y9 none x11 x12) := by
  have nd := nodup_asc h.asc
  have z : (1000 : Nat) ≤ sizeLine := by decide +kernel
  have nd5 : (T ++ [(5 : Int)]).Nodup := by
    rw [List.nodup_append]
    exact ⟨nd, by simp, fun a ha b hb e => n5 (by rw [List.mem_singleton.mp hb] at e; exact e ▸ ha)⟩
  let W := srt (T ++ [5])
  have pW : (T ++ [(5 : Int)]).Perm W := (srt_perm _).symm
  have hW : Th W := by
    refine ⟨srt_asc nd5, fun t ht => ?_, fun e => ?_, ?_⟩
    · have := srt_mem.mp ht
      rcases List.mem_append.mp this with y | y
      · exact h.rng t y
      · rw [List.mem_singleton.mp y]; omega
    · have := pW.length_eq
      rw [e] at this; simp at this
    · rw [← pW.length_eq, List.length_append]; simp; omega
  have m5 : (5 : Int) ∈ W := pW.mem_iff.mp (by simp)
  have fW : W.filter (· ≠ 5) = T := by
    refine perm_sorted_eq ?_ ((hW.asc.sublist List.filter_sublist).imp fun {a b} y => Int.le_of_lt y) (h.asc.imp fun {a b} y => Int.le_of_lt y)
    have p2 := pW.symm.filter (fun x => decide (x ≠ 5))
    rw [List.filter_append] at p2
    have f1 : T.filter (fun x => decide (x ≠ 5)) = T := List.filter_eq_self.mpr fun x hx => by
      simp only [decide_eq_true_eq]
      exact fun y => n5 (y ▸ hx)
    rw [f1, show ([5] : List Int).filter (fun x => decide (x ≠ 5)) = [] by simp, List.append_nil] at p2
    exact p2
  let R5 : List Bs := rs.map (ext 5)
  have wx : ∀ c ∈ rs, Wf W (ext 5 c) := fun c hc => wf_ext (w c hc) pW
  have wR : ∀ bs ∈ R5, Wf W bs := fun bs hb => by
    obtain ⟨c, hc, rfl⟩ := List.mem_map.mp hb
    exact wx c hc
  have hR5 : R5.length ≤ 6 := by show (rs.map _).length ≤ 6; rw [List.length_map]; exact hr
  let A := St p T rs x4 none x6 x7 none none none x11 x12
  have t5 : ∀ ρ : Rho, eTup (aCons (eC (.int 5)) aNil) ρ = .ok (bD [5], ρ) := fun ρ => tup_ok (cons_ok eC_ok nil_ok) (by simp)
  have tt5 : ∀ ρ : Rho, eTup (aCons (eTup (aCons (eC (.int 5)) aNil)) aNil) ρ = .ok (bsD [[5]], ρ) := fun ρ => tup_ok (cons_ok (t5 ρ) nil_ok) (by simp)
  have ad1 : addD (bD T) (bD [5]) = some (bD (T ++ [5])) := by
    show (if (T.map D.int).length + (([5] : List Int).map D.int).length ≤ sizeLine then some (D.tup (T.map D.int ++ ([5] : List Int).map D.int)) else none) = _
    rw [if_pos (by rw [List.length_map]; simp; omega), ← List.map_append]; rfl
  have b1 : sSet 8 (M.e1 tupD (eB sortXD (aCons (M.e2 addD (eV 1) (eTup (aCons (eC (.int 5)) aNil))) aNil))) A = .ok (.nx, St p T rs x4 none x6 x7 (some (bD W)) none none x11 x12) :=
    set_ok (e1_ok (op := tupD) (eB1_ok (e2_ok (eV_ok (i := 1) (d := bD T) rfl) (t5 _) ad1) (sortX_t _)) rfl) rfl
  let A8 := St p T rs x4 none x6 x7 (some (bD W)) none none x11 x12
  have c1 : oLc (iSeq (eV 2)) (tName 14) tYesD (M.e2 addD (eV 14) (eTup (aCons (eTup (aCons (eC (.int 5)) aNil)) aNil))) [14] A8 = .ok (rs.map (fun c => bsD (ext 5 c)), A8) :=
    lcmC (u := bsD) (xs := rs) (St.c14 ..) (iSeq_t (eV_ok (i := 2) (d := .tup (rs.map bsD)) rfl)) (fun c hc => by
      have l2 := wf_len2 (w c hc)
      have ad : addD (bsD c) (bsD [[5]]) = some (bsD (ext 5 c)) := by
        show (if (c.map bD).length + (([[5]] : Bs).map bD).length ≤ sizeLine then some (D.tup (c.map bD ++ ([[5]] : Bs).map bD)) else none) = _
        rw [if_pos (by rw [List.length_map]; simp; omega), ← List.map_append]; rfl
      exact e2_ok (eV_ok ((St.c14 ..).g _)) (tt5 _) ad) (by omega)
  have er : rs.map (fun c => bsD (ext 5 c)) = R5.map bsD := by show _ = (rs.map _).map _; rw [List.map_map]; rfl
  rw [er] at c1
  have b2 : sSet 9 (eCall F__law_run_of n (rCons (eV 8) (rCons (M.e1 tupD (eFz (oLc (iSeq (eV 2)) (tName 14) tYesD (M.e2 addD (eV 14) (eTup (aCons (eTup (aCons (eC (.int 5)) aNil)) aNil))) [14]))) rNil))) A8 = .ok (.nx, St p T rs x4 none x6 x7 (some (bD W)) (some (runD W R5)) none x11 x12) :=
    set_ok (call2 (eV_ok (i := 8) (d := bD W) rfl) (e1_ok (op := tupD) (fz_ok c1) rfl) (runof_v n wR hW hR5)) rfl
  let B := St p T rs x4 none x6 x7 (some (bD W)) (some (runD W R5)) none x11 x12
  have v9 : eV 9 B = .ok (runD W R5, B) := eV_ok rfl
  have v3 : eV 3 B = .ok (runD T rs, B) := eV_ok rfl
  have hid5 : hid R5 5 = true := List.all_eq_true.mpr fun bs hb => by
    obtain ⟨c, hc, rfl⟩ := List.mem_map.mp hb
    unfold ext
    rw [List.getLast?_append]
    exact beq_self_eq_true _
  have k1 : tNotD (tTr (eMeth tm_is_hidden_Run n (eV 9) (rCons (eC (.int 5)) rNil))) B = .ok (false, B) := by
    have := not_t (meth1 v9 eC_ok tmH (hidden_v n wR hW m5 hR5))
    rw [hid5] at this
    exact this
  have k2 : M.tB (M.e2 neX (eAttr ta_sign n (eV 9)) (eAttr ta_sign n (eV 3))) B = .ok (false, B) := by
    refine (tB_ok (e2_ok (attr_pr v9 taS (rsign_v n W R5)) (attr_pr v3 taS (rsign_v n T rs)) (neX_ii _ _))).trans ?_
    rw [show sgn R5 = sgn rs from sgn_ext, beq_self_eq_true]; rfl
  have wv : Fv F_Run_without n [runD W R5, .int 5] = some (runD T rs) := by
    have := without_v n (T := W) (cs := rs) (t := 5) wx (by rw [fW]; exact w) hW (by rw [fW]; exact h) m5 (fun c hc y => n5 ((w c hc).mem.mp y)) hr
    rw [fW] at this
    exact this
  have k3 : M.tB (M.e2 (neID tq_Run n) (eMeth tm_without_Round_Run n (eV 9) (rCons (eC (.int 5)) rNil)) (eV 3)) B = .ok (false, B) :=
    tB_ok (e2_ok (meth1 v9 eC_ok tmW wv) v3 (ne_same n T rs))
  have kk9 := knowns n (i := 9) (fi := iSeq (eV 1)) (xs := T) (St.c p T rs x4 none x6 x7 (some (bD W)) (some (runD W R5)) none x11 x12) (by decide) (T := W) (rs := R5) rfl (iSeq_t (eV_ok rfl)) wR hW (fun x hx => pW.mem_iff.mp (List.mem_append_left _ hx)) (by omega)
  have kk3 := knowns n (i := 3) (fi := iSeq (eV 1)) (xs := T) (St.c p T rs x4 none x6 x7 (some (bD W)) (some (runD W R5)) none x11 x12) (by decide) (T := T) (rs := rs) rfl (iSeq_t (eV_ok rfl)) w h (fun x hx => hx) (by omega)
  have k4 : M.tB (M.e2 neX (eFz (oLc (iSeq (eV 1)) (tName 13) tYesD (eMeth tm_known_Run n (eV 9) (rCons (eV 13) rNil)) [13])) (eFz (oLc (iSeq (eV 1)) (tName 13) tYesD (eMeth tm_known_Run n (eV 3) (rCons (eV 13) rNil)) [13]))) B = .ok (false, B) := by
    refine (tB_ok (e2_ok kk9 kk3 (neX_lb _ _))).trans ?_
    have : T.map (known R5) = T.map (known rs) := List.map_congr_left fun o ho => known_ext w ho
    rw [this, beq_self_eq_true]; rfl
  have k5 : M.tB (M.e2 neX (eMeth tm_known_Run n (eV 9) (rCons (eC (.int 5)) rNil)) (eIf (M.tB (M.e2 neX (eV 2) (eTup aNil))) (eV 8) (eTup (aCons (eC (.int 5)) aNil)))) B = .ok (false, B) := by
    have kn := meth1 v9 (eC_ok (d := .int 5)) tmK (known_v n wR hW m5)
    have nx : neX (.tup (rs.map bsD)) (.tup []) = some (.bl (!(rs == []))) := neX_of (dq_tup dq_bsD rs []) (by
      simp only [dep]
      have := dep_map dep_bsD rs
      omega) (by simp [knd])
    have tq := tB_ok (e2_ok (eV_ok (i := 2) (ρ := B) (d := .tup (rs.map bsD)) rfl) (tup_ok nil_ok (by simp)) nx)
    cases rs with
    | nil =>
      rw [show (!(([] : List Bs) == [])) = false from rfl] at tq
      have e8 : eIf (M.tB (M.e2 neX (eV 2) (eTup aNil))) (eV 8) (eTup (aCons (eC (.int 5)) aNil)) B = .ok (bD [5], B) := by
        rw [if_ok tq, if_neg Bool.false_ne_true]
        exact t5 _
      exact tB_ok (e2_ok kn e8 (neX_bD _ _))
    | cons c cs =>
      have ek : known R5 5 = W := known_last hW.asc w pW n5 (by simp)
      rw [show (!(c :: cs == [])) = true from rfl] at tq
      have e8 : eIf (M.tB (M.e2 neX (eV 2) (eTup aNil))) (eV 8) (eTup (aCons (eC (.int 5)) aNil)) B = .ok (bD W, B) := by
        rw [if_ok tq, if_pos rfl]
        exact eV_ok rfl
      refine (tB_ok (e2_ok kn e8 (neX_bD _ _))).trans ?_
      rw [ek, beq_self_eq_true]; rfl
  refine ⟨some (bD W), some (runD W R5), ?_⟩
  unfold bodyW
  exact (seq_nx b1).trans ((seq_nx b2).trans ((seq_nx (if_f ((or_f' k1).trans ((or_f' k2).trans k3)))).trans ((seq_nx (if_f k4)).trans (if_f k5))))
def bodyS (n : Nat) : FS := sIf (M.tB (M.e2 neX (eFz (oLc (iSeq (eMeth tm_known_Run n (eV 10) (rCons (eV 4) rNil))) (tName 13) (M.tB (M.e2 notInD (eV 13) (eMeth tm_known_Run n (eMeth tm_shortened_Run n (eV 3) (rCons (M.e2 addD (eV 5) (eC (.int 1))) rNil)) (rCons (eV 4) rNil)))) (eV 13) [13])) (eLst aNil))) (sRet (eC (.bl false))) sNx
theorem short_t (w : ∀ bs ∈ rs, Wf T bs) (h : Th T) (hr : rs.length ≤ 6) {t : Int} (ht : t ∈ T) {c : Nat} (hc : c < rs.length) (x6 x7 x8 x9 x11 x12 : Option D) :
    bodyS n (St p T rs (some (.int t)) (some (.int (c : Nat))) x6 x7 x8 x9 (some (runD T (rs.take c))) x11 x12) = .ok (.nx, St p T rs (some (.int t)) (some (.int (c : Nat))) x6 x7 x8 x9 (some (runD T (rs.take c))) x11 x12) := by
  have h5 := h.len
  let A := St p T rs (some (.int t)) (some (.int (c : Nat))) x6 x7 x8 x9 (some (runD T (rs.take c))) x11 x12
  have wt : ∀ j, ∀ bs ∈ rs.take j, Wf T bs := fun j bs hb => w bs (List.mem_of_mem_take hb)
  have kn : eMeth tm_known_Run n (eV 10) (rCons (eV 4) rNil) A = .ok (bD (known (rs.take c) t), A) := meth1 (eV_ok (i := 10) (d := runD T (rs.take c)) rfl) (eV_ok (i := 4) rfl) tmK (known_v n (wt c) h ht)
  have cA := St.c p T rs (some (.int t)) (some (.int (c : Nat))) x6 x7 x8 x9 (some (runD T (rs.take c))) x11 x12
  have lc := lcfC (u := D.int) (xs := known (rs.take c) t) (fun k => !(known (rs.take (c + 1)) t).contains k) cA (iSeq_t kn) (ft := M.tB (M.e2 notInD (eV 13) (eMeth tm_known_Run n (eMeth tm_shortened_Run n (eV 3) (rCons (M.e2 addD (eV 5) (eC (.int 1))) rNil)) (rCons (eV 4) rNil)))) (fun k hk => by
    have ea : addD (.int (c : Nat)) (.int 1) = some (.int ((c + 1 : Nat) : Int)) := by
      show some (D.int _) = _
      congr 2
    have sh := meth1 (tb := tm_shortened_Run) (n := n) (fo := eV 3) (fa := M.e2 addD (eV 5) (eC (.int 1))) (eV_ok (i := 3) (d := runD T rs) (cA.o (d := .int k) (by decide) rfl)) (e2_ok (eV_ok (i := 5) (d := .int (c : Nat)) (cA.o (by decide) rfl)) eC_ok ea) tmS (short_v n w h hr (c := c + 1) (by omega))
    have kk := meth1 (tb := tm_known_Run) (n := n) sh (eV_ok (i := 4) (cA.o (by decide) rfl)) tmK (known_v n (wt (c + 1)) h ht)
    refine tB_ok (e2_ok (eV_ok (cA.g _)) kk ?_)
    unfold notInD; rw [inSq_ints]; rfl) (by have := known_len (wt c) ht; omega)
  have e0 : (known (rs.take c) t).filter (fun k => !(known (rs.take (c + 1)) t).contains k) = [] := List.filter_eq_nil_iff.mpr fun k hk => by
    have := known_take w ht c hk
    simpa using this
  rw [e0] at lc
  exact if_f (tB_ok (e2_ok (fz_ok lc) (lst_ok nil_ok (by simp)) (neX_li [] [])))
end
end Lk

/-! the law -/
namespace Lk
open PySem PySem.Spec PyProof.Rows L2 M Rn
local instance tb9 : Tabs := ⟨[], []⟩
theorem right_ex (n : Nat) (p : Int × Int × Int) : ∃ (q : Int × Int × Int), F__law_right (n + 10) [.own true (dish p)] = some (.dat (.bl true), [.own true (dish q)]) := by
  let ρ0 : Rho := [some (.own true (dish p)), none, none, none, none, none, none, none, none, none, none, none, none, none, none]
  let items : List Int := [0, 1, 2, 3, 6, 9]
  -- the threads
  obtain ⟨r, p1, hr, c1⟩ := spoon_call2 (n + 10) 0 ρ0 ρ0 true true p (dish p) (eC (.int 4)) 4 rfl rfl eC_ok (by omega) (by omega)
  let ρ1 : Rho := [some (.own true (dish p1)), none, none, none, none, none, none, none, none, none, none, none, none, none, none]
  have c1' : eCall F__law_spoon (n + 10) (rOwn 0 (rCons (eC (.int 4)) rNil)) ρ0 = .ok (.int r, ρ1) := c1
  have ea : addD (.int 2) (.int (r : Nat)) = some (.int ((2 + r : Nat) : Int)) := by
    show some (D.int _) = _
    congr 2
  have c2 := e2_ok (eC_ok (d := .int 2)) c1' ea
  have cl : eLst (aCons (eC (.int 0)) (aCons (eC (.int 1)) (aCons (eC (.int 2)) (aCons (eC (.int 3)) (aCons (eC (.int 6)) (aCons (eC (.int 9)) aNil)))))) ρ0 = .ok (.lst (items.map D.int), ρ0) := lst_ok (cons_ok eC_ok (cons_ok eC_ok (cons_ok eC_ok (cons_ok eC_ok (cons_ok eC_ok (cons_ok eC_ok nil_ok)))))) (show 6 ≤ 1000 by decide)
  obtain ⟨p2, left, fs, as2, hp, hl, e2'⟩ := some_ex (n + 10) p1 (.lst (items.map D.int)) items (2 + r) (.inr rfl) (show 2 + r ≤ 6 by omega) (by decide)
  have nd0 : items.Nodup := by decide
  have ndlf : (left ++ fs).Nodup := hp.nodup_iff.mpr nd0
  have ndf : fs.Nodup := (List.nodup_append.mp ndlf).2.1
  have sub : ∀ x ∈ fs, x ∈ items := fun x hx => hp.mem_iff.mp (List.mem_append_right _ hx)
  let T := srt fs
  have lT : T.length = 2 + r := by rw [(srt_perm fs).length_eq, hl]
  have mT : ∀ t ∈ T, t ∈ items := fun t ht => sub t (srt_mem.mp ht)
  have hT : Th T := ⟨srt_asc ndf, fun t ht => by
    have := mT t ht
    simp only [items, List.mem_cons, List.not_mem_nil, or_false] at this
    omega, fun e => by rw [e] at lT; simp at lT; omega, by omega⟩
  have n5 : (5 : Int) ∉ T := fun z => by
    have := mT 5 z
    simp [items] at this
  let ρ2 : Rho := [some (.own true (dish p2)), none, none, none, none, none, none, none, none, none, none, none, none, none, none]
  have c3 : eCall F__law_some_of (n + 10) (rOwn 0 (rCons (eLst (aCons (eC (.int 0)) (aCons (eC (.int 1)) (aCons (eC (.int 2)) (aCons (eC (.int 3)) (aCons (eC (.int 6)) (aCons (eC (.int 9)) aNil))))))) (rCons (M.e2 addD (eC (.int 2)) (eCall F__law_spoon (n + 10) (rOwn 0 (rCons (eC (.int 4)) rNil)))) rNil))) ρ0 = .ok (.lst (fs.map D.int), ρ2) := by
    refine call_o2 (ds := [.lst (items.map D.int), .int ((2 + r : Nat) : Int)]) (ρ := ρ1) (j := 0) (io := true) (es := dish p1) rfl ?_ e2'
    simp only [rOwn, rCons, rNil, show ownL ρ0 0 = some (true, dish p) from rfl, cl, c2, Rz.bind]
    rfl
  let ρ3 : Rho := [some (.own true (dish p2)), some (.dat (bD T)), none, none, none, none, none, none, none, none, none, none, none, none, none]
  have s1 : sSet 1 (M.e1 tupD (eB sortXD (aCons (eCall F__law_some_of (n + 10) (rOwn 0 (rCons (eLst (aCons (eC (.int 0)) (aCons (eC (.int 1)) (aCons (eC (.int 2)) (aCons (eC (.int 3)) (aCons (eC (.int 6)) (aCons (eC (.int 9)) aNil))))))) (rCons (M.e2 addD (eC (.int 2)) (eCall F__law_spoon (n + 10) (rOwn 0 (rCons (eC (.int 4)) rNil)))) rNil)))) aNil))) ρ0 = .ok (.nx, ρ3) :=
    set_ok (e1_ok (op := tupD) (d := bD T) (eB1_ok c3 (sortX_l fs)) rfl) rfl
  -- the rows
  obtain ⟨cnt, p3, hcnt, c4⟩ := spoon_call2 (n + 10) 0 ρ3 ρ3 true true p2 (dish p2) (eC (.int 6)) 6 rfl rfl eC_ok (by omega) (by omega)
  let ρ4 : Rho := [some (.own true (dish p3)), some (.dat (bD T)), none, none, none, none, none, none, none, none, none, none, none, none, none]
  have c4' : eCall F__law_spoon (n + 10) (rOwn 0 (rCons (eC (.int 6)) rNil)) ρ3 = .ok (.int cnt, ρ4) := c4
  obtain ⟨p4, rs, as4, w, hrs, e4⟩ := rows_ex n p3 hT cnt (by omega)
  let ρ5 : Rho := [some (.own true (dish p4)), some (.dat (bD T)), none, none, none, none, none, none, none, none, none, none, none, none, none]
  have c5 : eCall F__law_rows_drawn (n + 10) (rOwn 0 (rCons (eV 1) (rCons (eCall F__law_spoon (n + 10) (rOwn 0 (rCons (eC (.int 6)) rNil))) rNil))) ρ3 = .ok (.tup (rs.map bsD), ρ5) := by
    refine call_o2 (ds := [bD T, .int (cnt : Nat)]) (ρ := ρ4) (j := 0) (io := true) (es := dish p3) rfl ?_ e4
    simp only [rOwn, rCons, rNil, show ownL ρ3 0 = some (true, dish p2) from rfl, show eV 1 ρ3 = .ok (bD T, ρ3) from rfl, c4', Rz.bind]
    rfl
  let ρ6 : Rho := [some (.own true (dish p4)), some (.dat (bD T)), some (.dat (.tup (rs.map bsD))), none, none, none, none, none, none, none, none, none, none, none, none]
  have s2 : sSet 2 (eCall F__law_rows_drawn (n + 10) (rOwn 0 (rCons (eV 1) (rCons (eCall F__law_spoon (n + 10) (rOwn 0 (rCons (eC (.int 6)) rNil))) rNil)))) ρ3 = .ok (.nx, ρ6) := set_ok c5 rfl
  have hr6 : rs.length ≤ 6 := by omega
  have s3 : sSet 3 (eCall F__law_run_of (n + 10) (rCons (eV 1) (rCons (eV 2) rNil))) ρ6 = .ok (.nx, St p4 T rs none none none none none none none none none) := set_ok (call2 (eV_ok (i := 1) rfl) (eV_ok (i := 2) rfl) (runof_v (n + 10) w hT hr6)) rfl
  -- thread by thread
  let J : Unit → Rho → Prop := fun _ ρ => ∃ x4 x6 x7 x11 x12, ρ = St p4 T rs x4 none x6 x7 none none none x11 x12
  obtain ⟨ρ', e7, x4, x6, x7, x11, x12, rfl⟩ := forL_mp (tg := tName 4) (body := bodyT (n + 10)) D.int J (fun _ _ => ()) T (fun t ht _ ρ ⟨x4, x6, x7, x11, x12, e⟩ => by
    subst e
    obtain ⟨y6, y7, y11, y12, eb⟩ := body_v (n := n + 10) (p := p4) w hT (by omega) hr6 ht x6 x7 x11 x12
    refine ⟨St p4 T rs (some (.int t)) none x6 x7 none none none x11 x12, _, ?_, eb, some (.int t), y6, y7, y11, y12, rfl⟩
    cases x4 <;> rfl) () _ ⟨none, none, none, none, none, rfl⟩
  have s4 : sFor (iSeq (eV 1)) (tName 4) (bodyT (n + 10)) (St p4 T rs none none none none none none none none none) = .ok (.nx, St p4 T rs x4 none x6 x7 none none none x11 x12) := by
    have v : iSeq (eV 1) (St p4 T rs none none none none none none none none none) = .ok (T.map D.int, St p4 T rs none none none none none none none none none) := iSeq_t (eV_ok (i := 1) rfl)
    simp only [sFor, v, Rz.bind]
    exact e7
  -- a thread more
  have s5 : ∃ y8 y9, sIf (M.tB (M.e2 ltD (eB lenD (aCons (eV 1) aNil)) (eC (.int 5)))) (bodyW (n + 10)) sNx (St p4 T rs x4 none x6 x7 none none none x11 x12) = .ok (.nx, St p4 T rs x4 none x6 x7 y8 y9 none x11 x12) := by
    have lt : ltD (.int (T.length : Nat)) (.int 5) = some (.bl (decide ((T.length : Int) < 5))) := by simp only [ltD, iLt_eq]
    have t := tB_ok (e2_ok (eB1_ok (eV_ok (i := 1) (ρ := St p4 T rs x4 none x6 x7 none none none x11 x12) (d := bD T) rfl) lenb) (eC_ok (d := .int 5)) lt)
    cases z : decide ((T.length : Int) < 5) with
    | false => rw [z] at t; exact ⟨none, none, if_f t⟩
    | true =>
      rw [z] at t
      have := of_decide_eq_true z
      obtain ⟨y8, y9, e⟩ := wide_v (n := n + 10) (p := p4) w hT hr6 (by omega) n5 x4 x6 x7 x11 x12
      exact ⟨y8, y9, (if_t t).trans e⟩
  obtain ⟨y8, y9, s5⟩ := s5
  -- shorter
  let BS : FS := sSeq (sSet 10 (eMeth tm_shortened_Run (n + 10) (eV 3) (rCons (eV 5) rNil))) (sFor (iSeq (eV 1)) (tName 4) (bodyS (n + 10)))
  let R : Nat → Rho → Prop := fun _ ρ => ∃ x4 x5 x10, ρ = St p4 T rs x4 x5 x6 x7 y8 y9 x10 x11 x12
  obtain ⟨ρe, e8, z4, z5, z10, rfl⟩ := forL_rg (tg := tName 5) (body := BS) R 0 rs.length (fun c hc ρ ⟨a4, a5, a10, e⟩ => by
    subst e
    let A := St p4 T rs a4 (some (.int (c : Nat))) x6 x7 y8 y9 a10 x11 x12
    have t1 : sSet 10 (eMeth tm_shortened_Run (n + 10) (eV 3) (rCons (eV 5) rNil)) A = .ok (.nx, St p4 T rs a4 (some (.int (c : Nat))) x6 x7 y8 y9 (some (runD T (rs.take c))) x11 x12) :=
      set_ok (meth1 (eV_ok (i := 3) (d := runD T rs) rfl) (eV_ok (i := 5) rfl) tmS (short_v (n + 10) w hT hr6 (by omega))) (nio a10)
    let Ji : Unit → Rho → Prop := fun _ ρ => ∃ x4, ρ = St p4 T rs x4 (some (.int (c : Nat))) x6 x7 y8 y9 (some (runD T (rs.take c))) x11 x12
    obtain ⟨ρi, ei, b4, rfl⟩ := forL_mp (tg := tName 4) (body := bodyS (n + 10)) D.int Ji (fun _ _ => ()) T (fun t ht _ ρ ⟨b4, e⟩ => by
      subst e
      refine ⟨St p4 T rs (some (.int t)) (some (.int (c : Nat))) x6 x7 y8 y9 (some (runD T (rs.take c))) x11 x12, _, ?_, short_t (n := n + 10) (p := p4) w hT hr6 ht hc x6 x7 y8 y9 x11 x12, some (.int t), rfl⟩
      cases b4 <;> rfl) () _ ⟨a4, rfl⟩
    have tn : tName 5 (.int (0 + (c : Nat))) (St p4 T rs a4 a5 x6 x7 y8 y9 a10 x11 x12) = some A := by rw [Int.zero_add]; cases a5 <;> rfl
    have t2 : sFor (iSeq (eV 1)) (tName 4) (bodyS (n + 10)) (St p4 T rs a4 (some (.int (c : Nat))) x6 x7 y8 y9 (some (runD T (rs.take c))) x11 x12) = .ok (.nx, St p4 T rs b4 (some (.int (c : Nat))) x6 x7 y8 y9 (some (runD T (rs.take c))) x11 x12) := by
      have v : iSeq (eV 1) (St p4 T rs a4 (some (.int (c : Nat))) x6 x7 y8 y9 (some (runD T (rs.take c))) x11 x12) = .ok (T.map D.int, St p4 T rs a4 (some (.int (c : Nat))) x6 x7 y8 y9 (some (runD T (rs.take c))) x11 x12) := iSeq_t (eV_ok (i := 1) rfl)
      simp only [sFor, v, Rz.bind]
      exact ei
    exact ⟨A, St p4 T rs b4 (some (.int (c : Nat))) x6 x7 y8 y9 (some (runD T (rs.take c))) x11 x12, tn, (seq_nx t1).trans t2, b4, some (.int (c : Nat)), some (runD T (rs.take c)), rfl⟩) (St p4 T rs x4 none x6 x7 y8 y9 none x11 x12) ⟨x4, none, none, rfl⟩
  have s6 : sFor (iRg rg1 (aCons (eB lenD (aCons (eV 2) aNil)) aNil)) (tName 5) BS (St p4 T rs x4 none x6 x7 y8 y9 none x11 x12) = .ok (.nx, St p4 T rs z4 z5 x6 x7 y8 y9 z10 x11 x12) := by
    have hl2 : lenD [.tup (rs.map bsD)] = some (.int (rs.length : Nat)) := by show some (D.int ((rs.map bsD).length : Nat)) = _; rw [List.length_map]
    have v : aCons (eB lenD (aCons (eV 2) aNil)) aNil (St p4 T rs x4 none x6 x7 y8 y9 none x11 x12) = .ok ([.int (rs.length : Nat)], St p4 T rs x4 none x6 x7 y8 y9 none x11 x12) := cons_ok (eB1_ok (eV_ok (i := 2) (d := .tup (rs.map bsD)) rfl) hl2) nil_ok
    have hr : small62 (rs.length : Nat) = true := small62_le (by omega) (by omega)
    simp only [sFor, iRg, v, Rz.bind, rg1, hr, if_true, Int.toNat_natCast]
    exact e8
  refine ⟨p4, (runB_rt (s := .dat (.bl true)) (ρ := St p4 T rs z4 z5 x6 x7 y8 y9 z10 x11 x12) rfl ?_).trans rfl⟩
  show g__law_right (n + 10) ρ0 = _
  unfold g__law_right
  exact (seq_nx s1).trans ((seq_nx s2).trans ((seq_nx s3).trans ((seq_nx s4).trans ((seq_nx s5).trans ((seq_nx s6).trans (ret_ok eC_ok))))))
theorem plain_law : ∀ ns : List Int, ns.length ≤ 63 → (∀ z ∈ ns, Builtin.Int.intBits z ≤ 1048576) → ∃ m as', F_law m [.dat (.scr ns)] = some (.dat (.bl true), as') := by
  intro ns _ _
  let S : Option D → Option Sl → Option D → Rho := fun x1 x2 x3 => [some (.dat (.scr ns)), x1.map Sl.dat, x2, x3.map Sl.dat]
  let turn : FS := sIf (tNotD (tTr (eCall F__law_right 10 (rOwn 2 rNil)))) (sRet (eC (.bl false))) sNx
  have tstep : ∀ (x1 x3 : Option D) (p : Int × Int × Int), ∃ q, turn (S x1 (some (.own false (dish p))) x3) = .ok (.nx, S x1 (some (.own false (dish q))) x3) := by
    intro x1 x3 p
    obtain ⟨q, e⟩ := right_ex 0 p
    have c : eCall F__law_right 10 (rOwn 2 rNil) (S x1 (some (.own false (dish p))) x3) = .ok (.bl true, S x1 (some (.own false (dish q))) x3) := by
      have := call_o2 (F := F__law_right) (n := 10) (j := 2) (fr := rOwn 2 rNil) (ρ0 := S x1 (some (.own false (dish p))) x3) (ρ := S x1 (some (.own false (dish p))) x3) (ds := []) (io := false) (es := dish p) (as' := []) rfl rfl e
      exact this
    exact ⟨q, if_f (not_t c)⟩
  let N : Nat := max 1 (min 5 ns.length)
  let body : FS := sSeq (sOwn 2 (oCall F__law_dish 10 (rCons (eV 0) (rCons (eV 1) rNil)))) (sFor (iRg rg1 (aCons (eC (.int 4)) aNil)) (tName 3) turn)
  let R : Nat → Rho → Prop := fun _ ρ => ∃ x1 x2 x3, ρ = S x1 x2 x3 ∧ isIo ρ 2 = false
  obtain ⟨ρ', e, y1, y2, y3, rfl, _⟩ := forL_rg (tg := tName 1) (body := body) R 0 N (fun k hk ρ ⟨x1, x2, x3, e, i2⟩ => by
    subst e
    obtain ⟨x, y, ed⟩ := dish_eq 10 ns k
    have d1 : oCall F__law_dish 10 (rCons (eV 0) (rCons (eV 1) rNil)) (S (some (.int (k : Nat))) x2 x3) = .ok ([.int x, .int y, .int 0], S (some (.int (k : Nat))) x2 x3) := call_do (ds := [.scr ns, .int (k : Nat)]) rfl ed
    have i2' : isIo (S (some (.int (k : Nat))) x2 x3) 2 = false := i2
    have s1 : sOwn 2 (oCall F__law_dish 10 (rCons (eV 0) (rCons (eV 1) rNil))) (S (some (.int (k : Nat))) x2 x3) = .ok (.nx, S (some (.int (k : Nat))) (some (.own false (dish (x, y, 0)))) x3) := by
      simp only [sOwn, d1, Rz.bind]
      rw [i2']
      rfl
    let Ri : Nat → Rho → Prop := fun _ ρ => ∃ p x3, ρ = S (some (.int (k : Nat))) (some (.own false (dish p))) x3
    obtain ⟨ρi, ei, p, z3, rfl⟩ := forL_rg (tg := tName 3) (body := turn) Ri 0 4 (fun j hj ρ ⟨p, x3, e⟩ => by
      subst e
      obtain ⟨q, et⟩ := tstep (some (.int (k : Nat))) (some (.int (j : Nat))) p
      refine ⟨S (some (.int (k : Nat))) (some (.own false (dish p))) (some (.int (j : Nat))), _, ?_, et, q, _, rfl⟩
      rw [Int.zero_add]; cases x3 <;> rfl) (S (some (.int (k : Nat))) (some (.own false (dish (x, y, 0)))) x3) ⟨(x, y, 0), x3, rfl⟩
    have s2 : sFor (iRg rg1 (aCons (eC (.int 4)) aNil)) (tName 3) turn (S (some (.int (k : Nat))) (some (.own false (dish (x, y, 0)))) x3) = .ok (.nx, S (some (.int (k : Nat))) (some (.own false (dish p))) z3) := by
      have v : aCons (eC (.int 4)) aNil (S (some (.int (k : Nat))) (some (.own false (dish (x, y, 0)))) x3) = .ok ([.int 4], S (some (.int (k : Nat))) (some (.own false (dish (x, y, 0)))) x3) := rfl
      have hr : small62 4 = true := by decide
      simp only [sFor, iRg, v, Rz.bind, rg1, hr, if_true]
      exact ei
    refine ⟨S (some (.int (k : Nat))) x2 x3, _, ?_, (seq_nx s1).trans s2, _, _, _, rfl, rfl⟩
    rw [Int.zero_add]; cases x1 <;> rfl) (S none none none) ⟨none, none, none, rfl, rfl⟩
  refine ⟨10, _, runB_rt (s := .dat (.bl true)) (ρ := S y1 y2 y3) rfl ?_⟩
  show g_law 10 (S none none none) = _
  unfold g_law
  have mn : minD [.int 5, .int (ns.length : Nat)] = some (.int ((min 5 ns.length : Nat) : Int)) := by
    simp only [minD, iLt_eq]
    congr 2
    by_cases z : ((ns.length : Nat) : Int) < 5
    · simp only [z, decide_true, if_true]; omega
    · simp only [z, decide_false, Bool.false_eq_true, if_false]; omega
  have mx : maxD [.int 1, .int ((min 5 ns.length : Nat) : Int)] = some (.int (N : Nat)) := by
    show some (D.int (if ((min 5 ns.length : Nat) : Int) > 1 then ((min 5 ns.length : Nat) : Int) else 1)) = _
    congr 2
    show _ = ((max 1 (min 5 ns.length) : Nat) : Int)
    split <;> omega
  have v : aCons (eB maxD (aCons (eC (.int 1)) (aCons (eB minD (aCons (eC (.int 5)) (aCons (eB lenD (aCons (eV 0) aNil)) aNil))) aNil))) aNil (S none none none) = .ok ([.int (N : Nat)], S none none none) :=
    cons_ok (eB2_ok eC_ok (eB2_ok eC_ok (eB1_ok (eV_ok (i := 0) rfl) rfl) mn) mx) nil_ok
  have hr : small62 (N : Nat) = true := small62_le (by omega) (by show ((max 1 (min 5 ns.length) : Nat) : Int) ≤ 1000; omega)
  refine (seq_nx (ρ1 := S y1 y2 y3) ?_).trans (ret_ok eC_ok)
  simp only [sFor, iRg, v, Rz.bind, rg1, hr, if_true, Int.toNat_natCast]
  exact e
theorem law_k08 : PySem.Challenge.rw_fewnames_k08_whole_hidden_threads.Holds := law_holds plain_law
end Lk
theorem PySem.Challenge.cw_fewnames_k08_whole_hidden_threads_holds : PySem.Challenge.rw_fewnames_k08_whole_hidden_threads.Holds :=
  Lk.law_k08

