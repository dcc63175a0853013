import PyProof.Rows.All
import Wide.All
import OpenK.AllK
import Wide.FinOn
import HandS.ForMost
import HandS.Wide
import HandS.IsInst
import HandS.Conv
import HandS.Exc
import HandS.WordsExc
import HandS.TupAny
import HandS.Style
import KE.SortData
import HandS.SetFor
import HandS.Strs
import HandS.SortInts
import HandS.Rev
import HandS.AnyAll
import HandS.GenOver
import HandS.Iter
import HandS.IterVal
import PyProof.CodeObjX
import KE.KDictIter
import HandS.HeadHook4
import HandS.HeadWalk
import HandS.Head2
import HandS.RaiseMore
import PyProof.Rows.NestShow
import PySem.Challenge.RW_fewnames_k35_binomials_told
import PyProof.P3Eq
import PyProof.ReprBulk
import PyProof.Rows.ReprShort
set_option Elab.async false
set_option linter.all false
set_option maxRecDepth 100000
set_option maxHeartbeats 0
/-! A layer of values as data: what an expression, a statement, a def computes, as plain functions over trees. -/
namespace M
open PySem PySem.Spec PyProof.Rows L2
/-- the tables of code objects that stand -/
class Tabs where
  T : List Addr

/-! ### data -/
inductive D where
  | non | bl (b : Bool) | int (i : Int) | str (x : Str) | tup (xs : List D) | lst (xs : List D) | scr (ns : List Int) | con (v : V)

mutual
def Rep (K : PySem.W.Frag) (G : Hp) : D → V → Prop
  | .non, v => v = .non
  | .bl b, v => v = .bl b
  | .int i, v => v = .int i
  | .str x, v => v = .str x
  | .con u, v => v = u
  | .tup ds, v => ∃ a vs, v = .ref a ∧ SqT K G a vs ∧ Reps K G ds vs
  | .lst ds, v => ∃ a vs, v = .ref a ∧ G a = some (.lst vs) ∧ Reps K G ds vs
  | .scr ns, v => ∃ a, v = .ref a ∧ SqL K G a (ns.map V.int)
def Reps (K : PySem.W.Frag) (G : Hp) : List D → List V → Prop
  | [], vs => vs = []
  | d :: ds, vs => ∃ v r, vs = v :: r ∧ Rep K G d v ∧ Reps K G ds r
end

theorem Rd.mono {H H' : Hp} {a : Addr} {u : HO} (s : Same H H') (h : Rd H a u) : Rd H' a u := by
  rcases h with h | ⟨o, h⟩
  · exact .inl (s _ _ h)
  · exact .inr ⟨o, s _ _ h⟩
theorem SqL.mono {K : PySem.W.Frag} {H H' : Hp} {a : Addr} {xs : List V} (s : Same H H') (h : SqL K H a xs) : SqL K H' a xs := h.imp (Rd.mono s) id
theorem SqT.mono {K : PySem.W.Frag} {H H' : Hp} {a : Addr} {xs : List V} (s : Same H H') (h : SqT K H a xs) : SqT K H' a xs := h.imp (Rd.mono s) id
mutual
theorem Rep.mono {K : PySem.W.Frag} {G G' : Hp} (s : Same G G') : ∀ (d : D) (v : V), Rep K G d v → Rep K G' d v
  | .non, v, h => by simpa only [Rep] using h
  | .bl b, v, h => by simpa only [Rep] using h
  | .int i, v, h => by simpa only [Rep] using h
  | .str x, v, h => by simpa only [Rep] using h
  | .con u, v, h => by simpa only [Rep] using h
  | .tup ds, v, h => by
    simp only [Rep] at h ⊢
    obtain ⟨a, vs, e, q, r⟩ := h
    exact ⟨a, vs, e, SqT.mono s q, Reps.mono s ds vs r⟩
  | .lst ds, v, h => by
    simp only [Rep] at h ⊢
    obtain ⟨a, vs, e, q, r⟩ := h
    exact ⟨a, vs, e, s _ _ q, Reps.mono s ds vs r⟩
  | .scr ns, v, h => by
    simp only [Rep] at h ⊢
    obtain ⟨a, e, q⟩ := h
    exact ⟨a, e, SqL.mono s q⟩
theorem Reps.mono {K : PySem.W.Frag} {G G' : Hp} (s : Same G G') : ∀ (ds : List D) (vs : List V), Reps K G ds vs → Reps K G' ds vs
  | [], vs, h => by simpa only [Reps] using h
  | d :: ds, vs, h => by
    simp only [Reps] at h ⊢
    obtain ⟨v, r, e, h1, h2⟩ := h
    exact ⟨v, r, e, Rep.mono s d v h1, Reps.mono s ds r h2⟩
end
theorem Reps.length {K : PySem.W.Frag} {G : Hp} : ∀ {ds : List D} {vs : List V}, Reps K G ds vs → vs.length = ds.length
  | [], vs, h => by simp only [Reps] at h; subst h; rfl
  | d :: ds, vs, h => by
    simp only [Reps] at h
    obtain ⟨v, r, rfl, _, h2⟩ := h
    rw [List.length_cons, List.length_cons, Reps.length h2]
theorem Reps.nil {K : PySem.W.Frag} {G : Hp} : Reps K G [] [] := by simp only [Reps]
theorem Reps.cons {K : PySem.W.Frag} {G : Hp} {d : D} {v : V} {ds : List D} {vs : List V} (h : Rep K G d v) (t : Reps K G ds vs) : Reps K G (d :: ds) (v :: vs) := by
  simp only [Reps]; exact ⟨v, vs, rfl, h, t⟩
theorem Reps.append {K : PySem.W.Frag} {G : Hp} : ∀ {ds es : List D} {vs us : List V}, Reps K G ds vs → Reps K G es us → Reps K G (ds ++ es) (vs ++ us)
  | [], es, vs, us, h, t => by simp only [Reps] at h; subst h; exact t
  | d :: ds, es, vs, us, h, t => by
    simp only [Reps] at h
    obtain ⟨v, r, rfl, h1, h2⟩ := h
    exact Reps.cons h1 (Reps.append h2 t)
theorem Reps.get {K : PySem.W.Frag} {G : Hp} : ∀ {ds : List D} {vs : List V} {i : Nat} {d : D}, Reps K G ds vs → ds[i]? = some d → ∃ v, vs[i]? = some v ∧ Rep K G d v
  | [], vs, i, d, h, e => by simp at e
  | c :: ds, vs, 0, d, h, e => by
    simp only [Reps] at h
    obtain ⟨v, r, rfl, h1, h2⟩ := h
    simp at e; subst e
    exact ⟨v, rfl, h1⟩
  | c :: ds, vs, i + 1, d, h, e => by
    simp only [Reps] at h
    obtain ⟨v, r, rfl, h1, h2⟩ := h
    simp at e
    obtain ⟨u, e1, e2⟩ := Reps.get h2 e
    exact ⟨u, by simpa using e1, e2⟩
theorem Reps.getV {K : PySem.W.Frag} {G : Hp} : ∀ {ds : List D} {vs : List V} {i : Nat} {v : V}, Reps K G ds vs → vs[i]? = some v → ∃ d, ds[i]? = some d ∧ Rep K G d v
  | [], vs, i, v, h, e => by simp only [Reps] at h; subst h; simp at e
  | c :: ds, vs, 0, v, h, e => by
    simp only [Reps] at h
    obtain ⟨u, r, rfl, h1, h2⟩ := h
    simp at e; subst e
    exact ⟨c, rfl, h1⟩
  | c :: ds, vs, i + 1, v, h, e => by
    simp only [Reps] at h
    obtain ⟨u, r, rfl, h1, h2⟩ := h
    simp at e
    obtain ⟨u, e1, e2⟩ := Reps.getV h2 e
    exact ⟨u, by simpa using e1, e2⟩
theorem Reps.take {K : PySem.W.Frag} {G : Hp} : ∀ {ds : List D} {vs : List V} (n : Nat), Reps K G ds vs → Reps K G (ds.take n) (vs.take n)
  | ds, vs, 0, h => by simp only [List.take_zero]; exact Reps.nil
  | [], vs, n + 1, h => by simp only [Reps] at h; subst h; exact Reps.nil
  | d :: ds, vs, n + 1, h => by
    simp only [Reps] at h
    obtain ⟨v, r, rfl, h1, h2⟩ := h
    exact Reps.cons h1 (Reps.take n h2)
theorem Reps.drop {K : PySem.W.Frag} {G : Hp} : ∀ {ds : List D} {vs : List V} (n : Nat), Reps K G ds vs → Reps K G (ds.drop n) (vs.drop n)
  | ds, vs, 0, h => h
  | [], vs, n + 1, h => by simp only [Reps] at h; subst h; exact Reps.nil
  | d :: ds, vs, n + 1, h => by
    simp only [Reps] at h
    obtain ⟨v, r, rfl, h1, h2⟩ := h
    exact Reps.drop n h2
theorem Reps.set {K : PySem.W.Frag} {G : Hp} : ∀ {ds : List D} {vs : List V} {d : D} {v : V} (i : Nat), Rep K G d v → Reps K G ds vs → Reps K G (ds.set i d) (vs.set i v)
  | [], vs, d, v, i, r, h => by simp only [Reps] at h; subst h; exact Reps.nil
  | c :: ds, vs, d, v, 0, r, h => by
    simp only [Reps] at h
    obtain ⟨u, t, rfl, h1, h2⟩ := h
    exact Reps.cons r h2
  | c :: ds, vs, d, v, i + 1, r, h => by
    simp only [Reps] at h
    obtain ⟨u, t, rfl, h1, h2⟩ := h
    exact Reps.cons h1 (Reps.set i r h2)
theorem Reps.reverse {K : PySem.W.Frag} {G : Hp} : ∀ {ds : List D} {vs : List V}, Reps K G ds vs → Reps K G ds.reverse vs.reverse
  | [], vs, h => by simp only [Reps] at h; subst h; exact Reps.nil
  | d :: ds, vs, h => by
    simp only [Reps] at h
    obtain ⟨v, r, rfl, h1, h2⟩ := h
    rw [List.reverse_cons, List.reverse_cons]
    exact Reps.append (Reps.reverse h2) (Reps.cons h1 Reps.nil)
theorem Reps.ints {K : PySem.W.Frag} {G : Hp} : ∀ {ns : List Int} {vs : List V}, Reps K G (ns.map D.int) vs → vs = ns.map V.int
  | [], vs, h => by simp only [List.map_nil, Reps] at h; exact h
  | n :: ns, vs, h => by
    simp only [List.map_cons, Reps, Rep] at h
    obtain ⟨v, r, rfl, rfl, h2⟩ := h
    rw [Reps.ints h2, List.map_cons]
theorem Reps.of_ints {K : PySem.W.Frag} {G : Hp} : ∀ (ns : List Int), Reps K G (ns.map D.int) (ns.map V.int)
  | [] => Reps.nil
  | n :: ns => Reps.cons (by simp only [Rep]) (Reps.of_ints ns)

/-! ### the names' values as data -/
/-- a name holds data, or a list of its own, which no other holds (io: one that was handed in and is handed back; such a name is never bound anew) -/
inductive Sl where
  | dat (d : D) | own (io : Bool) (ds : List D)
abbrev Rho := List (Option Sl)
def SlRep (K : PySem.W.Frag) (G H : Hp) : Option Sl → Option V → Prop
  | none, _ => True
  | some (.dat d), o => ∃ v, o = some v ∧ Rep K G d v
  | some (.own _ ds), o => ∃ a vs, o = some (.ref a) ∧ H a = some (.lst vs) ∧ G a = none ∧ Reps K G ds vs
def OwnAt (σ : L2.St) (ρ : Rho) (a : Addr) : Prop := ∃ (i : Nat) (io : Bool) (ds : List D), ρ[i]? = some (some (.own io ds)) ∧ σ[i]? = some (some (.ref a))
/-- .. one that was not handed in -/
def OwnN (σ : L2.St) (ρ : Rho) (a : Addr) : Prop := ∃ (i : Nat) (ds : List D), ρ[i]? = some (some (.own false ds)) ∧ σ[i]? = some (some (.ref a))
def isTb : HO → Bool | .tbl _ => true | _ => false
/-- a table: as it was, or grown -/
def Grow (H H' : Hp) : Prop := ∀ a ps, H a = some (.tbl ps) → ∃ qs, H' a = some (.tbl qs) ∧ (TriplesOk ps.toList → TriplesOk qs.toList)
theorem Grow.refl (H : Hp) : Grow H H := fun _ ps h => ⟨ps, h, id⟩
theorem Grow.trans {H H1 H2 : Hp} (a : Grow H H1) (b : Grow H1 H2) : Grow H H2 := fun x ps h => by
  obtain ⟨qs, h1, f⟩ := a x ps h
  obtain ⟨rs, h2, g⟩ := b x qs h1
  exact ⟨rs, h2, fun z => g (f z)⟩
structure SR [Tabs] (K : PySem.W.Frag) (G H : Hp) (σ : L2.St) (ρ : Rho) : Prop where
  tab : ∀ P ∈ Tabs.T, (∃ ps, H P = some (.tbl ps) ∧ TriplesOk ps.toList) ∧ G P = none
  len : ρ.length = σ.length
  sub : Same G H
  slot : ∀ (i : Nat) (s : Option Sl) (o : Option V), ρ[i]? = some s → σ[i]? = some o → SlRep K G H s o
  inj : ∀ (i j : Nat) (io jo : Bool) (ds es : List D) (a : Addr), ρ[i]? = some (some (.own io ds)) → ρ[j]? = some (some (.own jo es)) → σ[i]? = some (some (.ref a)) → σ[j]? = some (some (.ref a)) → i = j
/-- a step: what is seen grows, what is not one's own is kept -/
structure Stp (σ : L2.St) (ρ : Rho) (G H : Hp) (σ' : L2.St) (ρ' : Rho) (G' H' : Hp) : Prop where
  sub : Same G G'
  new : ∀ a, H a ≠ none → ¬ OwnAt σ ρ a → G' a = G a
  keep : ∀ a o, H a = some o → ¬ OwnAt σ ρ a → isTb o = false → H' a = some o
  grow : Grow H H'
  dom : ∀ a, H a ≠ none → H' a ≠ none
  own : ∀ a, OwnAt σ' ρ' a → OwnAt σ ρ a ∨ H a = none
  ownN : ∀ a, OwnN σ' ρ' a → OwnN σ ρ a ∨ H a = none
  stay : ∀ (i : Nat) (ds : List D), ρ[i]? = some (some (.own true ds)) → σ'[i]? = σ[i]? ∧ ∃ es, ρ'[i]? = some (some (.own true es))
theorem Stp.refl (σ : L2.St) (ρ : Rho) (G H : Hp) : Stp σ ρ G H σ ρ G H := ⟨fun _ _ h => h, fun _ _ _ => rfl, fun _ _ h _ _ => h, Grow.refl _, fun _ h => h, fun _ h => .inl h, fun _ h => .inl h, fun _ ds h => ⟨rfl, ds, h⟩⟩
theorem Stp.trans {σ σ1 σ2 : L2.St} {ρ ρ1 ρ2 : Rho} {G H G1 H1 G2 H2 : Hp} (a : Stp σ ρ G H σ1 ρ1 G1 H1) (b : Stp σ1 ρ1 G1 H1 σ2 ρ2 G2 H2) : Stp σ ρ G H σ2 ρ2 G2 H2 where
  sub := fun x o h => b.sub x o (a.sub x o h)
  new := fun x h n => by
    rw [b.new x (a.dom x h) fun z => (a.own x z).elim n h, a.new x h n]
  keep := fun x o h n t => b.keep x o (a.keep x o h n t) (fun z => (a.own x z).elim n fun e => by rw [e] at h; cases h) t
  grow := a.grow.trans b.grow
  dom := fun x h => b.dom x (a.dom x h)
  own := fun x h => by
    rcases b.own x h with z | z
    · exact a.own x z
    · right
      cases q : H x with
      | none => rfl
      | some o => exact absurd z (a.dom x (by rw [q]; exact fun z => by cases z))
  ownN := fun x h => by
    rcases b.ownN x h with z | z
    · exact a.ownN x z
    · right
      cases q : H x with
      | none => rfl
      | some o => exact absurd z (a.dom x (by rw [q]; exact fun z => by cases z))
  stay := fun i ds h => by
    obtain ⟨e1, es, h1⟩ := a.stay i ds h
    obtain ⟨e2, fs, h2⟩ := b.stay i es h1
    exact ⟨e2.trans e1, fs, h2⟩
/-- a step that changes nothing that stood -/
structure PStp (G H G' H' : Hp) : Prop where
  sub : Same G G'
  new : ∀ a, H a ≠ none → G' a = G a
  keep : ∀ a o, H a = some o → isTb o = false → H' a = some o
  grow : Grow H H'
  le : Same G' H'
theorem PStp.refl {G H : Hp} (h : Same G H) : PStp G H G H := ⟨fun _ _ h => h, fun _ _ => rfl, fun _ _ h _ => h, Grow.refl _, h⟩
theorem PStp.dom {G H G' H' : Hp} (h : PStp G H G' H') {a : Addr} (n : H a ≠ none) : H' a ≠ none := by
  cases q : H a with
  | none => exact absurd q n
  | some o =>
    cases t : isTb o with
    | false => rw [h.keep a o q t]; exact fun z => by cases z
    | true =>
      cases o with
      | tbl ps => obtain ⟨qs, e, _⟩ := h.grow a ps q; rw [e]; exact fun z => by cases z
      | _ => cases t
theorem PStp.trans {G H G1 H1 G2 H2 : Hp} (a : PStp G H G1 H1) (b : PStp G1 H1 G2 H2) : PStp G H G2 H2 where
  sub := fun x o h => b.sub x o (a.sub x o h)
  new := fun x h => by rw [b.new x (a.dom h), a.new x h]
  keep := fun x o h t => b.keep x o (a.keep x o h t) t
  grow := a.grow.trans b.grow
  le := b.le
theorem same_upd {H : Hp} {p : Addr} {o : HO} (h : H p = none) : Same H (upd H p o) := fun b x e => by
  rw [upd_ne (ne_of_none e h)]; exact e
/-- a new object, seen -/
theorem PStp.laid {G H : Hp} {p : Addr} {o : HO} (h : Same G H) (n : H p = none) : PStp G H (upd G p o) (upd H p o) where
  sub := same_upd (h.free n)
  new := fun a ha => upd_ne fun e => ha (by rw [e]; exact n)
  keep := fun a x e _ => same_upd n a x e
  grow := fun a ps e => ⟨ps, same_upd n a _ e, id⟩
  le := fun a x e => by
    by_cases z : a = p
    · subst z; rw [upd_same] at e ⊢; exact e
    · rw [upd_ne z] at e ⊢; exact h a x e
theorem PStp.stp {σ : L2.St} {ρ : Rho} {G H G' H' : Hp} (h : PStp G H G' H') : Stp σ ρ G H σ ρ G' H' where
  sub := h.sub
  new := fun a ha _ => h.new a ha
  keep := fun a o e _ t => h.keep a o e t
  grow := h.grow
  dom := fun a ha => h.dom ha
  own := fun _ z => .inl z
  ownN := fun _ z => .inl z
  stay := fun _ ds h => ⟨rfl, ds, h⟩
theorem SlRep.pure {K : PySem.W.Frag} {G H G' H' : Hp} (h : PStp G H G' H') {s : Option Sl} {o : Option V} (r : SlRep K G H s o) : SlRep K G' H' s o := by
  match s, r with
  | none, _ => trivial
  | some (.dat d), ⟨v, e, r⟩ => exact ⟨v, e, Rep.mono h.sub _ _ r⟩
  | some (.own _ ds), ⟨a, vs, e, e2, e3, r⟩ => exact ⟨a, vs, e, h.keep _ _ e2 rfl, (h.new a (by rw [e2]; exact fun z => by cases z)).trans e3, Reps.mono h.sub _ _ r⟩
/-! ### values made plain: the same, for the evaluation's sake -/
def frcI {α : Type} (i : Int) (k : Int → α) : α := match i with
  | .ofNat 0 => k (.ofNat 0)
  | .ofNat (n + 1) => k (.ofNat (n + 1))
  | .negSucc 0 => k (.negSucc 0)
  | .negSucc (n + 1) => k (.negSucc (n + 1))
theorem frcI_eq {α : Type} (i : Int) (k : Int → α) : frcI i k = k i := by
  rcases i with (_ | n) | (_ | n) <;> rfl
mutual
def frc {α : Type} : D → (D → α) → α
  | .int i, k => frcI i fun j => k (.int j)
  | .bl b, k => (match b with | true => k (.bl true) | false => k (.bl false))
  | .tup ds, k => frcM ds fun es => k (.tup es)
  | .lst ds, k => frcM ds fun es => k (.lst es)
  | d, k => k d
def frcM {α : Type} : List D → (List D → α) → α
  | [], k => k []
  | d :: ds, k => frc d fun e => frcM ds fun es => k (e :: es)
end
mutual
theorem frc_eq {α : Type} : ∀ (d : D) (k : D → α), frc d k = k d
  | .int i, k => by simp only [frc, frcI_eq]
  | .bl b, k => by cases b <;> simp only [frc]
  | .tup ds, k => by simp only [frc]; exact frcM_eq ds _
  | .lst ds, k => by simp only [frc]; exact frcM_eq ds _
  | .non, k => by simp only [frc]
  | .str _, k => by simp only [frc]
  | .scr _, k => by simp only [frc]
  | .con _, k => by simp only [frc]
theorem frcM_eq {α : Type} : ∀ (ds : List D) (k : List D → α), frcM ds k = k ds
  | [], k => by simp only [frcM]
  | d :: ds, k => by simp only [frcM]; rw [frc_eq d, frcM_eq ds]
end
/-- a list's spine -/
def frcL {α β : Type} : List β → (List β → α) → α
  | [], k => k []
  | d :: ds, k => frcL ds fun es => k (d :: es)
theorem frcL_eq {α β : Type} : ∀ (ds : List β) (k : List β → α), frcL ds k = k ds
  | [], k => rfl
  | d :: ds, k => by unfold frcL; rw [frcL_eq ds]
def frcS {α : Type} : Sl → (Sl → α) → α
  | .dat d, k => k (.dat d)
  | .own io ds, k => frcL ds fun es => k (.own io es)
theorem frcS_eq {α : Type} : ∀ (s : Sl) (k : Sl → α), frcS s k = k s
  | .dat d, k => rfl
  | .own io ds, k => frcL_eq ds (fun es => k (.own io es))
/-- .. to the ground -/
def frcT {α : Type} : Sl → (Sl → α) → α
  | .dat d, k => frc d fun e => k (.dat e)
  | .own io ds, k => frcM ds fun es => k (.own io es)
theorem frcT_eq {α : Type} : ∀ (s : Sl) (k : Sl → α), frcT s k = k s
  | .dat d, k => frc_eq d (fun e => k (.dat e))
  | .own io ds, k => frcM_eq ds (fun es => k (.own io es))
def frcA {α : Type} : List Sl → (List Sl → α) → α
  | [], k => k []
  | s :: r, k => frcT s fun t => frcA r fun r' => k (t :: r')
theorem frcA_eq {α : Type} : ∀ (s : List Sl) (k : List Sl → α), frcA s k = k s
  | [], k => rfl
  | s :: r, k => by unfold frcA; rw [frcT_eq, frcA_eq r]
def nrmR {α : Type} : Rho → (Rho → α) → α
  | [], k => k []
  | none :: r, k => nrmR r fun r' => k (none :: r')
  | some s :: r, k => frcS s fun t => nrmR r fun r' => k (some t :: r')
theorem nrmR_eq {α : Type} : ∀ (ρ : Rho) (k : Rho → α), nrmR ρ k = k ρ
  | [], k => rfl
  | none :: r, k => by unfold nrmR; rw [nrmR_eq r]
  | some s :: r, k => by unfold nrmR; rw [frcS_eq, nrmR_eq r]

variable [Tabs]
theorem SR.tabs' {K : PySem.W.Frag} {G H G' H' : Hp} {σ : L2.St} {ρ : Rho} (I : SR K G H σ ρ) (g : Grow H H') (n : ∀ P, H P ≠ none → (∃ ps, H P = some (.tbl ps)) → G' P = G P) : ∀ P ∈ Tabs.T, (∃ ps, H' P = some (.tbl ps) ∧ TriplesOk ps.toList) ∧ G' P = none := fun P hP => by
  obtain ⟨⟨ps, e, t⟩, e2⟩ := I.tab P hP
  obtain ⟨qs, e3, f⟩ := g P ps e
  exact ⟨⟨qs, e3, f t⟩, (n P (by rw [e]; exact fun z => by cases z) ⟨ps, e⟩).trans e2⟩
theorem SR.pure {K : PySem.W.Frag} {G H G' H' : Hp} {σ : L2.St} {ρ : Rho} (I : SR K G H σ ρ) (h : PStp G H G' H') : SR K G' H' σ ρ :=
  ⟨I.tabs' h.grow fun P z _ => h.new P z, I.len, h.le, fun i s o e1 e2 => SlRep.pure h (I.slot i s o e1 e2), I.inj⟩

/-! ### what code computes -/
/-- an exception: its class's name, what it keeps -/
inductive Exn where
  | mk (cls : Str) (arg : Option D)
inductive Rz (α : Type) where
  | ok (a : α) | ex (x : Exn) (ρ : Rho) | no
def Rz.bind {α β : Type} (m : Rz α) (k : α → Rz β) : Rz β := match m with | .ok a => k a | .ex x ρ => .ex x ρ | .no => .no
abbrev FE := Rho → Rz (D × Rho)
abbrev FA := Rho → Rz (List D × Rho)
abbrev FT := Rho → Rz (Bool × Rho)
def ofO (o : Option D) (ρ : Rho) : Rz (D × Rho) := match o with | some d => frc d fun d => .ok (d, ρ) | none => .no
/-- the wish about exceptions -/
abbrev WD (K : PySem.W.Frag) := Exn → Rho → L2.St → Hp → Hp → WX
/-- an expression's reading -/
def rd (K : PySem.W.Frag) (f : FE) : TE := fun σ H Q => ∃ ρ G, SR K G H σ ρ ∧ match f ρ with
  | .ok (d, ρ') => ∀ v H' G', Stp σ ρ G H σ ρ' G' H' → SR K G' H' σ ρ' → Rep K G' d v → Q v H'
  | .ex _ _ => False
  | .no => False
def rdA (K : PySem.W.Frag) (f : FA) : TA := fun σ H Q => ∃ ρ G, SR K G H σ ρ ∧ match f ρ with
  | .ok (ds, ρ') => ∀ vs H' G', Stp σ ρ G H σ ρ' G' H' → SR K G' H' σ ρ' → Reps K G' ds vs → Q vs H'
  | .ex _ _ => False
  | .no => False
def rdT (K : PySem.W.Frag) (f : FT) : TT := fun σ H Q => ∃ ρ G, SR K G H σ ρ ∧ match f ρ with
  | .ok (b, ρ') => ∀ H' G', Stp σ ρ G H σ ρ' G' H' → SR K G' H' σ ρ' → Q b H'
  | .ex _ _ => False
  | .no => False
end M

namespace M
open PySem PySem.Spec L2
variable [Tabs]

/-! ### readings, step by step -/
def rdK (K : PySem.W.Frag) (f : FE) (σ : L2.St) (ρ : Rho) (G H : Hp) (Q : VK) : Prop := match f ρ with
  | .ok (d, ρ') => ∀ v H' G', Stp σ ρ G H σ ρ' G' H' → SR K G' H' σ ρ' → Rep K G' d v → Q v H'
  | .ex _ _ => False
  | .no => False
def rdAK (K : PySem.W.Frag) (f : FA) (σ : L2.St) (ρ : Rho) (G H : Hp) (Q : List V → Hp → Prop) : Prop := match f ρ with
  | .ok (ds, ρ') => ∀ vs H' G', Stp σ ρ G H σ ρ' G' H' → SR K G' H' σ ρ' → Reps K G' ds vs → Q vs H'
  | .ex _ _ => False
  | .no => False
def rdTK (K : PySem.W.Frag) (f : FT) (σ : L2.St) (ρ : Rho) (G H : Hp) (Q : Bool → Hp → Prop) : Prop := match f ρ with
  | .ok (b, ρ') => ∀ H' G', Stp σ ρ G H σ ρ' G' H' → SR K G' H' σ ρ' → Q b H'
  | .ex _ _ => False
  | .no => False
def bnd (fa : FE) (k : D → FE) : FE := fun ρ => (fa ρ).bind fun p => k p.1 p.2
def bndA (fa : FA) (k : List D → FE) : FE := fun ρ => (fa ρ).bind fun p => k p.1 p.2
def bndT (fa : FT) (k : Bool → FE) : FE := fun ρ => (fa ρ).bind fun p => k p.1 p.2
def bnd_T (fa : FE) (k : D → FT) : FT := fun ρ => (fa ρ).bind fun p => k p.1 p.2
def bndT_T (fa : FT) (k : Bool → FT) : FT := fun ρ => (fa ρ).bind fun p => k p.1 p.2

section
variable {K : PySem.W.Frag} {σ : L2.St} {ρ : Rho} {G H : Hp}
theorem rdK_mono {f : FE} {Q Q' : VK} (h : rdK K f σ ρ G H Q) (hq : ∀ v H', Q v H' → Q' v H') : rdK K f σ ρ G H Q' := by
  unfold rdK at h ⊢
  split <;> rename_i e <;> rw [e] at h
  · exact fun v H' G' a b c => hq _ _ (h v H' G' a b c)
  · exact h
  · exact h
theorem rdAK_mono {f : FA} {Q Q' : List V → Hp → Prop} (h : rdAK K f σ ρ G H Q) (hq : ∀ v H', Q v H' → Q' v H') : rdAK K f σ ρ G H Q' := by
  unfold rdAK at h ⊢
  split <;> rename_i e <;> rw [e] at h
  · exact fun v H' G' a b c => hq _ _ (h v H' G' a b c)
  · exact h
  · exact h
theorem rdTK_mono {f : FT} {Q Q' : Bool → Hp → Prop} (h : rdTK K f σ ρ G H Q) (hq : ∀ v H', Q v H' → Q' v H') : rdTK K f σ ρ G H Q' := by
  unfold rdTK at h ⊢
  split <;> rename_i e <;> rw [e] at h
  · exact fun H' G' a b => hq _ _ (h H' G' a b)
  · exact h
  · exact h
theorem rdK_bnd {fa : FE} {k : D → FE} {Q : VK} (h : rdK K (bnd fa k) σ ρ G H Q) :
    rdK K fa σ ρ G H fun v H1 => ∃ d ρ1 G1, Stp σ ρ G H σ ρ1 G1 H1 ∧ SR K G1 H1 σ ρ1 ∧ Rep K G1 d v ∧ rdK K (k d) σ ρ1 G1 H1 Q := by
  unfold rdK at h ⊢
  unfold bnd at h
  cases e : fa ρ with
  | ok p =>
    obtain ⟨d, ρ1⟩ := p
    rw [e] at h
    dsimp only [Rz.bind] at h ⊢
    intro v H1 G1 a b c
    refine ⟨d, ρ1, G1, a, b, c, ?_⟩
    cases e2 : k d ρ1 with
    | ok p2 =>
      obtain ⟨d2, ρ2⟩ := p2
      rw [e2] at h
      dsimp only at h ⊢
      exact fun u H2 G2 a2 b2 c2 => h u H2 G2 (a.trans a2) b2 c2
    | ex _ _ => rw [e2] at h; exact h
    | no => rw [e2] at h; exact h
  | ex _ _ => rw [e] at h; exact h
  | no => rw [e] at h; exact h
theorem rdK_bndT {fa : FT} {k : Bool → FE} {Q : VK} (h : rdK K (bndT fa k) σ ρ G H Q) :
    rdTK K fa σ ρ G H fun b H1 => ∃ ρ1 G1, Stp σ ρ G H σ ρ1 G1 H1 ∧ SR K G1 H1 σ ρ1 ∧ rdK K (k b) σ ρ1 G1 H1 Q := by
  unfold rdK at h
  unfold rdTK
  unfold bndT at h
  cases e : fa ρ with
  | ok p =>
    obtain ⟨d, ρ1⟩ := p
    rw [e] at h
    dsimp only [Rz.bind] at h ⊢
    intro H1 G1 a b
    refine ⟨ρ1, G1, a, b, ?_⟩
    unfold rdK
    cases e2 : k d ρ1 with
    | ok p2 =>
      obtain ⟨d2, ρ2⟩ := p2
      rw [e2] at h
      dsimp only at h ⊢
      exact fun u H2 G2 a2 b2 c2 => h u H2 G2 (a.trans a2) b2 c2
    | ex _ _ => rw [e2] at h; exact h
    | no => rw [e2] at h; exact h
  | ex _ _ => rw [e] at h; exact h
  | no => rw [e] at h; exact h
theorem rdK_bndA {fa : FA} {k : List D → FE} {Q : VK} (h : rdK K (bndA fa k) σ ρ G H Q) :
    rdAK K fa σ ρ G H fun vs H1 => ∃ ds ρ1 G1, Stp σ ρ G H σ ρ1 G1 H1 ∧ SR K G1 H1 σ ρ1 ∧ Reps K G1 ds vs ∧ rdK K (k ds) σ ρ1 G1 H1 Q := by
  unfold rdK at h
  unfold rdAK
  unfold bndA at h
  cases e : fa ρ with
  | ok p =>
    obtain ⟨d, ρ1⟩ := p
    rw [e] at h
    dsimp only [Rz.bind] at h ⊢
    intro vs H1 G1 a b c
    refine ⟨d, ρ1, G1, a, b, c, ?_⟩
    unfold rdK
    cases e2 : k d ρ1 with
    | ok p2 =>
      obtain ⟨d2, ρ2⟩ := p2
      rw [e2] at h
      dsimp only at h ⊢
      exact fun u H2 G2 a2 b2 c2 => h u H2 G2 (a.trans a2) b2 c2
    | ex _ _ => rw [e2] at h; exact h
    | no => rw [e2] at h; exact h
  | ex _ _ => rw [e] at h; exact h
  | no => rw [e] at h; exact h
theorem rdTK_bnd {fa : FE} {k : D → FT} {Q : Bool → Hp → Prop} (h : rdTK K (bnd_T fa k) σ ρ G H Q) :
    rdK K fa σ ρ G H fun v H1 => ∃ d ρ1 G1, Stp σ ρ G H σ ρ1 G1 H1 ∧ SR K G1 H1 σ ρ1 ∧ Rep K G1 d v ∧ rdTK K (k d) σ ρ1 G1 H1 Q := by
  unfold rdTK at h
  unfold rdK
  unfold bnd_T at h
  cases e : fa ρ with
  | ok p =>
    obtain ⟨d, ρ1⟩ := p
    rw [e] at h
    dsimp only [Rz.bind] at h ⊢
    intro v H1 G1 a b c
    refine ⟨d, ρ1, G1, a, b, c, ?_⟩
    unfold rdTK
    cases e2 : k d ρ1 with
    | ok p2 =>
      obtain ⟨d2, ρ2⟩ := p2
      rw [e2] at h
      dsimp only at h ⊢
      exact fun H2 G2 a2 b2 => h H2 G2 (a.trans a2) b2
    | ex _ _ => rw [e2] at h; exact h
    | no => rw [e2] at h; exact h
  | ex _ _ => rw [e] at h; exact h
  | no => rw [e] at h; exact h
theorem rdTK_bndT {fa : FT} {k : Bool → FT} {Q : Bool → Hp → Prop} (h : rdTK K (bndT_T fa k) σ ρ G H Q) :
    rdTK K fa σ ρ G H fun b H1 => ∃ ρ1 G1, Stp σ ρ G H σ ρ1 G1 H1 ∧ SR K G1 H1 σ ρ1 ∧ rdTK K (k b) σ ρ1 G1 H1 Q := by
  unfold rdTK at h
  unfold rdTK
  unfold bndT_T at h
  cases e : fa ρ with
  | ok p =>
    obtain ⟨d, ρ1⟩ := p
    rw [e] at h
    dsimp only [Rz.bind] at h ⊢
    intro H1 G1 a b
    refine ⟨ρ1, G1, a, b, ?_⟩
    cases e2 : k d ρ1 with
    | ok p2 =>
      obtain ⟨d2, ρ2⟩ := p2
      rw [e2] at h
      dsimp only at h ⊢
      exact fun H2 G2 a2 b2 => h H2 G2 (a.trans a2) b2
    | ex _ _ => rw [e2] at h; exact h
    | no => rw [e2] at h; exact h
  | ex _ _ => rw [e] at h; exact h
  | no => rw [e] at h; exact h
theorem rd_of {f : FE} {Q : VK} (I : SR K G H σ ρ) (h : rdK K f σ ρ G H Q) : rd K f σ H Q := ⟨ρ, G, I, h⟩
theorem rdA_of {f : FA} {Q : List V → Hp → Prop} (I : SR K G H σ ρ) (h : rdAK K f σ ρ G H Q) : rdA K f σ H Q := ⟨ρ, G, I, h⟩
theorem rdT_of {f : FT} {Q : Bool → Hp → Prop} (I : SR K G H σ ρ) (h : rdTK K f σ ρ G H Q) : rdT K f σ H Q := ⟨ρ, G, I, h⟩
/-- an operation's end -/
theorem rdK_ofO {o : Option D} {Q : VK} (h : rdK K (fun ρ => ofO o ρ) σ ρ G H Q) (I : SR K G H σ ρ) :
    ∃ d, o = some d ∧ ∀ v H' G', PStp G H G' H' → Rep K G' d v → Q v H' := by
  unfold rdK ofO at h
  cases o with
  | none => exact False.elim h
  | some d =>
    dsimp only at h
    rw [frc_eq] at h
    exact ⟨d, rfl, fun v H' G' p r => h v H' G' p.stp (I.pure p) r⟩
end

section
variable {X : Cx}
theorem pe_imp {e : Expr} {t t' : TE} (h : PE X e t) (hi : ∀ σ H Q, t' σ H Q → t σ H Q) : PE X e t' := ⟨fun pins s σ H Q I q => h.run pins s σ H Q I (hi σ H Q q)⟩
theorem pt_imp {e : Expr} {t t' : TT} (h : PT X e t) (hi : ∀ σ H Q, t' σ H Q → t σ H Q) : PT X e t' := ⟨fun pins s σ H Q I q => h.run pins s σ H Q I (hi σ H Q q)⟩
theorem pw_imp {e : Expr} {t t' : TT} (h : PW X e t) (hi : ∀ σ H Q, t' σ H Q → t σ H Q) : PW X e t' := ⟨fun wh pins s σ H Q I q => h.run wh pins s σ H Q I (hi σ H Q q)⟩
theorem pa_imp {e : List Expr} {t t' : TA} (h : PA X e t) (hi : ∀ σ H Q, t' σ H Q → t σ H Q) : PA X e t' := ⟨fun pos pins s σ H Q I q => h.run pos pins s σ H Q I (hi σ H Q q)⟩
theorem ps_imp {e : Stmt} {t t' : TS} (h : PS X e t) (hi : ∀ D σ H, t' D σ H → t D σ H) : PS X e t' := ⟨fun pins s σ H D I q => h.run pins s σ H D I (hi D σ H q)⟩
theorem pss_imp {e : List Stmt} {t t' : TS} (h : PSs X e t) (hi : ∀ D σ H, t' D σ H → t D σ H) : PSs X e t' := ⟨fun pins s σ H D I q => h.run pins s σ H D I (hi D σ H q)⟩
end

/-! ### expressions -/
def eV (i : Nat) : FE := fun ρ => match ρ[i]? with | some (some (.dat d)) => .ok (d, ρ) | _ => .no
def eC (d : D) : FE := fun ρ => .ok (d, ρ)
def e1 (op : D → Option D) (fa : FE) : FE := bnd fa fun x => fun ρ => ofO (op x) ρ
def e2 (op : D → D → Option D) (fa fb : FE) : FE := bnd fa fun x => bnd fb fun y => fun ρ => ofO (op x y) ρ
/-- what an operator's rule asks is met by its function over data -/
def OpD (K : PySem.W.Frag) (r : R2) (op : D → D → Option D) : Prop := ∀ (G H : Hp) (d1 d2 d : D) (v1 v2 : V) (Q : VK), Same G H → Rep K G d1 v1 → Rep K G d2 v2 → op d1 d2 = some d → (∀ v H' G', PStp G H G' H' → Rep K G' d v → Q v H') → r v1 v2 H Q
def UnD (K : PySem.W.Frag) (r : V → Hp → VK → Prop) (op : D → Option D) : Prop := ∀ (G H : Hp) (d1 d : D) (v1 : V) (Q : VK), Same G H → Rep K G d1 v1 → op d1 = some d → (∀ v H' G', PStp G H G' H' → Rep K G' d v → Q v H') → r v1 H Q
def CallD (K : PySem.W.Frag) (r : List V → Hp → VK → Prop) (op : List D → Option D) : Prop := ∀ (G H : Hp) (ds : List D) (d : D) (vs : List V) (Q : VK), Same G H → Reps K G ds vs → op ds = some d → (∀ v H' G', PStp G H G' H' → Rep K G' d v → Q v H') → r vs H Q
section
variable {X : Cx} {a b c : Expr} {fa fb fc : FE} {pos : Pos}
theorem de_var (i : Nat) {x : Str} {pos : Pos} (hN : X.N[i]? = some x := by rfl) (hv : Vis X.env.scope x := by first | exact Or.inl rfl | exact Or.inr (Or.inl rfl) | exact Or.inr (Or.inr rfl)) (hd : (x == ("__debug__" : Str)) = false := by decide)
    (hcd : (x == ("__classdict__" : Str)) = false := by decide) : PE X (.Name x pos) (rd X.K (eV i)) := by
  refine pe_imp (pe_var (i := i) hN hv hd hcd) fun σ H Q ⟨ρ, G, I, h⟩ => ?_
  unfold eV at h
  split at h <;> rename_i e
  · split at e <;> rename_i e3
    · cases e
      have hl : i < σ.length := by
        rw [← I.len]
        exact (List.getElem?_eq_some_iff.mp e3).1
      obtain ⟨v, e2, r⟩ := I.slot i _ _ e3 (List.getElem?_eq_getElem hl)
      exact ⟨v, by rw [List.getElem?_eq_getElem hl, e2], h v H G (Stp.refl _ _ _ _) I r⟩
    · cases e
  · exact h.elim
  · exact h.elim
theorem rd_con {d : D} {v : V} (hr : ∀ G, Rep X.K G d v) (σ : L2.St) (H : Hp) (Q : VK) (h : rd X.K (eC d) σ H Q) : Q v H := by
  obtain ⟨ρ, G, I, h⟩ := h
  exact h v H G (Stp.refl _ _ _ _) I (hr G)
theorem de_int {i j pos} : PE X (.Constant (.int i) j pos) (rd X.K (eC (.int i))) := pe_imp pe_int (rd_con fun G => by simp only [Rep])
theorem de_bl {i j pos} : PE X (.Constant (.bool i) j pos) (rd X.K (eC (.bl i))) := pe_imp pe_bl (rd_con fun G => by simp only [Rep])
theorem de_non {j pos} : PE X (.Constant .none j pos) (rd X.K (eC .non)) := pe_imp pe_non (rd_con fun G => by simp only [Rep])
theorem de_str {i j pos} : PE X (.Constant (.str i) j pos) (rd X.K (eC (.str i))) := pe_imp pe_str (rd_con fun G => by simp only [Rep])
/-- a module's constant -/
theorem de_glob {x : Str} {d : D} {v : V} {u : Value} {pos : Pos} (hg : Gl X x) (hm : X.mg x = some u) (r : RelV v u) (hr : ∀ G, Rep X.K G d v) (hd : (x == ("__debug__" : Str)) = false := by decide) : PE X (.Name x pos) (rd X.K (eC d)) :=
  pe_imp (pe_glob hg hm r hd) (rd_con hr)
/-- a built-in's name as a value -/
theorem de_bltn {x : Str} {v : V} {u : Value} {pos : Pos} (hg : Gl X x) (hm : X.mg x = none) (hv : bootBuiltins x = some u) (r : RelV v u) (hn : x ≠ "__name__" := by decide) (hd : (x == ("__debug__" : Str)) = false := by decide) : PE X (.Name x pos) (rd X.K (eC (.con v))) :=
  pe_imp (pe_bltn hg hm hv r hn hd) (rd_con fun G => by simp only [Rep])

theorem rd_2 {op : D → D → Option D} {r : R2} (hd : OpD X.K r op) (σ : L2.St) (H : Hp) (Q : VK) (h : rd X.K (e2 op fa fb) σ H Q) : tOp r (rd X.K fa) (rd X.K fb) σ H Q := by
  obtain ⟨ρ, G, I, h⟩ := h
  refine rd_of I (rdK_mono (rdK_bnd h) fun v H1 ⟨d1, ρ1, G1, s1, I1, r1, h1⟩ => ?_)
  refine rd_of I1 (rdK_mono (rdK_bnd h1) fun u H2 ⟨d2, ρ2, G2, s2, I2, r2, h2⟩ => ?_)
  obtain ⟨d, e, q⟩ := rdK_ofO h2 I2
  exact hd G2 H2 d1 d2 d v u Q I2.sub (Rep.mono s2.sub _ _ r1) r2 e q
theorem rd_1 {op : D → Option D} {r : V → Hp → VK → Prop} (hd : UnD X.K r op) (σ : L2.St) (H : Hp) (Q : VK) (h : rd X.K (e1 op fa) σ H Q) : tUn r (rd X.K fa) σ H Q := by
  obtain ⟨ρ, G, I, h⟩ := h
  refine rd_of I (rdK_mono (rdK_bnd h) fun v H1 ⟨d1, ρ1, G1, s1, I1, r1, h1⟩ => ?_)
  obtain ⟨d, e, q⟩ := rdK_ofO h1 I1
  exact hd G1 H1 d1 d v Q I1.sub r1 e q
theorem de_op {o : Operator} {op : D → D → Option D} {r : R2} (ho : OpR X (binaryOp o) r) (hd : OpD X.K r op) (ha : PE X a (rd X.K fa)) (hb : PE X b (rd X.K fb)) : PE X (.BinOp a o b pos) (rd X.K (e2 op fa fb)) := pe_imp (pe_op ho ha hb) (rd_2 hd)
theorem de_un {o : UnaryOp} {op : D → Option D} {r : V → Hp → VK → Prop} (ho : UnR X (unaryOp o) r) (hd : UnD X.K r op) (ha : PE X a (rd X.K fa)) : PE X (.UnaryOp o a pos) (rd X.K (e1 op fa)) := pe_imp (pe_un ho ha) (rd_1 hd)
theorem de_cmp {o : CmpOp} {op : D → D → Option D} {r : R2} (ho : OpR X (compareOp o) r) (hd : OpD X.K r op) (ha : PE X a (rd X.K fa)) (hb : PE X b (rd X.K fb)) (hm : behindInMarks o b = false) : PE X (.Compare a [o] [b] pos) (rd X.K (e2 op fa fb)) :=
  pe_imp (pe_cmpR ho ha hb hm) (rd_2 hd)

/-! tests -/
/-- a value that is a truth -/
def tB (f : FE) : FT := bnd_T f fun d => fun ρ => match d with | .bl b => .ok (b, ρ) | _ => .no
theorem rd_B {f : FE} (σ : L2.St) (H : Hp) (Q : Bool → Hp → Prop) (h : rdT X.K (M.tB f) σ H Q) : rd X.K f σ H fun x H1 => ∃ c, x = .bl c ∧ Q c H1 := by
  obtain ⟨ρ, G, I, h⟩ := h
  refine rd_of I (rdK_mono (rdTK_bnd h) fun v H1 ⟨d1, ρ1, G1, s1, I1, r1, h1⟩ => ?_)
  unfold rdTK at h1
  cases d1 with
  | bl b =>
    simp only [Rep] at r1
    subst r1
    exact ⟨b, rfl, h1 H1 G1 (Stp.refl _ _ _ _) I1⟩
  | _ => exact h1.elim
theorem dt_cmp {o : CmpOp} {op : D → D → Option D} {r : R2} (ho : OpR X (compareOp o) r) (hd : OpD X.K r op) (ha : PE X a (rd X.K fa)) (hb : PE X b (rd X.K fb)) (hm : behindInMarks o b = false) : PT X (.Compare a [o] [b] pos) (rdT X.K (M.tB (e2 op fa fb))) :=
  pt_imp (pt_cmpR ho ha hb hm) fun σ H Q h => rd_2 hd _ _ _ (rd_B _ _ _ h)
/-- a value's truth -/
def trD : D → Option Bool
  | .non => some false
  | .bl b => some b
  | .int i => some (i != 0)
  | .str x => if x.length ≤ sizeLine then some ((x.length : Int) != 0) else none
  | .tup ds => some (!ds.isEmpty)
  | .lst ds => some (!ds.isEmpty)
  | .scr _ => none
  | .con _ => none
def tTr (f : FE) : FT := bnd_T f fun d => fun ρ => match trD d with | some b => .ok (b, ρ) | none => .no
theorem isEmpty_reps {K : PySem.W.Frag} {G : Hp} {ds : List D} {vs : List V} (r : Reps K G ds vs) : vs.isEmpty = ds.isEmpty := by
  have h := r.length
  cases ds <;> cases vs <;> simp_all
theorem truV_of {K : PySem.W.Frag} {G H : Hp} {d : D} {v : V} {b : Bool} (s : Same G H) (r : Rep K G d v) (e : trD d = some b) : TruV K v H b := by
  cases d with
  | non => simp only [Rep] at r; subst r; cases e; rfl
  | bl b => simp only [Rep] at r; subst r; cases e; rfl
  | int i => simp only [Rep] at r; subst r; cases e; rfl
  | str x =>
    simp only [Rep] at r; subst r
    simp only [trD] at e
    split at e
    · cases e; rename_i h; exact ⟨h, rfl⟩
    · cases e
  | tup ds =>
    simp only [Rep] at r
    obtain ⟨a, vs, rfl, q, r⟩ := r
    cases e
    exact .inr (.inl ⟨vs, SqT.mono s q, by rw [isEmpty_reps r]⟩)
  | lst ds =>
    simp only [Rep] at r
    obtain ⟨a, vs, rfl, q, r⟩ := r
    cases e
    exact .inl ⟨vs, SqL.of (s _ _ q), by rw [isEmpty_reps r]⟩
  | scr _ => cases e
  | con _ => cases e
theorem rd_Tr {f : FE} (σ : L2.St) (H : Hp) (Q : Bool → Hp → Prop) (h : rdT X.K (tTr f) σ H Q) : rd X.K f σ H fun x H1 => ∃ k, TruV X.K x H1 k ∧ Q k H1 := by
  obtain ⟨ρ, G, I, h⟩ := h
  refine rd_of I (rdK_mono (rdTK_bnd h) fun v H1 ⟨d1, ρ1, G1, s1, I1, r1, h1⟩ => ?_)
  unfold rdTK at h1
  cases e : trD d1 with
  | none => rw [e] at h1; exact h1.elim
  | some b =>
    rw [e] at h1
    exact ⟨b, truV_of I1.sub r1 e, h1 H1 G1 (Stp.refl _ _ _ _) I1⟩
theorem dt_truth (ha : PE X a (rd X.K fa)) (he : ∀ whole, isTrue a X.env whole = (do let v ← whole; standAt a.pos; holding [v] (truthy v)) := by intro _; rfl) : PT X a (rdT X.K (tTr fa)) :=
  pt_imp (pt_truth ha he) rd_Tr
def tAndD (a b : FT) : FT := bndT_T a fun x => if x = true then b else fun ρ => .ok (false, ρ)
def tOrD (a b : FT) : FT := bndT_T a fun x => if x = true then fun ρ => .ok (true, ρ) else b
def tNotD (a : FT) : FT := bndT_T a fun x => fun ρ => .ok (!x, ρ)
variable {ta tb : FT} {rest : List Expr}
theorem dt_not (ha : PT X a (rdT X.K ta)) : PT X (.UnaryOp .Not a pos) (rdT X.K (tNotD ta)) := by
  refine pt_imp (pt_not ha) fun σ H Q ⟨ρ, G, I, h⟩ => ?_
  refine rdT_of I (rdTK_mono (rdTK_bndT h) fun b H1 ⟨ρ1, G1, s1, I1, h1⟩ => ?_)
  exact h1 H1 G1 (Stp.refl _ _ _ _) I1
theorem dw_and1 (ha : PT X a (rdT X.K ta)) : PW X (.BoolOp .And [a] pos) (rdT X.K ta) := pw_and1 ha
theorem dw_or1 (ha : PT X a (rdT X.K ta)) : PW X (.BoolOp .Or [a] pos) (rdT X.K ta) := pw_or1 ha
theorem dw_and (ha : PT X a (rdT X.K ta)) (hb : PW X (.BoolOp .And (b :: rest) pos) (rdT X.K tb)) : PW X (.BoolOp .And (a :: b :: rest) pos) (rdT X.K (tAndD ta tb)) := by
  refine pw_imp (pw_and ha hb) fun σ H Q ⟨ρ, G, I, h⟩ => ?_
  refine rdT_of I (rdTK_mono (rdTK_bndT h) fun b H1 ⟨ρ1, G1, s1, I1, h1⟩ => ?_)
  cases b with
  | true => exact rdT_of I1 h1
  | false => exact h1 H1 G1 (Stp.refl _ _ _ _) I1
theorem dw_or (ha : PT X a (rdT X.K ta)) (hb : PW X (.BoolOp .Or (b :: rest) pos) (rdT X.K tb)) : PW X (.BoolOp .Or (a :: b :: rest) pos) (rdT X.K (tOrD ta tb)) := by
  refine pw_imp (pw_or ha hb) fun σ H Q ⟨ρ, G, I, h⟩ => ?_
  refine rdT_of I (rdTK_mono (rdTK_bndT h) fun b H1 ⟨ρ1, G1, s1, I1, h1⟩ => ?_)
  cases b with
  | false => exact rdT_of I1 h1
  | true => exact h1 H1 G1 (Stp.refl _ _ _ _) I1
/-! .. as values, all but the last truths -/
def eAnd (a b : FE) : FE := bnd a fun x => match x with | .bl true => b | .bl false => eC (.bl false) | _ => fun _ => .no
def eOr (a b : FE) : FE := bnd a fun x => match x with | .bl false => b | .bl true => eC (.bl true) | _ => fun _ => .no
def eNot (a : FE) : FE := e1 (fun x => match x with | .bl b => some (.bl (!b)) | _ => none) a
def eIf (t : FT) (a b : FE) : FE := bndT t fun x => if x = true then a else b
theorem de_one {op} (ha : PE X a (rd X.K fa)) : PE X (.BoolOp op [a] pos) (rd X.K fa) := pe_one ha
theorem de_and (ha : PE X a (rd X.K fa)) (hb : PE X (.BoolOp .And (b :: rest) pos) (rd X.K fb)) : PE X (.BoolOp .And (a :: b :: rest) pos) (rd X.K (eAnd fa fb)) := by
  refine pe_imp (pe_and ha hb) fun σ H Q ⟨ρ, G, I, h⟩ => ?_
  refine rd_of I (rdK_mono (rdK_bnd h) fun v H1 ⟨d, ρ1, G1, s1, I1, r1, h1⟩ => ?_)
  cases d with
  | bl c =>
    simp only [Rep] at r1
    subst r1
    refine ⟨c, rfl, ?_⟩
    cases c with
    | true => exact rd_of I1 h1
    | false => exact h1 _ H1 G1 (Stp.refl _ _ _ _) I1 (by simp only [Rep])
  | _ => exact False.elim h1
theorem de_or (ha : PE X a (rd X.K fa)) (hb : PE X (.BoolOp .Or (b :: rest) pos) (rd X.K fb)) : PE X (.BoolOp .Or (a :: b :: rest) pos) (rd X.K (eOr fa fb)) := by
  refine pe_imp (pe_or ha hb) fun σ H Q ⟨ρ, G, I, h⟩ => ?_
  refine rd_of I (rdK_mono (rdK_bnd h) fun v H1 ⟨d, ρ1, G1, s1, I1, r1, h1⟩ => ?_)
  cases d with
  | bl c =>
    simp only [Rep] at r1
    subst r1
    refine ⟨c, rfl, ?_⟩
    cases c with
    | false => exact rd_of I1 h1
    | true => exact h1 _ H1 G1 (Stp.refl _ _ _ _) I1 (by simp only [Rep])
  | _ => exact False.elim h1
theorem de_not (ha : PE X a (rd X.K fa)) : PE X (.UnaryOp .Not a pos) (rd X.K (eNot fa)) := by
  refine pe_imp (pe_not ha) fun σ H Q ⟨ρ, G, I, h⟩ => ?_
  unfold eNot e1 at h
  refine rd_of I (rdK_mono (rdK_bnd h) fun v H1 ⟨d, ρ1, G1, s1, I1, r1, h1⟩ => ?_)
  obtain ⟨d', e, q⟩ := rdK_ofO h1 I1
  cases d with
  | bl c =>
    simp only [Rep] at r1
    subst r1
    cases e
    exact ⟨c, rfl, q _ H1 G1 (PStp.refl I1.sub) (by simp only [Rep])⟩
  | _ => cases e
theorem de_if (hc : PT X c (rdT X.K ta)) (ha : PE X a (rd X.K fa)) (hb : PE X b (rd X.K fb)) : PE X (.IfExp c a b pos) (rd X.K (eIf ta fa fb)) := by
  refine pe_imp (pe_ifExp hc ha hb) fun σ H Q ⟨ρ, G, I, h⟩ => ?_
  refine rdT_of I (rdTK_mono (rdK_bndT h) fun b H1 ⟨ρ1, G1, s1, I1, h1⟩ => ?_)
  cases b with
  | true => exact rd_of I1 h1
  | false => exact rd_of I1 h1
/-- a op b op' c -/
def eCh (op op' : D → D → Option D) (fa fb fc : FE) : FE := bnd fa fun x => bnd fb fun y => match op x y with
  | some (.bl true) => bnd fc fun z => fun ρ => ofO (op' y z) ρ
  | some (.bl false) => eC (.bl false)
  | _ => fun _ => .no
theorem rd_ch {op op' : D → D → Option D} {r r' : R2} (hd : OpD X.K r op) (hd' : OpD X.K r' op') (σ : L2.St) (H : Hp) (Q : VK) (h : rd X.K (eCh op op' fa fb fc) σ H Q) : tChain r r' (rd X.K fa) (rd X.K fb) (rd X.K fc) σ H Q := by
  obtain ⟨ρ, G, I, h⟩ := h
  refine rd_of I (rdK_mono (rdK_bnd h) fun v H1 ⟨d1, ρ1, G1, s1, I1, r1, h1⟩ => ?_)
  refine rd_of I1 (rdK_mono (rdK_bnd h1) fun u H2 ⟨d2, ρ2, G2, s2, I2, r2, h2⟩ => ?_)
  cases e : op d1 d2 with
  | none => rw [e] at h2; exact False.elim h2
  | some z =>
    cases z with
    | bl k =>
      refine hd G2 H2 d1 d2 (.bl k) v u _ I2.sub (Rep.mono s2.sub _ _ r1) r2 e fun z H3 G3 p rz => ?_
      simp only [Rep] at rz
      subst rz
      refine ⟨k, rfl, ?_⟩
      have I3 := I2.pure p
      rw [e] at h2
      cases k with
      | true =>
        refine rd_of I3 ?_
        have h3 : rdK X.K (bnd fc fun z => fun ρ => ofO (op' d2 z) ρ) σ ρ2 G3 H3 Q := by
          dsimp only at h2
          unfold rdK at h2 ⊢
          split <;> rename_i e4 <;> rw [e4] at h2
          · exact fun v H' G' a b c => h2 v H' G' (p.stp.trans a) b c
          · exact h2
          · exact h2
        refine rdK_mono (rdK_bnd h3) fun w' H4 ⟨d3, ρ3, G4, s4, I4, r4, h4⟩ => ?_
        obtain ⟨d, e5, q⟩ := rdK_ofO h4 I4
        exact hd' G4 H4 d2 d3 d u w' Q I4.sub (Rep.mono s4.sub _ _ (Rep.mono p.sub _ _ r2)) r4 e5 q
      | false => exact h2 _ H3 G3 p.stp I3 (by simp only [Rep])
    | _ => rw [e] at h2; exact False.elim h2
theorem de_chain {o o' : CmpOp} {op op' : D → D → Option D} {r r' : R2} (ho : OpR X (compareOp o) r) (hd : OpD X.K r op) (ho' : OpR X (compareOp o') r') (hd' : OpD X.K r' op') (ha : PE X a (rd X.K fa)) (hb : PE X b (rd X.K fb)) (hc : PE X c (rd X.K fc))
    (hm : lastMarks [o, o'] [b, c] = false := by with_unfolding_all rfl) : PE X (.Compare a [o, o'] [b, c] pos) (rd X.K (eCh op op' fa fb fc)) := pe_imp (pe_chain ho ho' ha hb hc hm) (rd_ch hd hd')
theorem dt_chain {o o' : CmpOp} {op op' : D → D → Option D} {r r' : R2} (ho : OpR X (compareOp o) r) (hd : OpD X.K r op) (ho' : OpR X (compareOp o') r') (hd' : OpD X.K r' op') (ha : PE X a (rd X.K fa)) (hb : PE X b (rd X.K fb)) (hc : PE X c (rd X.K fc))
    (hm : lastMarks [o, o'] [b, c] = false := by with_unfolding_all rfl) : PT X (.Compare a [o, o'] [b, c] pos) (rdT X.K (M.tB (eCh op op' fa fb fc))) := pt_imp (pt_chain ho ho' ha hb hc hm) fun σ H Q h => rd_ch hd hd' _ _ _ (rd_B _ _ _ h)

/-! arguments, displays -/
def aNil : FA := fun ρ => .ok ([], ρ)
def aCons (fa : FE) (fr : FA) : FA := fun ρ => (fa ρ).bind fun p => (fr p.2).bind fun q => .ok (p.1 :: q.1, q.2)
variable {es : List Expr} {fs : FA}
theorem da_nil : PA X [] (rdA X.K aNil) := by
  refine pa_imp pa_nil fun σ H Q ⟨ρ, G, I, h⟩ => ?_
  exact h [] H G (Stp.refl _ _ _ _) I Reps.nil
theorem da_cons (ha : PE X a (rd X.K fa)) (hr : PA X es (rdA X.K fs)) (hs : starEach (a :: es) X.env = (false, eval a X.env) :: starEach es X.env := by rfl) : PA X (a :: es) (rdA X.K (aCons fa fs)) := by
  refine pa_imp (pa_cons ha hr hs) fun σ H Q ⟨ρ, G, I, h⟩ => ?_
  unfold aCons at h
  refine rd_of I ?_
  unfold rdK
  cases e : fa ρ with
  | ok p =>
    obtain ⟨d, ρ1⟩ := p
    rw [e] at h
    dsimp only [Rz.bind] at h ⊢
    intro v H1 G1 s1 I1 r1
    refine rdA_of I1 ?_
    unfold rdAK
    cases e2 : fs ρ1 with
    | ok q =>
      obtain ⟨ds, ρ2⟩ := q
      rw [e2] at h
      dsimp only at h ⊢
      intro vs H2 G2 s2 I2 r2
      exact h (v :: vs) H2 G2 (s1.trans s2) I2 (Reps.cons (Rep.mono s2.sub _ _ r1) r2)
    | ex _ _ => rw [e2] at h; exact h
    | no => rw [e2] at h; exact h
  | ex _ _ => rw [e] at h; exact h
  | no => rw [e] at h; exact h
def eTup (f : FA) : FE := bndA f fun ds => fun ρ => if ds.length ≤ sizeLine then .ok (.tup ds, ρ) else .no
def eLst (f : FA) : FE := bndA f fun ds => fun ρ => if ds.length ≤ sizeLine then .ok (.lst ds, ρ) else .no
theorem Rep.tup_new {K : PySem.W.Frag} {G : Hp} {p : Addr} {ds : List D} {vs : List V} (n : G p = none) (r : Reps K G ds vs) : Rep K (upd G p (.tup vs)) (.tup ds) (.ref p) := by
  simp only [Rep]
  exact ⟨p, vs, rfl, SqT.of upd_same, Reps.mono (same_upd n) _ _ r⟩
theorem Rep.lst_new {K : PySem.W.Frag} {G : Hp} {p : Addr} {ds : List D} {vs : List V} (n : G p = none) (r : Reps K G ds vs) : Rep K (upd G p (.lst vs)) (.lst ds) (.ref p) := by
  simp only [Rep]
  exact ⟨p, vs, rfl, upd_same, Reps.mono (same_upd n) _ _ r⟩
theorem de_tup {x1} (h : PA X es (rdA X.K fs)) : PE X (.Tuple es x1 pos) (rd X.K (eTup fs)) := by
  refine pe_imp (pe_tup h) fun σ H Q ⟨ρ, G, I, h⟩ => ?_
  refine rdA_of I (rdAK_mono (rdK_bndA h) fun vs H1 ⟨ds, ρ1, G1, s1, I1, r1, h1⟩ => ?_)
  unfold rdK at h1
  by_cases z : ds.length ≤ sizeLine
  · simp only [if_pos z] at h1
    refine ⟨by rw [r1.length]; exact z, fun p hp => ?_⟩
    have P := PStp.laid (o := .tup vs) I1.sub hp
    exact h1 _ _ _ P.stp (I1.pure P) (Rep.tup_new (I1.sub.free hp) r1)
  · simp only [if_neg z] at h1
theorem de_lst (h : PA X es (rdA X.K fs)) : PE X (.List es pos) (rd X.K (eLst fs)) := by
  refine pe_imp (pe_lst h) fun σ H Q ⟨ρ, G, I, h⟩ => ?_
  refine rdA_of I (rdAK_mono (rdK_bndA h) fun vs H1 ⟨ds, ρ1, G1, s1, I1, r1, h1⟩ => ?_)
  unfold rdK at h1
  by_cases z : ds.length ≤ sizeLine
  · simp only [if_pos z] at h1
    refine ⟨by rw [r1.length]; exact z, fun p hp => ?_⟩
    have P := PStp.laid (o := .lst vs) I1.sub hp
    exact h1 _ _ _ P.stp (I1.pure P) (Rep.lst_new (I1.sub.free hp) r1)
  · simp only [if_neg z] at h1
/-! built-ins by name -/
def eB (op : List D → Option D) (f : FA) : FE := bndA f fun ds => fun ρ => ofO (op ds) ρ
theorem rd_Bi {op : List D → Option D} {r : List V → Hp → VK → Prop} (hd : CallD X.K r op) (σ : L2.St) (H : Hp) (Q : VK) (h : rd X.K (eB op fs) σ H Q) : tCB r (rdA X.K fs) σ H Q := by
  obtain ⟨ρ, G, I, h⟩ := h
  refine rdA_of I (rdAK_mono (rdK_bndA h) fun vs H1 ⟨ds, ρ1, G1, s1, I1, r1, h1⟩ => ?_)
  obtain ⟨d, e, q⟩ := rdK_ofO h1 I1
  exact hd G1 H1 ds d vs Q I1.sub r1 e q
variable {x : Str} {p : Pos} {id T : String}
theorem de_callB {op : List D → Option D} {r : List V → Hp → VK → Prop} (hc : CallR X (.builtin id) r) (hd : CallD X.K r op) (hg : Gl X x) (hm : X.mg x = none) (hv : bootBuiltins x = some (.builtin id)) (ha : PA X (a :: es) (rdA X.K fs)) (hn : x ≠ "__name__" := by decide) (hdb : (x == ("__debug__" : Str)) = false := by decide)
    (he : starEach (a :: es) X.env = (false, eval a X.env) :: starEach es X.env := by rfl) (hpl : (backTo pos (starEach es X.env)).any (·.1) = false := by rfl) : PE X (.Call (.Name x p) (a :: es) [] pos) (rd X.K (eB op fs)) :=
  pe_imp (pe_callB hc hg hm hv ha hn hdb he hpl) (rd_Bi hd)
theorem de_callTy {op : List D → Option D} {r : List V → Hp → VK → Prop} (hc : CallR X (.type T) r) (hd : CallD X.K r op) (hg : Gl X x) (hm : X.mg x = none) (hv : bootBuiltins x = some (.type T)) (ha : PA X (a :: es) (rdA X.K fs)) (hn : x ≠ "__name__" := by decide) (hdb : (x == ("__debug__" : Str)) = false := by decide)
    (he : starEach (a :: es) X.env = (false, eval a X.env) :: starEach es X.env := by rfl) (hpl : (backTo pos (starEach es X.env)).any (·.1) = false := by rfl) : PE X (.Call (.Name x p) (a :: es) [] pos) (rd X.K (eB op fs)) :=
  pe_imp (pe_callTy hc hg hm hv ha hn hdb he hpl) (rd_Bi hd)
end
end M

namespace M
open PySem PySem.Spec L2
/-- quick tests of order -/
def iLt : Int → Int → Bool
  | .ofNat m, .ofNat n => Nat.blt m n
  | .ofNat _, .negSucc _ => false
  | .negSucc _, .ofNat _ => true
  | .negSucc m, .negSucc n => Nat.blt n m
theorem blt_dec (m n : Nat) : Nat.blt m n = decide (m < n) := by
  rw [Bool.eq_iff_iff, decide_eq_true_eq]
  unfold Nat.blt
  rw [Nat.ble_eq]
  exact Iff.rfl
theorem iLt_eq : ∀ i j : Int, iLt i j = decide (i < j)
  | .ofNat m, .ofNat n => by
    show Nat.blt m n = _
    rw [blt_dec, Bool.eq_iff_iff, decide_eq_true_eq, decide_eq_true_eq]
    exact Int.ofNat_lt.symm
  | .ofNat m, .negSucc n => by
    have : ¬ ((Int.ofNat m) < .negSucc n) := by have := Int.negSucc_lt_zero n; have := Int.natCast_nonneg m; show ¬ ((m : Int) < _); omega
    rw [decide_eq_false this]; rfl
  | .negSucc m, .ofNat n => by
    have : (Int.negSucc m) < .ofNat n := by have := Int.negSucc_lt_zero m; have := Int.natCast_nonneg n; show _ < (n : Int); omega
    rw [decide_eq_true this]; rfl
  | .negSucc m, .negSucc n => by
    show Nat.blt n m = _
    rw [blt_dec, Bool.eq_iff_iff, decide_eq_true_eq, decide_eq_true_eq]
    constructor
    · intro h; rw [Int.negSucc_eq, Int.negSucc_eq]; omega
    · intro h; rw [Int.negSucc_eq, Int.negSucc_eq] at h; omega
theorem not_iLt (i j : Int) : (!iLt i j) = decide (j ≤ i) := by
  rw [iLt_eq, Bool.eq_iff_iff, Bool.not_eq_true', decide_eq_false_iff_not, decide_eq_true_eq]
  omega
def small (i : Int) : Bool := iLt (-18446744073709551616) i && iLt i 18446744073709551616
theorem small_of {i : Int} (h : small i = true) : -(2 ^ 64) < i ∧ i < 2 ^ 64 := by
  unfold small at h
  rw [iLt_eq, iLt_eq, Bool.and_eq_true, decide_eq_true_eq, decide_eq_true_eq] at h
  omega
theorem small_iff {i : Int} : small i = true ↔ -(2 ^ 64) < i ∧ i < 2 ^ 64 := by
  refine ⟨small_of, fun h => ?_⟩
  unfold small
  rw [iLt_eq, iLt_eq, Bool.and_eq_true, decide_eq_true_eq, decide_eq_true_eq]
  omega
variable [Tabs]

/-! ### data as the library's plain data -/
mutual
def pd : D → PyData
  | .non => .none
  | .bl b => .bool b
  | .int i => .int i
  | .str x => .str x
  | .tup ds => .tuple (pds ds)
  | .lst ds => .list (pds ds)
  | .scr _ => .dict []
  | .con _ => .dict []
def pds : List D → List PyData
  | [] => []
  | d :: ds => pd d :: pds ds
end
/- nothing in it that is no plain data -/
mutual
def plain : D → Bool
  | .tup ds => plains ds
  | .lst ds => plains ds
  | .scr _ => false
  | .con _ => false
  | _ => true
def plains : List D → Bool
  | [] => true
  | d :: ds => plain d && plains ds
end
mutual
theorem dp_of {K : PySem.W.Frag} {H : Hp} : ∀ (d : D) (v : V), Rep K H d v → plain d = true → Dp K H v (pd d)
  | .non, v, h, _ => by simp only [Rep] at h; subst h; exact .non
  | .bl b, v, h, _ => by simp only [Rep] at h; subst h; exact .bl b
  | .int i, v, h, _ => by simp only [Rep] at h; subst h; exact .int i
  | .str x, v, h, _ => by simp only [Rep] at h; subst h; exact .str x
  | .tup ds, v, h, p => by
    simp only [Rep] at h
    obtain ⟨a, vs, rfl, q, r⟩ := h
    simp only [pd]
    simp only [plain] at p
    exact .tup q (dps_of ds vs r p)
  | .lst ds, v, h, p => by
    simp only [Rep] at h
    obtain ⟨a, vs, rfl, q, r⟩ := h
    simp only [pd]
    simp only [plain] at p
    exact .lst (SqL.of q) (dps_of ds vs r p)
  | .scr _, v, h, p => by simp [plain] at p
  | .con _, v, h, p => by simp [plain] at p
theorem dps_of {K : PySem.W.Frag} {H : Hp} : ∀ (ds : List D) (vs : List V), Reps K H ds vs → plains ds = true → DpAll K H vs (pds ds)
  | [], vs, h, _ => by simp only [Reps] at h; subst h; exact .nil
  | d :: ds, vs, h, p => by
    simp only [Reps] at h
    obtain ⟨v, r, rfl, h1, h2⟩ := h
    simp only [plains, Bool.and_eq_true] at p
    simp only [pds]
    exact .cons (dp_of d v h1 p.1) (dps_of ds r h2 p.2)
end
/-- == of data -/
def deq (d e : D) : Option Bool := if plain d = true ∧ plain e = true ∧ SeqAt.shaped (pd d) = true ∧ SeqAt.shaped (pd e) = true then some (PyData.eqv (pd d) (pd e)) else none
def eqD (d e : D) : Option D := (deq d e).map D.bl
def neD (d e : D) : Option D := (deq d e).map fun b => D.bl (!b)
section
variable {K : PySem.W.Frag}
theorem rep_bl {G : Hp} (b : Bool) : Rep K G (.bl b) (.bl b) := by simp only [Rep]
theorem rep_int {G : Hp} (b : Int) : Rep K G (.int b) (.int b) := by simp only [Rep]
theorem rep_str {G : Hp} (b : Str) : Rep K G (.str b) (.str b) := by simp only [Rep]
theorem rep_non {G : Hp} : Rep K G .non .non := by simp only [Rep]
theorem deq_of {G H : Hp} {d e : D} {v u : V} {b : Bool} (s : Same G H) (r1 : Rep K G d v) (r2 : Rep K G e u) (h : deq d e = some b) :
    ∃ x y, Dp K H v x ∧ Dp K H u y ∧ SeqAt.shaped x = true ∧ SeqAt.shaped y = true ∧ PyData.eqv x y = b := by
  unfold deq at h
  split at h
  · rename_i c
    cases h
    exact ⟨pd d, pd e, dp_of d v (Rep.mono s _ _ r1) c.1, dp_of e u (Rep.mono s _ _ r2) c.2.1, c.2.2.1, c.2.2.2, rfl⟩
  · cases h
theorem od_eq : OpD K (rEqD K) eqD := by
  intro G H d1 d2 d v1 v2 Q s r1 r2 e q
  unfold eqD at e
  cases h : deq d1 d2 with
  | none => rw [h] at e; cases e
  | some b =>
    rw [h] at e; cases e
    obtain ⟨x, y, h1, h2, h3, h4, rfl⟩ := deq_of s r1 r2 h
    exact ⟨x, y, h1, h2, h3, h4, q _ H G (PStp.refl s) (rep_bl _)⟩
theorem od_ne : OpD K (rNeD K) neD := by
  intro G H d1 d2 d v1 v2 Q s r1 r2 e q
  unfold neD at e
  cases h : deq d1 d2 with
  | none => rw [h] at e; cases e
  | some b =>
    rw [h] at e; cases e
    obtain ⟨x, y, h1, h2, h3, h4, rfl⟩ := deq_of s r1 r2 h
    exact ⟨x, y, h1, h2, h3, h4, q _ H G (PStp.refl s) (rep_bl _)⟩
/-! ints -/
def ltD : D → D → Option D | .int i, .int j => some (.bl (iLt i j)) | _, _ => none
def leD : D → D → Option D | .int i, .int j => some (.bl (!iLt j i)) | _, _ => none
def gtD : D → D → Option D | .int i, .int j => some (.bl (iLt j i)) | _, _ => none
def geD : D → D → Option D | .int i, .int j => some (.bl (!iLt i j)) | _, _ => none
theorem od_lt : OpD K (rI0 fun i j => .bl (decide (i < j))) ltD := by
  intro G H d1 d2 d v1 v2 Q s r1 r2 e q
  unfold ltD at e
  split at e
  · simp only [Rep] at r1 r2; subst r1 r2; cases e
    refine ⟨_, _, rfl, rfl, ?_⟩
    have q' := q _ H G (PStp.refl s) (rep_bl _)
    rw [iLt_eq] at q'
    exact q'
  · cases e
theorem od_le : OpD K (rI0 fun i j => .bl (decide (i ≤ j))) leD := by
  intro G H d1 d2 d v1 v2 Q s r1 r2 e q
  unfold leD at e
  split at e
  · simp only [Rep] at r1 r2; subst r1 r2; cases e
    refine ⟨_, _, rfl, rfl, ?_⟩
    have q' := q _ H G (PStp.refl s) (rep_bl _)
    rw [not_iLt] at q'
    exact q'
  · cases e
theorem od_gt : OpD K (rI0 fun i j => .bl (decide (j < i))) gtD := by
  intro G H d1 d2 d v1 v2 Q s r1 r2 e q
  unfold gtD at e
  split at e
  · simp only [Rep] at r1 r2; subst r1 r2; cases e
    refine ⟨_, _, rfl, rfl, ?_⟩
    have q' := q _ H G (PStp.refl s) (rep_bl _)
    rw [iLt_eq] at q'
    exact q'
  · cases e
theorem od_ge : OpD K (rI0 fun i j => .bl (decide (j ≤ i))) geD := by
  intro G H d1 d2 d v1 v2 Q s r1 r2 e q
  unfold geD at e
  split at e
  · simp only [Rep] at r1 r2; subst r1 r2; cases e
    refine ⟨_, _, rfl, rfl, ?_⟩
    have q' := q _ H G (PStp.refl s) (rep_bl _)
    rw [not_iLt] at q'
    exact q'
  · cases e
/-! is None -/
def isNone : D → Option Bool | .non => some true | .con .non => none | _ => some false
def isND (d e : D) : Option D := match e with | .non => (isNone d).map D.bl | _ => none
def notND (d e : D) : Option D := match e with | .non => (isNone d).map fun b => D.bl (!b) | _ => none
theorem isNone_of {G : Hp} {d : D} {v : V} {b : Bool} (r : Rep K G d v) (h : isNone d = some b) : decide (v = .non) = b := by
  cases d with
  | non => simp only [Rep] at r; subst r; cases h; rfl
  | con u =>
    simp only [Rep] at r; subst r
    cases v <;> first | (cases h; done) | (cases h; rfl)
  | tup ds => simp only [Rep] at r; obtain ⟨a, vs, rfl, _⟩ := r; cases h; rfl
  | lst ds => simp only [Rep] at r; obtain ⟨a, vs, rfl, _⟩ := r; cases h; rfl
  | scr ds => simp only [Rep] at r; obtain ⟨a, rfl, _⟩ := r; cases h; rfl
  | bl _ => simp only [Rep] at r; subst r; cases h; rfl
  | int _ => simp only [Rep] at r; subst r; cases h; rfl
  | str _ => simp only [Rep] at r; subst r; cases h; rfl
theorem od_isN : OpD K (fun x y H Q => y = .non ∧ Q (.bl (decide (x = .non))) H) isND := by
  intro G H d1 d2 d v1 v2 Q s r1 r2 e q
  unfold isND at e
  split at e
  · simp only [Rep] at r2; subst r2
    cases h : isNone d1 with
    | none => rw [h] at e; cases e
    | some b =>
      rw [h] at e; cases e
      refine ⟨rfl, ?_⟩
      rw [isNone_of r1 h]
      exact q _ H G (PStp.refl s) (rep_bl _)
  · cases e
theorem od_notN : OpD K (fun x y H Q => y = .non ∧ Q (.bl (!decide (x = .non))) H) notND := by
  intro G H d1 d2 d v1 v2 Q s r1 r2 e q
  unfold notND at e
  split at e
  · simp only [Rep] at r2; subst r2
    cases h : isNone d1 with
    | none => rw [h] at e; cases e
    | some b =>
      rw [h] at e; cases e
      refine ⟨rfl, ?_⟩
      rw [isNone_of r1 h]
      exact q _ H G (PStp.refl s) (rep_bl _)
  · cases e
/-! arithmetic -/
def rAddA (K : PySem.W.Frag) : R2 := fun x y H Q => rI0 (fun i j => .int (i + j)) x y H Q ∨ (∃ i j, x = .str i ∧ y = .str j ∧ i.length + j.length ≤ sizeLine ∧ Q (.str (i ++ j)) H) ∨ rCat x y H Q ∨ rCatA K x y H Q
theorem op_addA {X : Cx} : OpR X (binaryOp .Add) (rAddA X.K) := op_add.or (op_add_str.or (op_cat.or op_catA))
def addD : D → D → Option D
  | .int i, .int j => some (.int (i + j))
  | .str a, .str b => if a.length + b.length ≤ sizeLine then some (.str (a ++ b)) else none
  | .lst a, .lst b => if a.length + b.length ≤ sizeLine then some (.lst (a ++ b)) else none
  | .tup a, .tup b => if a.length + b.length ≤ sizeLine then some (.tup (a ++ b)) else none
  | _, _ => none
theorem od_add : OpD K (rAddA K) addD := by
  intro G H d1 d2 d v1 v2 Q s r1 r2 e q
  unfold addD at e
  split at e
  · simp only [Rep] at r1 r2; subst r1 r2; cases e
    exact .inl ⟨_, _, rfl, rfl, q _ H G (PStp.refl s) (rep_int _)⟩
  · simp only [Rep] at r1 r2; subst r1 r2
    split at e
    · rename_i hz
      cases e
      exact .inr (.inl ⟨_, _, rfl, rfl, hz, q _ H G (PStp.refl s) (rep_str _)⟩)
    · cases e
  · simp only [Rep] at r1 r2
    obtain ⟨a, vs, rfl, h1, q1⟩ := r1
    obtain ⟨b, us, rfl, h2, q2⟩ := r2
    split at e
    · rename_i hz
      cases e
      refine .inr (.inr (.inl ⟨a, b, vs, us, rfl, rfl, s _ _ h1, s _ _ h2, by rw [q1.length, q2.length]; exact hz, fun p hp => ?_⟩))
      exact q _ _ _ (PStp.laid s hp) (Rep.lst_new (s.free hp) (q1.append q2))
    · cases e
  · simp only [Rep] at r1 r2
    obtain ⟨a, vs, rfl, h1, q1⟩ := r1
    obtain ⟨b, us, rfl, h2, q2⟩ := r2
    split at e
    · rename_i hz
      cases e
      refine .inr (.inr (.inr ⟨a, b, vs, us, rfl, rfl, SqT.mono s h1, SqT.mono s h2, by rw [q1.length, q2.length]; exact hz, fun e => ?_, fun _ e => ?_, fun _ _ p hp => ?_⟩))
      · subst e
        refine q _ H G (PStp.refl s) ?_
        simp only [Rep]
        exact ⟨b, us, rfl, h2, by simpa using q1.append q2⟩
      · subst e
        refine q _ H G (PStp.refl s) ?_
        simp only [Rep]
        exact ⟨a, vs, rfl, h1, by simpa using q1.append q2⟩
      · exact q _ _ _ (PStp.laid s hp) (Rep.tup_new (s.free hp) (q1.append q2))
    · cases e
  · cases e
def subD : D → D → Option D | .int i, .int j => some (.int (i - j)) | _, _ => none
theorem od_sub : OpD K (rI0 fun i j => .int (i - j)) subD := by
  intro G H d1 d2 d v1 v2 Q s r1 r2 e q
  unfold subD at e
  split at e
  · simp only [Rep] at r1 r2; subst r1 r2; cases e
    exact ⟨_, _, rfl, rfl, q _ H G (PStp.refl s) (rep_int _)⟩
  · cases e
/-- a list times an int is in MulL -/
def mulD : D → D → Option D | .int i, .int j => if small i = true ∨ small j = true then some (.int (i * j)) else none | _, _ => none
theorem od_mul : OpD K (rI CMul fun i j => .int (i * j)) mulD := by
  intro G H d1 d2 d v1 v2 Q s r1 r2 e q
  unfold mulD at e
  split at e
  · simp only [Rep] at r1 r2; subst r1 r2
    split at e
    · rename_i c
      cases e
      refine ⟨_, _, rfl, rfl, ?_, q _ H G (PStp.refl s) (rep_int _)⟩
      exact c.imp small_of small_of
    · cases e
  · cases e
def fdivD : D → D → Option D | .int i, .int j => if 0 < j ∧ j.natAbs.log2 < 9000 then some (.int (i / j)) else none | _, _ => none
theorem od_fdiv : OpD K (rI CDivW fun i j => .int (i / j)) fdivD := by
  intro G H d1 d2 d v1 v2 Q s r1 r2 e q
  unfold fdivD at e
  split at e
  · simp only [Rep] at r1 r2; subst r1 r2
    split at e
    · rename_i c
      cases e
      exact ⟨_, _, rfl, rfl, c, q _ H G (PStp.refl s) (rep_int _)⟩
    · cases e
  · cases e
def modD : D → D → Option D | .int i, .int j => if 0 < j then some (.int (i % j)) else none | _, _ => none
theorem od_mod : OpD K (rI (fun _ j => 0 < j) fun i j => .int (i % j)) modD := by
  intro G H d1 d2 d v1 v2 Q s r1 r2 e q
  unfold modD at e
  split at e
  · simp only [Rep] at r1 r2; subst r1 r2
    split at e
    · rename_i c
      cases e
      exact ⟨_, _, rfl, rfl, c, q _ H G (PStp.refl s) (rep_int _)⟩
    · cases e
  · cases e
def CPowW (i j : Int) : Prop := 0 ≤ j ∧ (Builtin.Int.intBits i : Int) * j ≤ 2 ^ 27
theorem op_powW {X : Cx} : OpR X (binaryOp .Pow) (rI CPowW fun i j => .int (i ^ j.toNat)) := opI fun _ _ _ _ _ _ _ hc q => PyProof.Rows.pow_int hc.1 hc.2 q
def powD : D → D → Option D | .int i, .int j => if 0 ≤ j ∧ (Builtin.Int.intBits i : Int) * j ≤ 2 ^ 27 then some (.int (i ^ j.toNat)) else none | _, _ => none
theorem od_pow : OpD K (rI CPowW fun i j => .int (i ^ j.toNat)) powD := by
  intro G H d1 d2 d v1 v2 Q s r1 r2 e q
  unfold powD at e
  split at e
  · simp only [Rep] at r1 r2; subst r1 r2
    split at e
    · rename_i c
      cases e
      exact ⟨_, _, rfl, rfl, c, q _ H G (PStp.refl s) (rep_int _)⟩
    · cases e
  · cases e
def negD : D → Option D | .int i => some (.int (-i)) | _ => none
theorem ud_neg : UnD K (rU fun i => .int (-i)) negD := by
  intro G H d1 d v1 Q s r1 e q
  unfold negD at e
  split at e
  · simp only [Rep] at r1; subst r1; cases e
    exact ⟨_, rfl, q _ H G (PStp.refl s) (rep_int _)⟩
  · cases e
/-! x in a list or tuple of flat things -/
def flatD : D → Bool | .non => true | .bl _ => true | .int _ => true | .str _ => true | _ => false
def eqF : D → D → Bool
  | .non, .non => true
  | .bl a, .bl b => a == b
  | .bl a, .int b => (if a then 1 else 0) == b
  | .int a, .bl b => a == (if b then 1 else 0)
  | .int a, .int b => a == b
  | .str a, .str b => a == b
  | _, _ => false
theorem flat_of {G : Hp} {d : D} {v : V} (r : Rep K G d v) (h : flatD d = true) : flatV v = true := by
  cases d with
  | non => simp only [Rep] at r; subst r; rfl
  | bl _ => simp only [Rep] at r; subst r; rfl
  | int _ => simp only [Rep] at r; subst r; rfl
  | str _ => simp only [Rep] at r; subst r; rfl
  | _ => cases h
theorem eqF_of {G : Hp} {d e : D} {v u : V} (r : Rep K G d v) (r2 : Rep K G e u) (h : flatD d = true) (h2 : flatD e = true) : eqV v u = eqF d e := by
  cases d <;> first | (cases h; done) | skip
  all_goals (cases e <;> first | (cases h2; done) | skip)
  all_goals (simp only [Rep] at r r2; subst r r2; rfl)
theorem flats_of {G : Hp} : ∀ {ds : List D} {vs : List V}, Reps K G ds vs → ds.all flatD = true → vs.all flatV = true
  | [], vs, r, _ => by simp only [Reps] at r; subst r; rfl
  | d :: ds, vs, r, h => by
    simp only [Reps] at r
    obtain ⟨v, us, rfl, r1, r2⟩ := r
    rw [List.all_cons, Bool.and_eq_true] at h ⊢
    exact ⟨flat_of r1 h.1, flats_of r2 h.2⟩
theorem inF_of {G : Hp} {x : D} {w : V} (rx : Rep K G x w) (hx : flatD x = true) : ∀ {ds : List D} {vs : List V}, Reps K G ds vs → ds.all flatD = true → inV w vs = ds.any fun y => eqF y x
  | [], vs, r, _ => by simp only [Reps] at r; subst r; rfl
  | d :: ds, vs, r, h => by
    simp only [Reps] at r
    obtain ⟨v, us, rfl, r1, r2⟩ := r
    rw [List.all_cons, Bool.and_eq_true] at h
    show (eqV v w || inV w us) = _
    rw [List.any_cons, eqF_of r1 rx h.1 hx, inF_of rx hx r2 h.2]
def inSq (x y : D) : Option Bool := match y with
  | .tup ds => if flatD x = true ∧ ds.all flatD = true then some (ds.any fun y => eqF y x) else none
  | .lst ds => if flatD x = true ∧ ds.all flatD = true then some (ds.any fun y => eqF y x) else none
  | _ => none
def inD (x y : D) : Option D := (inSq x y).map D.bl
def notInD (x y : D) : Option D := (inSq x y).map fun b => D.bl (!b)
theorem inSq_of {G H : Hp} {x y : D} {v u : V} {b : Bool} (s : Same G H) (r1 : Rep K G x v) (r2 : Rep K G y u) (h : inSq x y = some b) :
    ∃ p xs, u = .ref p ∧ (SqL K H p xs ∨ SqT K H p xs) ∧ flatV v = true ∧ xs.all flatV = true ∧ inV v xs = b := by
  cases y with
  | tup ds =>
    simp only [inSq] at h
    split at h
    · rename_i c
      cases h
      simp only [Rep] at r2
      obtain ⟨a, vs, rfl, h1, q1⟩ := r2
      exact ⟨a, vs, rfl, .inr (SqT.mono s h1), flat_of r1 c.1, flats_of q1 c.2, inF_of r1 c.1 q1 c.2⟩
    · cases h
  | lst ds =>
    simp only [inSq] at h
    split at h
    · rename_i c
      cases h
      simp only [Rep] at r2
      obtain ⟨a, vs, rfl, h1, q1⟩ := r2
      exact ⟨a, vs, rfl, .inl (SqL.of (s _ _ h1)), flat_of r1 c.1, flats_of q1 c.2, inF_of r1 c.1 q1 c.2⟩
    · cases h
  | _ => cases h
theorem od_in : OpD K (rIn K false) inD := by
  intro G H d1 d2 d v1 v2 Q s r1 r2 e q
  unfold inD at e
  cases h : inSq d1 d2 with
  | none => rw [h] at e; cases e
  | some b =>
    rw [h] at e; cases e
    obtain ⟨p, xs, rfl, h1, h2, h3, rfl⟩ := inSq_of s r1 r2 h
    exact ⟨p, xs, rfl, h1, h2, h3, q _ H G (PStp.refl s) (rep_bl _)⟩
theorem od_notIn : OpD K (rIn K true) notInD := by
  intro G H d1 d2 d v1 v2 Q s r1 r2 e q
  unfold notInD at e
  cases h : inSq d1 d2 with
  | none => rw [h] at e; cases e
  | some b =>
    rw [h] at e; cases e
    obtain ⟨p, xs, rfl, h1, h2, h3, rfl⟩ := inSq_of s r1 r2 h
    exact ⟨p, xs, rfl, h1, h2, h3, q _ H G (PStp.refl s) (rep_bl _)⟩
/-! an item -/
def ixD : D → D → Option D
  | .lst ds, .int i => atI ds i
  | .tup ds, .int i => atI ds i
  | .scr ns, .int i => (atI ns i).map D.int
  | _, _ => none
theorem atI_reps {G : Hp} {ds : List D} {vs : List V} {i : Int} {d : D} (r : Reps K G ds vs) (h : atI ds i = some d) : ∃ v, atI vs i = some v ∧ Rep K G d v := by
  unfold atI at h ⊢
  rw [r.length]
  cases e : ixN ds.length i with
  | none => rw [e] at h; cases h
  | some j =>
    rw [e] at h
    exact Reps.get r h
theorem od_ix : OpD K (fun x y H Q => rIxL K x y H Q ∨ rIxT K x y H Q) ixD := by
  intro G H d1 d2 d v1 v2 Q s r1 r2 e q
  unfold ixD at e
  split at e
  · simp only [Rep] at r1 r2
    obtain ⟨a, vs, rfl, h1, q1⟩ := r1
    subst r2
    obtain ⟨v, e1, rv⟩ := atI_reps q1 e
    exact .inl ⟨a, vs, _, v, rfl, rfl, SqL.of (s _ _ h1), e1, q _ H G (PStp.refl s) rv⟩
  · simp only [Rep] at r1 r2
    obtain ⟨a, vs, rfl, h1, q1⟩ := r1
    subst r2
    obtain ⟨v, e1, rv⟩ := atI_reps q1 e
    exact .inr ⟨a, vs, _, v, rfl, rfl, SqT.mono s h1, e1, q _ H G (PStp.refl s) rv⟩
  · simp only [Rep] at r1 r2
    obtain ⟨a, rfl, h1⟩ := r1
    subst r2
    rename_i ns i
    cases h : atI ns i with
    | none => rw [h] at e; cases e
    | some n =>
      rw [h] at e; cases e
      refine .inl ⟨a, _, _, .int n, rfl, rfl, SqL.mono s h1, ?_, q _ H G (PStp.refl s) (rep_int _)⟩
      unfold atI at h ⊢
      rw [List.length_map]
      cases e : ixN ns.length i with
      | none => rw [e] at h; cases h
      | some j =>
        rw [e] at h
        show (ns.map V.int)[j]? = _
        rw [List.getElem?_map]
        have h : ns[j]? = some n := h
        rw [h]; rfl
  · cases e
theorem de_ix {X : Cx} {a b : Expr} {fa fb : FE} {pos : Pos} (ha : PE X a (rd X.K fa)) (hb : PE X b (rd X.K fb)) (hs : PlainIx b) : PE X (.Subscript a b pos) (rd X.K (e2 ixD fa fb)) :=
  pe_imp (pe_ix (ix_list.or ix_tup) ha hb hs) (rd_2 od_ix)
/-! built-ins -/
def lenD : List D → Option D
  | [.lst ds] => some (.int ds.length)
  | [.tup ds] => some (.int ds.length)
  | [.scr ns] => some (.int ns.length)
  | _ => none
theorem reps1 {G : Hp} {d : D} {vs : List V} (r : Reps K G [d] vs) : ∃ v, vs = [v] ∧ Rep K G d v := by
  simp only [Reps] at r
  obtain ⟨v, r, rfl, h1, h2⟩ := r
  subst h2
  exact ⟨v, rfl, h1⟩
theorem reps2 {G : Hp} {d e : D} {vs : List V} (r : Reps K G [d, e] vs) : ∃ v u, vs = [v, u] ∧ Rep K G d v ∧ Rep K G e u := by
  simp only [Reps] at r
  obtain ⟨v, r, rfl, h1, u, r2, rfl, h2, h3⟩ := r
  subst h3
  exact ⟨v, u, rfl, h1, h2⟩
def rLenQ (K : PySem.W.Frag) : List V → Hp → VK → Prop := fun xs H Q => ∃ p ys, xs = [.ref p] ∧ (SqL K H p ys ∨ SqT K H p ys) ∧ Q (.int ys.length) H
theorem cd_len : CallD K (rLenQ K) lenD := by
  intro G H ds d vs Q s r e q
  unfold lenD at e
  split at e
  · obtain ⟨v, rfl, r1⟩ := reps1 r
    simp only [Rep] at r1
    obtain ⟨a, us, rfl, h1, q1⟩ := r1
    cases e
    refine ⟨a, us, rfl, .inl (SqL.of (s _ _ h1)), ?_⟩
    rw [q1.length]
    exact q _ H G (PStp.refl s) (rep_int _)
  · obtain ⟨v, rfl, r1⟩ := reps1 r
    simp only [Rep] at r1
    obtain ⟨a, us, rfl, h1, q1⟩ := r1
    cases e
    refine ⟨a, us, rfl, .inr (SqT.mono s h1), ?_⟩
    rw [q1.length]
    exact q _ H G (PStp.refl s) (rep_int _)
  · obtain ⟨v, rfl, r1⟩ := reps1 r
    simp only [Rep] at r1
    obtain ⟨a, rfl, h1⟩ := r1
    cases e
    refine ⟨a, _, rfl, .inl (SqL.mono s h1), ?_⟩
    rw [List.length_map]
    exact q _ H G (PStp.refl s) (rep_int _)
  · cases e
def absD : List D → Option D | [.int i] => some (.int (if i < 0 then -i else i)) | _ => none
theorem cd_abs : CallD K (fun xs H Q => ∃ i, xs = [.int i] ∧ Q (.int (if i < 0 then -i else i)) H) absD := by
  intro G H ds d vs Q s r e q
  unfold absD at e
  split at e
  · obtain ⟨v, rfl, r1⟩ := reps1 r
    simp only [Rep] at r1
    subst r1; cases e
    exact ⟨_, rfl, q _ H G (PStp.refl s) (rep_int _)⟩
  · cases e
def intD : List D → Option D | [.int i] => some (.int i) | [.bl k] => some (.int (if k then 1 else 0)) | _ => none
theorem cd_int : CallD K (fun xs H Q => (∃ i, xs = [.int i] ∧ Q (.int i) H) ∨ ∃ k, xs = [.bl k] ∧ Q (.int (if k then 1 else 0)) H) intD := by
  intro G H ds d vs Q s r e q
  unfold intD at e
  split at e
  · obtain ⟨v, rfl, r1⟩ := reps1 r
    simp only [Rep] at r1
    subst r1; cases e
    exact .inl ⟨_, rfl, q _ H G (PStp.refl s) (rep_int _)⟩
  · obtain ⟨v, rfl, r1⟩ := reps1 r
    simp only [Rep] at r1
    subst r1; cases e
    exact .inr ⟨_, rfl, q _ H G (PStp.refl s) (rep_int _)⟩
  · cases e
def maxD : List D → Option D | [.int i, .int j] => some (.int (if j > i then j else i)) | _ => none
def minD : List D → Option D | [.int i, .int j] => some (.int (if j < i then j else i)) | _ => none
theorem cd_max : CallD K (fun xs H Q => ∃ i j, xs = [.int i, .int j] ∧ Q (.int (if j > i then j else i)) H) maxD := by
  intro G H ds d vs Q s r e q
  unfold maxD at e
  split at e
  · obtain ⟨v, u, rfl, r1, r2⟩ := reps2 r
    simp only [Rep] at r1 r2
    subst r1 r2; cases e
    exact ⟨_, _, rfl, q _ H G (PStp.refl s) (rep_int _)⟩
  · cases e
theorem cd_min : CallD K (fun xs H Q => ∃ i j, xs = [.int i, .int j] ∧ Q (.int (if j < i then j else i)) H) minD := by
  intro G H ds d vs Q s r e q
  unfold minD at e
  split at e
  · obtain ⟨v, u, rfl, r1, r2⟩ := reps2 r
    simp only [Rep] at r1 r2
    subst r1 r2; cases e
    exact ⟨_, _, rfl, q _ H G (PStp.refl s) (rep_int _)⟩
  · cases e
/-- the ints of a list of ints -/
def asInts : List D → Option (List Int)
  | [] => some []
  | .int i :: r => (asInts r).map (i :: ·)
  | _ => none
theorem asInts_eq : ∀ {ds : List D} {ns : List Int}, asInts ds = some ns → ds = ns.map D.int
  | [], ns, h => by cases h; rfl
  | d :: ds, ns, h => by
    cases d with
    | int i =>
      simp only [asInts] at h
      cases q : asInts ds with
      | none => rw [q] at h; cases h
      | some ms => rw [q] at h; cases h; rw [List.map_cons, ← asInts_eq q]
    | _ => simp [asInts] at h
theorem asInts_ints (ns : List Int) : asInts (ns.map D.int) = some ns := by
  induction ns with
  | nil => rfl
  | cons n ns ih => rw [List.map_cons]; unfold asInts; rw [ih]; rfl
def asBools : List D → Option (List Bool)
  | [] => some []
  | .bl i :: r => (asBools r).map (i :: ·)
  | _ => none
theorem asBools_eq : ∀ {ds : List D} {ns : List Bool}, asBools ds = some ns → ds = ns.map D.bl
  | [], ns, h => by cases h; rfl
  | d :: ds, ns, h => by
    cases d with
    | bl i =>
      simp only [asBools] at h
      cases q : asBools ds with
      | none => rw [q] at h; cases h
      | some ms => rw [q] at h; cases h; rw [List.map_cons, ← asBools_eq q]
    | _ => simp [asBools] at h
theorem asBools_bools (ns : List Bool) : asBools (ns.map D.bl) = some ns := by
  induction ns with
  | nil => rfl
  | cons n ns ih => rw [List.map_cons]; unfold asBools; rw [ih]; rfl
theorem Reps.bools {G : Hp} : ∀ {ns : List Bool} {vs : List V}, Reps K G (ns.map D.bl) vs → vs = ns.map V.bl
  | [], vs, h => by simp only [List.map_nil, Reps] at h; exact h
  | n :: ns, vs, h => by
    simp only [List.map_cons, Reps, Rep] at h
    obtain ⟨v, r, rfl, rfl, h2⟩ := h
    rw [Reps.bools h2, List.map_cons]
def sumD : List D → Option D | [.lst ds] => (asInts ds).map fun ns => .int ns.sum | _ => none
theorem cd_sum : CallD K (rSum K) sumD := by
  intro G H ds d vs Q s r e q
  unfold sumD at e
  split at e
  · rename_i ds'
    obtain ⟨v, rfl, r1⟩ := reps1 r
    simp only [Rep] at r1
    obtain ⟨a, us, rfl, h1, q1⟩ := r1
    cases h : asInts ds' with
    | none => rw [h] at e; cases e
    | some ns =>
      rw [h] at e; cases e
      rw [asInts_eq h] at q1
      refine ⟨a, ns, rfl, ?_, q _ H G (PStp.refl s) (rep_int _)⟩
      rw [← q1.ints]
      exact SqL.of (s _ _ h1)
  · cases e
def allD : List D → Option D | [.lst ds] => (asBools ds).map fun ns => .bl (ns.all id) | _ => none
def anyD : List D → Option D | [.lst ds] => (asBools ds).map fun ns => .bl (ns.any id) | _ => none
theorem cd_all : CallD K (rAll K) allD := by
  intro G H ds d vs Q s r e q
  unfold allD at e
  split at e
  · rename_i ds'
    obtain ⟨v, rfl, r1⟩ := reps1 r
    simp only [Rep] at r1
    obtain ⟨a, us, rfl, h1, q1⟩ := r1
    cases h : asBools ds' with
    | none => rw [h] at e; cases e
    | some ns =>
      rw [h] at e; cases e
      rw [asBools_eq h] at q1
      refine ⟨a, ns, rfl, ?_, q _ H G (PStp.refl s) (rep_bl _)⟩
      rw [← q1.bools]
      exact SqL.of (s _ _ h1)
  · cases e
theorem cd_any : CallD K (rAny K) anyD := by
  intro G H ds d vs Q s r e q
  unfold anyD at e
  split at e
  · rename_i ds'
    obtain ⟨v, rfl, r1⟩ := reps1 r
    simp only [Rep] at r1
    obtain ⟨a, us, rfl, h1, q1⟩ := r1
    cases h : asBools ds' with
    | none => rw [h] at e; cases e
    | some ns =>
      rw [h] at e; cases e
      rw [asBools_eq h] at q1
      refine ⟨a, ns, rfl, ?_, q _ H G (PStp.refl s) (rep_bl _)⟩
      rw [← q1.bools]
      exact SqL.of (s _ _ h1)
  · cases e
/-! isinstance with built-in types -/
def tyD : D → Option String
  | .non => some "NoneType"
  | .bl _ => some "bool"
  | .int _ => some "int"
  | .str _ => some "str"
  | .tup _ => some "tuple"
  | .lst _ => some "list"
  | _ => none
theorem tyX_of {G H : Hp} {d : D} {v : V} {t : String} (s : Same G H) (r : Rep K G d v) (h : tyD d = some t) : TyX K H v (.type t) := by
  cases d with
  | non => simp only [Rep] at r; subst r; cases h; exact .base .non
  | bl b => simp only [Rep] at r; subst r; cases h; exact .base (.bl b)
  | int b => simp only [Rep] at r; subst r; cases h; exact .base (.int b)
  | str b => simp only [Rep] at r; subst r; cases h; exact .base (.str b)
  | tup ds =>
    simp only [Rep] at r
    obtain ⟨a, vs, rfl, q, _⟩ := r
    cases h
    rcases q with (q | ⟨o, q⟩) | ⟨o, its, n, q, c, _⟩
    · exact .base (.tup (s _ _ q))
    · exact .fTuple (s _ _ q)
    · exact .kTuple q c
  | lst ds =>
    simp only [Rep] at r
    obtain ⟨a, vs, rfl, q, _⟩ := r
    cases h
    exact .base (.lst (s _ _ q))
  | scr _ => cases h
  | con _ => cases h
/-- what isinstance says of two built-in types, as far as it is asked here -/
def kitT (t c : String) : Option Bool := kitB t c
def isiD : List D → Option D
  | [d, .con (.ty c)] => (tyD d).bind fun t => (kitB t c).map D.bl
  | _ => none
theorem cd_isi : CallD K (rIsi K) isiD := by
  intro G H ds d vs Q s r e q
  unfold isiD at e
  split at e
  · rename_i d1 c
    obtain ⟨v, u, rfl, r1, r2⟩ := reps2 r
    simp only [Rep] at r2
    subst r2
    cases h : tyD d1 with
    | none => rw [h] at e; cases e
    | some t =>
      rw [h] at e
      dsimp only [Option.bind] at e
      cases h2 : kitB t c with
      | none => rw [h2] at e; cases e
      | some b =>
        rw [h2] at e; cases e
        exact ⟨v, .ty c, .type t, .type c, b, rfl, .ty c, tyX_of s r1 h, kit_ty h2, q _ H G (PStp.refl s) (rep_bl _)⟩
  · cases e
end
end M

namespace M
open PySem PySem.Spec L2
def small62 (i : Int) : Bool := !iLt i (-4611686018427387904) && iLt i 4611686018427387904
theorem small62_iff {i : Int} : small62 i = true ↔ -(2 ^ 62) ≤ i ∧ i < 2 ^ 62 := by
  unfold small62
  rw [Bool.and_eq_true, not_iLt, iLt_eq, decide_eq_true_eq, decide_eq_true_eq]
  omega
variable [Tabs]

/-! ### names bound -/
section
variable {K : PySem.W.Frag} {σ : L2.St} {ρ : Rho} {G H : Hp}
theorem get_set {α : Type} {l : List α} {i j : Nat} {x y : α} (h : (l.set i x)[j]? = some y) : (i = j ∧ y = x) ∨ (i ≠ j ∧ l[j]? = some y) := by
  by_cases e : i = j
  · subst e
    left
    refine ⟨rfl, ?_⟩
    rw [List.getElem?_set_self' ] at h
    cases q : l[i]? with
    | none => rw [q] at h; cases h
    | some z => rw [q] at h; cases h; rfl
  · exact .inr ⟨e, by rw [List.getElem?_set_ne e] at h; exact h⟩
theorem OwnAt.of_set {i : Nat} {d : D} {v : Option V} {a : Addr} (h : OwnAt (σ.set i v) (ρ.set i (some (.dat d))) a) : OwnAt σ ρ a := by
  obtain ⟨j, io, ds, h1, h2⟩ := h
  rcases get_set h1 with ⟨_, e⟩ | ⟨n, h1⟩
  · cases e
  · rcases get_set h2 with ⟨e, _⟩ | ⟨_, h2⟩
    · exact absurd e n
    · exact ⟨j, io, ds, h1, h2⟩
theorem OwnN.of_set {i : Nat} {d : D} {v : Option V} {a : Addr} (h : OwnN (σ.set i v) (ρ.set i (some (.dat d))) a) : OwnN σ ρ a := by
  obtain ⟨j, ds, h1, h2⟩ := h
  rcases get_set h1 with ⟨_, e⟩ | ⟨n, h1⟩
  · cases e
  · rcases get_set h2 with ⟨e, _⟩ | ⟨_, h2⟩
    · exact absurd e n
    · exact ⟨j, ds, h1, h2⟩
/-- a name that was handed in -/
def isIo (ρ : Rho) (i : Nat) : Bool := match ρ[i]? with | some (some (.own true _)) => true | _ => false
theorem SR.set {i : Nat} {d : D} {v : V} (I : SR K G H σ ρ) (r : Rep K G d v) : SR K G H (σ.set i (some v)) (ρ.set i (some (.dat d))) where
  tab := I.tab
  len := by rw [List.length_set, List.length_set]; exact I.len
  sub := I.sub
  slot := fun j s o h1 h2 => by
    rcases get_set h1 with ⟨e, q1⟩ | ⟨n, q1⟩
    · subst e; subst q1
      rcases get_set h2 with ⟨_, q2⟩ | ⟨n, _⟩
      · subst q2; exact ⟨v, rfl, r⟩
      · exact absurd rfl n
    · rcases get_set h2 with ⟨e, _⟩ | ⟨_, q2⟩
      · exact absurd e n
      · exact I.slot j s o q1 q2
  inj := fun j k io jo ds es a h1 h2 h3 h4 => by
    rcases get_set h1 with ⟨_, e⟩ | ⟨n1, h1⟩
    · cases e
    rcases get_set h2 with ⟨_, e⟩ | ⟨n2, h2⟩
    · cases e
    rcases get_set h3 with ⟨e, _⟩ | ⟨_, h3⟩
    · exact absurd e n1
    rcases get_set h4 with ⟨e, _⟩ | ⟨_, h4⟩
    · exact absurd e n2
    exact I.inj j k io jo ds es a h1 h2 h3 h4
theorem Stp.set {i : Nat} {d : D} {v : V} (hi : isIo ρ i = false) : Stp σ ρ G H (σ.set i (some v)) (ρ.set i (some (.dat d))) G H where
  sub := fun _ _ h => h
  new := fun _ _ _ => rfl
  keep := fun _ _ h _ _ => h
  grow := Grow.refl _
  dom := fun _ h => h
  own := fun a h => .inl h.of_set
  ownN := fun a h => .inl h.of_set
  stay := fun j ds h => by
    have n : i ≠ j := fun e => by
      subst e
      unfold isIo at hi
      rw [h] at hi
      cases hi
    rw [List.getElem?_set_ne n, List.getElem?_set_ne n]
    exact ⟨rfl, ds, h⟩
end

/-! ### statements -/
inductive Fl where
  | nx | bk | ct | rt (s : Sl)
abbrev FS := Rho → Rz (Fl × Rho)
/-- what is handed back -/
def RetR (K : PySem.W.Frag) (σ : L2.St) (ρ : Rho) (H G' H' : Hp) (v : V) : Sl → Prop
  | .dat d => Rep K G' d v
  | .own io ds => io = false ∧ ∃ p us, v = .ref p ∧ H' p = some (.lst us) ∧ G' p = none ∧ Reps K G' ds us ∧ (OwnN σ ρ p ∨ H p = none)
def OutS (K : PySem.W.Frag) (Dn : Ends) (σ : L2.St) (ρ : Rho) (G H : Hp) : Rz (Fl × Rho) → Prop
  | .ok (.nx, ρ') => ∀ σ' H' G', Stp σ ρ G H σ' ρ' G' H' → SR K G' H' σ' ρ' → Dn.nx σ' H'
  | .ok (.bk, ρ') => ∀ σ' H' G', Stp σ ρ G H σ' ρ' G' H' → SR K G' H' σ' ρ' → Dn.bk σ' H'
  | .ok (.ct, ρ') => ∀ σ' H' G', Stp σ ρ G H σ' ρ' G' H' → SR K G' H' σ' ρ' → Dn.ct σ' H'
  | .ok (.rt s, ρ') => ∀ v σ' H' G', Stp σ ρ G H σ' ρ' G' H' → SR K G' H' σ' ρ' → RetR K σ ρ H G' H' v s → Dn.rt v H'
  | .ex _ _ => False
  | .no => False
def rdSK (K : PySem.W.Frag) (g : FS) (Dn : Ends) (σ : L2.St) (ρ : Rho) (G H : Hp) : Prop := OutS K Dn σ ρ G H (g ρ)
def rdS (K : PySem.W.Frag) (g : FS) : TS := fun Dn σ H => ∃ ρ G, SR K G H σ ρ ∧ rdSK K g Dn σ ρ G H
section
variable {K : PySem.W.Frag} {σ : L2.St} {ρ : Rho} {G H : Hp}
theorem rdS_of {g : FS} {Dn : Ends} (I : SR K G H σ ρ) (h : rdSK K g Dn σ ρ G H) : rdS K g Dn σ H := ⟨ρ, G, I, h⟩
theorem RetR.back {σ1 : L2.St} {ρ1 : Rho} {G1 H1 G' H' : Hp} {v : V} {s : Sl} (st : Stp σ ρ G H σ1 ρ1 G1 H1) (r : RetR K σ1 ρ1 H1 G' H' v s) : RetR K σ ρ H G' H' v s := by
  cases s with
  | dat d => exact r
  | own io ds =>
    obtain ⟨e, p, us, e1, e2, e3, e4, e5⟩ := r
    refine ⟨e, p, us, e1, e2, e3, e4, ?_⟩
    rcases e5 with z | z
    · exact st.ownN p z
    · right
      cases q : H p with
      | none => rfl
      | some o => exact absurd z (st.dom p (by rw [q]; exact fun z => by cases z))
/-- what follows a step -/
theorem rdSK_after {σ1 : L2.St} {ρ1 : Rho} {G1 H1 : Hp} {g : FS} {Dn : Ends} (st : Stp σ ρ G H σ1 ρ1 G1 H1) (h : OutS K Dn σ ρ G H (g ρ1)) : rdSK K g Dn σ1 ρ1 G1 H1 := by
  unfold rdSK
  cases e : g ρ1 with
  | ok p =>
    obtain ⟨f, ρ2⟩ := p
    rw [e] at h
    cases f with
    | nx => exact fun σ' H' G' a b => h σ' H' G' (st.trans a) b
    | bk => exact fun σ' H' G' a b => h σ' H' G' (st.trans a) b
    | ct => exact fun σ' H' G' a b => h σ' H' G' (st.trans a) b
    | rt s => exact fun v σ' H' G' a b c => h v σ' H' G' (st.trans a) b (c.back st)
  | ex _ _ => rw [e] at h; exact h
  | no => rw [e] at h; exact h
/-- an expression, then what is done with it -/
def bndS (fa : FE) (k : D → FS) : FS := fun ρ => (fa ρ).bind fun p => k p.1 p.2
def bndTS (fa : FT) (k : Bool → FS) : FS := fun ρ => (fa ρ).bind fun p => k p.1 p.2
theorem rdSK_bnd {fa : FE} {k : D → FS} {Dn : Ends} (h : rdSK K (bndS fa k) Dn σ ρ G H) :
    rdK K fa σ ρ G H fun v H1 => ∃ d ρ1 G1, Stp σ ρ G H σ ρ1 G1 H1 ∧ SR K G1 H1 σ ρ1 ∧ Rep K G1 d v ∧ rdSK K (k d) Dn σ ρ1 G1 H1 := by
  unfold rdSK bndS at h
  unfold rdK
  cases e : fa ρ with
  | ok p =>
    obtain ⟨d, ρ1⟩ := p
    rw [e] at h
    dsimp only [Rz.bind] at h ⊢
    intro v H1 G1 a b c
    exact ⟨d, ρ1, G1, a, b, c, rdSK_after a h⟩
  | ex _ _ => rw [e] at h; exact h
  | no => rw [e] at h; exact h
theorem rdSK_bndT {fa : FT} {k : Bool → FS} {Dn : Ends} (h : rdSK K (bndTS fa k) Dn σ ρ G H) :
    rdTK K fa σ ρ G H fun b H1 => ∃ ρ1 G1, Stp σ ρ G H σ ρ1 G1 H1 ∧ SR K G1 H1 σ ρ1 ∧ rdSK K (k b) Dn σ ρ1 G1 H1 := by
  unfold rdSK bndTS at h
  unfold rdTK
  cases e : fa ρ with
  | ok p =>
    obtain ⟨d, ρ1⟩ := p
    rw [e] at h
    dsimp only [Rz.bind] at h ⊢
    intro H1 G1 a b
    exact ⟨ρ1, G1, a, b, rdSK_after a h⟩
  | ex _ _ => rw [e] at h; exact h
  | no => rw [e] at h; exact h
end
def sNx : FS := fun ρ => .ok (.nx, ρ)
def sBk : FS := fun ρ => .ok (.bk, ρ)
def sCt : FS := fun ρ => .ok (.ct, ρ)
def sNo : FS := fun _ => .no
def sSet (i : Nat) (fa : FE) : FS := bndS fa fun d => fun ρ => if isIo ρ i = true then .no else .ok (.nx, ρ.set i (some (.dat d)))
def sDrop (fa : FE) : FS := bndS fa fun _ => sNx
def sRet (fa : FE) : FS := bndS fa fun d => fun ρ => .ok (.rt (.dat d), ρ)
def sRetN : FS := fun ρ => .ok (.rt (.dat .non), ρ)
def sSeq (a b : FS) : FS := fun ρ => (a ρ).bind fun p => match p.1 with | .nx => b p.2 | f => .ok (f, p.2)
def sIf (t : FT) (a b : FS) : FS := bndTS t fun c => if c = true then a else b
section
variable {X : Cx} {e c : Expr} {fa fb : FE} {ft : FT} {pos : Pos} {st : Stmt} {rest a b : List Stmt} {ga gb : FS}
theorem dss_nil : PSs X [] (rdS X.K sNx) := pss_imp pss_nil fun D σ H ⟨ρ, G, I, h⟩ => h σ H G (Stp.refl _ _ _ _) I
theorem ds_pass : PS X (.Pass pos) (rdS X.K sNx) := ps_imp ps_pass fun D σ H ⟨ρ, G, I, h⟩ => h σ H G (Stp.refl _ _ _ _) I
theorem ds_break : PS X (.Break pos) (rdS X.K sBk) := ps_imp ps_break fun D σ H ⟨ρ, G, I, h⟩ => h σ H G (Stp.refl _ _ _ _) I
theorem ds_cont : PS X (.Continue pos) (rdS X.K sCt) := ps_imp ps_continue fun D σ H ⟨ρ, G, I, h⟩ => h σ H G (Stp.refl _ _ _ _) I
theorem ds_never : PS X st (rdS X.K sNo) := ps_imp ps_never fun D σ H ⟨ρ, G, I, h⟩ => h
theorem dss_one (h : PS X st (rdS X.K ga)) : PSs X [st] (rdS X.K ga) := pss_one h
theorem dss_cons (h : PS X st (rdS X.K ga)) (t : PSs X rest (rdS X.K gb)) : PSs X (st :: rest) (rdS X.K (sSeq ga gb)) := by
  refine pss_imp (pss_cons h t) fun D σ H ⟨ρ, G, I, q⟩ => ?_
  refine rdS_of I ?_
  unfold rdSK sSeq at q
  unfold rdSK
  cases e : ga ρ with
  | ok p =>
    obtain ⟨f, ρ1⟩ := p
    rw [e] at q
    dsimp only [Rz.bind] at q ⊢
    cases f with
    | nx => exact fun σ' H' G' s1 I1 => rdS_of I1 (rdSK_after s1 q)
    | bk => exact q
    | ct => exact q
    | rt s => exact q
  | ex _ _ => rw [e] at q; exact q
  | no => rw [e] at q; exact q
theorem ds_set (i : Nat) {x : Str} {pos' : Pos} (he : PE X e (rd X.K fa)) (hN : X.N.Nodup) (hi : X.N[i]? = some x := by rfl) (hx : Loc X.env.scope x := by first | exact .inl rfl | exact .inr rfl) (hs : swapsWith e (some (.Name x pos')) pos.line X.env = pure false := by rfl)
    (hf : X.fn x = true ∨ X.env.scope.names.lookup x = some .local := by first | exact .inl rfl | exact .inr rfl | assumption) : PS X (.Assign [.Name x pos'] e pos) (rdS X.K (sSet i fa)) := by
  refine ps_imp (ps_set hN hi hx he hs hf) fun D σ H ⟨ρ, G, I, h⟩ => ?_
  refine rd_of I (rdK_mono (rdSK_bnd h) fun v H1 ⟨d, ρ1, G1, s1, I1, r1, h1⟩ => ?_)
  unfold rdSK at h1
  by_cases z : isIo ρ1 i = true
  · simp only [if_pos z] at h1
    exact False.elim h1
  · simp only [if_neg z] at h1
    exact h1 _ H1 G1 (Stp.set (by simpa using z)) (I1.set r1)
theorem ds_expr (he : PE X e (rd X.K fa)) (hs : swapsWith e none pos.line X.env = pure false := by rfl) : PS X (.Expr e pos) (rdS X.K (sDrop fa)) := by
  refine ps_imp (ps_expr he hs) fun D σ H ⟨ρ, G, I, h⟩ => ?_
  refine rd_of I (rdK_mono (rdSK_bnd h) fun v H1 ⟨d, ρ1, G1, s1, I1, r1, h1⟩ => ?_)
  exact h1 σ H1 G1 (Stp.refl _ _ _ _) I1
theorem ds_ret (he : PE X e (rd X.K fa)) : PS X (.Return (some e) pos) (rdS X.K (sRet fa)) := by
  refine ps_imp (ps_ret he) fun D σ H ⟨ρ, G, I, h⟩ => ?_
  refine rd_of I (rdK_mono (rdSK_bnd h) fun v H1 ⟨d, ρ1, G1, s1, I1, r1, h1⟩ => ?_)
  exact h1 v σ H1 G1 (Stp.refl _ _ _ _) I1 r1
theorem ds_retN : PS X (.Return none pos) (rdS X.K sRetN) := ps_imp ps_retN fun D σ H ⟨ρ, G, I, h⟩ => h .non σ H G (Stp.refl _ _ _ _) I (rep_non (K := X.K) (G := G))
theorem ds_if (hc : PT X c (rdT X.K ft)) (ha : PSs X a (rdS X.K ga)) (hb : PSs X b (rdS X.K gb)) : PS X (.If c a b pos) (rdS X.K (sIf ft ga gb)) := by
  refine ps_imp (ps_if hc ha hb) fun D σ H ⟨ρ, G, I, h⟩ => ?_
  refine rdT_of I (rdTK_mono (rdSK_bndT h) fun d H1 ⟨ρ1, G1, s1, I1, h1⟩ => ?_)
  cases d with
  | true => exact rdS_of I1 h1
  | false => exact rdS_of I1 h1
end

/-! ### targets -/
/-- the names that a target binds -/
def Only (is : List Nat) (σ σ' : L2.St) : Prop := σ'.length = σ.length ∧ ∀ k, k ∉ is → σ'[k]? = σ[k]?
abbrev TgD := D → Rho → Option Rho
def rdG (K : PySem.W.Frag) (is : List Nat) (tg : TgD) : TG := fun v σ H Q => ∃ ρ G d, SR K G H σ ρ ∧ Rep K G d v ∧ ∃ ρ', tg d ρ = some ρ' ∧
  ∀ σ', Stp σ ρ G H σ' ρ' G H → SR K G H σ' ρ' → Only is σ σ' → Q σ' H
def tName (i : Nat) : TgD := fun d ρ => if isIo ρ i = true then none else some (ρ.set i (some (.dat d)))
/-- i, j = .. -/
def tPair (i j : Nat) : TgD := fun d ρ => match d with | .tup [a, b] => (tName i a ρ).bind (tName j b) | _ => none
theorem Only.refl {is : List Nat} {σ : L2.St} : Only is σ σ := ⟨rfl, fun _ _ => rfl⟩
theorem Only.set {is : List Nat} {σ σ' : L2.St} (h : Only is σ σ') {i : Nat} (hi : i ∈ is) {v : Option V} : Only is σ (σ'.set i v) :=
  ⟨by rw [List.length_set]; exact h.1, fun k hk => by rw [List.getElem?_set_ne (fun e => hk (by rw [← e]; exact hi))]; exact h.2 k hk⟩
section
variable {X : Cx} {pos : Pos}
theorem dg_name (i : Nat) {x : Str} {is : List Nat} (hin : i ∈ is) (hN : X.N.Nodup) (hi : X.N[i]? = some x := by rfl) (hx : Loc X.env.scope x := by first | exact .inl rfl | exact .inr rfl) (hf : X.fn x = true ∨ X.env.scope.names.lookup x = some .local := by first | exact .inl rfl | exact .inr rfl | assumption) :
    PG X (.Name x pos) (rdG X.K is (tName i)) := by
  refine ⟨fun pins s σ H v u Q I r ⟨ρ, G, d, J, rd, ρ', e, q⟩ => ?_⟩
  refine (pg_name hN hi hx hf).run pins s σ H v u Q I r ?_
  unfold tName at e
  split at e
  · cases e
  · rename_i z
    cases e
    exact q _ (Stp.set (by simpa using z)) (J.set rd) (Only.refl.set hin)
theorem dg_pair (i j : Nat) {x y : Str} {is : List Nat} {k : Nat} {px py : Pos} (hin : i ∈ is) (hjn : j ∈ is) (hc : X.calm = true) (hN : X.N.Nodup) (hi : X.N[i]? = some x := by rfl) (hj : X.N[j]? = some y := by rfl) (hx : Loc X.env.scope x := by first | exact .inl rfl | exact .inr rfl)
    (hy : Loc X.env.scope y := by first | exact .inl rfl | exact .inr rfl) (hf : X.fn x = true ∨ X.env.scope.names.lookup x = some .local := by first | exact .inl rfl | exact .inr rfl | assumption)
    (hg : X.fn y = true ∨ X.env.scope.names.lookup y = some .local := by first | exact .inl rfl | exact .inr rfl | assumption) :
    PG X (.Tuple [.Name x px, .Name y py] k pos) (rdG X.K is (tPair i j)) := by
  refine ⟨fun pins s σ H v u Q I r ⟨ρ, G, d, J, rd, ρ', e, q⟩ => ?_⟩
  refine (pg_tup hc (pgs_cons (pg_name hN hi hx hf) (pgs_cons (pg_name hN hj hy hg) pgs_nil))).run pins s σ H v u Q I r ?_
  unfold tPair at e
  split at e
  · rename_i d1 d2
    simp only [Rep, Reps] at rd
    obtain ⟨a, vs, rfl, h1, v1, r1, rfl, q1, v2, r2, rfl, q2, rfl⟩ := rd
    refine ⟨a, [v1, v2], rfl, SqT.mono J.sub h1, rfl, v1, [v2], rfl, v2, [], rfl, rfl, ?_⟩
    unfold tName at e
    by_cases z : isIo ρ i = true
    · rw [if_pos z] at e; cases e
    · rw [if_neg z] at e
      simp only [Option.bind] at e
      by_cases z2 : isIo (ρ.set i (some (.dat d1))) j = true
      · rw [if_pos z2] at e; cases e
      · rw [if_neg z2] at e
        cases e
        have I1 := J.set (i := i) q1
        exact q _ ((Stp.set (by simpa using z)).trans (Stp.set (by simpa using z2))) (I1.set q2) ((Only.refl.set hin).set hjn)
  · cases e
end

/-! ### what is walked -/
/-- J yields these data -/
def ItD (K : PySem.W.Frag) (G0 : Hp) (J : It) (ds : List D) : Prop := ∀ (i : Nat) (G H : Hp), Same G0 G → Same G H →
  (∀ d, ds[i]? = some d → J.go i H ∧ ∀ x H', J.yld i H x H' → ∃ G', PStp G H G' H' ∧ Rep K G' d x) ∧ (ds.length ≤ i → J.stop i H)
abbrev FI := Rho → Rz (List D × Rho)
def rdIK (K : PySem.W.Frag) (fi : FI) (σ : L2.St) (ρ : Rho) (G H : Hp) (R : It → Hp → Prop) : Prop := match fi ρ with
  | .ok (ds, ρ') => ∀ J H' G', Stp σ ρ G H σ ρ' G' H' → SR K G' H' σ ρ' → ItD K G' J ds → R J H'
  | .ex _ _ => False
  | .no => False
def rdI (K : PySem.W.Frag) (fi : FI) : TI := fun σ H R => ∃ ρ G, SR K G H σ ρ ∧ rdIK K fi σ ρ G H R
section
variable {X : Cx}
theorem pi_imp {tg iter : Expr} {w w' : TI} (h : PI X tg iter w) (hi : ∀ σ H R, w' σ H R → w σ H R) : PI X tg iter w' := ⟨fun pins s σ H R I q => h.run pins s σ H R I (hi σ H R q)⟩
theorem itD_list {K : PySem.W.Frag} {G0 : Hp} {a : Addr} {vs : List V} {ds : List D} (h : SqL K G0 a vs) (r : Reps K G0 ds vs) : ItD K G0 (Itl K a) ds := by
  intro i G H s1 s2
  have hH := SqL.mono s2 (SqL.mono s1 h)
  refine ⟨fun d e => ?_, fun e => ⟨vs, hH, by rw [r.length]; exact e⟩⟩
  obtain ⟨v, e1, rv⟩ := r.get e
  refine ⟨⟨vs, v, hH, e1⟩, fun x H' y => ?_⟩
  obtain ⟨rfl, y⟩ := y
  have := y vs hH
  rw [e1] at this
  cases this
  exact ⟨G, PStp.refl s2, Rep.mono s1 _ _ rv⟩
theorem itD_tup {K : PySem.W.Frag} {G0 : Hp} {a : Addr} {vs : List V} {ds : List D} (h : SqT K G0 a vs) (r : Reps K G0 ds vs) : ItD K G0 (Itt K a) ds := by
  intro i G H s1 s2
  have hH := SqT.mono s2 (SqT.mono s1 h)
  refine ⟨fun d e => ?_, fun e => ⟨vs, hH, by rw [r.length]; exact e⟩⟩
  obtain ⟨v, e1, rv⟩ := r.get e
  refine ⟨⟨vs, v, hH, e1⟩, fun x H' y => ?_⟩
  obtain ⟨rfl, y⟩ := y
  have := y vs hH
  rw [e1] at this
  cases this
  exact ⟨G, PStp.refl s2, Rep.mono s1 _ _ rv⟩
def rgD (lo : Int) (n : Nat) : List D := (List.range n).map fun i => D.int (lo + (i : Nat))
theorem rgD_get {lo : Int} {n i : Nat} {d : D} (h : (rgD lo n)[i]? = some d) : i < n ∧ d = .int (lo + (i : Nat)) := by
  unfold rgD at h
  rw [List.getElem?_map] at h
  by_cases z : i < n
  · rw [List.getElem?_range z] at h
    cases h
    exact ⟨z, rfl⟩
  · rw [List.getElem?_eq_none (by simpa using z)] at h
    cases h
theorem itD_range {K : PySem.W.Frag} {G0 : Hp} (lo : Int) (n : Nat) : ItD K G0 (Itr lo n) (rgD lo n) := by
  intro i G H s1 s2
  refine ⟨fun d e => ?_, fun e => ?_⟩
  · obtain ⟨z, rfl⟩ := rgD_get e
    refine ⟨z, fun x H' y => ?_⟩
    obtain ⟨rfl, rfl⟩ := y
    exact ⟨G, PStp.refl s2, rep_int _⟩
  · unfold rgD at e
    rw [List.length_map, List.length_range] at e
    exact e
/-- a tuple, a list -/
def iSeq (fa : FE) : FI := fun ρ => (fa ρ).bind fun p => match p.1 with | .tup ds => .ok (ds, p.2) | .lst ds => .ok (ds, p.2) | _ => .no
theorem pi_or {tg iter : Expr} {w w' : TI} (h : PI X tg iter w) (h' : PI X tg iter w') : PI X tg iter (fun σ H R => w σ H R ∨ w' σ H R) := ⟨fun pins s σ H R I q => q.elim (h.run pins s σ H R I) (h'.run pins s σ H R I)⟩
theorem di_seq {tg l : Expr} {fa : FE} (hl : PE X l (rd X.K fa)) : PI X tg l (rdI X.K (iSeq fa)) := by
  refine pi_imp (pi_or (pi_list hl) (pi_tup hl)) fun σ H R ⟨ρ, G, I, h⟩ => ?_
  unfold rdIK iSeq at h
  cases e : fa ρ with
  | ok p =>
    obtain ⟨d, ρ1⟩ := p
    rw [e] at h
    dsimp only [Rz.bind] at h
    cases d with
    | tup ds =>
      right
      refine rd_of I ?_
      unfold rdK
      rw [e]
      intro v H1 G1 s1 I1 r1
      simp only [Rep] at r1
      obtain ⟨a, vs, rfl, h1, q1⟩ := r1
      exact ⟨a, rfl, ⟨vs, SqT.mono I1.sub h1⟩, h _ H1 G1 s1 I1 (itD_tup h1 q1)⟩
    | lst ds =>
      left
      refine rd_of I ?_
      unfold rdK
      rw [e]
      intro v H1 G1 s1 I1 r1
      simp only [Rep] at r1
      obtain ⟨a, vs, rfl, h1, q1⟩ := r1
      exact ⟨a, rfl, ⟨vs, SqL.of (I1.sub _ _ h1)⟩, h _ H1 G1 s1 I1 (itD_list (SqL.of h1) q1)⟩
    | _ => exact h.elim
  | ex _ _ => rw [e] at h; exact h.elim
  | no => rw [e] at h; exact h.elim
def rg1 : List D → Option (List D)
  | [.int j] => if small62 j = true then some (rgD 0 j.toNat) else none
  | _ => none
def rg2 : List D → Option (List D)
  | [.int i, .int j] => if small62 i = true ∧ small62 j = true then some (rgD i (j - i).toNat) else none
  | _ => none
theorem rg1_of {ds es : List D} (h : rg1 ds = some es) : ∃ j, ds = [.int j] ∧ -(2 ^ 62) ≤ j ∧ j < 2 ^ 62 ∧ es = rgD 0 j.toNat := by
  unfold rg1 at h
  split at h
  · rename_i j
    split at h
    · rename_i z
      cases h
      have z := small62_iff.mp z
      exact ⟨j, rfl, z.1, z.2, rfl⟩
    · cases h
  · cases h
theorem rg2_of {ds es : List D} (h : rg2 ds = some es) : ∃ i j, ds = [.int i, .int j] ∧ (-(2 ^ 62) ≤ i ∧ i < 2 ^ 62 ∧ -(2 ^ 62) ≤ j ∧ j < 2 ^ 62) ∧ es = rgD i (j - i).toNat := by
  unfold rg2 at h
  split at h
  · rename_i i j
    split at h
    · rename_i z
      cases h
      have z1 := small62_iff.mp z.1
      have z2 := small62_iff.mp z.2
      exact ⟨i, j, rfl, ⟨z1.1, z1.2, z2.1, z2.2⟩, rfl⟩
    · cases h
  · cases h
def iRg (rg : List D → Option (List D)) (f : FA) : FI := fun ρ => (f ρ).bind fun p => match rg p.1 with | some ds => .ok (ds, p.2) | none => .no
theorem di_range1 {tg a : Expr} {fs : FA} {p pos : Pos} (hg : Gl X "range") (hm : X.mg "range" = none) (ha : PA X [a] (rdA X.K fs)) (hs : starEach [a] X.env = [(false, eval a X.env)] := by rfl) : PI X tg (.Call (.Name "range" p) [a] [] pos) (rdI X.K (iRg rg1 fs)) := by
  refine pi_imp (pi_range1 hg hm ha hs) fun σ H R ⟨ρ, G, I, h⟩ => ?_
  unfold rdIK iRg at h
  refine rdA_of I ?_
  unfold rdAK
  cases e : fs ρ with
  | ok q =>
    obtain ⟨ds, ρ1⟩ := q
    rw [e] at h
    dsimp only [Rz.bind] at h ⊢
    intro vs H1 G1 s1 I1 r1
    cases q : rg1 ds with
    | none => rw [q] at h; exact h.elim
    | some es =>
      rw [q] at h
      obtain ⟨j, rfl, z1, z2, rfl⟩ := rg1_of q
      obtain ⟨v, rfl, rv⟩ := reps1 r1
      simp only [Rep] at rv
      subst rv
      exact ⟨j, rfl, z1, z2, h _ H1 G1 s1 I1 (itD_range _ _)⟩
  | ex _ _ => rw [e] at h; exact h.elim
  | no => rw [e] at h; exact h.elim
theorem di_range2 {tg a b : Expr} {fs : FA} {p pos : Pos} (hg : Gl X "range") (hm : X.mg "range" = none) (ha : PA X [a, b] (rdA X.K fs)) (hs : starEach [a, b] X.env = [(false, eval a X.env), (false, eval b X.env)] := by rfl) (hs2 : starEach [b] X.env = [(false, eval b X.env)] := by rfl) :
    PI X tg (.Call (.Name "range" p) [a, b] [] pos) (rdI X.K (iRg rg2 fs)) := by
  refine pi_imp (pi_range2 hg hm ha hs hs2) fun σ H R ⟨ρ, G, I, h⟩ => ?_
  unfold rdIK iRg at h
  refine rdA_of I ?_
  unfold rdAK
  cases e : fs ρ with
  | ok q =>
    obtain ⟨ds, ρ1⟩ := q
    rw [e] at h
    dsimp only [Rz.bind] at h ⊢
    intro vs H1 G1 s1 I1 r1
    cases q : rg2 ds with
    | none => rw [q] at h; exact h.elim
    | some es =>
      rw [q] at h
      obtain ⟨i, j, rfl, z1, rfl⟩ := rg2_of q
      obtain ⟨v, u, rfl, rv, ru⟩ := reps2 r1
      simp only [Rep] at rv ru
      subst rv; subst ru
      exact ⟨i, j, rfl, z1, h _ H1 G1 s1 I1 (itD_range _ _)⟩
  | ex _ _ => rw [e] at h; exact h.elim
  | no => rw [e] at h; exact h.elim
end

/-! ### for, while -/
def forL (tg : TgD) (body : FS) : List D → FS
  | [], ρ => .ok (.nx, ρ)
  | d :: ds, ρ => frc d fun d => nrmR ρ fun ρ => match tg d ρ with
    | none => .no
    | some ρ1 => (body ρ1).bind fun p => match p.1 with | .nx => forL tg body ds p.2 | .ct => forL tg body ds p.2 | .bk => .ok (.nx, p.2) | .rt s => .ok (.rt s, p.2)
def sFor (fi : FI) (tg : TgD) (body : FS) : FS := fun ρ => (fi ρ).bind fun p => forL tg body p.1 p.2
def whl (t : FT) (body : FS) : Nat → FS
  | 0, _ => .no
  | n + 1, ρ => nrmR ρ fun ρ => (t ρ).bind fun c => if c.1 = true then (body c.2).bind fun p => match p.1 with | .nx => whl t body n p.2 | .ct => whl t body n p.2 | .bk => .ok (.nx, p.2) | .rt s => .ok (.rt s, p.2) else .ok (.nx, c.2)
section
variable {X : Cx} {pos : Pos}
theorem ds_for {iter tgt : Expr} {body : List Stmt} {fi : FI} {is : List Nat} {tg : TgD} {g : FS} (hp : PassesOwn (model X.prog X.w) X.A X.env X.xe) (hc : X.calm = true) (hi : PI X tgt iter (rdI X.K fi)) (hg : PG X tgt (rdG X.K is tg)) (hb : PSs X body (rdS X.K g))
    (hs : ∀ x, foldedSetIterable iter X.env x = pure x := by intro _; rfl) : PS X (.For tgt iter body [] pos) (rdS X.K (sFor fi tg g)) := by
  refine ps_imp (ps_for hp hc hi hg hb hs) fun D σ H ⟨ρ, G, I, h⟩ => ?_
  refine ⟨ρ, G, I, ?_⟩
  unfold rdSK sFor at h
  unfold rdIK
  cases e : fi ρ with
  | ex _ _ => rw [e] at h; exact h
  | no => rw [e] at h; exact h
  | ok p =>
    obtain ⟨ds, ρ1⟩ := p
    rw [e] at h
    dsimp only [Rz.bind] at h ⊢
    intro J H1 G1 s1 I1 hJ
    have h1 : rdSK X.K (forL tg g ds) D σ ρ1 G1 H1 := rdSK_after s1 h
    refine ⟨fun i m σ' H' => m = ds.length - i ∧ i ≤ ds.length ∧ ∃ ρ' G', Same G1 G' ∧ SR X.K G' H' σ' ρ' ∧ rdSK X.K (forL tg g (ds.drop i)) D σ' ρ' G' H',
      ⟨ds.length, rfl, Nat.zero_le _, ρ1, G1, fun _ _ h => h, I1, h1⟩, ?_⟩
    rintro i m σ' H' ⟨rfl, hi, ρ', G', sG, I', h'⟩
    by_cases hlt : i < ds.length
    · have ed : ds.drop i = ds[i] :: ds.drop (i + 1) := List.drop_eq_getElem_cons hlt
      obtain ⟨go, yl⟩ := (hJ i G' H' sG I'.sub).1 ds[i] (List.getElem?_eq_getElem hlt)
      right
      refine ⟨go, fun σ2 H2 => ∃ ρ2 G2, Same G1 G2 ∧ SR X.K G2 H2 σ2 ρ2 ∧ rdSK X.K (forL tg g (ds.drop (i + 1))) D σ2 ρ2 G2 H2, fun σ2 H2 ⟨ρ2, G2, a, b, c⟩ => ⟨ds.length - (i + 1), by omega, rfl, hlt, ρ2, G2, a, b, c⟩, fun x H2 y => ?_⟩
      obtain ⟨G2, P2, rx⟩ := yl x H2 y
      have I2 := I'.pure P2
      rw [ed] at h'
      unfold rdSK at h'
      unfold forL at h'
      rw [frc_eq, nrmR_eq] at h'
      cases et : tg ds[i] ρ' with
      | none => rw [et] at h'; exact h'.elim
      | some ρ3 =>
        rw [et] at h'
        dsimp only at h'
        refine ⟨ρ', G2, ds[i], I2, rx, ρ3, et, fun σ3 s3 I3 _ => ?_⟩
        refine rdS_of I3 ?_
        have st := (P2.stp (σ := σ') (ρ := ρ')).trans s3
        unfold rdSK
        cases eb : g ρ3 with
        | ex _ _ => rw [eb] at h'; exact h'.elim
        | no => rw [eb] at h'; exact h'.elim
        | ok p =>
          obtain ⟨f, ρ4⟩ := p
          rw [eb] at h'
          dsimp only [Rz.bind] at h' ⊢
          cases f with
          | nx => exact fun σ4 H4 G4 s4 I4 => ⟨ρ4, G4, fun a o q => s4.sub a o (P2.sub a o (sG a o q)), I4, rdSK_after (st.trans s4) h'⟩
          | ct => exact fun σ4 H4 G4 s4 I4 => ⟨ρ4, G4, fun a o q => s4.sub a o (P2.sub a o (sG a o q)), I4, rdSK_after (st.trans s4) h'⟩
          | bk => exact fun σ4 H4 G4 s4 I4 => h' σ4 H4 G4 (st.trans s4) I4
          | rt s => exact fun v σ4 H4 G4 s4 I4 r4 => h' v σ4 H4 G4 (st.trans s4) I4 (r4.back st)
    · left
      have e0 : ds.drop i = [] := List.drop_eq_nil_of_le (by omega)
      rw [e0] at h'
      exact ⟨(hJ i G' H' sG I'.sub).2 (by omega), h' σ' H' G' (Stp.refl _ _ _ _) I'⟩
theorem ds_while {c : Expr} {body : List Stmt} {t : FT} {g : FS} (n : Nat) (hp : PassesOwn (model X.prog X.w) X.A X.env X.xe) (hc : PT X c (rdT X.K t)) (hb : PSs X body (rdS X.K g)) : PS X (.While c body [] pos) (rdS X.K (whl t g n)) := by
  refine ps_imp (ps_while hp hc hb) fun D σ H ⟨ρ, G, I, h⟩ => ?_
  refine ⟨fun m σ' H' => ∃ ρ' G', SR X.K G' H' σ' ρ' ∧ rdSK X.K (whl t g m) D σ' ρ' G' H', ⟨n, ρ, G, I, h⟩, ?_⟩
  rintro m σ' H' ⟨ρ', G', I', h'⟩
  cases m with
  | zero => exact h'.elim
  | succ m =>
    unfold rdSK at h'
    unfold whl at h'
    rw [nrmR_eq] at h'
    refine rdT_of I' ?_
    unfold rdTK
    cases e : t ρ' with
    | ex _ _ => rw [e] at h'; exact h'.elim
    | no => rw [e] at h'; exact h'.elim
    | ok p =>
      obtain ⟨b, ρ1⟩ := p
      rw [e] at h'
      dsimp only [Rz.bind] at h' ⊢
      intro H1 G1 s1 I1
      cases b with
      | false =>
        simp only [Bool.false_eq_true, if_false] at h' ⊢
        exact h' σ' H1 G1 s1 I1
      | true =>
        simp only [if_true] at h' ⊢
        refine ⟨fun σ2 H2 => ∃ ρ2 G2, SR X.K G2 H2 σ2 ρ2 ∧ rdSK X.K (whl t g m) D σ2 ρ2 G2 H2, fun σ2 H2 q => ⟨m, Nat.lt_succ_self _, q⟩, ?_⟩
        refine rdS_of I1 ?_
        unfold rdSK
        cases eb : g ρ1 with
        | ex _ _ => rw [eb] at h'; exact h'.elim
        | no => rw [eb] at h'; exact h'.elim
        | ok p =>
          obtain ⟨f, ρ4⟩ := p
          rw [eb] at h'
          dsimp only [Rz.bind] at h' ⊢
          cases f with
          | nx => exact fun σ4 H4 G4 s4 I4 => ⟨ρ4, G4, I4, rdSK_after (s1.trans s4) h'⟩
          | ct => exact fun σ4 H4 G4 s4 I4 => ⟨ρ4, G4, I4, rdSK_after (s1.trans s4) h'⟩
          | bk => exact fun σ4 H4 G4 s4 I4 => h' σ4 H4 G4 (s1.trans s4) I4
          | rt s => exact fun v σ4 H4 G4 s4 I4 r4 => h' v σ4 H4 G4 (s1.trans s4) I4 (r4.back s1)
end
end M

namespace M
open PySem PySem.Spec L2
variable [Tabs]

/-! ### lists of one's own -/
def ownL (ρ : Rho) (j : Nat) : Option (Bool × List D) := match ρ[j]? with | some (some (.own io ds)) => some (io, ds) | _ => none
theorem ownL_eq {ρ : Rho} {j : Nat} {io : Bool} {ds : List D} (h : ownL ρ j = some (io, ds)) : ρ[j]? = some (some (.own io ds)) := by
  unfold ownL at h
  split at h
  · cases h; assumption
  · cases h
section
variable {K : PySem.W.Frag} {σ : L2.St} {ρ : Rho} {G H : Hp}
theorem SR.own {j : Nat} {io : Bool} {ds : List D} (I : SR K G H σ ρ) (h : ownL ρ j = some (io, ds)) : ∃ a vs, σ[j]? = some (some (.ref a)) ∧ H a = some (.lst vs) ∧ G a = none ∧ Reps K G ds vs := by
  have h1 := ownL_eq h
  have hl : j < σ.length := by rw [← I.len]; exact (List.getElem?_eq_some_iff.mp h1).1
  obtain ⟨a, vs, e, e2, e3, r⟩ := I.slot j _ _ h1 (List.getElem?_eq_getElem hl)
  exact ⟨a, vs, by rw [List.getElem?_eq_getElem hl, e], e2, e3, r⟩
theorem set_own_get {j i : Nat} {io jo : Bool} {ds es ds0 : List D} (h0 : ρ[j]? = some (some (.own jo ds0))) (h : (ρ.set j (some (.own jo es)))[i]? = some (some (.own io ds))) :
    ∃ ds', ρ[i]? = some (some (.own io ds')) := by
  rcases get_set h with ⟨e, q⟩ | ⟨n, q⟩
  · subst e; cases q; exact ⟨_, h0⟩
  · exact ⟨_, q⟩
/-- the list at j is written -/
theorem SR.mut {j : Nat} {io : Bool} {ds es : List D} {a : Addr} {us : List V} (I : SR K G H σ ρ) (h : ownL ρ j = some (io, ds)) (ha : σ[j]? = some (some (.ref a))) {G' H' : Hp} (sG : Same G G') (sH : Same G' H') (hG : ∀ b, H b ≠ none → b ≠ a → G' b = G b) (hG2 : G' a = none)
    (hH : ∀ b o, H b = some o → b ≠ a → H' b = some o) (h2 : H' a = some (.lst us)) (r : Reps K G' es us) : SR K G' H' σ (ρ.set j (some (.own io es))) ∧ Stp σ ρ G H σ (ρ.set j (some (.own io es))) G' H' := by
  have h1 := ownL_eq h
  have oa : OwnAt σ ρ a := ⟨j, io, ds, h1, ha⟩
  have nt : ∀ b ps, H b = some (.tbl ps) → b ≠ a := fun b ps e z => by
    obtain ⟨a', vs0, f1, f2, _⟩ := I.own h
    rw [ha] at f1; cases f1
    subst z
    rw [f2] at e; cases e
  have gr : Grow H H' := fun b ps e => ⟨ps, hH b _ e (nt b ps e), id⟩
  refine ⟨⟨I.tabs' gr fun P z ⟨ps, e⟩ => hG P z (nt P ps e), by rw [List.length_set]; exact I.len, sH, fun i s o q1 q2 => ?_, fun i k i1 i2 d1 d2 b q1 q2 q3 q4 => ?_⟩, ⟨sG, fun b hb n => ?_, fun b o e n _ => ?_, gr, fun b hb => ?_, fun b z => ?_, fun b z => ?_, fun i d1 q => ?_⟩⟩
  · rcases get_set q1 with ⟨e, q⟩ | ⟨n, q⟩
    · subst e; subst q
      rw [q2] at ha; cases ha
      exact ⟨a, us, rfl, h2, hG2, r⟩
    · have z := I.slot i s o q q2
      match s, z with
      | none, _ => trivial
      | some (.dat d), ⟨v, e, r⟩ => exact ⟨v, e, Rep.mono sG _ _ r⟩
      | some (.own io' ds'), ⟨b, vs, e, e2, e3, r'⟩ =>
        have nb : b ≠ a := fun z => by
          subst z
          subst e
          exact n (I.inj j i _ _ _ _ b h1 q ha q2)
        exact ⟨b, vs, e, hH b _ e2 nb, by rw [hG b (by rw [e2]; exact fun z => by cases z) nb]; exact e3, Reps.mono sG _ _ r'⟩
  · obtain ⟨d3, z1⟩ := set_own_get h1 q1
    obtain ⟨d4, z2⟩ := set_own_get h1 q2
    exact I.inj i k i1 i2 d3 d4 b z1 z2 q3 q4
  · exact hG b hb fun z => n (by rw [z]; exact oa)
  · exact hH b o e fun z => n (by rw [z]; exact oa)
  · by_cases z : b = a
    · subst z; rw [h2]; exact fun z => by cases z
    · cases q : H b with
      | none => exact absurd q hb
      | some o => rw [hH b o q z]; exact fun z => by cases z
  · obtain ⟨i, i1, d1, q1, q2⟩ := z
    obtain ⟨d2, z1⟩ := set_own_get h1 q1
    exact .inl ⟨i, i1, d2, z1, q2⟩
  · obtain ⟨i, d1, q1, q2⟩ := z
    obtain ⟨d2, z1⟩ := set_own_get h1 q1
    exact .inl ⟨i, d2, z1, q2⟩
  · refine ⟨rfl, ?_⟩
    by_cases e : j = i
    · subst e
      rw [h1] at q; cases q
      exact ⟨es, by rw [List.getElem?_set_self (List.getElem?_eq_some_iff.mp h1).1]⟩
    · exact ⟨d1, by rw [List.getElem?_set_ne e]; exact q⟩
theorem SR.mut' {j : Nat} {io : Bool} {ds es : List D} {a : Addr} {us vs : List V} (I : SR K G H σ ρ) (h : ownL ρ j = some (io, ds)) (ha : σ[j]? = some (some (.ref a))) (h1 : H a = some (.lst vs)) (h2 : G a = none) (r : Reps K G es us) :
    SR K G (upd H a (.lst us)) σ (ρ.set j (some (.own io es))) ∧ Stp σ ρ G H σ (ρ.set j (some (.own io es))) G (upd H a (.lst us)) :=
  I.mut h ha (fun _ _ q => q) (fun b o q => by rw [upd_ne (ne_of_none q h2)]; exact I.sub b o q) (fun _ _ _ => rfl) h2 (fun b o q n => by rw [upd_ne n]; exact q) upd_same r
end

/-- a reading whose value is a new list, seen by none -/
def OutO (K : PySem.W.Frag) (Q : VK) (σ : L2.St) (ρ : Rho) (G H : Hp) : Rz (List D × Rho) → Prop
  | .ok (ds, ρ') => ∀ p us H' G', Stp σ ρ G H σ ρ' G' H' → SR K G' H' σ ρ' → H p = none → H' p = some (.lst us) → G' p = none → ¬ OwnAt σ ρ' p → Reps K G' ds us → Q (.ref p) H'
  | .ex _ _ => False
  | .no => False
def rdO (K : PySem.W.Frag) (f : FA) : TE := fun σ H Q => ∃ ρ G, SR K G H σ ρ ∧ OutO K Q σ ρ G H (f ρ)
def sOwn (i : Nat) (f : FA) : FS := fun ρ => (f ρ).bind fun p => if isIo p.2 i = true then .no else .ok (.nx, p.2.set i (some (.own false p.1)))
def sRetO (f : FA) : FS := fun ρ => (f ρ).bind fun p => .ok (.rt (.own false p.1), p.2)
section
variable {K : PySem.W.Frag} {σ : L2.St} {ρ : Rho} {G H : Hp}
theorem SR.setOwn {i : Nat} {ds : List D} {p : Addr} {us : List V} (I : SR K G H σ ρ) (h1 : H p = some (.lst us)) (h2 : G p = none) (n : ¬ OwnAt σ ρ p) (r : Reps K G ds us) : SR K G H (σ.set i (some (.ref p))) (ρ.set i (some (.own false ds))) where
  tab := I.tab
  len := by rw [List.length_set, List.length_set]; exact I.len
  sub := I.sub
  slot := fun j s o q1 q2 => by
    rcases get_set q1 with ⟨e, z1⟩ | ⟨ne, z1⟩
    · subst e; subst z1
      rcases get_set q2 with ⟨_, z2⟩ | ⟨ne, _⟩
      · subst z2; exact ⟨p, us, rfl, h1, h2, r⟩
      · exact absurd rfl ne
    · rcases get_set q2 with ⟨e, _⟩ | ⟨_, z2⟩
      · exact absurd e ne
      · exact I.slot j s o z1 z2
  inj := fun j k io jo ds es a q1 q2 q3 q4 => by
    rcases get_set q1 with ⟨e1, z1⟩ | ⟨n1, z1⟩ <;> rcases get_set q2 with ⟨e2, z2⟩ | ⟨n2, z2⟩
    · exact e1.symm.trans e2
    · rcases get_set q3 with ⟨_, z3⟩ | ⟨n3, _⟩
      · rcases get_set q4 with ⟨e4, _⟩ | ⟨_, z4⟩
        · exact absurd e4 n2
        · cases z3
          exact absurd ⟨k, jo, es, z2, z4⟩ n
      · exact absurd e1 n3
    · rcases get_set q4 with ⟨_, z4⟩ | ⟨n4, _⟩
      · rcases get_set q3 with ⟨e3, _⟩ | ⟨_, z3⟩
        · exact absurd e3 n1
        · cases z4
          exact absurd ⟨j, io, ds, z1, z3⟩ n
      · exact absurd e2 n4
    · rcases get_set q3 with ⟨e3, _⟩ | ⟨_, z3⟩
      · exact absurd e3 n1
      rcases get_set q4 with ⟨e4, _⟩ | ⟨_, z4⟩
      · exact absurd e4 n2
      exact I.inj j k io jo ds es a z1 z2 z3 z4
end
section
variable {X : Cx} {e : Expr} {f : FA} {pos : Pos}
theorem ds_own (i : Nat) {x : Str} {pos' : Pos} (he : PE X e (rdO X.K f)) (hN : X.N.Nodup) (hi : X.N[i]? = some x := by rfl) (hx : Loc X.env.scope x := by first | exact .inl rfl | exact .inr rfl) (hs : swapsWith e (some (.Name x pos')) pos.line X.env = pure false := by rfl)
    (hf : X.fn x = true ∨ X.env.scope.names.lookup x = some .local := by first | exact .inl rfl | exact .inr rfl | assumption) : PS X (.Assign [.Name x pos'] e pos) (rdS X.K (sOwn i f)) := by
  refine ps_imp (ps_set hN hi hx he hs hf) fun D σ H ⟨ρ, G, I, h⟩ => ?_
  refine ⟨ρ, G, I, ?_⟩
  unfold rdSK sOwn at h
  cases q : f ρ with
  | ex _ _ => rw [q] at h; exact h
  | no => rw [q] at h; exact h
  | ok p =>
    obtain ⟨ds, ρ1⟩ := p
    rw [q] at h
    dsimp only [Rz.bind] at h
    intro p us H1 G1 s1 I1 e1 e2 e3 n r
    by_cases z : isIo ρ1 i = true
    · rw [if_pos z] at h; exact h.elim
    · rw [if_neg z] at h
      have nio : isIo ρ1 i = false := by simpa using z
      refine h _ H1 G1 ?_ (I1.setOwn e2 e3 n r)
      have own1 : ∀ a, OwnAt (σ.set i (some (.ref p))) (ρ1.set i (some (.own false ds))) a → a = p ∨ OwnAt σ ρ1 a := fun a ⟨j, io, es, q1, q2⟩ => by
        rcases get_set q1 with ⟨e, z1⟩ | ⟨ne, z1⟩
        · rcases get_set q2 with ⟨_, z2⟩ | ⟨ne, _⟩
          · cases z2; exact .inl rfl
          · exact absurd e ne
        · rcases get_set q2 with ⟨e, _⟩ | ⟨_, z2⟩
          · exact absurd e ne
          · exact .inr ⟨j, io, es, z1, z2⟩
      have own2 : ∀ a, OwnN (σ.set i (some (.ref p))) (ρ1.set i (some (.own false ds))) a → a = p ∨ OwnN σ ρ1 a := fun a ⟨j, es, q1, q2⟩ => by
        rcases get_set q1 with ⟨e, z1⟩ | ⟨ne, z1⟩
        · rcases get_set q2 with ⟨_, z2⟩ | ⟨ne, _⟩
          · cases z2; exact .inl rfl
          · exact absurd e ne
        · rcases get_set q2 with ⟨e, _⟩ | ⟨_, z2⟩
          · exact absurd e ne
          · exact .inr ⟨j, es, z1, z2⟩
      refine ⟨s1.sub, s1.new, s1.keep, s1.grow, s1.dom, fun a z => ?_, fun a z => ?_, fun j es q => ?_⟩
      · rcases own1 a z with rfl | z
        · exact .inr e1
        · exact s1.own a z
      · rcases own2 a z with rfl | z
        · exact .inr e1
        · exact s1.ownN a z
      · obtain ⟨_, fs, z1⟩ := s1.stay j es q
        have ne : i ≠ j := fun e => by
          subst e
          unfold isIo at nio
          rw [z1] at nio
          cases nio
        rw [List.getElem?_set_ne ne, List.getElem?_set_ne ne]
        exact ⟨rfl, fs, z1⟩
theorem ds_retO (he : PE X e (rdO X.K f)) : PS X (.Return (some e) pos) (rdS X.K (sRetO f)) := by
  refine ps_imp (ps_ret he) fun D σ H ⟨ρ, G, I, h⟩ => ?_
  refine ⟨ρ, G, I, ?_⟩
  unfold rdSK sRetO at h
  cases q : f ρ with
  | ex _ _ => rw [q] at h; exact h
  | no => rw [q] at h; exact h
  | ok p =>
    obtain ⟨ds, ρ1⟩ := p
    rw [q] at h
    intro p us H1 G1 s1 I1 e1 e2 e3 n r
    exact h _ σ H1 G1 s1 I1 ⟨rfl, p, us, rfl, e2, e3, r, .inr e1⟩
/-- a written list -/
def oLst (f : FA) : FA := fun ρ => (f ρ).bind fun p => if p.1.length ≤ sizeLine then .ok p else .no
theorem own_dom {K : PySem.W.Frag} {σ : L2.St} {ρ : Rho} {G H : Hp} {a : Addr} (I : SR K G H σ ρ) (h : OwnAt σ ρ a) : H a ≠ none := by
  obtain ⟨j, io, ds, q1, q2⟩ := h
  obtain ⟨b, vs, e, e2, _⟩ := I.slot j _ _ q1 q2
  cases e
  rw [e2]; exact fun z => by cases z
theorem SR.fresh {K : PySem.W.Frag} {σ : L2.St} {ρ : Rho} {G H : Hp} {p : Addr} {o : HO} (I : SR K G H σ ρ) (n : H p = none) : SR K G (upd H p o) σ ρ ∧ Stp σ ρ G H σ ρ G (upd H p o) ∧ ¬ OwnAt σ ρ p := by
  have ne : ∀ b, H b ≠ none → b ≠ p := fun b h e => h (by rw [e]; exact n)
  have gr : Grow H (upd H p o) := fun b ps e => ⟨ps, by rw [upd_ne (ne_of_none e n)]; exact e, id⟩
  refine ⟨⟨I.tabs' gr fun _ _ _ => rfl, I.len, fun b o q => ?_, fun i s o q1 q2 => ?_, I.inj⟩, ⟨fun _ _ q => q, fun _ _ _ => rfl, fun b o q _ _ => ?_, gr, fun b q => ?_, fun _ z => .inl z, fun _ z => .inl z, fun _ ds z => ⟨rfl, ds, z⟩⟩, fun z => own_dom I z n⟩
  · rw [upd_ne (ne_of_none (I.sub b o q) n)]; exact I.sub b o q
  · have z := I.slot i s o q1 q2
    match s, z with
    | none, _ => trivial
    | some (.dat d), z => exact z
    | some (.own io' ds'), ⟨b, vs, e, e2, e3, r'⟩ => exact ⟨b, vs, e, by rw [upd_ne (ne_of_none e2 n)]; exact e2, e3, r'⟩
  · rw [upd_ne (ne_of_none q n)]; exact q
  · rw [upd_ne (ne b q)]; exact q
theorem do_lst {es : List Expr} {fs : FA} (h : PA X es (rdA X.K fs)) : PE X (.List es pos) (rdO X.K (oLst fs)) := by
  refine pe_imp (pe_lst h) fun σ H Q ⟨ρ, G, I, h⟩ => ?_
  refine rdA_of I ?_
  unfold oLst at h
  unfold rdAK
  cases q : fs ρ with
  | ex _ _ => rw [q] at h; exact h
  | no => rw [q] at h; exact h
  | ok p =>
    obtain ⟨ds, ρ1⟩ := p
    rw [q] at h
    dsimp only [Rz.bind] at h
    intro vs H1 G1 s1 I1 r1
    by_cases z : ds.length ≤ sizeLine
    · rw [if_pos z] at h
      refine ⟨by rw [r1.length]; exact z, fun p hp => ?_⟩
      obtain ⟨a, b, c⟩ := I1.fresh (o := .lst vs) hp
      have hp0 : H p = none := by
        cases q : H p with
        | none => rfl
        | some o => exact absurd hp (s1.dom p (by rw [q]; exact fun z => by cases z))
      exact h p vs _ G1 (s1.trans b) a hp0 upd_same (I1.sub.free hp) c r1
    · rw [if_neg z] at h; exact h.elim
end

/-! ### reading and writing a list of one's own -/
section
variable {X : Cx} {e k : Expr} {fk fe : FE} {pos : Pos}
/-- x[k] -/
def eIxO (j : Nat) (fk : FE) : FE := fun ρ => match ownL ρ j with
  | none => .no
  | some _ => (bnd fk fun d => fun ρ1 => match ownL ρ1 j with | some (_, ds) => ofO (ixD (.lst ds) d) ρ1 | none => .no) ρ
theorem pv_own {i : Nat} {x : Str} {pos : Pos} (hN : X.N[i]? = some x) (hv : Vis X.env.scope x) (hd : (x == ("__debug__" : Str)) = false) (hcd : (x == ("__classdict__" : Str)) = false) : PE X (.Name x pos) (tVar i) := pe_var hN hv hd hcd
theorem de_ixO (j : Nat) {x : Str} {px : Pos} (hk : PE X k (rd X.K fk)) (hs : PlainIx k) (hN : X.N[j]? = some x := by rfl) (hv : Vis X.env.scope x := by first | exact Or.inl rfl | exact Or.inr (Or.inl rfl) | exact Or.inr (Or.inr rfl)) (hd : (x == ("__debug__" : Str)) = false := by decide)
    (hcd : (x == ("__classdict__" : Str)) = false := by decide) : PE X (.Subscript (.Name x px) k pos) (rd X.K (eIxO j fk)) := by
  refine pe_imp (pe_ix ix_list (pe_var (i := j) hN hv hd hcd) hk hs) fun σ H Q ⟨ρ, G, I, h⟩ => ?_
  unfold eIxO at h
  cases q : ownL ρ j with
  | none => rw [q] at h; exact h.elim
  | some p =>
    obtain ⟨io, ds⟩ := p
    rw [q] at h
    obtain ⟨a, vs, e1, e2, e3, r⟩ := I.own q
    refine ⟨.ref a, e1, ?_⟩
    refine rd_of I (rdK_mono (rdK_bnd h) fun u H1 ⟨d, ρ1, G1, s1, I1, r1, h1⟩ => ?_)
    unfold rdK at h1
    dsimp only at h1
    cases q1 : ownL ρ1 j with
    | none => rw [q1] at h1; exact h1.elim
    | some p1 =>
      obtain ⟨io1, ds1⟩ := p1
      rw [q1] at h1
      dsimp only at h1
      obtain ⟨a1, vs1, f1, f2, f3, r2⟩ := I1.own q1
      rw [e1] at f1; cases f1
      cases qx : ixD (.lst ds1) d with
      | none => rw [qx] at h1; exact h1.elim
      | some z =>
        rw [qx] at h1
        dsimp only [ofO] at h1
        rw [frc_eq] at h1
        cases d with
        | int i =>
          simp only [Rep] at r1
          subst r1
          obtain ⟨v, g1, g2⟩ := atI_reps r2 qx
          exact ⟨a, vs1, i, v, rfl, rfl, SqL.of f2, g1, h1 v H1 G1 (Stp.refl _ _ _ _) I1 g2⟩
        | _ => cases qx
/-- x[k] = e -/
def sItO (j : Nat) (fe fk : FE) : FS := bndS fe fun d => fun ρ => match ownL ρ j with
  | none => .no
  | some _ => (bndS fk fun i => fun ρ1 => match ownL ρ1 j, i with
    | some (io, ds), .int i => (match ixN ds.length i with | some n => .ok (.nx, ρ1.set j (some (.own io (ds.set n d)))) | none => .no)
    | _, _ => .no) ρ
theorem ds_itO (j : Nat) {x : Str} {px ps : Pos} (he : PE X e (rd X.K fe)) (hk : PE X k (rd X.K fk)) (hN : X.N[j]? = some x := by rfl) (hv : Vis X.env.scope x := by first | exact Or.inl rfl | exact Or.inr (Or.inl rfl) | exact Or.inr (Or.inr rfl)) (hd : (x == ("__debug__" : Str)) = false := by decide)
    (hcd : (x == ("__classdict__" : Str)) = false := by decide) (ha : ∀ v, assign (.Subscript (.Name x px) k ps) X.env v = (do
      let ov ← holding [v] (eval (.Name x px) X.env)
      let iv ← holding [v, ov] (eval k X.env)
      standAt ps
      holding [v, ov, iv] (setItem ov iv v)
      release [v, ov, iv] []) := by intro _; rfl) (hs : swapsWithSole [.Subscript (.Name x px) k ps] e pos.line X.env = pure false := by rfl) (hw : swappedStores [.Subscript (.Name x px) k ps] e X.env = pure none := by rfl)
    (h1 : (assignEach [.Subscript (.Name x px) k ps] X.env).map (·.2) = [assign (.Subscript (.Name x px) k ps) X.env] := by rfl) : PS X (.Assign [.Subscript (.Name x px) k ps] e pos) (rdS X.K (sItO j fe fk)) := by
  refine ps_imp (ps_asg he (pg_sub (pe_var (i := j) hN hv hd hcd) hk set_list ha) hs hw h1) fun D σ H ⟨ρ, G, I, h⟩ => ?_
  unfold sItO at h
  refine rd_of I (rdK_mono (rdSK_bnd h) fun v H1 ⟨d, ρ1, G1, s1, I1, r1, h1⟩ => ?_)
  unfold rdSK at h1
  dsimp only at h1
  cases q : ownL ρ1 j with
  | none => rw [q] at h1; exact h1.elim
  | some p =>
    obtain ⟨io, ds⟩ := p
    rw [q] at h1
    obtain ⟨a, vs, e1, e2, e3, r⟩ := I1.own q
    refine ⟨.ref a, e1, ?_⟩
    refine rd_of I1 (rdK_mono (rdSK_bnd h1) fun u H2 ⟨di, ρ2, G2, s2, I2, r2, h2⟩ => ?_)
    unfold rdSK at h2
    dsimp only at h2
    cases q1 : ownL ρ2 j with
    | none => rw [q1] at h2; exact h2.elim
    | some p1 =>
      obtain ⟨io1, ds1⟩ := p1
      rw [q1] at h2
      obtain ⟨a1, vs1, f1, f2, f3, r3⟩ := I2.own q1
      rw [e1] at f1; cases f1
      cases di with
      | int i =>
        dsimp only at h2
        simp only [Rep] at r2
        subst r2
        cases qx : ixN ds1.length i with
        | none => rw [qx] at h2; exact h2.elim
        | some n =>
          rw [qx] at h2
          obtain ⟨A, B⟩ := I2.mut' q1 e1 f2 f3 (Reps.set n (Rep.mono s2.sub _ _ r1) r3)
          exact ⟨a, vs1, i, n, rfl, rfl, f2, by rw [r3.length]; exact qx, h2 σ _ G2 B A⟩
      | _ => exact h2.elim
/-- x.append(e) -/
def sApp (j : Nat) (fe : FE) : FS := fun ρ => match ownL ρ j with
  | none => .no
  | some _ => (bndS fe fun d => fun ρ1 => match ownL ρ1 j with
    | some (io, ds) => if ds.length < sizeLine then .ok (.nx, ρ1.set j (some (.own io (ds ++ [d])))) else .no
    | none => .no) ρ
theorem tyV_list {K : PySem.W.Frag} {H : Hp} {a : Addr} {vs : List V} (h : H a = some (.lst vs)) : tyV K "list" (.ref a) H := .inl ⟨rfl, vs, SqL.of h⟩
theorem ds_app (j : Nat) {x : Str} {px apos cpos : Pos} (he : PE X e (rd X.K fe)) (hN : X.N[j]? = some x := by rfl) (hv : Vis X.env.scope x := by first | exact Or.inl rfl | exact Or.inr (Or.inl rfl) | exact Or.inr (Or.inr rfl)) (hd : (x == ("__debug__" : Str)) = false := by decide)
    (hcd : (x == ("__classdict__" : Str)) = false := by decide) (hbase : attributeBase (.Name x px) "append" X.env (eval (.Name x px) X.env) = eval (.Name x px) X.env := by rfl)
    (hse : starEach [e] X.env = (false, eval e X.env) :: starEach [] X.env := by rfl)
    (hfew : ((backTo cpos (starEach [e] X.env)).all (fun x => !x.1) && (backToKw cpos (keywordEach [] X.env)).all (fun x => x.1.isSome)
      && decide (([e] : List Expr).length + ([] : List Keyword).length + (if ([] : List Keyword).isEmpty then 0 else 1) < 30)) = true := by rfl)
    (hline : (apos.endLine == cpos.line) = true := by rfl) (hs : swapsWith (.Call (.Attribute (.Name x px) "append" apos) [e] [] cpos) none pos.line X.env = pure false := by rfl) :
    PS X (.Expr (.Call (.Attribute (.Name x px) "append" apos) [e] [] cpos) pos) (rdS X.K (sApp j fe)) := by
  refine ps_imp (ps_expr (pe_bm PySem.F.plainAttrs_list PySem.F.slot_list_append PySem.F.type_list_append mt_append (pe_var (i := j) hN hv hd hcd) (pa_cons he pa_nil hse) hbase hfew hline hse) hs) fun D σ H ⟨ρ, G, I, h⟩ => ?_
  unfold rdSK sApp at h
  cases q : ownL ρ j with
  | none => rw [q] at h; exact h.elim
  | some p =>
    obtain ⟨io, ds⟩ := p
    rw [q] at h
    obtain ⟨a, vs, e1, e2, e3, r⟩ := I.own q
    refine ⟨.ref a, e1, tyV_list e2, ?_⟩
    refine rd_of I (rdK_mono (rdSK_bnd (σ := σ) (ρ := ρ) (G := G) (H := H) (Dn := D) h) fun u H1 ⟨d, ρ1, G1, s1, I1, r1, h1⟩ => ?_)
    unfold rdSK at h1
    dsimp only at h1
    cases q1 : ownL ρ1 j with
    | none => rw [q1] at h1; exact h1.elim
    | some p1 =>
      obtain ⟨io1, ds1⟩ := p1
      rw [q1] at h1
      obtain ⟨a1, vs1, f1, f2, f3, r2⟩ := I1.own q1
      rw [e1] at f1; cases f1
      dsimp only at h1
      by_cases z : ds1.length < sizeLine
      · rw [if_pos z] at h1
        obtain ⟨A, B⟩ := I1.mut' q1 e1 f2 f3 (r2.append (Reps.cons r1 Reps.nil))
        exact ⟨a, vs1, u, rfl, rfl, f2, by rw [r2.length]; exact z, h1 σ _ G1 B A⟩
      · rw [if_neg z] at h1; exact h1.elim
/-- x.pop(k), as a value -/
def ePopO (j : Nat) (fk : FE) : FE := fun ρ => match ownL ρ j with
  | none => .no
  | some _ => (bnd fk fun d => fun ρ1 => match ownL ρ1 j, d with
    | some (io, ds), .int i => if 0 ≤ i ∧ i < 2 ^ 63 then (match ds[i.toNat]? with | some y => .ok (y, ρ1.set j (some (.own io (ds.eraseIdx i.toNat)))) | none => .no) else .no
    | _, _ => .no) ρ
theorem Reps.eraseIdx {K : PySem.W.Frag} {G : Hp} : ∀ {ds : List D} {vs : List V} (i : Nat), Reps K G ds vs → Reps K G (ds.eraseIdx i) (vs.eraseIdx i)
  | [], vs, i, h => by simp only [Reps] at h; subst h; exact Reps.nil
  | c :: ds, vs, 0, h => by
    simp only [Reps] at h
    obtain ⟨u, t, rfl, h1, h2⟩ := h
    exact h2
  | c :: ds, vs, i + 1, h => by
    simp only [Reps] at h
    obtain ⟨u, t, rfl, h1, h2⟩ := h
    exact Reps.cons h1 (Reps.eraseIdx i h2)
theorem de_popO (j : Nat) {x : Str} {px apos : Pos} (he : PE X e (rd X.K fe)) (hN : X.N[j]? = some x := by rfl) (hv : Vis X.env.scope x := by first | exact Or.inl rfl | exact Or.inr (Or.inl rfl) | exact Or.inr (Or.inr rfl)) (hd : (x == ("__debug__" : Str)) = false := by decide)
    (hcd : (x == ("__classdict__" : Str)) = false := by decide) (hbase : attributeBase (.Name x px) "pop" X.env (eval (.Name x px) X.env) = eval (.Name x px) X.env := by rfl)
    (hse : starEach [e] X.env = (false, eval e X.env) :: starEach [] X.env := by rfl)
    (hfew : ((backTo pos (starEach [e] X.env)).all (fun x => !x.1) && (backToKw pos (keywordEach [] X.env)).all (fun x => x.1.isSome)
      && decide (([e] : List Expr).length + ([] : List Keyword).length + (if ([] : List Keyword).isEmpty then 0 else 1) < 30)) = true := by rfl)
    (hline : (apos.endLine == pos.line) = true := by rfl) :
    PE X (.Call (.Attribute (.Name x px) "pop" apos) [e] [] pos) (rd X.K (ePopO j fe)) := by
  refine pe_imp (pe_bm PySem.F.plainAttrs_list PySem.F.slot_list_pop PySem.F.type_list_pop mt_popAt (pe_var (i := j) hN hv hd hcd) (pa_cons he pa_nil hse) hbase hfew hline hse) fun σ H Q ⟨ρ, G, I, h⟩ => ?_
  unfold ePopO at h
  cases q : ownL ρ j with
  | none => rw [q] at h; exact h.elim
  | some p =>
    obtain ⟨io, ds⟩ := p
    rw [q] at h
    obtain ⟨a, vs, e1, e2, e3, r⟩ := I.own q
    refine ⟨.ref a, e1, tyV_list e2, ?_⟩
    refine rd_of I (rdK_mono (rdK_bnd h) fun u H1 ⟨d, ρ1, G1, s1, I1, r1, h1⟩ => ?_)
    unfold rdK at h1
    dsimp only at h1
    cases q1 : ownL ρ1 j with
    | none => rw [q1] at h1; exact h1.elim
    | some p1 =>
      obtain ⟨io1, ds1⟩ := p1
      rw [q1] at h1
      obtain ⟨a1, vs1, f1, f2, f3, r2⟩ := I1.own q1
      rw [e1] at f1; cases f1
      cases d with
      | int i =>
        dsimp only at h1
        simp only [Rep] at r1
        subst r1
        by_cases z : 0 ≤ i ∧ i < 2 ^ 63
        · rw [if_pos z] at h1
          cases qx : ds1[i.toNat]? with
          | none => rw [qx] at h1; exact h1.elim
          | some y =>
            rw [qx] at h1
            obtain ⟨v, g1, g2⟩ := r2.get qx
            obtain ⟨A, B⟩ := I1.mut' q1 e1 f2 f3 (Reps.eraseIdx i.toNat r2)
            have hlt : i.toNat < vs1.length := (List.getElem?_eq_some_iff.mp g1).1
            exact ⟨a, vs1, i, i.toNat, v, rfl, rfl, f2, by omega, z.2, PySem.seqIndex_of z.1 (by omega), g1, h1 v _ G1 B A g2⟩
        · rw [if_neg z] at h1; exact h1.elim
      | _ => exact h1.elim
/-- len(x) -/
def eLenO (j : Nat) : FE := fun ρ => match ownL ρ j with | some (_, ds) => .ok (.int ds.length, ρ) | none => .no
theorem de_lenO (j : Nat) {x : Str} {px p : Pos} (hg : Gl X "len") (hm : X.mg "len" = none) (hN : X.N[j]? = some x := by rfl) (hv : Vis X.env.scope x := by first | exact Or.inl rfl | exact Or.inr (Or.inl rfl) | exact Or.inr (Or.inr rfl)) (hd : (x == ("__debug__" : Str)) = false := by decide)
    (hcd : (x == ("__classdict__" : Str)) = false := by decide) (hse : starEach [.Name x px] X.env = (false, eval (.Name x px) X.env) :: starEach [] X.env := by rfl) :
    PE X (.Call (.Name "len" p) [.Name x px] [] pos) (rd X.K (eLenO j)) := by
  refine pe_imp (pe_callB call_len_seq hg hm PySem.boot_len (pa_cons (pe_var (i := j) hN hv hd hcd) pa_nil hse)) fun σ H Q ⟨ρ, G, I, h⟩ => ?_
  unfold eLenO at h
  cases q : ownL ρ j with
  | none => rw [q] at h; exact h.elim
  | some p =>
    obtain ⟨io, ds⟩ := p
    rw [q] at h
    obtain ⟨a, vs, e1, e2, e3, r⟩ := I.own q
    refine ⟨.ref a, e1, a, vs, rfl, .inl (SqL.of e2), ?_⟩
    rw [r.length]
    exact h _ H G (Stp.refl _ _ _ _) I (rep_int _)
end

/-! ### a list of one's own, given away as data -/
/-- reading it ends its being one's own -/
def eFrz (j : Nat) : FE := fun ρ => match ownL ρ j with | some (false, ds) => .ok (.lst ds, ρ.set j (some (.dat (.lst ds)))) | _ => .no
section
variable {X : Cx} {pos : Pos}
theorem SR.frz {K : PySem.W.Frag} {σ : L2.St} {ρ : Rho} {G H : Hp} {j : Nat} {ds : List D} {a : Addr} {vs : List V} (I : SR K G H σ ρ) (h : ownL ρ j = some (false, ds)) (e1 : σ[j]? = some (some (.ref a))) (e2 : H a = some (.lst vs)) (e3 : G a = none) (r : Reps K G ds vs) :
    SR K (upd G a (.lst vs)) H σ (ρ.set j (some (.dat (.lst ds)))) ∧ Stp σ ρ G H σ (ρ.set j (some (.dat (.lst ds)))) (upd G a (.lst vs)) H ∧ Rep K (upd G a (.lst vs)) (.lst ds) (.ref a) := by
  have h1 := ownL_eq h
  have oa : OwnAt σ ρ a := ⟨j, false, ds, h1, e1⟩
  have hl : j < σ.length := (List.getElem?_eq_some_iff.mp e1).1
  have sG : Same G (upd G a (.lst vs)) := same_upd e3
  have es : σ.set j (some (.ref a)) = σ := by
    apply List.ext_getElem?
    intro i
    by_cases z : j = i
    · subst z; rw [List.getElem?_set_self hl, e1]
    · rw [List.getElem?_set_ne z]
  have rr : Rep K (upd G a (.lst vs)) (.lst ds) (.ref a) := Rep.lst_new e3 r
  have own1 : ∀ b, OwnAt σ (ρ.set j (some (.dat (.lst ds)))) b → OwnAt σ ρ b := fun b z => by rw [← es] at z; exact z.of_set
  have nt : ∀ b ps, H b = some (.tbl ps) → b ≠ a := fun b ps e z => by
    subst z
    rw [e2] at e; cases e
  refine ⟨⟨I.tabs' (Grow.refl _) fun P z ⟨ps, e⟩ => upd_ne (nt P ps e), by rw [List.length_set]; exact I.len, fun b o q => ?_, fun i s o q1 q2 => ?_, fun i k i1 i2 d1 d2 b q1 q2 q3 q4 => ?_⟩, ⟨sG, fun b _ n => ?_, fun _ _ q _ _ => q, Grow.refl _, fun _ q => q, fun b z => .inl (own1 b z), fun b z => ?_, fun i d1 q => ?_⟩, rr⟩
  · by_cases z : b = a
    · subst z; rw [upd_same] at q; cases q; exact e2
    · rw [upd_ne z] at q; exact I.sub b o q
  · rcases get_set q1 with ⟨e, z1⟩ | ⟨ne, z1⟩
    · subst e; subst z1
      rw [e1] at q2; cases q2
      exact ⟨_, rfl, rr⟩
    · have z := I.slot i s o z1 q2
      match s, z with
      | none, _ => trivial
      | some (.dat d), ⟨v, e, r⟩ => exact ⟨v, e, Rep.mono sG _ _ r⟩
      | some (.own io' ds'), ⟨b, us, e, f2, f3, r'⟩ =>
        have nb : b ≠ a := fun z => by
          subst z; subst e
          exact ne (I.inj j i _ _ _ _ b h1 z1 e1 q2)
        exact ⟨b, us, e, f2, by rw [upd_ne nb]; exact f3, Reps.mono sG _ _ r'⟩
  · rcases get_set q1 with ⟨_, z1⟩ | ⟨_, z1⟩
    · cases z1
    rcases get_set q2 with ⟨_, z2⟩ | ⟨_, z2⟩
    · cases z2
    exact I.inj i k i1 i2 d1 d2 b z1 z2 q3 q4
  · exact upd_ne fun z => n (by rw [z]; exact oa)
  · left; rw [← es] at z; exact z.of_set
  · have ne : j ≠ i := fun e => by subst e; rw [h1] at q; cases q
    exact ⟨rfl, d1, by rw [List.getElem?_set_ne ne]; exact q⟩
theorem de_frz (j : Nat) {x : Str} (hN : X.N[j]? = some x := by rfl) (hv : Vis X.env.scope x := by first | exact Or.inl rfl | exact Or.inr (Or.inl rfl) | exact Or.inr (Or.inr rfl)) (hd : (x == ("__debug__" : Str)) = false := by decide)
    (hcd : (x == ("__classdict__" : Str)) = false := by decide) : PE X (.Name x pos) (rd X.K (eFrz j)) := by
  refine pe_imp (pe_var (i := j) hN hv hd hcd) fun σ H Q ⟨ρ, G, I, h⟩ => ?_
  unfold eFrz at h
  cases q : ownL ρ j with
  | none => rw [q] at h; exact h.elim
  | some p =>
    obtain ⟨io, ds⟩ := p
    rw [q] at h
    cases io with
    | true => exact h.elim
    | false =>
      obtain ⟨a, vs, e1, e2, e3, r⟩ := I.own q
      obtain ⟨A, B, C⟩ := I.frz q e1 e2 e3 r
      exact ⟨.ref a, e1, h _ H _ B A C⟩
/-- return x, x one's own: handed back as one's own -/
def sRetV (j : Nat) : FS := fun ρ => match ownL ρ j with | some (false, ds) => .ok (.rt (.own false ds), ρ) | _ => .no
theorem ds_retV (j : Nat) {x : Str} {px : Pos} (hN : X.N[j]? = some x := by rfl) (hv : Vis X.env.scope x := by first | exact Or.inl rfl | exact Or.inr (Or.inl rfl) | exact Or.inr (Or.inr rfl)) (hd : (x == ("__debug__" : Str)) = false := by decide)
    (hcd : (x == ("__classdict__" : Str)) = false := by decide) : PS X (.Return (some (.Name x px)) pos) (rdS X.K (sRetV j)) := by
  refine ps_imp (ps_ret (pe_var (i := j) hN hv hd hcd)) fun D σ H ⟨ρ, G, I, h⟩ => ?_
  unfold rdSK sRetV at h
  cases q : ownL ρ j with
  | none => rw [q] at h; exact h.elim
  | some p =>
    obtain ⟨io, ds⟩ := p
    rw [q] at h
    cases io with
    | true => exact h.elim
    | false =>
      obtain ⟨a, vs, e1, e2, e3, r⟩ := I.own q
      exact ⟨.ref a, e1, h _ σ H G (Stp.refl _ _ _ _) I ⟨rfl, a, vs, rfl, e2, e3, r, .inl ⟨j, ds, ownL_eq q, e1⟩⟩⟩
end
end M

namespace M
open PySem PySem.Spec PyProof.Rows L2
variable [Tabs]

/-! ### a def's promise -/
abbrev Args := List Sl
abbrev FD := Nat → Args → Option (Sl × Args)
def allIo : Args → Bool := fun as => as.all fun s => match s with | .dat _ => true | .own io _ => io
def spI (K : PySem.W.Frag) (np : Nat) (F : FD) : Sp := fun vs H Q E => ∃ (n : Nat) (G : Hp) (as : Args) (s : Sl) (as' : Args), vs.length = np ∧ SR K G H (vs.map some) (as.map some) ∧ allIo as = true ∧ F n as = some (s, as') ∧
  ∀ v H' G', Stp (vs.map some) (as.map some) G H (vs.map some) (as'.map some) G' H' → SR K G' H' (vs.map some) (as'.map some) → RetR K (vs.map some) (as.map some) H G' H' v s → Q v H'

/-! ### a def's body -/
def startR (L : Nat) (as : Args) : Rho := as.map some ++ List.replicate (L - as.length) none
/-- what the lists that were handed in have become -/
def ends (as : Args) (ρ : Rho) : Args := as.mapIdx fun i s => match s with
  | .dat d => .dat d
  | .own io ds => (match ρ[i]? with | some (some (.own true es)) => .own true es | _ => .own io ds)
def runB (g : FS) (L np : Nat) (as : Args) : Option (Sl × Args) := if as.length = np then frcA as fun as => (match g (startR L as) with
  | .ok (.nx, ρ') => frcA (ends as ρ') fun es => some (.dat .non, es)
  | .ok (.rt s, ρ') => frcT s fun s => frcA (ends as ρ') fun es => some (s, es)
  | _ => none) else none
theorem runB_len {g : FS} {L np : Nat} {as as' : Args} {s : Sl} (h : runB g L np as = some (s, as')) : as.length = np := by
  unfold runB at h
  by_cases z : as.length = np
  · exact z
  · rw [if_neg z] at h; cases h
section
variable {K : PySem.W.Frag} {G H : Hp} {vs : List V} {as : Args} {N : List Str}
theorem get_map_some {α : Type} {l : List α} {i : Nat} {x : Option α} (h : (l.map some)[i]? = some x) : ∃ y, l[i]? = some y ∧ x = some y := by
  rw [List.getElem?_map] at h
  cases q : l[i]? with
  | none => rw [q] at h; cases h
  | some y => rw [q] at h; cases h; exact ⟨y, rfl, rfl⟩
theorem start_get {i : Nat} {o : Option V} (h : (L2.start N vs)[i]? = some o) : (vs.map some)[i]? = some o ∨ o = none := by
  unfold L2.start at h
  rw [List.getElem?_append] at h
  split at h
  · exact .inl h
  · rw [List.getElem?_replicate] at h
    split at h
    · cases h; exact .inr rfl
    · cases h
theorem startR_get {L i : Nat} {o : Option Sl} (h : (startR L as)[i]? = some o) : (as.map some)[i]? = some o ∨ o = none := by
  unfold startR at h
  rw [List.getElem?_append] at h
  split at h
  · exact .inl h
  · rw [List.getElem?_replicate] at h
    split at h
    · cases h; exact .inr rfl
    · cases h
theorem startR_of {L i : Nat} {o : Option Sl} (h : (as.map some)[i]? = some o) : (startR L as)[i]? = some o := by
  have hl : i < (as.map some).length := (List.getElem?_eq_some_iff.mp h).1
  unfold startR
  rw [List.getElem?_append_left hl]
  exact h
theorem start_of {i : Nat} {o : Option V} (h : (vs.map some)[i]? = some o) : (L2.start N vs)[i]? = some o := by
  have hl : i < (vs.map some).length := (List.getElem?_eq_some_iff.mp h).1
  unfold L2.start
  rw [List.getElem?_append_left hl]
  exact h
theorem SR.start (I : SR K G H (vs.map some) (as.map some)) : SR K G H (L2.start N vs) (startR N.length as) where
  tab := I.tab
  len := by
    have h := I.len
    rw [List.length_map, List.length_map] at h
    unfold L2.start startR
    rw [List.length_append, List.length_append, List.length_map, List.length_map, List.length_replicate, List.length_replicate, h]
  sub := I.sub
  slot := fun i s o h1 h2 => by
    rcases startR_get h1 with h1 | rfl
    · rcases start_get h2 with h2 | rfl
      · exact I.slot i s o h1 h2
      · have hl : i < (vs.map some).length := by rw [← I.len]; exact (List.getElem?_eq_some_iff.mp h1).1
        have e := start_of (N := N) (List.getElem?_eq_getElem hl)
        rw [h2] at e
        have e2 : (none : Option V) = (vs.map some)[i] := Option.some.inj e
        rw [List.getElem_map] at e2
        cases e2
    · trivial
  inj := fun i j io jo ds es a h1 h2 h3 h4 => by
    rcases startR_get h1 with h1 | e
    · rcases startR_get h2 with h2 | e
      · rcases start_get h3 with h3 | e
        · rcases start_get h4 with h4 | e
          · exact I.inj i j io jo ds es a h1 h2 h3 h4
          · cases e
        · cases e
      · cases e
    · cases e
theorem OwnAt.start {a : Addr} (h : OwnAt (L2.start N vs) (startR N.length as) a) : OwnAt (vs.map some) (as.map some) a := by
  obtain ⟨i, io, ds, h1, h2⟩ := h
  rcases startR_get h1 with h1 | e
  · rcases start_get h2 with h2 | e
    · exact ⟨i, io, ds, h1, h2⟩
    · cases e
  · cases e
theorem OwnN.startF (hio : allIo as = true) {σ : L2.St} {a : Addr} {L : Nat} (h : OwnN σ (startR L as) a) : False := by
  obtain ⟨i, ds, h1, h2⟩ := h
  rcases startR_get h1 with h1 | e
  · obtain ⟨y, e1, e2⟩ := get_map_some h1
    cases e2
    have z := List.all_eq_true.mp hio _ (List.mem_of_getElem? e1)
    simp at z
  · cases e
theorem OwnN.mapF (hio : allIo as = true) {σ : L2.St} {a : Addr} (h : OwnN σ (as.map some) a) : False := by
  obtain ⟨i, ds, h1, h2⟩ := h
  obtain ⟨y, e1, e2⟩ := get_map_some h1
  cases e2
  have z := List.all_eq_true.mp hio _ (List.mem_of_getElem? e1)
  simp at z
theorem ends_get {ρ : Rho} {i : Nat} {s : Sl} (h : (ends as ρ)[i]? = some s) : ∃ t, as[i]? = some t ∧ s = (match t with
  | .dat d => .dat d
  | .own io ds => (match ρ[i]? with | some (some (.own true es)) => .own true es | _ => .own io ds)) := by
  unfold ends at h
  rw [List.getElem?_mapIdx] at h
  cases q : as[i]? with
  | none => rw [q] at h; cases h
  | some t => rw [q] at h; cases h; exact ⟨t, rfl, rfl⟩
/-- behind the body: seen from the caller -/
theorem back_of {σ' : L2.St} {ρ' : Rho} {G' H' : Hp} (hio : allIo as = true) (I : SR K G H (vs.map some) (as.map some)) (st : Stp (L2.start N vs) (startR N.length as) G H σ' ρ' G' H') (I' : SR K G' H' σ' ρ') :
    Stp (vs.map some) (as.map some) G H (vs.map some) ((ends as ρ').map some) G' H' ∧ SR K G' H' (vs.map some) ((ends as ρ').map some) := by
  have key : ∀ (i : Nat) (io : Bool) (ds : List D), (as.map some)[i]? = some (some (Sl.own io ds)) → io = true ∧ σ'[i]? = (vs.map some)[i]? ∧ ∃ es, ρ'[i]? = some (some (Sl.own true es)) := fun i io ds h => by
    obtain ⟨y, e1, e2⟩ := get_map_some h
    cases e2
    have z := List.all_eq_true.mp hio _ (List.mem_of_getElem? e1)
    simp only at z
    subst z
    obtain ⟨q1, q2⟩ := st.stay i ds (startR_of h)
    refine ⟨rfl, ?_, q2⟩
    rw [q1]
    have hl : i < (vs.map some).length := by rw [← I.len]; exact (List.getElem?_eq_some_iff.mp h).1
    rw [List.getElem?_eq_getElem hl]
    exact start_of (List.getElem?_eq_getElem hl)
  have key2 : ∀ (i : Nat) (io : Bool) (es : List D), ((ends as ρ').map some)[i]? = some (some (Sl.own io es)) → io = true ∧ (∃ ds, (as.map some)[i]? = some (some (Sl.own true ds))) ∧ ρ'[i]? = some (some (Sl.own true es)) ∧ σ'[i]? = (vs.map some)[i]? := fun i io es h => by
    obtain ⟨y, e1, e2⟩ := get_map_some h
    cases e2
    obtain ⟨t, e3, e4⟩ := ends_get e1
    cases t with
    | dat d => cases e4
    | own jo ds =>
      have h3 : (as.map some)[i]? = some (some (.own jo ds)) := by rw [List.getElem?_map, e3]; rfl
      obtain ⟨z, z2, fs, z3⟩ := key i jo ds h3
      subst z
      rw [z3] at e4
      cases e4
      exact ⟨rfl, ⟨ds, h3⟩, z3, z2⟩
  have own0 : ∀ a, OwnAt (vs.map some) ((ends as ρ').map some) a → OwnAt (vs.map some) (as.map some) a := fun a ⟨i, io, es, h1, h2⟩ => by
    obtain ⟨_, ⟨ds, h3⟩, _, _⟩ := key2 i io es h1
    exact ⟨i, true, ds, h3, h2⟩
  refine ⟨⟨st.sub, fun a h n => st.new a h fun z => n z.start, fun a o h n t => st.keep a o h (fun z => n z.start) t, st.grow, st.dom, fun a z => .inl (own0 a z), fun a z => ?_, fun i ds h => ?_⟩, ⟨I'.tab, ?_, I'.sub, fun i s o h1 h2 => ?_, fun i j io jo ds es a h1 h2 h3 h4 => ?_⟩⟩
  · obtain ⟨i, es, h1, _⟩ := z
    obtain ⟨e, _⟩ := key2 i false es h1
    cases e
  · obtain ⟨_, z2, fs, z3⟩ := key i true ds h
    refine ⟨rfl, fs, ?_⟩
    obtain ⟨y, e1, e2⟩ := get_map_some h
    cases e2
    rw [List.getElem?_map]
    unfold ends
    rw [List.getElem?_mapIdx, e1]
    simp only [Option.map, z3]
  · rw [List.length_map, List.length_map]
    unfold ends
    rw [List.length_mapIdx]
    have := I.len
    rw [List.length_map, List.length_map] at this
    exact this
  · obtain ⟨y, e1, e2⟩ := get_map_some h1
    subst e2
    cases y with
    | dat d =>
      obtain ⟨t, e3, e4⟩ := ends_get e1
      cases t with
      | dat d' =>
        cases e4
        obtain ⟨v, e, r⟩ := I.slot i (some (.dat d)) o (by rw [List.getElem?_map, e3]; rfl) h2
        exact ⟨v, e, Rep.mono st.sub _ _ r⟩
      | own io ds =>
        have h3 : (as.map some)[i]? = some (some (.own io ds)) := by rw [List.getElem?_map, e3]; rfl
        obtain ⟨_, _, fs, z3⟩ := key i io ds h3
        rw [z3] at e4
        cases e4
    | own io es =>
      obtain ⟨_, _, h4, h5⟩ := key2 i io es h1
      obtain ⟨a, us, e, r⟩ := I'.slot i _ o h4 (by rw [h5]; exact h2)
      exact ⟨a, us, e, r⟩
  · obtain ⟨_, _, h5, h6⟩ := key2 i io ds h1
    obtain ⟨_, _, h7, h8⟩ := key2 j jo es h2
    exact I'.inj i j _ _ _ _ a h5 h7 (by rw [h6]; exact h3) (by rw [h8]; exact h4)
theorem ret_of {G' H' : Hp} {v : V} {s : Sl} (hio : allIo as = true) (h : RetR K (L2.start N vs) (startR N.length as) H G' H' v s) : RetR K (vs.map some) (as.map some) H G' H' v s := by
  cases s with
  | dat d => exact h
  | own io ds =>
    obtain ⟨e, p, us, e1, e2, e3, e4, e5⟩ := h
    exact ⟨e, p, us, e1, e2, e3, e4, .inr (e5.resolve_left fun z => OwnN.startF hio z)⟩
/-- a body's reading gives the promise -/
theorem rdS_runB {g : FS} {np : Nat} {Q : VK} {s : Sl} {as' : Args} (hio : allIo as = true) (I : SR K G H (vs.map some) (as.map some)) (h : runB g N.length np as = some (s, as'))
    (q : ∀ v H' G', Stp (vs.map some) (as.map some) G H (vs.map some) (as'.map some) G' H' → SR K G' H' (vs.map some) (as'.map some) → RetR K (vs.map some) (as.map some) H G' H' v s → Q v H') :
    rdS K g { nx := fun _ H' => Q .non H', rt := Q } (L2.start N vs) H := by
  refine ⟨startR N.length as, G, I.start, ?_⟩
  unfold rdSK
  have hl := runB_len h
  unfold runB at h
  rw [if_pos hl, frcA_eq] at h
  simp only [frcA_eq, frcT_eq] at h
  cases e : g (startR N.length as) with
  | ex _ _ => rw [e] at h; cases h
  | no => rw [e] at h; cases h
  | ok p =>
    obtain ⟨f, ρ'⟩ := p
    rw [e] at h
    cases f with
    | nx =>
      cases h
      intro σ' H' G' st I'
      obtain ⟨A, B⟩ := back_of hio I st I'
      exact q .non H' G' A B (rep_non (K := K) (G := G'))
    | bk => cases h
    | ct => cases h
    | rt s =>
      cases h
      intro v σ' H' G' st I' r
      obtain ⟨A, B⟩ := back_of hio I st I'
      exact q v H' G' A B (ret_of hio r)
end

/-! ### a def of the text: its code object known -/
structure FunC (K : PySem.W.Frag) (x qual : Str) (st : Stmt) (f : Addr) (fd : FuncData) (cdv : Value) : Prop where
  ex : ∃ (oc : Value) (od : Option Addr) (kV doc pm : Value) (an : Option Addr) (ct : Value) (osl : Array (Option Value)),
    fd = PySem.W.fnOf x qual (defArgs st) (defBody st) (defScope st) .none kV doc pm an cdv ct ∧ K.lookup f = some ⟨oc, od, .func fd, osl⟩ ∧ PySem.W.codeIn K cdv qual = true
  kp : PySem.W.keepIn K (.ref f) = true
section
variable {P : Program} {w : World} {K : PySem.W.Frag} {mg : Str → Option Value} {base : Heap}
theorem funC_mk {x qual : Str} {st : Stmt} {f : Addr} {oc : Value} {od an : Option Addr} {osl : Array (Option Value)} {kV doc pm cdv ct : Value} (l : K.lookup f = some ⟨oc, od, .func (PySem.W.fnOf x qual (defArgs st) (defBody st) (defScope st) .none kV doc pm an cdv ct), osl⟩)
    (c : PySem.W.codeIn K cdv qual = true) (k : PySem.W.keepIn K (.ref f) = true) : FunC K x qual st f (PySem.W.fnOf x qual (defArgs st) (defBody st) (defScope st) .none kV doc pm an cdv ct) cdv := ⟨⟨oc, od, kV, doc, pm, an, ct, osl, rfl, l, c⟩, k⟩
theorem FunC.binds {x qual : Str} {st : Stmt} {f : Addr} {fd : FuncData} {cdv : Value} {ps : List Str} (F : FunC K x qual st f fd cdv)
    (h : ∀ (kV doc pm : Value) (an : Option Addr) (cdv ct : Value) (us : List Value), us.length = ps.length → bindArgs (PySem.W.fnOf x qual (defArgs st) (defBody st) (defScope st) .none kV doc pm an cdv ct) ⟨us, []⟩ = pure (ps.zip us)) : Binds K fd ps [] := by
  obtain ⟨oc, od, kV, doc, pm, an, ct, osl, rfl, lk, hcd⟩ := F.ex
  exact .all (h kV doc pm an cdv ct)
/-- the context of a def's body -/
abbrev bodyX (P : Program) (w : World) (K : PySem.W.Frag) (mg : Str → Option Value) (base : Heap) (N : List Str) (qual : Str) (sc : Scope) (f : Addr) (cdv : Value) (A : Around) (outer : List Env) (s : Shared) (H : Hp) (E : XK) : Cx :=
  (cxOf CX0 P w K mg base N qual sc f cdv A outer s H E).nox
/-- room, and nothing is under repr -/
structure Rm (k : Nat) (A : Around) : Prop where
  r : Room k A
  g : A.guards = some []
omit [Tabs] in
theorem Rm.mono {j k : Nat} {A : Around} (h : Rm k A) (l : j ≤ k) : Rm j A := ⟨h.r.mono l, h.g⟩
/-- a def's promise, where nothing is under repr -/
structure FnG (P : Program) (w : World) (K : PySem.W.Frag) (mg : Str → Option Value) (base : Heap) (k : Nat) (f : Addr) (fd : FuncData) (ps : List Str) (sp : Sp) : Prop where
  size : ∀ xs H Q E, sp xs H Q E → xs.length = ps.length
  go : ∀ (A : Around) (below : List Env) (t : Shared) (H : Hp) (args : PySem.Args) (us : List Value) (xs : List V) (Q : VK) (E : XK), Rm k A → Env0 P w K mg base A below t H → BindsTo t fd args (ps.zip us) → Vals xs us → sp xs H Q E → codeAny (model P w) A (.call (.ref f) args) (CR CX0 below P w H t Q E) t
omit [Tabs] in
theorem fnG_of {k : Nat} {f : Addr} {name qual : Str} {params : Arguments} {body : List Stmt} {sc : Scope} {dV kV doc pm cdv ct oc : Value} {an od : Option Addr} {osl : Array (Option Value)} {N ps : List Str} {sp : Sp}
    (lk : K.lookup f = some ⟨oc, od, .func (PySem.W.fnOf name qual params body sc dV kV doc pm an cdv ct), osl⟩) (hc : PySem.W.codeIn K cdv qual = true) (S : FnScope N ps sc) (size : ∀ xs H Q E, sp xs H Q E → xs.length = ps.length)
    (hb : ∀ (A : Around) (below : List Env) (t : Shared) (H : Hp) (xs : List V) (Q : VK) (E : XK), Rm k (A.deeper (envOfC qual sc t.heap.objs.size f cdv)) → sp xs H Q E →
      ∃ T, PSs (cxOf CX0 P w K mg base N qual sc f cdv A below t H E) body T ∧ T { nx := fun _ H' => Q .non H', rt := Q } (L2.start N xs) H) : FnG P w K mg base (k + 1) f (PySem.W.fnOf name qual params body sc dV kV doc pm an cdv ct) ps sp := by
  refine ⟨size, fun A below t H args us xs Q E rm env bt vv sps => ?_⟩
  have inB : ∀ b o, base.get? b = some o → t.heap.get? b = some o := fun b o q => (env.bs b o q).1
  have KT : K.In t.heap := env.mod.kin.keeps inB
  refine codeAny_call_function rm.r.depth (KT _ _ lk) rfl S.co S.gen rfl (PySem.W.codeRec_of KT hc) (bt _ _ _ _ ?_)
  refine wpAny_newFunctionEnv_cells S.kind (fun y hy => ?_) fun e he t1 z => ?_
  · have hm := (List.of_mem_zip (show (y.1, y.2) ∈ ps.zip us from hy)).1
    exact (S.par _ hm).elim .inl fun q => .inr ⟨q, PySem.W.cellsFrom_some _ _ _ (.inl q)⟩
  · subst he
    refine ⟨(env.mod.nolimit.keeps inB).keeps z.toInCall.keep, codeAny_func ?_⟩
    obtain ⟨T, hT, hq⟩ := hb A below t H xs Q E ⟨rm.r.deeper _, rm.g⟩ sps
    have J := inv_start (CX := CX0) (P := P) (w := w) (E := E) S rm.r.hd env (size _ _ _ _ sps) vv z
    refine wpAny_mono (hT.run [] t1 _ H _ J hq) (fun fl t2 z2 => ?_) fun _ _ q => q
    match fl, z2 with
    | .ret u, ⟨v, _, H', J', rv, q⟩ => exact ⟨v, H', J'.os, J'.bare, J'.base, J'.hok, rv, q⟩
    | .next, ⟨_, H', J', q⟩ => exact ⟨.non, H', J'.os, J'.bare, J'.base, J'.hok, rfl, q⟩
    | .brk, ⟨_, _, _, q⟩ => exact q.elim
    | .cont, ⟨_, _, _, q⟩ => exact q.elim
omit [Tabs] in
/-- f(e, ..) -/
theorem pe_callG {X : Cx} {k : Nat} {f : Addr} {fd : FuncData} {ps : List Str} {sp : Sp} {x : Str} {p pos : Pos} {e : Expr} {es : List Expr} {t : TA} (F : FnG X.prog X.w X.K X.mg X.base k f fd ps sp) (rm : Rm k X.A) (hg : Gl X x) (hm : X.mg x = some (.ref f)) (kp : PySem.W.keepIn X.K (.ref f) = true) (hb : Binds X.K fd ps []) (ha : PA X (e :: es) t)
    (hdb : (x == ("__debug__" : Str)) = false) (he : starEach (e :: es) X.env = (false, eval e X.env) :: starEach es X.env) (hpl : (backTo pos (starEach es X.env)).any (·.1) = false) : PE X (.Call (.Name x p) (e :: es) [] pos) (tCall sp [] E0 t) := by
  refine ⟨fun pins s σ H Q I h => wpAny_Call_Name_kw (ld_glob I hg hm (PySem.W.callWith_K (h₀ := X.base) I.ok.mod.kin kp (thn (ha.run pos pins s σ H _ I h) fun us s1 ⟨vs, H1, I1, r, q⟩ => ⟨I1.kIn, ?_⟩) he hpl) hdb)⟩
  dsimp only at q
  rw [List.append_nil] at q
  show wpAny _ _ (call (.ref f) us) _ _ _
  have hl : (us ++ []).length = ps.length := by rw [List.append_nil, ← r.length]; exact F.size _ _ _ _ q
  have bt := hb s1 us I1.kIn hl
  rw [List.append_nil] at bt
  refine wpAny_call (codeAny_mono (F.go X.A X.stack s1 H1 ⟨us, []⟩ us vs Q E0 rm I1.env0 bt r q) fun rr s2 z => ?_)
  match rr, z with
  | .ok (.ret u), z => exact I1.after z
  | .ok .next, z => exact z.elim
  | .ok .brk, z => exact z.elim
  | .ok .cont, z => exact z.elim
  | .error _, z => exact z.elim
/-- THE RULE for a def -/
theorem dfn_ok {x qual : Str} {st : Stmt} {f : Addr} {fd : FuncData} {cdv : Value} {N ps : List Str} {k : Nat} {g : Nat → FS} (F : FunC K x qual st f fd cdv) (S : FnScope N ps (defScope st))
    (hbody : ∀ (n : Nat) (A : Around) (outer : List Env) (s : Shared) (H : Hp) (E : XK), Rm k (A.deeper (envOfC qual (defScope st) s.heap.objs.size f cdv)) →
      PSs (bodyX P w K mg base N qual (defScope st) f cdv A outer s H E) (defBody st) (rdS K (g n))) : FnG P w K mg base (k + 1) f fd ps (spI K ps.length fun n as => runB (g n) N.length ps.length as) := by
  obtain ⟨oc, od, kV, doc, pm, an, ct, osl, rfl, lk, hcd⟩ := F.ex
  refine fnG_of lk hcd S (fun vs H Q E ⟨_, _, _, _, _, h, _⟩ => h) fun A outer s H vs Q E hr hsp => ?_
  obtain ⟨n, G, as, sl, as', hl, I, hio, h, q⟩ := hsp
  exact ⟨_, (hbody n A outer s H E hr).nox, rdS_runB hio I h q⟩
end

/-! ### calls -/
/-- an argument: data, or a list of one's own, handed in -/
inductive Ar where
  | d (d : D) | o (j : Nat)
abbrev FAr := Rho → Rz (List Ar × Rho)
def ArR (K : PySem.W.Frag) (G : Hp) (σ : L2.St) : List Ar → List V → Prop
  | [], vs => vs = []
  | .d d :: xs, vs => ∃ v r, vs = v :: r ∧ Rep K G d v ∧ ArR K G σ xs r
  | .o j :: xs, vs => ∃ v r, vs = v :: r ∧ σ[j]? = some (some v) ∧ ArR K G σ xs r
def rdRK (K : PySem.W.Frag) (f : FAr) (σ : L2.St) (ρ : Rho) (G H : Hp) (Q : List V → Hp → Prop) : Prop := match f ρ with
  | .ok (xs, ρ') => ∀ vs H' G', Stp σ ρ G H σ ρ' G' H' → SR K G' H' σ ρ' → ArR K G' σ xs vs → Q vs H'
  | .ex _ _ => False
  | .no => False
def rdR (K : PySem.W.Frag) (f : FAr) : TA := fun σ H Q => ∃ ρ G, SR K G H σ ρ ∧ rdRK K f σ ρ G H Q
def rNil : FAr := fun ρ => .ok ([], ρ)
def rCons (fa : FE) (fr : FAr) : FAr := fun ρ => (fa ρ).bind fun p => (fr p.2).bind fun q => .ok (.d p.1 :: q.1, q.2)
def rOwn (j : Nat) (fr : FAr) : FAr := fun ρ => match ownL ρ j with | some _ => (fr ρ).bind fun q => .ok (.o j :: q.1, q.2) | none => .no
section
variable {X : Cx} {a : Expr} {es : List Expr} {fa : FE} {fs : FAr}
theorem dr_nil : PA X [] (rdR X.K rNil) := by
  refine pa_imp pa_nil fun σ H Q ⟨ρ, G, I, h⟩ => ?_
  exact h [] H G (Stp.refl _ _ _ _) I (by simp only [ArR])
theorem dr_cons (ha : PE X a (rd X.K fa)) (hr : PA X es (rdR X.K fs)) (hs : starEach (a :: es) X.env = (false, eval a X.env) :: starEach es X.env := by rfl) : PA X (a :: es) (rdR X.K (rCons fa fs)) := by
  refine pa_imp (pa_cons ha hr hs) fun σ H Q ⟨ρ, G, I, h⟩ => ?_
  unfold rdRK rCons at h
  refine rd_of I ?_
  unfold rdK
  cases e : fa ρ with
  | ex _ _ => rw [e] at h; exact h
  | no => rw [e] at h; exact h
  | ok p =>
    obtain ⟨d, ρ1⟩ := p
    rw [e] at h
    dsimp only [Rz.bind] at h ⊢
    intro v H1 G1 s1 I1 r1
    refine ⟨ρ1, G1, I1, ?_⟩
    unfold rdRK
    cases e2 : fs ρ1 with
    | ex _ _ => rw [e2] at h; exact h
    | no => rw [e2] at h; exact h
    | ok q =>
      obtain ⟨ds, ρ2⟩ := q
      rw [e2] at h
      dsimp only at h ⊢
      intro vs H2 G2 s2 I2 r2
      exact h (v :: vs) H2 G2 (s1.trans s2) I2 (by simp only [ArR]; exact ⟨v, vs, rfl, Rep.mono s2.sub _ _ r1, r2⟩)
theorem dr_own (j : Nat) {x : Str} {px : Pos} (hr : PA X es (rdR X.K fs)) (hN : X.N[j]? = some x := by rfl) (hv : Vis X.env.scope x := by first | exact Or.inl rfl | exact Or.inr (Or.inl rfl) | exact Or.inr (Or.inr rfl)) (hd : (x == ("__debug__" : Str)) = false := by decide)
    (hcd : (x == ("__classdict__" : Str)) = false := by decide) (hs : starEach (.Name x px :: es) X.env = (false, eval (.Name x px) X.env) :: starEach es X.env := by rfl) : PA X (.Name x px :: es) (rdR X.K (rOwn j fs)) := by
  refine pa_imp (pa_cons (pe_var (i := j) hN hv hd hcd) hr hs) fun σ H Q ⟨ρ, G, I, h⟩ => ?_
  unfold rdRK rOwn at h
  cases e : ownL ρ j with
  | none => rw [e] at h; exact h.elim
  | some p =>
    rw [e] at h
    dsimp only at h
    obtain ⟨a, vs, e1, _⟩ := I.own e
    refine ⟨.ref a, e1, ρ, G, I, ?_⟩
    unfold rdRK
    cases e2 : fs ρ with
    | ex _ _ => rw [e2] at h; exact h
    | no => rw [e2] at h; exact h
    | ok q =>
      obtain ⟨ds, ρ2⟩ := q
      rw [e2] at h
      dsimp only [Rz.bind] at h ⊢
      intro vs H2 G2 s2 I2 r2
      exact h (.ref a :: vs) H2 G2 s2 I2 (by simp only [ArR]; exact ⟨_, vs, rfl, e1, r2⟩)
end

def argsOf (ρ : Rho) : List Ar → Option Args
  | [] => some []
  | .d d :: xs => (argsOf ρ xs).map (Sl.dat d :: ·)
  | .o j :: xs => match ownL ρ j with | some (_, ds) => (argsOf ρ xs).map (Sl.own true ds :: ·) | none => none
def isO (i : Nat) : Ar → Bool | .o j => j == i | _ => false
/-- no list is handed in twice -/
def onceO (xs : List Ar) : Bool := (List.range xs.length).all fun k => match xs[k]? with | some (.o j) => xs.findIdx? (isO j) == some k | _ => true
def backO (xs : List Ar) (as' : Args) (ρ : Rho) : Rho := ρ.mapIdx fun i s => match s with
  | some (.own io ds) => (match xs.findIdx? (isO i) with
    | some k => (match as'[k]? with | some (.own _ es) => some (.own io es) | _ => some (.own io ds))
    | none => some (.own io ds))
  | s => s
section
variable {K : PySem.W.Frag} {σ : L2.St} {ρ : Rho} {G H : Hp}
theorem onceO_of {xs : List Ar} {k j : Nat} (h : onceO xs = true) (e : xs[k]? = some (.o j)) : xs.findIdx? (isO j) = some k := by
  have hl := (List.getElem?_eq_some_iff.mp e).1
  have z := List.all_eq_true.mp h k (List.mem_range.mpr hl)
  rw [e] at z
  simpa using z
/-- place by place -/
theorem args_get : ∀ {xs : List Ar} {vs : List V} {as : Args}, ArR K G σ xs vs → argsOf ρ xs = some as → vs.length = as.length ∧ as.length = xs.length ∧ ∀ (k : Nat) (s : Sl), as[k]? = some s → ∃ v : V, vs[k]? = some v ∧
    ((∃ d : D, xs[k]? = some (Ar.d d) ∧ s = Sl.dat d ∧ Rep K G d v) ∨ (∃ (j : Nat) (io : Bool) (ds : List D), xs[k]? = some (Ar.o j) ∧ ownL ρ j = some (io, ds) ∧ s = Sl.own true ds ∧ σ[j]? = some (some v)))
  | [], vs, as, h, e => by
    simp only [ArR] at h; subst h; cases e
    exact ⟨rfl, rfl, fun k s z => by simp at z⟩
  | .d d :: xs, vs, as, h, e => by
    simp only [ArR] at h
    obtain ⟨v, r, rfl, h1, h2⟩ := h
    simp only [argsOf] at e
    cases q : argsOf ρ xs with
    | none => rw [q] at e; cases e
    | some bs =>
      rw [q] at e; cases e
      obtain ⟨l1, l2, f⟩ := args_get h2 q
      refine ⟨by rw [List.length_cons, List.length_cons, l1], by rw [List.length_cons, List.length_cons, l2], fun k s z => ?_⟩
      cases k with
      | zero => simp at z; subst z; exact ⟨v, rfl, .inl ⟨d, rfl, rfl, h1⟩⟩
      | succ k => simp at z; exact f k s z
  | .o j :: xs, vs, as, h, e => by
    simp only [ArR] at h
    obtain ⟨v, r, rfl, h1, h2⟩ := h
    simp only [argsOf] at e
    cases q0 : ownL ρ j with
    | none => rw [q0] at e; cases e
    | some p =>
      obtain ⟨io, ds⟩ := p
      rw [q0] at e
      dsimp only at e
      cases q : argsOf ρ xs with
      | none => rw [q] at e; cases e
      | some bs =>
        rw [q] at e; cases e
        obtain ⟨l1, l2, f⟩ := args_get h2 q
        refine ⟨by rw [List.length_cons, List.length_cons, l1], by rw [List.length_cons, List.length_cons, l2], fun k s z => ?_⟩
        cases k with
        | zero => simp at z; subst z; exact ⟨v, rfl, .inr ⟨j, io, ds, rfl, q0, rfl, h1⟩⟩
        | succ k => simp at z; exact f k s z
theorem args_io {xs : List Ar} {as : Args} : argsOf ρ xs = some as → allIo as = true := by
  intro h
  unfold allIo
  induction xs generalizing as with
  | nil => cases h; rfl
  | cons x xs ih =>
    cases x with
    | d d =>
      simp only [argsOf] at h
      cases q : argsOf ρ xs with
      | none => rw [q] at h; cases h
      | some bs => rw [q] at h; cases h; rw [List.all_cons, ih q]; rfl
    | o j =>
      simp only [argsOf] at h
      cases q0 : ownL ρ j with
      | none => rw [q0] at h; cases h
      | some p =>
        rw [q0] at h
        dsimp only at h
        cases q : argsOf ρ xs with
        | none => rw [q] at h; cases h
        | some bs => rw [q] at h; cases h; rw [List.all_cons, ih q]; rfl
theorem args_SR {xs : List Ar} {vs : List V} {as : Args} (I : SR K G H σ ρ) (h : ArR K G σ xs vs) (e : argsOf ρ xs = some as) (o : onceO xs = true) : SR K G H (vs.map some) (as.map some) := by
  obtain ⟨l1, l2, f⟩ := args_get h e
  refine ⟨I.tab, by rw [List.length_map, List.length_map, l1], I.sub, fun k s ov h1 h2 => ?_, fun k l io jo ds es a h1 h2 h3 h4 => ?_⟩
  · obtain ⟨s, e1, rfl⟩ := get_map_some h1
    obtain ⟨v, e2, rfl⟩ := get_map_some h2
    obtain ⟨v', e3, z⟩ := f k s e1
    rw [e2] at e3; cases e3
    rcases z with ⟨d, _, rfl, r⟩ | ⟨j, io, ds, _, q, rfl, q2⟩
    · exact ⟨v, rfl, r⟩
    · obtain ⟨a, us, z1, z2, z3, z4⟩ := I.own q
      rw [q2] at z1; cases z1
      exact ⟨a, us, rfl, z2, z3, z4⟩
  · obtain ⟨s1, e1, z1⟩ := get_map_some h1
    obtain ⟨s2, e2, z2⟩ := get_map_some h2
    cases z1; cases z2
    obtain ⟨v1, f1, w1⟩ := f k _ e1
    obtain ⟨v2, f2, w2⟩ := f l _ e2
    have g1 : v1 = .ref a := by
      rw [List.getElem?_map, f1] at h3
      cases h3; rfl
    have g2 : v2 = .ref a := by
      rw [List.getElem?_map, f2] at h4
      cases h4; rfl
    subst g1; subst g2
    rcases w1 with ⟨_, _, z, _⟩ | ⟨j1, io1, ds1, x1, q1, _, y1⟩
    · cases z
    rcases w2 with ⟨_, _, z, _⟩ | ⟨j2, io2, ds2, x2, q2, _, y2⟩
    · cases z
    have ej := I.inj j1 j2 io1 io2 ds1 ds2 a (ownL_eq q1) (ownL_eq q2) y1 y2
    subst ej
    have a1 := onceO_of o x1
    have a2 := onceO_of o x2
    rw [a1] at a2
    cases a2; rfl
theorem backO_get {xs : List Ar} {as' : Args} {i : Nat} {s : Option Sl} (h : (backO xs as' ρ)[i]? = some s) : ∃ t, ρ[i]? = some t ∧ s = (match t with
  | some (.own io ds) => (match xs.findIdx? (isO i) with
    | some k => (match as'[k]? with | some (.own _ es) => some (.own io es) | _ => some (.own io ds))
    | none => some (.own io ds))
  | s => s) := by
  unfold backO at h
  rw [List.getElem?_mapIdx] at h
  cases q : ρ[i]? with
  | none => rw [q] at h; cases h
  | some t => rw [q] at h; cases h; exact ⟨t, rfl, rfl⟩
/-- behind a call, in the caller -/
theorem call_back {xs : List Ar} {vs : List V} {as as' : Args} {G' H' : Hp} (I : SR K G H σ ρ) (h : ArR K G σ xs vs) (e : argsOf ρ xs = some as) (o : onceO xs = true)
    (st : Stp (vs.map some) (as.map some) G H (vs.map some) (as'.map some) G' H') (I' : SR K G' H' (vs.map some) (as'.map some)) :
    Stp σ ρ G H σ (backO xs as' ρ) G' H' ∧ SR K G' H' σ (backO xs as' ρ) ∧ ∀ a, OwnAt σ (backO xs as' ρ) a → OwnAt σ ρ a := by
  obtain ⟨l1, l2, f⟩ := args_get h e
  -- a list that was handed in is one's own
  have ownA : ∀ a, OwnAt (vs.map some) (as.map some) a → ∃ j io ds, ownL ρ j = some (io, ds) ∧ σ[j]? = some (some (.ref a)) ∧ ∃ k : Nat, xs[k]? = some (Ar.o j) := fun a ⟨k, io, ds, h1, h2⟩ => by
    obtain ⟨s1, e1, z1⟩ := get_map_some h1
    cases z1
    obtain ⟨v1, f1, w1⟩ := f k _ e1
    have g1 : v1 = .ref a := by
      rw [List.getElem?_map, f1] at h2
      cases h2; rfl
    subst g1
    rcases w1 with ⟨_, _, z, _⟩ | ⟨j1, io1, ds1, x1, q1, _, y1⟩
    · cases z
    · exact ⟨j1, io1, ds1, q1, y1, k, x1⟩
  have ownB : ∀ a, OwnAt (vs.map some) (as.map some) a → OwnAt σ ρ a := fun a z => by
    obtain ⟨j, io, ds, q, y, _⟩ := ownA a z
    exact ⟨j, io, ds, ownL_eq q, y⟩
  have bo : ∀ (i : Nat) (io : Bool) (es : List D), (backO xs as' ρ)[i]? = some (some (Sl.own io es)) → ∃ ds, ρ[i]? = some (some (Sl.own io ds)) := fun i io es z => by
    obtain ⟨t, e1, e2⟩ := backO_get z
    rw [e1]
    cases t with
    | none => cases e2
    | some t =>
      cases t with
      | dat d => cases e2
      | own jo ds =>
        refine ⟨ds, ?_⟩
        dsimp only at e2
        split at e2
        · split at e2
          · cases e2; rfl
          · cases e2; rfl
        · cases e2; rfl
  refine ⟨⟨st.sub, fun a hh n => st.new a hh fun z => n (ownB a z), fun a ob hh n t => st.keep a ob hh (fun z => n (ownB a z)) t, st.grow, st.dom, fun a ⟨i, io, es, q1, q2⟩ => ?_, fun a ⟨i, es, q1, q2⟩ => ?_, fun i ds q => ?_⟩,
    ⟨I'.tab, ?_, I'.sub, fun i s ov h1 h2 => ?_, fun i j io jo ds es a h1 h2 h3 h4 => ?_⟩, fun a h => ?_⟩
  · obtain ⟨ds, q3⟩ := bo i io es q1
    exact .inl ⟨i, io, ds, q3, q2⟩
  · obtain ⟨ds, q3⟩ := bo i false es q1
    exact .inl ⟨i, ds, q3, q2⟩
  · refine ⟨rfl, ?_⟩
    unfold backO
    rw [List.getElem?_mapIdx, q]
    simp only [Option.map]
    split
    · split
      · exact ⟨_, rfl⟩
      · exact ⟨_, rfl⟩
    · exact ⟨_, rfl⟩
  · unfold backO
    rw [List.length_mapIdx]; exact I.len
  · obtain ⟨t, e1, e2⟩ := backO_get h1
    have z := I.slot i t ov e1 h2
    cases t with
    | none => subst e2; trivial
    | some t =>
      cases t with
      | dat d =>
        subst e2
        obtain ⟨v, z1, z2⟩ := z
        exact ⟨v, z1, Rep.mono st.sub _ _ z2⟩
      | own io ds =>
        obtain ⟨a, us, z1, z2, z3, z4⟩ := z
        subst z1
        -- not handed in
        have out : (∀ k : Nat, xs[k]? ≠ some (Ar.o i)) → SlRep K G' H' (some (.own io ds)) (some (.ref a)) := fun nk => by
          have na : ¬ OwnAt (vs.map some) (as.map some) a := fun y => by
            obtain ⟨j, jo, es, q, y2, k, y3⟩ := ownA a y
            have ej := I.inj i j io jo ds es a e1 (ownL_eq q) h2 y2
            subst ej
            exact nk k y3
          exact ⟨a, us, rfl, st.keep a _ z2 na rfl, (st.new a (by rw [z2]; exact fun z => by cases z) na).trans z3, Reps.mono st.sub _ _ z4⟩
        dsimp only at e2
        cases qk : xs.findIdx? (isO i) with
        | none =>
          rw [qk] at e2
          subst e2
          refine out fun k y => ?_
          have q := onceO_of o y
          rw [qk] at q; cases q
        | some k =>
          rw [qk] at e2
          dsimp only at e2
          -- the place k hands in the list at i
          have xk : xs[k]? = some (Ar.o i) := by
            obtain ⟨hlt, hp, _⟩ := List.findIdx?_eq_some_iff_getElem.mp qk
            rw [List.getElem?_eq_getElem hlt]
            cases q : xs[k] with
            | d d => rw [q] at hp; cases hp
            | o j =>
              rw [q] at hp
              simp only [isO, beq_iff_eq] at hp
              rw [hp]
          have hk : k < as.length := by rw [l2]; exact (List.getElem?_eq_some_iff.mp xk).1
          obtain ⟨v, f1, w1⟩ := f k _ (List.getElem?_eq_getElem hk)
          rcases w1 with ⟨_, y1, _⟩ | ⟨j1, io1, ds1, x1, q1, y2, y1⟩
          · rw [xk] at y1; cases y1
          · rw [xk] at x1; cases x1
            rw [h2] at y1
            have ev : v = .ref a := by cases y1; rfl
            subst ev
            have ak : (as.map some)[k]? = some (some (.own true ds1)) := by rw [List.getElem?_map, List.getElem?_eq_getElem hk, y2]; rfl
            obtain ⟨_, es, w3⟩ := st.stay k ds1 ak
            obtain ⟨s3, w4, w5⟩ := get_map_some w3
            cases w5
            rw [w4] at e2
            dsimp only at e2
            subst e2
            obtain ⟨b, us', b1, b2⟩ := I'.slot k _ (some (.ref a)) w3 (by rw [List.getElem?_map, f1]; rfl)
            cases b1
            exact ⟨_, us', rfl, b2⟩
  · obtain ⟨d1, q1⟩ := bo i io ds h1
    obtain ⟨d2, q2⟩ := bo j jo es h2
    exact I.inj i j _ _ _ _ a q1 q2 h3 h4
  · obtain ⟨i, io, es, q1, q2⟩ := h
    obtain ⟨ds, q3⟩ := bo i io es q1
    exact ⟨i, io, ds, q3, q2⟩
end
/-- f(..): the value data -/
def callD (F : FD) (n : Nat) (xs : List Ar) : Rho → Rz (D × Rho) := fun ρ => if onceO xs = true then (match argsOf ρ xs with
  | some as => (match F n as with
    | some (.dat d, as') => .ok (d, backO xs as' ρ)
    | _ => .no)
  | none => .no) else .no
def eCall (F : FD) (n : Nat) (fr : FAr) : FE := fun ρ => (fr ρ).bind fun p => callD F n p.1 p.2
def callO (F : FD) (n : Nat) (xs : List Ar) : Rho → Rz (List D × Rho) := fun ρ => if onceO xs = true then (match argsOf ρ xs with
  | some as => (match F n as with
    | some (.own false ds, as') => .ok (ds, backO xs as' ρ)
    | _ => .no)
  | none => .no) else .no
def oCall (F : FD) (n : Nat) (fr : FAr) : FA := fun ρ => (fr ρ).bind fun p => callO F n p.1 p.2
section
variable {X : Cx} {f : Addr} {fd : FuncData} {ps : List Str} {F : FD} {k : Nat} {x : Str} {p pos : Pos} {e : Expr} {es : List Expr} {fr : FAr}
theorem rd_call (n : Nat) (np : Nat) (hnp : ∀ n as s as', F n as = some (s, as') → as.length = np) (σ : L2.St) (H : Hp) (Q : VK) (h : rd X.K (eCall F n fr) σ H Q) : tCall (spI X.K np F) [] E0 (rdR X.K fr) σ H Q := by
  obtain ⟨ρ, G, I, h⟩ := h
  refine ⟨ρ, G, I, ?_⟩
  unfold eCall at h
  unfold rdRK
  cases e1 : fr ρ with
  | ex _ _ => rw [e1] at h; exact h
  | no => rw [e1] at h; exact h
  | ok q =>
    obtain ⟨xs, ρ1⟩ := q
    rw [e1] at h
    dsimp only [Rz.bind] at h ⊢
    intro vs H1 G1 s1 I1 r1
    unfold callD at h
    by_cases o : onceO xs = true
    · rw [if_pos o] at h
      cases ea : argsOf ρ1 xs with
      | none => rw [ea] at h; exact h.elim
      | some as =>
        rw [ea] at h
        dsimp only at h
        cases ef : F n as with
        | none => rw [ef] at h; exact h.elim
        | some q =>
          obtain ⟨sl, as'⟩ := q
          rw [ef] at h
          cases sl with
          | own io ds => exact h.elim
          | dat d =>
            dsimp only at h
            rw [List.append_nil]
            obtain ⟨l1, l2, _⟩ := args_get r1 ea
            refine ⟨n, G1, as, .dat d, as', by rw [l1]; exact hnp n as _ _ ef, args_SR I1 r1 ea o, args_io ea, ef, fun v H' G' st I' rr => ?_⟩
            obtain ⟨A, B, _⟩ := call_back I1 r1 ea o st I'
            exact h v H' G' (s1.trans A) B rr
    · rw [if_neg o] at h; exact h.elim
theorem rd_callO (n : Nat) (np : Nat) (hnp : ∀ n as s as', F n as = some (s, as') → as.length = np) (σ : L2.St) (H : Hp) (Q : VK) (h : rdO X.K (oCall F n fr) σ H Q) : tCall (spI X.K np F) [] E0 (rdR X.K fr) σ H Q := by
  obtain ⟨ρ, G, I, h⟩ := h
  refine ⟨ρ, G, I, ?_⟩
  unfold oCall at h
  unfold rdRK
  cases e1 : fr ρ with
  | ex _ _ => rw [e1] at h; exact h
  | no => rw [e1] at h; exact h
  | ok q =>
    obtain ⟨xs, ρ1⟩ := q
    rw [e1] at h
    dsimp only [Rz.bind] at h ⊢
    intro vs H1 G1 s1 I1 r1
    unfold callO at h
    by_cases o : onceO xs = true
    · rw [if_pos o] at h
      cases ea : argsOf ρ1 xs with
      | none => rw [ea] at h; exact h.elim
      | some as =>
        rw [ea] at h
        dsimp only at h
        cases ef : F n as with
        | none => rw [ef] at h; exact h.elim
        | some q =>
          obtain ⟨sl, as'⟩ := q
          rw [ef] at h
          cases sl with
          | dat d => exact h.elim
          | own io ds =>
            cases io with
            | true => exact h.elim
            | false =>
              dsimp only at h
              rw [List.append_nil]
              obtain ⟨l1, l2, _⟩ := args_get r1 ea
              have hio := args_io ea
              refine ⟨n, G1, as, .own false ds, as', by rw [l1]; exact hnp n as _ _ ef, args_SR I1 r1 ea o, hio, ef, fun v H' G' st I' rr => ?_⟩
              obtain ⟨A, B, C⟩ := call_back I1 r1 ea o st I'
              obtain ⟨_, q, us, rfl, z1, z2, z3, z4⟩ := rr
              have n1 : H1 q = none := z4.resolve_left fun y => OwnN.mapF hio y
              have n0 : H q = none := by
                cases y : H q with
                | none => rfl
                | some ob => exact absurd n1 (s1.dom q (by rw [y]; exact fun z => by cases z))
              refine h q us H' G' (s1.trans A) B n0 z1 z2 (fun y => ?_) z3
              exact own_dom I1 (C q y) n1
    · rw [if_neg o] at h; exact h.elim
/-- a def of the module that may be called by its name -/
structure Cl (P : Program) (w : World) (K : PySem.W.Frag) (mg : Str → Option Value) (base : Heap) (k : Nat) (x : Str) (np : Nat) (F : FD) : Prop where
  ex : ∃ (f : Addr) (fd : FuncData) (ps : List Str), FnG P w K mg base k f fd ps (spI K np F) ∧ mg x = some (.ref f) ∧ PySem.W.keepIn K (.ref f) = true ∧ Binds K fd ps []
  len : ∀ n as s as', F n as = some (s, as') → as.length = np
theorem de_call (n : Nat) {np j : Nat} (c : Cl X.prog X.w X.K X.mg X.base k x np F) (hr : Rm j X.A) (hk : k ≤ j) (hg : Gl X x) (ha : PA X (e :: es) (rdR X.K fr))
    (hdb : (x == ("__debug__" : Str)) = false := by decide) (he : starEach (e :: es) X.env = (false, eval e X.env) :: starEach es X.env := by rfl) (hpl : (backTo pos (starEach es X.env)).any (·.1) = false := by rfl) :
    PE X (.Call (.Name x p) (e :: es) [] pos) (rd X.K (eCall F n fr)) := by
  obtain ⟨f, fd, ps, FO, hm, kp, b⟩ := c.ex
  exact pe_imp (pe_callG FO (hr.mono hk) hg hm kp b ha hdb he hpl) (rd_call n np c.len)
theorem do_call (n : Nat) {np j : Nat} (c : Cl X.prog X.w X.K X.mg X.base k x np F) (hr : Rm j X.A) (hk : k ≤ j) (hg : Gl X x) (ha : PA X (e :: es) (rdR X.K fr))
    (hdb : (x == ("__debug__" : Str)) = false := by decide) (he : starEach (e :: es) X.env = (false, eval e X.env) :: starEach es X.env := by rfl) (hpl : (backTo pos (starEach es X.env)).any (·.1) = false := by rfl) :
    PE X (.Call (.Name x p) (e :: es) [] pos) (rdO X.K (oCall F n fr)) := by
  obtain ⟨f, fd, ps, FO, hm, kp, b⟩ := c.ex
  exact pe_imp (pe_callG FO (hr.mono hk) hg hm kp b ha hdb he hpl) (rd_callO n np c.len)
/-- a value that is a new list, as data -/
def eFz (f : FA) : FE := fun ρ => (f ρ).bind fun p => .ok (.lst p.1, p.2)
theorem SR.seen {K : PySem.W.Frag} {σ : L2.St} {ρ : Rho} {G H : Hp} {p : Addr} {us : List V} (I : SR K G H σ ρ) (h1 : H p = some (.lst us)) (h2 : G p = none) (n : ¬ OwnAt σ ρ p) : SR K (upd G p (.lst us)) H σ ρ := by
  have sG : Same G (upd G p (.lst us)) := same_upd h2
  have nt : ∀ b ps, H b = some (.tbl ps) → b ≠ p := fun b ps e z => by
    subst z
    rw [h1] at e; cases e
  refine ⟨I.tabs' (Grow.refl _) fun P z ⟨ps, e⟩ => upd_ne (nt P ps e), I.len, fun b o q => ?_, fun i s o q1 q2 => ?_, I.inj⟩
  · by_cases z : b = p
    · subst z; rw [upd_same] at q; cases q; exact h1
    · rw [upd_ne z] at q; exact I.sub b o q
  · have z := I.slot i s o q1 q2
    match s, q1, z with
    | none, _, _ => trivial
    | some (.dat d), _, ⟨v, e, r⟩ => exact ⟨v, e, Rep.mono sG _ _ r⟩
    | some (.own io' ds'), q1, ⟨b, vs, e, e2, e3, r'⟩ =>
      have nb : b ≠ p := fun z => by
        subst z; subst e
        exact n ⟨i, io', ds', q1, q2⟩
      exact ⟨b, vs, e, e2, by rw [upd_ne nb]; exact e3, Reps.mono sG _ _ r'⟩
theorem de_ofO {e : Expr} {f : FA} (h : PE X e (rdO X.K f)) : PE X e (rd X.K (eFz f)) := by
  refine pe_imp h fun σ H Q ⟨ρ, G, I, h⟩ => ?_
  refine ⟨ρ, G, I, ?_⟩
  unfold eFz at h
  cases q : f ρ with
  | ex _ _ => rw [q] at h; exact h
  | no => rw [q] at h; exact h
  | ok p =>
    obtain ⟨ds, ρ1⟩ := p
    rw [q] at h
    intro p us H1 G1 s1 I1 e1 e2 e3 n r
    have ne : ∀ a, H a ≠ none → a ≠ p := fun a h z => h (by rw [z]; exact e1)
    refine h (.ref p) H1 (upd G1 p (.lst us)) ⟨fun a o z => by rw [upd_ne (ne_of_none (s1.sub a o z) e3)]; exact s1.sub a o z, fun a z z2 => by rw [upd_ne (ne a z)]; exact s1.new a z z2, s1.keep, s1.grow, s1.dom, s1.own, s1.ownN, s1.stay⟩ (I1.seen e2 e3 n) (Rep.lst_new e3 r)
end
end M

namespace M
open PySem PySem.Spec PyProof.Rows L2
variable [Tabs]

/-! ### comprehensions -/
def wipeR (vs : List Nat) (ρ : Rho) : Rho := ρ.mapIdx fun i s => if vs.contains i = true then none else s
def restR (vs : List Nat) (ρ0 ρ : Rho) : Rho := ρ.mapIdx fun i s => if vs.contains i = true then (match ρ0[i]? with | some (some (.dat d)) => some (.dat d) | _ => none) else s
def noIo (vs : List Nat) (ρ : Rho) : Bool := vs.all fun i => !isIo ρ i
section
variable {K : PySem.W.Frag} {σ σ2 : L2.St} {ρ ρ2 : Rho} {G H : Hp} {vs : List Nat}
theorem wipe_get {i : Nat} : ∀ {vs : List Nat}, i ∉ vs → (wipe σ vs)[i]? = σ[i]?
  | [], _ => rfl
  | v :: vs, h => by
    unfold wipe
    rw [List.mem_cons, not_or] at h
    rw [List.getElem?_set_ne (fun e => h.1 e.symm)]
    exact wipe_get h.2
theorem wipe_in {i : Nat} : ∀ {vs : List Nat}, i ∈ vs → i < σ.length → (wipe σ vs)[i]? = some none
  | v :: vs, h, hl => by
    unfold wipe
    by_cases e : v = i
    · subst e
      rw [List.getElem?_set_self (by rw [wipe_length]; exact hl)]
    · rw [List.getElem?_set_ne e]
      rcases List.mem_cons.mp h with z | z
      · exact absurd z.symm e
      · exact wipe_in z hl
theorem wipe_out {i : Nat} {o : Option V} (h : (wipe σ vs)[i]? = some o) : i ∉ vs ∧ σ[i]? = some o ∨ i ∈ vs ∧ o = none := by
  by_cases z : i ∈ vs
  · right
    have hl : i < σ.length := by rw [← wipe_length σ vs]; exact (List.getElem?_eq_some_iff.mp h).1
    rw [wipe_in z hl] at h
    cases h
    exact ⟨z, rfl⟩
  · left
    rw [wipe_get z] at h
    exact ⟨z, h⟩
theorem wipe_eq (hl : σ2.length = σ.length) (h : ∀ i, i ∉ vs → σ2[i]? = σ[i]?) : wipe σ2 vs = wipe σ vs := by
  apply List.ext_getElem?
  intro i
  by_cases z : i ∈ vs
  · by_cases l : i < σ.length
    · rw [wipe_in z l, wipe_in z (by rw [hl]; exact l)]
    · rw [List.getElem?_eq_none (by rw [wipe_length, hl]; omega), List.getElem?_eq_none (by rw [wipe_length]; omega)]
  · rw [wipe_get z, wipe_get z, h i z]
theorem wipe_wipe : wipe (wipe σ vs) vs = wipe σ vs := wipe_eq (wipe_length σ vs) fun _ h => wipe_get h
theorem wipe_only {is : List Nat} (hs : ∀ i ∈ is, i ∈ vs) (o : Only is (wipe σ vs) σ2) : wipe σ2 vs = wipe σ vs := by
  rw [wipe_eq (σ := wipe σ vs) o.1 fun i h => o.2 i fun z => h (hs i z), wipe_wipe]
theorem wipeR_get {i : Nat} {s : Option Sl} (h : (wipeR vs ρ)[i]? = some s) : i ∉ vs ∧ ρ[i]? = some s ∨ i ∈ vs ∧ s = none := by
  unfold wipeR at h
  rw [List.getElem?_mapIdx] at h
  cases q : ρ[i]? with
  | none => rw [q] at h; cases h
  | some t =>
    rw [q] at h
    simp only [Option.map_some, Option.some.injEq] at h
    by_cases z : i ∈ vs
    · rw [if_pos (by simpa using z)] at h
      exact .inr ⟨z, h.symm⟩
    · rw [if_neg (by simpa using z)] at h
      exact .inl ⟨z, by rw [h]⟩
theorem wipeR_of {i : Nat} {s : Option Sl} (n : i ∉ vs) (h : ρ[i]? = some s) : (wipeR vs ρ)[i]? = some s := by
  unfold wipeR
  rw [List.getElem?_mapIdx, h]
  simp only [Option.map_some]
  rw [if_neg (by simpa using n)]
theorem restR_get {ρ0 : Rho} {i : Nat} {s : Option Sl} (h : (restR vs ρ0 ρ)[i]? = some s) : i ∉ vs ∧ ρ[i]? = some s ∨ i ∈ vs ∧ (s = none ∨ ∃ d, s = some (.dat d) ∧ ρ0[i]? = some (some (.dat d))) := by
  unfold restR at h
  rw [List.getElem?_mapIdx] at h
  cases q : ρ[i]? with
  | none => rw [q] at h; cases h
  | some t =>
    rw [q] at h
    simp only [Option.map_some, Option.some.injEq] at h
    by_cases z : i ∈ vs
    · rw [if_pos (by simpa using z)] at h
      right
      refine ⟨z, ?_⟩
      split at h
      · exact .inr ⟨_, h.symm, by assumption⟩
      · exact .inl h.symm
    · rw [if_neg (by simpa using z)] at h
      exact .inl ⟨z, by rw [h]⟩
theorem restR_of {ρ0 : Rho} {i : Nat} {s : Option Sl} (n : i ∉ vs) (h : ρ[i]? = some s) : (restR vs ρ0 ρ)[i]? = some s := by
  unfold restR
  rw [List.getElem?_mapIdx, h]
  simp only [Option.map_some]
  rw [if_neg (by simpa using n)]
theorem SR.wipe (I : SR K G H σ ρ) : SR K G H (L2.wipe σ vs) (wipeR vs ρ) where
  tab := I.tab
  len := by rw [wipe_length]; unfold wipeR; rw [List.length_mapIdx]; exact I.len
  sub := I.sub
  slot := fun i s o h1 h2 => by
    rcases wipeR_get h1 with ⟨n, h1⟩ | ⟨_, rfl⟩
    · rw [wipe_get n] at h2
      exact I.slot i s o h1 h2
    · trivial
  inj := fun i j io jo ds es a h1 h2 h3 h4 => by
    rcases wipeR_get h1 with ⟨n1, h1⟩ | ⟨_, z⟩
    · rcases wipeR_get h2 with ⟨n2, h2⟩ | ⟨_, z⟩
      · rw [wipe_get n1] at h3
        rw [wipe_get n2] at h4
        exact I.inj i j io jo ds es a h1 h2 h3 h4
      · cases z
    · cases z
theorem OwnAt.unwipe {a : Addr} (h : OwnAt (L2.wipe σ vs) (wipeR vs ρ) a) : OwnAt σ ρ a := by
  obtain ⟨i, io, ds, h1, h2⟩ := h
  rcases wipeR_get h1 with ⟨n1, h1⟩ | ⟨_, z⟩
  · rw [wipe_get n1] at h2
    exact ⟨i, io, ds, h1, h2⟩
  · cases z
theorem OwnN.unwipe {a : Addr} (h : OwnN (L2.wipe σ vs) (wipeR vs ρ) a) : OwnN σ ρ a := by
  obtain ⟨i, ds, h1, h2⟩ := h
  rcases wipeR_get h1 with ⟨n1, h1⟩ | ⟨_, z⟩
  · rw [wipe_get n1] at h2
    exact ⟨i, ds, h1, h2⟩
  · cases z
theorem noIo_of {i : Nat} {ds : List D} (h : noIo vs ρ = true) (e : ρ[i]? = some (some (.own true ds))) : i ∉ vs := fun z => by
  have q := List.all_eq_true.mp h i z
  unfold isIo at q
  rw [e] at q
  cases q
theorem Stp.wipe (h : noIo vs ρ = true) : Stp σ ρ G H (L2.wipe σ vs) (wipeR vs ρ) G H where
  sub := fun _ _ h => h
  new := fun _ _ _ => rfl
  keep := fun _ _ h _ _ => h
  grow := Grow.refl _
  dom := fun _ h => h
  own := fun a z => .inl z.unwipe
  ownN := fun a z => .inl z.unwipe
  stay := fun i ds q => ⟨wipe_get (noIo_of h q), ds, wipeR_of (noIo_of h q) q⟩
/-- nothing is known of the block's own names -/
def Bare (vs : List Nat) (ρ : Rho) : Prop := ∀ i ∈ vs, ∀ s, ρ[i]? = some s → s = none
theorem bare_wipeR : Bare vs (wipeR vs ρ) := fun i hi s h => by
  rcases wipeR_get h with ⟨n, _⟩ | ⟨_, e⟩
  · exact absurd hi n
  · exact e
theorem SR.rest {ρ0 : Rho} {G0 H0 : Hp} (s : Same G0 G) (I0 : SR K G0 H0 σ ρ0) (I : SR K G H (L2.wipe σ vs) ρ) : SR K G H σ (restR vs ρ0 ρ) where
  tab := I.tab
  len := by
    unfold restR; rw [List.length_mapIdx]
    have := I.len
    rw [wipe_length] at this
    exact this
  sub := I.sub
  slot := fun i t o h1 h2 => by
    rcases restR_get h1 with ⟨n, h1⟩ | ⟨_, rfl | ⟨d, rfl, e⟩⟩
    · rw [← wipe_get n] at h2
      exact I.slot i t o h1 h2
    · trivial
    · obtain ⟨v, e1, r⟩ := I0.slot i _ o e h2
      exact ⟨v, e1, Rep.mono s _ _ r⟩
  inj := fun i j io jo ds es a h1 h2 h3 h4 => by
    rcases restR_get h1 with ⟨n1, h1⟩ | ⟨_, z | ⟨d, z, e⟩⟩
    · rcases restR_get h2 with ⟨n2, h2⟩ | ⟨_, z | ⟨d, z, e⟩⟩
      · rw [← wipe_get n1] at h3
        rw [← wipe_get n2] at h4
        exact I.inj i j io jo ds es a h1 h2 h3 h4
      · cases z
      · cases z
    · cases z
    · cases z
theorem OwnAt.rest {ρ0 : Rho} {a : Addr} (h : OwnAt σ (restR vs ρ0 ρ) a) : OwnAt (L2.wipe σ vs) ρ a := by
  obtain ⟨i, io, ds, h1, h2⟩ := h
  rcases restR_get h1 with ⟨n1, h1⟩ | ⟨_, z | ⟨d, z, e⟩⟩
  · rw [← wipe_get n1] at h2
    exact ⟨i, io, ds, h1, h2⟩
  · cases z
  · cases z
theorem OwnN.rest {ρ0 : Rho} {a : Addr} (h : OwnN σ (restR vs ρ0 ρ) a) : OwnN (L2.wipe σ vs) ρ a := by
  obtain ⟨i, ds, h1, h2⟩ := h
  rcases restR_get h1 with ⟨n1, h1⟩ | ⟨_, z | ⟨d, z, e⟩⟩
  · rw [← wipe_get n1] at h2
    exact ⟨i, ds, h1, h2⟩
  · cases z
  · cases z
theorem Stp.rest {ρ0 : Rho} (b : Bare vs ρ) : Stp (L2.wipe σ vs) ρ G H σ (restR vs ρ0 ρ) G H where
  sub := fun _ _ h => h
  new := fun _ _ _ => rfl
  keep := fun _ _ h _ _ => h
  grow := Grow.refl _
  dom := fun _ h => h
  own := fun a z => .inl z.rest
  ownN := fun a z => .inl z.rest
  stay := fun i ds q => by
    have n : i ∉ vs := fun z => by cases b i z _ q
    exact ⟨(wipe_get n).symm, ds, restR_of n q⟩
/-- a list that none knows is written -/
theorem SR.blind {D0 : Addr} {us ws : List V} (I : SR K G H σ ρ) (h1 : H D0 = some (.lst us)) (h2 : G D0 = none) (n : ¬ OwnAt σ ρ D0) : SR K G (upd H D0 (.lst ws)) σ ρ := by
  have nt : ∀ b ps, H b = some (.tbl ps) → b ≠ D0 := fun b ps e z => by
    subst z
    rw [h1] at e; cases e
  refine ⟨I.tabs' (fun b ps e => ⟨ps, by rw [upd_ne (nt b ps e)]; exact e, id⟩) fun _ _ _ => rfl, I.len, fun b o q => ?_, fun i s o q1 q2 => ?_, I.inj⟩
  · rw [upd_ne (ne_of_none q h2)]; exact I.sub b o q
  · have z := I.slot i s o q1 q2
    match s, q1, z with
    | none, _, _ => trivial
    | some (.dat d), _, z => exact z
    | some (.own io' ds'), q1, ⟨b, vs, e, e2, e3, r'⟩ =>
      have nb : b ≠ D0 := fun z => by
        subst z; subst e
        exact n ⟨i, io', ds', q1, q2⟩
      exact ⟨b, vs, e, by rw [upd_ne nb]; exact e2, e3, r'⟩
/-- .. a list that did not stand at the step's start -/
theorem Stp.blind {D0 : Addr} {us ws : List V} {σ1 : L2.St} {ρ1 : Rho} {G1 H1 : Hp} (s : Stp σ1 ρ1 G1 H1 σ ρ G H) (h0 : H1 D0 = none) (h1 : H D0 = some (.lst us)) : Stp σ1 ρ1 G1 H1 σ ρ G (upd H D0 (.lst ws)) where
  sub := s.sub
  new := s.new
  keep := fun a o h n t => by rw [upd_ne (ne_of_none h h0)]; exact s.keep a o h n t
  grow := fun a ps h => by rw [upd_ne (ne_of_none h h0)]; exact s.grow a ps h
  dom := fun a h => by
    by_cases z : a = D0
    · subst z; exact absurd h0 h
    · rw [upd_ne z]; exact s.dom a h
  own := s.own
  ownN := s.ownN
  stay := s.stay
end

def lcL (tg : TgD) (ft : FT) (fe : FE) (vs : List Nat) : List D → List D → Rho → Rz (List D × Rho)
  | [], acc, ρ => frcL acc fun acc => .ok (acc, ρ)
  | d :: ds, acc, ρ => frc d fun d => nrmR ρ fun ρ => match tg d ρ with
    | none => .no
    | some ρ1 => (ft ρ1).bind fun c => if c.1 = true then (fe c.2).bind fun q => if acc.length < sizeLine ∧ noIo vs q.2 = true then lcL tg ft fe vs ds (acc ++ [q.1]) (wipeR vs q.2) else .no
      else if noIo vs c.2 = true then lcL tg ft fe vs ds acc (wipeR vs c.2) else .no
/-- [elt for tg in iter if test] -/
def oLc (fi : FI) (tg : TgD) (ft : FT) (fe : FE) (vs : List Nat) : FA := fun ρ => (fi ρ).bind fun p => if noIo vs p.2 = true then (lcL tg ft fe vs p.1 [] (wipeR vs p.2)).bind fun q => .ok (q.1, restR vs p.2 q.2) else .no
def tYesD : FT := fun ρ => .ok (true, ρ)
section
variable {X : Cx}
theorem dt_yes : ∀ (σ : L2.St) (H : Hp) (Q : Bool → Hp → Prop), rdT X.K tYesD σ H Q → tYes σ H Q := fun σ H Q ⟨ρ, G, I, h⟩ => h H G (Stp.refl _ _ _ _) I
theorem dts_nil : PTs X [] (rdT X.K tYesD) := ⟨fun pins s σ H Q I h => pts_nil.run pins s σ H Q I (dt_yes σ H Q h)⟩
theorem dts_one {c : Expr} {ft : FT} (h : PT X c (rdT X.K ft)) : PTs X [c] (rdT X.K ft) := pts_one h
theorem rd_lc {fi : FI} {is : List Nat} {tg : TgD} {ft : FT} {fe : FE} {vs : List Nat} (hs : ∀ i ∈ is, i ∈ vs) (σ : L2.St) (H : Hp) (Q : VK) (h : rdO X.K (oLc fi tg ft fe vs) σ H Q) : tLc (rdI X.K fi) (rdG X.K is tg) (rdT X.K ft) (rd X.K fe) vs σ H Q := by
  obtain ⟨ρ, G, I, h⟩ := h
  refine ⟨ρ, G, I, ?_⟩
  unfold oLc at h
  unfold rdIK
  cases e : fi ρ with
  | ex _ _ => rw [e] at h; exact h
  | no => rw [e] at h; exact h
  | ok p =>
    obtain ⟨ds, ρ1⟩ := p
    rw [e] at h
    dsimp only [Rz.bind] at h ⊢
    intro J H1 G1 s1 I1 hJ D0 hD
    by_cases io1 : noIo vs ρ1 = true
    · rw [if_pos io1] at h
      cases eL : lcL tg ft fe vs ds [] (wipeR vs ρ1) with
      | ex _ _ => rw [eL] at h; exact h.elim
      | no => rw [eL] at h; exact h.elim
      | ok r =>
        obtain ⟨res, ρf⟩ := r
        rw [eL] at h
        dsimp only at h
        have hD0 : H D0 = none := by
          cases q : H D0 with
          | none => rfl
          | some o => exact absurd hD (s1.dom D0 (by rw [q]; exact fun z => by cases z))
        have I1w : SR X.K G1 H1 (wipe σ vs) (wipeR vs ρ1) := I1.wipe
        obtain ⟨J0, S0, N0⟩ := I1w.fresh (o := .lst []) hD
        let W : Nat → Nat → Hp → Prop := fun i m H' => m = ds.length - i ∧ i ≤ ds.length ∧ ∃ ρ' G' acc us, Stp (wipe σ vs) (wipeR vs ρ1) G1 H1 (wipe σ vs) ρ' G' H' ∧ SR X.K G' H' (wipe σ vs) ρ' ∧ Bare vs ρ' ∧ H' D0 = some (.lst us) ∧ G' D0 = none ∧ ¬ OwnAt (wipe σ vs) ρ' D0 ∧ Reps X.K G' acc us ∧ us.length = acc.length ∧
          lcL tg ft fe vs (ds.drop i) acc ρ' = .ok (res, ρf)
        refine ⟨W, ⟨ds.length, rfl, Nat.zero_le _, wipeR vs ρ1, G1, [], [], S0, J0, bare_wipeR, upd_same, I1.sub.free hD, N0, Reps.nil, rfl, eL⟩, ?_⟩
        rintro i m H' ⟨rfl, hi, ρ', G', acc, us, sW, I', bW, hDl, hDg, hDn, rr, hlen, eq⟩
        by_cases hlt : i < ds.length
        · have ed : ds.drop i = ds[i] :: ds.drop (i + 1) := List.drop_eq_getElem_cons hlt
          have sub1 : Same G1 G' := sW.sub
          obtain ⟨go, yl⟩ := (hJ i G' H' sub1 I'.sub).1 ds[i] (List.getElem?_eq_getElem hlt)
          right
          refine ⟨go, fun H2 => W (i + 1) (ds.length - (i + 1)) H2, fun H2 w => ⟨ds.length - (i + 1), by omega, w⟩, fun x H2 y => ?_⟩
          obtain ⟨G2, P2, rx⟩ := yl x H2 y
          have I2 := I'.pure P2
          rw [ed] at eq
          unfold lcL at eq
          rw [frc_eq, nrmR_eq] at eq
          cases et : tg ds[i] ρ' with
          | none => rw [et] at eq; cases eq
          | some ρ3 =>
            rw [et] at eq
            dsimp only at eq
            refine ⟨ρ', G2, ds[i], I2, rx, ρ3, et, fun σ3 s3 I3 o3 => ⟨wipe_only hs o3, ?_⟩⟩
            -- D0 in what follows
            have base : Stp (wipe σ vs) ρ' G' H' σ3 ρ3 G2 H2 := (P2.stp (σ := wipe σ vs) (ρ := ρ')).trans s3
            have wq : wipe σ3 vs = wipe σ vs := wipe_only hs o3
            have keepD : ∀ {ρ4 : Rho} {G4 H4 : Hp}, Stp (wipe σ vs) ρ' G' H' σ3 ρ4 G4 H4 → SR X.K G4 H4 σ3 ρ4 → H4 D0 = some (.lst us) ∧ G4 D0 = none ∧ ¬ OwnAt σ3 ρ4 D0 := fun {ρ4 G4 H4} st I4 => by
              refine ⟨st.keep D0 _ hDl hDn rfl, (st.new D0 (by rw [hDl]; exact fun z => by cases z) hDn).trans hDg, fun z => ?_⟩
              rcases st.own D0 z with z | z
              · exact hDn z
              · rw [hDl] at z; cases z
            refine rdT_of I3 ?_
            unfold rdTK
            cases ec : ft ρ3 with
            | ex _ _ => rw [ec] at eq; cases eq
            | no => rw [ec] at eq; cases eq
            | ok c =>
              obtain ⟨b, ρ4⟩ := c
              rw [ec] at eq
              dsimp only [Rz.bind] at eq ⊢
              intro H4 G4 s4 I4
              have st4 : Stp (wipe σ vs) ρ' G' H' σ3 ρ4 G4 H4 := base.trans s4
              cases b with
              | true =>
                simp only [if_true] at eq ⊢
                refine rd_of I4 ?_
                unfold rdK
                cases ee : fe ρ4 with
                | ex _ _ => rw [ee] at eq; cases eq
                | no => rw [ee] at eq; cases eq
                | ok q =>
                  obtain ⟨d5, ρ5⟩ := q
                  rw [ee] at eq
                  dsimp only [Rz.bind] at eq ⊢
                  intro v H5 G5 s5 I5 r5
                  have st5 : Stp (wipe σ vs) ρ' G' H' σ3 ρ5 G5 H5 := st4.trans s5
                  obtain ⟨k1, k2, k3⟩ := keepD st5 I5
                  by_cases z : acc.length < sizeLine ∧ noIo vs ρ5 = true
                  · rw [if_pos z] at eq
                    have stw : Stp (wipe σ vs) ρ' G' H' (wipe σ vs) (wipeR vs ρ5) G5 H5 := by
                      have := st5.trans (Stp.wipe (vs := vs) z.2)
                      rw [wq] at this
                      exact this
                    have Iw : SR X.K G5 H5 (wipe σ vs) (wipeR vs ρ5) := by
                      have := I5.wipe (vs := vs)
                      rw [wq] at this
                      exact this
                    have nw : ¬ OwnAt (wipe σ vs) (wipeR vs ρ5) D0 := fun y => by
                      rw [← wq] at y
                      exact k3 y.unwipe
                    refine ⟨us, k1, by rw [hlen]; exact z.1, rfl, hlt, wipeR vs ρ5, G5, acc ++ [d5], us ++ [v], (sW.trans stw).blind hD k1, Iw.blind k1 k2 nw, bare_wipeR, upd_same, k2, nw, Reps.append (Reps.mono st5.sub _ _ rr) (Reps.cons r5 Reps.nil), by rw [List.length_append, List.length_append, hlen]; rfl, eq⟩
                  · rw [if_neg z] at eq; cases eq
              | false =>
                simp only [Bool.false_eq_true, if_false] at eq ⊢
                obtain ⟨k1, k2, k3⟩ := keepD st4 I4
                by_cases z : noIo vs ρ4 = true
                · rw [if_pos z] at eq
                  have stw : Stp (wipe σ vs) ρ' G' H' (wipe σ vs) (wipeR vs ρ4) G4 H4 := by
                    have := st4.trans (Stp.wipe (vs := vs) z)
                    rw [wq] at this
                    exact this
                  have Iw : SR X.K G4 H4 (wipe σ vs) (wipeR vs ρ4) := by
                    have := I4.wipe (vs := vs)
                    rw [wq] at this
                    exact this
                  have nw : ¬ OwnAt (wipe σ vs) (wipeR vs ρ4) D0 := fun y => by
                    rw [← wq] at y
                    exact k3 y.unwipe
                  exact ⟨rfl, hlt, wipeR vs ρ4, G4, acc, us, sW.trans stw, Iw, bare_wipeR, k1, k2, nw, Reps.mono st4.sub _ _ rr, hlen, eq⟩
                · rw [if_neg z] at eq; cases eq
        · left
          have e0 : ds.drop i = [] := List.drop_eq_nil_of_le (by omega)
          rw [e0] at eq
          unfold lcL at eq
          rw [frcL_eq] at eq
          cases eq
          refine ⟨(hJ i G' H' sW.sub I'.sub).2 (by omega), ?_⟩
          have If := SR.rest sW.sub I1 I'
          have sf : Stp σ ρ G H σ (restR vs ρ1 ρf) G' H' := (s1.trans (Stp.wipe io1)).trans (sW.trans (Stp.rest bW))
          exact h D0 us H' G' sf If hD0 hDl hDg (fun y => hDn y.rest) rr
    · rw [if_neg io1] at h; exact h.elim
theorem do_lc {elt tg iter : Expr} {ifs : List Expr} {scope : Scope} {own : List (Str × Nat)} {pos : Pos} {fi : FI} {is : List Nat} {tgd : TgD} {ft : FT} {fe : FE} (hc : X.calm = true) (hN : X.N.Nodup) (hi : PI X tg iter (rdI X.K fi)) (ok : BlkOk X.N X.env.scope scope own) (hsub : ∀ i ∈ is, i ∈ own.map (·.2))
    (hg : ∀ (s : Shared) (H : Hp) (C : Addr) (cl : List (Str × Addr)) (fp : List Addr), PG (X.blk s H scope (compEnvC scope cl C X.env) fp) tg (rdG X.K is tgd)) (ht : ∀ (s : Shared) (H : Hp) (C : Addr) (cl : List (Str × Addr)) (fp : List Addr), PTs (X.blk s H scope (compEnvC scope cl C X.env) fp) ifs (rdT X.K ft))
    (he : ∀ (s : Shared) (H : Hp) (C : Addr) (cl : List (Str × Addr)) (fp : List Addr), PE (X.blk s H scope (compEnvC scope cl C X.env) fp) elt (rd X.K fe)) (hs : ∀ x, foldedSetIterable iter X.env x = pure x := by intro _; rfl) :
    PE X (.ListComp elt [⟨tg, iter, ifs, 0⟩] scope pos) (rdO X.K (oLc fi tgd ft fe (own.map (·.2)))) := pe_imp (pe_lc hc hN hi ok hg ht he hs) (rd_lc hsub)
end
end M

namespace M
open PySem PySem.Spec PyProof.Rows L2
variable [Tabs]

/-! ### a, b = x, y; name op= e -/
def sPar (i j : Nat) (f : FA) : FS := fun ρ => (f ρ).bind fun p => match p.1 with
  | [a, b] => if isIo p.2 i = true ∨ isIo p.2 j = true ∨ i = j then .no else .ok (.nx, (p.2.set i (some (.dat a))).set j (some (.dat b)))
  | _ => .no
def IpD (K : PySem.W.Frag) (r : TIp) (op : D → D → Option D) : Prop := ∀ (G H : Hp) (d1 d2 d : D) (v1 v2 : V) (Q : VK), Same G H → Rep K G d1 v1 → Rep K G d2 v2 → op d1 d2 = some d → (∀ v H' G', PStp G H G' H' → Rep K G' d v → Q v H') → r v1 v2 H Q
/-- name op= e: the name's value is taken first -/
def sAug (i : Nat) (op : D → D → Option D) (fe : FE) : FS := fun ρ => match ρ[i]? with
  | some (some (.dat x)) => (bndS fe fun y => fun ρ1 => match op x y with | some z => if isIo ρ1 i = true then .no else .ok (.nx, ρ1.set i (some (.dat z))) | none => .no) ρ
  | _ => .no
section
variable {X : Cx} {a b e : Expr} {fs : FA} {fe : FE} {pos : Pos}
theorem ds_par (i j : Nat) {x y : Str} {px py pt pt2 : Pos} {kt k2 : Nat} (ha : PA X [a, b] (rdA X.K fs)) (hc : X.calm = true) (hN : X.N.Nodup) (hi : X.N[i]? = some x := by rfl) (hj : X.N[j]? = some y := by rfl) (hij : i ≠ j := by decide)
    (hx : X.env.scope.names.lookup x = some .local := by rfl) (hy : X.env.scope.names.lookup y = some .local := by rfl)
    (hw : swappedStores [.Tuple [.Name x px, .Name y py] kt pt] (.Tuple [a, b] k2 pt2) X.env = pure (some [x, y]) := by rfl)
    (hs : swapsWithSole [.Tuple [.Name x px, .Name y py] kt pt] (.Tuple [a, b] k2 pt2) pos.line X.env = pure false := by rfl) :
    PS X (.Assign [.Tuple [.Name x px, .Name y py] kt pt] (.Tuple [a, b] k2 pt2) pos) (rdS X.K (sPar i j fs)) := by
  refine ps_imp (ps_par hc hN hi hj hij hx hy ha hw hs) fun D σ H ⟨ρ, G, I, h⟩ => ?_
  refine rdA_of I ?_
  unfold rdSK sPar at h
  unfold rdAK
  cases q : fs ρ with
  | ex _ _ => rw [q] at h; exact h
  | no => rw [q] at h; exact h
  | ok p =>
    obtain ⟨ds, ρ1⟩ := p
    rw [q] at h
    dsimp only [Rz.bind] at h ⊢
    intro vs H1 G1 s1 I1 r1
    match ds, h, r1 with
    | [d1, d2], h, r1 =>
      obtain ⟨v1, v2, rfl, q1, q2⟩ := reps2 r1
      by_cases z : isIo ρ1 i = true ∨ isIo ρ1 j = true ∨ i = j
      · dsimp only at h; rw [if_pos z] at h; exact h.elim
      · dsimp only at h; rw [if_neg z] at h
        simp only [not_or] at z
        have z2 : isIo (ρ1.set i (some (.dat d1))) j = false := by
          have := z.2.1
          unfold isIo at this ⊢
          rw [List.getElem?_set_ne z.2.2]
          simpa using this
        exact ⟨v1, v2, rfl, h _ H1 G1 (s1.trans ((Stp.set (by simpa using z.1)).trans (Stp.set z2))) ((I1.set q1).set q2)⟩
    | [], h, _ => exact h.elim
    | [_], h, _ => exact h.elim
    | _ :: _ :: _ :: _, h, _ => exact h.elim
theorem ds_aug (i : Nat) {x : Str} {op : D → D → Option D} {o : Operator} {ti : TIp} {pos' : Pos} (hd : IpD X.K ti op) (ho : PIp X o ti) (he : PE X e (rd X.K fe)) (hN : X.N.Nodup) (hi : X.N[i]? = some x := by rfl) (hx : Loc X.env.scope x := by first | exact .inl rfl | exact .inr rfl)
    (hf : X.fn x = true ∨ X.env.scope.names.lookup x = some .local := by first | exact .inl rfl | exact .inr rfl | assumption) : PS X (.AugAssign (.Name x pos') o e pos) (rdS X.K (sAug i op fe)) := by
  refine ps_imp (ps_aug hN hi hx he ho hf) fun D σ H ⟨ρ, G, I, h⟩ => ?_
  unfold rdSK sAug at h
  split at h
  · rename_i d0 e3
    have hl : i < σ.length := by
      rw [← I.len]
      exact (List.getElem?_eq_some_iff.mp e3).1
    obtain ⟨v, e2, r⟩ := I.slot i _ _ e3 (List.getElem?_eq_getElem hl)
    refine ⟨v, by rw [List.getElem?_eq_getElem hl, e2], ?_⟩
    refine rd_of I (rdK_mono (rdSK_bnd (σ := σ) (ρ := ρ) (G := G) (H := H) (Dn := D) h) fun u H1 ⟨d1, ρ1, G1, s1, I1, r1, h1⟩ => ?_)
    unfold rdSK at h1
    dsimp only at h1
    cases eo : op d0 d1 with
    | none => rw [eo] at h1; exact h1.elim
    | some z =>
      rw [eo] at h1
      dsimp only at h1
      refine hd G1 H1 d0 d1 z v u _ I1.sub (Rep.mono s1.sub _ _ r) r1 eo fun w H2 G2 P2 r2 => ?_
      by_cases q : isIo ρ1 i = true
      · rw [if_pos q] at h1; exact h1.elim
      · rw [if_neg q] at h1
        exact h1 _ H2 G2 (P2.stp.trans (Stp.set (by simpa using q))) ((I1.pure P2).set r2)
  · exact h.elim
theorem ip_of {o : Operator} {r : R2} {ti : TIp} {op : D → D → Option D} (hd : OpD X.K r op) (h : ∀ v1 v2 H Q, r v1 v2 H Q → ti v1 v2 H Q) : IpD X.K ti op := fun G H d1 d2 d v1 v2 Q s r1 r2 e q => h _ _ _ _ (hd G H d1 d2 d v1 v2 Q s r1 r2 e q)
end

/-! ### tuple(x), list(x) -/
def tupD : D → Option D
  | .tup ds => some (.tup ds)
  | .lst ds => some (.tup ds)
  | .scr ns => some (.tup (ns.map D.int))
  | _ => none
def lstD : List D → Option D
  | [.tup ds] => some (.lst ds)
  | [.lst ds] => some (.lst ds)
  | [.scr ns] => some (.lst (ns.map D.int))
  | _ => none
section
variable {K : PySem.W.Frag}
theorem ud_tup : UnD K (kTup K) tupD := by
  intro G H d1 d v1 Q s r1 e q
  unfold tupD at e
  split at e
  · cases e
    have r0 := r1
    simp only [Rep] at r1
    obtain ⟨a, vs, rfl, h1, q1⟩ := r1
    exact .inr ⟨a, vs, rfl, SqT.mono s h1, q _ H G (PStp.refl s) r0⟩
  · simp only [Rep] at r1
    obtain ⟨a, vs, rfl, h1, q1⟩ := r1
    cases e
    exact .inl ⟨a, vs, rfl, SqL.of (s _ _ h1), fun p hp => q _ _ _ (PStp.laid s hp) (Rep.tup_new (s.free hp) q1)⟩
  · simp only [Rep] at r1
    obtain ⟨a, rfl, h1⟩ := r1
    cases e
    exact .inl ⟨a, _, rfl, SqL.mono s h1, fun p hp => q _ _ _ (PStp.laid s hp) (Rep.tup_new (s.free hp) (Reps.of_ints _))⟩
  · cases e
theorem cd_list : CallD K (fun xs H Q => ∃ p ys, xs = [.ref p] ∧ (SqL K H p ys ∨ SqT K H p ys) ∧ ∀ l, H l = none → Q (.ref l) (upd H l (.lst ys))) lstD := by
  intro G H ds d vs Q s r e q
  unfold lstD at e
  split at e
  · obtain ⟨v, rfl, r1⟩ := reps1 r
    simp only [Rep] at r1
    obtain ⟨a, us, rfl, h1, q1⟩ := r1
    cases e
    exact ⟨a, us, rfl, .inr (SqT.mono s h1), fun p hp => q _ _ _ (PStp.laid s hp) (Rep.lst_new (s.free hp) q1)⟩
  · obtain ⟨v, rfl, r1⟩ := reps1 r
    simp only [Rep] at r1
    obtain ⟨a, us, rfl, h1, q1⟩ := r1
    cases e
    exact ⟨a, us, rfl, .inl (SqL.of (s _ _ h1)), fun p hp => q _ _ _ (PStp.laid s hp) (Rep.lst_new (s.free hp) q1)⟩
  · obtain ⟨v, rfl, r1⟩ := reps1 r
    simp only [Rep] at r1
    obtain ⟨a, rfl, h1⟩ := r1
    cases e
    exact ⟨a, _, rfl, .inl (SqL.mono s h1), fun p hp => q _ _ _ (PStp.laid s hp) (Rep.lst_new (s.free hp) (Reps.of_ints _))⟩
  · cases e
theorem reps_rg {G : Hp} (a b : Int) : Reps K G (rgD a (b - a).toNat) (rgV a b) := by
  unfold rgD rgV
  generalize List.range (b - a).toNat = l
  induction l with
  | nil => exact Reps.nil
  | cons x l ih => exact Reps.cons (rep_int _) ih
end
def rgOk (a b : Int) : Bool := small62 a && small62 b && Nat.ble (b - a).toNat 16777216
def rgPr : List D → Option (Int × Int) | [.int n] => some (0, n) | [.int a, .int b] => some (a, b) | _ => none
/-- tuple(range(..)), list(range(..)) -/
def eRgT (f : FA) : FE := bndA f fun ds => fun ρ => match rgPr ds with | some (a, b) => if rgOk a b = true then .ok (.tup (rgD a (b - a).toNat), ρ) else .no | none => .no
def eRgL (f : FA) : FE := bndA f fun ds => fun ρ => match rgPr ds with | some (a, b) => if rgOk a b = true then .ok (.lst (rgD a (b - a).toNat), ρ) else .no | none => .no
theorem rgOk_of {a b : Int} (h : rgOk a b = true) : RgOk a b := by
  simp only [rgOk, Bool.and_eq_true, small62_iff, Nat.ble_eq] at h
  exact ⟨h.1.1.1, h.1.1.2, h.1.2.1, h.1.2.2, h.2⟩
section
variable {X : Cx} {a b : Expr} {fa fb : FE} {pos p rp rpos : Pos}
theorem de_tuple (ha : PE X a (rd X.K fa)) (hg : Gl X "tuple") (hm : X.mg "tuple" = none) (na : starEach [a] X.env = (false, eval a X.env) :: starEach [] X.env := by rfl) : PE X (.Call (.Name "tuple" p) [a] [] pos) (rd X.K (e1 tupD fa)) :=
  pe_imp (pe_tupleOf hg hm ha na) (rd_1 ud_tup)
theorem rd_r1 {k : Int → Int → Hp → Prop} {ρ : Rho} {G H : Hp} {σ : L2.St} (I : SR X.K G H σ ρ) (h : rdAK X.K (aCons fa aNil) σ ρ G H fun vs H1 => ∃ n, vs = [.int n] ∧ k 0 n H1) : tRg1 (rd X.K fa) σ H k := by
  refine rd_of I ?_
  unfold rdAK aCons aNil at h
  unfold rdK
  cases e : fa ρ with
  | ex _ _ => rw [e] at h; exact h
  | no => rw [e] at h; exact h
  | ok p =>
    obtain ⟨d, ρ1⟩ := p
    rw [e] at h
    dsimp only [Rz.bind] at h ⊢
    intro v H1 G1 s1 I1 r1
    obtain ⟨n, e1, q⟩ := h [v] H1 G1 s1 I1 (Reps.cons r1 Reps.nil)
    cases e1
    exact ⟨n, rfl, q⟩
theorem rd_r2 {k : Int → Int → Hp → Prop} {ρ : Rho} {G H : Hp} {σ : L2.St} (I : SR X.K G H σ ρ) (h : rdAK X.K (aCons fa (aCons fb aNil)) σ ρ G H fun vs H1 => ∃ m n, vs = [.int m, .int n] ∧ k m n H1) : tRg2 (rd X.K fa) (rd X.K fb) σ H k := by
  refine rd_of I ?_
  unfold rdAK aCons at h
  unfold rdK
  cases e : fa ρ with
  | ex _ _ => rw [e] at h; exact h
  | no => rw [e] at h; exact h
  | ok p =>
    obtain ⟨d, ρ1⟩ := p
    rw [e] at h
    dsimp only [Rz.bind] at h ⊢
    intro v H1 G1 s1 I1 r1
    refine rd_of I1 ?_
    unfold aNil at h
    unfold rdK
    cases e2 : fb ρ1 with
    | ex _ _ => rw [e2] at h; exact h
    | no => rw [e2] at h; exact h
    | ok p2 =>
      obtain ⟨d2, ρ2⟩ := p2
      rw [e2] at h
      dsimp only [Rz.bind] at h ⊢
      intro u H2 G2 s2 I2 r2
      obtain ⟨m, n, e1, q⟩ := h [v, u] H2 G2 (s1.trans s2) I2 (Reps.cons (Rep.mono s2.sub _ _ r1) (Reps.cons r2 Reps.nil))
      cases e1
      exact ⟨m, n, rfl, rfl, q⟩
theorem rd_rgT {f : FA} {σ : L2.St} {ρ : Rho} {G H : Hp} {Q : VK} (I : SR X.K G H σ ρ) (h : rdK X.K (eRgT f) σ ρ G H Q) : rdAK X.K f σ ρ G H fun vs H1 => ∃ ds a b, rgPr ds = some (a, b) ∧ RgOk a b ∧ (∀ G1, Reps X.K G1 ds vs → True) ∧ (∃ G1, Reps X.K G1 ds vs) ∧ ∀ q, H1 q = none → Q (.ref q) (upd H1 q (.tup (rgV a b))) := by
  refine rdAK_mono (rdK_bndA h) fun vs H1 ⟨ds, ρ1, G1, s1, I1, r1, h1⟩ => ?_
  unfold rdK at h1
  dsimp only at h1
  cases e : rgPr ds with
  | none => rw [e] at h1; exact h1.elim
  | some p =>
    obtain ⟨a, b⟩ := p
    rw [e] at h1
    dsimp only at h1
    by_cases z : rgOk a b = true
    · rw [if_pos z] at h1
      exact ⟨ds, a, b, e, rgOk_of z, fun _ _ => trivial, ⟨G1, r1⟩, fun q hq => h1 _ _ _ (PStp.laid I1.sub hq).stp (I1.pure (PStp.laid I1.sub hq)) (Rep.tup_new (I1.sub.free hq) (reps_rg a b))⟩
    · rw [if_neg z] at h1; exact h1.elim
theorem rd_rgL {f : FA} {σ : L2.St} {ρ : Rho} {G H : Hp} {Q : VK} (I : SR X.K G H σ ρ) (h : rdK X.K (eRgL f) σ ρ G H Q) : rdAK X.K f σ ρ G H fun vs H1 => ∃ ds a b, rgPr ds = some (a, b) ∧ RgOk a b ∧ (∀ G1, Reps X.K G1 ds vs → True) ∧ (∃ G1, Reps X.K G1 ds vs) ∧ ∀ q, H1 q = none → Q (.ref q) (upd H1 q (.lst (rgV a b))) := by
  refine rdAK_mono (rdK_bndA h) fun vs H1 ⟨ds, ρ1, G1, s1, I1, r1, h1⟩ => ?_
  unfold rdK at h1
  dsimp only at h1
  cases e : rgPr ds with
  | none => rw [e] at h1; exact h1.elim
  | some p =>
    obtain ⟨a, b⟩ := p
    rw [e] at h1
    dsimp only at h1
    by_cases z : rgOk a b = true
    · rw [if_pos z] at h1
      exact ⟨ds, a, b, e, rgOk_of z, fun _ _ => trivial, ⟨G1, r1⟩, fun q hq => h1 _ _ _ (PStp.laid I1.sub hq).stp (I1.pure (PStp.laid I1.sub hq)) (Rep.lst_new (I1.sub.free hq) (reps_rg a b))⟩
    · rw [if_neg z] at h1; exact h1.elim
theorem rgPr1 {K : PySem.W.Frag} {G : Hp} {d : D} {v : V} {a b : Int} (r : Reps K G [d] [v]) (e : rgPr [d] = some (a, b)) : a = 0 ∧ v = .int b := by
  unfold rgPr at e
  split at e
  · rename_i h
    cases h; cases e
    obtain ⟨v', h1, r1⟩ := reps1 r
    cases h1
    simp only [Rep] at r1
    exact ⟨rfl, r1⟩
  · rename_i h; cases h
  · cases e
theorem rgPr_len1 {K : PySem.W.Frag} {G : Hp} {ds : List D} {v : V} {a b : Int} (r : Reps K G ds [v]) (e : rgPr ds = some (a, b)) : a = 0 ∧ v = .int b := by
  match ds, r, e with
  | [d], r, e => exact rgPr1 r e
  | [], r, e => cases e
  | [_, _], r, e => simp only [Reps] at r; obtain ⟨_, _, h, _, _, _, h2, _⟩ := r; cases h; cases h2
  | _ :: _ :: _ :: _, r, e => have := r.length; simp at this
theorem rgPr_len2 {K : PySem.W.Frag} {G : Hp} {ds : List D} {v u : V} {a b : Int} (r : Reps K G ds [v, u]) (e : rgPr ds = some (a, b)) : v = .int a ∧ u = .int b := by
  unfold rgPr at e
  split at e
  · simp only [Reps] at r; obtain ⟨_, _, h, _, h2⟩ := r; cases h; cases h2
  · cases e
    obtain ⟨v', u', h, r1, r2⟩ := reps2 r
    cases h
    simp only [Rep] at r1 r2
    exact ⟨r1, r2⟩
  · cases e
theorem len_1 {f : FA} {K : PySem.W.Frag} {σ : L2.St} {ρ : Rho} {G H : Hp} {Q : List V → Hp → Prop} (h : rdAK K (aCons fa aNil) σ ρ G H Q) : rdAK K (aCons fa aNil) σ ρ G H fun vs H1 => (∃ v, vs = [v]) ∧ Q vs H1 := by
  unfold rdAK aCons aNil at h ⊢
  cases e : fa ρ with
  | ex _ _ => rw [e] at h; exact h
  | no => rw [e] at h; exact h
  | ok p =>
    obtain ⟨d, ρ1⟩ := p
    rw [e] at h
    dsimp only [Rz.bind] at h ⊢
    intro vs H1 G1 s1 I1 r1
    obtain ⟨v, e1, _⟩ := reps1 r1
    exact ⟨⟨v, e1⟩, h vs H1 G1 s1 I1 r1⟩
theorem len_2 {K : PySem.W.Frag} {σ : L2.St} {ρ : Rho} {G H : Hp} {Q : List V → Hp → Prop} (h : rdAK K (aCons fa (aCons fb aNil)) σ ρ G H Q) : rdAK K (aCons fa (aCons fb aNil)) σ ρ G H fun vs H1 => (∃ v u, vs = [v, u]) ∧ Q vs H1 := by
  unfold rdAK aCons at h ⊢
  cases e : fa ρ with
  | ex _ _ => rw [e] at h; exact h
  | no => rw [e] at h; exact h
  | ok p =>
    obtain ⟨d, ρ1⟩ := p
    rw [e] at h
    unfold aNil at h ⊢
    dsimp only [Rz.bind] at h ⊢
    cases e2 : fb ρ1 with
    | ex _ _ => rw [e2] at h; exact h
    | no => rw [e2] at h; exact h
    | ok p2 =>
      obtain ⟨d2, ρ2⟩ := p2
      rw [e2] at h
      dsimp only at h ⊢
      intro vs H1 G1 s1 I1 r1
      obtain ⟨v, u, e1, _⟩ := reps2 r1
      exact ⟨⟨v, u, e1⟩, h vs H1 G1 s1 I1 r1⟩
theorem de_tupRg1 (ha : PE X a (rd X.K fa)) (hc : X.calm = true) (hg : Gl X "tuple") (hm : X.mg "tuple" = none) (hg2 : Gl X "range") (hm2 : X.mg "range" = none) (na2 : starEach [a] X.env = (false, eval a X.env) :: starEach [] X.env := by rfl)
    (na : starEach [.Call (.Name "range" rp) [a] [] rpos] X.env = (false, eval (.Call (.Name "range" rp) [a] [] rpos) X.env) :: starEach [] X.env := by rfl) :
    PE X (.Call (.Name "tuple" p) [.Call (.Name "range" rp) [a] [] rpos] [] pos) (rd X.K (eRgT (aCons fa aNil))) := by
  refine pe_imp (pe_tupRg hc hg hm (prg_1 hg2 hm2 ha na2) na) fun σ H Q ⟨ρ, G, I, h⟩ => ?_
  refine rd_r1 I (rdAK_mono (len_1 (f := aNil) (rd_rgT I h)) fun vs H1 ⟨⟨v, e1⟩, ds, a, b, e2, ok, _, ⟨G1, r1⟩, q⟩ => ?_)
  subst e1
  obtain ⟨rfl, rfl⟩ := rgPr_len1 r1 e2
  exact ⟨b, rfl, ok, q⟩
theorem de_tupRg2 (ha : PE X a (rd X.K fa)) (hb : PE X b (rd X.K fb)) (hc : X.calm = true) (hg : Gl X "tuple") (hm : X.mg "tuple" = none) (hg2 : Gl X "range") (hm2 : X.mg "range" = none)
    (na2 : starEach [a, b] X.env = (false, eval a X.env) :: starEach [b] X.env := by rfl) (nb : starEach [b] X.env = (false, eval b X.env) :: starEach [] X.env := by rfl) (hp : (backTo rpos (starEach [b] X.env)).any (·.1) = false := by rfl)
    (na : starEach [.Call (.Name "range" rp) [a, b] [] rpos] X.env = (false, eval (.Call (.Name "range" rp) [a, b] [] rpos) X.env) :: starEach [] X.env := by rfl) :
    PE X (.Call (.Name "tuple" p) [.Call (.Name "range" rp) [a, b] [] rpos] [] pos) (rd X.K (eRgT (aCons fa (aCons fb aNil)))) := by
  refine pe_imp (pe_tupRg hc hg hm (prg_2 hg2 hm2 ha hb na2 nb hp) na) fun σ H Q ⟨ρ, G, I, h⟩ => ?_
  refine rd_r2 I (rdAK_mono (len_2 (rd_rgT I h)) fun vs H1 ⟨⟨v, u, e1⟩, ds, a, b, e2, ok, _, ⟨G1, r1⟩, q⟩ => ?_)
  subst e1
  obtain ⟨rfl, rfl⟩ := rgPr_len2 r1 e2
  exact ⟨a, b, rfl, ok, q⟩
theorem de_lstRg1 (ha : PE X a (rd X.K fa)) (hc : X.calm = true) (hg : Gl X "list") (hm : X.mg "list" = none) (hg2 : Gl X "range") (hm2 : X.mg "range" = none) (na2 : starEach [a] X.env = (false, eval a X.env) :: starEach [] X.env := by rfl)
    (na : starEach [.Call (.Name "range" rp) [a] [] rpos] X.env = (false, eval (.Call (.Name "range" rp) [a] [] rpos) X.env) :: starEach [] X.env := by rfl) :
    PE X (.Call (.Name "list" p) [.Call (.Name "range" rp) [a] [] rpos] [] pos) (rd X.K (eRgL (aCons fa aNil))) := by
  refine pe_imp (pe_listRg hc hg hm (prg_1 hg2 hm2 ha na2) na) fun σ H Q ⟨ρ, G, I, h⟩ => ?_
  refine rd_r1 I (rdAK_mono (len_1 (f := aNil) (rd_rgL I h)) fun vs H1 ⟨⟨v, e1⟩, ds, a, b, e2, ok, _, ⟨G1, r1⟩, q⟩ => ?_)
  subst e1
  obtain ⟨rfl, rfl⟩ := rgPr_len1 r1 e2
  exact ⟨b, rfl, ok, q⟩
theorem de_lstRg2 (ha : PE X a (rd X.K fa)) (hb : PE X b (rd X.K fb)) (hc : X.calm = true) (hg : Gl X "list") (hm : X.mg "list" = none) (hg2 : Gl X "range") (hm2 : X.mg "range" = none)
    (na2 : starEach [a, b] X.env = (false, eval a X.env) :: starEach [b] X.env := by rfl) (nb : starEach [b] X.env = (false, eval b X.env) :: starEach [] X.env := by rfl) (hp : (backTo rpos (starEach [b] X.env)).any (·.1) = false := by rfl)
    (na : starEach [.Call (.Name "range" rp) [a, b] [] rpos] X.env = (false, eval (.Call (.Name "range" rp) [a, b] [] rpos) X.env) :: starEach [] X.env := by rfl) :
    PE X (.Call (.Name "list" p) [.Call (.Name "range" rp) [a, b] [] rpos] [] pos) (rd X.K (eRgL (aCons fa (aCons fb aNil)))) := by
  refine pe_imp (pe_listRg hc hg hm (prg_2 hg2 hm2 ha hb na2 nb hp) na) fun σ H Q ⟨ρ, G, I, h⟩ => ?_
  refine rd_r2 I (rdAK_mono (len_2 (rd_rgL I h)) fun vs H1 ⟨⟨v, u, e1⟩, ds, a, b, e2, ok, _, ⟨G1, r1⟩, q⟩ => ?_)
  subst e1
  obtain ⟨rfl, rfl⟩ := rgPr_len2 r1 e2
  exact ⟨a, b, rfl, ok, q⟩
/-! x[::-1] of a list -/
def revD : D → Option D | .lst ds => some (.lst ds.reverse) | .scr ns => some (.lst (ns.map D.int).reverse) | _ => none
theorem ud_rev {K : PySem.W.Frag} : UnD K (fun x H Q => ∃ a xs, x = .ref a ∧ SqL K H a xs ∧ ∀ p, H p = none → Q (.ref p) (upd H p (.lst xs.reverse))) revD := by
  intro G H d1 d v1 Q s r1 e q
  unfold revD at e
  split at e
  · simp only [Rep] at r1
    obtain ⟨a, vs, rfl, h1, q1⟩ := r1
    cases e
    exact ⟨a, vs, rfl, SqL.of (s _ _ h1), fun p hp => q _ _ _ (PStp.laid s hp) (Rep.lst_new (s.free hp) q1.reverse)⟩
  · simp only [Rep] at r1
    obtain ⟨a, rfl, h1⟩ := r1
    cases e
    exact ⟨a, _, rfl, SqL.mono s h1, fun p hp => q _ _ _ (PStp.laid s hp) (Rep.lst_new (s.free hp) (Reps.of_ints _).reverse)⟩
  · cases e
theorem de_rev {k : Nat} {p1 p2 p3 : Pos} (ha : PE X a (rd X.K fa)) : PE X (.Subscript a (.Slice none none (some (.UnaryOp .USub (.Constant (.int 1) k p1) p2)) p3) pos) (rd X.K (e1 revD fa)) :=
  pe_imp (pe_revL ha) (rd_1 ud_rev)
end
end M

namespace M
open PySem PySem.Spec PyProof.Rows L2
variable [Tabs]

/-! ### sorting -/
section
variable {α : Type} (le : α → α → Bool)
def insS (a : α) : List α → List α
  | [] => [a]
  | b :: l => if le a b = true then a :: b :: l else b :: insS a l
def isort : List α → List α
  | [] => []
  | a :: l => insS le a (isort l)
variable {le}
theorem insS_perm (a : α) : ∀ l, (insS le a l).Perm (a :: l)
  | [] => List.Perm.refl _
  | b :: l => by
    unfold insS
    split
    · exact List.Perm.refl _
    · exact ((insS_perm a l).cons b).trans (List.Perm.swap _ _ _)
theorem isort_perm : ∀ l, (isort le l).Perm l
  | [] => List.Perm.refl _
  | a :: l => (insS_perm a _).trans ((isort_perm l).cons a)
theorem insS_app (a : α) : ∀ (l1 l2 : List α), (∀ b ∈ l1, le a b = false) → (∀ b ∈ l2, le a b = true) → insS le a (l1 ++ l2) = l1 ++ a :: l2
  | [], [], _, _ => rfl
  | [], b :: l2, _, h => by
    show insS le a (b :: l2) = _
    unfold insS
    rw [if_pos (h b List.mem_cons_self)]
    rfl
  | b :: l1, l2, h1, h2 => by
    show insS le a (b :: (l1 ++ l2)) = _
    unfold insS
    rw [if_neg (by rw [h1 b List.mem_cons_self]; exact Bool.false_ne_true), insS_app a l1 l2 (fun c hc => h1 c (List.mem_cons_of_mem _ hc)) h2]
    rfl
theorem mergeSort_isort (tr : ∀ a b c, le a b = true → le b c = true → le a c = true) (to : ∀ a b, (le a b || le b a) = true) : ∀ l : List α, l.mergeSort le = isort le l
  | [] => by rw [List.mergeSort_nil]; rfl
  | a :: l => by
    obtain ⟨l1, l2, e1, e2, h⟩ := List.mergeSort_cons (le := le) tr to a l
    have srt := List.pairwise_mergeSort (le := le) tr to (a :: l)
    rw [e1] at srt ⊢
    unfold isort
    rw [← mergeSort_isort tr to l, e2, insS_app]
    · intro b hb
      have := h b hb
      simpa using this
    · intro b hb
      rw [List.pairwise_append] at srt
      exact (List.pairwise_cons.mp srt.2.1).1 b hb
end
theorem perm_sorted_eq : ∀ {l1 l2 : List Int}, l1.Perm l2 → l1.Pairwise (· ≤ ·) → l2.Pairwise (· ≤ ·) → l1 = l2
  | [], l2, p, _, _ => by rw [List.nil_perm.mp p]
  | a :: l1, [], p, _, _ => by have := p.length_eq; simp at this
  | a :: l1, b :: l2, p, h1, h2 => by
    obtain ⟨x1, y1⟩ := List.pairwise_cons.mp h1
    obtain ⟨x2, y2⟩ := List.pairwise_cons.mp h2
    have e : a = b := by
      have m1 : a ∈ b :: l2 := p.mem_iff.mp List.mem_cons_self
      have m2 : b ∈ a :: l1 := p.mem_iff.mpr List.mem_cons_self
      rcases List.mem_cons.mp m1 with e | m1
      · exact e
      rcases List.mem_cons.mp m2 with e | m2
      · exact e.symm
      have := x1 b m2
      have := x2 a m1
      omega
    subst e
    rw [perm_sorted_eq ((List.perm_cons a).mp p) y1 y2]
def leI (a b : Int) : Bool := decide (a ≤ b)
theorem insS_sorted (a : Int) : ∀ l : List Int, l.Pairwise (· ≤ ·) → (insS leI a l).Pairwise (· ≤ ·)
  | [], _ => by unfold insS; simp
  | b :: l, h => by
    obtain ⟨x, y⟩ := List.pairwise_cons.mp h
    unfold insS
    split
    · rename_i z
      have z : a ≤ b := of_decide_eq_true z
      refine List.pairwise_cons.mpr ⟨fun c hc => ?_, h⟩
      rcases List.mem_cons.mp hc with e | hc
      · rw [e]; exact z
      · exact Int.le_trans z (x c hc)
    · rename_i z
      have z : ¬ a ≤ b := fun q => z (decide_eq_true q)
      refine List.pairwise_cons.mpr ⟨fun c hc => ?_, insS_sorted a l y⟩
      rcases List.mem_cons.mp ((insS_perm a l).mem_iff.mp hc) with e | hc
      · rw [e]; omega
      · exact x c hc
theorem isort_sorted : ∀ l : List Int, (isort leI l).Pairwise (· ≤ ·)
  | [] => List.Pairwise.nil
  | a :: l => insS_sorted a _ (isort_sorted l)
def dedup : List Int → List Int
  | [] => []
  | a :: l => if (dedup l).contains a = true then dedup l else a :: dedup l
theorem dedup_mem {k : Int} : ∀ {l : List Int}, k ∈ dedup l ↔ k ∈ l
  | [] => Iff.rfl
  | a :: l => by
    unfold dedup
    split
    · rename_i h
      rw [dedup_mem, List.mem_cons]
      refine ⟨.inr, fun z => z.elim (fun e => ?_) id⟩
      rw [e]
      exact dedup_mem.mp (by simpa using h)
    · rw [List.mem_cons, List.mem_cons, dedup_mem]
theorem dedup_nodup : ∀ l : List Int, (dedup l).Nodup
  | [] => List.nodup_nil
  | a :: l => by
    unfold dedup
    split
    · exact dedup_nodup l
    · rename_i h
      exact List.nodup_cons.mpr ⟨by simpa using h, dedup_nodup l⟩
theorem set_sorted {out ns : List Int} (h : out.Pairwise (· < ·)) (m : ∀ k, k ∈ out ↔ k ∈ ns) : out = isort leI (dedup ns) := by
  have nd : out.Nodup := h.imp fun {a b} z e => by omega
  have nd2 : (isort leI (dedup ns)).Nodup := (isort_perm (le := leI) (dedup ns)).nodup_iff.mpr (dedup_nodup ns)
  refine perm_sorted_eq ((List.perm_ext_iff_of_nodup nd nd2).mpr fun k => ?_) (h.imp fun {a b} z => by omega) (isort_sorted _)
  rw [m k, (isort_perm (le := leI) (dedup ns)).mem_iff, dedup_mem]
/-! sorted(x), ints, bools -/
def leB (a b : Bool) : Bool := !a || b
def sortedD : List D → Option D
  | [.lst ds] => (match asInts ds with
    | some ns => some (.lst ((isort leI ns).map D.int))
    | none => (match asBools ds with | some bs => some (.lst ((isort leB bs).map D.bl)) | none => none))
  | _ => none
def rSortB (K : PySem.W.Frag) : List V → Hp → VK → Prop := fun vs H Q => ∃ (a : Addr) (bs : List Bool), vs = [V.ref a] ∧ SqL K H a (bs.map V.bl) ∧ ∀ p, H p = none → Q (.ref p) (upd H p (.lst ((isort leB bs).map V.bl)))
section
variable {X : Cx}
theorem vals_bools : ∀ {bs : List Bool} {us : List Value}, Vals (bs.map V.bl) us → PySem.W.EachIs (fun u b => u = .bool b) us bs
  | [], us, r => by cases r; exact .nil
  | b :: bs, us, r => by
    cases r with
    | cons h t => exact .cons h (vals_bools t)
theorem bools_vals : ∀ {bs : List Bool} {us : List Value}, PySem.W.EachIs (fun u b => u = .bool b) us bs → Vals (bs.map V.bl) us
  | _, _, .nil => .nil
  | _, _, .cons h t => .cons h (bools_vals t)
theorem dataLe_bool : PySem.W.dataLe false PyData.bool = leB := by
  funext a b
  cases a <;> cases b <;> decide +kernel
theorem cr_sortedB (hu : X.A.units + 2 < cLine) : CallR X (.builtin "sorted") (rSortB X.K) := by
  intro pins s σ H vs us Q I r h
  obtain ⟨a, bs, rfl, hs, q⟩ := h
  obtain ⟨its, rv, hl, hz⟩ := I.list hs
  rw [Vals.ref1 r]
  have e := vals_bools rv
  have hL : bs.length ≤ sizeLine := by rw [List.length_map] at hz; exact hz
  refine PySem.W.sorted_data (R := fun u b => u = .bool b) (enc := PyData.bool) hl.isList e (e.mono fun u b h => ⟨[], by rw [h]; exact .bool _⟩) (PySem.W.AllAlike.of fun _ _ => rfl) (PySem.W.Sortable.others fun b => ⟨fun z => (by cases z), fun _ z => (by cases z)⟩) hL
    (fun b _ => by show X.A.units + 2 + 0 < cLine; omega) fun out ho eo => ?_
  rw [dataLe_bool, mergeSort_isort (by decide) (by decide)] at eo
  have ev := bools_vals eo
  obtain ⟨ep, he'⟩ := PyProof.Rows.sortedAll_at s.heap its out.toArray
  have hlen : ((isort leB bs).map V.bl).length ≤ sizeLine := by rw [List.length_map, (isort_perm bs).length_eq]; exact hL
  exact ⟨.ref _, upd H (s.heap.objs.size + 1) (.lst ((isort leB bs).map V.bl)), I.laid (t' := s.toks) (fun _ _ => PyProof.Rows.sortedAll_old) (Nat.le_succ _) ⟨hlen, out, ep, ev, he'⟩, rfl, q _ (I.hok.fresh (Nat.le_succ _))⟩
theorem Reps.of_bools {K : PySem.W.Frag} {G : Hp} : ∀ (ns : List Bool), Reps K G (ns.map D.bl) (ns.map V.bl)
  | [] => Reps.nil
  | n :: ns => Reps.cons (rep_bl _) (Reps.of_bools ns)
def rSortA (K : PySem.W.Frag) : List V → Hp → VK → Prop := fun vs H Q => rSortedI K vs H Q ∨ rSortB K vs H Q
theorem cr_sortedA (hu : X.A.units + 2 < cLine) : CallR X (.builtin "sorted") (rSortA X.K) := by
  intro pins s σ H vs us Q I r h
  exact h.elim (cr_sortedI pins s σ H vs us Q I r) (cr_sortedB hu pins s σ H vs us Q I r)
theorem cd_sorted {K : PySem.W.Frag} : CallD K (rSortA K) sortedD := by
  intro G H ds d vs Q s r e q
  unfold sortedD at e
  split at e
  · rename_i ds'
    obtain ⟨v, rfl, r1⟩ := reps1 r
    simp only [Rep] at r1
    obtain ⟨a, us, rfl, h1, q1⟩ := r1
    cases h : asInts ds' with
    | some ns =>
      rw [h] at e; cases e
      rw [asInts_eq h] at q1
      rw [q1.ints] at h1
      refine .inl ⟨a, ns, rfl, SqL.of (s _ _ h1), fun ns' p hp hs hn => ?_⟩
      have e2 : ns' = isort leI ns := perm_sorted_eq (hp.trans (isort_perm ns).symm) hs (isort_sorted ns)
      subst e2
      exact q _ _ _ (PStp.laid s hn) (Rep.lst_new (s.free hn) (Reps.of_ints _))
    | none =>
      rw [h] at e
      dsimp only at e
      cases h2 : asBools ds' with
      | none => rw [h2] at e; cases e
      | some bs =>
        rw [h2] at e; cases e
        rw [asBools_eq h2] at q1
        rw [q1.bools] at h1
        exact .inr ⟨a, bs, rfl, SqL.of (s _ _ h1), fun p hn => q _ _ _ (PStp.laid s hn) (Rep.lst_new (s.free hn) (Reps.of_bools _))⟩
  · cases e
/-! sorted(set(x)), x a tuple of ints -/
def rSetT (K : PySem.W.Frag) (w : World) : List V → Hp → VK → Prop := fun vs H Q => ∃ (a : Addr) (ns : List Int), vs = [.ref a] ∧ SqT K H a (ns.map V.int) ∧ ns.length < 64 ∧ ∀ p c, H p = none → c ≤ ns.length → Q (.ref p) (upd H p (SetO w p (fun j => decide (j ∈ ns)) c))
theorem cr_setT (hc : X.calm = true) : CallR X (.type "set") (rSetT X.K X.w) := by
  intro pins s σ H vs us Q I r h
  obtain ⟨a, ns, rfl, hq, hz, q⟩ := h
  obtain ⟨its, rv, pt, _⟩ := I.tuple hq
  rw [Vals.ref1 r]
  have hi : IntsAre its.toArray.toList ns := by
    have := rv.ints
    simpa using this
  refine call_set_tupI ns (I.ok.hd hc) (show s.heap.IsTuple a its.toArray from pt) hi (by unfold scanBound; omega) fun h' tk c R1 hcn k => ?_
  exact ⟨.ref s.heap.objs.size, _, I.laid (t' := tk) k (Nat.le_refl _) (setO_new R1), rfl, q _ c (I.hok.fresh (Nat.le_refl _)) hcn⟩
def sortSetD : D → Option D
  | .tup ds => (match asInts ds with | some ns => if ns.length < 64 then some (.lst ((isort leI (dedup ns)).map D.int)) else none | none => none)
  | _ => none

theorem de_sortSet {a : Expr} {fa : FE} {p p2 pos pos2 : Pos} (ha : PE X a (rd X.K fa)) (hc : X.calm = true) (hg : Gl X "sorted") (hm : X.mg "sorted" = none) (hg2 : Gl X "set") (hm2 : X.mg "set" = none)
    (na : starEach [a] X.env = (false, eval a X.env) :: starEach [] X.env := by rfl) (na2 : starEach [.Call (.Name "set" p2) [a] [] pos2] X.env = (false, eval (.Call (.Name "set" p2) [a] [] pos2) X.env) :: starEach [] X.env := by rfl) :
    PE X (.Call (.Name "sorted" p) [.Call (.Name "set" p2) [a] [] pos2] [] pos) (rd X.K (e1 sortSetD fa)) := by
  refine pe_imp (pe_callB (cr_sortedSet hc) hg hm PyProof.Rows.boot_sorted (pa_cons (pe_callTy (cr_setT hc) hg2 hm2 PyProof.Rows.boot_set (pa_cons ha pa_nil na) (by decide) (by decide) na) pa_nil na2) (by decide) (by decide) na2) fun σ H Q ⟨ρ, G, I, h⟩ => ?_
  refine rd_of I (rdK_mono (rdK_bnd h) fun v H1 ⟨d1, ρ1, G1, s1, I1, r1, h1⟩ => ?_)
  obtain ⟨d, e, q⟩ := rdK_ofO h1 I1
  unfold sortSetD at e
  split at e
  · rename_i ds
    cases ha : asInts ds with
    | none => rw [ha] at e; cases e
    | some ns =>
      rw [ha] at e
      dsimp only at e
      by_cases z : ns.length < 64
      · rw [if_pos z] at e
        cases e
        simp only [Rep] at r1
        obtain ⟨a, vs, rfl, h2, q2⟩ := r1
        rw [asInts_eq ha] at q2
        rw [q2.ints] at h2
        refine ⟨a, ns, rfl, SqT.mono I1.sub h2, z, fun p c hp hcn => ?_⟩
        refine ⟨p, _, c, rfl, upd_same, by omega, fun out p2 hs hm hl hn => ?_⟩
        have eo : out = isort leI (dedup ns) := set_sorted hs fun k => by rw [hm k, decide_eq_true_eq]
        subst eo
        have n2 : H1 p2 = none := by
          by_cases y : p2 = p
          · subst y; exact hp
          · rw [upd_ne y] at hn; exact hn
        have n3 : p2 ≠ p := fun y => by subst y; rw [upd_same] at hn; cases hn
        refine q _ _ (upd G1 p2 (.lst ((isort leI (dedup ns)).map V.int))) ⟨same_upd (I1.sub.free n2), fun a ha => upd_ne fun y => ha (by rw [y]; exact n2), fun a o y _ => ?_, fun a ps y => ⟨ps, ?_, id⟩, fun a o y => ?_⟩ (Rep.lst_new (I1.sub.free n2) (Reps.of_ints _))
        · rw [upd_ne (ne_of_none y n2), upd_ne (ne_of_none y hp)]; exact y
        · rw [upd_ne (ne_of_none y n2), upd_ne (ne_of_none y hp)]; exact y
        · by_cases w1 : a = p2
          · subst w1; rw [upd_same] at y ⊢; exact y
          · rw [upd_ne w1] at y ⊢
            have y2 := I1.sub a o y
            rw [upd_ne (ne_of_none y2 hp)]; exact y2
      · rw [if_neg z] at e; cases e
  · cases e
end
end M

namespace M
open PySem PySem.Spec PyProof.Rows L2
open Sem (wp)
variable [Tabs]

/-! ### next(elt for target in iter if test, default) -/
/-- the context of a generator expression's frame -/
abbrev genX (X : Cx) (s : Shared) (H : Hp) (cenv : Env) (fp : List Addr) (A' : Around) : Cx :=
  { X with A := A', s_0 := s, H_0 := H, env := cenv, outer := X.stack, stack := cenv :: X.stack, ex := fp, fn := fun _ => false, pn := [], xe := fun _ _ => False }
section
variable {X : Cx} {pins : List (Addr × Obj)} {σ : L2.St} {H H5 : Hp} {s s5 : Shared}
theorem gen_start {scope : Scope} {own : List (Str × Nat)} {fp : List Addr} {C bi : Addr} {code : Value} {A' : Around} {m0 : Str → Option Value} (I : Inv X pins σ H s) (I5 : Inv X pins σ H5 s5) (ok : BlkOk X.N X.env.scope scope own) (hN : X.N.Nodup)
    (hcell : ∀ y ∈ scope.names, y.2 ≠ .cell) (hfp : ∀ b ∈ fp, FpOk X pins H b ∧ b < s.heap.objs.size) (hC : s.heap.objs.size ≤ C) (hns : s5.heap.Ns C m0) (hCf : H5 C = none) (un : Un (frs X.stack) fp H H5 s.heap s5.heap)
    (hbi : bi = builtinsNs) (hh : A'.handled = none) (hfr : A'.frames = some (genEnv scope (cloFrom X.env.cells scope.names []) C code bi X.env :: X.stack)) :
    Inv (genX X s H (genEnv scope (cloFrom X.env.cells scope.names []) C code bi X.env) fp A') [] (wipe σ (own.map (·.2))) H5 s5 := by
  have hfree : ∀ y ∈ scope.names, y.2 = .free → ∃ c, X.env.cells.lookup y.1 = some c := fun y hy e => by
    rcases ok.free y hy e with k | k
    · exact I.ok.has _ (.inl k)
    · exact I.ok.has _ (.inr k)
  have cm : ∀ {y c}, (y, c) ∈ cloFrom X.env.cells scope.names [] → X.env.cells.lookup y = some c ∧ c < s.heap.objs.size ∧ (y, NameKind.free) ∈ scope.names := fun {y c} hm => by
    rcases cloFrom_mem hm with hm | ⟨h1, rfl⟩
    · cases hm
    · obtain ⟨c, hc⟩ := hfree _ h1 rfl
      rw [hc]
      obtain ⟨w, z⟩ := I.cell _ _ hc
      exact ⟨rfl, z.lt, h1⟩
  have mem : ∀ {y c}, (cloFrom X.env.cells scope.names []).lookup y = some c → X.env.cells.lookup y = some c ∧ c < s.heap.objs.size ∧ (y, NameKind.free) ∈ scope.names := fun {y c} e => cm (PySem.mem_of_lookup e)
  have look : ∀ {y}, scope.names.lookup y = some .free → ∃ c, (cloFrom X.env.cells scope.names []).lookup y = some c ∧ X.env.cells.lookup y = some c := fun {y} hl => by
    have hy : (y, NameKind.free) ∈ scope.names := PySem.mem_of_lookup hl
    obtain ⟨c', e'⟩ := mem_lookup (cloFrom_has (cells := X.env.cells) (acc := []) hy)
    exact ⟨c', e', (mem e').1⟩
  have okG : (genX X s H (genEnv scope (cloFrom X.env.cells scope.names []) C code bi X.env) fp A').Ok := by
    refine ⟨I.ok.mod, ok.kind, I.ok.glob, hbi, hC, fun y z c e1 e2 => I.ok.inj y z c (mem e1).1 (mem e2).1, fun y hy => ?_, fun y c z e => (by cases z), fun _ => hh, hfr, .inr ⟨rfl, rfl⟩, fun b hb => ⟨?_, fun y c e z => ?_⟩, I.bs, Nat.le_trans I.ok.bsz I.sz, fun b o e hb => ?_, fun b hb z => ?_, I.stack, I.stkFree⟩
    · rcases hy with hy | hy
      · exact absurd rfl (hcell _ (PySem.mem_of_lookup (show scope.names.lookup y = some .cell from hy)))
      · obtain ⟨c, h1, _⟩ := look (show scope.names.lookup y = some .free from hy)
        exact ⟨c, h1⟩
    · show b ≠ C
      exact Nat.ne_of_lt (Nat.lt_of_lt_of_le (hfp b hb).2 hC)
    · exact (hfp b hb).1.2.2.2.2.1 y c (mem e).1 z
    · rcases (hfp b hb).1.2.2.2.1 with z | z
      · exact I.ok.noex b o e z
      · exact absurd (Nat.lt_of_lt_of_le (Heap.lt_size e) (Nat.le_trans I.ok.bsz z)) (Nat.lt_irrefl _)
    · rcases List.mem_cons.mp (I.stkSub b z) with z | z
      · exact (hfp b hb).1.2.1 z
      · exact (hfp b hb).1.2.2.1 z
  refine ⟨okG, I5.os.trans I.os.symm, I5.bare, un, ⟨m0, hns, fun i y av e1 e2 e3 => ?_⟩, fun y c e => I5.cell y c (mem e).1, hCf, fun y c e => I5.freeC y c (mem e).1, fun p hp => absurd (show p ∈ ([] : List (Addr × Obj)) ++ [] from hp) (by simp), I5.hok, by rw [wipe_length]; exact I5.len⟩
  obtain ⟨e2, hne⟩ := wipe_some e2
  have hfr : scope.names.lookup y = some .free := by
    have no : ∀ k, scope.names.lookup y = some k → ¬ (k = .local ∨ k = .cell) := fun k e hh => by
      rcases ok.own _ (PySem.mem_of_lookup e) hh with e' | e'
      · obtain ⟨p, hp, hpy⟩ := List.mem_map.mp e'
        have e3 := ok.ix p hp
        have : p.1 = y := hpy
        rw [this] at e3
        exact hne (List.mem_map.mpr ⟨p, hp, nodup_ix hN e3 e1⟩)
      · exact e' (List.mem_of_getElem? e1)
    have e3 : Vis scope y := e3
    rcases e3 with e3 | e3 | e3
    · exact absurd (.inl rfl) (no _ e3)
    · exact absurd (.inr rfl) (no _ e3)
    · exact e3
  obtain ⟨m, hn, hl⟩ := I5.loc
  have hvis : Vis X.env.scope y := (ok.free _ (PySem.mem_of_lookup hfr) rfl).elim (fun k => .inr (.inl k)) (fun k => .inr (.inr k))
  obtain ⟨w, r, q⟩ := hl i y av e1 e2 hvis
  refine ⟨w, r, .inr ⟨.inr hfr, ?_⟩⟩
  obtain ⟨c, h1, h2⟩ := look hfr
  rcases q with ⟨k, _⟩ | ⟨_, c', e', z⟩
  · have k : X.env.scope.names.lookup y = some .local := k
    rcases ok.free _ (PySem.mem_of_lookup hfr) rfl with k' | k' <;> rw [show X.env.scope.names.lookup y = _ from k'] at k <;> cases k
  · rw [h2] at e'; cases e'
    exact ⟨c, h1, z⟩
end
def nxL (tg : TgD) (ft : FT) (fe : FE) (vs : List Nat) : List D → Rho → Rz (Option D × Rho)
  | [], ρ => .ok (none, ρ)
  | d :: ds, ρ => frc d fun d => nrmR ρ fun ρ => match tg d ρ with
    | none => .no
    | some ρ1 => (ft ρ1).bind fun c => if c.1 = true then (fe c.2).bind fun q => if noIo vs q.2 = true then .ok (some q.1, wipeR vs q.2) else .no
      else if noIo vs c.2 = true then nxL tg ft fe vs ds (wipeR vs c.2) else .no
/-- the generator has come to its item, or to its end -/
def GOk (X Xg : Cx) (σ : L2.St) (vs : List Nat) (ρw : Rho) (G1 H1 : Hp) (ρf : Rho) (G' H' : Hp) (s' : Shared) : Prop :=
  ∃ pins', Inv Xg pins' (wipe σ vs) H' s' ∧ Stp (wipe σ vs) ρw G1 H1 (wipe σ vs) ρf G' H' ∧ SR X.K G' H' (wipe σ vs) ρf ∧ Bare vs ρf
section
variable {X : Cx}
theorem gen_loop {elt tgt iter : Expr} {ifs : List Expr} {scope : Scope} {gpos : Pos} {A : Around} {cenv : Env} {s2 : Shared} {H2 : Hp} {fp : List Addr} {it : Addr} {tn : Nat → Heap → Prop} {J : It} {is vs : List Nat} {tg : TgD} {ft : FT} {fe : FE} {ds : List D} {σ : L2.St} {ρw ρf : Rho} {G1 H1 : Hp} {res : Option D}
    (hc : X.calm = true) (hco : cenv.scope.isCoroutine = false) (hs : ∀ i ∈ is, i ∈ vs) (T : Turn X.prog X.w X.K tgt J fp it tn) (hJ : ItD X.K G1 J ds)
    (pg : PG (genX X s2 H2 cenv fp (A.over (.compLoop (.GeneratorExp elt [⟨tgt, iter, ifs, 0⟩] scope gpos) 0 (.ref it) .none cenv) [])) tgt (rdG X.K is tg))
    (pt : PTs (genX X s2 H2 cenv fp (A.over (.compLoop (.GeneratorExp elt [⟨tgt, iter, ifs, 0⟩] scope gpos) 0 (.ref it) .none cenv) [])) ifs (rdT X.K ft))
    (pe : PE (genX X s2 H2 cenv fp (A.over (.compLoop (.GeneratorExp elt [⟨tgt, iter, ifs, 0⟩] scope gpos) 0 (.ref it) .none cenv) [])) elt (rd X.K fe)) :
    ∀ (k i : Nat) (s₀ s' : Shared) (ρ' : Rho) (G' H' : Hp), ds.length - i = k → i ≤ ds.length → Inv (genX X s2 H2 cenv fp (A.over (.compLoop (.GeneratorExp elt [⟨tgt, iter, ifs, 0⟩] scope gpos) 0 (.ref it) .none cenv) [])) [] (wipe σ vs) H' s' → tn i s'.heap → (∀ b ∈ fp, H' b = none) →
      Stp (wipe σ vs) ρw G1 H1 (wipe σ vs) ρ' G' H' → SR X.K G' H' (wipe σ vs) ρ' → Bare vs ρ' → nxL tg ft fe vs (ds.drop i) ρ' = .ok (res, ρf) →
      Seg (model X.prog X.w) A (fun n s₀ r s₁ => r = .ok .next ∧ (res = none ∧ ∃ G' H', GOk X (genX X s2 H2 cenv fp (A.over (.compLoop (.GeneratorExp elt [⟨tgt, iter, ifs, 0⟩] scope gpos) 0 (.ref it) .none cenv) [])) σ vs ρw G1 H1 ρf G' H' s₁))
        (fun n s₀ v s₁ kap => ∃ d x G' H', res = some d ∧ RelV x v ∧ Rep X.K G' d x ∧ GOk X (genX X s2 H2 cenv fp (A.over (.compLoop (.GeneratorExp elt [⟨tgt, iter, ifs, 0⟩] scope gpos) 0 (.ref it) .none cenv) [])) σ vs ρw G1 H1 ρf G' H' s₁) 1 s₀
        (.compLoop (.GeneratorExp elt [⟨tgt, iter, ifs, 0⟩] scope gpos) 0 (.ref it) .none cenv)
        ((model X.prog X.w).den (.compLoop (.GeneratorExp elt [⟨tgt, iter, ifs, 0⟩] scope gpos) 0 (.ref it) .none cenv)) [] s' := by
  generalize hXg : genX X s2 H2 cenv fp (A.over (.compLoop (.GeneratorExp elt [⟨tgt, iter, ifs, 0⟩] scope gpos) 0 (.ref it) .none cenv) []) = Xg at pg pt pe ⊢
  have eP : Xg.prog = X.prog := by rw [← hXg]
  have eW : Xg.w = X.w := by rw [← hXg]
  have eK : Xg.K = X.K := by rw [← hXg]
  have eC : Xg.calm = true := by rw [← hXg]; exact hc
  have eA : Xg.A = A.over (.compLoop (.GeneratorExp elt [⟨tgt, iter, ifs, 0⟩] scope gpos) 0 (.ref it) .none cenv) [] := by rw [← hXg]
  have eX : Xg.xe = fun _ _ => False := by rw [← hXg]
  have eE : Xg.env = cenv := by rw [← hXg]
  have eF : Xg.ex = fp := by rw [← hXg]
  have eN : Xg.pn = [] := by rw [← hXg]
  have stat : ∀ {σ' : L2.St} {H' : Hp} {s' : Shared}, Inv Xg [] σ' H' s' → (∀ b ∈ fp, H' b = none) → ∀ b ∈ fp, FpOk Xg [] H' b := fun {σ' H' s'} I' hn b hb =>
    ⟨hn b hb, (I'.ok.exf b (by rw [eF]; exact hb)).1, I'.ok.exfs b (by rw [eF]; exact hb), .inl (by rw [eF]; exact hb), fun x c e => (I'.ok.exf b (by rw [eF]; exact hb)).2 x c e, fun p hp => absurd (show p ∈ ([] : List (Addr × Obj)) by rw [eN] at hp; exact hp) (by simp)⟩
  intro k
  induction k with
  | zero =>
    intro i s₀ s' ρ' G' H' hk hi I' st' nf stp sr bare eq
    have e0 : ds.drop i = [] := List.drop_eq_nil_of_le (by omega)
    rw [e0] at eq
    unfold nxL at eq
    cases eq
    show Seg _ A _ _ _ s₀ _ ((compTurn (.GeneratorExp elt [⟨tgt, iter, ifs, 0⟩] scope gpos) 0 (.ref it) .none cenv).onRaise (leaving cenv)) [] s'
    rw [compTurn_gen, Sem.onRaise_eq_wrap]
    refine seg_bind_wrap (wpAny_standAt ?_)
    refine seg_bind_wrap ?_
    have td := T.done Xg eP eW eK eC i [] s' _ H' (fun _ _ => False) I' (stat I' nf) st' ((hJ i G' H' stp.sub sr.sub).2 (by omega))
    rw [eA] at td
    refine thnF td fun r s1 ⟨hr, I1⟩ => ?_
    subst hr
    exact seg_end (.ok .next) ⟨rfl, rfl, G', H', [], I1, stp, sr, bare⟩
  | succ k ih =>
    intro i s₀ s' ρ' G' H' hk hi I' st' nf stp sr bare eq
    have hlt : i < ds.length := by omega
    have ed : ds.drop i = ds[i] :: ds.drop (i + 1) := List.drop_eq_getElem_cons hlt
    rw [ed] at eq
    unfold nxL at eq
    rw [frc_eq, nrmR_eq] at eq
    obtain ⟨go, yl⟩ := (hJ i G' H' stp.sub sr.sub).1 ds[i] (List.getElem?_eq_getElem hlt)
    cases et : tg ds[i] ρ' with
    | none => rw [et] at eq; cases eq
    | some ρ3 =>
      rw [et] at eq
      dsimp only at eq
      show Seg _ A _ _ _ s₀ _ ((compTurn (.GeneratorExp elt [⟨tgt, iter, ifs, 0⟩] scope gpos) 0 (.ref it) .none cenv).onRaise (leaving cenv)) [] s'
      rw [compTurn_gen, Sem.onRaise_eq_wrap]
      refine seg_bind_wrap (wpAny_standAt ?_)
      refine seg_bind_wrap ?_
      have ti := T.item Xg eP eW eK eC i [] s' _ H' (fun _ _ => False) I' (stat I' nf) st' go
      rw [eA] at ti
      refine thnF ti fun r s6 ⟨u, hr, h6⟩ => ?_
      subst hr
      refine seg_bind_wrap (thnF h6 fun _ s7 ⟨x, H7, I7, r7, y7, st7, n7⟩ => ?_)
      have I7' := I7.pinned (stat I7 n7) (T.obj _ _ st7)
      obtain ⟨G7, P7, rx⟩ := yl x H7 y7
      have J7 := sr.pure P7
      have pgr := pg.run _ s7 _ H7 x u (fun σ3 H3 => ∃ G3, Stp (wipe σ vs) ρ' G' H' σ3 ρ3 G3 H3 ∧ SR X.K G3 H3 σ3 ρ3 ∧ wipe σ3 vs = wipe σ vs) I7' r7
        ⟨ρ', G7, ds[i], J7, rx, ρ3, et, fun σ3 s3 I3 o3 => ⟨G7, (P7.stp (σ := wipe σ vs) (ρ := ρ')).trans s3, I3, wipe_only hs o3⟩⟩
      rw [eP, eW, eA, eX, eE] at pgr
      refine seg_bind_wrap (thnF pgr fun _ s8 ⟨σ8, H8, I8, G8, stp8, sr8, hw8⟩ => ?_)
      cases ec : ft ρ3 with
      | ex _ _ => rw [ec] at eq; cases eq
      | no => rw [ec] at eq; cases eq
      | ok c =>
        obtain ⟨b0, ρ4⟩ := c
        rw [ec] at eq
        dsimp only [Rz.bind] at eq
        have ptr := pt.run _ s8 σ8 H8 (fun b H4 => b = b0 ∧ ∃ G4, Stp (wipe σ vs) ρ' G' H' σ8 ρ4 G4 H4 ∧ SR X.K G4 H4 σ8 ρ4) I8 (by
          refine rdT_of sr8 ?_
          unfold rdTK
          rw [ec]
          exact fun H4 G4 s4 I4 => ⟨rfl, G4, stp8.trans s4, I4⟩)
        rw [eP, eW, eA, eX, eE] at ptr
        refine seg_bind_wrap (thnF ptr fun b s9 ⟨H9, I9, hb, G9, stp9, sr9⟩ => ?_)
        subst hb
        cases b with
        | false =>
          simp only [Bool.false_eq_true, if_false] at eq ⊢
          by_cases z : noIo vs ρ4 = true
          · rw [if_pos z] at eq
            have pin' : ∀ b ∈ fp, ∀ o, s7.heap.get? b = some o → s9.heap.get? b = some o ∧ H9 b = none := fun b hb o e =>
              let z := I9.pin (b, o) (List.mem_append_right _ (List.mem_append_right _ (mem_pinsAt hb e)))
              ⟨z.1, z.2.1⟩
            have hl : (wipe σ vs).length = σ8.length := by rw [← hw8, wipe_length]
            have stw := stp9.trans (Stp.wipe (vs := vs) z)
            have Iw := sr9.wipe (vs := vs)
            rw [hw8] at stw Iw
            refine seg_again rfl (ih (i + 1) s₀ s9 (wipeR vs ρ4) G9 H9 (by omega) hlt ((I9.unpinned (pins := [])).weak hl fun j v e => ?_) (T.keep _ _ _ st7 fun b hb o e => (pin' b hb o e).1) (fun b hb => ?_) (stp.trans stw) Iw bare_wipeR eq)
            · rw [← hw8] at e
              exact (wipe_some e).1
            · obtain ⟨o, e, _⟩ := T.obj _ _ st7 b hb
              exact (pin' b hb o e).2
          · rw [if_neg z] at eq; cases eq
        | true =>
          simp only [if_true] at eq ⊢
          cases ee : fe ρ4 with
          | ex _ _ => rw [ee] at eq; cases eq
          | no => rw [ee] at eq; cases eq
          | ok q =>
            obtain ⟨d5, ρ5⟩ := q
            rw [ee] at eq
            dsimp only [Rz.bind] at eq
            by_cases z : noIo vs ρ5 = true
            · rw [if_pos z] at eq
              cases eq
              have hy : ∀ v, yieldOut cenv v = yieldValue v := fun v => by simp only [yieldOut, hco, Bool.false_eq_true, if_false]
              simp only [hy]
              rw [Sem.bind_eq_wrap', Sem.bind_eq_wrap', Sem.wrap_wrap, Sem.wrap_wrap]
              have per := pe.run _ s9 σ8 H9 (fun y H5 => ∃ G5, Stp (wipe σ vs) ρ' G' H' σ8 ρ5 G5 H5 ∧ SR X.K G5 H5 σ8 ρ5 ∧ Rep X.K G5 d5 y) I9 (by
                refine rd_of sr9 ?_
                unfold rdK
                rw [ee]
                exact fun v H5 G5 s5 I5 r5 => ⟨G5, stp9.trans s5, I5, r5⟩)
              rw [eP, eW, eA, eX, eE] at per
              refine seg_wrap (thnF per fun y s10 ⟨yv, H10, I10, r10, G10, stp10, sr10, rr⟩ => ?_)
              have hl : (wipe σ vs).length = σ8.length := by rw [← hw8, wipe_length]
              have stw := stp10.trans (Stp.wipe (vs := vs) z)
              have Iw := sr10.wipe (vs := vs)
              rw [hw8] at stw Iw
              refine seg_at (seg_yield rfl rfl rfl ⟨d5, yv, G10, H10, rfl, r10, rr, _, I10.weak hl fun j v e => ?_, stp.trans stw, Iw, bare_wipeR⟩)
              rw [← hw8] at e
              exact (wipe_some e).1
            · rw [if_neg z] at eq; cases eq
/-- a default: a constant -/
def Dfl (X : Cx) (e : Expr) (dd : D) : Prop := ∀ (M : Model) (A : Around) (E : Value → Shared → Prop) (s : Shared) (Q : Value → Shared → Prop), (∀ v tk vd, RelV vd v → (∀ G, Rep X.K G dd vd) → Q v { s with toks := tk }) → wpAny M A (eval e X.env) Q E s
theorem dfl_none {k : Nat} {p : Pos} : Dfl X (.Constant .none k p) .non := fun M A E s Q h => wpAny_Constant_none (h .none s.toks .non rfl fun G => rep_non)
theorem dfl_int {i : Int} {k : Nat} {p : Pos} : Dfl X (.Constant (.int i) k p) (.int i) := fun M A E s Q h => wpAny_Constant_int (h _ _ (.int i) ⟨_, rfl⟩ fun G => rep_int i)
def eNext (fi : FI) (tg : TgD) (ft : FT) (fe : FE) (dd : D) (vs : List Nat) : FE := fun ρ => (fi ρ).bind fun p => if noIo vs p.2 = true then (nxL tg ft fe vs p.1 (wipeR vs p.2)).bind fun q => .ok (match q.1 with | some d => d | none => dd, restR vs p.2 q.2) else .no
theorem over_gen {A : Around} {elt tgt iter : Expr} {ifs : List Expr} {scope : Scope} {gpos : Pos} {it acc : Value} {cenv : Env} (h : A.handled = none) : (A.over (.compLoop (.GeneratorExp elt [⟨tgt, iter, ifs, 0⟩] scope gpos) 0 it acc cenv) []).handled = none ∧
    (A.over (.compLoop (.GeneratorExp elt [⟨tgt, iter, ifs, 0⟩] scope gpos) 0 it acc cenv) []).depth = A.depth + 1 ∧ (A.over (.compLoop (.GeneratorExp elt [⟨tgt, iter, ifs, 0⟩] scope gpos) 0 it acc cenv) []).units = A.units + 3 ∧
    (∀ l, A.frames = some l → (A.over (.compLoop (.GeneratorExp elt [⟨tgt, iter, ifs, 0⟩] scope gpos) 0 it acc cenv) []).frames = some (cenv :: l)) ∧ (A.over (.compLoop (.GeneratorExp elt [⟨tgt, iter, ifs, 0⟩] scope gpos) 0 it acc cenv) []).guards = A.guards := by
  obtain ⟨hd, d, fr, gs, u⟩ := A
  refine ⟨h, rfl, rfl, fun l e => ?_, rfl⟩
  have e : fr = some l := e
  subst e
  rfl
theorem tk_next2 (a b : Value) : argsOk "next" ⟨[a, b], []⟩ := PySem.W.kdk_args_next2 a b
theorem de_next {c P : Addr} {elt tgt iter dflt : Expr} {ifs : List Expr} {scope : Scope} {own : List (Str × Nat)} {p pos gpos : Pos} {fi : FI} {is : List Nat} {tgd : TgD} {ft : FT} {fe : FE} {dd : D} {k : Nat} (hm0 : Rm (k + 1) X.A) (hc : X.calm = true) (hN : X.N.Nodup) (hg : Gl X "next") (hm : X.mg "next" = none)
    (TB : GxR.TabB X.base X.mg c P) (hP : P ∈ Tabs.T) (hcode : X.env.code = .ref c) (hi : PI X tgt iter (rdI X.K fi)) (ok : BlkOk X.N X.env.scope scope own) (hsub : ∀ i ∈ is, i ∈ own.map (·.2)) (hd : Dfl X dflt dd)
    (hpg : ∀ (s : Shared) (H : Hp) (C : Addr) (cl : List (Str × Addr)) (code : Value) (bi : Addr) (fp : List Addr) (A' : Around), PG (genX X s H (genEnv scope cl C code bi X.env) fp A') tgt (rdG X.K is tgd))
    (hpt : ∀ (s : Shared) (H : Hp) (C : Addr) (cl : List (Str × Addr)) (code : Value) (bi : Addr) (fp : List Addr) (A' : Around), Rm k A' → PTs (genX X s H (genEnv scope cl C code bi X.env) fp A') ifs (rdT X.K ft))
    (hpe : ∀ (s : Shared) (H : Hp) (C : Addr) (cl : List (Str × Addr)) (code : Value) (bi : Addr) (fp : List Addr) (A' : Around), Rm k A' → PE (genX X s H (genEnv scope cl C code bi X.env) fp A') elt (rd X.K fe))
    (hs : ∀ v, genFold iter X.env v = pure v := by intro _; rfl) (hco : scope.isCoroutine = false := by rfl) (hcell : ∀ y ∈ scope.names, y.2 ≠ .cell := by decide +kernel) (hdot : scope.names.lookup (".0" : Str) = some NameKind.local := by decide +kernel)
    (he : starEach [.GeneratorExp elt [⟨tgt, iter, ifs, 0⟩] scope gpos, dflt] X.env = (false, eval (.GeneratorExp elt [⟨tgt, iter, ifs, 0⟩] scope gpos) X.env) :: starEach [dflt] X.env := by rfl)
    (he2 : starEach [dflt] X.env = (false, eval dflt X.env) :: starEach [] X.env := by rfl) (hpl : (backTo pos (starEach [dflt] X.env)).any (·.1) = false := by rfl) :
    PE X (.Call (.Name "next" p) [.GeneratorExp elt [⟨tgt, iter, ifs, 0⟩] scope gpos, dflt] [] pos) (rd X.K (eNext fi tgd ft fe dd (own.map (·.2)))) := by
  have hr := hm0.r
  refine ⟨fun pins s σ H Q I h => ?_⟩
  obtain ⟨ρ, G, sr0, h⟩ := h
  have hfree : ∀ y ∈ scope.names, y.2 = .free → ∃ c, X.env.cells.lookup y.1 = some c := fun y hy e => by
    rcases ok.free y hy e with k | k
    · exact I.ok.has _ (.inl k)
    · exact I.ok.has _ (.inr k)
  refine wpAny_Call_Name_kw (ld_blt I hg hm PyProof.Rows.boot_next ?_)
  refine PyProof.Rows.callWith_builtin1 (args_cons ?_ he) he hpl
  refine wpAny_GeneratorExp_make hco (closure_ok hfree) hcell hdot ok.kind (by have := hr.dp; omega) ?_ hs
  unfold eNext at h
  cases e1 : fi ρ with
  | ex _ _ => rw [e1] at h; exact h.elim
  | no => rw [e1] at h; exact h.elim
  | ok q =>
    obtain ⟨ds, ρ1⟩ := q
    rw [e1] at h
    dsimp only [Rz.bind] at h
    by_cases io1 : noIo (own.map (·.2)) ρ1 = true
    · rw [if_pos io1] at h
      cases eL : nxL tgd ft fe (own.map (·.2)) ds (wipeR (own.map (·.2)) ρ1) with
      | ex _ _ => rw [eL] at h; exact h.elim
      | no => rw [eL] at h; exact h.elim
      | ok r =>
        obtain ⟨res, ρf⟩ := r
        rw [eL] at h
        dsimp only at h
        refine thn (hi.run pins s σ H (fun J H1 => ∃ G1, Stp σ ρ G H σ ρ1 G1 H1 ∧ SR X.K G1 H1 σ ρ1 ∧ ItD X.K G1 J ds) I ⟨ρ, G, sr0, by
          unfold rdIK
          rw [e1]
          exact fun J H1 G1 a b c => ⟨G1, a, b, c⟩⟩) fun xv s1 hx => thn hx fun itv s2 h2 => ?_
        obtain ⟨it, fp, tn, J, H2, e, I2, T, st2, f2, G1, stp1, sr1, hJ⟩ := h2
        subst e
        obtain ⟨⟨ps, hPt, ht⟩, hGP⟩ := sr1.tab P hP
        refine ⟨I2.nolimit, ?_⟩
        have hPs : s2.heap.get? P = some { cls := .none, data := .fields ps } := I2.hok P _ hPt
        have hPlt : P < s2.heap.objs.size := Heap.lt_size hPs
        have cd : PySem.W.CodeHd s2.heap c P := TB.code.keeps I2.bk
        have szfp : ∀ b ∈ fp, b < s2.heap.objs.size := fun b hb => by
          obtain ⟨o, e, _⟩ := T.obj _ _ st2 b hb
          exact Heap.lt_size e
        have cont : ∀ (code : Value) (h3 : Heap) (tk : Nat) (ps' : Array Value), Heap.ExtBut P s2.heap h3 → s2.heap.objs.size ≤ h3.objs.size → h3.get? P = some { cls := .none, data := .fields ps' } → (∃ more, ps' = ps ++ more) → TriplesOk ps'.toList →
            wpAny (model X.prog X.w) X.A (builtinsFor X.env.globals X.env.builtins) (fun bi s₄ => ∀ h', h'.Ns s₄.heap.objs.size (fun y => if y = ".0" then some (.ref it) else none) → Heap.SameBut s₄.heap.objs.size (s₄.heap.push { cls := .type "frame", data := .dict #[] }) h' →
              wpAny (model X.prog X.w) X.A (spliced (backTo pos (starEach [dflt] X.env))) (fun vs s₂ => wpAny (model X.prog X.w) X.A (call (.builtin "next") (.ref h'.objs.size :: vs)) (EP X pins σ Q) X.xe s₂) X.xe
                { s₄ with gens := s₄.gens.push (.fresh (.compStart (.GeneratorExp elt [⟨tgt, iter, ifs, 0⟩] scope gpos) 0 (.ref it) .none (genEnv scope (cloFrom X.env.cells scope.names []) s₄.heap.objs.size code bi X.env))), toks := s₄.toks + 1 + 1 + 1, heap := h'.push { cls := .type "generator", data := .fields #[.int s₄.gens.size 0, .str "<genexpr>" (s₄.toks + 1), .str (X.env.qual ++ "<genexpr>") (s₄.toks + 1 + 1)] } }) X.xe { s2 with heap := h3, toks := tk } := by
          intro code h3 tk ps' hx hsz hP3 hmore ht3
          obtain ⟨bm, ob, b1, b2, b3, b4, b5, b6, b7, b8⟩ := TB.bm
          have keep3 : ∀ b u, b ≠ P → s2.heap.get? b = some u → h3.get? b = some u := fun b u hb e => hx b u hb e
          refine wpAny_builtinsFor (m := X.mg) (by rw [I2.ok.glob]; exact (I2.mod.glob.keeps I2.bk).extBut hx TB.gP) b1 b2 (keep3 _ _ b4 (I2.bk _ _ b5)) b6 b7 b8 ?_
          intro h' hn' hs'
          obtain ⟨more, em⟩ := hmore
          subst em
          have hsz' : h'.objs.size = h3.objs.size + 1 := by rw [hs'.1, Heap.size_push]
          have kp0 : ∀ b u, h3.get? b = some u → h'.get? b = some u := fun b u e => hs'.extBut b u (Nat.ne_of_lt (Heap.lt_size e)) (Heap.get?_push_of_some _ e)
          have nPsz : P ≠ h3.objs.size := Nat.ne_of_lt (Nat.lt_of_lt_of_le hPlt hsz)
          refine args_cons (hd _ _ _ _ _ fun dv tk' vd rvd hrep => args_nil ?_) he2
          generalize hgo : ({ cls := .type "generator", data := .fields #[.int s2.gens.size 0, .str "<genexpr>" (tk + 1), .str (X.env.qual ++ "<genexpr>") (tk + 1 + 1)] } : Obj) = go
          have hgen : (h'.push go).IsGen h'.objs.size s2.gens.size := by
            rw [← hgo]
            exact ⟨_, _, _, Heap.get?_push_size _ rfl, rfl, rfl, rfl⟩
          have kp : ∀ b u, b ≠ P → s2.heap.get? b = some u → (h'.push go).get? b = some u := fun b u hb e => Heap.get?_push_of_some _ (kp0 b u (keep3 b u hb e))
          have hP5 : (h'.push go).get? P = some { cls := .none, data := .fields (ps ++ more) } := Heap.get?_push_of_some _ (kp0 _ _ hP3)
          generalize hce : genEnv scope (cloFrom X.env.cells scope.names []) h3.objs.size code builtinsNs X.env = cenv
          -- the abstract heap: the table has grown
          generalize hH5 : upd H2 P (.tbl (ps ++ more)) = H5
          have u5 : ∀ b, b ≠ P → H5 b = H2 b := fun b hb => by rw [← hH5]; exact upd_ne hb
          have p5 : H5 P = some (.tbl (ps ++ more)) := by rw [← hH5]; exact upd_same
          have nP : ∀ b, H2 b = none → b ≠ P := fun b e z => by subst z; rw [hPt] at e; cases e
          have nT : ∀ b u, H2 b = some u → (∀ q, u ≠ .tbl q) → b ≠ P := fun b u e q z => by
            subst z
            rw [hPt] at e
            exact q ps (Option.some.inj e).symm
          have ptab : PStp G1 H2 G1 H5 := by
            refine ⟨fun _ _ h => h, fun _ _ => rfl, fun a o e t => ?_, fun a qs e => ?_, fun a o e => ?_⟩
            · rw [u5 a fun z => by subst z; rw [hPt] at e; cases e; cases t]; exact e
            · by_cases z : a = P
              · subst z
                rw [hPt] at e; cases e
                exact ⟨_, p5, fun _ => ht3⟩
              · exact ⟨qs, by rw [u5 a z]; exact e, id⟩
            · rw [u5 a fun z => by subst z; rw [hGP] at e; cases e]; exact sr1.sub a o e
          refine Calls.call_function_entry (by decide +kernel) (by decide +kernel) PySem.W.kdk_entry_next (PySem.W.kdk_args_next2 _ _) ?_
          unfold Builtin.«next»
          refine wpAny_bind (m := someArgs "next" 1 2 _) (wpAny_of_eq (a := [Value.ref h'.objs.size, dv]) (by first | rfl | kernel_rfl!) ?_)
          dsimp only
          refine wpAny_bind (wpAny_specialOf (name := Str.ofString "__next__") hgen.typeIs slot_gen_next.lookup ?_)
          refine wpAny_ite_split (fun hab => absurd hab (by decide)) (fun _ => ?_)
          have hhd : X.A.handled = none := hr.hd
          have lim5 : (h'.push go).NoLimit := by
            have l3 : h3.NoLimit := I2.nolimit.extBut hx fun e => by
              obtain ⟨_, hns, _⟩ := I2.nolimit
              obtain ⟨o', es, ep, ho, hdd, _⟩ := hns
              rw [e, hPs] at ho
              cases ho
              cases hdd
            exact l3.keeps fun b u e => Heap.get?_push_of_some _ (kp0 b u e)
          generalize hs5 : ({ s2 with gens := s2.gens.push (.fresh (.compStart (.GeneratorExp elt [⟨tgt, iter, ifs, 0⟩] scope gpos) 0 (.ref it) .none cenv)), heap := h'.push go, toks := tk' } : Shared) = sg
          have hgs : sg.gens[s2.gens.size]? = some (.fresh (.compStart (.GeneratorExp elt [⟨tgt, iter, ifs, 0⟩] scope gpos) 0 (.ref it) .none cenv)) := by
            rw [← hs5]
            exact Array.getElem?_push_size ..
          have hgH : sg.heap = h'.push go := by rw [← hs5]
          have bare5 : AllBare (sg.setGen s2.gens.size .running).gens := by
            rw [← hs5]
            refine fun y hy => ?_
            have hy : y ∈ (s2.gens.push (.fresh (.compStart (.GeneratorExp elt [⟨tgt, iter, ifs, 0⟩] scope gpos) 0 (.ref it) .none cenv))).setIfInBounds s2.gens.size .running := hy
            rcases Array.mem_or_eq_of_mem_setIfInBounds hy with z | z
            · exact (I2.bare.push (g := .fresh (.compStart (.GeneratorExp elt [⟨tgt, iter, ifs, 0⟩] scope gpos) 0 (.ref it) .none cenv)) rfl) y z
            · subst z; rfl
          have I5 : Inv X pins σ H5 (sg.setGen s2.gens.size .running) := by
            have z := GxR.inv_tab (more := more) (h' := h'.push go) (g' := (sg.setGen s2.gens.size .running).gens) (d' := s2.drawn) (t' := tk') I2 hPt kp hP5 bare5
            rw [hH5] at z
            rw [← hs5] at z ⊢
            exact z
          have unb : Un (frs X.stack) fp H2 H5 s2.heap (sg.setGen s2.gens.size .running).heap := by
            show Un (frs X.stack) fp H2 H5 s2.heap sg.heap
            rw [hgH]
            refine ⟨fun b o e n _ _ => kp b o (nP b n) e, fun b o e n _ _ => ⟨o.slots, kp b o (nP b n) e⟩, fun b o _ n _ => (u5 b (nP b n)).trans n, fun b o e _ => ?_, fun b xs e => (u5 b (nT b _ e fun q z => by cases z)).trans e, fun b o u e => (u5 b (nT b _ e fun q z => by cases z)).trans e, fun b qs e => ?_⟩
            · by_cases z : b = P
              · subst z; exact ⟨_, hP5⟩
              · exact ⟨o, kp b o z e⟩
            · by_cases z : b = P
              · subst z
                rw [hPt] at e; cases e
                exact ⟨more, p5⟩
              · exact ⟨#[], by rw [u5 b z, e]; simp⟩
          have hCf : H5 h3.objs.size = none := (u5 _ nPsz.symm).trans (I2.hok.fresh hsz)
          have A0 : X.A.in1.in1.handled = none := hhd
          have og := over_gen (elt := elt) (tgt := tgt) (iter := iter) (ifs := ifs) (scope := scope) (gpos := gpos) (it := .ref it) (acc := .none) (cenv := cenv) A0
          have I6 := gen_start (m0 := fun y => if y = ".0" then some (.ref it) else none) (C := h3.objs.size) (bi := builtinsNs) (code := code) (A' := X.A.in1.in1.over (.compLoop (.GeneratorExp elt [⟨tgt, iter, ifs, 0⟩] scope gpos) 0 (.ref it) .none cenv) []) I2 I5 ok hN hcell (fun b hb => ⟨f2 b hb, szfp b hb⟩) hsz
            (by show sg.heap.Ns _ _; rw [hgH]; exact hn'.push _) hCf unb rfl og.1 (by rw [hce]; exact og.2.2.2.1 X.stack I2.ok.frames)
          rw [hce] at I6
          have room : Rm k (X.A.in1.in1.over (.compLoop (.GeneratorExp elt [⟨tgt, iter, ifs, 0⟩] scope gpos) 0 (.ref it) .none cenv) []) := by
            refine ⟨⟨og.1, ?_, ?_⟩, og.2.2.2.2.trans hm0.g⟩
            · rw [og.2.1]
              have := hr.dp
              show X.A.depth + 1 + 3 * k + 5 < _
              omega
            · rw [og.2.2.1]
              have := hr.un
              show X.A.units + 1 + 1 + 3 + 16 * k + 200 < _
              omega
          have pgX := hpg s2 H2 h3.objs.size (cloFrom X.env.cells scope.names []) code builtinsNs fp (X.A.in1.in1.over (.compLoop (.GeneratorExp elt [⟨tgt, iter, ifs, 0⟩] scope gpos) 0 (.ref it) .none cenv) [])
          have ptX := hpt s2 H2 h3.objs.size (cloFrom X.env.cells scope.names []) code builtinsNs fp _ room
          have peX := hpe s2 H2 h3.objs.size (cloFrom X.env.cells scope.names []) code builtinsNs fp _ room
          rw [hce] at pgX ptX peX
          have hcoE : cenv.scope.isCoroutine = false := by rw [← hce]; exact hco
          have st5 : tn 0 (sg.setGen s2.gens.size .running).heap := T.keep _ _ _ st2 fun b hb o e => by
            show sg.heap.get? b = some o
            rw [hgH]
            exact kp b o (nP b (f2 b hb).1) e
          have nf5 : ∀ b ∈ fp, H5 b = none := fun b hb => (u5 b (nP b (f2 b hb).1)).trans (f2 b hb).1
          have loop := gen_loop (A := X.A.in1.in1) (elt := elt) (tgt := tgt) (iter := iter) (ifs := ifs) (scope := scope) (gpos := gpos) (cenv := cenv) (vs := own.map (·.2)) (s2 := s2) (H2 := H2) (σ := σ) (ρw := wipeR (own.map (·.2)) ρ1) (ρf := ρf) (G1 := G1) (H1 := H5) (res := res) hc hcoE hsub T hJ pgX ptX peX
            ds.length 0 (sg.setGen s2.gens.size .running) (sg.setGen s2.gens.size .running) (wipeR (own.map (·.2)) ρ1) G1 H5 (Nat.sub_zero _) (Nat.zero_le _) I6 st5 nf5 (Stp.refl _ _ _ _) ((sr1.pure ptab).wipe) bare_wipeR (by rw [List.drop_zero]; exact eL)
          -- back in the def
          have back : ∀ {H' G' : Hp} {s₁ : Shared}, GOk X (genX X s2 H2 cenv fp (X.A.in1.in1.over (.compLoop (.GeneratorExp elt [⟨tgt, iter, ifs, 0⟩] scope gpos) 0 (.ref it) .none cenv) [])) σ (own.map (·.2)) (wipeR (own.map (·.2)) ρ1) G1 H5 ρf G' H' s₁ →
              (∀ (h₁ : Heap) (gs' : GenState), gs'.bare = true → (∀ b o, s₁.heap.get? b = some o → h₁.get? b = some o) → Inv X pins σ H' { s₁.setGen s2.gens.size gs' with heap := h₁ }) ∧ Stp σ ρ G H σ (restR (own.map (·.2)) ρ1 ρf) G' H' ∧ SR X.K G' H' σ (restR (own.map (·.2)) ρ1 ρf) := fun {H' G' s₁} ⟨pins', Ig, stp, sr, br⟩ => by
            refine ⟨fun h₁ gs' hb hk => ?_, ?_, SR.rest stp.sub sr1 sr⟩
            · have hu : Un (frs X.stack) fp H2 H' s2.heap s₁.heap := Ig.base
              refine I2.call' (ch := fp) Ig.os (hu.trans (Un.kept hk)) (Ig.hok.kept hk) (fun y hy => ?_) fun b hb => ⟨(f2 b hb).2.2.2.1, (f2 b hb).2.1, (f2 b hb).2.2.2.2.1, (f2 b hb).2.2.2.2.2⟩
              have hy : y ∈ s₁.gens.setIfInBounds s2.gens.size gs' := hy
              rcases Array.mem_or_eq_of_mem_setIfInBounds hy with z | z
              · exact Ig.bare y z
              · subst z; exact hb
            · exact (stp1.trans ((ptab.stp (σ := σ) (ρ := ρ1)).trans (Stp.wipe io1))).trans (stp.trans (Stp.rest br))
          refine wpAny_bind (wpAny_pyNext_genexpQ (A := X.A.in1) (P := fun _ _ s₁ => res = none ∧ ∃ G' H', GOk X (genX X s2 H2 cenv fp (X.A.in1.in1.over (.compLoop (.GeneratorExp elt [⟨tgt, iter, ifs, 0⟩] scope gpos) 0 (.ref it) .none cenv) [])) σ (own.map (·.2)) (wipeR (own.map (·.2)) ρ1) G1 H5 ρf G' H' s₁) (Y := fun n s₀ v s₁ kap => ∃ d x G' H', res = some d ∧ RelV x v ∧ Rep X.K G' d x ∧ GOk X (genX X s2 H2 cenv fp (X.A.in1.in1.over (.compLoop (.GeneratorExp elt [⟨tgt, iter, ifs, 0⟩] scope gpos) 0 (.ref it) .none cenv) [])) σ (own.map (·.2)) (wipeR (own.map (·.2)) ρ1) G1 H5 ρf G' H' s₁) (n := 1) (g := s2.gens.size) hhd (by rw [hgH]; exact lim5) (by have := hr.dp; show X.A.depth < _; omega) (by rw [hgH]; exact hgen) hgs ⟨rfl, ?_⟩ (fun v s₁ gs' hb hy => ?_) (fun s₁ hp h₁ hk => ?_))
          · show Seg _ X.A.in1.in1 _ _ _ _ _ ((compStart (.GeneratorExp elt [⟨tgt, iter, ifs, 0⟩] scope gpos) 0 (.ref it) .none cenv).onRaise (leaving cenv)) [] _
            unfold compStart
            rw [Sem.onRaise_eq_wrap]
            show Seg _ X.A.in1.in1 _ _ _ _ _ ((ask >>= _).wrap _ _ _ _) [] _
            refine seg_bind_wrap (wpAny_askSetting ?_)
            split
            · exact seg_again rfl loop
            · first
                | exact seg_bind_wrap (wpAny_rule (seg_bind_wrap (wpAny_standAt (seg_bind_wrap (T.self _ 0 _ _ _ st5 (seg_again rfl loop))))))
                | (refine seg_bind_wrap (wpAny_rule ?_); show Seg _ X.A.in1.in1 _ _ _ _ _ ((standAt iter.pos >>= _).wrap _ _ _ _) [] _; exact seg_bind_wrap (wpAny_standAt (seg_bind_wrap (T.self _ 0 _ _ _ st5 (seg_again rfl loop)))))
          · obtain ⟨d, x, G', H', e, rv, rep, ok'⟩ := hy
            obtain ⟨b1, b2, b3⟩ := back ok'
            refine wpAny_pure ⟨_, rfl, x, H', b1 s₁.heap gs' hb fun _ _ e => e, rv, h x H' G' b2 b3 ?_⟩
            subst e
            exact rep
          · obtain ⟨e, G', H', ok'⟩ := hp
            obtain ⟨b1, b2, b3⟩ := back ok'
            refine wpAny_pure ⟨_, rfl, vd, H', b1 h₁ .finished rfl hk, rvd, h vd H' G' b2 b3 ?_⟩
            subst e
            exact hrep G'
        cases hf : codeAmong gpos ps.toList with
        | none =>
          refine wpAny_genexprCodeX hcode (cd.code hPs ht) (cd.tab hPs) hf fun c' h' tk hx hge hlt hco' _ htab' _ => ?_
          obtain ⟨o1, vs, f1, tf, fl, tg', inF, tx, tt, op, _, _, _, _, _, _, _, _, _, htr, _⟩ := hco'
          exact cont _ h' tk _ hx (Nat.le_trans hge (Nat.le_of_lt hlt)) htab'.2 ⟨_, rfl⟩ htr
        | some cv =>
          refine wpAny_genexprCode_hit hcode (cd.code hPs ht) hf ?_
          exact cont cv s2.heap s2.toks ps (Heap.ExtBut.refl _ _) (Nat.le_refl _) hPs ⟨#[], by simp⟩ ht
    · rw [if_neg io1] at h; exact h.elim
end
end M

namespace M
open PySem PySem.Spec PyProof.Rows L2

/-! ### a def as the head tells it -/
theorem funC_of {K : PySem.W.Frag} {x : Str} {st : Stmt} {fd : FuncData} (F : FunD K x x (defArgs st) (defBody st) (defScope st) [] [] (He.fAd K (x, none)) fd) : FunC K x x st (He.ga K x) fd (.ref (He.codeOf K (x, none))) := by
  obtain ⟨⟨oc, od, dV, kV, doc, pm, an, cdv, ct, osl, rfl, lk, hcd, hD, _⟩, kp⟩ := F
  obtain ⟨c, rfl⟩ := He.codeIn_ref hcd
  rw [He.codeOf_eq lk rfl]
  rcases hD with ⟨_, rfl⟩ | ⟨e, _⟩
  · exact ⟨⟨oc, od, kV, doc, pm, an, ct, osl, rfl, lk, hcd⟩, kp⟩
  · exact absurd rfl e
/-! ### names of the module -/
section
variable {X : Cx} [Tabs]
theorem de_gint {x : Str} {i : Int} {pos : Pos} (hg : Gl X x) (hm : ∃ t, X.mg x = some (.int i t)) (hd : (x == ("__debug__" : Str)) = false := by decide) : PE X (.Name x pos) (rd X.K (eC (.int i))) := by
  obtain ⟨t, hm⟩ := hm
  exact de_glob (v := .int i) hg hm ⟨t, rfl⟩ (fun G => rep_int i) hd
theorem de_gstr {x y : Str} {pos : Pos} (hg : Gl X x) (hm : ∃ t, X.mg x = some (.str y t)) (hd : (x == ("__debug__" : Str)) = false := by decide) : PE X (.Name x pos) (rd X.K (eC (.str y))) := by
  obtain ⟨t, hm⟩ := hm
  exact de_glob (v := .str y) hg hm ⟨t, rfl⟩ (fun G => rep_str y) hd
theorem de_ty {x : Str} {n : String} {pos : Pos} (hg : Gl X x) (hm : X.mg x = none) (hv : bootBuiltins x = some (.type n)) (hn : x ≠ "__name__" := by decide) (hd : (x == ("__debug__" : Str)) = false := by decide) : PE X (.Name x pos) (rd X.K (eC (.con (.ty n)))) :=
  de_bltn (v := .ty n) hg hm hv rfl hn hd
/-! name = [.. for ..] on one line -/
theorem ds_setLc (i : Nat) {y : Str} {py : Pos} {elt tg iter : Expr} {ifs : List Expr} {scope : Scope} {own : List (Str × Nat)} {pos spos : Pos} {fi : FI} {is : List Nat} {tgd : TgD} {ft : FT} {fe : FE} (hc : X.calm = true) (hN : X.N.Nodup) (hi : PI X tg iter (rdI X.K fi)) (ok : BlkOk X.N X.env.scope scope own) (hsub : ∀ i ∈ is, i ∈ own.map (·.2))
    (hg : ∀ (s : Shared) (H : Hp) (C : Addr) (cl : List (Str × Addr)) (fp : List Addr), PG (X.blk s H scope (compEnvC scope cl C X.env) fp) tg (rdG X.K is tgd)) (ht : ∀ (s : Shared) (H : Hp) (C : Addr) (cl : List (Str × Addr)) (fp : List Addr), PTs (X.blk s H scope (compEnvC scope cl C X.env) fp) ifs (rdT X.K ft))
    (he : ∀ (s : Shared) (H : Hp) (C : Addr) (cl : List (Str × Addr)) (fp : List Addr), PE (X.blk s H scope (compEnvC scope cl C X.env) fp) elt (rd X.K fe)) (hy : X.N[i]? = some y := by rfl) (hyl : X.env.scope.names.lookup y = some .local := by rfl) (hk : X.env.scope.kind = .function := by rfl) (hl : (py.line == pos.line) = true := by rfl)
    (ha : (scope.names.any fun (n, k) => n == y && (k == .local || k == .cell)) = false := by decide +kernel) (hs : ∀ x, foldedSetIterable iter X.env x = pure x := by intro _; rfl) :
    PS X (.Assign [.Name y py] (.ListComp elt [⟨tg, iter, ifs, 0⟩] scope pos) spos) (rdS X.K (sSet i (eFz (oLc fi tgd ft fe (own.map (·.2)))))) := by
  refine ps_imp (ps_setLc hc hN hy hyl (sw_true hk hyl hl ha) hi ok hg ht he hs) fun D σ H ⟨ρ, G, I, h⟩ => ?_
  have hd := de_ofO (X := X) (e := .ListComp elt [⟨tg, iter, ifs, 0⟩] scope pos) (do_lc hc hN hi ok hsub hg ht he hs)
  refine rd_lc hsub σ H (fun x H1 => gName i x σ H1 D.nx) ⟨ρ, G, I, ?_⟩
  unfold rdSK at h
  unfold sSet bndS eFz at h
  cases e : oLc fi tgd ft fe (own.map (·.2)) ρ with
  | ex _ _ => rw [e] at h; exact h
  | no => rw [e] at h; exact h
  | ok p =>
    obtain ⟨ds, ρ1⟩ := p
    rw [e] at h
    dsimp only [Rz.bind] at h
    intro p us H1 G1 s1 I1 e1 e2 e3 n r
    by_cases z : isIo ρ1 i = true
    · rw [if_pos z] at h; exact h.elim
    · rw [if_neg z] at h
      have ne : ∀ a, H a ≠ none → a ≠ p := fun a h z => h (by rw [z]; exact e1)
      have st : Stp σ ρ G H σ ρ1 (upd G1 p (.lst us)) H1 := ⟨fun a o z => by rw [upd_ne (ne_of_none (s1.sub a o z) e3)]; exact s1.sub a o z, fun a z z2 => by rw [upd_ne (ne a z)]; exact s1.new a z z2, s1.keep, s1.grow, s1.dom, s1.own, s1.ownN, s1.stay⟩
      exact h _ H1 (upd G1 p (.lst us)) (st.trans (Stp.set (by simpa using z))) ((I1.seen e2 e3 n).set (Rep.lst_new e3 r))
end
/-! ### the law's end -/
theorem sp_law {cs : List (Addr × Addr)} {K : PySem.W.Frag} {F : FD} {n : Nat} (hF : ∀ ns : List Int, ns.length ≤ n → (∀ z ∈ ns, Builtin.Int.intBits z ≤ 1048576) → ∃ m as', F m [.dat (.scr ns)] = some (.dat (.bl true), as')) (H : Hp) (a : Addr) (ns : List Int) (hl : ns.length ≤ n) (hz : ∀ z ∈ ns, Builtin.Int.intBits z ≤ 1048576)
    (hT : ∀ p ∈ cs, H p.2 = some (.tbl #[])) (hS : SqL K H a (ns.map V.int)) : @spI ⟨cs.map (·.2)⟩ K 1 F [.ref a] H (fun v _ => v = .bl true) fun _ _ _ => False := by
  letI : Tabs := ⟨cs.map (·.2)⟩
  obtain ⟨m, as', e⟩ := hF ns hl hz
  have hT2 : ∀ b, b ∈ cs.map (·.2) → H b = some (.tbl #[]) := fun b hb => by
    obtain ⟨p, hp, e⟩ := List.mem_map.mp hb
    rw [← e]; exact hT p hp
  let G : Hp := fun b => if b ∈ cs.map (·.2) then none else H b
  have hG : ∀ b o, H b = some o → (∀ ps, o ≠ .tbl ps) → G b = some o := fun b o e n => by
    show (if b ∈ cs.map (·.2) then none else H b) = _
    rw [if_neg fun z => by rw [hT2 b z] at e; cases e; exact n _ rfl]
    exact e
  have I : SR K G H ([V.ref a].map some) ([Sl.dat (.scr ns)].map some) := by
    refine ⟨fun P hP => ⟨⟨#[], hT2 P hP, trivial⟩, if_pos hP⟩, rfl, fun b o e => ?_, fun i s o h1 h2 => ?_, fun i j io jo ds es b h1 h2 h3 h4 => ?_⟩
    · have e : (if b ∈ cs.map (·.2) then none else H b) = some o := e
      by_cases z : b ∈ cs.map (·.2)
      · rw [if_pos z] at e; cases e
      · rw [if_neg z] at e; exact e
    · cases i with
      | zero =>
        cases h1; cases h2
        refine ⟨_, rfl, ?_⟩
        simp only [Rep]
        refine ⟨a, rfl, ?_⟩
        rcases hS with (h | ⟨o, h⟩) | h
        · exact .inl (.inl (hG _ _ h fun _ z => by cases z))
        · exact .inl (.inr ⟨o, hG _ _ h fun _ z => by cases z⟩)
        · exact .inr h
      | succ i => simp at h1
    · cases i with
      | zero => cases h1
      | succ i => simp at h1
  refine ⟨m, G, [.dat (.scr ns)], .dat (.bl true), as', rfl, I, rfl, e, fun v H' G' _ _ r => ?_⟩
  simp only [RetR, Rep] at r
  exact r
section
open LamX
variable {P : Program} {w : World} {K : PySem.W.Frag} {mg mb : Str → Option Value} {k : Nat} {fa a : Addr} {cs : List (Addr × Addr)} {fd : FuncData} {x : Str} {sp : Sp} {t : Shared} {vs : List Value} {ns : List Int}
/-- what is tracked at a law's start: the tables, the script (where the written part does not hold it) -/
def lawH (K : PySem.W.Frag) (cs : List (Addr × Addr)) (a : Addr) (vs : List Value) (ns : List Int) : Hp := fun b =>
  if b ∈ cs.map (·.2) then some (.tbl #[]) else if b = a ∧ K.lookup a = none then some (.frz { cls := .type "list", data := .seq vs.toArray } (.lst (ns.map V.int))) else none
theorem law_callG (KX : K.In t.heap) (gl : t.heap.Ns mainGlobals mg) (bl : t.heap.Ns builtinsNs mb) (bb : ∀ y : Str, y ≠ "__name__" → mb y = bootBuiltins y) (lim : t.heap.NoLimit) (ge : t.gens = #[])
    (hT : ∀ p ∈ cs, t.heap.get? p.2 = some { cls := .none, data := .fields #[] }) (nT : ∀ p ∈ cs, K.lookup p.2 = none) (hC : ∀ p ∈ cs, PySem.W.CodeHd t.heap p.1 p.2)
    (hbm : ∃ (bm : Addr) (ob : Obj), mg "__builtins__" = some (.ref bm) ∧ bm ≠ builtinsNs ∧ t.heap.get? bm = some ob ∧ ob.cls = .type "module" ∧ ob.dict = some builtinsNs ∧ ob.data = .plain)
    (ha : t.heap.get? a = some { cls := .type "list", data := .seq vs.toArray }) (hi : IntsAre vs ns) (hl : ns.length ≤ sizeLine) (rm : Rm k callerA)
    (F : ∀ base : Heap, K.In base → base.Ns mainGlobals mg → (∀ p ∈ cs, LamX.TabB base mg p.1 p.2) → FnG P w K mg base k fa fd [x] sp) (hbind : ∀ (s : Shared) (u : Value), BindsTo s fd ⟨[u], []⟩ [(x, u)])
    (hsp : ∀ H : Hp, (∀ p ∈ cs, H p.2 = some (.tbl #[])) → SqL K H a (ns.map V.int) → sp [.ref a] H (fun v _ => v = .bl true) fun _ _ _ => False) :
    codeAny (model P w) callerA (.call (.ref fa) ⟨[.ref a], []⟩) (fun r u => r = .ok (.ret (.bool true)) ∧ OldK t.heap u.heap ∧ u.os = t.os ∧ AllBare u.gens) t := by
  have rv := vals_ints hi
  have tabAt : ∀ b, b ∈ cs.map (·.2) → t.heap.get? b = some { cls := .none, data := .fields #[] } := fun b hb => by
    obtain ⟨p, hp, rfl⟩ := List.mem_map.mp hb
    exact hT p hp
  have aNo : a ∉ cs.map (·.2) := fun z => by
    have q := tabAt a z
    rw [ha] at q
    injection q with q
    injection q with _ _ q
    cases q
  obtain ⟨H, eH⟩ : ∃ H, H = lawH K cs a vs ns := ⟨_, rfl⟩
  have hTab : ∀ b, b ∈ cs.map (·.2) → H b = some (.tbl #[]) := fun b hb => by rw [eH]; exact if_pos hb
  have hOut : ∀ b, b ∉ cs.map (·.2) → ¬ (b = a ∧ K.lookup a = none) → H b = none := fun b h1 h2 => by
    rw [eH]; exact (if_neg h1).trans (if_neg h2)
  have hA : K.lookup a = none → H a = some (.frz { cls := .type "list", data := .seq vs.toArray } (.lst (ns.map V.int))) := fun z => by
    rw [eH]; exact (if_neg aNo).trans (if_pos ⟨rfl, z⟩)
  have hAll : ∀ b u, H b = some u → (b ∈ cs.map (·.2) ∧ u = .tbl #[]) ∨ (b = a ∧ K.lookup a = none ∧ u = .frz { cls := .type "list", data := .seq vs.toArray } (.lst (ns.map V.int))) := fun b u e => by
    by_cases h1 : b ∈ cs.map (·.2)
    · rw [hTab b h1] at e; cases e; exact .inl ⟨h1, rfl⟩
    · by_cases h2 : b = a ∧ K.lookup a = none
      · obtain ⟨rfl, h2⟩ := h2
        rw [hA h2] at e; cases e; exact .inr ⟨rfl, h2, rfl⟩
      · rw [hOut b h1 h2] at e; cases e
  have hok : HOk P w H t.heap := fun b u e => by
    rcases hAll b u e with ⟨h1, rfl⟩ | ⟨rfl, _, rfl⟩
    · exact tabAt b h1
    · exact ⟨ha, by rw [List.length_map]; exact hl, vs, _, rv, ha⟩
  -- what is no table and no list is not tracked
  have still : ∀ {b : Addr} {o : Obj}, t.heap.get? b = some o → (∀ its n, o.data ≠ .seq its n) → o.data ≠ .fields #[] → H b = none := fun {b o} e n1 n2 => by
    cases q : H b with
    | none => rfl
    | some u =>
      rcases hAll b u q with ⟨h1, _⟩ | ⟨rfl, _, _⟩
      · rw [tabAt b h1] at e; cases e; exact (n2 rfl).elim
      · rw [ha] at e; cases e; exact (n1 _ _ rfl).elim
  have nsOk : ∀ {b : Addr} {m : Str → Option Value}, t.heap.Ns b m → (hidT t.heap H).Ns b m := fun {b m} ⟨o, es, ep, e, d, rest⟩ =>
    ⟨o, es, ep, hidT_get e (still e (fun its n z => by rw [d] at z; cases z) fun z => by rw [d] at z; cases z), d, rest⟩
  have kin : K.In (hidT t.heap H) := fun b o e => hidT_get (KX b o e) (by
    cases q : H b with
    | none => rfl
    | some u =>
      rcases hAll b u q with ⟨h1, _⟩ | ⟨rfl, h2, _⟩
      · obtain ⟨p, hp, rfl⟩ := List.mem_map.mp h1
        rw [nT p hp] at e; cases e
      · rw [h2] at e; cases e)
  have md : L2.Mod K mg (hidT t.heap H) := ⟨kin, nsOk gl, ⟨mb, nsOk bl, bb⟩, by
    obtain ⟨mc, h1, h2⟩ := lim
    exact ⟨mc, nsOk h1, h2⟩⟩
  have tbs : ∀ p ∈ cs, LamX.TabB (hidT t.heap H) mg p.1 p.2 := fun p hp => by
    have hTp := hT p hp
    refine ⟨?_, ?_, fun z => ?_⟩
    · obtain ⟨o, us, fl, tf, fg, tg, iF, tx, tt, c1, c2, c3, c4, c5, c6, c7, c8, c9, ne⟩ := hC p hp
      exact ⟨o, us, fl, tf, fg, tg, iF, tx, tt, hidT_get c1 (still c1 (fun its n z => by rw [c3] at z; cases z) fun z => by rw [c3] at z; cases z; simp at c4), c2, c3, c4, c5, c6, c7, c8, c9, ne⟩
    · obtain ⟨bm, ob, b1, b2, b3, b4, b5, b6⟩ := hbm
      refine ⟨bm, ob, b1, b2, fun q => ?_, fun q => ?_, hidT_get b3 (still b3 (fun its n z => by rw [b6] at z; cases z) fun z => by rw [b6] at z; cases z), b4, b5, b6⟩
      · obtain ⟨o, es, ep, e, d, _⟩ := gl
        subst q
        rw [e] at b3; cases b3
        rw [d] at b6; cases b6
      · rw [q, hTp] at b3; cases b3; cases b6
    · obtain ⟨o, es, ep, e, d, _⟩ := gl
      rw [z, hTp] at e; cases e; cases d
  have hS : SqL K H a (ns.map V.int) := by
    cases q : K.lookup a with
    | none => exact .inl (.inr ⟨_, hA q⟩)
    | some o =>
      have e := KX a o q
      rw [ha] at e; cases e
      exact .inr ⟨_, vs.toArray, _, q, rfl, rfl, rfl, by rw [List.size_toArray, hi.length]; exact hl, by simpa using rv⟩
  have env : Env0 P w K mg (hidT t.heap H) callerA [] t H := ⟨rfl, md, fun b o e => of_hidT e, Nat.le_of_eq (hidT_size _ _), trivial, fun b hb => (nomatch hb), hok, .of_eq ge⟩
  refine codeAny_mono ((F _ kin (nsOk gl) tbs).go callerA [] t H ⟨[.ref a], []⟩ [.ref a] [.ref a] _ _ rm env (hbind t (.ref a)) (.cons rfl .nil) (hsp H (fun p hp => hTab _ (List.mem_map.mpr ⟨p, hp, rfl⟩)) hS)) fun r u z => ?_
  match r, z with
  | .error _, z => exact z.elim
  | .ok .next, z => exact z.elim
  | .ok .brk, z => exact z.elim
  | .ok .cont, z => exact z.elim
  | .ok (.ret v), ⟨y, H', os, bare, un, hok', rvl, ey⟩ =>
    have ey : y = .bl true := ey
    subst ey
    have evl : v = Value.bool true := rvl
    subst evl
    have kept : ∀ b o, b ∉ cs.map (·.2) → t.heap.get? b = some o → u.heap.get? b = some o := fun b o nb e => by
      cases q : H b with
      | none => exact un.keep b o e q (fun z => nomatch z) (fun z => nomatch z)
      | some h0 =>
        rcases hAll b h0 q with ⟨h1, _⟩ | ⟨rfl, _, rfl⟩
        · exact (nb h1).elim
        · rw [ha] at e; cases e
          exact (hok' b _ (un.frzs b _ _ q)).1
    have more : ∀ p ∈ cs, ∃ us : Array Value, u.heap.get? p.2 = some { cls := .none, data := .fields us } := fun p hp => by
      obtain ⟨us, z⟩ := un.tbls p.2 #[] (hTab _ (List.mem_map.mpr ⟨p, hp, rfl⟩))
      exact ⟨_, hok' p.2 _ z⟩
    refine ⟨rfl, ⟨fun b o e => ?_, fun b o e => ?_⟩, os, bare⟩
    · by_cases hb : b ∈ cs.map (·.2)
      · obtain ⟨p, hp, rfl⟩ := List.mem_map.mp hb
        obtain ⟨us, hu⟩ := more p hp
        rw [hT p hp] at e; cases e
        exact .inr (.inl ⟨((hC p hp).tab (hT p hp)).isCodeTable, rfl, #[], us, rfl, by rw [Array.empty_append]; exact hu⟩)
      · exact .inl (kept b o hb e)
    · by_cases hb : b ∈ cs.map (·.2)
      · obtain ⟨p, hp, rfl⟩ := List.mem_map.mp hb
        obtain ⟨us, hu⟩ := more p hp
        exact ⟨_, hu⟩
      · exact ⟨o, kept b o hb e⟩
/-- what is known of the law's promise at the head's heap -/
def LawAtG (l : PySem.W.OpenLaw) (w : World) (K : PySem.W.Frag) (k n : Nat) (x : Str) (mg : Str → Option Value) (fa : Addr) (h : Heap) : Prop :=
  ∃ (fd : FuncData) (cs : List (Addr × Addr)) (sp : Sp), (∀ p ∈ cs, h.get? p.2 = some { cls := .none, data := .fields #[] }) ∧ (∀ p ∈ cs, K.lookup p.2 = none) ∧ (∀ p ∈ cs, PySem.W.CodeHd h p.1 p.2) ∧ (∀ (s : Shared) (u : Value), BindsTo s fd ⟨[u], []⟩ [(x, u)]) ∧
    (∀ (H : Hp) (a : Addr) (ns : List Int), ns.length ≤ n → (∀ z ∈ ns, Builtin.Int.intBits z ≤ 1048576) → (∀ p ∈ cs, H p.2 = some (.tbl #[])) → SqL K H a (ns.map V.int) → sp [.ref a] H (fun v _ => v = .bl true) fun _ _ _ => False) ∧
    ∀ base : Heap, K.In base → base.Ns mainGlobals mg → (∀ p ∈ cs, LamX.TabB base mg p.1 p.2) → FnG l.prog w K mg base k fa fd [x] sp
theorem walk_G {l : PySem.W.OpenLaw} {n k : Nat} {q : Program} {loose : List Str} {XP : (Str → Option Value) → Heap → Prop} {YP : World → Heap → Prop} {d : DefRec} {x : Str} (hn : l.most = some n) (hn2 : n ≤ sizeLine) (hdf : d.params.defaults = []) (rm : Rm k callerA)
    (F : ∀ (w : World) (mg : Str → Option Value) (fa : Addr) (h : Heap), YP w h → h.Ns mainGlobals mg → mg d.name = some (.ref fa) → ∃ K : PySem.W.Frag, K.In h ∧ LawAtG l w K k n x mg fa h) :
    PySem.W.WalkO q loose XP YP l.row.toRowW d [] (fun f vs => PySem.call f vs) := by
  refine Att.attach_callB hn hdf fun w s₀ s₁ mg mb fa o pm cd doc a vs ns G Y _ _ _ hmg hobj hints hlen hbits hg => ?_
  obtain ⟨K, KX, fd, cs, sp, h1, h2, h3, h4, h5, h6⟩ := F w mg fa _ Y G.T.g hmg
  exact law_callG KX G.T.g G.T.b G.T.builtins G.T.nolimit hg h1 h2 h3 G.T.bmain hobj hints (Nat.le_trans hlen hn2) rm h6 h4 fun H hH hS => h5 H a ns hlen hbits hH hS
end
theorem tabB_of {base : Heap} {mg : Str → Option Value} {c P : Addr} (h : LamX.TabB base mg c P) : GxR.TabB base mg c P := ⟨h.code, h.bm, h.gP⟩
end M

namespace M
open PySem PySem.Spec PyProof.Rows L2
variable [Tabs]
/-! ### name op= e, the operators -/
section
variable {X : Cx} {K : PySem.W.Frag}
def addI : D → D → Option D | .int i, .int j => some (.int (i + j)) | _, _ => none
theorem ipd_add : IpD K (ipI fun i j => i + j) addI := by
  intro G H d1 d2 d v1 v2 Q s r1 r2 e q
  unfold addI at e
  split at e
  · simp only [Rep] at r1 r2; subst r1 r2; cases e
    exact ⟨_, _, rfl, rfl, q _ H G (PStp.refl s) (rep_int _)⟩
  · cases e
theorem ipd_sub : IpD K (ipI fun i j => i - j) subD := by
  intro G H d1 d2 d v1 v2 Q s r1 r2 e q
  unfold subD at e
  split at e
  · simp only [Rep] at r1 r2; subst r1 r2; cases e
    exact ⟨_, _, rfl, rfl, q _ H G (PStp.refl s) (rep_int _)⟩
  · cases e
theorem ip_fdiv : PIp X .FloorDiv (rI CDivW fun i j => .int (i / j)) := by
  intro pins s σ H x y v u Q I r1 r2 h
  obtain ⟨i, j, e1, e2, hc, q⟩ := h
  subst e1; subst e2
  obtain ⟨t, rfl⟩ := r1
  obtain ⟨t', rfl⟩ := r2
  have h1 : (0 : Int) < j := hc.1
  exact PyProof.Rows.ifloordiv_int (by omega) ⟨.int _, H, I.tok _, ⟨_, rfl⟩, by rw [Int.fdiv_eq_ediv_of_nonneg i (by omega)]; exact q⟩ (.inl (PyProof.noPylong_of_log2 hc.2))
theorem ipd_fdiv : IpD K (rI CDivW fun i j => .int (i / j)) fdivD := od_fdiv
theorem ip_mul : PIp X .Mult (rI CMul fun i j => .int (i * j)) := by
  intro pins s σ H x y v u Q I r1 r2 h
  obtain ⟨i, j, e1, e2, hc, q⟩ := h
  subst e1; subst e2
  obtain ⟨t, rfl⟩ := r1
  obtain ⟨t', rfl⟩ := r2
  exact PySem.P.imul_int ⟨.int _, H, I.tok _, ⟨_, rfl⟩, q⟩ hc.ok
theorem ipd_mul : IpD K (rI CMul fun i j => .int (i * j)) mulD := od_mul
theorem hu64 {A : Around} {k : Nat} (hr : Rm k A) : A.units + 64 < cLine := by have := hr.r.un; omega
theorem hu2 {A : Around} {k : Nat} (hr : Rm k A) : A.units + 2 < cLine := by have := hr.r.un; omega
end
end M

namespace M
open PySem PySem.Spec PyProof.Rows L2

/-! ### plain laws: what the functions answer -/
theorem runB_rt {g : FS} {L np : Nat} {as : M.Args} {s : Sl} {ρ : Rho} (hl : as.length = np) (h : g (startR L as) = .ok (.rt s, ρ)) : runB g L np as = some (s, ends as ρ) := by
  unfold runB
  rw [if_pos hl, frcA_eq]
  rw [h]
  simp only [frcA_eq, frcT_eq]
theorem runB_nx {g : FS} {L np : Nat} {as : M.Args} {ρ : Rho} (hl : as.length = np) (h : g (startR L as) = .ok (.nx, ρ)) : runB g L np as = some (.dat .non, ends as ρ) := by
  unfold runB
  rw [if_pos hl, frcA_eq]
  rw [h]
  simp only [frcA_eq, frcT_eq]
theorem small_mod (x m : Int) (h : 0 < m) (h2 : m < 2 ^ 64) : small (x % m) = true := by
  have a := Int.emod_nonneg x (by omega : m ≠ 0)
  have b := Int.emod_lt_of_pos x h
  rw [small_iff]
  omega
theorem e2_C {op : D → D → Option D} {a b d : D} (h : op a b = some d) : e2 op (eC a) (eC b) = eC d := by
  funext ρ
  simp only [e2, bnd, eC, Rz.bind, ofO, h, frc_eq]
theorem powD_of {i j : Int} (h : 0 ≤ j ∧ (Builtin.Int.intBits i : Int) * j ≤ 2 ^ 27) : powD (.int i) (.int j) = some (.int (i ^ j.toNat)) := if_pos h
theorem pw1 : powD (.int 10) (.int 60) = some (.int (10 ^ (60 : Int).toNat)) := powD_of (by decide +kernel)
theorem pw2 : powD (.int (10 ^ (60 : Int).toNat)) (.int 9) = some (.int ((10 ^ (60 : Int).toNat) ^ (9 : Int).toNat)) := powD_of (by decide +kernel)
theorem pw3 : powD (.int 10) (.int 18) = some (.int (10 ^ (18 : Int).toNat)) := powD_of (by decide +kernel)
/-! sequences -/
theorem seq_nx {ga gb : FS} {ρ ρ1 : Rho} (h : ga ρ = .ok (.nx, ρ1)) : sSeq ga gb ρ = gb ρ1 := by simp only [sSeq, h, Rz.bind]
theorem seq_rt {ga gb : FS} {ρ ρ1 : Rho} {s : Sl} (h : ga ρ = .ok (.rt s, ρ1)) : sSeq ga gb ρ = .ok (.rt s, ρ1) := by simp only [sSeq, h, Rz.bind]
/-! calls -/
def allDat : List Ar → Bool | [] => true | .d _ :: xs => allDat xs | .o _ :: _ => false
theorem allDat_find : ∀ {xs : List Ar} (i : Nat), allDat xs = true → xs.findIdx? (isO i) = none
  | [], i, _ => rfl
  | .d d :: xs, i, h => by
    rw [List.findIdx?_cons]
    simp only [isO, Bool.false_eq_true, if_false]
    rw [allDat_find (xs := xs) i h]; rfl
  | .o _ :: _, i, h => by cases h
theorem allDat_get : ∀ {xs : List Ar} {k : Nat} {x : Ar}, allDat xs = true → xs[k]? = some x → ∃ d, x = .d d
  | [], k, x, _, q => by simp at q
  | .o _ :: _, k, x, h, q => by cases h
  | .d d :: xs, 0, x, h, q => by simp at q; exact ⟨d, q.symm⟩
  | .d d :: xs, k + 1, x, h, q => allDat_get (xs := xs) h (by simpa using q)
theorem backO_d {xs : List Ar} {as' : M.Args} {ρ : Rho} (h : allDat xs = true) : backO xs as' ρ = ρ := by
  apply List.ext_getElem?
  intro i
  unfold backO
  rw [List.getElem?_mapIdx]
  cases q : ρ[i]? with
  | none => rfl
  | some s =>
    simp only [Option.map_some]
    match s with
    | none => rfl
    | some (.dat d) => rfl
    | some (.own io ds) => simp only [allDat_find i h]
theorem onceO_d {xs : List Ar} (h : allDat xs = true) : onceO xs = true := by
  unfold onceO
  rw [List.all_eq_true]
  intro k _
  cases q : xs[k]? with
  | none => rfl
  | some x =>
    obtain ⟨d, rfl⟩ := allDat_get h q
    rfl
theorem argsOf_d {ρ : Rho} : ∀ (ds : List D), argsOf ρ (ds.map Ar.d) = some (ds.map Sl.dat)
  | [] => rfl
  | d :: ds => by
    show (argsOf ρ (ds.map Ar.d)).map _ = _
    rw [argsOf_d ds]; rfl
theorem allDat_map : ∀ ds : List D, allDat (ds.map Ar.d) = true
  | [] => rfl
  | _ :: ds => allDat_map ds
theorem call_d {F : FD} {n : Nat} {fr : FAr} {ρ ρ1 : Rho} {ds : List D} {d : D} {as' : M.Args} (h : fr ρ = .ok (ds.map Ar.d, ρ1)) (hF : F n (ds.map Sl.dat) = some (.dat d, as')) : eCall F n fr ρ = .ok (d, ρ1) := by
  simp only [eCall, h, Rz.bind, callD, onceO_d (allDat_map ds), if_true, argsOf_d, hF, backO_d (allDat_map ds)]
theorem call_do {F : FD} {n : Nat} {fr : FAr} {ρ ρ1 : Rho} {ds es : List D} {as' : M.Args} (h : fr ρ = .ok (ds.map Ar.d, ρ1)) (hF : F n (ds.map Sl.dat) = some (.own false es, as')) : oCall F n fr ρ = .ok (es, ρ1) := by
  simp only [oCall, h, Rz.bind, callO, onceO_d (allDat_map ds), if_true, argsOf_d, hF, backO_d (allDat_map ds)]
theorem onceO_o1 {j : Nat} {ds : List D} : onceO (.o j :: ds.map Ar.d) = true := by
  unfold onceO
  rw [List.all_eq_true]
  intro k _
  cases k with
  | zero => simp [isO, List.findIdx?_cons]
  | succ k =>
    rw [List.getElem?_cons_succ, List.getElem?_map]
    cases ds[k]? <;> rfl
theorem backO_o1 {j : Nat} {ds es es' : List D} {as' : M.Args} {io : Bool} {ρ : Rho} (h : ownL ρ j = some (io, es)) : backO (.o j :: ds.map Ar.d) (.own true es' :: as') ρ = ρ.set j (some (.own io es')) := by
  letI : Tabs := ⟨[]⟩
  have h1 := ownL_eq h
  apply List.ext_getElem?
  intro i
  unfold backO
  rw [List.getElem?_mapIdx]
  by_cases e : j = i
  · subst e
    rw [h1, List.getElem?_set_self (List.getElem?_eq_some_iff.mp h1).1]
    simp [isO, List.findIdx?_cons]
  · rw [List.getElem?_set_ne e]
    cases q : ρ[i]? with
    | none => rfl
    | some s =>
      simp only [Option.map_some]
      match s with
      | none => rfl
      | some (.dat d) => rfl
      | some (.own io ds') =>
        have z : (Ar.o j :: ds.map Ar.d).findIdx? (isO i) = none := by
          rw [List.findIdx?_cons]
          have : isO i (.o j) = false := by simp [isO, e]
          rw [this]
          simp only [Bool.false_eq_true, if_false]
          rw [allDat_find i (allDat_map ds)]; rfl
        simp only [z]
/-- f(x, ..): x one's own, handed in -/
theorem call_o1 {F : FD} {n j : Nat} {fr : FAr} {ρ : Rho} {ds es es' : List D} {d : D} {io : Bool} {as' : M.Args} (ho : ownL ρ j = some (io, es)) (h : fr ρ = .ok (.o j :: ds.map Ar.d, ρ)) (hF : F n (.own true es :: ds.map Sl.dat) = some (.dat d, .own true es' :: as')) : eCall F n fr ρ = .ok (d, ρ.set j (some (.own io es'))) := by
  simp only [eCall, h, Rz.bind, callD, onceO_o1, if_true, argsOf, ho, argsOf_d, Option.map_some, hF, backO_o1 ho]
/-! for -/
theorem forL_nx {tg : TgD} {body : FS} (J : Rho → Prop) : ∀ (ds : List D), (∀ d ∈ ds, ∀ ρ, J ρ → ∃ ρ1 ρ2, tg d ρ = some ρ1 ∧ body ρ1 = .ok (.nx, ρ2) ∧ J ρ2) → ∀ ρ, J ρ → ∃ ρ', forL tg body ds ρ = .ok (.nx, ρ') ∧ J ρ'
  | [], _, ρ, j => ⟨ρ, rfl, j⟩
  | d :: ds, h, ρ, j => by
    obtain ⟨ρ1, ρ2, e1, e2, j2⟩ := h d List.mem_cons_self ρ j
    obtain ⟨ρ', e3, j3⟩ := forL_nx J ds (fun d hd => h d (List.mem_cons_of_mem _ hd)) ρ2 j2
    refine ⟨ρ', ?_, j3⟩
    unfold forL
    rw [frc_eq, nrmR_eq, e1]
    simp only [e2, Rz.bind]
    exact e3
theorem rgD_mem {lo : Int} {n : Nat} {d : D} (h : d ∈ rgD lo n) : ∃ k : Nat, k < n ∧ d = .int (lo + k) := by
  unfold rgD at h
  obtain ⟨k, hk, e⟩ := List.mem_map.mp h
  exact ⟨k, List.mem_range.mp hk, e.symm⟩
/-- an answer, as a Bool -/
def isT : Option (Sl × M.Args) → Bool | some (.dat (.bl true), _) => true | _ => false
theorem isT_of {o : Option (Sl × M.Args)} (h : isT o = true) : ∃ as', o = some (.dat (.bl true), as') := by
  unfold isT at h
  split at h
  · exact ⟨_, rfl⟩
  · cases h
def isI (i : Int) : Option (Sl × M.Args) → Bool | some (.dat (.int j), _) => j == i | _ => false
theorem isI_of {i : Int} {o : Option (Sl × M.Args)} (h : isI i o = true) : ∃ as', o = some (.dat (.int i), as') := by
  unfold isI at h
  split at h
  · rename_i j as'
    have : j = i := by simpa using h
    subst this
    exact ⟨_, rfl⟩
  · cases h
end M

namespace M
open PySem PySem.Spec PyProof.Rows L2
variable [Tabs]

/-! ### repr of plain data -/
def showD (d : PyData) : Bool := PyProof.Rows.isDisplay d && d.showable && !d.hasDict && Nat.ble d.depth 64 && Nat.ble d.shown.length sizeLine
def showOk : PyData → Bool
  | .int i => Nat.blt i.natAbs.log2 1920
  | .list ds => showD (.list ds)
  | .tuple ds => showD (.tuple ds)
  | _ => false
def reprD : List D → Option D
  | [d] => if plain d = true ∧ showOk (pd d) = true then some (.str (pd d).shown) else none
  | _ => none
section
variable {X : Cx}
def rReprD (K : PySem.W.Frag) : List V → Hp → VK → Prop := fun vs H Q => ∃ v d, vs = [v] ∧ Dp K H v d ∧ showOk d = true ∧ Q (.str d.shown) H
theorem cr_repr (hg : X.A.guards = some []) (hu : X.A.units + 66 < cLine) : CallR X (.builtin "repr") (rReprD X.K) := by
  intro pins s σ H xs us Q I r h
  obtain ⟨v, d, rfl, hd, ok, q⟩ := h
  obtain ⟨u, rfl, ru⟩ := vals1 r
  obtain ⟨as, rd⟩ := Dp.reads I d v u hd ru
  have disp : showD d = true → wpAny (model X.prog X.w) X.A (call (.builtin "repr") [u]) (EP X pins σ Q) X.xe s := fun ok => by
    simp only [showD, Bool.and_eq_true, Nat.ble_eq, Bool.not_eq_true'] at ok
    obtain ⟨⟨⟨⟨o1, o2⟩, o3⟩, o4⟩, o5⟩ := ok
    obtain ⟨a, rfl⟩ := isRef_of_reads rd o1
    exact repr_of_reads' rd o2 (PyData.noDict_hsm o3) hg (by omega) (fun _ _ e => e) (fun h' u tk hk => ⟨.str _, H, I.kept hk, ⟨u, rfl⟩, q⟩) o5
  match d, hd, ok, q, disp with
  | .int i, hd, ok, q, _ =>
    cases hd
    obtain ⟨t, rfl⟩ := ru
    exact PySem.P.repr_of_int (by simpa [showOk, Nat.blt, Nat.succ_le_iff] using ok) ⟨.str _, H, I.tok _, ⟨_, rfl⟩, q⟩
  | .list _, _, ok, _, f => exact f ok
  | .tuple _, _, ok, _, f => exact f ok
  | .none, _, ok, _, _ => cases ok
  | .bool _, _, ok, _, _ => cases ok
  | .str _, _, ok, _, _ => cases ok
  | .dict _, _, ok, _, _ => cases ok
theorem cd_repr {K : PySem.W.Frag} : CallD K (rReprD K) reprD := by
  intro G H ds d vs Q s r e q
  unfold reprD at e
  split at e
  · rename_i d0
    split at e
    · rename_i c
      obtain ⟨v, rfl, r1⟩ := reps1 r
      cases e
      exact ⟨v, pd d0, rfl, dp_of d0 v (Rep.mono s _ _ r1) c.1, c.2, q _ H G (PStp.refl s) (rep_str _)⟩
    · cases e
  · cases e
end

/-! ### == that takes any two texts -/
def eqS (d e : D) : Option D := match d, e with | .str a, .str b => some (.bl (a == b)) | d, e => eqD d e
def neS (d e : D) : Option D := match d, e with | .str a, .str b => some (.bl (!(a == b))) | d, e => neD d e
section
variable {X : Cx}
def rEqS (K : PySem.W.Frag) : R2 := fun x y H Q => rEq x y H Q ∨ rEqD K x y H Q
def rNeS (K : PySem.W.Frag) : R2 := fun x y H Q => rNe x y H Q ∨ rNeD K x y H Q
theorem op_eqS (hu : X.A.units + 64 < cLine) : OpR X (compareOp .Eq) (rEqS X.K) := OpR.or op_eq (op_eqD hu)
theorem op_neS (hu : X.A.units + 64 < cLine) : OpR X (compareOp .NotEq) (rNeS X.K) := OpR.or op_ne (op_neD hu)
theorem od_eqS {K : PySem.W.Frag} : OpD K (rEqS K) eqS := by
  intro G H d1 d2 d v1 v2 Q s r1 r2 e q
  unfold eqS at e
  split at e
  · simp only [Rep] at r1 r2
    subst r1; subst r2
    cases e
    exact .inl ⟨rfl, by rw [dec_str]; exact q _ H G (PStp.refl s) (rep_bl _)⟩
  · exact .inr (od_eq G H d1 d2 d v1 v2 Q s r1 r2 e q)
theorem od_neS {K : PySem.W.Frag} : OpD K (rNeS K) neS := by
  intro G H d1 d2 d v1 v2 Q s r1 r2 e q
  unfold neS at e
  split at e
  · simp only [Rep] at r1 r2
    subst r1; subst r2
    cases e
    exact .inl ⟨rfl, by rw [dec_str]; exact q _ H G (PStp.refl s) (rep_bl _)⟩
  · exact .inr (od_ne G H d1 d2 d v1 v2 Q s r1 r2 e q)
end

/-! ### x in range(..) -/
def inRgD (d : D) (ds : List D) : Option D := match d with
  | .int i => match rgPr ds with | some (a, b) => some (.bl (!iLt i a && iLt i b)) | none => none
  | _ => none
def eInRg (fa : FE) (fs : FA) : FE := bnd fa fun x => bndA fs fun ds => fun ρ => ofO (inRgD x ds) ρ
section
variable {X : Cx} {a : Expr} {es : List Expr} {fa : FE} {fs : FA} {pos p rpos : Pos}
def rRng : List V → Hp → VK → Prop := fun vs H Q => (∃ j, vs = [V.int j] ∧ ∀ p, H p = none → Q (.ref p) (upd H p (.rng 0 j))) ∨ ∃ i j, vs = [V.int i, V.int j] ∧ ∀ p, H p = none → Q (.ref p) (upd H p (.rng i j))
theorem cr_rng : CallR X (.type "range") rRng := by
  intro pins s σ H vs us Q I r h
  rcases h with ⟨j, rfl, q⟩ | ⟨i, j, rfl, q⟩
  · obtain ⟨u, rfl, t, rfl⟩ := vals1 r
    refine call_range_1 ⟨.ref s.heap.objs.size, upd H s.heap.objs.size (.rng 0 j), I.laid (t' := s.toks + 1 + 1) (fun b o e => Heap.get?_push_of_some _ e) (Nat.le_refl _) ?_, rfl, q _ (I.hok.fresh (Nat.le_refl _))⟩
    exact ⟨s.toks, t, s.toks + 1, Heap.get?_push_size _ rfl⟩
  · exact cr_range2 pins s σ H _ us Q I r ⟨i, j, rfl, q⟩
theorem rRng_of {K : PySem.W.Frag} {G H : Hp} {ds : List D} {vs : List V} {Q : VK} {i j : Int} (r : Reps K G ds vs) (e : rgPr ds = some (i, j)) (q : ∀ p, H p = none → Q (.ref p) (upd H p (.rng i j))) : rRng vs H Q := by
  unfold rgPr at e
  split at e
  · cases e
    obtain ⟨v, rfl, r1⟩ := reps1 r
    simp only [Rep] at r1
    subst r1
    exact .inl ⟨_, rfl, q⟩
  · cases e
    obtain ⟨v, u, rfl, r1, r2⟩ := reps2 r
    simp only [Rep] at r1 r2
    subst r1; subst r2
    exact .inr ⟨_, _, rfl, q⟩
  · cases e
def rInR : R2 := fun x y H Q => ∃ i a lo hi, x = V.int i ∧ y = V.ref a ∧ H a = some (.rng lo hi) ∧ Q (.bl (decide (lo ≤ i ∧ i < hi))) H
theorem rd_inRg (σ : L2.St) (H : Hp) (Q : VK) (h : rd X.K (eInRg fa fs) σ H Q) : tOp rInR (rd X.K fa) (tCB rRng (rdA X.K fs)) σ H Q := by
  obtain ⟨ρ, G, I, h⟩ := h
  refine rd_of I (rdK_mono (rdK_bnd h) fun v H1 ⟨d1, ρ1, G1, s1, I1, r1, h1⟩ => ?_)
  refine rdA_of I1 (rdAK_mono (rdK_bndA h1) fun vs H2 ⟨ds, ρ2, G2, s2, I2, r2, h2⟩ => ?_)
  obtain ⟨d, e, q⟩ := rdK_ofO h2 I2
  unfold inRgD at e
  cases d1 with
  | int i =>
    dsimp only at e
    cases e3 : rgPr ds with
    | none => rw [e3] at e; cases e
    | some c =>
      obtain ⟨lo, hi⟩ := c
      rw [e3] at e; cases e
      simp only [Rep] at r1
      subst r1
      refine rRng_of r2 e3 fun p hp => ⟨i, p, lo, hi, rfl, rfl, upd_same, ?_⟩
      have eq : decide (lo ≤ i ∧ i < hi) = (!iLt i lo && iLt i hi) := by
        rw [not_iLt, iLt_eq, Bool.decide_and]
      rw [eq]
      exact q _ _ _ (PStp.laid I2.sub hp) (rep_bl _)
  | _ => cases e
theorem de_inRg {e1 : Expr} {es : List Expr} (ha : PE X a (rd X.K fa)) (hg : Gl X "range") (hm : X.mg "range" = none) (hs : PA X (e1 :: es) (rdA X.K fs)) (hmk : behindInMarks .In (.Call (.Name "range" p) (e1 :: es) [] rpos) = false)
    (he : starEach (e1 :: es) X.env = (false, eval e1 X.env) :: starEach es X.env := by rfl) (hpl : (backTo rpos (starEach es X.env)).any (·.1) = false := by rfl) :
    PE X (.Compare a [.In] [.Call (.Name "range" p) (e1 :: es) [] rpos] pos) (rd X.K (eInRg fa fs)) :=
  pe_imp (pe_cmpR op_in_rng ha (pe_callTy cr_rng hg hm (by decide +kernel) hs (by decide) (by decide) he hpl) hmk) rd_inRg
theorem dt_inRg {e1 : Expr} {es : List Expr} (ha : PE X a (rd X.K fa)) (hg : Gl X "range") (hm : X.mg "range" = none) (hs : PA X (e1 :: es) (rdA X.K fs)) (hmk : behindInMarks .In (.Call (.Name "range" p) (e1 :: es) [] rpos) = false)
    (he : starEach (e1 :: es) X.env = (false, eval e1 X.env) :: starEach es X.env := by rfl) (hpl : (backTo rpos (starEach es X.env)).any (·.1) = false := by rfl) :
    PT X (.Compare a [.In] [.Call (.Name "range" p) (e1 :: es) [] rpos] pos) (rdT X.K (M.tB (eInRg fa fs))) :=
  pt_imp (pt_cmpR op_in_rng ha (pe_callTy cr_rng hg hm (by decide +kernel) hs (by decide) (by decide) he hpl) hmk) fun σ H Q h => rd_inRg _ _ _ (rd_B _ _ _ h)
end

/-! ### list(x) as a new list of one's own -/
def oLstOf (fa : FE) : FA := fun ρ => (fa ρ).bind fun p => match lstD [p.1] with | some (.lst ds) => .ok (ds, p.2) | _ => .no
section
variable {X : Cx} {a : Expr} {fa : FE} {pos p : Pos}
theorem lstD_seq {K : PySem.W.Frag} {G H : Hp} {d : D} {ds : List D} {v : V} (s : Same G H) (r : Rep K G d v) (e : lstD [d] = some (.lst ds)) : ∃ a ys, v = .ref a ∧ (SqL K H a ys ∨ SqT K H a ys) ∧ Reps K G ds ys := by
  unfold lstD at e
  split at e
  · rename_i h
    cases h; cases e
    simp only [Rep] at r
    obtain ⟨a, us, rfl, h1, q1⟩ := r
    exact ⟨a, us, rfl, .inr (SqT.mono s h1), q1⟩
  · rename_i h
    cases h; cases e
    simp only [Rep] at r
    obtain ⟨a, us, rfl, h1, q1⟩ := r
    exact ⟨a, us, rfl, .inl (SqL.of (s _ _ h1)), q1⟩
  · rename_i h
    cases h; cases e
    simp only [Rep] at r
    obtain ⟨a, rfl, h1⟩ := r
    exact ⟨a, _, rfl, .inl (SqL.mono s h1), Reps.of_ints _⟩
  · cases e
theorem dom_none {σ σ' : L2.St} {ρ ρ' : Rho} {G G' H H' : Hp} {p : Addr} (s : Stp σ ρ G H σ' ρ' G' H') (hp : H' p = none) : H p = none := by
  cases q : H p with
  | none => rfl
  | some o => exact absurd hp (s.dom p (by rw [q]; exact fun z => by cases z))
theorem do_listOf (ha : PE X a (rd X.K fa)) (hg : Gl X "list") (hm : X.mg "list" = none) (na : starEach [a] X.env = (false, eval a X.env) :: starEach [] X.env := by rfl) :
    PE X (.Call (.Name "list" p) [a] [] pos) (rdO X.K (oLstOf fa)) := by
  refine pe_imp (pe_callTy call_list_of hg hm (by decide +kernel) (pa_cons ha pa_nil na) (he := na)) fun σ H Q ⟨ρ, G, I, h⟩ => ?_
  refine rd_of I ?_
  unfold oLstOf at h
  unfold rdK
  cases q : fa ρ with
  | ex _ _ => rw [q] at h; exact h
  | no => rw [q] at h; exact h
  | ok p =>
    obtain ⟨d, ρ1⟩ := p
    rw [q] at h
    dsimp only [Rz.bind] at h
    intro v H1 G1 s1 I1 r1
    split at h
    · rename_i ds e
      obtain ⟨a, ys, rfl, hs, r2⟩ := lstD_seq I1.sub r1 e
      refine ⟨a, ys, rfl, hs, fun l hl => ?_⟩
      obtain ⟨x1, x2, x3⟩ := I1.fresh (o := .lst ys) hl
      exact h l ys _ G1 (s1.trans x2) x1 (dom_none s1 hl) upd_same (I1.sub.free hl) x3 r2
    · exact h.elim
end
end M

namespace M
open PySem PySem.Spec PyProof.Rows L2
variable [Tabs]

/-! ### a value, or a new list of one's own -/
def NewV (K : PySem.W.Frag) (σ : L2.St) (ρ : Rho) (H0 G H : Hp) : Sl → V → Prop
  | .dat d, v => Rep K G d v
  | .own false ds, v => ∃ p us, v = .ref p ∧ H0 p = none ∧ H p = some (.lst us) ∧ G p = none ∧ ¬ OwnAt σ ρ p ∧ Reps K G ds us
  | .own true _, _ => False
abbrev FV := Rho → Rz (Sl × Rho)
def OutV (K : PySem.W.Frag) (Q : VK) (σ : L2.St) (ρ : Rho) (G H : Hp) : Rz (Sl × Rho) → Prop
  | .ok (s, ρ') => ∀ v H' G', Stp σ ρ G H σ ρ' G' H' → SR K G' H' σ ρ' → NewV K σ ρ' H G' H' s v → Q v H'
  | .ex _ _ => False
  | .no => False
def rdV (K : PySem.W.Frag) (f : FV) : TE := fun σ H Q => ∃ ρ G, SR K G H σ ρ ∧ OutV K Q σ ρ G H (f ρ)
def vD (f : FE) : FV := fun ρ => (f ρ).bind fun p => .ok (.dat p.1, p.2)
def vO (f : FA) : FV := fun ρ => (f ρ).bind fun p => .ok (.own false p.1, p.2)
section
variable {K : PySem.W.Frag} {σ σ' : L2.St} {ρ ρ' : Rho} {G G' H H' H0 Ha Hb G0 : Hp}
theorem NewV.step {s : Sl} {v : V} (n : NewV K σ ρ H0 G H s v) (b : Stp σ ρ G H σ' ρ' G' H') : NewV K σ' ρ' H0 G' H' s v := by
  match s, n with
  | .dat d, n => exact Rep.mono b.sub _ _ n
  | .own false ds, ⟨p, us, e, h0, h1, h2, h3, r⟩ =>
    refine ⟨p, us, e, h0, b.keep p _ h1 h3 rfl, ?_, fun z => ?_, Reps.mono b.sub _ _ r⟩
    · rw [b.new p (by rw [h1]; exact fun z => by cases z) h3]; exact h2
    · rcases b.own p z with z | z
      · exact h3 z
      · rw [h1] at z; cases z
theorem NewV.back {s : Sl} {v : V} (n : NewV K σ ρ Hb G H s v) (h : ∀ p, Hb p = none → H0 p = none) : NewV K σ ρ H0 G H s v := by
  match s, n with
  | .dat d, n => exact n
  | .own false ds, ⟨p, us, e, h0, h1⟩ => exact ⟨p, us, e, h _ h0, h1⟩
theorem NewV.set {i : Nat} {s : Sl} {v : V} (I : SR K G H σ ρ) (n : NewV K σ ρ H0 G H s v) : SR K G H (σ.set i (some v)) (ρ.set i (some s)) := by
  match s, n with
  | .dat d, n => exact I.set n
  | .own false ds, ⟨p, us, e, h0, h1, h2, h3, r⟩ => subst e; exact I.setOwn h1 h2 h3 r
theorem own_set {i : Nat} {s : Sl} {v : V} {a : Addr} (n : NewV K σ ρ H0 G H s v) (h : OwnAt (σ.set i (some v)) (ρ.set i (some s)) a) : OwnAt σ ρ a ∨ (v = .ref a ∧ H0 a = none ∧ H a ≠ none) := by
  obtain ⟨j, io, es, q1, q2⟩ := h
  rcases get_set q1 with ⟨e, z1⟩ | ⟨ne, z1⟩
  · rcases get_set q2 with ⟨_, z2⟩ | ⟨ne, _⟩
    · cases z1
      match io, n with
      | false, ⟨p, us, e2, h0, h1, h2, h3, r⟩ => cases z2; cases e2; exact .inr ⟨rfl, h0, by rw [h1]; exact fun z => by cases z⟩
      | true, n => exact n.elim
    · exact absurd e ne
  · rcases get_set q2 with ⟨e, _⟩ | ⟨_, z2⟩
    · exact absurd e ne
    · exact .inl ⟨j, io, es, z1, z2⟩
theorem ownN_set {i : Nat} {s : Sl} {v : V} {a : Addr} (n : NewV K σ ρ H0 G H s v) (h : OwnN (σ.set i (some v)) (ρ.set i (some s)) a) : OwnN σ ρ a ∨ H0 a = none := by
  obtain ⟨j, es, q1, q2⟩ := h
  rcases get_set q1 with ⟨e, z1⟩ | ⟨ne, z1⟩
  · rcases get_set q2 with ⟨_, z2⟩ | ⟨ne, _⟩
    · cases z1
      obtain ⟨p, us, e2, h0, h1, h2, h3, r⟩ := n
      cases z2; cases e2; exact .inr h0
    · exact absurd e ne
  · rcases get_set q2 with ⟨e, _⟩ | ⟨_, z2⟩
    · exact absurd e ne
    · exact .inl ⟨j, es, z1, z2⟩
theorem Stp.setV {σ0 : L2.St} {ρ0 : Rho} {i : Nat} {s : Sl} {v : V} (b : Stp σ0 ρ0 G0 H0 σ ρ G H) (nio : isIo ρ i = false) (n : NewV K σ ρ H0 G H s v) : Stp σ0 ρ0 G0 H0 (σ.set i (some v)) (ρ.set i (some s)) G H := by
  refine ⟨b.sub, b.new, b.keep, b.grow, b.dom, fun a z => ?_, fun a z => ?_, fun j es q => ?_⟩
  · rcases own_set n z with z | z
    · exact b.own a z
    · exact .inr z.2.1
  · rcases ownN_set n z with z | z
    · exact b.ownN a z
    · exact .inr z
  · obtain ⟨e0, fs, z1⟩ := b.stay j es q
    have ne : i ≠ j := fun e => by
      subst e
      unfold isIo at nio
      rw [z1] at nio
      cases nio
    rw [List.getElem?_set_ne ne, List.getElem?_set_ne ne]
    exact ⟨e0, fs, z1⟩
/-- another new value is still new after a store -/
theorem NewV.other {i : Nat} {s t : Sl} {v u : V} (n : NewV K σ ρ Ha G H s v) (m : NewV K σ ρ Hb G H t u) (h : ∀ p io us, s = .own io us → v = .ref p → Hb p ≠ none) : NewV K (σ.set i (some v)) (ρ.set i (some s)) Hb G H t u := by
  match t, m with
  | .dat d, m => exact m
  | .own false ds, ⟨p, us, e, h0, h1, h2, h3, r⟩ =>
    refine ⟨p, us, e, h0, h1, h2, fun z => ?_, r⟩
    obtain ⟨j, io, es, q1, q2⟩ := z
    rcases get_set q1 with ⟨e1, z1⟩ | ⟨ne, z1⟩
    · rcases get_set q2 with ⟨_, z2⟩ | ⟨ne, _⟩
      · cases z1
        cases z2
        exact h p io es rfl rfl h0
      · exact absurd e1 ne
    · rcases get_set q2 with ⟨e1, _⟩ | ⟨_, z2⟩
      · exact absurd e1 ne
      · exact h3 ⟨j, io, es, z1, z2⟩
end
section
variable {X : Cx} {a b e : Expr} {fa fb : FV} {fe : FE} {fo : FA} {pos : Pos}
theorem dv_D (h : PE X e (rd X.K fe)) : PE X e (rdV X.K (vD fe)) := by
  refine pe_imp h fun σ H Q ⟨ρ, G, I, h⟩ => ?_
  refine rd_of I ?_
  unfold vD at h
  unfold rdK
  cases q : fe ρ with
  | ex _ _ => rw [q] at h; exact h
  | no => rw [q] at h; exact h
  | ok p =>
    obtain ⟨d, ρ1⟩ := p
    rw [q] at h
    exact fun v H1 G1 s1 I1 r1 => h v H1 G1 s1 I1 r1
theorem dv_O (h : PE X e (rdO X.K fo)) : PE X e (rdV X.K (vO fo)) := by
  refine pe_imp h fun σ H Q ⟨ρ, G, I, h⟩ => ?_
  refine ⟨ρ, G, I, ?_⟩
  unfold vO at h
  cases q : fo ρ with
  | ex _ _ => rw [q] at h; exact h
  | no => rw [q] at h; exact h
  | ok p =>
    obtain ⟨d, ρ1⟩ := p
    rw [q] at h
    exact fun p us H1 G1 s1 I1 e1 e2 e3 n r => h _ H1 G1 s1 I1 ⟨p, us, rfl, e1, e2, e3, n, r⟩
/-- x, y = a, b -/
def sParV (i j : Nat) (fa fb : FV) : FS := fun ρ => (fa ρ).bind fun p => (fb p.2).bind fun q =>
  if isIo q.2 i = true ∨ isIo q.2 j = true ∨ i = j then .no else .ok (.nx, (q.2.set i (some p.1)).set j (some q.1))
theorem ds_parV (i j : Nat) {x y : Str} {px py pt pt2 : Pos} {kt k2 : Nat} (ha : PE X a (rdV X.K fa)) (hb : PE X b (rdV X.K fb)) (hc : X.calm = true) (hN : X.N.Nodup) (hi : X.N[i]? = some x := by rfl) (hj : X.N[j]? = some y := by rfl) (hij : i ≠ j := by decide)
    (hx : X.env.scope.names.lookup x = some .local := by rfl) (hy : X.env.scope.names.lookup y = some .local := by rfl)
    (na : starEach [a, b] X.env = (false, eval a X.env) :: starEach [b] X.env := by rfl) (nb : starEach [b] X.env = (false, eval b X.env) :: starEach [] X.env := by rfl)
    (hw : swappedStores [.Tuple [.Name x px, .Name y py] kt pt] (.Tuple [a, b] k2 pt2) X.env = pure (some [x, y]) := by rfl)
    (hs : swapsWithSole [.Tuple [.Name x px, .Name y py] kt pt] (.Tuple [a, b] k2 pt2) pos.line X.env = pure false := by rfl) :
    PS X (.Assign [.Tuple [.Name x px, .Name y py] kt pt] (.Tuple [a, b] k2 pt2) pos) (rdS X.K (sParV i j fa fb)) := by
  refine ps_imp (ps_par hc hN hi hj hij hx hy (pa_cons ha (pa_cons hb pa_nil nb) na) hw hs) fun D σ H ⟨ρ, G, I, h⟩ => ?_
  unfold rdSK sParV at h
  refine ⟨ρ, G, I, ?_⟩
  cases q : fa ρ with
  | ex _ _ => rw [q] at h; exact h
  | no => rw [q] at h; exact h
  | ok p =>
    obtain ⟨s, ρ1⟩ := p
    rw [q] at h
    dsimp only [Rz.bind] at h
    intro v H1 G1 s1 I1 n1
    refine ⟨ρ1, G1, I1, ?_⟩
    cases q2 : fb ρ1 with
    | ex _ _ => rw [q2] at h; exact h
    | no => rw [q2] at h; exact h
    | ok p2 =>
      obtain ⟨t, ρ2⟩ := p2
      rw [q2] at h
      dsimp only at h
      intro u H2 G2 s2 I2 n2
      by_cases z : isIo ρ2 i = true ∨ isIo ρ2 j = true ∨ i = j
      · rw [if_pos z] at h; exact h.elim
      · rw [if_neg z] at h
        simp only [not_or] at z
        have m1 := n1.step s2
        have z2 : isIo (ρ2.set i (some s)) j = false := by
          have := z.2.1
          unfold isIo at this ⊢
          rw [List.getElem?_set_ne z.2.2]
          simpa using this
        have m2 : NewV X.K (σ.set i (some v)) (ρ2.set i (some s)) H1 G2 H2 t u := m1.other n2 fun p io us hs e => by
          subst hs
          match io, n1 with
          | false, ⟨p', us', e', h0, h1, _⟩ => rw [e'] at e; cases e; rw [h1]; exact fun z => by cases z
          | true, n1 => exact n1.elim
        refine ⟨v, u, rfl, h _ H2 G2 ?_ (NewV.set (NewV.set I2 m1) m2)⟩
        exact ((s1.trans s2).setV (by simpa using z.1) m1).setV z2 (m2.back fun p hp => dom_none s1 hp)
end
end M

namespace M
open PySem PySem.Spec PyProof.Rows L2
variable [Tabs]

/-! ### xs + [..], xs one's own -/
def oCat (j : Nat) (fs : FA) : FA := fun ρ => match ownL ρ j with
  | some _ => (fs ρ).bind fun p => match ownL p.2 j with
    | some (_, ds) => if Nat.ble p.1.length sizeLine = true ∧ Nat.ble (ds.length + p.1.length) sizeLine = true then .ok (ds ++ p.1, p.2) else .no
    | none => .no
  | none => .no
section
variable {X : Cx} {es : List Expr} {fs : FA} {pos px lp : Pos}
theorem do_cat (j : Nat) {x : Str} (h : PA X es (rdA X.K fs)) (hN : X.N[j]? = some x := by rfl) (hv : Vis X.env.scope x := by first | exact Or.inl rfl | exact Or.inr (Or.inl rfl) | exact Or.inr (Or.inr rfl)) (hd : (x == ("__debug__" : Str)) = false := by decide)
    (hcd : (x == ("__classdict__" : Str)) = false := by decide) : PE X (.BinOp (.Name x px) .Add (.List es lp) pos) (rdO X.K (oCat j fs)) := by
  refine pe_imp (pe_op op_cat (pe_var (i := j) hN hv hd hcd) (pe_lst h)) fun σ H Q ⟨ρ, G, I, h⟩ => ?_
  unfold oCat at h
  cases q : ownL ρ j with
  | none => rw [q] at h; exact h.elim
  | some c =>
    obtain ⟨io, ds0⟩ := c
    rw [q] at h
    dsimp only at h
    obtain ⟨a, vs0, e1, e2, e3, r0⟩ := I.own q
    refine ⟨.ref a, e1, ?_⟩
    refine rdA_of I ?_
    unfold rdAK
    cases q1 : fs ρ with
    | ex _ _ => rw [q1] at h; exact h
    | no => rw [q1] at h; exact h
    | ok p =>
      obtain ⟨ds, ρ1⟩ := p
      rw [q1] at h
      dsimp only [Rz.bind] at h
      intro vs H1 G1 s1 I1 r1
      cases q2 : ownL ρ1 j with
      | none => rw [q2] at h; exact h.elim
      | some c2 =>
        obtain ⟨io2, es2⟩ := c2
        rw [q2] at h
        dsimp only at h
        obtain ⟨a2, vs2, f1, f2, f3, r2⟩ := I1.own q2
        rw [e1] at f1
        cases f1
        by_cases z : Nat.ble ds.length sizeLine = true ∧ Nat.ble (es2.length + ds.length) sizeLine = true
        · rw [if_pos z] at h
          rw [Nat.ble_eq, Nat.ble_eq] at z
          refine ⟨by rw [r1.length]; exact z.1, fun p hp => ?_⟩
          obtain ⟨x1, x2, x3⟩ := I1.fresh (o := .lst vs) hp
          have na : a ≠ p := fun e => by rw [e, hp] at f2; cases f2
          refine ⟨a, p, vs2, vs, rfl, rfl, by rw [upd_ne na]; exact f2, upd_same, by rw [r1.length, r2.length]; exact z.2, fun p2 hp2 => ?_⟩
          obtain ⟨y1, y2, y3⟩ := x1.fresh (o := .lst (vs2 ++ vs)) hp2
          exact h p2 (vs2 ++ vs) _ G1 ((s1.trans x2).trans y2) y1 (dom_none (s1.trans x2) hp2) upd_same (x1.sub.free hp2) y3 (r2.append r1)
        · rw [if_neg z] at h; exact h.elim
end
/-! name = [.. for ..] on one line, name one's own -/
section
variable {X : Cx}
theorem ds_ownLc (i : Nat) {y : Str} {py : Pos} {elt tg iter : Expr} {ifs : List Expr} {scope : Scope} {own : List (Str × Nat)} {pos spos : Pos} {fi : FI} {is : List Nat} {tgd : TgD} {ft : FT} {fe : FE} (hc : X.calm = true) (hN : X.N.Nodup) (hi : PI X tg iter (rdI X.K fi)) (ok : BlkOk X.N X.env.scope scope own) (hsub : ∀ i ∈ is, i ∈ own.map (·.2))
    (hg : ∀ (s : Shared) (H : Hp) (C : Addr) (cl : List (Str × Addr)) (fp : List Addr), PG (X.blk s H scope (compEnvC scope cl C X.env) fp) tg (rdG X.K is tgd)) (ht : ∀ (s : Shared) (H : Hp) (C : Addr) (cl : List (Str × Addr)) (fp : List Addr), PTs (X.blk s H scope (compEnvC scope cl C X.env) fp) ifs (rdT X.K ft))
    (he : ∀ (s : Shared) (H : Hp) (C : Addr) (cl : List (Str × Addr)) (fp : List Addr), PE (X.blk s H scope (compEnvC scope cl C X.env) fp) elt (rd X.K fe)) (hy : X.N[i]? = some y := by rfl) (hyl : X.env.scope.names.lookup y = some .local := by rfl) (hk : X.env.scope.kind = .function := by rfl) (hl : (py.line == pos.line) = true := by rfl)
    (ha : (scope.names.any fun (n, k) => n == y && (k == .local || k == .cell)) = false := by decide +kernel) (hs : ∀ x, foldedSetIterable iter X.env x = pure x := by intro _; rfl) :
    PS X (.Assign [.Name y py] (.ListComp elt [⟨tg, iter, ifs, 0⟩] scope pos) spos) (rdS X.K (sOwn i (oLc fi tgd ft fe (own.map (·.2))))) := by
  refine ps_imp (ps_setLc hc hN hy hyl (sw_true hk hyl hl ha) hi ok hg ht he hs) fun D σ H ⟨ρ, G, I, h⟩ => ?_
  refine rd_lc hsub σ H (fun x H1 => gName i x σ H1 D.nx) ⟨ρ, G, I, ?_⟩
  unfold rdSK sOwn at h
  cases e : oLc fi tgd ft fe (own.map (·.2)) ρ with
  | ex _ _ => rw [e] at h; exact h
  | no => rw [e] at h; exact h
  | ok p =>
    obtain ⟨ds, ρ1⟩ := p
    rw [e] at h
    dsimp only [Rz.bind] at h
    intro p us H1 G1 s1 I1 e1 e2 e3 n r
    by_cases z : isIo ρ1 i = true
    · rw [if_pos z] at h; exact h.elim
    · rw [if_neg z] at h
      have nv : NewV X.K σ ρ1 H G1 H1 (.own false ds) (.ref p) := ⟨p, us, rfl, e1, e2, e3, n, r⟩
      exact h _ H1 G1 (s1.setV (by simpa using z) nv) (NewV.set I1 nv)
end
theorem hu66 {A : Around} {k : Nat} (hr : Rm k A) : A.units + 66 < cLine := by have := hr.r.un; omega
end M

namespace M
open PySem PySem.Spec PyProof.Rows L2

/-! ### plain laws: loops that fold -/
theorem forL_rel {α : Type} {tg : TgD} {body : FS} (R : α → Rho → Prop) (f : α → D → α) : ∀ (ds : List D), (∀ d ∈ ds, ∀ a ρ, R a ρ → ∃ ρ1 ρ2, tg d ρ = some ρ1 ∧ body ρ1 = .ok (.nx, ρ2) ∧ R (f a d) ρ2) → ∀ a ρ, R a ρ → ∃ ρ', forL tg body ds ρ = .ok (.nx, ρ') ∧ R (ds.foldl f a) ρ'
  | [], _, a, ρ, j => ⟨ρ, rfl, j⟩
  | d :: ds, h, a, ρ, j => by
    obtain ⟨ρ1, ρ2, e1, e2, j2⟩ := h d List.mem_cons_self a ρ j
    obtain ⟨ρ', e3, j3⟩ := forL_rel R f ds (fun d hd => h d (List.mem_cons_of_mem _ hd)) (f a d) ρ2 j2
    refine ⟨ρ', ?_, j3⟩
    unfold forL
    rw [frc_eq, nrmR_eq, e1]
    simp only [e2, Rz.bind]
    exact e3
/-- a loop over range(0, n): what holds after k turns -/
theorem forL_rg {tg : TgD} {body : FS} (R : Nat → Rho → Prop) (lo : Int) (n : Nat) (h : ∀ k < n, ∀ ρ, R k ρ → ∃ ρ1 ρ2, tg (.int (lo + k)) ρ = some ρ1 ∧ body ρ1 = .ok (.nx, ρ2) ∧ R (k + 1) ρ2) (ρ : Rho) (h0 : R 0 ρ) : ∃ ρ', forL tg body (rgD lo n) ρ = .ok (.nx, ρ') ∧ R n ρ' := by
  have key : ∀ (m j : Nat), j + m = n → ∀ ρ, R j ρ → ∃ ρ', forL tg body ((List.range' j m).map fun i => D.int (lo + (i : Nat))) ρ = .ok (.nx, ρ') ∧ R n ρ' := by
    intro m
    induction m with
    | zero =>
      intro j hj ρ hR
      have : j = n := by omega
      subst this
      exact ⟨ρ, rfl, hR⟩
    | succ m ih =>
      intro j hj ρ hR
      obtain ⟨ρ1, ρ2, e1, e2, j2⟩ := h j (by omega) ρ hR
      obtain ⟨ρ', e3, j3⟩ := ih (j + 1) (by omega) ρ2 j2
      refine ⟨ρ', ?_, j3⟩
      rw [List.range'_succ, List.map_cons]
      unfold forL
      rw [frc_eq, nrmR_eq, e1]
      simp only [e2, Rz.bind]
      exact e3
  unfold rgD
  rw [List.range_eq_range']
  exact key n 0 (by omega) ρ h0
/-- a comprehension without a test -/
theorem lcL_map {tg : TgD} {fe : FE} {vs : List Nat} {ρ : Rho} (f : D → D) : ∀ (ds acc : List D), (∀ d ∈ ds, ∃ ρ1 ρ2, tg d ρ = some ρ1 ∧ fe ρ1 = .ok (f d, ρ2) ∧ noIo vs ρ2 = true ∧ wipeR vs ρ2 = ρ) → acc.length + ds.length ≤ sizeLine → lcL tg tYesD fe vs ds acc ρ = .ok (acc ++ ds.map f, ρ)
  | [], acc, _, _ => by simp only [lcL, frcL_eq, List.map_nil, List.append_nil]
  | d :: ds, acc, h, hl => by
    obtain ⟨ρ1, ρ2, e1, e2, e3, e4⟩ := h d List.mem_cons_self
    have hl2 : acc.length < sizeLine := by simp at hl; omega
    unfold lcL
    rw [frc_eq, nrmR_eq, e1]
    simp only [tYesD, Rz.bind, if_true, e2]
    rw [if_pos ⟨hl2, e3⟩, e4, lcL_map f ds _ (fun d hd => h d (List.mem_cons_of_mem _ hd)) (by simp at hl ⊢; omega)]
    simp
theorem lc_map {fi : FI} {tg : TgD} {fe : FE} {vs : List Nat} {ρ ρ0 : Rho} {ds : List D} (f : D → D) (h1 : fi ρ = .ok (ds, ρ0)) (hn : noIo vs ρ0 = true) (h : ∀ d ∈ ds, ∃ ρ1 ρ2, tg d (wipeR vs ρ0) = some ρ1 ∧ fe ρ1 = .ok (f d, ρ2) ∧ noIo vs ρ2 = true ∧ wipeR vs ρ2 = wipeR vs ρ0)
    (hr : restR vs ρ0 (wipeR vs ρ0) = ρ0) (hl : ds.length ≤ sizeLine) : oLc fi tg tYesD fe vs ρ = .ok (ds.map f, ρ0) := by
  simp only [oLc, h1, Rz.bind, hn, if_true]
  rw [lcL_map f ds [] h (by simpa using hl)]
  simp only [hr, List.nil_append]
/-- one turn of while -/
theorem whl_step {t : FT} {body : FS} {n : Nat} {ρ ρ1 ρ2 : Rho} (h1 : t ρ = .ok (true, ρ1)) (h2 : body ρ1 = .ok (.nx, ρ2)) : whl t body (n + 1) ρ = whl t body n ρ2 := by
  show nrmR ρ _ = _
  rw [nrmR_eq]
  simp only [h1, Rz.bind, if_true, h2]
theorem whl_end {t : FT} {body : FS} {n : Nat} {ρ ρ1 : Rho} (h1 : t ρ = .ok (false, ρ1)) : whl t body (n + 1) ρ = .ok (.nx, ρ1) := by
  show nrmR ρ _ = _
  rw [nrmR_eq]
  simp only [h1, Rz.bind, Bool.false_eq_true, if_false]
/-! steps of plain laws -/
theorem e2_ok {op : D → D → Option D} {fa fb : FE} {ρ ρ1 ρ2 : Rho} {a b d : D} (h1 : fa ρ = .ok (a, ρ1)) (h2 : fb ρ1 = .ok (b, ρ2)) (h3 : op a b = some d) : e2 op fa fb ρ = .ok (d, ρ2) := by
  simp only [e2, bnd, h1, Rz.bind, h2, ofO, h3, frc_eq]
theorem e1_ok {op : D → Option D} {fa : FE} {ρ ρ1 : Rho} {a d : D} (h1 : fa ρ = .ok (a, ρ1)) (h3 : op a = some d) : e1 op fa ρ = .ok (d, ρ1) := by
  simp only [e1, bnd, h1, Rz.bind, ofO, h3, frc_eq]
theorem eB1_ok {op : List D → Option D} {fa : FE} {ρ ρ1 : Rho} {a d : D} (h1 : fa ρ = .ok (a, ρ1)) (h3 : op [a] = some d) : eB op (aCons fa aNil) ρ = .ok (d, ρ1) := by
  simp only [eB, bndA, aCons, aNil, h1, Rz.bind, ofO, h3, frc_eq]
theorem eB2_ok {op : List D → Option D} {fa fb : FE} {ρ ρ1 ρ2 : Rho} {a b d : D} (h1 : fa ρ = .ok (a, ρ1)) (h2 : fb ρ1 = .ok (b, ρ2)) (h3 : op [a, b] = some d) : eB op (aCons fa (aCons fb aNil)) ρ = .ok (d, ρ2) := by
  simp only [eB, bndA, aCons, aNil, h1, h2, Rz.bind, ofO, h3, frc_eq]
theorem eV_ok {ρ : Rho} {i : Nat} {d : D} (h : ρ[i]? = some (some (.dat d))) : eV i ρ = .ok (d, ρ) := by simp only [eV, h]
theorem eC_ok {ρ : Rho} {d : D} : eC d ρ = .ok (d, ρ) := rfl
theorem fz_ok {f : FA} {ρ ρ1 : Rho} {ds : List D} (h : f ρ = .ok (ds, ρ1)) : eFz f ρ = .ok (.lst ds, ρ1) := by simp only [eFz, h, Rz.bind]
theorem set_ok {fe : FE} {ρ ρ1 : Rho} {i : Nat} {d : D} (h : fe ρ = .ok (d, ρ1)) (hi : isIo ρ1 i = false) : sSet i fe ρ = .ok (.nx, ρ1.set i (some (.dat d))) := by
  simp [sSet, bndS, h, Rz.bind, hi]
theorem tB_ok {f : FE} {ρ ρ1 : Rho} {b : Bool} (h : f ρ = .ok (.bl b, ρ1)) : M.tB f ρ = .ok (b, ρ1) := by simp only [M.tB, bnd_T, h, Rz.bind]
end M

namespace Lk
open PySem PySem.Spec PyProof.Rows L2 M
def topS (i : Nat) : Stmt := PySem.Challenge.pw_fewnames_k35_binomials_told.main.body.getD i (.Pass ⟨0, 0, 0, 0⟩)
abbrev s__law_dish : Stmt := topS 24
abbrev s__law_allowed : Stmt := topS 33
abbrev s__law_pascal : Stmt := topS 27
abbrev s__law_binom : Stmt := topS 28
abbrev s__law_double : Stmt := topS 29
abbrev s__law_gcd : Stmt := topS 31
abbrev s__law_spoon : Stmt := topS 25
abbrev s__law_pick_of : Stmt := topS 26
abbrev s__law_prime_of : Stmt := topS 32
abbrev s__law_some_of : Stmt := topS 30
abbrev s_allowed_in : Stmt := topS 20
abbrev s_is_integer : Stmt := topS 6
abbrev s_is_between : Stmt := topS 7
abbrev s_require_number : Stmt := topS 8
abbrev s_require_both : Stmt := topS 21
abbrev s_allowed_marks : Stmt := topS 22
abbrev s_choose : Stmt := topS 12
abbrev s_binomial : Stmt := topS 13
abbrev s_factor_of : Stmt := topS 14
abbrev s_common_in : Stmt := topS 15
abbrev s_are_numbers : Stmt := topS 16
abbrev s_require_numbers : Stmt := topS 17
abbrev s_common_factor : Stmt := topS 18
abbrev s_prime_base : Stmt := topS 19
abbrev s__law_right : Stmt := topS 34
abbrev s_law : Stmt := topS 35
theorem sc__law_dish : FnScope ["script", "at", "cell", "great", "seed"] ["script", "at"] (defScope s__law_dish) := ⟨rfl, rfl, rfl, by decide +kernel, rfl, by decide +kernel, by decide +kernel⟩
theorem sc__law_allowed : FnScope ["size", "names", "group"] ["size", "names", "group"] (defScope s__law_allowed) := ⟨rfl, rfl, rfl, by decide +kernel, rfl, by decide +kernel, by decide +kernel⟩
theorem sc__law_pascal : FnScope ["top", "row", "turn", "at"] ["top"] (defScope s__law_pascal) := ⟨rfl, rfl, rfl, by decide +kernel, rfl, by decide +kernel, by decide +kernel⟩
theorem sc__law_binom : FnScope ["top", "low", "row"] ["top", "low"] (defScope s__law_binom) := ⟨rfl, rfl, rfl, by decide +kernel, rfl, by decide +kernel, by decide +kernel⟩
theorem sc__law_double : FnScope ["size", "found", "turn"] ["size"] (defScope s__law_double) := ⟨rfl, rfl, rfl, by decide +kernel, rfl, by decide +kernel, by decide +kernel⟩
theorem sc__law_gcd : FnScope ["numbers", "found", "number", "one", "other"] ["numbers"] (defScope s__law_gcd) := ⟨rfl, rfl, rfl, by decide +kernel, rfl, by decide +kernel, by decide +kernel⟩
theorem sc__law_spoon : FnScope ["dish", "total", "one", "two", "three", "found"] ["dish", "total"] (defScope s__law_spoon) := ⟨rfl, rfl, rfl, by decide +kernel, rfl, by decide +kernel, by decide +kernel⟩
theorem sc__law_pick_of : FnScope ["dish", "items"] ["dish", "items"] (defScope s__law_pick_of) := ⟨rfl, rfl, rfl, by decide +kernel, rfl, by decide +kernel, by decide +kernel⟩
theorem sc__law_prime_of : FnScope ["size", "least", "number"] ["size"] (defScope s__law_prime_of) := ⟨rfl, rfl, rfl, by decide +kernel, rfl, by decide +kernel, by decide +kernel⟩
theorem sc__law_some_of : FnScope ["dish", "items", "count", "turn", "left", "found"] ["dish", "items", "count"] (defScope s__law_some_of) := ⟨rfl, rfl, rfl, by decide +kernel, rfl, by decide +kernel, by decide +kernel⟩
theorem sc_allowed_in : FnScope ["size", "names", "group_size"] ["size", "names", "group_size"] (defScope s_allowed_in) := ⟨rfl, rfl, rfl, by decide +kernel, rfl, by decide +kernel, by decide +kernel⟩
theorem sc_is_integer : FnScope ["value"] ["value"] (defScope s_is_integer) := ⟨rfl, rfl, rfl, by decide +kernel, rfl, by decide +kernel, by decide +kernel⟩
theorem sc_is_between : FnScope ["value", "low", "high"] ["value", "low", "high"] (defScope s_is_between) := ⟨rfl, rfl, rfl, by decide +kernel, rfl, by decide +kernel, by decide +kernel⟩
theorem sc_require_number : FnScope ["value", "low", "high"] ["value", "low", "high"] (defScope s_require_number) := ⟨rfl, rfl, rfl, by decide +kernel, rfl, by decide +kernel, by decide +kernel⟩
theorem sc_require_both : FnScope ["size", "names"] ["size", "names"] (defScope s_require_both) := ⟨rfl, rfl, rfl, by decide +kernel, rfl, by decide +kernel, by decide +kernel⟩
theorem sc_allowed_marks : FnScope ["size", "names", "group_size"] ["size", "names", "group_size"] (defScope s_allowed_marks) := ⟨rfl, rfl, rfl, by decide +kernel, rfl, by decide +kernel, by decide +kernel⟩
theorem sc_choose : FnScope ["top", "low", "found", "step"] ["top", "low"] (defScope s_choose) := ⟨rfl, rfl, rfl, by decide +kernel, rfl, by decide +kernel, by decide +kernel⟩
theorem sc_binomial : FnScope ["top", "low"] ["top", "low"] (defScope s_binomial) := ⟨rfl, rfl, rfl, by decide +kernel, rfl, by decide +kernel, by decide +kernel⟩
theorem sc_factor_of : FnScope ["one", "other"] ["one", "other"] (defScope s_factor_of) := ⟨rfl, rfl, rfl, by decide +kernel, rfl, by decide +kernel, by decide +kernel⟩
theorem sc_common_in : FnScope ["size", "numbers", "found", "low"] ["size", "numbers"] (defScope s_common_in) := ⟨rfl, rfl, rfl, by decide +kernel, rfl, by decide +kernel, by decide +kernel⟩
theorem sc_are_numbers : FnScope ["size", "value", "low"] ["size", "value"] (defScope s_are_numbers) := ⟨rfl, rfl, rfl, by decide +kernel, rfl, by decide +kernel, by decide +kernel⟩
theorem sc_require_numbers : FnScope ["size", "value"] ["size", "value"] (defScope s_require_numbers) := ⟨rfl, rfl, rfl, by decide +kernel, rfl, by decide +kernel, by decide +kernel⟩
theorem sc_common_factor : FnScope ["size", "numbers"] ["size", "numbers"] (defScope s_common_factor) := ⟨rfl, rfl, rfl, by decide +kernel, rfl, by decide +kernel, by decide +kernel⟩
theorem sc_prime_base : FnScope ["size", "base", "left", "number"] ["size"] (defScope s_prime_base) := ⟨rfl, rfl, rfl, by decide +kernel, rfl, by decide +kernel, by decide +kernel⟩
theorem sc__law_right : FnScope ["dish", "size", "numbers", "due", "group", "low", "names", "k"] ["dish"] (defScope s__law_right) := ⟨rfl, rfl, rfl, by decide +kernel, rfl, by decide +kernel, by decide +kernel⟩
theorem sc_law : FnScope ["script", "at", "told", "dish", "turn", "size"] ["script"] (defScope s_law) := ⟨rfl, rfl, rfl, by decide +kernel, rfl, by decide +kernel, by decide +kernel⟩
/-! ### what the defs compute -/
def g__law_dish (n : Nat) : FS := (sSeq (sSet 2 (eIf (M.tB (e2 ltD (eV 1) (eB lenD (aCons (eV 0) aNil)))) (e2 ixD (eV 0) (eV 1)) (e2 addD (e2 mulD (eC (.int 89)) (eV 1)) (eC (.int 31)))))
  (sSeq (sSet 3 (e2 modD (eB intD (aCons (eB absD (aCons (eV 2) aNil)) aNil)) (e2 powD (e2 powD (eC (.int 10)) (eC (.int 60))) (eC (.int 9)))))
  (sSeq (sSet 4 (e2 modD (eB intD (aCons (e2 addD (e2 addD (e2 addD (e2 mulD (eV 3) (eC (.int 3))) (e2 mulD (eC (.int 10007)) (eV 1))) (eB intD (aCons (e2 ltD (eV 2) (eC (.int 0))) aNil))) (eC (.int 40487))) aNil)) (e2 addD (e2 powD (eC (.int 10)) (eC (.int 18))) (eC (.int 3)))))
  (sRetO (oLst (aCons (eIf (M.tB (e2 gtD (eV 3) (e2 powD (eC (.int 10)) (eC (.int 18))))) (e2 subD (eV 3) (e2 powD (eC (.int 10)) (eC (.int 18)))) (eC (.int 0))) (aCons (eV 4) (aCons (eC (.int 0)) aNil))))))))
def F__law_dish : FD := fun n as => runB (g__law_dish n) (["script", "at", "cell", "great", "seed"] : List Str).length (["script", "at"] : List Str).length as
def g__law_allowed (n : Nat) : FS := (sRet (eRgL (aCons (eB maxD (aCons (eC (.int 0)) (aCons (e2 addD (e2 subD (eV 0) (eV 1)) (eV 2)) aNil))) (aCons (e2 addD (eB minD (aCons (eV 0) (aCons (eV 2) aNil))) (eC (.int 1))) aNil))))
def F__law_allowed : FD := fun n as => runB (g__law_allowed n) (["size", "names", "group"] : List Str).length (["size", "names", "group"] : List Str).length as
def g__law_pascal (n : Nat) : FS := (sSeq (sSet 1 (eLst (aCons (eC (.int 1)) aNil)))
  (sSeq (sFor (iRg rg1 (aCons (eV 0) aNil)) (tName 2) (sSet 1 (e2 addD (e2 addD (eLst (aCons (eC (.int 1)) aNil)) (eFz (oLc (iRg rg1 (aCons (e2 subD (eB lenD (aCons (eV 1) aNil)) (eC (.int 1))) aNil)) (tName 3) tYesD (e2 addD (e2 ixD (eV 1) (eV 3)) (e2 ixD (eV 1) (e2 addD (eV 3) (eC (.int 1))))) [3]))) (eLst (aCons (eC (.int 1)) aNil)))))
  (sRet (eV 1))))
def F__law_pascal : FD := fun n as => runB (g__law_pascal n) (["top", "row", "turn", "at"] : List Str).length (["top"] : List Str).length as
def g__law_binom (n : Nat) : FS := (sSeq (sSet 2 (eCall F__law_pascal n (rCons (eV 0) rNil)))
  (sRet (eIf (M.tB (eInRg (eV 1) (aCons (e2 addD (eV 0) (eC (.int 1))) aNil))) (e2 ixD (eV 2) (eV 1)) (eC (.int 0)))))
def F__law_binom : FD := fun n as => runB (g__law_binom n) (["top", "low", "row"] : List Str).length (["top", "low"] : List Str).length as
def g__law_double (n : Nat) : FS := (sSeq (sSet 1 (eC (.int 1)))
  (sSeq (sFor (iRg rg1 (aCons (eV 0) aNil)) (tName 2) (sSet 1 (e2 mulD (eV 1) (eC (.int 2)))))
  (sRet (eV 1))))
def F__law_double : FD := fun n as => runB (g__law_double n) (["size", "found", "turn"] : List Str).length (["size"] : List Str).length as
def g__law_gcd (n : Nat) : FS := (sSeq (sSet 1 (eC (.int 0)))
  (sSeq (sFor (iSeq (eV 0)) (tName 2) (sSeq (sPar 3 4 (aCons (eV 1) (aCons (eV 2) aNil)))
  (sSeq (whl (M.tB (e2 gtD (eV 4) (eC (.int 0)))) (sPar 3 4 (aCons (eV 4) (aCons (e2 modD (eV 3) (eV 4)) aNil))) n)
  (sSet 1 (eV 3)))))
  (sRet (eV 1))))
def F__law_gcd : FD := fun n as => runB (g__law_gcd n) (["numbers", "found", "number", "one", "other"] : List Str).length (["numbers"] : List Str).length as
def g__law_spoon (n : Nat) : FS := (sSeq (sIf (M.tB (e2 gtD (eIxO 0 (eC (.int 0))) (eC (.int 0)))) (sSeq (sSet 5 (e2 modD (eB intD (aCons (eIxO 0 (eC (.int 0))) aNil)) (eV 1)))
  (sSeq (sItO 0 (e2 fdivD (eIxO 0 (eC (.int 0))) (eV 1)) (eC (.int 0)))
  (sRet (eV 5)))) sNx)
  (sSeq (sItO 0 (e2 addD (eIxO 0 (eC (.int 2))) (eC (.int 1))) (eC (.int 2)))
  (sSeq (sSet 2 (e2 modD (eB intD (aCons (e2 addD (eIxO 0 (eC (.int 1))) (e2 mulD (eC (.int 32452843)) (eIxO 0 (eC (.int 2))))) aNil)) (eC (.int 1000000087))))
  (sSeq (sSet 3 (e2 modD (eB intD (aCons (e2 addD (e2 addD (e2 mulD (eV 2) (eV 2)) (e2 fdivD (eIxO 0 (eC (.int 1))) (eC (.int 1000003)))) (e2 mulD (eC (.int 6151)) (eIxO 0 (eC (.int 2))))) aNil)) (eC (.int 998244353))))
  (sSeq (sSet 4 (e2 modD (eB intD (aCons (e2 addD (e2 mulD (eV 3) (eV 3)) (eV 2)) aNil)) (eC (.int 1000000093))))
  (sRet (e2 modD (eB intD (aCons (e2 fdivD (eV 4) (eC (.int 128))) aNil)) (eV 1))))))))
def F__law_spoon : FD := fun n as => runB (g__law_spoon n) (["dish", "total", "one", "two", "three", "found"] : List Str).length (["dish", "total"] : List Str).length as
def g__law_pick_of (n : Nat) : FS := (sRet (e2 ixD (eV 1) (eCall F__law_spoon n (rOwn 0 (rCons (eB lenD (aCons (eV 1) aNil)) rNil)))))
def F__law_pick_of : FD := fun n as => runB (g__law_pick_of n) (["dish", "items"] : List Str).length (["dish", "items"] : List Str).length as
def g__law_prime_of (n : Nat) : FS := (sSeq (sIf (M.tB (e2 ltD (eV 0) (eC (.int 2)))) (sRet (eC .non)) sNx)
  (sSeq (sSet 1 (e2 ixD (eFz (oLc (iRg rg2 (aCons (eC (.int 2)) (aCons (e2 addD (eV 0) (eC (.int 1))) aNil))) (tName 2) (M.tB (e2 eqS (e2 modD (eV 0) (eV 2)) (eC (.int 0)))) (eV 2) [2])) (eC (.int 0))))
  (sSeq (whl (M.tB (e2 eqS (e2 modD (eV 0) (eV 1)) (eC (.int 0)))) (sSet 0 (e2 fdivD (eV 0) (eV 1))) n)
  (sRet (eIf (M.tB (e2 eqS (eV 0) (eC (.int 1)))) (eV 1) (eC .non))))))
def F__law_prime_of : FD := fun n as => runB (g__law_prime_of n) (["size", "least", "number"] : List Str).length (["size"] : List Str).length as
def g__law_some_of (n : Nat) : FS := (sSeq (sParV 4 5 (vO (oLstOf (eV 1))) (vO (oLst aNil)))
  (sSeq (sFor (iRg rg1 (aCons (eB minD (aCons (eV 2) (aCons (eB lenD (aCons (eV 1) aNil)) aNil))) aNil)) (tName 3) (sApp 5 (ePopO 4 (eCall F__law_spoon n (rOwn 0 (rCons (eLenO 4) rNil))))))
  (sRet (eFrz 5))))
def F__law_some_of : FD := fun n as => runB (g__law_some_of n) (["dish", "items", "count", "turn", "left", "found"] : List Str).length (["dish", "items", "count"] : List Str).length as
def g_allowed_in (n : Nat) : FS := (sRet (eRgT (aCons (eB maxD (aCons (eC (.int 0)) (aCons (e2 addD (e2 subD (eV 0) (eV 1)) (eV 2)) aNil))) (aCons (e2 addD (eB minD (aCons (eV 0) (aCons (eV 2) aNil))) (eC (.int 1))) aNil))))
def F_allowed_in : FD := fun n as => runB (g_allowed_in n) (["size", "names", "group_size"] : List Str).length (["size", "names", "group_size"] : List Str).length as
def g_is_integer (n : Nat) : FS := (sRet (eAnd (eB isiD (aCons (eV 0) (aCons (eC (.con (.ty "int"))) aNil))) (eAnd (eNot (eB isiD (aCons (eV 0) (aCons (eC (.con (.ty "bool"))) aNil)))) (eCh ltD ltD (e1 negD (eC (.int 1000000000000000000000000000000000000000000000000000000000000))) (eV 0) (eC (.int 1000000000000000000000000000000000000000000000000000000000000))))))
def F_is_integer : FD := fun n as => runB (g_is_integer n) (["value"] : List Str).length (["value"] : List Str).length as
def g_is_between (n : Nat) : FS := (sRet (eAnd (eCall F_is_integer n (rCons (eV 0) rNil)) (eCh leD leD (eV 1) (eV 0) (eV 2))))
def F_is_between : FD := fun n as => runB (g_is_between n) (["value", "low", "high"] : List Str).length (["value", "low", "high"] : List Str).length as
def g_require_number (n : Nat) : FS := (sIf (tNotD (tTr (eCall F_is_between n (rCons (eV 0) (rCons (eV 1) (rCons (eV 2) rNil)))))) sNo sNx)
def F_require_number : FD := fun n as => runB (g_require_number n) (["value", "low", "high"] : List Str).length (["value", "low", "high"] : List Str).length as
def g_require_both (n : Nat) : FS := (sSeq (sDrop (eCall F_require_number n (rCons (eV 0) (rCons (eC (.int 1)) (rCons (eC (.int 60)) rNil)))))
  (sDrop (eCall F_require_number n (rCons (eV 1) (rCons (eC (.int 1)) (rCons (eC (.int 200)) rNil))))))
def F_require_both : FD := fun n as => runB (g_require_both n) (["size", "names"] : List Str).length (["size", "names"] : List Str).length as
def g_allowed_marks (n : Nat) : FS := (sSeq (sDrop (eCall F_require_both n (rCons (eV 0) (rCons (eV 1) rNil))))
  (sSeq (sDrop (eCall F_require_number n (rCons (eV 2) (rCons (eC (.int 0)) (rCons (eV 1) rNil)))))
  (sRet (eCall F_allowed_in n (rCons (eV 0) (rCons (eV 1) (rCons (eV 2) rNil)))))))
def F_allowed_marks : FD := fun n as => runB (g_allowed_marks n) (["size", "names", "group_size"] : List Str).length (["size", "names", "group_size"] : List Str).length as
def g_choose (n : Nat) : FS := (sSeq (sSet 2 (eC (.int 1)))
  (sSeq (sFor (iRg rg1 (aCons (eV 1) aNil)) (tName 3) (sSet 2 (e2 fdivD (e2 mulD (eV 2) (e2 subD (eV 0) (eV 3))) (e2 addD (eV 3) (eC (.int 1))))))
  (sRet (eV 2))))
def F_choose : FD := fun n as => runB (g_choose n) (["top", "low", "found", "step"] : List Str).length (["top", "low"] : List Str).length as
def g_binomial (n : Nat) : FS := (sSeq (sDrop (eCall F_require_number n (rCons (eV 0) (rCons (eC (.int 0)) (rCons (eC (.int 60)) rNil)))))
  (sSeq (sDrop (eCall F_require_number n (rCons (eV 1) (rCons (eC (.int 0)) (rCons (eV 0) rNil)))))
  (sRet (eCall F_choose n (rCons (eV 0) (rCons (eV 1) rNil))))))
def F_binomial : FD := fun n as => runB (g_binomial n) (["top", "low"] : List Str).length (["top", "low"] : List Str).length as
def g_factor_of (n : Nat) : FS := (sSeq (whl (M.tB (e2 gtD (eV 1) (eC (.int 0)))) (sPar 0 1 (aCons (eV 1) (aCons (e2 modD (eV 0) (eV 1)) aNil))) n)
  (sRet (eV 0)))
def F_factor_of : FD := fun n as => runB (g_factor_of n) (["one", "other"] : List Str).length (["one", "other"] : List Str).length as
def g_common_in (n : Nat) : FS := (sSeq (sSet 2 (eC (.int 0)))
  (sSeq (sFor (iSeq (eV 1)) (tName 3) (sSet 2 (eCall F_factor_of n (rCons (eCall F_choose n (rCons (eV 0) (rCons (eV 3) rNil))) (rCons (eV 2) rNil)))))
  (sRet (eV 2))))
def F_common_in : FD := fun n as => runB (g_common_in n) (["size", "numbers", "found", "low"] : List Str).length (["size", "numbers"] : List Str).length as
def g_are_numbers (n : Nat) : FS := (sSeq (sIf (tOrD (tNotD (tTr (eB isiD (aCons (eV 1) (aCons (eC (.con (.ty "tuple"))) aNil))))) (tNotD (tTr (eB allD (aCons (eFz (oLc (iSeq (eV 1)) (tName 2) tYesD (eCall F_is_between n (rCons (eV 2) (rCons (eC (.int 0)) (rCons (eV 0) rNil)))) [2])) aNil))))) (sRet (eC (.bl false))) sNx)
  (sRet (e2 eqS (eB lstD (aCons (eV 1) aNil)) (e1 sortSetD (eV 1)))))
def F_are_numbers : FD := fun n as => runB (g_are_numbers n) (["size", "value", "low"] : List Str).length (["size", "value"] : List Str).length as
def g_require_numbers (n : Nat) : FS := (sIf (tNotD (tTr (eCall F_are_numbers n (rCons (eV 0) (rCons (eV 1) rNil))))) sNo sNx)
def F_require_numbers : FD := fun n as => runB (g_require_numbers n) (["size", "value"] : List Str).length (["size", "value"] : List Str).length as
def g_common_factor (n : Nat) : FS := (sSeq (sDrop (eCall F_require_number n (rCons (eV 0) (rCons (eC (.int 1)) (rCons (eC (.int 60)) rNil)))))
  (sSeq (sDrop (eCall F_require_numbers n (rCons (eV 0) (rCons (eV 1) rNil))))
  (sSeq (sIf (M.tB (e2 eqS (eV 1) (eTup aNil))) sNo sNx)
  (sRet (eCall F_common_in n (rCons (eV 0) (rCons (eV 1) rNil)))))))
def F_common_factor : FD := fun n as => runB (g_common_factor n) (["size", "numbers"] : List Str).length (["size", "numbers"] : List Str).length as
def g_prime_base (n : Nat) : FS := (sSeq (sDrop (eCall F_require_number n (rCons (eV 0) (rCons (eC (.int 1)) (rCons (eC (.int 60)) rNil)))))
  (sSeq (sSet 1 (eNext (iRg rg2 (aCons (eC (.int 2)) (aCons (e2 addD (eV 0) (eC (.int 1))) aNil))) (tName 3) (M.tB (e2 eqS (e2 modD (eV 0) (eV 3)) (eC (.int 0)))) (eV 3) .non [3]))
  (sSeq (sIf (M.tB (e2 isND (eV 1) (eC .non))) (sRet (eC .non)) sNx)
  (sSeq (sSet 2 (eV 0))
  (sSeq (whl (M.tB (e2 eqS (e2 modD (eV 2) (eV 1)) (eC (.int 0)))) (sAug 2 fdivD (eV 1)) n)
  (sRet (eIf (M.tB (e2 eqS (eV 2) (eC (.int 1)))) (eV 1) (eC .non))))))))
def F_prime_base : FD := fun n as => runB (g_prime_base n) (["size", "base", "left", "number"] : List Str).length (["size"] : List Str).length as
def g__law_right (n : Nat) : FS := (sSeq (sSet 1 (e2 addD (eC (.int 1)) (eCall F__law_spoon n (rOwn 0 (rCons (eCall F__law_pick_of n (rOwn 0 (rCons (eLst (aCons (eC (.int 8)) (aCons (eC (.int 20)) (aCons (eC (.int 60)) aNil)))) rNil))) rNil)))))
  (sSeq (sPar 5 6 (aCons (eCall F__law_spoon n (rOwn 0 (rCons (e2 addD (eV 1) (eC (.int 1))) rNil))) (aCons (e2 addD (eC (.int 1)) (eCall F__law_spoon n (rOwn 0 (rCons (eCall F__law_pick_of n (rOwn 0 (rCons (eLst (aCons (eC (.int 12)) (aCons (eC (.int 60)) (aCons (eC (.int 200)) aNil)))) rNil))) rNil)))) aNil)))
  (sSeq (sIf (tOrD (M.tB (e2 neS (eCall F_binomial n (rCons (eV 1) (rCons (eV 5) rNil))) (eCall F__law_binom n (rCons (eV 1) (rCons (eV 5) rNil))))) (M.tB (e2 neS (eCall F_binomial n (rCons (eV 1) (rCons (e2 subD (eV 1) (eV 5)) rNil))) (eCall F_binomial n (rCons (eV 1) (rCons (eV 5) rNil)))))) (sRet (eC (.bl false))) sNx)
  (sSeq (sIf (tOrD (M.tB (e2 neS (eCall F_binomial n (rCons (e2 subD (eV 1) (eC (.int 1))) (rCons (eC (.int 0)) rNil))) (eC (.int 1)))) (M.tB (e2 neS (eB sumD (aCons (eFz (oLc (iRg rg1 (aCons (e2 addD (eV 1) (eC (.int 1))) aNil)) (tName 7) tYesD (eCall F_binomial n (rCons (eV 1) (rCons (eV 7) rNil))) [7])) aNil)) (e2 mulD (eC (.int 2)) (eCall F__law_double n (rCons (e2 subD (eV 1) (eC (.int 1))) rNil)))))) (sRet (eC (.bl false))) sNx)
  (sSeq (sSet 2 (e1 tupD (eB sortedD (aCons (eCall F__law_some_of n (rOwn 0 (rCons (eRgL (aCons (e2 addD (eV 1) (eC (.int 1))) aNil)) (rCons (e2 addD (eC (.int 1)) (eCall F__law_spoon n (rOwn 0 (rCons (eC (.int 5)) rNil)))) rNil)))) aNil))))
  (sSeq (sSet 3 (eCall F__law_gcd n (rCons (eFz (oLc (iSeq (eV 2)) (tName 7) tYesD (eCall F__law_binom n (rCons (eV 1) (rCons (eV 7) rNil))) [7])) rNil)))
  (sSeq (sIf (tOrD (M.tB (e2 neS (eB reprD (aCons (eCall F_common_factor n (rCons (eV 1) (rCons (eV 2) rNil))) aNil)) (eB reprD (aCons (eV 3) aNil)))) (M.tB (e2 neS (eCall F_prime_base n (rCons (eV 1) rNil)) (eCall F__law_prime_of n (rCons (eV 1) rNil))))) (sRet (eC (.bl false))) sNx)
  (sSeq (sSet 4 (eCall F__law_spoon n (rOwn 0 (rCons (e2 addD (eV 6) (eC (.int 1))) rNil))))
  (sRet (e2 eqS (eB reprD (aCons (eCall F_allowed_marks n (rCons (eV 1) (rCons (eV 6) (rCons (eV 4) rNil)))) aNil)) (eB reprD (aCons (e1 tupD (eCall F__law_allowed n (rCons (eV 1) (rCons (eV 6) (rCons (eV 4) rNil))))) aNil))))))))))))
def F__law_right : FD := fun n as => runB (g__law_right n) (["dish", "size", "numbers", "due", "group", "low", "names", "k"] : List Str).length (["dish"] : List Str).length as
def g_law (n : Nat) : FS := (sSeq (sFor (iRg rg1 (aCons (eB maxD (aCons (eC (.int 1)) (aCons (eB minD (aCons (eC (.int 5)) (aCons (eB lenD (aCons (eV 0) aNil)) aNil))) aNil))) aNil)) (tName 1) (sSeq (sOwn 3 (oCall F__law_dish n (rCons (eV 0) (rCons (eV 1) rNil))))
  (sFor (iRg rg1 (aCons (eC (.int 6)) aNil)) (tName 4) (sIf (tNotD (tTr (eCall F__law_right n (rOwn 3 rNil)))) (sRet (eC (.bl false))) sNx))))
  (sSeq (sOwn 2 (oLst (aCons (eCall F_binomial n (rCons (eC (.int 6)) (rCons (eC (.int 2)) rNil))) (aCons (eCall F_common_factor n (rCons (eC (.int 6)) (rCons (eTup (aCons (eC (.int 2)) (aCons (eC (.int 3)) (aCons (eC (.int 4)) aNil)))) rNil))) (aCons (eCall F_common_factor n (rCons (eC (.int 4)) (rCons (eTup (aCons (eC (.int 1)) (aCons (eC (.int 2)) (aCons (eC (.int 3)) aNil)))) rNil))) (aCons (eCall F_prime_base n (rCons (eC (.int 9)) rNil)) (aCons (eCall F_prime_base n (rCons (eC (.int 6)) rNil)) aNil)))))))
  (sSeq (sOwn 2 (oCat 2 (aCons (eCall F_allowed_marks n (rCons (eC (.int 6)) (rCons (eC (.int 8)) (rCons (eC (.int 4)) rNil)))) (aCons (eCall F_allowed_marks n (rCons (eC (.int 3)) (rCons (eC (.int 2)) (rCons (eC (.int 1)) rNil)))) (aCons (eCall F_allowed_marks n (rCons (eC (.int 2)) (rCons (eC (.int 5)) (rCons (eC (.int 1)) rNil)))) (aCons (eCall F_binomial n (rCons (eC (.int 0)) (rCons (eC (.int 0)) rNil))) aNil))))))
  (sSeq (sApp 2 (eCall F_prime_base n (rCons (eC (.int 1)) rNil)))
  (sSeq (sIf (tOrD (M.tB (e2 neS (eFrz 2) (eLst (aCons (eC (.int 15)) (aCons (eC (.int 5)) (aCons (eC (.int 2)) (aCons (eC (.int 3)) (aCons (eC .non) (aCons (eTup (aCons (eC (.int 2)) (aCons (eC (.int 3)) (aCons (eC (.int 4)) aNil)))) (aCons (eTup aNil) (aCons (eTup (aCons (eC (.int 0)) (aCons (eC (.int 1)) aNil))) (aCons (eC (.int 1)) (aCons (eC .non) aNil))))))))))))) (M.tB (e2 neS (eLst (aCons (eC (.int 60)) (aCons (eC (.int 200)) aNil))) (eLst (aCons (eC (.int 60)) (aCons (eC (.int 200)) aNil)))))) (sRet (eC (.bl false))) sNx)
  (sSeq (sOwn 2 (oLc (iSeq (eTup (aCons (eC (.int 2)) (aCons (eC (.int 8)) (aCons (eC (.int 49)) (aCons (eC (.int 60)) (aCons (eC (.int 59)) aNil))))))) (tName 5) tYesD (eCall F_prime_base n (rCons (eV 5) rNil)) [5]))
  (sRet (eAnd (e2 eqS (eCall F_binomial n (rCons (eC (.int 60)) (rCons (eC (.int 30)) rNil))) (eC (.int 118264581564861424))) (e2 eqS (eFrz 2) (eLst (aCons (eC (.int 2)) (aCons (eC (.int 2)) (aCons (eC (.int 7)) (aCons (eC .non) (aCons (eC (.int 59)) aNil)))))))))))))))
def F_law : FD := fun n as => runB (g_law n) (["script", "at", "told", "dish", "turn", "size"] : List Str).length (["script"] : List Str).length as
/-! ### what the top has made -/
structure Fx [Tabs] (K : PySem.W.Frag) (mg : Str → Option Value) (base : Heap) : Prop where
  fc__law_dish : ∃ fd, FunC K "_law_dish" "_law_dish" s__law_dish (He.ga K "_law_dish") fd (.ref (He.codeOf K ("_law_dish", none)))
  m__law_dish : mg "_law_dish" = some (.ref (He.ga K "_law_dish"))
  fc__law_allowed : ∃ fd, FunC K "_law_allowed" "_law_allowed" s__law_allowed (He.ga K "_law_allowed") fd (.ref (He.codeOf K ("_law_allowed", none)))
  m__law_allowed : mg "_law_allowed" = some (.ref (He.ga K "_law_allowed"))
  fc__law_pascal : ∃ fd, FunC K "_law_pascal" "_law_pascal" s__law_pascal (He.ga K "_law_pascal") fd (.ref (He.codeOf K ("_law_pascal", none)))
  m__law_pascal : mg "_law_pascal" = some (.ref (He.ga K "_law_pascal"))
  fc__law_binom : ∃ fd, FunC K "_law_binom" "_law_binom" s__law_binom (He.ga K "_law_binom") fd (.ref (He.codeOf K ("_law_binom", none)))
  m__law_binom : mg "_law_binom" = some (.ref (He.ga K "_law_binom"))
  fc__law_double : ∃ fd, FunC K "_law_double" "_law_double" s__law_double (He.ga K "_law_double") fd (.ref (He.codeOf K ("_law_double", none)))
  m__law_double : mg "_law_double" = some (.ref (He.ga K "_law_double"))
  fc__law_gcd : ∃ fd, FunC K "_law_gcd" "_law_gcd" s__law_gcd (He.ga K "_law_gcd") fd (.ref (He.codeOf K ("_law_gcd", none)))
  m__law_gcd : mg "_law_gcd" = some (.ref (He.ga K "_law_gcd"))
  fc__law_spoon : ∃ fd, FunC K "_law_spoon" "_law_spoon" s__law_spoon (He.ga K "_law_spoon") fd (.ref (He.codeOf K ("_law_spoon", none)))
  m__law_spoon : mg "_law_spoon" = some (.ref (He.ga K "_law_spoon"))
  fc__law_pick_of : ∃ fd, FunC K "_law_pick_of" "_law_pick_of" s__law_pick_of (He.ga K "_law_pick_of") fd (.ref (He.codeOf K ("_law_pick_of", none)))
  m__law_pick_of : mg "_law_pick_of" = some (.ref (He.ga K "_law_pick_of"))
  fc__law_prime_of : ∃ fd, FunC K "_law_prime_of" "_law_prime_of" s__law_prime_of (He.ga K "_law_prime_of") fd (.ref (He.codeOf K ("_law_prime_of", none)))
  m__law_prime_of : mg "_law_prime_of" = some (.ref (He.ga K "_law_prime_of"))
  fc__law_some_of : ∃ fd, FunC K "_law_some_of" "_law_some_of" s__law_some_of (He.ga K "_law_some_of") fd (.ref (He.codeOf K ("_law_some_of", none)))
  m__law_some_of : mg "_law_some_of" = some (.ref (He.ga K "_law_some_of"))
  fc_allowed_in : ∃ fd, FunC K "allowed_in" "allowed_in" s_allowed_in (He.ga K "allowed_in") fd (.ref (He.codeOf K ("allowed_in", none)))
  m_allowed_in : mg "allowed_in" = some (.ref (He.ga K "allowed_in"))
  fc_is_integer : ∃ fd, FunC K "is_integer" "is_integer" s_is_integer (He.ga K "is_integer") fd (.ref (He.codeOf K ("is_integer", none)))
  m_is_integer : mg "is_integer" = some (.ref (He.ga K "is_integer"))
  fc_is_between : ∃ fd, FunC K "is_between" "is_between" s_is_between (He.ga K "is_between") fd (.ref (He.codeOf K ("is_between", none)))
  m_is_between : mg "is_between" = some (.ref (He.ga K "is_between"))
  fc_require_number : ∃ fd, FunC K "require_number" "require_number" s_require_number (He.ga K "require_number") fd (.ref (He.codeOf K ("require_number", none)))
  m_require_number : mg "require_number" = some (.ref (He.ga K "require_number"))
  fc_require_both : ∃ fd, FunC K "require_both" "require_both" s_require_both (He.ga K "require_both") fd (.ref (He.codeOf K ("require_both", none)))
  m_require_both : mg "require_both" = some (.ref (He.ga K "require_both"))
  fc_allowed_marks : ∃ fd, FunC K "allowed_marks" "allowed_marks" s_allowed_marks (He.ga K "allowed_marks") fd (.ref (He.codeOf K ("allowed_marks", none)))
  m_allowed_marks : mg "allowed_marks" = some (.ref (He.ga K "allowed_marks"))
  fc_choose : ∃ fd, FunC K "choose" "choose" s_choose (He.ga K "choose") fd (.ref (He.codeOf K ("choose", none)))
  m_choose : mg "choose" = some (.ref (He.ga K "choose"))
  fc_binomial : ∃ fd, FunC K "binomial" "binomial" s_binomial (He.ga K "binomial") fd (.ref (He.codeOf K ("binomial", none)))
  m_binomial : mg "binomial" = some (.ref (He.ga K "binomial"))
  fc_factor_of : ∃ fd, FunC K "factor_of" "factor_of" s_factor_of (He.ga K "factor_of") fd (.ref (He.codeOf K ("factor_of", none)))
  m_factor_of : mg "factor_of" = some (.ref (He.ga K "factor_of"))
  fc_common_in : ∃ fd, FunC K "common_in" "common_in" s_common_in (He.ga K "common_in") fd (.ref (He.codeOf K ("common_in", none)))
  m_common_in : mg "common_in" = some (.ref (He.ga K "common_in"))
  fc_are_numbers : ∃ fd, FunC K "are_numbers" "are_numbers" s_are_numbers (He.ga K "are_numbers") fd (.ref (He.codeOf K ("are_numbers", none)))
  m_are_numbers : mg "are_numbers" = some (.ref (He.ga K "are_numbers"))
  fc_require_numbers : ∃ fd, FunC K "require_numbers" "require_numbers" s_require_numbers (He.ga K "require_numbers") fd (.ref (He.codeOf K ("require_numbers", none)))
  m_require_numbers : mg "require_numbers" = some (.ref (He.ga K "require_numbers"))
  fc_common_factor : ∃ fd, FunC K "common_factor" "common_factor" s_common_factor (He.ga K "common_factor") fd (.ref (He.codeOf K ("common_factor", none)))
  m_common_factor : mg "common_factor" = some (.ref (He.ga K "common_factor"))
  fc_prime_base : ∃ fd, FunC K "prime_base" "prime_base" s_prime_base (He.ga K "prime_base") fd (.ref (He.codeOf K ("prime_base", none)))
  m_prime_base : mg "prime_base" = some (.ref (He.ga K "prime_base"))
  tb_prime_base : GxR.TabB base mg (He.codeOf K ("prime_base", none)) (He.cT K ("prime_base", none)).2
  tt_prime_base : (He.cT K ("prime_base", none)).2 ∈ Tabs.T
  fc__law_right : ∃ fd, FunC K "_law_right" "_law_right" s__law_right (He.ga K "_law_right") fd (.ref (He.codeOf K ("_law_right", none)))
  m__law_right : mg "_law_right" = some (.ref (He.ga K "_law_right"))
  fc_law : ∃ fd, FunC K "law" "law" s_law (He.ga K "law") fd (.ref (He.codeOf K ("law", none)))
  m_law : mg "law" = some (.ref (He.ga K "law"))
  z_abs : mg "abs" = none
  z_all : mg "all" = none
  z_bool : mg "bool" = none
  z_int : mg "int" = none
  z_isinstance : mg "isinstance" = none
  z_len : mg "len" = none
  z_list : mg "list" = none
  z_max : mg "max" = none
  z_min : mg "min" = none
  z_next : mg "next" = none
  z_range : mg "range" = none
  z_repr : mg "repr" = none
  z_set : mg "set" = none
  z_sorted : mg "sorted" = none
  z_sum : mg "sum" = none
  z_tuple : mg "tuple" = none
  i_GREATEST : ∃ t, mg "GREATEST" = some (.int 1000000000000000000000000000000000000000000000000000000000000 t)
  i_MAX_LIST : ∃ t, mg "MAX_LIST" = some (.int 200 t)
  i_MAX_SIZE : ∃ t, mg "MAX_SIZE" = some (.int 60 t)
/-! ### the walk -/
section
variable [Tabs] {P : Program} {w : World} {K : PySem.W.Frag} {mg : Str → Option Value} {base : Heap}
theorem d__law_dish (h : Fx K mg base) {fa : Addr} (n : Nat) {A : Around} {outer : List Env} {s : Shared} {H : Hp} {E : XK} (hr : Rm 0 (A.deeper (envOfC "_law_dish" (defScope s__law_dish) s.heap.objs.size fa (.ref (He.codeOf K ("_law_dish", none)))))) :
    PSs (bodyX P w K mg base ["script", "at", "cell", "great", "seed"] "_law_dish" (defScope s__law_dish) fa (.ref (He.codeOf K ("_law_dish", none))) A outer s H E) (defBody s__law_dish) (rdS K (g__law_dish n)) :=
  (dss_cons (ds_set 2 (de_if (dt_cmp op_lt od_lt (de_var 1) (de_callB call_len_seq cd_len (by rfl) h.z_len (by decide +kernel) (da_cons (de_var 0) da_nil)) (nomark _)) (de_ix (de_var 0) (de_var 1) (fun _ _ => rfl)) (de_op op_addA od_add (de_op op_mul od_mul de_int (de_var 1)) de_int)) sc__law_dish.nd)
  (dss_cons (ds_set 3 (de_op op_mod od_mod (de_callTy call_int1 cd_int (by rfl) h.z_int (by decide +kernel) (da_cons (de_callB call_abs cd_abs (by rfl) h.z_abs (by decide +kernel) (da_cons (de_var 2) da_nil)) da_nil)) (de_op op_powW od_pow (de_op op_powW od_pow de_int de_int) de_int)) sc__law_dish.nd)
  (dss_cons (ds_set 4 (de_op op_mod od_mod (de_callTy call_int1 cd_int (by rfl) h.z_int (by decide +kernel) (da_cons (de_op op_addA od_add (de_op op_addA od_add (de_op op_addA od_add (de_op op_mul od_mul (de_var 3) de_int) (de_op op_mul od_mul de_int (de_var 1))) (de_callTy call_int1 cd_int (by rfl) h.z_int (by decide +kernel) (da_cons (de_cmp op_lt od_lt (de_var 2) de_int (nomark _)) da_nil))) de_int) da_nil)) (de_op op_addA od_add (de_op op_powW od_pow de_int de_int) de_int)) sc__law_dish.nd)
  (dss_one (ds_retO (do_lst (da_cons (de_if (dt_cmp op_gt od_gt (de_var 3) (de_op op_powW od_pow de_int de_int) (nomark _)) (de_op op_sub od_sub (de_var 3) (de_op op_powW od_pow de_int de_int)) de_int) (da_cons (de_var 4) (da_cons de_int da_nil)))))))))
theorem cl__law_dish (h : Fx K mg base) : Cl P w K mg base 1 "_law_dish" 2 F__law_dish := by
  obtain ⟨fd, F⟩ := h.fc__law_dish
  exact ⟨⟨_, fd, ["script", "at"], dfn_ok (g := g__law_dish) F sc__law_dish (fun n A outer s H E hr => d__law_dish h n hr), h.m__law_dish, F.kp, F.binds (fun _ _ _ _ _ _ us hl => match us, hl with | [_, _], _ => rfl)⟩, fun n as s as' e => runB_len e⟩
theorem d__law_allowed (h : Fx K mg base) {fa : Addr} (n : Nat) {A : Around} {outer : List Env} {s : Shared} {H : Hp} {E : XK} (hr : Rm 0 (A.deeper (envOfC "_law_allowed" (defScope s__law_allowed) s.heap.objs.size fa (.ref (He.codeOf K ("_law_allowed", none)))))) :
    PSs (bodyX P w K mg base ["size", "names", "group"] "_law_allowed" (defScope s__law_allowed) fa (.ref (He.codeOf K ("_law_allowed", none))) A outer s H E) (defBody s__law_allowed) (rdS K (g__law_allowed n)) :=
  (dss_one (ds_ret (de_lstRg2 (de_callB (call_max2 rfl) cd_max (by rfl) h.z_max (by decide +kernel) (da_cons de_int (da_cons (de_op op_addA od_add (de_op op_sub od_sub (de_var 0) (de_var 1)) (de_var 2)) da_nil))) (de_op op_addA od_add (de_callB (call_min2 rfl) cd_min (by rfl) h.z_min (by decide +kernel) (da_cons (de_var 0) (da_cons (de_var 2) da_nil))) de_int) rfl (by rfl) h.z_list (by rfl) h.z_range)))
theorem cl__law_allowed (h : Fx K mg base) : Cl P w K mg base 1 "_law_allowed" 3 F__law_allowed := by
  obtain ⟨fd, F⟩ := h.fc__law_allowed
  exact ⟨⟨_, fd, ["size", "names", "group"], dfn_ok (g := g__law_allowed) F sc__law_allowed (fun n A outer s H E hr => d__law_allowed h n hr), h.m__law_allowed, F.kp, F.binds (fun _ _ _ _ _ _ us hl => match us, hl with | [_, _, _], _ => rfl)⟩, fun n as s as' e => runB_len e⟩
theorem d__law_pascal (h : Fx K mg base) {fa : Addr} (n : Nat) {A : Around} {outer : List Env} {s : Shared} {H : Hp} {E : XK} (hr : Rm 0 (A.deeper (envOfC "_law_pascal" (defScope s__law_pascal) s.heap.objs.size fa (.ref (He.codeOf K ("_law_pascal", none)))))) :
    PSs (bodyX P w K mg base ["top", "row", "turn", "at"] "_law_pascal" (defScope s__law_pascal) fa (.ref (He.codeOf K ("_law_pascal", none))) A outer s H E) (defBody s__law_pascal) (rdS K (g__law_pascal n)) :=
  (dss_cons (ds_set 1 (de_lst (da_cons de_int da_nil)) sc__law_pascal.nd)
  (dss_cons (ds_for PassesOwn.never rfl (di_range1 (by rfl) h.z_range (da_cons (de_var 0) da_nil)) (dg_name (is := [2]) 2 (by decide) sc__law_pascal.nd) (dss_one (ds_set 1 (de_op op_addA od_add (de_op op_addA od_add (de_lst (da_cons de_int da_nil)) (de_ofO (do_lc (own := [("at", 3)]) rfl sc__law_pascal.nd (di_range1 (by rfl) h.z_range (da_cons (de_op op_sub od_sub (de_callB call_len_seq cd_len (by rfl) h.z_len (by decide +kernel) (da_cons (de_var 1) da_nil)) de_int) da_nil)) (blkOk_by (N := ["top", "row", "turn", "at"]) (sc := defScope s__law_pascal) (by decide +kernel)) (by decide) (fun _ _ _ _ _ => (dg_name (is := [3]) 3 (by decide) sc__law_pascal.nd)) (fun _ _ _ _ _ => dts_nil) (fun _ _ _ _ _ => (de_op op_addA od_add (de_ix (de_var 1) (de_var 3) (fun _ _ => rfl)) (de_ix (de_var 1) (de_op op_addA od_add (de_var 3) de_int) (fun _ _ => rfl))))))) (de_lst (da_cons de_int da_nil))) sc__law_pascal.nd)))
  (dss_one (ds_ret (de_var 1)))))
theorem cl__law_pascal (h : Fx K mg base) : Cl P w K mg base 1 "_law_pascal" 1 F__law_pascal := by
  obtain ⟨fd, F⟩ := h.fc__law_pascal
  exact ⟨⟨_, fd, ["top"], dfn_ok (g := g__law_pascal) F sc__law_pascal (fun n A outer s H E hr => d__law_pascal h n hr), h.m__law_pascal, F.kp, F.binds (fun _ _ _ _ _ _ us hl => match us, hl with | [_], _ => rfl)⟩, fun n as s as' e => runB_len e⟩
theorem d__law_binom (h : Fx K mg base) {fa : Addr} (n : Nat) {A : Around} {outer : List Env} {s : Shared} {H : Hp} {E : XK} (hr : Rm 1 (A.deeper (envOfC "_law_binom" (defScope s__law_binom) s.heap.objs.size fa (.ref (He.codeOf K ("_law_binom", none)))))) :
    PSs (bodyX P w K mg base ["top", "low", "row"] "_law_binom" (defScope s__law_binom) fa (.ref (He.codeOf K ("_law_binom", none))) A outer s H E) (defBody s__law_binom) (rdS K (g__law_binom n)) :=
  (dss_cons (ds_set 2 (de_call n (cl__law_pascal h) hr (by decide) (by rfl) (dr_cons (de_var 0) dr_nil)) sc__law_binom.nd)
  (dss_one (ds_ret (de_if (dt_inRg (de_var 1) (by rfl) h.z_range (da_cons (de_op op_addA od_add (de_var 0) de_int) da_nil) (by rfl)) (de_ix (de_var 2) (de_var 1) (fun _ _ => rfl)) de_int))))
theorem cl__law_binom (h : Fx K mg base) : Cl P w K mg base 2 "_law_binom" 2 F__law_binom := by
  obtain ⟨fd, F⟩ := h.fc__law_binom
  exact ⟨⟨_, fd, ["top", "low"], dfn_ok (g := g__law_binom) F sc__law_binom (fun n A outer s H E hr => d__law_binom h n hr), h.m__law_binom, F.kp, F.binds (fun _ _ _ _ _ _ us hl => match us, hl with | [_, _], _ => rfl)⟩, fun n as s as' e => runB_len e⟩
theorem d__law_double (h : Fx K mg base) {fa : Addr} (n : Nat) {A : Around} {outer : List Env} {s : Shared} {H : Hp} {E : XK} (hr : Rm 0 (A.deeper (envOfC "_law_double" (defScope s__law_double) s.heap.objs.size fa (.ref (He.codeOf K ("_law_double", none)))))) :
    PSs (bodyX P w K mg base ["size", "found", "turn"] "_law_double" (defScope s__law_double) fa (.ref (He.codeOf K ("_law_double", none))) A outer s H E) (defBody s__law_double) (rdS K (g__law_double n)) :=
  (dss_cons (ds_set 1 de_int sc__law_double.nd)
  (dss_cons (ds_for PassesOwn.never rfl (di_range1 (by rfl) h.z_range (da_cons (de_var 0) da_nil)) (dg_name (is := [2]) 2 (by decide) sc__law_double.nd) (dss_one (ds_set 1 (de_op op_mul od_mul (de_var 1) de_int) sc__law_double.nd)))
  (dss_one (ds_ret (de_var 1)))))
theorem cl__law_double (h : Fx K mg base) : Cl P w K mg base 1 "_law_double" 1 F__law_double := by
  obtain ⟨fd, F⟩ := h.fc__law_double
  exact ⟨⟨_, fd, ["size"], dfn_ok (g := g__law_double) F sc__law_double (fun n A outer s H E hr => d__law_double h n hr), h.m__law_double, F.kp, F.binds (fun _ _ _ _ _ _ us hl => match us, hl with | [_], _ => rfl)⟩, fun n as s as' e => runB_len e⟩
theorem d__law_gcd (h : Fx K mg base) {fa : Addr} (n : Nat) {A : Around} {outer : List Env} {s : Shared} {H : Hp} {E : XK} (hr : Rm 0 (A.deeper (envOfC "_law_gcd" (defScope s__law_gcd) s.heap.objs.size fa (.ref (He.codeOf K ("_law_gcd", none)))))) :
    PSs (bodyX P w K mg base ["numbers", "found", "number", "one", "other"] "_law_gcd" (defScope s__law_gcd) fa (.ref (He.codeOf K ("_law_gcd", none))) A outer s H E) (defBody s__law_gcd) (rdS K (g__law_gcd n)) :=
  (dss_cons (ds_set 1 de_int sc__law_gcd.nd)
  (dss_cons (ds_for PassesOwn.never rfl (di_seq (de_var 0)) (dg_name (is := [2]) 2 (by decide) sc__law_gcd.nd) (dss_cons (ds_par 3 4 (da_cons (de_var 1) (da_cons (de_var 2) da_nil)) rfl sc__law_gcd.nd)
  (dss_cons (ds_while n PassesOwn.never (dt_cmp op_gt od_gt (de_var 4) de_int (nomark _)) (dss_one (ds_par 3 4 (da_cons (de_var 4) (da_cons (de_op op_mod od_mod (de_var 3) (de_var 4)) da_nil)) rfl sc__law_gcd.nd)))
  (dss_one (ds_set 1 (de_var 3) sc__law_gcd.nd)))))
  (dss_one (ds_ret (de_var 1)))))
theorem cl__law_gcd (h : Fx K mg base) : Cl P w K mg base 1 "_law_gcd" 1 F__law_gcd := by
  obtain ⟨fd, F⟩ := h.fc__law_gcd
  exact ⟨⟨_, fd, ["numbers"], dfn_ok (g := g__law_gcd) F sc__law_gcd (fun n A outer s H E hr => d__law_gcd h n hr), h.m__law_gcd, F.kp, F.binds (fun _ _ _ _ _ _ us hl => match us, hl with | [_], _ => rfl)⟩, fun n as s as' e => runB_len e⟩
theorem d__law_spoon (h : Fx K mg base) {fa : Addr} (n : Nat) {A : Around} {outer : List Env} {s : Shared} {H : Hp} {E : XK} (hr : Rm 0 (A.deeper (envOfC "_law_spoon" (defScope s__law_spoon) s.heap.objs.size fa (.ref (He.codeOf K ("_law_spoon", none)))))) :
    PSs (bodyX P w K mg base ["dish", "total", "one", "two", "three", "found"] "_law_spoon" (defScope s__law_spoon) fa (.ref (He.codeOf K ("_law_spoon", none))) A outer s H E) (defBody s__law_spoon) (rdS K (g__law_spoon n)) :=
  (dss_cons (ds_if (dt_cmp op_gt od_gt (de_ixO 0 de_int (fun _ _ => rfl)) de_int (nomark _)) (dss_cons (ds_set 5 (de_op op_mod od_mod (de_callTy call_int1 cd_int (by rfl) h.z_int (by decide +kernel) (da_cons (de_ixO 0 de_int (fun _ _ => rfl)) da_nil)) (de_var 1)) sc__law_spoon.nd)
  (dss_cons (ds_itO 0 (de_op op_fdivW od_fdiv (de_ixO 0 de_int (fun _ _ => rfl)) (de_var 1)) de_int)
  (dss_one (ds_ret (de_var 5))))) dss_nil)
  (dss_cons (ds_itO 0 (de_op op_addA od_add (de_ixO 0 de_int (fun _ _ => rfl)) de_int) de_int)
  (dss_cons (ds_set 2 (de_op op_mod od_mod (de_callTy call_int1 cd_int (by rfl) h.z_int (by decide +kernel) (da_cons (de_op op_addA od_add (de_ixO 0 de_int (fun _ _ => rfl)) (de_op op_mul od_mul de_int (de_ixO 0 de_int (fun _ _ => rfl)))) da_nil)) de_int) sc__law_spoon.nd)
  (dss_cons (ds_set 3 (de_op op_mod od_mod (de_callTy call_int1 cd_int (by rfl) h.z_int (by decide +kernel) (da_cons (de_op op_addA od_add (de_op op_addA od_add (de_op op_mul od_mul (de_var 2) (de_var 2)) (de_op op_fdivW od_fdiv (de_ixO 0 de_int (fun _ _ => rfl)) de_int)) (de_op op_mul od_mul de_int (de_ixO 0 de_int (fun _ _ => rfl)))) da_nil)) de_int) sc__law_spoon.nd)
  (dss_cons (ds_set 4 (de_op op_mod od_mod (de_callTy call_int1 cd_int (by rfl) h.z_int (by decide +kernel) (da_cons (de_op op_addA od_add (de_op op_mul od_mul (de_var 3) (de_var 3)) (de_var 2)) da_nil)) de_int) sc__law_spoon.nd)
  (dss_one (ds_ret (de_op op_mod od_mod (de_callTy call_int1 cd_int (by rfl) h.z_int (by decide +kernel) (da_cons (de_op op_fdivW od_fdiv (de_var 4) de_int) da_nil)) (de_var 1)))))))))
theorem cl__law_spoon (h : Fx K mg base) : Cl P w K mg base 1 "_law_spoon" 2 F__law_spoon := by
  obtain ⟨fd, F⟩ := h.fc__law_spoon
  exact ⟨⟨_, fd, ["dish", "total"], dfn_ok (g := g__law_spoon) F sc__law_spoon (fun n A outer s H E hr => d__law_spoon h n hr), h.m__law_spoon, F.kp, F.binds (fun _ _ _ _ _ _ us hl => match us, hl with | [_, _], _ => rfl)⟩, fun n as s as' e => runB_len e⟩
theorem d__law_pick_of (h : Fx K mg base) {fa : Addr} (n : Nat) {A : Around} {outer : List Env} {s : Shared} {H : Hp} {E : XK} (hr : Rm 1 (A.deeper (envOfC "_law_pick_of" (defScope s__law_pick_of) s.heap.objs.size fa (.ref (He.codeOf K ("_law_pick_of", none)))))) :
    PSs (bodyX P w K mg base ["dish", "items"] "_law_pick_of" (defScope s__law_pick_of) fa (.ref (He.codeOf K ("_law_pick_of", none))) A outer s H E) (defBody s__law_pick_of) (rdS K (g__law_pick_of n)) :=
  (dss_one (ds_ret (de_ix (de_var 1) (de_call n (cl__law_spoon h) hr (by decide) (by rfl) (dr_own 0 (dr_cons (de_callB call_len_seq cd_len (by rfl) h.z_len (by decide +kernel) (da_cons (de_var 1) da_nil)) dr_nil))) (fun _ _ => rfl))))
theorem cl__law_pick_of (h : Fx K mg base) : Cl P w K mg base 2 "_law_pick_of" 2 F__law_pick_of := by
  obtain ⟨fd, F⟩ := h.fc__law_pick_of
  exact ⟨⟨_, fd, ["dish", "items"], dfn_ok (g := g__law_pick_of) F sc__law_pick_of (fun n A outer s H E hr => d__law_pick_of h n hr), h.m__law_pick_of, F.kp, F.binds (fun _ _ _ _ _ _ us hl => match us, hl with | [_, _], _ => rfl)⟩, fun n as s as' e => runB_len e⟩
theorem d__law_prime_of (h : Fx K mg base) {fa : Addr} (n : Nat) {A : Around} {outer : List Env} {s : Shared} {H : Hp} {E : XK} (hr : Rm 0 (A.deeper (envOfC "_law_prime_of" (defScope s__law_prime_of) s.heap.objs.size fa (.ref (He.codeOf K ("_law_prime_of", none)))))) :
    PSs (bodyX P w K mg base ["size", "least", "number"] "_law_prime_of" (defScope s__law_prime_of) fa (.ref (He.codeOf K ("_law_prime_of", none))) A outer s H E) (defBody s__law_prime_of) (rdS K (g__law_prime_of n)) :=
  (dss_cons (ds_if (dt_cmp op_lt od_lt (de_var 0) de_int (nomark _)) (dss_one (ds_ret de_non)) dss_nil)
  (dss_cons (ds_set 1 (de_ix (de_ofO (do_lc (own := [("number", 2)]) rfl sc__law_prime_of.nd (di_range2 (by rfl) h.z_range (da_cons de_int (da_cons (de_op op_addA od_add (de_var 0) de_int) da_nil))) (blkOk_by (N := ["size", "least", "number"]) (sc := defScope s__law_prime_of) (by decide +kernel)) (by decide) (fun _ _ _ _ _ => (dg_name (is := [2]) 2 (by decide) sc__law_prime_of.nd)) (fun _ _ _ _ _ => (dts_one (dt_cmp (op_eqS (hu64 hr)) od_eqS (de_op op_mod od_mod (de_var 0) (de_var 2)) de_int (nomark _)))) (fun _ _ _ _ _ => (de_var 2)))) de_int (fun _ _ => rfl)) sc__law_prime_of.nd)
  (dss_cons (ds_while n PassesOwn.never (dt_cmp (op_eqS (hu64 hr)) od_eqS (de_op op_mod od_mod (de_var 0) (de_var 1)) de_int (nomark _)) (dss_one (ds_set 0 (de_op op_fdivW od_fdiv (de_var 0) (de_var 1)) sc__law_prime_of.nd)))
  (dss_one (ds_ret (de_if (dt_cmp (op_eqS (hu64 hr)) od_eqS (de_var 0) de_int (nomark _)) (de_var 1) de_non))))))
theorem cl__law_prime_of (h : Fx K mg base) : Cl P w K mg base 1 "_law_prime_of" 1 F__law_prime_of := by
  obtain ⟨fd, F⟩ := h.fc__law_prime_of
  exact ⟨⟨_, fd, ["size"], dfn_ok (g := g__law_prime_of) F sc__law_prime_of (fun n A outer s H E hr => d__law_prime_of h n hr), h.m__law_prime_of, F.kp, F.binds (fun _ _ _ _ _ _ us hl => match us, hl with | [_], _ => rfl)⟩, fun n as s as' e => runB_len e⟩
theorem d__law_some_of (h : Fx K mg base) {fa : Addr} (n : Nat) {A : Around} {outer : List Env} {s : Shared} {H : Hp} {E : XK} (hr : Rm 1 (A.deeper (envOfC "_law_some_of" (defScope s__law_some_of) s.heap.objs.size fa (.ref (He.codeOf K ("_law_some_of", none)))))) :
    PSs (bodyX P w K mg base ["dish", "items", "count", "turn", "left", "found"] "_law_some_of" (defScope s__law_some_of) fa (.ref (He.codeOf K ("_law_some_of", none))) A outer s H E) (defBody s__law_some_of) (rdS K (g__law_some_of n)) :=
  (dss_cons (ds_parV 4 5 (dv_O (do_listOf (de_var 1) (by rfl) h.z_list)) (dv_O (do_lst da_nil)) rfl sc__law_some_of.nd)
  (dss_cons (ds_for PassesOwn.never rfl (di_range1 (by rfl) h.z_range (da_cons (de_callB (call_min2 rfl) cd_min (by rfl) h.z_min (by decide +kernel) (da_cons (de_var 2) (da_cons (de_callB call_len_seq cd_len (by rfl) h.z_len (by decide +kernel) (da_cons (de_var 1) da_nil)) da_nil))) da_nil)) (dg_name (is := [3]) 3 (by decide) sc__law_some_of.nd) (dss_one (ds_app 5 (de_popO 4 (de_call n (cl__law_spoon h) hr (by decide) (by rfl) (dr_own 0 (dr_cons (de_lenO 4 (by rfl) h.z_len) dr_nil)))))))
  (dss_one (ds_ret (de_frz 5)))))
theorem cl__law_some_of (h : Fx K mg base) : Cl P w K mg base 2 "_law_some_of" 3 F__law_some_of := by
  obtain ⟨fd, F⟩ := h.fc__law_some_of
  exact ⟨⟨_, fd, ["dish", "items", "count"], dfn_ok (g := g__law_some_of) F sc__law_some_of (fun n A outer s H E hr => d__law_some_of h n hr), h.m__law_some_of, F.kp, F.binds (fun _ _ _ _ _ _ us hl => match us, hl with | [_, _, _], _ => rfl)⟩, fun n as s as' e => runB_len e⟩
theorem d_allowed_in (h : Fx K mg base) {fa : Addr} (n : Nat) {A : Around} {outer : List Env} {s : Shared} {H : Hp} {E : XK} (hr : Rm 0 (A.deeper (envOfC "allowed_in" (defScope s_allowed_in) s.heap.objs.size fa (.ref (He.codeOf K ("allowed_in", none)))))) :
    PSs (bodyX P w K mg base ["size", "names", "group_size"] "allowed_in" (defScope s_allowed_in) fa (.ref (He.codeOf K ("allowed_in", none))) A outer s H E) (defBody s_allowed_in) (rdS K (g_allowed_in n)) :=
  (dss_one (ds_ret (de_tupRg2 (de_callB (call_max2 rfl) cd_max (by rfl) h.z_max (by decide +kernel) (da_cons de_int (da_cons (de_op op_addA od_add (de_op op_sub od_sub (de_var 0) (de_var 1)) (de_var 2)) da_nil))) (de_op op_addA od_add (de_callB (call_min2 rfl) cd_min (by rfl) h.z_min (by decide +kernel) (da_cons (de_var 0) (da_cons (de_var 2) da_nil))) de_int) rfl (by rfl) h.z_tuple (by rfl) h.z_range)))
theorem cl_allowed_in (h : Fx K mg base) : Cl P w K mg base 1 "allowed_in" 3 F_allowed_in := by
  obtain ⟨fd, F⟩ := h.fc_allowed_in
  exact ⟨⟨_, fd, ["size", "names", "group_size"], dfn_ok (g := g_allowed_in) F sc_allowed_in (fun n A outer s H E hr => d_allowed_in h n hr), h.m_allowed_in, F.kp, F.binds (fun _ _ _ _ _ _ us hl => match us, hl with | [_, _, _], _ => rfl)⟩, fun n as s as' e => runB_len e⟩
theorem d_is_integer (h : Fx K mg base) {fa : Addr} (n : Nat) {A : Around} {outer : List Env} {s : Shared} {H : Hp} {E : XK} (hr : Rm 0 (A.deeper (envOfC "is_integer" (defScope s_is_integer) s.heap.objs.size fa (.ref (He.codeOf K ("is_integer", none)))))) :
    PSs (bodyX P w K mg base ["value"] "is_integer" (defScope s_is_integer) fa (.ref (He.codeOf K ("is_integer", none))) A outer s H E) (defBody s_is_integer) (rdS K (g_is_integer n)) :=
  (dss_one (ds_ret (de_and (de_callB call_isi cd_isi (by rfl) h.z_isinstance (by decide +kernel) (da_cons (de_var 0) (da_cons (de_ty (by rfl) h.z_int (by decide +kernel)) da_nil))) (de_and (de_not (de_callB call_isi cd_isi (by rfl) h.z_isinstance (by decide +kernel) (da_cons (de_var 0) (da_cons (de_ty (by rfl) h.z_bool (by decide +kernel)) da_nil)))) (de_one (de_chain op_lt od_lt op_lt od_lt (de_un un_neg ud_neg (de_gint (by rfl) h.i_GREATEST)) (de_var 0) (de_gint (by rfl) h.i_GREATEST)))))))
theorem cl_is_integer (h : Fx K mg base) : Cl P w K mg base 1 "is_integer" 1 F_is_integer := by
  obtain ⟨fd, F⟩ := h.fc_is_integer
  exact ⟨⟨_, fd, ["value"], dfn_ok (g := g_is_integer) F sc_is_integer (fun n A outer s H E hr => d_is_integer h n hr), h.m_is_integer, F.kp, F.binds (fun _ _ _ _ _ _ us hl => match us, hl with | [_], _ => rfl)⟩, fun n as s as' e => runB_len e⟩
theorem d_is_between (h : Fx K mg base) {fa : Addr} (n : Nat) {A : Around} {outer : List Env} {s : Shared} {H : Hp} {E : XK} (hr : Rm 1 (A.deeper (envOfC "is_between" (defScope s_is_between) s.heap.objs.size fa (.ref (He.codeOf K ("is_between", none)))))) :
    PSs (bodyX P w K mg base ["value", "low", "high"] "is_between" (defScope s_is_between) fa (.ref (He.codeOf K ("is_between", none))) A outer s H E) (defBody s_is_between) (rdS K (g_is_between n)) :=
  (dss_one (ds_ret (de_and (de_call n (cl_is_integer h) hr (by decide) (by rfl) (dr_cons (de_var 0) dr_nil)) (de_one (de_chain op_le od_le op_le od_le (de_var 1) (de_var 0) (de_var 2))))))
theorem cl_is_between (h : Fx K mg base) : Cl P w K mg base 2 "is_between" 3 F_is_between := by
  obtain ⟨fd, F⟩ := h.fc_is_between
  exact ⟨⟨_, fd, ["value", "low", "high"], dfn_ok (g := g_is_between) F sc_is_between (fun n A outer s H E hr => d_is_between h n hr), h.m_is_between, F.kp, F.binds (fun _ _ _ _ _ _ us hl => match us, hl with | [_, _, _], _ => rfl)⟩, fun n as s as' e => runB_len e⟩
theorem d_require_number (h : Fx K mg base) {fa : Addr} (n : Nat) {A : Around} {outer : List Env} {s : Shared} {H : Hp} {E : XK} (hr : Rm 2 (A.deeper (envOfC "require_number" (defScope s_require_number) s.heap.objs.size fa (.ref (He.codeOf K ("require_number", none)))))) :
    PSs (bodyX P w K mg base ["value", "low", "high"] "require_number" (defScope s_require_number) fa (.ref (He.codeOf K ("require_number", none))) A outer s H E) (defBody s_require_number) (rdS K (g_require_number n)) :=
  (dss_one (ds_if (dt_not (dt_truth (de_call n (cl_is_between h) hr (by decide) (by rfl) (dr_cons (de_var 0) (dr_cons (de_var 1) (dr_cons (de_var 2) dr_nil)))))) (dss_one ds_never) dss_nil))
theorem cl_require_number (h : Fx K mg base) : Cl P w K mg base 3 "require_number" 3 F_require_number := by
  obtain ⟨fd, F⟩ := h.fc_require_number
  exact ⟨⟨_, fd, ["value", "low", "high"], dfn_ok (g := g_require_number) F sc_require_number (fun n A outer s H E hr => d_require_number h n hr), h.m_require_number, F.kp, F.binds (fun _ _ _ _ _ _ us hl => match us, hl with | [_, _, _], _ => rfl)⟩, fun n as s as' e => runB_len e⟩
theorem d_require_both (h : Fx K mg base) {fa : Addr} (n : Nat) {A : Around} {outer : List Env} {s : Shared} {H : Hp} {E : XK} (hr : Rm 3 (A.deeper (envOfC "require_both" (defScope s_require_both) s.heap.objs.size fa (.ref (He.codeOf K ("require_both", none)))))) :
    PSs (bodyX P w K mg base ["size", "names"] "require_both" (defScope s_require_both) fa (.ref (He.codeOf K ("require_both", none))) A outer s H E) (defBody s_require_both) (rdS K (g_require_both n)) :=
  (dss_cons (ds_expr (de_call n (cl_require_number h) hr (by decide) (by rfl) (dr_cons (de_var 0) (dr_cons de_int (dr_cons (de_gint (by rfl) h.i_MAX_SIZE) dr_nil)))))
  (dss_one (ds_expr (de_call n (cl_require_number h) hr (by decide) (by rfl) (dr_cons (de_var 1) (dr_cons de_int (dr_cons (de_gint (by rfl) h.i_MAX_LIST) dr_nil)))))))
theorem cl_require_both (h : Fx K mg base) : Cl P w K mg base 4 "require_both" 2 F_require_both := by
  obtain ⟨fd, F⟩ := h.fc_require_both
  exact ⟨⟨_, fd, ["size", "names"], dfn_ok (g := g_require_both) F sc_require_both (fun n A outer s H E hr => d_require_both h n hr), h.m_require_both, F.kp, F.binds (fun _ _ _ _ _ _ us hl => match us, hl with | [_, _], _ => rfl)⟩, fun n as s as' e => runB_len e⟩
theorem d_allowed_marks (h : Fx K mg base) {fa : Addr} (n : Nat) {A : Around} {outer : List Env} {s : Shared} {H : Hp} {E : XK} (hr : Rm 4 (A.deeper (envOfC "allowed_marks" (defScope s_allowed_marks) s.heap.objs.size fa (.ref (He.codeOf K ("allowed_marks", none)))))) :
    PSs (bodyX P w K mg base ["size", "names", "group_size"] "allowed_marks" (defScope s_allowed_marks) fa (.ref (He.codeOf K ("allowed_marks", none))) A outer s H E) (defBody s_allowed_marks) (rdS K (g_allowed_marks n)) :=
  (dss_cons (ds_expr (de_call n (cl_require_both h) hr (by decide) (by rfl) (dr_cons (de_var 0) (dr_cons (de_var 1) dr_nil))))
  (dss_cons (ds_expr (de_call n (cl_require_number h) hr (by decide) (by rfl) (dr_cons (de_var 2) (dr_cons de_int (dr_cons (de_var 1) dr_nil)))))
  (dss_one (ds_ret (de_call n (cl_allowed_in h) hr (by decide) (by rfl) (dr_cons (de_var 0) (dr_cons (de_var 1) (dr_cons (de_var 2) dr_nil))))))))
theorem cl_allowed_marks (h : Fx K mg base) : Cl P w K mg base 5 "allowed_marks" 3 F_allowed_marks := by
  obtain ⟨fd, F⟩ := h.fc_allowed_marks
  exact ⟨⟨_, fd, ["size", "names", "group_size"], dfn_ok (g := g_allowed_marks) F sc_allowed_marks (fun n A outer s H E hr => d_allowed_marks h n hr), h.m_allowed_marks, F.kp, F.binds (fun _ _ _ _ _ _ us hl => match us, hl with | [_, _, _], _ => rfl)⟩, fun n as s as' e => runB_len e⟩
theorem d_choose (h : Fx K mg base) {fa : Addr} (n : Nat) {A : Around} {outer : List Env} {s : Shared} {H : Hp} {E : XK} (hr : Rm 0 (A.deeper (envOfC "choose" (defScope s_choose) s.heap.objs.size fa (.ref (He.codeOf K ("choose", none)))))) :
    PSs (bodyX P w K mg base ["top", "low", "found", "step"] "choose" (defScope s_choose) fa (.ref (He.codeOf K ("choose", none))) A outer s H E) (defBody s_choose) (rdS K (g_choose n)) :=
  (dss_cons (ds_set 2 de_int sc_choose.nd)
  (dss_cons (ds_for PassesOwn.never rfl (di_range1 (by rfl) h.z_range (da_cons (de_var 1) da_nil)) (dg_name (is := [3]) 3 (by decide) sc_choose.nd) (dss_one (ds_set 2 (de_op op_fdivW od_fdiv (de_op op_mul od_mul (de_var 2) (de_op op_sub od_sub (de_var 0) (de_var 3))) (de_op op_addA od_add (de_var 3) de_int)) sc_choose.nd)))
  (dss_one (ds_ret (de_var 2)))))
theorem cl_choose (h : Fx K mg base) : Cl P w K mg base 1 "choose" 2 F_choose := by
  obtain ⟨fd, F⟩ := h.fc_choose
  exact ⟨⟨_, fd, ["top", "low"], dfn_ok (g := g_choose) F sc_choose (fun n A outer s H E hr => d_choose h n hr), h.m_choose, F.kp, F.binds (fun _ _ _ _ _ _ us hl => match us, hl with | [_, _], _ => rfl)⟩, fun n as s as' e => runB_len e⟩
theorem d_binomial (h : Fx K mg base) {fa : Addr} (n : Nat) {A : Around} {outer : List Env} {s : Shared} {H : Hp} {E : XK} (hr : Rm 3 (A.deeper (envOfC "binomial" (defScope s_binomial) s.heap.objs.size fa (.ref (He.codeOf K ("binomial", none)))))) :
    PSs (bodyX P w K mg base ["top", "low"] "binomial" (defScope s_binomial) fa (.ref (He.codeOf K ("binomial", none))) A outer s H E) (defBody s_binomial) (rdS K (g_binomial n)) :=
  (dss_cons (ds_expr (de_call n (cl_require_number h) hr (by decide) (by rfl) (dr_cons (de_var 0) (dr_cons de_int (dr_cons (de_gint (by rfl) h.i_MAX_SIZE) dr_nil)))))
  (dss_cons (ds_expr (de_call n (cl_require_number h) hr (by decide) (by rfl) (dr_cons (de_var 1) (dr_cons de_int (dr_cons (de_var 0) dr_nil)))))
  (dss_one (ds_ret (de_call n (cl_choose h) hr (by decide) (by rfl) (dr_cons (de_var 0) (dr_cons (de_var 1) dr_nil)))))))
theorem cl_binomial (h : Fx K mg base) : Cl P w K mg base 4 "binomial" 2 F_binomial := by
  obtain ⟨fd, F⟩ := h.fc_binomial
  exact ⟨⟨_, fd, ["top", "low"], dfn_ok (g := g_binomial) F sc_binomial (fun n A outer s H E hr => d_binomial h n hr), h.m_binomial, F.kp, F.binds (fun _ _ _ _ _ _ us hl => match us, hl with | [_, _], _ => rfl)⟩, fun n as s as' e => runB_len e⟩
theorem d_factor_of (h : Fx K mg base) {fa : Addr} (n : Nat) {A : Around} {outer : List Env} {s : Shared} {H : Hp} {E : XK} (hr : Rm 0 (A.deeper (envOfC "factor_of" (defScope s_factor_of) s.heap.objs.size fa (.ref (He.codeOf K ("factor_of", none)))))) :
    PSs (bodyX P w K mg base ["one", "other"] "factor_of" (defScope s_factor_of) fa (.ref (He.codeOf K ("factor_of", none))) A outer s H E) (defBody s_factor_of) (rdS K (g_factor_of n)) :=
  (dss_cons (ds_while n PassesOwn.never (dt_cmp op_gt od_gt (de_var 1) de_int (nomark _)) (dss_one (ds_par 0 1 (da_cons (de_var 1) (da_cons (de_op op_mod od_mod (de_var 0) (de_var 1)) da_nil)) rfl sc_factor_of.nd)))
  (dss_one (ds_ret (de_var 0))))
theorem cl_factor_of (h : Fx K mg base) : Cl P w K mg base 1 "factor_of" 2 F_factor_of := by
  obtain ⟨fd, F⟩ := h.fc_factor_of
  exact ⟨⟨_, fd, ["one", "other"], dfn_ok (g := g_factor_of) F sc_factor_of (fun n A outer s H E hr => d_factor_of h n hr), h.m_factor_of, F.kp, F.binds (fun _ _ _ _ _ _ us hl => match us, hl with | [_, _], _ => rfl)⟩, fun n as s as' e => runB_len e⟩
theorem d_common_in (h : Fx K mg base) {fa : Addr} (n : Nat) {A : Around} {outer : List Env} {s : Shared} {H : Hp} {E : XK} (hr : Rm 1 (A.deeper (envOfC "common_in" (defScope s_common_in) s.heap.objs.size fa (.ref (He.codeOf K ("common_in", none)))))) :
    PSs (bodyX P w K mg base ["size", "numbers", "found", "low"] "common_in" (defScope s_common_in) fa (.ref (He.codeOf K ("common_in", none))) A outer s H E) (defBody s_common_in) (rdS K (g_common_in n)) :=
  (dss_cons (ds_set 2 de_int sc_common_in.nd)
  (dss_cons (ds_for PassesOwn.never rfl (di_seq (de_var 1)) (dg_name (is := [3]) 3 (by decide) sc_common_in.nd) (dss_one (ds_set 2 (de_call n (cl_factor_of h) hr (by decide) (by rfl) (dr_cons (de_call n (cl_choose h) hr (by decide) (by rfl) (dr_cons (de_var 0) (dr_cons (de_var 3) dr_nil))) (dr_cons (de_var 2) dr_nil))) sc_common_in.nd)))
  (dss_one (ds_ret (de_var 2)))))
theorem cl_common_in (h : Fx K mg base) : Cl P w K mg base 2 "common_in" 2 F_common_in := by
  obtain ⟨fd, F⟩ := h.fc_common_in
  exact ⟨⟨_, fd, ["size", "numbers"], dfn_ok (g := g_common_in) F sc_common_in (fun n A outer s H E hr => d_common_in h n hr), h.m_common_in, F.kp, F.binds (fun _ _ _ _ _ _ us hl => match us, hl with | [_, _], _ => rfl)⟩, fun n as s as' e => runB_len e⟩
theorem d_are_numbers (h : Fx K mg base) {fa : Addr} (n : Nat) {A : Around} {outer : List Env} {s : Shared} {H : Hp} {E : XK} (hr : Rm 2 (A.deeper (envOfC "are_numbers" (defScope s_are_numbers) s.heap.objs.size fa (.ref (He.codeOf K ("are_numbers", none)))))) :
    PSs (bodyX P w K mg base ["size", "value", "low"] "are_numbers" (defScope s_are_numbers) fa (.ref (He.codeOf K ("are_numbers", none))) A outer s H E) (defBody s_are_numbers) (rdS K (g_are_numbers n)) :=
  (dss_cons (ds_if ((dw_or (dt_not (dt_truth (de_callB call_isi cd_isi (by rfl) h.z_isinstance (by decide +kernel) (da_cons (de_var 1) (da_cons (de_ty (by rfl) h.z_tuple (by decide +kernel)) da_nil))))) (dw_or1 (dt_not (dt_truth (de_callB (cr_all rfl) cd_all (by rfl) h.z_all (by decide +kernel) (da_cons (de_ofO (do_lc (own := [("low", 2)]) rfl sc_are_numbers.nd (di_seq (de_var 1)) (blkOk_by (N := ["size", "value", "low"]) (sc := defScope s_are_numbers) (by decide +kernel)) (by decide) (fun _ _ _ _ _ => (dg_name (is := [2]) 2 (by decide) sc_are_numbers.nd)) (fun _ _ _ _ _ => dts_nil) (fun _ _ _ _ _ => (de_call n (cl_is_between h) hr (by decide) (by rfl) (dr_cons (de_var 2) (dr_cons de_int (dr_cons (de_var 0) dr_nil))))))) da_nil))))))).pt (dss_one (ds_ret de_bl)) dss_nil)
  (dss_one (ds_ret (de_cmp (op_eqS (hu64 hr)) od_eqS (de_callTy call_list_of cd_list (by rfl) h.z_list (by decide +kernel) (da_cons (de_var 1) da_nil)) (de_sortSet (de_var 1) rfl (by rfl) h.z_sorted (by rfl) h.z_set) (nomark _)))))
theorem cl_are_numbers (h : Fx K mg base) : Cl P w K mg base 3 "are_numbers" 2 F_are_numbers := by
  obtain ⟨fd, F⟩ := h.fc_are_numbers
  exact ⟨⟨_, fd, ["size", "value"], dfn_ok (g := g_are_numbers) F sc_are_numbers (fun n A outer s H E hr => d_are_numbers h n hr), h.m_are_numbers, F.kp, F.binds (fun _ _ _ _ _ _ us hl => match us, hl with | [_, _], _ => rfl)⟩, fun n as s as' e => runB_len e⟩
theorem d_require_numbers (h : Fx K mg base) {fa : Addr} (n : Nat) {A : Around} {outer : List Env} {s : Shared} {H : Hp} {E : XK} (hr : Rm 3 (A.deeper (envOfC "require_numbers" (defScope s_require_numbers) s.heap.objs.size fa (.ref (He.codeOf K ("require_numbers", none)))))) :
    PSs (bodyX P w K mg base ["size", "value"] "require_numbers" (defScope s_require_numbers) fa (.ref (He.codeOf K ("require_numbers", none))) A outer s H E) (defBody s_require_numbers) (rdS K (g_require_numbers n)) :=
  (dss_one (ds_if (dt_not (dt_truth (de_call n (cl_are_numbers h) hr (by decide) (by rfl) (dr_cons (de_var 0) (dr_cons (de_var 1) dr_nil))))) (dss_one ds_never) dss_nil))
theorem cl_require_numbers (h : Fx K mg base) : Cl P w K mg base 4 "require_numbers" 2 F_require_numbers := by
  obtain ⟨fd, F⟩ := h.fc_require_numbers
  exact ⟨⟨_, fd, ["size", "value"], dfn_ok (g := g_require_numbers) F sc_require_numbers (fun n A outer s H E hr => d_require_numbers h n hr), h.m_require_numbers, F.kp, F.binds (fun _ _ _ _ _ _ us hl => match us, hl with | [_, _], _ => rfl)⟩, fun n as s as' e => runB_len e⟩
theorem d_common_factor (h : Fx K mg base) {fa : Addr} (n : Nat) {A : Around} {outer : List Env} {s : Shared} {H : Hp} {E : XK} (hr : Rm 4 (A.deeper (envOfC "common_factor" (defScope s_common_factor) s.heap.objs.size fa (.ref (He.codeOf K ("common_factor", none)))))) :
    PSs (bodyX P w K mg base ["size", "numbers"] "common_factor" (defScope s_common_factor) fa (.ref (He.codeOf K ("common_factor", none))) A outer s H E) (defBody s_common_factor) (rdS K (g_common_factor n)) :=
  (dss_cons (ds_expr (de_call n (cl_require_number h) hr (by decide) (by rfl) (dr_cons (de_var 0) (dr_cons de_int (dr_cons (de_gint (by rfl) h.i_MAX_SIZE) dr_nil)))))
  (dss_cons (ds_expr (de_call n (cl_require_numbers h) hr (by decide) (by rfl) (dr_cons (de_var 0) (dr_cons (de_var 1) dr_nil))))
  (dss_cons (ds_if (dt_cmp (op_eqS (hu64 hr)) od_eqS (de_var 1) (de_tup da_nil) (nomark _)) (dss_one ds_never) dss_nil)
  (dss_one (ds_ret (de_call n (cl_common_in h) hr (by decide) (by rfl) (dr_cons (de_var 0) (dr_cons (de_var 1) dr_nil))))))))
theorem cl_common_factor (h : Fx K mg base) : Cl P w K mg base 5 "common_factor" 2 F_common_factor := by
  obtain ⟨fd, F⟩ := h.fc_common_factor
  exact ⟨⟨_, fd, ["size", "numbers"], dfn_ok (g := g_common_factor) F sc_common_factor (fun n A outer s H E hr => d_common_factor h n hr), h.m_common_factor, F.kp, F.binds (fun _ _ _ _ _ _ us hl => match us, hl with | [_, _], _ => rfl)⟩, fun n as s as' e => runB_len e⟩
theorem d_prime_base (h : Fx K mg base) {fa : Addr} (n : Nat) {A : Around} {outer : List Env} {s : Shared} {H : Hp} {E : XK} (hr : Rm 3 (A.deeper (envOfC "prime_base" (defScope s_prime_base) s.heap.objs.size fa (.ref (He.codeOf K ("prime_base", none)))))) :
    PSs (bodyX P w K mg base ["size", "base", "left", "number"] "prime_base" (defScope s_prime_base) fa (.ref (He.codeOf K ("prime_base", none))) A outer s H E) (defBody s_prime_base) (rdS K (g_prime_base n)) :=
  (dss_cons (ds_expr (de_call n (cl_require_number h) hr (by decide) (by rfl) (dr_cons (de_var 0) (dr_cons de_int (dr_cons (de_gint (by rfl) h.i_MAX_SIZE) dr_nil)))))
  (dss_cons (ds_set 1 (de_next (own := [("number", 3)]) (k := 2) hr rfl sc_prime_base.nd (by rfl) h.z_next h.tb_prime_base h.tt_prime_base rfl (di_range2 (by rfl) h.z_range (da_cons de_int (da_cons (de_op op_addA od_add (de_var 0) de_int) da_nil))) (blkOk_by (N := ["size", "base", "left", "number"]) (sc := defScope s_prime_base) (by decide +kernel)) (by decide) dfl_none (fun _ _ _ _ _ _ _ _ => (dg_name (is := [3]) 3 (by decide) sc_prime_base.nd)) (fun _ _ _ _ _ _ _ _ hr2 => (dts_one (dt_cmp (op_eqS (hu64 hr2)) od_eqS (de_op op_mod od_mod (de_var 0) (de_var 3)) de_int (nomark _)))) (fun _ _ _ _ _ _ _ _ hr2 => (de_var 3))) sc_prime_base.nd)
  (dss_cons (ds_if (dt_cmp op_isN od_isN (de_var 1) de_non (nomark _)) (dss_one (ds_ret de_non)) dss_nil)
  (dss_cons (ds_set 2 (de_var 0) sc_prime_base.nd)
  (dss_cons (ds_while n PassesOwn.never (dt_cmp (op_eqS (hu64 hr)) od_eqS (de_op op_mod od_mod (de_var 2) (de_var 1)) de_int (nomark _)) (dss_one (ds_aug 2 ipd_fdiv ip_fdiv (de_var 1) sc_prime_base.nd)))
  (dss_one (ds_ret (de_if (dt_cmp (op_eqS (hu64 hr)) od_eqS (de_var 2) de_int (nomark _)) (de_var 1) de_non))))))))
theorem cl_prime_base (h : Fx K mg base) : Cl P w K mg base 4 "prime_base" 1 F_prime_base := by
  obtain ⟨fd, F⟩ := h.fc_prime_base
  exact ⟨⟨_, fd, ["size"], dfn_ok (g := g_prime_base) F sc_prime_base (fun n A outer s H E hr => d_prime_base h n hr), h.m_prime_base, F.kp, F.binds (fun _ _ _ _ _ _ us hl => match us, hl with | [_], _ => rfl)⟩, fun n as s as' e => runB_len e⟩
theorem d__law_right (h : Fx K mg base) {fa : Addr} (n : Nat) {A : Around} {outer : List Env} {s : Shared} {H : Hp} {E : XK} (hr : Rm 5 (A.deeper (envOfC "_law_right" (defScope s__law_right) s.heap.objs.size fa (.ref (He.codeOf K ("_law_right", none)))))) :
    PSs (bodyX P w K mg base ["dish", "size", "numbers", "due", "group", "low", "names", "k"] "_law_right" (defScope s__law_right) fa (.ref (He.codeOf K ("_law_right", none))) A outer s H E) (defBody s__law_right) (rdS K (g__law_right n)) :=
  (dss_cons (ds_set 1 (de_op op_addA od_add de_int (de_call n (cl__law_spoon h) hr (by decide) (by rfl) (dr_own 0 (dr_cons (de_call n (cl__law_pick_of h) hr (by decide) (by rfl) (dr_own 0 (dr_cons (de_lst (da_cons de_int (da_cons de_int (da_cons de_int da_nil)))) dr_nil))) dr_nil)))) sc__law_right.nd)
  (dss_cons (ds_par 5 6 (da_cons (de_call n (cl__law_spoon h) hr (by decide) (by rfl) (dr_own 0 (dr_cons (de_op op_addA od_add (de_var 1) de_int) dr_nil))) (da_cons (de_op op_addA od_add de_int (de_call n (cl__law_spoon h) hr (by decide) (by rfl) (dr_own 0 (dr_cons (de_call n (cl__law_pick_of h) hr (by decide) (by rfl) (dr_own 0 (dr_cons (de_lst (da_cons de_int (da_cons de_int (da_cons de_int da_nil)))) dr_nil))) dr_nil)))) da_nil)) rfl sc__law_right.nd)
  (dss_cons (ds_if ((dw_or (dt_cmp (op_neS (hu64 hr)) od_neS (de_call n (cl_binomial h) hr (by decide) (by rfl) (dr_cons (de_var 1) (dr_cons (de_var 5) dr_nil))) (de_call n (cl__law_binom h) hr (by decide) (by rfl) (dr_cons (de_var 1) (dr_cons (de_var 5) dr_nil))) (nomark _)) (dw_or1 (dt_cmp (op_neS (hu64 hr)) od_neS (de_call n (cl_binomial h) hr (by decide) (by rfl) (dr_cons (de_var 1) (dr_cons (de_op op_sub od_sub (de_var 1) (de_var 5)) dr_nil))) (de_call n (cl_binomial h) hr (by decide) (by rfl) (dr_cons (de_var 1) (dr_cons (de_var 5) dr_nil))) (nomark _))))).pt (dss_one (ds_ret de_bl)) dss_nil)
  (dss_cons (ds_if ((dw_or (dt_cmp (op_neS (hu64 hr)) od_neS (de_call n (cl_binomial h) hr (by decide) (by rfl) (dr_cons (de_op op_sub od_sub (de_var 1) de_int) (dr_cons de_int dr_nil))) de_int (nomark _)) (dw_or1 (dt_cmp (op_neS (hu64 hr)) od_neS (de_callB (cr_sum rfl) cd_sum (by rfl) h.z_sum (by decide +kernel) (da_cons (de_ofO (do_lc (own := [("k", 7)]) rfl sc__law_right.nd (di_range1 (by rfl) h.z_range (da_cons (de_op op_addA od_add (de_var 1) de_int) da_nil)) (blkOk_by (N := ["dish", "size", "numbers", "due", "group", "low", "names", "k"]) (sc := defScope s__law_right) (by decide +kernel)) (by decide) (fun _ _ _ _ _ => (dg_name (is := [7]) 7 (by decide) sc__law_right.nd)) (fun _ _ _ _ _ => dts_nil) (fun _ _ _ _ _ => (de_call n (cl_binomial h) hr (by decide) (by rfl) (dr_cons (de_var 1) (dr_cons (de_var 7) dr_nil)))))) da_nil)) (de_op op_mul od_mul de_int (de_call n (cl__law_double h) hr (by decide) (by rfl) (dr_cons (de_op op_sub od_sub (de_var 1) de_int) dr_nil))) (nomark _))))).pt (dss_one (ds_ret de_bl)) dss_nil)
  (dss_cons (ds_set 2 (de_tuple (de_callB (cr_sortedA (hu2 hr)) cd_sorted (by rfl) h.z_sorted (by decide +kernel) (da_cons (de_call n (cl__law_some_of h) hr (by decide) (by rfl) (dr_own 0 (dr_cons (de_lstRg1 (de_op op_addA od_add (de_var 1) de_int) rfl (by rfl) h.z_list (by rfl) h.z_range) (dr_cons (de_op op_addA od_add de_int (de_call n (cl__law_spoon h) hr (by decide) (by rfl) (dr_own 0 (dr_cons de_int dr_nil)))) dr_nil)))) da_nil)) (by rfl) h.z_tuple) sc__law_right.nd)
  (dss_cons (ds_set 3 (de_call n (cl__law_gcd h) hr (by decide) (by rfl) (dr_cons (de_ofO (do_lc (own := [("k", 7)]) rfl sc__law_right.nd (di_seq (de_var 2)) (blkOk_by (N := ["dish", "size", "numbers", "due", "group", "low", "names", "k"]) (sc := defScope s__law_right) (by decide +kernel)) (by decide) (fun _ _ _ _ _ => (dg_name (is := [7]) 7 (by decide) sc__law_right.nd)) (fun _ _ _ _ _ => dts_nil) (fun _ _ _ _ _ => (de_call n (cl__law_binom h) hr (by decide) (by rfl) (dr_cons (de_var 1) (dr_cons (de_var 7) dr_nil)))))) dr_nil)) sc__law_right.nd)
  (dss_cons (ds_if ((dw_or (dt_cmp (op_neS (hu64 hr)) od_neS (de_callB (cr_repr hr.g (hu66 hr)) cd_repr (by rfl) h.z_repr (by decide +kernel) (da_cons (de_call n (cl_common_factor h) hr (by decide) (by rfl) (dr_cons (de_var 1) (dr_cons (de_var 2) dr_nil))) da_nil)) (de_callB (cr_repr hr.g (hu66 hr)) cd_repr (by rfl) h.z_repr (by decide +kernel) (da_cons (de_var 3) da_nil)) (nomark _)) (dw_or1 (dt_cmp (op_neS (hu64 hr)) od_neS (de_call n (cl_prime_base h) hr (by decide) (by rfl) (dr_cons (de_var 1) dr_nil)) (de_call n (cl__law_prime_of h) hr (by decide) (by rfl) (dr_cons (de_var 1) dr_nil)) (nomark _))))).pt (dss_one (ds_ret de_bl)) dss_nil)
  (dss_cons (ds_set 4 (de_call n (cl__law_spoon h) hr (by decide) (by rfl) (dr_own 0 (dr_cons (de_op op_addA od_add (de_var 6) de_int) dr_nil))) sc__law_right.nd)
  (dss_one (ds_ret (de_cmp (op_eqS (hu64 hr)) od_eqS (de_callB (cr_repr hr.g (hu66 hr)) cd_repr (by rfl) h.z_repr (by decide +kernel) (da_cons (de_call n (cl_allowed_marks h) hr (by decide) (by rfl) (dr_cons (de_var 1) (dr_cons (de_var 6) (dr_cons (de_var 4) dr_nil)))) da_nil)) (de_callB (cr_repr hr.g (hu66 hr)) cd_repr (by rfl) h.z_repr (by decide +kernel) (da_cons (de_tuple (de_call n (cl__law_allowed h) hr (by decide) (by rfl) (dr_cons (de_var 1) (dr_cons (de_var 6) (dr_cons (de_var 4) dr_nil)))) (by rfl) h.z_tuple) da_nil)) (nomark _))))))))))))
theorem cl__law_right (h : Fx K mg base) : Cl P w K mg base 6 "_law_right" 1 F__law_right := by
  obtain ⟨fd, F⟩ := h.fc__law_right
  exact ⟨⟨_, fd, ["dish"], dfn_ok (g := g__law_right) F sc__law_right (fun n A outer s H E hr => d__law_right h n hr), h.m__law_right, F.kp, F.binds (fun _ _ _ _ _ _ us hl => match us, hl with | [_], _ => rfl)⟩, fun n as s as' e => runB_len e⟩
theorem d_law (h : Fx K mg base) {fa : Addr} (n : Nat) {A : Around} {outer : List Env} {s : Shared} {H : Hp} {E : XK} (hr : Rm 6 (A.deeper (envOfC "law" (defScope s_law) s.heap.objs.size fa (.ref (He.codeOf K ("law", none)))))) :
    PSs (bodyX P w K mg base ["script", "at", "told", "dish", "turn", "size"] "law" (defScope s_law) fa (.ref (He.codeOf K ("law", none))) A outer s H E) (defBody s_law) (rdS K (g_law n)) :=
  (dss_cons (ds_for PassesOwn.never rfl (di_range1 (by rfl) h.z_range (da_cons (de_callB (call_max2 rfl) cd_max (by rfl) h.z_max (by decide +kernel) (da_cons de_int (da_cons (de_callB (call_min2 rfl) cd_min (by rfl) h.z_min (by decide +kernel) (da_cons de_int (da_cons (de_callB call_len_seq cd_len (by rfl) h.z_len (by decide +kernel) (da_cons (de_var 0) da_nil)) da_nil))) da_nil))) da_nil)) (dg_name (is := [1]) 1 (by decide) sc_law.nd) (dss_cons (ds_own 3 (do_call n (cl__law_dish h) hr (by decide) (by rfl) (dr_cons (de_var 0) (dr_cons (de_var 1) dr_nil))) sc_law.nd)
  (dss_one (ds_for PassesOwn.never rfl (di_range1 (by rfl) h.z_range (da_cons de_int da_nil)) (dg_name (is := [4]) 4 (by decide) sc_law.nd) (dss_one (ds_if (dt_not (dt_truth (de_call n (cl__law_right h) hr (by decide) (by rfl) (dr_own 3 dr_nil)))) (dss_one (ds_ret de_bl)) dss_nil))))))
  (dss_cons (ds_own 2 (do_lst (da_cons (de_call n (cl_binomial h) hr (by decide) (by rfl) (dr_cons de_int (dr_cons de_int dr_nil))) (da_cons (de_call n (cl_common_factor h) hr (by decide) (by rfl) (dr_cons de_int (dr_cons (de_tup (da_cons de_int (da_cons de_int (da_cons de_int da_nil)))) dr_nil))) (da_cons (de_call n (cl_common_factor h) hr (by decide) (by rfl) (dr_cons de_int (dr_cons (de_tup (da_cons de_int (da_cons de_int (da_cons de_int da_nil)))) dr_nil))) (da_cons (de_call n (cl_prime_base h) hr (by decide) (by rfl) (dr_cons de_int dr_nil)) (da_cons (de_call n (cl_prime_base h) hr (by decide) (by rfl) (dr_cons de_int dr_nil)) da_nil)))))) sc_law.nd)
  (dss_cons (ds_own 2 (do_cat 2 (da_cons (de_call n (cl_allowed_marks h) hr (by decide) (by rfl) (dr_cons de_int (dr_cons de_int (dr_cons de_int dr_nil)))) (da_cons (de_call n (cl_allowed_marks h) hr (by decide) (by rfl) (dr_cons de_int (dr_cons de_int (dr_cons de_int dr_nil)))) (da_cons (de_call n (cl_allowed_marks h) hr (by decide) (by rfl) (dr_cons de_int (dr_cons de_int (dr_cons de_int dr_nil)))) (da_cons (de_call n (cl_binomial h) hr (by decide) (by rfl) (dr_cons de_int (dr_cons de_int dr_nil))) da_nil))))) sc_law.nd)
  (dss_cons (ds_app 2 (de_call n (cl_prime_base h) hr (by decide) (by rfl) (dr_cons de_int dr_nil)))
  (dss_cons (ds_if ((dw_or (dt_cmp (op_neS (hu64 hr)) od_neS (de_frz 2) (de_lst (da_cons de_int (da_cons de_int (da_cons de_int (da_cons de_int (da_cons de_non (da_cons (de_tup (da_cons de_int (da_cons de_int (da_cons de_int da_nil)))) (da_cons (de_tup da_nil) (da_cons (de_tup (da_cons de_int (da_cons de_int da_nil))) (da_cons de_int (da_cons de_non da_nil))))))))))) (nomark _)) (dw_or1 (dt_cmp (op_neS (hu64 hr)) od_neS (de_lst (da_cons (de_gint (by rfl) h.i_MAX_SIZE) (da_cons (de_gint (by rfl) h.i_MAX_LIST) da_nil))) (de_lst (da_cons de_int (da_cons de_int da_nil))) (nomark _))))).pt (dss_one (ds_ret de_bl)) dss_nil)
  (dss_cons (ds_ownLc (own := [("size", 5)]) 2 rfl sc_law.nd (di_seq (de_tup (da_cons de_int (da_cons de_int (da_cons de_int (da_cons de_int (da_cons de_int da_nil))))))) (blkOk_by (N := ["script", "at", "told", "dish", "turn", "size"]) (sc := defScope s_law) (by decide +kernel)) (by decide) (fun _ _ _ _ _ => (dg_name (is := [5]) 5 (by decide) sc_law.nd)) (fun _ _ _ _ _ => dts_nil) (fun _ _ _ _ _ => (de_call n (cl_prime_base h) hr (by decide) (by rfl) (dr_cons (de_var 5) dr_nil))))
  (dss_one (ds_ret (de_and (de_cmp (op_eqS (hu64 hr)) od_eqS (de_call n (cl_binomial h) hr (by decide) (by rfl) (dr_cons de_int (dr_cons de_int dr_nil))) de_int (nomark _)) (de_one (de_cmp (op_eqS (hu64 hr)) od_eqS (de_frz 2) (de_lst (da_cons de_int (da_cons de_int (da_cons de_int (da_cons de_non (da_cons de_int da_nil)))))) (nomark _))))))))))))
theorem cl_law (h : Fx K mg base) : Cl P w K mg base 7 "law" 1 F_law := by
  obtain ⟨fd, F⟩ := h.fc_law
  exact ⟨⟨_, fd, ["script"], dfn_ok (g := g_law) F sc_law (fun n A outer s H E hr => d_law h n hr), h.m_law, F.kp, F.binds (fun _ _ _ _ _ _ us hl => match us, hl with | [_], _ => rfl)⟩, fun n as s as' e => runB_len e⟩
end
/-! ### the head -/
def dd__law_dish : He.DefD := ⟨("_law_dish", none), "_law_dish", "_law_dish", defArgs s__law_dish, defBody s__law_dish, defScope s__law_dish, [], []⟩
def dd__law_allowed : He.DefD := ⟨("_law_allowed", none), "_law_allowed", "_law_allowed", defArgs s__law_allowed, defBody s__law_allowed, defScope s__law_allowed, [], []⟩
def dd__law_pascal : He.DefD := ⟨("_law_pascal", none), "_law_pascal", "_law_pascal", defArgs s__law_pascal, defBody s__law_pascal, defScope s__law_pascal, [], []⟩
def dd__law_binom : He.DefD := ⟨("_law_binom", none), "_law_binom", "_law_binom", defArgs s__law_binom, defBody s__law_binom, defScope s__law_binom, [], []⟩
def dd__law_double : He.DefD := ⟨("_law_double", none), "_law_double", "_law_double", defArgs s__law_double, defBody s__law_double, defScope s__law_double, [], []⟩
def dd__law_gcd : He.DefD := ⟨("_law_gcd", none), "_law_gcd", "_law_gcd", defArgs s__law_gcd, defBody s__law_gcd, defScope s__law_gcd, [], []⟩
def dd__law_spoon : He.DefD := ⟨("_law_spoon", none), "_law_spoon", "_law_spoon", defArgs s__law_spoon, defBody s__law_spoon, defScope s__law_spoon, [], []⟩
def dd__law_pick_of : He.DefD := ⟨("_law_pick_of", none), "_law_pick_of", "_law_pick_of", defArgs s__law_pick_of, defBody s__law_pick_of, defScope s__law_pick_of, [], []⟩
def dd__law_prime_of : He.DefD := ⟨("_law_prime_of", none), "_law_prime_of", "_law_prime_of", defArgs s__law_prime_of, defBody s__law_prime_of, defScope s__law_prime_of, [], []⟩
def dd__law_some_of : He.DefD := ⟨("_law_some_of", none), "_law_some_of", "_law_some_of", defArgs s__law_some_of, defBody s__law_some_of, defScope s__law_some_of, [], []⟩
def dd_allowed_in : He.DefD := ⟨("allowed_in", none), "allowed_in", "allowed_in", defArgs s_allowed_in, defBody s_allowed_in, defScope s_allowed_in, [], []⟩
def dd_is_integer : He.DefD := ⟨("is_integer", none), "is_integer", "is_integer", defArgs s_is_integer, defBody s_is_integer, defScope s_is_integer, [], []⟩
def dd_is_between : He.DefD := ⟨("is_between", none), "is_between", "is_between", defArgs s_is_between, defBody s_is_between, defScope s_is_between, [], []⟩
def dd_require_number : He.DefD := ⟨("require_number", none), "require_number", "require_number", defArgs s_require_number, defBody s_require_number, defScope s_require_number, [], []⟩
def dd_require_both : He.DefD := ⟨("require_both", none), "require_both", "require_both", defArgs s_require_both, defBody s_require_both, defScope s_require_both, [], []⟩
def dd_allowed_marks : He.DefD := ⟨("allowed_marks", none), "allowed_marks", "allowed_marks", defArgs s_allowed_marks, defBody s_allowed_marks, defScope s_allowed_marks, [], []⟩
def dd_choose : He.DefD := ⟨("choose", none), "choose", "choose", defArgs s_choose, defBody s_choose, defScope s_choose, [], []⟩
def dd_binomial : He.DefD := ⟨("binomial", none), "binomial", "binomial", defArgs s_binomial, defBody s_binomial, defScope s_binomial, [], []⟩
def dd_factor_of : He.DefD := ⟨("factor_of", none), "factor_of", "factor_of", defArgs s_factor_of, defBody s_factor_of, defScope s_factor_of, [], []⟩
def dd_common_in : He.DefD := ⟨("common_in", none), "common_in", "common_in", defArgs s_common_in, defBody s_common_in, defScope s_common_in, [], []⟩
def dd_are_numbers : He.DefD := ⟨("are_numbers", none), "are_numbers", "are_numbers", defArgs s_are_numbers, defBody s_are_numbers, defScope s_are_numbers, [], []⟩
def dd_require_numbers : He.DefD := ⟨("require_numbers", none), "require_numbers", "require_numbers", defArgs s_require_numbers, defBody s_require_numbers, defScope s_require_numbers, [], []⟩
def dd_common_factor : He.DefD := ⟨("common_factor", none), "common_factor", "common_factor", defArgs s_common_factor, defBody s_common_factor, defScope s_common_factor, [], []⟩
def dd_prime_base : He.DefD := ⟨("prime_base", none), "prime_base", "prime_base", defArgs s_prime_base, defBody s_prime_base, defScope s_prime_base, [], []⟩
def dd__law_right : He.DefD := ⟨("_law_right", none), "_law_right", "_law_right", defArgs s__law_right, defBody s__law_right, defScope s__law_right, [], []⟩
def dd_law : He.DefD := ⟨("law", none), "law", "law", defArgs s_law, defBody s_law, defScope s_law, [], []⟩
def fn : List He.DefD := [dd__law_dish, dd__law_allowed, dd__law_pascal, dd__law_binom, dd__law_double, dd__law_gcd, dd__law_spoon, dd__law_pick_of, dd__law_prime_of, dd__law_some_of, dd_allowed_in, dd_is_integer, dd_is_between, dd_require_number, dd_require_both, dd_allowed_marks, dd_choose, dd_binomial, dd_factor_of, dd_common_in, dd_are_numbers, dd_require_numbers, dd_common_factor, dd_prime_base, dd__law_right, dd_law]
def fa : List He.Fa := [.glo "_law_dish", .glo "_law_allowed", .glo "_law_pascal", .glo "_law_binom", .glo "_law_double", .glo "_law_gcd", .glo "_law_spoon", .glo "_law_pick_of", .glo "_law_prime_of", .glo "_law_some_of", .glo "allowed_in", .glo "is_integer", .glo "is_between", .glo "require_number", .glo "require_both", .glo "allowed_marks", .glo "choose", .glo "binomial", .glo "factor_of", .glo "common_in", .glo "are_numbers", .glo "require_numbers", .glo "common_factor", .glo "prime_base", .glo "_law_right", .glo "law", .free "abs", .free "all", .free "bool", .free "int", .free "isinstance", .free "len", .free "list", .free "max", .free "min", .free "next", .free "range", .free "repr", .free "set", .free "sorted", .free "sum", .free "tuple", .int "GREATEST" 1000000000000000000000000000000000000000000000000000000000000, .int "MAX_LIST" 200, .int "MAX_SIZE" 60]
def tf : List He.Defn := [("prime_base", none)]
def names0 : List PySem.Str := ["FewError", "InvalidOperation", "InvalidNumber", "GREATEST", "is_integer", "is_between", "require_number", "MAX_SIZE", "MAX_LIST", "choose", "binomial", "factor_of", "common_in", "are_numbers", "require_numbers", "common_factor", "prime_base", "allowed_in", "require_both", "allowed_marks", "_law_dish", "_law_spoon", "_law_pick_of", "_law_pascal", "_law_binom", "_law_double", "_law_some_of", "_law_gcd", "_law_prime_of", "_law_allowed"]
def names1 : List PySem.Str := ["_law_right"]
def names : List PySem.Str := names0 ++ names1
abbrev R : PySem.W.OpenRow := PySem.W.OpenLaw.row PySem.Challenge.rw_fewnames_k35_binomials_told
abbrev hk : PySem.W.Hook := He.hookX 4 fa fn [] tf fun _ => true
def ob (s : PySem.W.SharedT) : He.AlX := He.obsX 4 fa fn [] tf (fun _ => true) (HandSHeadRun.getT s)
theorem ob_eq (s : PySem.W.SharedT) : ob s = hk.obs s.abs := He.obsX_eq (HandSHeadRun.getT_eq s)
theorem run (w : World) : HandSHeadRun.RunEq R (PySem.W.view R.prog [35]) hk ob 6000 names w := by
  intro os
  kernel_rfl
theorem fx {K : PySem.W.Frag} {h base : Heap} {mg : Str → Option Value} {w : World} (X : K.In h) (G : h.Ns mainGlobals mg) (c : He.SaysX fa fn [] tf (fun _ => true) w h K) (tb : ∀ p ∈ tf.map (He.cT K), LamX.TabB base mg p.1 p.2) :
    @Fx ⟨(tf.map (He.cT K)).map (·.2)⟩ K mg base := by
  letI : Tabs := ⟨(tf.map (He.cT K)).map (·.2)⟩
  have c1 := c.t.d
  refine ⟨
(by obtain ⟨fd, F⟩ := c1.def_ 0 (d := dd__law_dish) rfl; exact ⟨fd, funC_of F⟩),
    He.glo_ok X G (c1.fact 0 (f := .glo "_law_dish") rfl),
    (by obtain ⟨fd, F⟩ := c1.def_ 1 (d := dd__law_allowed) rfl; exact ⟨fd, funC_of F⟩),
    He.glo_ok X G (c1.fact 1 (f := .glo "_law_allowed") rfl),
    (by obtain ⟨fd, F⟩ := c1.def_ 2 (d := dd__law_pascal) rfl; exact ⟨fd, funC_of F⟩),
    He.glo_ok X G (c1.fact 2 (f := .glo "_law_pascal") rfl),
    (by obtain ⟨fd, F⟩ := c1.def_ 3 (d := dd__law_binom) rfl; exact ⟨fd, funC_of F⟩),
    He.glo_ok X G (c1.fact 3 (f := .glo "_law_binom") rfl),
    (by obtain ⟨fd, F⟩ := c1.def_ 4 (d := dd__law_double) rfl; exact ⟨fd, funC_of F⟩),
    He.glo_ok X G (c1.fact 4 (f := .glo "_law_double") rfl),
    (by obtain ⟨fd, F⟩ := c1.def_ 5 (d := dd__law_gcd) rfl; exact ⟨fd, funC_of F⟩),
    He.glo_ok X G (c1.fact 5 (f := .glo "_law_gcd") rfl),
    (by obtain ⟨fd, F⟩ := c1.def_ 6 (d := dd__law_spoon) rfl; exact ⟨fd, funC_of F⟩),
    He.glo_ok X G (c1.fact 6 (f := .glo "_law_spoon") rfl),
    (by obtain ⟨fd, F⟩ := c1.def_ 7 (d := dd__law_pick_of) rfl; exact ⟨fd, funC_of F⟩),
    He.glo_ok X G (c1.fact 7 (f := .glo "_law_pick_of") rfl),
    (by obtain ⟨fd, F⟩ := c1.def_ 8 (d := dd__law_prime_of) rfl; exact ⟨fd, funC_of F⟩),
    He.glo_ok X G (c1.fact 8 (f := .glo "_law_prime_of") rfl),
    (by obtain ⟨fd, F⟩ := c1.def_ 9 (d := dd__law_some_of) rfl; exact ⟨fd, funC_of F⟩),
    He.glo_ok X G (c1.fact 9 (f := .glo "_law_some_of") rfl),
    (by obtain ⟨fd, F⟩ := c1.def_ 10 (d := dd_allowed_in) rfl; exact ⟨fd, funC_of F⟩),
    He.glo_ok X G (c1.fact 10 (f := .glo "allowed_in") rfl),
    (by obtain ⟨fd, F⟩ := c1.def_ 11 (d := dd_is_integer) rfl; exact ⟨fd, funC_of F⟩),
    He.glo_ok X G (c1.fact 11 (f := .glo "is_integer") rfl),
    (by obtain ⟨fd, F⟩ := c1.def_ 12 (d := dd_is_between) rfl; exact ⟨fd, funC_of F⟩),
    He.glo_ok X G (c1.fact 12 (f := .glo "is_between") rfl),
    (by obtain ⟨fd, F⟩ := c1.def_ 13 (d := dd_require_number) rfl; exact ⟨fd, funC_of F⟩),
    He.glo_ok X G (c1.fact 13 (f := .glo "require_number") rfl),
    (by obtain ⟨fd, F⟩ := c1.def_ 14 (d := dd_require_both) rfl; exact ⟨fd, funC_of F⟩),
    He.glo_ok X G (c1.fact 14 (f := .glo "require_both") rfl),
    (by obtain ⟨fd, F⟩ := c1.def_ 15 (d := dd_allowed_marks) rfl; exact ⟨fd, funC_of F⟩),
    He.glo_ok X G (c1.fact 15 (f := .glo "allowed_marks") rfl),
    (by obtain ⟨fd, F⟩ := c1.def_ 16 (d := dd_choose) rfl; exact ⟨fd, funC_of F⟩),
    He.glo_ok X G (c1.fact 16 (f := .glo "choose") rfl),
    (by obtain ⟨fd, F⟩ := c1.def_ 17 (d := dd_binomial) rfl; exact ⟨fd, funC_of F⟩),
    He.glo_ok X G (c1.fact 17 (f := .glo "binomial") rfl),
    (by obtain ⟨fd, F⟩ := c1.def_ 18 (d := dd_factor_of) rfl; exact ⟨fd, funC_of F⟩),
    He.glo_ok X G (c1.fact 18 (f := .glo "factor_of") rfl),
    (by obtain ⟨fd, F⟩ := c1.def_ 19 (d := dd_common_in) rfl; exact ⟨fd, funC_of F⟩),
    He.glo_ok X G (c1.fact 19 (f := .glo "common_in") rfl),
    (by obtain ⟨fd, F⟩ := c1.def_ 20 (d := dd_are_numbers) rfl; exact ⟨fd, funC_of F⟩),
    He.glo_ok X G (c1.fact 20 (f := .glo "are_numbers") rfl),
    (by obtain ⟨fd, F⟩ := c1.def_ 21 (d := dd_require_numbers) rfl; exact ⟨fd, funC_of F⟩),
    He.glo_ok X G (c1.fact 21 (f := .glo "require_numbers") rfl),
    (by obtain ⟨fd, F⟩ := c1.def_ 22 (d := dd_common_factor) rfl; exact ⟨fd, funC_of F⟩),
    He.glo_ok X G (c1.fact 22 (f := .glo "common_factor") rfl),
    (by obtain ⟨fd, F⟩ := c1.def_ 23 (d := dd_prime_base) rfl; exact ⟨fd, funC_of F⟩),
    He.glo_ok X G (c1.fact 23 (f := .glo "prime_base") rfl),
    tabB_of (tb (He.cT K ("prime_base", none)) (List.mem_map.mpr ⟨("prime_base", none), by simp [tf], rfl⟩)),
    List.mem_map.mpr ⟨He.cT K ("prime_base", none), List.mem_map.mpr ⟨("prime_base", none), by simp [tf], rfl⟩, rfl⟩,
    (by obtain ⟨fd, F⟩ := c1.def_ 24 (d := dd__law_right) rfl; exact ⟨fd, funC_of F⟩),
    He.glo_ok X G (c1.fact 24 (f := .glo "_law_right") rfl),
    (by obtain ⟨fd, F⟩ := c1.def_ 25 (d := dd_law) rfl; exact ⟨fd, funC_of F⟩),
    He.glo_ok X G (c1.fact 25 (f := .glo "law") rfl),
    He.free_ok X G (c1.fact 26 (f := .free "abs") rfl),
    He.free_ok X G (c1.fact 27 (f := .free "all") rfl),
    He.free_ok X G (c1.fact 28 (f := .free "bool") rfl),
    He.free_ok X G (c1.fact 29 (f := .free "int") rfl),
    He.free_ok X G (c1.fact 30 (f := .free "isinstance") rfl),
    He.free_ok X G (c1.fact 31 (f := .free "len") rfl),
    He.free_ok X G (c1.fact 32 (f := .free "list") rfl),
    He.free_ok X G (c1.fact 33 (f := .free "max") rfl),
    He.free_ok X G (c1.fact 34 (f := .free "min") rfl),
    He.free_ok X G (c1.fact 35 (f := .free "next") rfl),
    He.free_ok X G (c1.fact 36 (f := .free "range") rfl),
    He.free_ok X G (c1.fact 37 (f := .free "repr") rfl),
    He.free_ok X G (c1.fact 38 (f := .free "set") rfl),
    He.free_ok X G (c1.fact 39 (f := .free "sorted") rfl),
    He.free_ok X G (c1.fact 40 (f := .free "sum") rfl),
    He.free_ok X G (c1.fact 41 (f := .free "tuple") rfl),
    He.int_ok X G (c1.fact 42 (f := .int "GREATEST" 1000000000000000000000000000000000000000000000000000000000000) rfl),
    He.int_ok X G (c1.fact 43 (f := .int "MAX_LIST" 200) rfl),
    He.int_ok X G (c1.fact 44 (f := .int "MAX_SIZE" 60) rfl)⟩
theorem fin {w : World} {mg : Str → Option Value} {f : Addr} {h : Heap} {K : PySem.W.Frag} (KX : K.In h) (G : h.Ns mainGlobals mg) (hmg : mg ("law" : Str) = some (.ref f)) (c : He.SaysX fa fn [] tf (fun _ => true) w h K)
    (hF : ∀ ns : List Int, ns.length ≤ 63 → (∀ z ∈ ns, Builtin.Int.intBits z ≤ 1048576) → ∃ m as', F_law m [.dat (.scr ns)] = some (.dat (.bl true), as')) : LawAtG PySem.Challenge.rw_fewnames_k35_binomials_told w K 7 63 "script" mg f h := by
  letI : Tabs := ⟨(tf.map (He.cT K)).map (·.2)⟩
  have e1 := hmg.symm.trans (He.glo_ok KX G (c.t.d.fact 25 (f := .glo "law") rfl))
  cases e1
  obtain ⟨fd, F⟩ := c.t.d.def_ 25 (d := dd_law) rfl
  have b := FunD.bindsA (ps := ["script"]) F fun _ _ _ _ _ _ us hl => match us, hl with | [_], _ => rfl
  refine ⟨fd, tf.map (He.cT K), spI K 1 F_law, fun p hp => ?_, fun p hp => ?_, fun p hp => ?_, fun s v => b s [v] rfl, fun H a ns hl hz hT hS => sp_law hF H a ns hl hz hT hS, fun base KB GB TB => ?_⟩
  · obtain ⟨q, hq, e⟩ := List.mem_map.mp hp
    rw [← e]; exact c.empty q hq
  · obtain ⟨q, hq, e⟩ := List.mem_map.mp hp
    rw [← e]; exact c.out q hq
  · obtain ⟨q, hq, e⟩ := List.mem_map.mp hp
    rw [← e]; exact PySem.W.codeHd_of_K KX (c.hd q hq)
  · have hx := fx KX G c TB
    exact dfn_ok (g := g_law) (funC_of (x := "law") (st := s_law) F) sc_law (fun n A outer s H E hr => d_law hx n hr)
/-- the law, from the plain one -/
theorem law_holds (hF : ∀ ns : List Int, ns.length ≤ 63 → (∀ z ∈ ns, Builtin.Int.intBits z ≤ 1048576) → ∃ m as', F_law m [.dat (.scr ns)] = some (.dat (.bl true), as')) : PySem.Challenge.rw_fewnames_k35_binomials_told.Holds := by
  open PySem.W PySem.Calls in
  w_on; o_law
  refine HandSHeadRun.head_any (r := PySem.W.OpenLaw.row PySem.Challenge.rw_fewnames_k35_binomials_told) (q := PySem.W.view (PySem.W.OpenLaw.row PySem.Challenge.rw_fewnames_k35_binomials_told).prog [35]) (H := hk) (ob := ob) (M := 6000) (loose := names) (d := HandSHeadRun.topDef (PySem.W.OpenLaw.row PySem.Challenge.rw_fewnames_k35_binomials_told).prog 35) (kwd := []) ob_eq
    (by kernel_rfl) (fun s => by kernel_rfl) run (by kernel_rfl) (by kernel_rfl) (by kernel_rfl) (by rfl) (by first | assumption | decide +kernel) (by decide +kernel) ⟨rfl, rfl, rfl, rfl, rfl, by decide +kernel⟩ ?hw ?hc
  case hw => w_witness2
  case hc =>
    refine M.walk_G (l := PySem.Challenge.rw_fewnames_k35_binomials_told) (n := 63) (k := 7) (x := "script") rfl (by decide) (by kernel_rfl) ⟨⟨rfl, by decide, by decide⟩, rfl⟩ ?F
    intro w mg f h Y G hmg0
    obtain ⟨K, KX, c⟩ := Y
    have hmg : mg ("law" : PySem.Str) = some (.ref f) := by
      have e : (HandSHeadRun.topDef (PySem.W.OpenLaw.row PySem.Challenge.rw_fewnames_k35_binomials_told).prog 35).name = ("law" : PySem.Str) := by kernel_rfl
      rw [← e]
      exact hmg0
    exact ⟨K, KX, fin KX G hmg c hF⟩
end Lk

namespace Lk
open PySem PySem.Spec PyProof.Rows L2 M
/-! choose -/
def chM (t : Int) : Nat → Int
  | 0 => 1
  | k + 1 => chM t k * (t - k) / (k + 1)
theorem small_le {i : Int} (h1 : -1000 ≤ i) (h2 : i ≤ 1000) : small i = true := by rw [small_iff]; omega
theorem small62_le {i : Int} (h1 : -1000 ≤ i) (h2 : i ≤ 1000) : small62 i = true := by rw [small62_iff]; omega
theorem log_le {i : Int} (h1 : 0 ≤ i) (h2 : i ≤ 1000) : i.natAbs.log2 < 9000 := by
  have : i.natAbs < 2 ^ 9000 := Nat.lt_of_le_of_lt (show i.natAbs ≤ 1000 by omega) (by decide +kernel)
  by_cases z : i.natAbs = 0
  · rw [z]; decide
  · exact (Nat.log2_lt z).mpr this
theorem choose_eq (n : Nat) (t : Int) (k : Nat) (ht : 0 ≤ t) (ht2 : t ≤ 60) (hk : k ≤ 60) : ∃ as', F_choose n [.dat (.int t), .dat (.int k)] = some (.dat (.int (chM t k)), as') := by
  let R : Nat → Rho → Prop := fun m ρ => ∃ s, ρ = [some (.dat (.int t)), some (.dat (.int k)), some (.dat (.int (chM t m))), s] ∧ isIo ρ 3 = false
  obtain ⟨ρ', e, s, rfl, hs⟩ := forL_rg (tg := tName 3) (body := sSet 2 (e2 fdivD (e2 mulD (eV 2) (e2 subD (eV 0) (eV 3))) (e2 addD (eV 3) (eC (.int 1))))) R 0 k (fun m hm ρ ⟨s, e, hs⟩ => by
    subst e
    have h1 : small (t - m) = true := small_le (by omega) (by omega)
    have h2 : (0 : Int) < m + 1 := by omega
    have h3 : ((m : Int) + 1).natAbs.log2 < 9000 := log_le (by omega) (by omega)
    refine ⟨[some (.dat (.int t)), some (.dat (.int k)), some (.dat (.int (chM t m))), some (.dat (.int m))], [some (.dat (.int t)), some (.dat (.int k)), some (.dat (.int (chM t (m + 1)))), some (.dat (.int m))], ?_, ?_, ⟨_, rfl, rfl⟩⟩
    · simp only [tName, hs, Int.zero_add]; rfl
    · simp [sSet, bndS, e2, bnd, eV, eC, Rz.bind, ofO, frc_eq, subD, addD, mulD, fdivD, h1, h2, h3, isIo, chM]) [some (.dat (.int t)), some (.dat (.int k)), some (.dat (.int 1)), none] ⟨none, rfl, rfl⟩
  refine ⟨_, runB_rt (s := .dat (.int (chM t k))) (ρ := [some (.dat (.int t)), some (.dat (.int k)), some (.dat (.int (chM t k))), s]) rfl ?_⟩
  show g_choose n [some (.dat (.int t)), some (.dat (.int k)), none, none] = _
  have hr : small62 k = true := small62_le (by omega) (by omega)
  unfold g_choose
  rw [seq_nx (ρ1 := [some (.dat (.int t)), some (.dat (.int k)), some (.dat (.int 1)), none]) (by simp [sSet, bndS, eC, Rz.bind, isIo])]
  rw [seq_nx (ρ1 := [some (.dat (.int t)), some (.dat (.int k)), some (.dat (.int (chM t k))), s]) (by
    simp only [sFor, iRg, aCons, aNil, eV, Rz.bind, List.getElem?_cons_succ, List.getElem?_cons_zero, rg1, hr, if_true, Int.toNat_natCast]
    exact e)]
  simp [sRet, bndS, eV, Rz.bind]
/-! rows of Pascal -/
def nextRow (r : List Int) : List Int := [1] ++ (List.range (r.length - 1)).map (fun i => r.getD i 0 + r.getD (i + 1) 0) ++ [1]
def pasc : Nat → List Int
  | 0 => [1]
  | m + 1 => nextRow (pasc m)
theorem pasc_len : ∀ m, (pasc m).length = m + 1
  | 0 => rfl
  | m + 1 => by simp [pasc, nextRow, pasc_len m]
theorem row_step (ρ0 ρ2 : Option Sl) (r : List Int) (hl : 0 < r.length) (hl2 : r.length ≤ 100) :
    sSet 1 (e2 addD (e2 addD (eLst (aCons (eC (.int 1)) aNil)) (eFz (oLc (iRg rg1 (aCons (e2 subD (eB lenD (aCons (eV 1) aNil)) (eC (.int 1))) aNil)) (tName 3) tYesD (e2 addD (e2 ixD (eV 1) (eV 3)) (e2 ixD (eV 1) (e2 addD (eV 3) (eC (.int 1))))) [3]))) (eLst (aCons (eC (.int 1)) aNil))) [ρ0, some (.dat (.lst (r.map D.int))), ρ2, none] =
      .ok (.nx, [ρ0, some (.dat (.lst ((nextRow r).map D.int))), ρ2, none]) := by
  have h62 : small62 ((r.length : Int) - 1) = true := small62_le (by omega) (by omega)
  have hlc := lc_map (fi := iRg rg1 (aCons (e2 subD (eB lenD (aCons (eV 1) aNil)) (eC (.int 1))) aNil)) (tg := tName 3) (fe := e2 addD (e2 ixD (eV 1) (eV 3)) (e2 ixD (eV 1) (e2 addD (eV 3) (eC (.int 1))))) (vs := [3]) (ρ := [ρ0, some (.dat (.lst (r.map D.int))), ρ2, none]) (ρ0 := [ρ0, some (.dat (.lst (r.map D.int))), ρ2, none])
    (ds := rgD 0 (r.length - 1)) (fun d => match d with | .int i => .int (r.getD i.toNat 0 + r.getD (i.toNat + 1) 0) | d => d)
    (by simp [iRg, aCons, aNil, e2, bnd, eB, bndA, eV, eC, Rz.bind, ofO, frc_eq, lenD, subD, rg1, h62]) rfl (fun d hd => by
      obtain ⟨k, hk, rfl⟩ := rgD_mem hd
      have k1 : k < r.length := by omega
      have k2 : k + 1 < r.length := by omega
      have k3 : (k : Int) + 1 < r.length := by omega
      refine ⟨[ρ0, some (.dat (.lst (r.map D.int))), ρ2, some (.dat (.int k))], [ρ0, some (.dat (.lst (r.map D.int))), ρ2, some (.dat (.int k))], ?_, ?_, rfl, rfl⟩
      · simp [tName, wipeR, isIo]
      · have c1 : ((k : Int) + 1).toNat = k + 1 := by omega
        have c2 : (0 : Int) ≤ (k : Int) + 1 := by omega
        simp [e2, bnd, eV, eC, Rz.bind, ofO, frc_eq, addD, ixD, atI, ixN, iLt_eq, k1, k2, k3, c1, c2]) rfl (by simp [rgD, sizeLine]; omega)
  have hm : (rgD 0 (r.length - 1)).map (fun d => match d with | .int i => D.int (r.getD i.toNat 0 + r.getD (i.toNat + 1) 0) | d => d) = ((List.range (r.length - 1)).map (fun i => r.getD i 0 + r.getD (i + 1) 0)).map D.int := by
    simp [rgD]
  rw [hm] at hlc
  have z0 : (500 : Nat) ≤ sizeLine := by decide +kernel
  have a1 : addD (.lst [.int 1]) (.lst (((List.range (r.length - 1)).map (fun i => r.getD i 0 + r.getD (i + 1) 0)).map D.int)) = some (.lst ([D.int 1] ++ ((List.range (r.length - 1)).map (fun i => r.getD i 0 + r.getD (i + 1) 0)).map D.int)) := if_pos (by simp; omega)
  have a2 : addD (.lst ([D.int 1] ++ ((List.range (r.length - 1)).map (fun i => r.getD i 0 + r.getD (i + 1) 0)).map D.int)) (.lst [.int 1]) = some (.lst ([D.int 1] ++ ((List.range (r.length - 1)).map (fun i => r.getD i 0 + r.getD (i + 1) 0)).map D.int ++ [D.int 1])) := if_pos (by simp; omega)
  have l1 : ∀ ρ, eLst (aCons (eC (.int 1)) aNil) ρ = .ok (.lst [.int 1], ρ) := fun ρ => by simp [eLst, bndA, aCons, aNil, eC, Rz.bind, sizeLine]
  rw [set_ok (e2_ok (e2_ok (l1 _) (fz_ok hlc) a1) (l1 _) a2) rfl]
  simp [nextRow]
theorem pascal_eq (n m : Nat) (hm : m ≤ 60) : ∃ as', F__law_pascal n [.dat (.int m)] = some (.dat (.lst ((pasc m).map D.int)), as') := by
  let R : Nat → Rho → Prop := fun k ρ => ∃ s, ρ = [some (.dat (.int m)), some (.dat (.lst ((pasc k).map D.int))), s, none] ∧ isIo ρ 2 = false
  obtain ⟨ρ', e, s, rfl, hs⟩ := forL_rg (tg := tName 2) (body := sSet 1 (e2 addD (e2 addD (eLst (aCons (eC (.int 1)) aNil)) (eFz (oLc (iRg rg1 (aCons (e2 subD (eB lenD (aCons (eV 1) aNil)) (eC (.int 1))) aNil)) (tName 3) tYesD (e2 addD (e2 ixD (eV 1) (eV 3)) (e2 ixD (eV 1) (e2 addD (eV 3) (eC (.int 1))))) [3]))) (eLst (aCons (eC (.int 1)) aNil)))) R 0 m (fun k hk ρ ⟨s, e, hs⟩ => by
    subst e
    refine ⟨[some (.dat (.int m)), some (.dat (.lst ((pasc k).map D.int))), some (.dat (.int k)), none], _, ?_, row_step _ _ (pasc k) (by rw [pasc_len]; omega) (by rw [pasc_len]; omega), ⟨_, rfl, rfl⟩⟩
    simp only [tName, hs, Int.zero_add]; rfl) [some (.dat (.int m)), some (.dat (.lst [.int 1])), none, none] ⟨none, rfl, rfl⟩
  refine ⟨_, runB_rt (s := .dat (.lst ((pasc m).map D.int))) (ρ := [some (.dat (.int m)), some (.dat (.lst ((pasc m).map D.int))), s, none]) rfl ?_⟩
  show g__law_pascal n [some (.dat (.int m)), none, none, none] = _
  have hr : small62 m = true := small62_le (by omega) (by omega)
  unfold g__law_pascal
  rw [seq_nx (ρ1 := [some (.dat (.int m)), some (.dat (.lst [.int 1])), none, none]) (by simp [sSet, bndS, eLst, bndA, aCons, aNil, eC, Rz.bind, isIo, sizeLine])]
  rw [seq_nx (ρ1 := [some (.dat (.int m)), some (.dat (.lst ((pasc m).map D.int))), s, none]) (by
    simp only [sFor, iRg, aCons, aNil, eV, Rz.bind, List.getElem?_cons_succ, List.getElem?_cons_zero, rg1, hr, if_true, Int.toNat_natCast]
    exact e)]
  simp [sRet, bndS, eV, Rz.bind]
theorem binom_eq (n m k : Nat) (hm : m ≤ 60) (hk : k ≤ m) : ∃ as', F__law_binom n [.dat (.int m), .dat (.int k)] = some (.dat (.int ((pasc m).getD k 0)), as') := by
  obtain ⟨as', hp⟩ := pascal_eq n m hm
  refine ⟨_, runB_rt (s := .dat (.int ((pasc m).getD k 0))) (ρ := [some (.dat (.int m)), some (.dat (.int k)), some (.dat (.lst ((pasc m).map D.int)))]) rfl ?_⟩
  show g__law_binom n [some (.dat (.int m)), some (.dat (.int k)), none] = _
  have e1 : eCall F__law_pascal n (rCons (eV 0) rNil) [some (.dat (.int m)), some (.dat (.int k)), none] = .ok (.lst ((pasc m).map D.int), [some (.dat (.int m)), some (.dat (.int k)), none]) :=
    call_d (ds := [.int m]) (by simp [rCons, rNil, eV, Rz.bind]) hp
  have hl : k < (pasc m).length := by rw [pasc_len]; omega
  have h1 : (k : Int) < m + 1 := by omega
  have h2 : ¬ ((k : Int) < 0) := by omega
  unfold g__law_binom
  simp [sSeq, sSet, bndS, e1, Rz.bind, isIo, sRet, eIf, bndT, M.tB, bnd_T, eInRg, bnd, bndA, aCons, aNil, e2, eV, eC, ofO, frc_eq, addD, inRgD, rgPr, iLt_eq, h1, h2, ixD, atI, ixN, hl]
/-! tables -/
theorem tab1 : (List.range 61).all (fun m => (List.range (m + 1)).all fun k => chM m k == (pasc m).getD k 0) = true := by decide +kernel
end Lk

namespace Lk
open PySem PySem.Spec PyProof.Rows L2 M
theorem isint_eq (n : Nat) (i : Int) (h1 : -1000 ≤ i) (h2 : i ≤ 1000) : ∃ as', F_is_integer n [.dat (.int i)] = some (.dat (.bl true), as') := by
  refine ⟨_, runB_rt (s := .dat (.bl true)) (ρ := [some (.dat (.int i))]) rfl ?_⟩
  show g_is_integer n [some (.dat (.int i))] = _
  have a1 : -1000000000000000000000000000000000000000000000000000000000000 < i := by omega
  have a2 : i < 1000000000000000000000000000000000000000000000000000000000000 := by omega
  have q1 : isiD [.int i, .con (.ty "int")] = some (.bl true) := rfl
  have q2 : isiD [.int i, .con (.ty "bool")] = some (.bl false) := rfl
  simp [g_is_integer, sRet, bndS, eAnd, eNot, eCh, eB, bndA, aCons, aNil, eV, eC, Rz.bind, ofO, frc_eq, q1, q2, bnd, trD, e1, negD, ltD, iLt_eq, a1, a2]
theorem between_eq (n : Nat) (i lo hi : Int) (h1 : -1000 ≤ lo) (h2 : lo ≤ i) (h3 : i ≤ hi) (h4 : hi ≤ 1000) : ∃ as', F_is_between n [.dat (.int i), .dat (.int lo), .dat (.int hi)] = some (.dat (.bl true), as') := by
  obtain ⟨as', e⟩ := isint_eq n i (by omega) (by omega)
  refine ⟨_, runB_rt (s := .dat (.bl true)) (ρ := [some (.dat (.int i)), some (.dat (.int lo)), some (.dat (.int hi))]) rfl ?_⟩
  show g_is_between n [some (.dat (.int i)), some (.dat (.int lo)), some (.dat (.int hi))] = _
  have e1 : eCall F_is_integer n (rCons (eV 0) rNil) [some (.dat (.int i)), some (.dat (.int lo)), some (.dat (.int hi))] = .ok (.bl true, [some (.dat (.int i)), some (.dat (.int lo)), some (.dat (.int hi))]) :=
    call_d (ds := [.int i]) (by simp [rCons, rNil, eV, Rz.bind]) e
  have l1 : leD (.int lo) (.int i) = some (.bl true) := by show some (D.bl (!iLt i lo)) = _; rw [not_iLt, decide_eq_true h2]
  have l2 : leD (.int i) (.int hi) = some (.bl true) := by show some (D.bl (!iLt hi i)) = _; rw [not_iLt, decide_eq_true h3]
  simp [g_is_between, sRet, bndS, eAnd, e1, eCh, eV, eC, Rz.bind, ofO, frc_eq, bnd, l1, l2]
theorem reqnum_eq (n : Nat) (i lo hi : Int) (h1 : -1000 ≤ lo) (h2 : lo ≤ i) (h3 : i ≤ hi) (h4 : hi ≤ 1000) : ∃ as', F_require_number n [.dat (.int i), .dat (.int lo), .dat (.int hi)] = some (.dat .non, as') := by
  obtain ⟨as', e⟩ := between_eq n i lo hi h1 h2 h3 h4
  refine ⟨_, runB_nx (ρ := [some (.dat (.int i)), some (.dat (.int lo)), some (.dat (.int hi))]) rfl ?_⟩
  show g_require_number n [some (.dat (.int i)), some (.dat (.int lo)), some (.dat (.int hi))] = _
  have e1 : eCall F_is_between n (rCons (eV 0) (rCons (eV 1) (rCons (eV 2) rNil))) [some (.dat (.int i)), some (.dat (.int lo)), some (.dat (.int hi))] = .ok (.bl true, [some (.dat (.int i)), some (.dat (.int lo)), some (.dat (.int hi))]) :=
    call_d (ds := [.int i, .int lo, .int hi]) (by simp [rCons, rNil, eV, Rz.bind]) e
  simp [g_require_number, sIf, bndTS, tNotD, bndT_T, tTr, bnd_T, e1, Rz.bind, trD, sNx]
theorem binomial_eq (n : Nat) (t k : Nat) (ht : t ≤ 60) (hk : k ≤ t) : ∃ as', F_binomial n [.dat (.int t), .dat (.int k)] = some (.dat (.int (chM t k)), as') := by
  obtain ⟨a1, r1⟩ := reqnum_eq n t 0 60 (by omega) (by omega) (by omega) (by omega)
  obtain ⟨a2, r2⟩ := reqnum_eq n k 0 t (by omega) (by omega) (by omega) (by omega)
  obtain ⟨a3, r3⟩ := choose_eq n t k (by omega) (by omega) (by omega)
  refine ⟨_, runB_rt (s := .dat (.int (chM t k))) (ρ := [some (.dat (.int t)), some (.dat (.int k))]) rfl ?_⟩
  show g_binomial n [some (.dat (.int t)), some (.dat (.int k))] = _
  have e1 : eCall F_require_number n (rCons (eV 0) (rCons (eC (.int 0)) (rCons (eC (.int 60)) rNil))) [some (.dat (.int t)), some (.dat (.int k))] = .ok (.non, [some (.dat (.int t)), some (.dat (.int k))]) :=
    call_d (ds := [.int t, .int 0, .int 60]) (by simp [rCons, rNil, eV, eC, Rz.bind]) r1
  have e2 : eCall F_require_number n (rCons (eV 1) (rCons (eC (.int 0)) (rCons (eV 0) rNil))) [some (.dat (.int t)), some (.dat (.int k))] = .ok (.non, [some (.dat (.int t)), some (.dat (.int k))]) :=
    call_d (ds := [.int k, .int 0, .int t]) (by simp [rCons, rNil, eV, eC, Rz.bind]) r2
  have e3 : eCall F_choose n (rCons (eV 0) (rCons (eV 1) rNil)) [some (.dat (.int t)), some (.dat (.int k))] = .ok (.int (chM t k), [some (.dat (.int t)), some (.dat (.int k))]) :=
    call_d (ds := [.int t, .int k]) (by simp [rCons, rNil, eV, eC, Rz.bind]) r3
  simp [g_binomial, sSeq, sDrop, bndS, e1, e2, e3, Rz.bind, sNx, sRet]
end Lk

namespace Lk
open PySem PySem.Spec PyProof.Rows L2 M
theorem euclid (st : Nat → Nat → Rho) (t : FT) (body : FS) (ht : ∀ a b, t (st a b) = .ok (decide (0 < b), st a b)) (hb : ∀ a b, 0 < b → body (st a b) = .ok (.nx, st b (a % b))) :
    ∀ (k a b n : Nat), b < 2 ^ k → 2 * k + 1 ≤ n → whl t body n (st a b) = .ok (.nx, st (Nat.gcd a b) 0) := by
  intro k
  induction k with
  | zero =>
    intro a b n h1 h2
    have : b = 0 := by omega
    subst this
    obtain ⟨m, rfl⟩ : ∃ m, n = m + 1 := ⟨n - 1, by omega⟩
    rw [whl_end (by rw [ht]; rfl), Nat.gcd_zero_right]
  | succ k ih =>
    intro a b n h1 h2
    by_cases z : b = 0
    · subst z
      obtain ⟨m, rfl⟩ : ∃ m, n = m + 1 := ⟨n - 1, by omega⟩
      rw [whl_end (by rw [ht]; rfl), Nat.gcd_zero_right]
    · obtain ⟨m, rfl⟩ : ∃ m, n = m + 2 := ⟨n - 2, by omega⟩
      rw [whl_step (by rw [ht, decide_eq_true (by omega : 0 < b)]) (hb a b (by omega))]
      have lt : a % b < b := Nat.mod_lt _ (by omega)
      have g1 : Nat.gcd a b = Nat.gcd b (a % b) := by rw [Nat.gcd_comm a b, Nat.gcd_rec b a, Nat.gcd_comm]
      by_cases z2 : a % b = 0
      · rw [z2, whl_end (by rw [ht]; rfl), g1, z2, Nat.gcd_zero_right]
      · rw [whl_step (by rw [ht, decide_eq_true (by omega : 0 < a % b)]) (hb b (a % b) (by omega))]
        have lt2 : b % (a % b) < a % b := Nat.mod_lt _ (by omega)
        have le2 : b % (a % b) + (a % b) ≤ b := by
          have h3 := Nat.div_add_mod b (a % b)
          have h4 : 1 ≤ b / (a % b) := (Nat.le_div_iff_mul_le (by omega)).mpr (by omega)
          have h5 : a % b * 1 ≤ a % b * (b / (a % b)) := Nat.mul_le_mul_left _ h4
          omega
        rw [ih (a % b) (b % (a % b)) m (by rw [Nat.pow_succ] at h1; omega) (by omega), g1]
        congr 3
        rw [Nat.gcd_comm b (a % b), Nat.gcd_rec (a % b) b, Nat.gcd_comm]
theorem factor_eq (n a b : Nat) (hb : b < 2 ^ 60) (hn : 121 ≤ n) : ∃ as', F_factor_of n [.dat (.int a), .dat (.int b)] = some (.dat (.int (Nat.gcd a b)), as') := by
  refine ⟨_, runB_rt (s := .dat (.int (Nat.gcd a b))) (ρ := [some (.dat (.int (Nat.gcd a b))), some (.dat (.int (0 : Nat)))]) rfl ?_⟩
  show g_factor_of n [some (.dat (.int a)), some (.dat (.int b))] = _
  unfold g_factor_of
  rw [seq_nx (euclid (fun a b => [some (.dat (.int a)), some (.dat (.int b))]) _ _ (fun a b => by
      simp only [M.tB, bnd_T, e2, bnd, eV, eC, List.getElem?_cons_succ, List.getElem?_cons_zero, Rz.bind, ofO, gtD, frc_eq, iLt_eq]
      congr 2
      simp) (fun a b h => by
      have h0 : (0 : Int) < b := by omega
      simp [sPar, aCons, aNil, e2, bnd, eV, Rz.bind, ofO, frc_eq, modD, h, isIo]) 60 a b n hb hn)]
  simp [sRet, bndS, eV, Rz.bind]
def gcds (C : List Nat) : Nat := C.foldl (fun f c => Nat.gcd f c) 0
theorem lgcd_eq (n : Nat) (C : List Nat) (hC : ∀ c ∈ C, c < 2 ^ 60) (hn : 121 ≤ n) : ∃ as', F__law_gcd n [.dat (.lst (C.map fun c => .int (c : Nat)))] = some (.dat (.int (gcds C)), as') := by
  let L : D := .lst (C.map fun c => .int (c : Nat))
  let R : Nat → Rho → Prop := fun f ρ => ∃ s2 s3 s4, ρ = [some (.dat L), some (.dat (.int f)), s2, s3, s4] ∧ isIo ρ 2 = false ∧ isIo ρ 3 = false ∧ isIo ρ 4 = false
  obtain ⟨ρ', e, s2, s3, s4, rfl, _⟩ := forL_rel (tg := tName 2) (body := sSeq (sPar 3 4 (aCons (eV 1) (aCons (eV 2) aNil))) (sSeq (whl (M.tB (e2 gtD (eV 4) (eC (.int 0)))) (sPar 3 4 (aCons (eV 4) (aCons (e2 modD (eV 3) (eV 4)) aNil))) n) (sSet 1 (eV 3)))) R
    (fun f d => match d with | .int i => Nat.gcd f i.toNat | _ => f) (C.map fun c => D.int (c : Nat)) (fun d hd f ρ ⟨s2, s3, s4, e, i2, i3, i4⟩ => by
      subst e
      obtain ⟨c, hc, rfl⟩ := List.mem_map.mp hd
      refine ⟨[some (.dat L), some (.dat (.int f)), some (.dat (.int c)), s3, s4], [some (.dat L), some (.dat (.int (Nat.gcd f c))), some (.dat (.int c)), some (.dat (.int (Nat.gcd f c))), some (.dat (.int (0 : Nat)))], ?_, ?_, ⟨_, _, _, rfl, rfl, rfl, rfl⟩⟩
      · simp only [tName, i2]; rfl
      · have i3' : isIo [some (.dat L), some (.dat (.int f)), some (.dat (.int c)), s3, s4] 3 = false := i3
        have i4' : isIo [some (.dat L), some (.dat (.int f)), some (.dat (.int c)), s3, s4] 4 = false := i4
        rw [seq_nx (ρ1 := [some (.dat L), some (.dat (.int f)), some (.dat (.int c)), some (.dat (.int f)), some (.dat (.int c))]) (by
          simp [sPar, aCons, aNil, eV, Rz.bind, i3', i4'])]
        rw [seq_nx (euclid (fun a b => [some (.dat L), some (.dat (.int f)), some (.dat (.int c)), some (.dat (.int a)), some (.dat (.int b))]) _ _ (fun a b => by
          simp only [M.tB, bnd_T, e2, bnd, eV, eC, List.getElem?_cons_succ, List.getElem?_cons_zero, Rz.bind, ofO, gtD, frc_eq, iLt_eq]
          congr 2
          simp) (fun a b h => by
          have h0 : (0 : Int) < b := by omega
          simp [sPar, aCons, aNil, e2, bnd, eV, Rz.bind, ofO, frc_eq, modD, h, isIo]) 60 f c n (hC c hc) hn)]
        simp [sSet, bndS, eV, Rz.bind, isIo]) 0 [some (.dat L), some (.dat (.int (0 : Nat))), none, none, none] ⟨none, none, none, rfl, rfl, rfl, rfl⟩
  have hf : (C.map fun c => D.int (c : Nat)).foldl (fun f d => match d with | .int i => Nat.gcd f i.toNat | _ => f) 0 = gcds C := by
    rw [List.foldl_map]; rfl
  rw [hf] at e
  refine ⟨_, runB_rt (s := .dat (.int (gcds C))) (ρ := [some (.dat L), some (.dat (.int (gcds C))), s2, s3, s4]) rfl ?_⟩
  show g__law_gcd n [some (.dat L), none, none, none, none] = _
  unfold g__law_gcd
  rw [seq_nx (ρ1 := [some (.dat L), some (.dat (.int (0 : Nat))), none, none, none]) (by simp [sSet, bndS, eC, Rz.bind, isIo])]
  rw [seq_nx (ρ1 := [some (.dat L), some (.dat (.int (gcds C))), s2, s3, s4]) (by
    simp only [sFor, iSeq, eV, Rz.bind, List.getElem?_cons_zero]
    exact e)]
  simp [sRet, bndS, eV, Rz.bind]
end Lk

namespace Lk
open PySem PySem.Spec PyProof.Rows L2 M
/-! lists of ints -/
theorem asInts_map : ∀ xs : List Int, asInts (xs.map D.int) = some xs
  | [] => rfl
  | x :: xs => by simp [asInts, asInts_map xs]
theorem plains_ints : ∀ xs : List Int, plains (xs.map D.int) = true
  | [] => by simp [plains]
  | x :: xs => by simp [plains, M.plain, plains_ints xs]
theorem pds_ints : ∀ xs : List Int, pds (xs.map D.int) = xs.map PyData.int
  | [] => by simp [pds]
  | x :: xs => by simp [pds, pd, pds_ints xs]
theorem canLay_ints : ∀ xs : List Int, PyData.canLayAll0 (xs.map PyData.int) = true
  | [] => by simp [PyData.canLayAll0]
  | x :: xs => by simp [PyData.canLayAll0, PyData.canLay0, canLay_ints xs]
theorem depth_ints : ∀ xs : List Int, PyData.depthAll (xs.map PyData.int) = 0
  | [] => by simp [PyData.depthAll]
  | x :: xs => by simp [PyData.depthAll, PyData.depth, depth_ints xs]
theorem deq_ints (xs : List Int) : eqD (.lst (xs.map D.int)) (.lst (xs.map D.int)) = some (.bl true) := by
  have h1 : plain (.lst (xs.map D.int)) = true := by simp [M.plain, plains_ints]
  have h2 : pd (.lst (xs.map D.int)) = .list (xs.map PyData.int) := by simp [pd, pds_ints]
  have h3 : (PyData.list (xs.map PyData.int)).canLay0 = true := by simp [PyData.canLay0, canLay_ints]
  have h4 : SeqAt.shaped (PyData.list (xs.map PyData.int)) = true := by
    unfold SeqAt.shaped
    rw [h3]; simp [PyData.depth, depth_ints]
  unfold eqD deq
  rw [h2, if_pos ⟨h1, h1, h4, h4⟩, SeqAt.eqv_refl _ h3]
  rfl
theorem sorted_self {xs : List Int} (h : xs.Pairwise (· < ·)) (hl : xs.length < 64) : sortSetD (.tup (xs.map D.int)) = some (.lst (xs.map D.int)) := by
  letI : Tabs := ⟨[]⟩
  have e := set_sorted h (ns := xs) (fun _ => Iff.rfl)
  simp only [sortSetD, asInts_map]
  rw [if_pos hl, ← e]
theorem asBools_true : ∀ xs : List D, asBools (xs.map fun _ => D.bl true) = some (xs.map fun _ => true)
  | [] => rfl
  | x :: xs => by simp [asBools, asBools_true xs]
theorem all_true (xs : List D) : allD [.lst (xs.map fun _ => D.bl true)] = some (.bl true) := by
  simp [allD, asBools_true]
theorem arenum_eq (n : Nat) (s : Nat) (xs : List Int) (hs : s ≤ 60) (h : xs.Pairwise (· < ·)) (hl : xs.length < 64) (hx : ∀ x ∈ xs, 0 ≤ x ∧ x ≤ s) : ∃ as', F_are_numbers n [.dat (.int s), .dat (.tup (xs.map D.int))] = some (.dat (.bl true), as') := by
  refine ⟨_, runB_rt (s := .dat (.bl true)) (ρ := [some (.dat (.int s)), some (.dat (.tup (xs.map D.int))), none]) rfl ?_⟩
  show g_are_numbers n [some (.dat (.int s)), some (.dat (.tup (xs.map D.int))), none] = _
  have z0 : (500 : Nat) ≤ sizeLine := by decide +kernel
  have hlc := lc_map (fi := iSeq (eV 1)) (tg := tName 2) (fe := eCall F_is_between n (rCons (eV 2) (rCons (eC (.int 0)) (rCons (eV 0) rNil)))) (vs := [2]) (ρ := [some (.dat (.int s)), some (.dat (.tup (xs.map D.int))), none]) (ρ0 := [some (.dat (.int s)), some (.dat (.tup (xs.map D.int))), none])
    (ds := xs.map D.int) (fun _ => .bl true) (by simp [iSeq, eV, Rz.bind]) rfl (fun d hd => by
      obtain ⟨x, hx0, rfl⟩ := List.mem_map.mp hd
      obtain ⟨a', e⟩ := between_eq n x 0 s (by omega) (hx x hx0).1 (hx x hx0).2 (by omega)
      refine ⟨[some (.dat (.int s)), some (.dat (.tup (xs.map D.int))), some (.dat (.int x))], [some (.dat (.int s)), some (.dat (.tup (xs.map D.int))), some (.dat (.int x))], ?_, ?_, rfl, rfl⟩
      · simp [tName, wipeR, isIo]
      · exact call_d (ds := [.int x, .int 0, .int s]) (by simp [rCons, rNil, eV, eC, Rz.bind]) e) rfl (by simp; omega)
  have e1 : eB allD (aCons (eFz (oLc (iSeq (eV 1)) (tName 2) tYesD (eCall F_is_between n (rCons (eV 2) (rCons (eC (.int 0)) (rCons (eV 0) rNil)))) [2])) aNil) [some (.dat (.int s)), some (.dat (.tup (xs.map D.int))), none] = .ok (.bl true, [some (.dat (.int s)), some (.dat (.tup (xs.map D.int))), none]) :=
    eB1_ok (fz_ok hlc) (all_true _)
  have q1 : isiD [.tup (xs.map D.int), .con (.ty "tuple")] = some (.bl true) := rfl
  have e2 : eB isiD (aCons (eV 1) (aCons (eC (.con (.ty "tuple"))) aNil)) [some (.dat (.int s)), some (.dat (.tup (xs.map D.int))), none] = .ok (.bl true, [some (.dat (.int s)), some (.dat (.tup (xs.map D.int))), none]) :=
    eB2_ok (eV_ok rfl) eC_ok q1
  have e3 : M.e2 eqS (eB lstD (aCons (eV 1) aNil)) (M.e1 sortSetD (eV 1)) [some (.dat (.int s)), some (.dat (.tup (xs.map D.int))), none] = .ok (.bl true, [some (.dat (.int s)), some (.dat (.tup (xs.map D.int))), none]) :=
    e2_ok (eB1_ok (eV_ok rfl) rfl) (e1_ok (eV_ok rfl) (sorted_self h hl)) (deq_ints xs)
  unfold g_are_numbers
  rw [seq_nx (ρ1 := [some (.dat (.int s)), some (.dat (.tup (xs.map D.int))), none]) (by
    simp [sIf, bndTS, tOrD, bndT_T, tNotD, tTr, bnd_T, e1, e2, Rz.bind, trD, sNx])]
  simp [sRet, bndS, e3, Rz.bind]
end Lk

namespace Lk
open PySem PySem.Spec PyProof.Rows L2 M
def chN (m k : Nat) : Nat := (chM m k).toNat
theorem tab2 : (List.range 61).all (fun m => (List.range (m + 1)).all fun k => decide (0 < chM m k) && decide (chM m k < 2 ^ 60)) = true := by decide +kernel
theorem ch_rng {m k : Nat} (hm : m ≤ 60) (hk : k ≤ m) : 0 < chM m k ∧ chM m k < 2 ^ 60 := by
  have h := List.all_eq_true.mp tab2 m (List.mem_range.mpr (by omega))
  have h2 := List.all_eq_true.mp h k (List.mem_range.mpr (by omega))
  simpa using h2
theorem chN_eq {m k : Nat} (hm : m ≤ 60) (hk : k ≤ m) : chM m k = (chN m k : Nat) := by
  have := (ch_rng hm hk).1
  unfold chN; omega
theorem chN_rng {m k : Nat} (hm : m ≤ 60) (hk : k ≤ m) : 0 < chN m k ∧ chN m k < 2 ^ 60 := by
  have := ch_rng hm hk
  unfold chN; omega
theorem gcds_map (s : Nat) (xs : List Nat) : xs.foldl (fun f x => Nat.gcd (chN s x) f) 0 = gcds (xs.map (chN s)) := by
  unfold gcds
  rw [List.foldl_map]
  congr 1
  funext f x
  exact Nat.gcd_comm _ _
def nd (x : Nat) : D := .int x
theorem commonin_eq (n s : Nat) (xs : List Nat) (hs : s ≤ 60) (hx : ∀ x ∈ xs, x ≤ s) (hn : 121 ≤ n) : ∃ as', F_common_in n [.dat (.int s), .dat (.tup (xs.map nd))] = some (.dat (.int (gcds (xs.map (chN s)))), as') := by
  let L : D := .tup (xs.map nd)
  let R : Nat → Rho → Prop := fun f ρ => f < 2 ^ 60 ∧ ∃ s3, ρ = [some (.dat (.int s)), some (.dat L), some (.dat (.int f)), s3] ∧ isIo ρ 3 = false
  obtain ⟨ρ', e, _, s3, rfl, _⟩ := forL_rel (tg := tName 3) (body := sSet 2 (eCall F_factor_of n (rCons (eCall F_choose n (rCons (eV 0) (rCons (eV 3) rNil))) (rCons (eV 2) rNil)))) R
    (fun f d => match d with | .int i => Nat.gcd (chN s i.toNat) f | _ => f) (xs.map nd) (fun d hd f ρ ⟨hf, s3, e, i3⟩ => by
      subst e
      obtain ⟨x, hx0, rfl⟩ := List.mem_map.mp hd
      have hxs := hx x hx0
      obtain ⟨a1, e1⟩ := choose_eq n s x (by omega) (by omega) (by omega)
      rw [chN_eq hs hxs] at e1
      obtain ⟨a2, e2⟩ := factor_eq n (chN s x) f hf hn
      refine ⟨[some (.dat (.int s)), some (.dat L), some (.dat (.int f)), some (.dat (.int x))], [some (.dat (.int s)), some (.dat L), some (.dat (.int (Nat.gcd (chN s x) f))), some (.dat (.int x))], ?_, ?_, Nat.lt_of_le_of_lt (Nat.gcd_le_left _ (chN_rng hs hxs).1) (chN_rng hs hxs).2, _, rfl, rfl⟩
      · simp only [tName, i3]; rfl
      · have c1 : eCall F_choose n (rCons (eV 0) (rCons (eV 3) rNil)) [some (.dat (.int s)), some (.dat L), some (.dat (.int f)), some (.dat (.int x))] = .ok (.int (chN s x), [some (.dat (.int s)), some (.dat L), some (.dat (.int f)), some (.dat (.int x))]) :=
          call_d (ds := [.int s, .int x]) (by simp [rCons, rNil, eV, Rz.bind]) e1
        have c2 : eCall F_factor_of n (rCons (eCall F_choose n (rCons (eV 0) (rCons (eV 3) rNil))) (rCons (eV 2) rNil)) [some (.dat (.int s)), some (.dat L), some (.dat (.int f)), some (.dat (.int x))] = .ok (.int (Nat.gcd (chN s x) f), [some (.dat (.int s)), some (.dat L), some (.dat (.int f)), some (.dat (.int x))]) :=
          call_d (ds := [.int (chN s x), .int f]) (by simp [rCons, rNil, c1, eV, Rz.bind]) e2
        simp [sSet, bndS, c2, Rz.bind, isIo]) 0 [some (.dat (.int s)), some (.dat L), some (.dat (.int (0 : Nat))), none] ⟨by decide, none, rfl, rfl⟩
  have hf : (xs.map nd).foldl (fun f d => match d with | .int i => Nat.gcd (chN s i.toNat) f | _ => f) 0 = gcds (xs.map (chN s)) := by
    rw [← gcds_map, List.foldl_map]; rfl
  rw [hf] at e
  refine ⟨_, runB_rt (s := .dat (.int (gcds (xs.map (chN s))))) (ρ := [some (.dat (.int s)), some (.dat L), some (.dat (.int (gcds (xs.map (chN s))))), s3]) rfl ?_⟩
  show g_common_in n [some (.dat (.int s)), some (.dat L), none, none] = _
  unfold g_common_in
  rw [seq_nx (ρ1 := [some (.dat (.int s)), some (.dat L), some (.dat (.int (0 : Nat))), none]) (by simp [sSet, bndS, eC, Rz.bind, isIo])]
  rw [seq_nx (ρ1 := [some (.dat (.int s)), some (.dat L), some (.dat (.int (gcds (xs.map (chN s))))), s3]) (by
    simp only [sFor, iSeq, eV, Rz.bind, List.getElem?_cons_succ, List.getElem?_cons_zero]
    exact e)]
  simp [sRet, bndS, eV, Rz.bind]
theorem nd_map (xs : List Nat) : xs.map nd = (xs.map fun x : Nat => (x : Int)).map D.int := by rw [List.map_map]; rfl
theorem eqS_nil {x : D} {xs : List D} (hp : plains (x :: xs) = true) (hc : PyData.canLayAll0 (pds (x :: xs)) = true) (hd : PyData.depthAll (pds (x :: xs)) = 0) : eqS (.tup (x :: xs)) (.tup []) = some (.bl false) := by
  show eqD _ _ = _
  have h1 : M.plain (.tup (x :: xs)) = true := by simpa [M.plain] using hp
  have h2 : M.plain (.tup []) = true := by simp [M.plain, plains]
  have h3 : SeqAt.shaped (pd (.tup (x :: xs))) = true := by
    simp [SeqAt.shaped, pd, PyData.canLay0, hc, PyData.depth, hd]
  have h4 : SeqAt.shaped (pd (.tup [])) = true := by simp [SeqAt.shaped, pd, pds, PyData.canLay0, PyData.canLayAll0, PyData.depth, PyData.depthAll]
  unfold eqD deq
  rw [if_pos ⟨h1, h2, h3, h4⟩]
  simp [pd, pds, PyData.eqv, PyData.eqvAll]
theorem common_eq (n s : Nat) (xs : List Nat) (hs0 : 1 ≤ s) (hs : s ≤ 60) (hx : ∀ x ∈ xs, x ≤ s) (hp : xs.Pairwise (· < ·)) (hl : xs.length < 64) (hne : xs ≠ []) (hn : 121 ≤ n) :
    ∃ as', F_common_factor n [.dat (.int s), .dat (.tup (xs.map nd))] = some (.dat (.int (gcds (xs.map (chN s)))), as') := by
  obtain ⟨a1, e1⟩ := reqnum_eq n s 1 60 (by omega) (by omega) (by omega) (by omega)
  obtain ⟨a2, e2⟩ := arenum_eq n s (xs.map fun x : Nat => (x : Int)) hs (by rw [List.pairwise_map]; exact hp.imp fun h => by omega) (by simpa using hl) (fun x h => by
    obtain ⟨y, hy, rfl⟩ := List.mem_map.mp h
    have := hx y hy
    omega)
  obtain ⟨a4, e4⟩ := commonin_eq n s xs hs hx hn
  rw [← nd_map] at e2
  have r3 : ∃ as', F_require_numbers n [.dat (.int s), .dat (.tup (xs.map nd))] = some (.dat .non, as') := by
    refine ⟨_, runB_nx (ρ := [some (.dat (.int s)), some (.dat (.tup (xs.map nd)))]) rfl ?_⟩
    show g_require_numbers n [some (.dat (.int s)), some (.dat (.tup (xs.map nd)))] = _
    have c : eCall F_are_numbers n (rCons (eV 0) (rCons (eV 1) rNil)) [some (.dat (.int s)), some (.dat (.tup (xs.map nd)))] = .ok (.bl true, [some (.dat (.int s)), some (.dat (.tup (xs.map nd)))]) :=
      call_d (ds := [.int s, .tup (xs.map nd)]) (by simp [rCons, rNil, eV, Rz.bind]) e2
    simp [g_require_numbers, sIf, bndTS, tNotD, bndT_T, tTr, bnd_T, c, Rz.bind, trD, sNx]
  obtain ⟨a3, e3⟩ := r3
  have q : eqS (.tup (xs.map nd)) (.tup []) = some (.bl false) := by
    match xs, hne with
    | x :: xs, _ =>
      have hh : ((x :: xs).map nd) = nd x :: xs.map nd := rfl
      have h2 := nd_map (x :: xs)
      rw [hh] at h2 ⊢
      refine eqS_nil ?_ ?_ ?_
      · rw [h2]; exact plains_ints _
      · rw [h2, pds_ints]; exact canLay_ints _
      · rw [h2, pds_ints]; exact depth_ints _
  refine ⟨_, runB_rt (s := .dat (.int (gcds (xs.map (chN s))))) (ρ := [some (.dat (.int s)), some (.dat (.tup (xs.map nd)))]) rfl ?_⟩
  show g_common_factor n [some (.dat (.int s)), some (.dat (.tup (xs.map nd)))] = _
  have c1 : eCall F_require_number n (rCons (eV 0) (rCons (eC (.int 1)) (rCons (eC (.int 60)) rNil))) [some (.dat (.int s)), some (.dat (.tup (xs.map nd)))] = .ok (.non, [some (.dat (.int s)), some (.dat (.tup (xs.map nd)))]) :=
    call_d (ds := [.int s, .int 1, .int 60]) (by simp [rCons, rNil, eV, eC, Rz.bind]) e1
  have c3 : eCall F_require_numbers n (rCons (eV 0) (rCons (eV 1) rNil)) [some (.dat (.int s)), some (.dat (.tup (xs.map nd)))] = .ok (.non, [some (.dat (.int s)), some (.dat (.tup (xs.map nd)))]) :=
    call_d (ds := [.int s, .tup (xs.map nd)]) (by simp [rCons, rNil, eV, eC, Rz.bind]) e3
  have c4 : eCall F_common_in n (rCons (eV 0) (rCons (eV 1) rNil)) [some (.dat (.int s)), some (.dat (.tup (xs.map nd)))] = .ok (.int (gcds (xs.map (chN s))), [some (.dat (.int s)), some (.dat (.tup (xs.map nd)))]) :=
    call_d (ds := [.int s, .tup (xs.map nd)]) (by simp [rCons, rNil, eV, eC, Rz.bind]) e4
  have c5 : M.e2 eqS (eV 1) (eTup aNil) [some (.dat (.int s)), some (.dat (.tup (xs.map nd)))] = .ok (.bl false, [some (.dat (.int s)), some (.dat (.tup (xs.map nd)))]) :=
    e2_ok (eV_ok rfl) (by simp [eTup, bndA, aNil, Rz.bind, sizeLine]) q
  simp [g_common_factor, sSeq, sDrop, bndS, c1, c3, c4, Rz.bind, sNx, sRet, sIf, bndTS, tB_ok c5]
end Lk

namespace Lk
open PySem PySem.Spec PyProof.Rows L2 M
/-! spoons -/
def spoonA (x y z t : Int) : Int × Int × Int := if 0 < x then (x % t, x / t, z) else
  (((((y + 32452843 * (z + 1)) % 1000000087 * ((y + 32452843 * (z + 1)) % 1000000087) + y / 1000003 + 6151 * (z + 1)) % 998244353 * (((y + 32452843 * (z + 1)) % 1000000087 * ((y + 32452843 * (z + 1)) % 1000000087) + y / 1000003 + 6151 * (z + 1)) % 998244353) + (y + 32452843 * (z + 1)) % 1000000087) % 1000000093) / 128 % t, x, z + 1)
theorem spoon_eq (n : Nat) (x y z t : Int) (ht : 0 < t) (ht2 : t.natAbs.log2 < 9000) :
    F__law_spoon n [.own true [.int x, .int y, .int z], .dat (.int t)] = some (.dat (.int (spoonA x y z t).1), [.own true [.int (spoonA x y z t).2.1, .int y, .int (spoonA x y z t).2.2], .dat (.int t)]) := by
  have h1 : small 32452843 = true := by decide
  have h2 : small 6151 = true := by decide
  have h3 : ∀ x, small (x % 1000000087) = true := fun x => small_mod x _ (by decide) (by decide)
  have h4 : ∀ x, small (x % 998244353) = true := fun x => small_mod x _ (by decide) (by decide)
  have h5 : (1000003 : Int).natAbs.log2 < 9000 := by decide +kernel
  have h6 : (128 : Int).natAbs.log2 < 9000 := by decide +kernel
  have h5' : Nat.log2 1000003 < 9000 := by decide +kernel
  have h6' : Nat.log2 128 < 9000 := by decide +kernel
  by_cases hx : 0 < x
  · refine (runB_rt (ρ := [some (.own true [.int (x / t), .int y, .int z]), some (.dat (.int t)), none, none, none, some (.dat (.int (x % t)))]) (s := .dat (.int (x % t))) rfl ?_).trans ?_
    · show g__law_spoon n [some (.own true [.int x, .int y, .int z]), some (.dat (.int t)), none, none, none, none] = _
      simp [hx, g__law_spoon, sSeq, sIf, bndTS, M.tB, bnd_T, bnd, e2, eIxO, eC, eV, ownL, Rz.bind, ofO, frc_eq, iLt_eq, ixD, atI, ixN, gtD, sSet, bndS, eB, bndA, aCons, aNil, M.intD, modD, ht, isIo, sItO, fdivD, ht2, sRet]
    · simp [spoonA, hx, ends]
  · refine (runB_rt (ρ := _) (s := .dat (.int (spoonA x y z t).1)) rfl (by
      show g__law_spoon n [some (.own true [.int x, .int y, .int z]), some (.dat (.int t)), none, none, none, none] = _
      simp [hx, g__law_spoon, sSeq, sIf, bndTS, M.tB, bnd_T, bnd, e2, eIxO, eC, eV, ownL, Rz.bind, ofO, frc_eq, iLt_eq, ixD, atI, ixN, gtD, sSet, bndS, eB, bndA, aCons, aNil, M.intD, modD, ht, isIo, sItO, fdivD, ht2, sRet, sNx, addD, mulD, h1, h2, h3, h4, h5, h6, h5', h6']
      exact ⟨by simp [spoonA, hx], rfl⟩)).trans ?_
    simp [spoonA, hx, ends]
theorem spoonA_rng (x y z t : Int) (ht : 0 < t) : 0 ≤ (spoonA x y z t).1 ∧ (spoonA x y z t).1 < t := by
  unfold spoonA
  split
  · exact ⟨Int.emod_nonneg _ (by omega), Int.emod_lt_of_pos _ ht⟩
  · exact ⟨Int.emod_nonneg _ (by omega), Int.emod_lt_of_pos _ ht⟩
/-- a dish: three ints -/
def dish (p : Int × Int × Int) : List D := [.int p.1, .int p.2.1, .int p.2.2]
/-- a spoon from a dish, in short -/
theorem spoon_ex (n : Nat) (p : Int × Int × Int) (t : Int) (ht : 0 < t) (ht2 : t ≤ 1000) : ∃ (r : Nat) (q : Int × Int × Int) (as' : M.Args), (r : Int) < t ∧ F__law_spoon n [.own true (dish p), .dat (.int t)] = some (.dat (.int r), .own true (dish q) :: as') := by
  obtain ⟨x, y, z⟩ := p
  have e := spoon_eq n x y z t ht (log_le (by omega) ht2)
  obtain ⟨h1, h2⟩ := spoonA_rng x y z t ht
  refine ⟨(spoonA x y z t).1.toNat, ((spoonA x y z t).2.1, y, (spoonA x y z t).2.2), [.dat (.int t)], by omega, ?_⟩
  have : (((spoonA x y z t).1.toNat : Nat) : Int) = (spoonA x y z t).1 := by omega
  rw [this]
  exact e
/-- .. as a call: the dish at slot j -/
theorem spoon_call (n j : Nat) (ρ : Rho) (io : Bool) (p : Int × Int × Int) (fe : FE) (t : Int) (hj : ownL ρ j = some (io, dish p)) (he : fe ρ = .ok (.int t, ρ)) (ht : 0 < t) (ht2 : t ≤ 1000) :
    ∃ (r : Nat) (q : Int × Int × Int), (r : Int) < t ∧ eCall F__law_spoon n (rOwn j (rCons fe rNil)) ρ = .ok (.int r, ρ.set j (some (.own io (dish q)))) := by
  obtain ⟨r, q, as', h1, h2⟩ := spoon_ex n p t ht ht2
  refine ⟨r, q, h1, call_o1 (ds := [.int t]) hj ?_ h2⟩
  simp [rOwn, rCons, rNil, he, Rz.bind, hj]
theorem pick_call (n j : Nat) (ρ : Rho) (io : Bool) (p : Int × Int × Int) (fe : FE) (a b c : Int) (hj : ownL ρ j = some (io, dish p)) (he : fe ρ = .ok (.lst [.int a, .int b, .int c], ρ)) :
    ∃ (r : Int) (q : Int × Int × Int), (r = a ∨ r = b ∨ r = c) ∧ eCall F__law_pick_of n (rOwn j (rCons fe rNil)) ρ = .ok (.int r, ρ.set j (some (.own io (dish q)))) := by
  obtain ⟨r, q, h1, h2⟩ := spoon_call n 0 [some (.own true (dish p)), some (.dat (.lst [.int a, .int b, .int c]))] true p (eB lenD (aCons (eV 1) aNil)) 3 rfl (eB1_ok (eV_ok rfl) rfl) (by decide) (by decide)
  have h3 : r = 0 ∨ r = 1 ∨ r = 2 := by omega
  have key : ∀ v : Int, ixD (.lst [.int a, .int b, .int c]) (.int r) = some (.int v) → ∃ as', F__law_pick_of n [.own true (dish p), .dat (.lst [.int a, .int b, .int c])] = some (.dat (.int v), .own true (dish q) :: as') := fun v hv => by
    refine ⟨[.dat (.lst [.int a, .int b, .int c])], (runB_rt (s := .dat (.int v)) (ρ := [some (.own true (dish q)), some (.dat (.lst [.int a, .int b, .int c]))]) rfl ?_).trans (by simp [ends])⟩
    show g__law_pick_of n [some (.own true (dish p)), some (.dat (.lst [.int a, .int b, .int c]))] = _
    have c1 : M.e2 ixD (eV 1) (eCall F__law_spoon n (rOwn 0 (rCons (eB lenD (aCons (eV 1) aNil)) rNil))) [some (.own true (dish p)), some (.dat (.lst [.int a, .int b, .int c]))] = .ok (.int v, [some (.own true (dish q)), some (.dat (.lst [.int a, .int b, .int c]))]) :=
      e2_ok (eV_ok rfl) h2 hv
    simp [g__law_pick_of, sRet, bndS, c1, Rz.bind]
  have k2 : ∃ v : Int, (v = a ∨ v = b ∨ v = c) ∧ ixD (.lst [.int a, .int b, .int c]) (.int r) = some (.int v) := by
    rcases h3 with e | e | e <;> subst e
    · exact ⟨a, .inl rfl, rfl⟩
    · exact ⟨b, .inr (.inl rfl), rfl⟩
    · exact ⟨c, .inr (.inr rfl), rfl⟩
  obtain ⟨v, hv, e⟩ := k2
  obtain ⟨as', h5⟩ := key v e
  refine ⟨v, q, hv, call_o1 (ds := [.lst [.int a, .int b, .int c]]) hj ?_ h5⟩
  simp [rOwn, rCons, rNil, he, Rz.bind, hj]
end Lk

namespace Lk
open PySem PySem.Spec PyProof.Rows L2 M
theorem erase_perm : ∀ (l : List Nat) (r : Nat) (h : r < l.length), (l[r] :: l.eraseIdx r).Perm l
  | a :: l, 0, _ => List.Perm.refl _
  | a :: l, r + 1, h => by
    have h' : r < l.length := by simpa using h
    exact (List.Perm.swap _ _ _).trans ((erase_perm l r h').cons a)
theorem pop_perm {l found : List Nat} {r : Nat} (h : r < l.length) : (l.eraseIdx r ++ (found ++ [l[r]])).Perm (l ++ found) := by
  have p1 : (l[r] :: l.eraseIdx r).Perm l := erase_perm l r h
  have p2 : (l.eraseIdx r ++ (found ++ [l[r]])).Perm (l[r] :: (l.eraseIdx r ++ found)) := by
    rw [← List.append_assoc]
    exact List.perm_append_singleton _ _
  exact p2.trans (p1.append_right found)
theorem erase_map (l : List Nat) (r : Nat) : (l.map nd).eraseIdx r = (l.eraseIdx r).map nd := by
  induction l generalizing r with
  | nil => rfl
  | cons a l ih => cases r with
    | zero => rfl
    | succ r => simp [List.eraseIdx, ih]
theorem some_ex (n : Nat) (p : Int × Int × Int) (s cnt : Nat) (hs : s ≤ 60) (h1 : 1 ≤ cnt) (h2 : cnt ≤ 5) : ∃ (q : Int × Int × Int) (fs : List Nat) (as' : M.Args), fs.Nodup ∧ fs ≠ [] ∧ fs.length < 64 ∧ (∀ x ∈ fs, x ≤ s) ∧
    F__law_some_of n [.own true (dish p), .dat (.lst ((List.range (s + 1)).map nd)), .dat (.int cnt)] = some (.dat (.lst (fs.map nd)), .own true (dish q) :: as') := by
  have z0 : (500 : Nat) ≤ sizeLine := by decide +kernel
  let I : D := .lst ((List.range (s + 1)).map nd)
  let m : Nat := min cnt (s + 1)
  have hm : m ≤ s + 1 ∧ m ≤ 5 ∧ 1 ≤ m := by show min cnt (s + 1) ≤ s + 1 ∧ min cnt (s + 1) ≤ 5 ∧ 1 ≤ min cnt (s + 1); omega
  let R : Nat → Rho → Prop := fun k ρ => ∃ (p : Int × Int × Int) (left found : List Nat) (s3 : Option Sl), ρ = [some (.own true (dish p)), some (.dat I), some (.dat (.int cnt)), s3, some (.own false (left.map nd)), some (.own false (found.map nd))] ∧ (left ++ found).Perm (List.range (s + 1)) ∧ found.length = k ∧ isIo ρ 3 = false
  obtain ⟨ρ', e, q, left, found, s3, rfl, hp, hk, _⟩ := forL_rg (tg := tName 3) (body := sApp 5 (ePopO 4 (eCall F__law_spoon n (rOwn 0 (rCons (eLenO 4) rNil))))) R 0 m (fun k hk ρ ⟨p, left, found, s3, e, hp, hl, i3⟩ => by
      subst e
      have len := hp.length_eq
      simp at len
      obtain ⟨r, q, hr, c1⟩ := spoon_call n 0 [some (.own true (dish p)), some (.dat I), some (.dat (.int cnt)), some (.dat (.int k)), some (.own false (left.map nd)), some (.own false (found.map nd))] true p (eLenO 4) left.length rfl (by simp [eLenO, ownL]) (by omega) (by omega)
      have hr2 : r < left.length := by omega
      have c2 : ePopO 4 (eCall F__law_spoon n (rOwn 0 (rCons (eLenO 4) rNil))) [some (.own true (dish p)), some (.dat I), some (.dat (.int cnt)), some (.dat (.int k)), some (.own false (left.map nd)), some (.own false (found.map nd))] =
          .ok (nd left[r], [some (.own true (dish q)), some (.dat I), some (.dat (.int cnt)), some (.dat (.int k)), some (.own false ((left.eraseIdx r).map nd)), some (.own false (found.map nd))]) := by
        have b1 : (r : Int) < 2 ^ 63 := by omega
        simp [ePopO, bnd, c1, ownL, Rz.bind, hr2, erase_map]
        omega
      refine ⟨[some (.own true (dish p)), some (.dat I), some (.dat (.int cnt)), some (.dat (.int k)), some (.own false (left.map nd)), some (.own false (found.map nd))], [some (.own true (dish q)), some (.dat I), some (.dat (.int cnt)), some (.dat (.int k)), some (.own false ((left.eraseIdx r).map nd)), some (.own false ((found ++ [left[r]]).map nd))], ?_, ?_, ⟨_, _, _, _, rfl, (pop_perm hr2).trans hp, by simp [hl], rfl⟩⟩
      · simp only [tName, i3, Int.zero_add]; rfl
      · have b2 : found.length < sizeLine := by omega
        simp [sApp, bndS, c2, ownL, Rz.bind, b2]) [some (.own true (dish p)), some (.dat I), some (.dat (.int cnt)), none, some (.own false ((List.range (s + 1)).map nd)), some (.own false ([].map nd))] ⟨p, _, _, none, rfl, by simp, rfl, rfl⟩
  have nod : (left ++ found).Nodup := hp.nodup_iff.mpr List.nodup_range
  refine ⟨q, found, [.dat I, .dat (.int cnt)], (List.nodup_append.mp nod).2.1, fun z => ?_, by omega, fun x hx => ?_, (runB_rt (s := .dat (.lst (found.map nd))) (ρ := [some (.own true (dish q)), some (.dat I), some (.dat (.int cnt)), s3, some (.own false (left.map nd)), some (.dat (.lst (found.map nd)))]) rfl ?_).trans (by simp [ends, I])⟩
  · subst z; simp at hk; omega
  · have := hp.mem_iff.mp (List.mem_append_right left hx)
    have := List.mem_range.mp this
    omega
  show g__law_some_of n [some (.own true (dish p)), some (.dat I), some (.dat (.int cnt)), none, none, none] = _
  unfold g__law_some_of
  rw [seq_nx (ρ1 := [some (.own true (dish p)), some (.dat I), some (.dat (.int cnt)), none, some (.own false ((List.range (s + 1)).map nd)), some (.own false [])]) (by
    simp [sParV, vO, oLstOf, eV, Rz.bind, I, lstD, oLst, aNil, isIo])]
  have e1 : sFor (iRg rg1 (aCons (eB minD (aCons (eV 2) (aCons (eB lenD (aCons (eV 1) aNil)) aNil))) aNil)) (tName 3) (sApp 5 (ePopO 4 (eCall F__law_spoon n (rOwn 0 (rCons (eLenO 4) rNil))))) [some (.own true (dish p)), some (.dat I), some (.dat (.int cnt)), none, some (.own false ((List.range (s + 1)).map nd)), some (.own false [])] =
      .ok (.nx, [some (.own true (dish q)), some (.dat I), some (.dat (.int cnt)), s3, some (.own false (left.map nd)), some (.own false (found.map nd))]) := by
    have hmin : minD [.int cnt, .int (s + 1 : Nat)] = some (.int m) := by
      simp only [minD, iLt_eq]
      congr 2
      by_cases z : ((s + 1 : Nat) : Int) < cnt
      · simp only [z, decide_true, if_true]; show _ = ((min cnt (s + 1) : Nat) : Int); omega
      · simp only [z, decide_false, Bool.false_eq_true, if_false]; show _ = ((min cnt (s + 1) : Nat) : Int); omega
    have hr : small62 m = true := small62_le (by omega) (by omega)
    have l1 : eB minD (aCons (eV 2) (aCons (eB lenD (aCons (eV 1) aNil)) aNil)) [some (.own true (dish p)), some (.dat I), some (.dat (.int cnt)), none, some (.own false ((List.range (s + 1)).map nd)), some (.own false [])] = .ok (.int m, [some (.own true (dish p)), some (.dat I), some (.dat (.int cnt)), none, some (.own false ((List.range (s + 1)).map nd)), some (.own false [])]) :=
      eB2_ok (eV_ok rfl) (eB1_ok (eV_ok rfl) (by simp [I, lenD])) hmin
    simp only [sFor, iRg, aCons, aNil, Rz.bind] at l1 ⊢
    simp only [l1, rg1, hr, if_true, Int.toNat_natCast]
    exact e
  rw [seq_nx e1]
  simp [sRet, bndS, eFrz, ownL, Rz.bind]
end Lk

namespace Lk
open PySem PySem.Spec PyProof.Rows L2 M
/-! repr of a tuple of small ints -/
theorem showable_ints : ∀ xs : List Int, (∀ x ∈ xs, 0 ≤ x ∧ x ≤ 1000) → PyData.showableAll (xs.map PyData.int) = true
  | [], _ => by simp [PyData.showableAll]
  | x :: xs, h => by
    have h1 := h x List.mem_cons_self
    have : x.natAbs.log2 < 1920 := by
      by_cases z : x.natAbs = 0
      · rw [z]; decide
      · exact (Nat.log2_lt z).mpr (Nat.lt_of_le_of_lt (show x.natAbs ≤ 1000 by omega) (by decide +kernel))
    simp [PyData.showableAll, PyData.showable, this, showable_ints xs fun y hy => h y (List.mem_cons_of_mem _ hy)]
theorem nodict_ints : ∀ xs : List Int, PyData.hasDictAll (xs.map PyData.int) = false
  | [] => by simp [PyData.hasDictAll]
  | x :: xs => by simp [PyData.hasDictAll, PyData.hasDict, nodict_ints xs]
theorem leaves_ints : ∀ xs : List Int, (∀ x ∈ xs, 0 ≤ x ∧ x ≤ 1000) → PyData.leavesShortAll 13 (xs.map PyData.int) = true
  | [], _ => by simp [PyData.leavesShortAll]
  | x :: xs, h => by
    have h1 := h x List.mem_cons_self
    have := PyData.shown_int_le2 (i := x) (by omega) (by omega)
    simp [PyData.leavesShortAll, PyData.leavesShort, this, leaves_ints xs fun y hy => h y (List.mem_cons_of_mem _ hy)]
theorem bulk_ints : ∀ xs : List Int, PyData.bulkAll (xs.map PyData.int) = xs.length
  | [] => by simp [PyData.bulkAll]
  | x :: xs => by simp [PyData.bulkAll, PyData.bulk, bulk_ints xs]; omega
theorem repr_ints (xs : List Int) (h : ∀ x ∈ xs, 0 ≤ x ∧ x ≤ 1000) (hl : xs.length ≤ 100) : ∃ t, reprD [.tup (xs.map D.int)] = some (.str t) := by
  have h2 : pd (.tup (xs.map D.int)) = .tuple (xs.map PyData.int) := by simp [pd, pds_ints]
  have hs : (PyData.tuple (xs.map PyData.int)).showable = true := by simp [PyData.showable, showable_ints xs h]
  have hd : (PyData.tuple (xs.map PyData.int)).hasDict = false := by simp [PyData.hasDict, nodict_ints]
  have hdep : (PyData.tuple (xs.map PyData.int)).depth = 1 := by simp [PyData.depth, depth_ints]
  have hle := PyData.shown_le_bulk 13 (by decide) (PyData.tuple (xs.map PyData.int)) (by simp [PyData.leavesShort, leaves_ints xs h])
  have hb : (PyData.tuple (xs.map PyData.int)).bulk = xs.length := by simp [PyData.bulk, bulk_ints]
  rw [hb] at hle
  have z0 : (5000 : Nat) ≤ sizeLine := by decide +kernel
  have hlen : (PyData.tuple (xs.map PyData.int)).shown.length ≤ sizeLine := by omega
  have ok : showOk (pd (.tup (xs.map D.int))) = true := by
    rw [h2]
    show showD _ = true
    simp only [showD, Bool.and_eq_true, Nat.ble_eq, Bool.not_eq_true']
    exact ⟨⟨⟨⟨rfl, hs⟩, hd⟩, by omega⟩, hlen⟩
  refine ⟨_, if_pos ⟨by simp [M.plain, plains_ints], ok⟩⟩
theorem repr_int (g : Nat) (h : g < 2 ^ 60) : ∃ t, reprD [.int g] = some (.str t) := by
  have : (g : Int).natAbs.log2 < 1920 := by
    show g.log2 < 1920
    by_cases z : g = 0
    · rw [z]; decide
    · exact (Nat.log2_lt z).mpr (Nat.lt_trans h (by decide +kernel))
  refine ⟨_, if_pos ⟨by simp [M.plain], ?_⟩⟩
  simp [pd, showOk, Nat.blt, Nat.succ_le_iff]
  exact this
/-! allowed marks -/
def fsA : FA := aCons (eB maxD (aCons (eC (.int 0)) (aCons (e2 addD (e2 subD (eV 0) (eV 1)) (eV 2)) aNil))) (aCons (e2 addD (eB minD (aCons (eV 0) (aCons (eV 2) aNil))) (eC (.int 1))) aNil)
theorem fsA_ok (s names group : Nat) (hs : s ≤ 60) (hn : names ≤ 200) (hg : group ≤ names) : ∃ a b : Int, 0 ≤ a ∧ a ≤ 1000 ∧ 0 ≤ b ∧ b ≤ 61 ∧ fsA [some (.dat (.int s)), some (.dat (.int names)), some (.dat (.int group))] = .ok ([.int a, .int b], [some (.dat (.int s)), some (.dat (.int names)), some (.dat (.int group))]) := by
  refine ⟨if (s : Int) - names + group > 0 then (s : Int) - names + group else 0, (if (group : Int) < s then (group : Int) else s) + 1, ?_, ?_, ?_, ?_, ?_⟩
  · split <;> omega
  · split <;> omega
  · split <;> omega
  · split <;> omega
  · have m1 : maxD [.int 0, .int ((s : Int) - names + group)] = some (.int (if (s : Int) - names + group > 0 then (s : Int) - names + group else 0)) := rfl
    have m2 : minD [.int s, .int group] = some (.int (if (group : Int) < s then (group : Int) else s)) := rfl
    simp only [fsA, aCons, aNil, eB, bndA, e2, bnd, eV, eC, Rz.bind, ofO, frc_eq, List.getElem?_cons_succ, List.getElem?_cons_zero, subD, addD, m1, m2]
theorem allowed_ok (n s names group : Nat) (hs0 : 1 ≤ s) (hs : s ≤ 60) (hn0 : 1 ≤ names) (hn : names ≤ 200) (hg : group ≤ names) : ∃ (xs : List Int) (a1 a2 : M.Args), (∀ x ∈ xs, 0 ≤ x ∧ x ≤ 1000) ∧ xs.length ≤ 100 ∧
    F_allowed_marks n [.dat (.int s), .dat (.int names), .dat (.int group)] = some (.dat (.tup (xs.map D.int)), a1) ∧ F__law_allowed n [.dat (.int s), .dat (.int names), .dat (.int group)] = some (.dat (.lst (xs.map D.int)), a2) := by
  obtain ⟨a, b, ha, ha2, hb, hb2, e⟩ := fsA_ok s names group hs hn hg
  have ok : rgOk a b = true := by
    simp only [rgOk, Bool.and_eq_true, Nat.ble_eq]
    exact ⟨⟨small62_le (by omega) (by omega), small62_le (by omega) (by omega)⟩, by omega⟩
  have hxs : rgD a (b - a).toNat = ((List.range (b - a).toNat).map fun i => a + (i : Nat)).map D.int := by simp [rgD]
  let ρ : Rho := [some (.dat (.int s)), some (.dat (.int names)), some (.dat (.int group))]
  obtain ⟨a1, e1⟩ := reqnum_eq n s 1 60 (by omega) (by omega) (by omega) (by omega)
  obtain ⟨a2, e2⟩ := reqnum_eq n names 1 200 (by omega) (by omega) (by omega) (by omega)
  obtain ⟨a3, e3⟩ := reqnum_eq n group 0 names (by omega) (by omega) (by omega) (by omega)
  have r4 : ∃ as', F_require_both n [.dat (.int s), .dat (.int names)] = some (.dat .non, as') := by
    refine ⟨_, runB_nx (ρ := [some (.dat (.int s)), some (.dat (.int names))]) rfl ?_⟩
    show g_require_both n [some (.dat (.int s)), some (.dat (.int names))] = _
    have c1 : eCall F_require_number n (rCons (eV 0) (rCons (eC (.int 1)) (rCons (eC (.int 60)) rNil))) [some (.dat (.int s)), some (.dat (.int names))] = .ok (.non, [some (.dat (.int s)), some (.dat (.int names))]) :=
      call_d (ds := [.int s, .int 1, .int 60]) (by simp [rCons, rNil, eV, eC, Rz.bind]) e1
    have c2 : eCall F_require_number n (rCons (eV 1) (rCons (eC (.int 1)) (rCons (eC (.int 200)) rNil))) [some (.dat (.int s)), some (.dat (.int names))] = .ok (.non, [some (.dat (.int s)), some (.dat (.int names))]) :=
      call_d (ds := [.int names, .int 1, .int 200]) (by simp [rCons, rNil, eV, eC, Rz.bind]) e2
    simp [g_require_both, sSeq, sDrop, bndS, c1, c2, Rz.bind, sNx]
  obtain ⟨a4, e4⟩ := r4
  have r5 : ∃ as', F_allowed_in n [.dat (.int s), .dat (.int names), .dat (.int group)] = some (.dat (.tup (rgD a (b - a).toNat)), as') := by
    refine ⟨_, runB_rt (ρ := ρ) rfl ?_⟩
    show sRet (eRgT fsA) ρ = _
    simp [sRet, bndS, eRgT, bndA, ρ, e, rgPr, ok, Rz.bind]
  obtain ⟨a5, e5⟩ := r5
  have r6 : ∃ as', F_allowed_marks n [.dat (.int s), .dat (.int names), .dat (.int group)] = some (.dat (.tup (rgD a (b - a).toNat)), as') := by
    refine ⟨_, runB_rt (ρ := ρ) rfl ?_⟩
    show g_allowed_marks n ρ = _
    have c1 : eCall F_require_both n (rCons (eV 0) (rCons (eV 1) rNil)) ρ = .ok (.non, ρ) :=
      call_d (ds := [.int s, .int names]) (by simp [rCons, rNil, eV, Rz.bind, ρ]) e4
    have c2 : eCall F_require_number n (rCons (eV 2) (rCons (eC (.int 0)) (rCons (eV 1) rNil))) ρ = .ok (.non, ρ) :=
      call_d (ds := [.int group, .int 0, .int names]) (by simp [rCons, rNil, eV, eC, Rz.bind, ρ]) e3
    have c3 : eCall F_allowed_in n (rCons (eV 0) (rCons (eV 1) (rCons (eV 2) rNil))) ρ = .ok (.tup (rgD a (b - a).toNat), ρ) :=
      call_d (ds := [.int s, .int names, .int group]) (by simp [rCons, rNil, eV, Rz.bind, ρ]) e5
    simp [g_allowed_marks, sSeq, sDrop, bndS, c1, c2, c3, Rz.bind, sNx, sRet]
  obtain ⟨a6, e6⟩ := r6
  have r7 : ∃ as', F__law_allowed n [.dat (.int s), .dat (.int names), .dat (.int group)] = some (.dat (.lst (rgD a (b - a).toNat)), as') := by
    refine ⟨_, runB_rt (ρ := ρ) rfl ?_⟩
    show sRet (eRgL fsA) ρ = _
    simp [sRet, bndS, eRgL, bndA, ρ, e, rgPr, ok, Rz.bind]
  obtain ⟨a7, e7⟩ := r7
  rw [hxs] at e6 e7
  refine ⟨_, a6, a7, fun x hx => ?_, by simp; omega, e6, e7⟩
  obtain ⟨i, hi, rfl⟩ := List.mem_map.mp hx
  have := List.mem_range.mp hi
  omega
end Lk

namespace Lk
open PySem PySem.Spec PyProof.Rows L2 M
theorem call_o2 {F : FD} {n j : Nat} {fr : FAr} {ρ0 ρ : Rho} {ds es es' : List D} {d : D} {io : Bool} {as' : M.Args} (ho : ownL ρ j = some (io, es)) (h : fr ρ0 = .ok (.o j :: ds.map Ar.d, ρ)) (hF : F n (.own true es :: ds.map Sl.dat) = some (.dat d, .own true es' :: as')) : eCall F n fr ρ0 = .ok (d, ρ.set j (some (.own io es'))) := by
  simp only [eCall, h, Rz.bind, callD, onceO_o1, if_true, argsOf, ho, argsOf_d, Option.map_some, hF, backO_o1 ho]
/-- a spoon whose total is told by an expression that may use the dish too -/
theorem spoon_call2 (n j : Nat) (ρ0 ρ : Rho) (io io0 : Bool) (p : Int × Int × Int) (es0 : List D) (fe : FE) (t : Int) (hj0 : ownL ρ0 j = some (io0, es0)) (hj : ownL ρ j = some (io, dish p)) (he : fe ρ0 = .ok (.int t, ρ)) (ht : 0 < t) (ht2 : t ≤ 1000) :
    ∃ (r : Nat) (q : Int × Int × Int), (r : Int) < t ∧ eCall F__law_spoon n (rOwn j (rCons fe rNil)) ρ0 = .ok (.int r, ρ.set j (some (.own io (dish q)))) := by
  obtain ⟨r, q, as', h1, h2⟩ := spoon_ex n p t ht ht2
  refine ⟨r, q, h1, call_o2 (ds := [.int t]) hj ?_ h2⟩
  simp [rOwn, rCons, rNil, he, Rz.bind, hj0]
/-- 1 + spoon(dish, pick(dish, [a, b, c])) -/
theorem one_spoon (n : Nat) (p : Int × Int × Int) (ρ : Rho) (a b c : Int) (ha : 0 < a ∧ a ≤ 1000) (hb : 0 < b ∧ b ≤ 1000) (hc : 0 < c ∧ c ≤ 1000) : ∃ (r : Nat) (q : Int × Int × Int) (t : Int), (t = a ∨ t = b ∨ t = c) ∧ (r : Int) < t ∧
    M.e2 addD (eC (.int 1)) (eCall F__law_spoon n (rOwn 0 (rCons (eCall F__law_pick_of n (rOwn 0 (rCons (eLst (aCons (eC (.int a)) (aCons (eC (.int b)) (aCons (eC (.int c)) aNil)))) rNil))) rNil))) (some (.own true (dish p)) :: ρ) = .ok (.int (1 + (r : Nat)), some (.own true (dish q)) :: ρ) := by
  obtain ⟨t, q1, ht, e1⟩ := pick_call n 0 (some (.own true (dish p)) :: ρ) true p (eLst (aCons (eC (.int a)) (aCons (eC (.int b)) (aCons (eC (.int c)) aNil)))) a b c rfl (by simp [eLst, bndA, aCons, aNil, eC, Rz.bind, sizeLine])
  obtain ⟨r, q, hr, e2⟩ := spoon_call2 n 0 (some (.own true (dish p)) :: ρ) (some (.own true (dish q1)) :: ρ) true true q1 (dish p) _ t rfl rfl e1 (by omega) (by omega)
  exact ⟨r, q, t, ht, hr, e2_ok eC_ok e2 rfl⟩
/-- rows are sums of binomials -/
theorem tab3 : (List.range 61).all (fun s => decide (((List.range (s + 1)).map fun k => chM s k).foldl (· + ·) 0 = 2 ^ s)) = true := by decide +kernel
theorem tab4 : (List.range 61).all (fun m => (List.range (m + 1)).all fun k => chM m (m - k) == chM m k) = true := by decide +kernel
theorem row_ch {m k : Nat} (hm : m ≤ 60) (hk : k ≤ m) : (pasc m).getD k 0 = chM m k := by
  have h := List.all_eq_true.mp tab1 m (List.mem_range.mpr (by omega))
  have h2 := List.all_eq_true.mp h k (List.mem_range.mpr (by omega))
  have := eq_of_beq h2
  exact this.symm
theorem sym_ch {m k : Nat} (hm : m ≤ 60) (hk : k ≤ m) : chM m (m - k) = chM m k := by
  have h := List.all_eq_true.mp tab4 m (List.mem_range.mpr (by omega))
  have h2 := List.all_eq_true.mp h k (List.mem_range.mpr (by omega))
  exact eq_of_beq h2
theorem double_eq (n s : Nat) (hs : s ≤ 60) : ∃ as', F__law_double n [.dat (.int s)] = some (.dat (.int (2 ^ s)), as') := by
  let R : Nat → Rho → Prop := fun k ρ => ∃ s2, ρ = [some (.dat (.int s)), some (.dat (.int (2 ^ k))), s2] ∧ isIo ρ 2 = false
  obtain ⟨ρ', e, s2, rfl, _⟩ := forL_rg (tg := tName 2) (body := sSet 1 (M.e2 mulD (eV 1) (eC (.int 2)))) R 0 s (fun k hk ρ ⟨s2, e, i2⟩ => by
    subst e
    have h2 : small 2 = true := by decide
    refine ⟨[some (.dat (.int s)), some (.dat (.int (2 ^ k))), some (.dat (.int k))], [some (.dat (.int s)), some (.dat (.int (2 ^ (k + 1)))), some (.dat (.int k))], ?_, ?_, ⟨_, rfl, rfl⟩⟩
    · simp only [tName, i2, Int.zero_add]; rfl
    · exact set_ok (ρ1 := [some (.dat (.int s)), some (.dat (.int (2 ^ k))), some (.dat (.int k))]) (e2_ok (eV_ok rfl) eC_ok (by simp [mulD, h2, Int.pow_succ])) rfl) [some (.dat (.int s)), some (.dat (.int 1)), none] ⟨none, rfl, rfl⟩
  refine ⟨_, runB_rt (s := .dat (.int (2 ^ s))) (ρ := [some (.dat (.int s)), some (.dat (.int (2 ^ s))), s2]) rfl ?_⟩
  show g__law_double n [some (.dat (.int s)), none, none] = _
  have hr : small62 s = true := small62_le (by omega) (by omega)
  unfold g__law_double
  rw [seq_nx (ρ1 := [some (.dat (.int s)), some (.dat (.int 1)), none]) (by simp [sSet, bndS, eC, Rz.bind, isIo])]
  rw [seq_nx (ρ1 := [some (.dat (.int s)), some (.dat (.int (2 ^ s))), s2]) (by
    simp only [sFor, iRg, aCons, aNil, eV, Rz.bind, List.getElem?_cons_zero, rg1, hr, if_true, Int.toNat_natCast]
    exact e)]
  simp [sRet, bndS, eV, Rz.bind]
end Lk

namespace Lk
open PySem PySem.Spec PyProof.Rows L2 M
def sameR : Option (Sl × M.Args) → Option (Sl × M.Args) → Bool
  | some (.dat (.int i), _), some (.dat (.int j), _) => i == j
  | some (.dat .non, _), some (.dat .non, _) => true
  | _, _ => false
def prB (k : Nat) : Bool := sameR (F_prime_base 200 [.dat (.int (1 + (k : Int)))]) (F__law_prime_of 200 [.dat (.int (1 + (k : Int)))])
theorem pr0 : (List.range 60).all prB = true := by decide +kernel
end Lk

namespace Lk
open PySem PySem.Spec PyProof.Rows L2 M
theorem neS_int (i : Int) : neS (.int i) (.int i) = some (.bl false) := by
  have h3 : (PyData.int i).canLay0 = true := by simp [PyData.canLay0]
  have h4 : SeqAt.shaped (pd (.int i)) = true := by simp [SeqAt.shaped, pd, h3, PyData.depth]
  show neD _ _ = _
  unfold neD deq
  rw [if_pos ⟨by simp [M.plain], by simp [M.plain], h4, h4⟩]
  simp [pd, SeqAt.eqv_refl _ h3]
theorem neS_str (x : Str) : neS (.str x) (.str x) = some (.bl false) := by simp [neS]
theorem eqS_str (x : Str) : eqS (.str x) (.str x) = some (.bl true) := by simp [eqS]
section
variable (s l : Nat) (hs0 : 1 ≤ s) (hs : s ≤ 60) (hl : l ≤ s) (d0 nu du gr na kk : Option Sl)
include hs hl in
theorem step3 : (sIf (tOrD (M.tB (M.e2 neS (eCall F_binomial 200 (rCons (eV 1) (rCons (eV 5) rNil))) (eCall F__law_binom 200 (rCons (eV 1) (rCons (eV 5) rNil))))) (M.tB (M.e2 neS (eCall F_binomial 200 (rCons (eV 1) (rCons (M.e2 subD (eV 1) (eV 5)) rNil))) (eCall F_binomial 200 (rCons (eV 1) (rCons (eV 5) rNil)))))) (sRet (eC (.bl false))) sNx)
    [d0, some (.dat (.int s)), nu, du, gr, some (.dat (.int l)), na, kk] = .ok (.nx, [d0, some (.dat (.int s)), nu, du, gr, some (.dat (.int l)), na, kk]) := by
  obtain ⟨a1, e1⟩ := binomial_eq 200 s l hs hl
  obtain ⟨a2, e2⟩ := binom_eq 200 s l hs hl
  obtain ⟨a3, e3⟩ := binomial_eq 200 s (s - l) hs (by omega)
  rw [row_ch hs hl] at e2
  rw [sym_ch hs hl] at e3
  have c1 : eCall F_binomial 200 (rCons (eV 1) (rCons (eV 5) rNil)) [d0, some (.dat (.int s)), nu, du, gr, some (.dat (.int l)), na, kk] = .ok (.int (chM s l), [d0, some (.dat (.int s)), nu, du, gr, some (.dat (.int l)), na, kk]) :=
    call_d (ds := [.int s, .int l]) (by simp [rCons, rNil, eV, Rz.bind]) e1
  have c2 : eCall F__law_binom 200 (rCons (eV 1) (rCons (eV 5) rNil)) [d0, some (.dat (.int s)), nu, du, gr, some (.dat (.int l)), na, kk] = .ok (.int (chM s l), [d0, some (.dat (.int s)), nu, du, gr, some (.dat (.int l)), na, kk]) :=
    call_d (ds := [.int s, .int l]) (by simp [rCons, rNil, eV, Rz.bind]) e2
  have sub : (s : Int) - l = (s - l : Nat) := by omega
  have c3 : eCall F_binomial 200 (rCons (eV 1) (rCons (M.e2 subD (eV 1) (eV 5)) rNil)) [d0, some (.dat (.int s)), nu, du, gr, some (.dat (.int l)), na, kk] = .ok (.int (chM s l), [d0, some (.dat (.int s)), nu, du, gr, some (.dat (.int l)), na, kk]) :=
    call_d (ds := [.int s, .int (s - l : Nat)]) (by simp [rCons, rNil, eV, Rz.bind, M.e2, bnd, ofO, frc_eq, subD, sub]) e3
  have t1 := tB_ok (e2_ok c1 c2 (neS_int _))
  have t2 := tB_ok (e2_ok c3 c1 (neS_int _))
  simp [sIf, bndTS, tOrD, bndT_T, t1, t2, Rz.bind, sNx]
include hs0 hs in
theorem step4 (l5 : Option Sl) : (sIf (tOrD (M.tB (M.e2 neS (eCall F_binomial 200 (rCons (M.e2 subD (eV 1) (eC (.int 1))) (rCons (eC (.int 0)) rNil))) (eC (.int 1)))) (M.tB (M.e2 neS (eB sumD (aCons (eFz (oLc (iRg rg1 (aCons (M.e2 addD (eV 1) (eC (.int 1))) aNil)) (tName 7) tYesD (eCall F_binomial 200 (rCons (eV 1) (rCons (eV 7) rNil))) [7])) aNil)) (M.e2 mulD (eC (.int 2)) (eCall F__law_double 200 (rCons (M.e2 subD (eV 1) (eC (.int 1))) rNil)))))) (sRet (eC (.bl false))) sNx)
    [d0, some (.dat (.int s)), nu, du, gr, l5, na, none] = .ok (.nx, [d0, some (.dat (.int s)), nu, du, gr, l5, na, none]) := by
  have z0 : (500 : Nat) ≤ sizeLine := by decide +kernel
  have sub : (s : Int) - 1 = (s - 1 : Nat) := by omega
  obtain ⟨a1, e1⟩ := binomial_eq 200 (s - 1) 0 (by omega) (by omega)
  obtain ⟨a2, e2⟩ := double_eq 200 (s - 1) (by omega)
  have c1 : eCall F_binomial 200 (rCons (M.e2 subD (eV 1) (eC (.int 1))) (rCons (eC (.int 0)) rNil)) [d0, some (.dat (.int s)), nu, du, gr, l5, na, none] = .ok (.int 1, [d0, some (.dat (.int s)), nu, du, gr, l5, na, none]) :=
    call_d (ds := [.int (s - 1 : Nat), .int 0]) (by simp [rCons, rNil, eV, eC, Rz.bind, M.e2, bnd, ofO, frc_eq, subD, sub]) e1
  have c2 : eCall F__law_double 200 (rCons (M.e2 subD (eV 1) (eC (.int 1))) rNil) [d0, some (.dat (.int s)), nu, du, gr, l5, na, none] = .ok (.int (2 ^ (s - 1)), [d0, some (.dat (.int s)), nu, du, gr, l5, na, none]) :=
    call_d (ds := [.int (s - 1 : Nat)]) (by simp [rCons, rNil, eV, eC, Rz.bind, M.e2, bnd, ofO, frc_eq, subD, sub]) e2
  have h62 : small62 ((s : Int) + 1) = true := small62_le (by omega) (by omega)
  have hlc := lc_map (fi := iRg rg1 (aCons (M.e2 addD (eV 1) (eC (.int 1))) aNil)) (tg := tName 7) (fe := eCall F_binomial 200 (rCons (eV 1) (rCons (eV 7) rNil))) (vs := [7]) (ρ := [d0, some (.dat (.int s)), nu, du, gr, l5, na, none]) (ρ0 := [d0, some (.dat (.int s)), nu, du, gr, l5, na, none])
    (ds := rgD 0 (s + 1)) (fun d => match d with | .int i => .int (chM s i.toNat) | d => d) (by
      have : ((s : Int) + 1).toNat = s + 1 := by omega
      simp [iRg, aCons, aNil, M.e2, bnd, eV, eC, Rz.bind, ofO, frc_eq, addD, rg1, h62, this]) rfl (fun d hd => by
      obtain ⟨k, hk, rfl⟩ := rgD_mem hd
      obtain ⟨a3, e3⟩ := binomial_eq 200 s k hs (by omega)
      refine ⟨[d0, some (.dat (.int s)), nu, du, gr, l5, na, some (.dat (.int k))], [d0, some (.dat (.int s)), nu, du, gr, l5, na, some (.dat (.int k))], ?_, ?_, rfl, rfl⟩
      · simp [tName, wipeR, isIo]
      · have q := call_d (fr := rCons (eV 1) (rCons (eV 7) rNil)) (ρ := [d0, some (.dat (.int s)), nu, du, gr, l5, na, some (.dat (.int k))]) (ρ1 := [d0, some (.dat (.int s)), nu, du, gr, l5, na, some (.dat (.int k))]) (ds := [.int s, .int k]) (by simp [rCons, rNil, eV, Rz.bind]) e3
        rw [q]; simp) rfl (by simp [rgD]; omega)
  have hm : (rgD 0 (s + 1)).map (fun d => match d with | .int i => D.int (chM s i.toNat) | d => d) = ((List.range (s + 1)).map fun k => chM s k).map D.int := by
    simp [rgD]
  rw [hm] at hlc
  have hsum : ((List.range (s + 1)).map fun k => chM s k).sum = 2 * 2 ^ (s - 1) := by
    have h := List.all_eq_true.mp tab3 s (List.mem_range.mpr (by omega))
    have h2 : ((List.range (s + 1)).map fun k => chM s k).foldl (· + ·) 0 = 2 ^ s := of_decide_eq_true h
    rw [List.sum_eq_foldl, h2]
    obtain ⟨m, rfl⟩ : ∃ m, s = m + 1 := ⟨s - 1, by omega⟩
    simp [Int.pow_succ, Int.mul_comm]
  have s2 : small 2 = true := by decide
  have q1 : sumD [.lst (((List.range (s + 1)).map fun k => chM s k).map D.int)] = some (.int (2 * 2 ^ (s - 1))) := by
    simp only [sumD, asInts_map, Option.map_some, hsum]
  have q2 : mulD (.int 2) (.int (2 ^ (s - 1))) = some (.int (2 * 2 ^ (s - 1))) := by simp [mulD, s2]
  have t1 := tB_ok (e2_ok c1 eC_ok (neS_int _))
  have t2 := tB_ok (e2_ok (eB1_ok (fz_ok hlc) q1) (e2_ok eC_ok c2 q2) (neS_int _))
  simp [sIf, bndTS, tOrD, bndT_T, t1, t2, Rz.bind, sNx]
end
end Lk

namespace Lk
open PySem PySem.Spec PyProof.Rows L2 M
theorem sort_ex (fs : List Nat) (h : fs.Nodup) : ∃ ys : List Nat, sortedD [.lst (fs.map nd)] = some (.lst (ys.map nd)) ∧ ys.Pairwise (· < ·) ∧ ys.Perm fs := by
  letI : Tabs := ⟨[]⟩
  let zs := isort leI (fs.map fun x : Nat => (x : Int))
  have hp : zs.Perm (fs.map fun x : Nat => (x : Int)) := isort_perm _
  have hpos : ∀ z ∈ zs, 0 ≤ z := fun z hz => by
    obtain ⟨x, _, rfl⟩ := List.mem_map.mp (hp.mem_iff.mp hz)
    omega
  have hback : (zs.map Int.toNat).map (fun x : Nat => (x : Int)) = zs := by
    rw [List.map_map]
    conv => rhs; rw [← List.map_id zs]
    exact List.map_congr_left fun z hz => by have := hpos z hz; show ((z.toNat : Nat) : Int) = z; omega
  have hperm : (zs.map Int.toNat).Perm fs := by
    have := hp.map Int.toNat
    rw [List.map_map] at this
    have e : (Int.toNat ∘ fun x : Nat => (x : Int)) = id := by funext x; simp
    rwa [e, List.map_id] at this
  refine ⟨zs.map Int.toNat, ?_, ?_, hperm⟩
  · rw [nd_map fs, nd_map, hback]
    simp only [sortedD, asInts_map]
    rfl
  · have nod : (zs.map Int.toNat).Nodup := hperm.nodup_iff.mpr h
    have srt : zs.Pairwise (· ≤ ·) := isort_sorted _
    have srt2 : (zs.map Int.toNat).Pairwise (· ≤ ·) := by
      rw [List.pairwise_map]
      exact srt.imp fun h => by omega
    exact (srt2.and nod).imp fun ⟨a, b⟩ => by omega
theorem step5 (s : Nat) (hs : s ≤ 60) (p : Int × Int × Int) (nu du gr lo na kk : Option Sl) (hnu : isIo [nu] 0 = false) : ∃ (q : Int × Int × Int) (ys : List Nat), ys.Pairwise (· < ·) ∧ ys ≠ [] ∧ ys.length < 64 ∧ (∀ x ∈ ys, x ≤ s) ∧
    sSet 2 (M.e1 tupD (eB sortedD (aCons (eCall F__law_some_of 200 (rOwn 0 (rCons (eRgL (aCons (M.e2 addD (eV 1) (eC (.int 1))) aNil)) (rCons (M.e2 addD (eC (.int 1)) (eCall F__law_spoon 200 (rOwn 0 (rCons (eC (.int 5)) rNil)))) rNil)))) aNil))) [some (.own true (dish p)), some (.dat (.int s)), nu, du, gr, lo, na, kk] =
      .ok (.nx, [some (.own true (dish q)), some (.dat (.int s)), some (.dat (.tup (ys.map nd))), du, gr, lo, na, kk]) := by
  obtain ⟨r, q1, hr, c1⟩ := spoon_call 200 0 [some (.own true (dish p)), some (.dat (.int s)), nu, du, gr, lo, na, kk] true p (eC (.int 5)) 5 rfl rfl (by decide) (by decide)
  obtain ⟨q, fs, as', f1, f2, f3, f4, f5⟩ := some_ex 200 q1 s (1 + r) hs (by omega) (by omega)
  obtain ⟨ys, y1, y2, y3⟩ := sort_ex fs f1
  have h62 : rgOk 0 ((s : Int) + 1) = true := by
    simp only [rgOk, Bool.and_eq_true, Nat.ble_eq]
    exact ⟨⟨small62_le (by omega) (by omega), small62_le (by omega) (by omega)⟩, by omega⟩
  have hrg : eRgL (aCons (M.e2 addD (eV 1) (eC (.int 1))) aNil) [some (.own true (dish p)), some (.dat (.int s)), nu, du, gr, lo, na, kk] = .ok (.lst ((List.range (s + 1)).map nd), [some (.own true (dish p)), some (.dat (.int s)), nu, du, gr, lo, na, kk]) := by
    have e0 : ((s : Int) + 1 - 0).toNat = s + 1 := by omega
    have e1 : rgD 0 (s + 1) = (List.range (s + 1)).map nd := by unfold rgD nd; simp
    simp only [eRgL, bndA, aCons, aNil, M.e2, bnd, eV, eC, Rz.bind, ofO, frc_eq, addD, List.getElem?_cons_succ, List.getElem?_cons_zero, rgPr, h62, if_true, e0, e1]
  have c2 : M.e2 addD (eC (.int 1)) (eCall F__law_spoon 200 (rOwn 0 (rCons (eC (.int 5)) rNil))) [some (.own true (dish p)), some (.dat (.int s)), nu, du, gr, lo, na, kk] = .ok (.int (1 + r : Nat), [some (.own true (dish q1)), some (.dat (.int s)), nu, du, gr, lo, na, kk]) :=
    e2_ok eC_ok c1 (by simp [addD])
  have c3 : eCall F__law_some_of 200 (rOwn 0 (rCons (eRgL (aCons (M.e2 addD (eV 1) (eC (.int 1))) aNil)) (rCons (M.e2 addD (eC (.int 1)) (eCall F__law_spoon 200 (rOwn 0 (rCons (eC (.int 5)) rNil)))) rNil))) [some (.own true (dish p)), some (.dat (.int s)), nu, du, gr, lo, na, kk] = .ok (.lst (fs.map nd), [some (.own true (dish q)), some (.dat (.int s)), nu, du, gr, lo, na, kk]) := by
    refine call_o2 (j := 0) (io := true) (es := dish q1) (ρ := [some (.own true (dish q1)), some (.dat (.int s)), nu, du, gr, lo, na, kk]) (ds := [.lst ((List.range (s + 1)).map nd), .int (1 + r : Nat)]) rfl ?_ f5
    simp only [rOwn, rCons, rNil, hrg, c2, Rz.bind]
    rfl
  refine ⟨q, ys, y2, fun z => f2 (by subst z; exact List.nil_perm.mp y3), by rw [y3.length_eq]; exact f3, fun x hx => f4 x (y3.mem_iff.mp hx), ?_⟩
  rw [set_ok (e1_ok (op := tupD) (d := .tup (ys.map nd)) (eB1_ok c3 y1) rfl) (by simpa [isIo] using hnu)]
  rfl
end Lk

namespace Lk
open PySem PySem.Spec PyProof.Rows L2 M
section
variable (s : Nat) (hs0 : 1 ≤ s) (hs : s ≤ 60) (ys : List Nat) (hy : ∀ x ∈ ys, x ≤ s) (hl : ys.length < 64) (d0 gr lo na : Option Sl)
include hs hy hl in
theorem step6 : sSet 3 (eCall F__law_gcd 200 (rCons (eFz (oLc (iSeq (eV 2)) (tName 7) tYesD (eCall F__law_binom 200 (rCons (eV 1) (rCons (eV 7) rNil))) [7])) rNil)) [d0, some (.dat (.int s)), some (.dat (.tup (ys.map nd))), none, gr, lo, na, none] =
    .ok (.nx, [d0, some (.dat (.int s)), some (.dat (.tup (ys.map nd))), some (.dat (.int (gcds (ys.map (chN s))))), gr, lo, na, none]) := by
  have z0 : (500 : Nat) ≤ sizeLine := by decide +kernel
  have hlc := lc_map (fi := iSeq (eV 2)) (tg := tName 7) (fe := eCall F__law_binom 200 (rCons (eV 1) (rCons (eV 7) rNil))) (vs := [7]) (ρ := [d0, some (.dat (.int s)), some (.dat (.tup (ys.map nd))), none, gr, lo, na, none]) (ρ0 := [d0, some (.dat (.int s)), some (.dat (.tup (ys.map nd))), none, gr, lo, na, none])
    (ds := ys.map nd) (fun d => match d with | .int i => .int (chN s i.toNat : Nat) | d => d) (by simp [iSeq, eV, Rz.bind]) rfl (fun d hd => by
      obtain ⟨k, hk, rfl⟩ := List.mem_map.mp hd
      have hks := hy k hk
      obtain ⟨a3, e3⟩ := binom_eq 200 s k hs hks
      rw [row_ch hs hks, chN_eq hs hks] at e3
      refine ⟨[d0, some (.dat (.int s)), some (.dat (.tup (ys.map nd))), none, gr, lo, na, some (.dat (.int k))], [d0, some (.dat (.int s)), some (.dat (.tup (ys.map nd))), none, gr, lo, na, some (.dat (.int k))], ?_, ?_, rfl, rfl⟩
      · simp [tName, wipeR, isIo, nd]
      · exact call_d (ds := [.int s, .int k]) (by simp [rCons, rNil, eV, Rz.bind]) e3) rfl (by simp; omega)
  have hm : (ys.map nd).map (fun d => match d with | .int i => D.int (chN s i.toNat : Nat) | d => d) = (ys.map (chN s)).map fun c => D.int (c : Nat) := by
    rw [List.map_map, List.map_map]; rfl
  rw [hm] at hlc
  obtain ⟨a1, e1⟩ := lgcd_eq 200 (ys.map (chN s)) (fun c hc => by
    obtain ⟨k, hk, rfl⟩ := List.mem_map.mp hc
    exact (chN_rng hs (hy k hk)).2) (by decide)
  have c1 : eCall F__law_gcd 200 (rCons (eFz (oLc (iSeq (eV 2)) (tName 7) tYesD (eCall F__law_binom 200 (rCons (eV 1) (rCons (eV 7) rNil))) [7])) rNil) [d0, some (.dat (.int s)), some (.dat (.tup (ys.map nd))), none, gr, lo, na, none] = .ok (.int (gcds (ys.map (chN s))), [d0, some (.dat (.int s)), some (.dat (.tup (ys.map nd))), none, gr, lo, na, none]) :=
    call_d (ds := [.lst ((ys.map (chN s)).map fun c => D.int (c : Nat))]) (by simp only [rCons, rNil, fz_ok hlc, Rz.bind]; rfl) e1
  rw [set_ok c1 rfl]
  rfl
theorem sameR_of {o1 o2 : Option (Sl × M.Args)} (h : sameR o1 o2 = true) : ∃ d a b, o1 = some (.dat d, a) ∧ o2 = some (.dat d, b) ∧ neS d d = some (.bl false) := by
  unfold sameR at h
  split at h
  · have := eq_of_beq h
    subst this
    exact ⟨_, _, _, rfl, rfl, neS_int _⟩
  · exact ⟨_, _, _, rfl, rfl, by kernel_rfl⟩
  · cases h
theorem gcds_lt (C : List Nat) (h : ∀ c ∈ C, 0 < c ∧ c < 2 ^ 60) : gcds C < 2 ^ 60 := by
  have key : ∀ (C : List Nat), (∀ c ∈ C, 0 < c ∧ c < 2 ^ 60) → ∀ f, f < 2 ^ 60 → C.foldl (fun f c => Nat.gcd f c) f < 2 ^ 60 := by
    intro C
    induction C with
    | nil => intro _ f hf; exact hf
    | cons c C ih => exact fun h f hf => ih (fun x hx => h x (List.mem_cons_of_mem _ hx)) _ (Nat.lt_of_le_of_lt (Nat.gcd_le_right f (h c List.mem_cons_self).1) (h c List.mem_cons_self).2)
  exact key C h 0 (by decide)
variable (hp : ys.Pairwise (· < ·)) (hne : ys ≠ [])
include hs0 hs hy hl hp hne in
theorem step7 (k7 : Option Sl) : (sIf (tOrD (M.tB (M.e2 neS (eB reprD (aCons (eCall F_common_factor 200 (rCons (eV 1) (rCons (eV 2) rNil))) aNil)) (eB reprD (aCons (eV 3) aNil)))) (M.tB (M.e2 neS (eCall F_prime_base 200 (rCons (eV 1) rNil)) (eCall F__law_prime_of 200 (rCons (eV 1) rNil))))) (sRet (eC (.bl false))) sNx)
    [d0, some (.dat (.int s)), some (.dat (.tup (ys.map nd))), some (.dat (.int (gcds (ys.map (chN s))))), gr, lo, na, k7] = .ok (.nx, [d0, some (.dat (.int s)), some (.dat (.tup (ys.map nd))), some (.dat (.int (gcds (ys.map (chN s))))), gr, lo, na, k7]) := by
  obtain ⟨a1, e1⟩ := common_eq 200 s ys hs0 hs hy hp hl hne (by decide)
  have hpr := List.all_eq_true.mp pr0 (s - 1) (List.mem_range.mpr (by omega))
  unfold prB at hpr
  have es : (1 : Int) + (s - 1 : Nat) = s := by omega
  rw [es] at hpr
  obtain ⟨d, a, b, p1, p2, p3⟩ := sameR_of hpr
  obtain ⟨t, ht⟩ := repr_int (gcds (ys.map (chN s))) (gcds_lt _ fun c hc => by
    obtain ⟨k, hk, rfl⟩ := List.mem_map.mp hc
    exact chN_rng hs (hy k hk))
  let ρ : Rho := [d0, some (.dat (.int s)), some (.dat (.tup (ys.map nd))), some (.dat (.int (gcds (ys.map (chN s))))), gr, lo, na, k7]
  have c1 : eCall F_common_factor 200 (rCons (eV 1) (rCons (eV 2) rNil)) ρ = .ok (.int (gcds (ys.map (chN s))), ρ) :=
    call_d (ds := [.int s, .tup (ys.map nd)]) (by simp [rCons, rNil, eV, Rz.bind, ρ]) e1
  have c2 : eCall F_prime_base 200 (rCons (eV 1) rNil) ρ = .ok (d, ρ) := call_d (ds := [.int s]) (by simp [rCons, rNil, eV, Rz.bind, ρ]) p1
  have c3 : eCall F__law_prime_of 200 (rCons (eV 1) rNil) ρ = .ok (d, ρ) := call_d (ds := [.int s]) (by simp [rCons, rNil, eV, Rz.bind, ρ]) p2
  have t1 := tB_ok (ρ := ρ) (ρ1 := ρ) (e2_ok (ρ2 := ρ) (eB1_ok c1 ht) (eB1_ok (ρ1 := ρ) (fa := eV 3) (eV_ok rfl) ht) (neS_str _))
  have t2 := tB_ok (e2_ok c2 c3 p3)
  show _ = Rz.ok (Fl.nx, ρ)
  show sIf _ _ _ ρ = _
  simp [sIf, bndTS, tOrD, bndT_T, t1, t2, Rz.bind, sNx]
end
end Lk

namespace Lk
open PySem PySem.Spec PyProof.Rows L2 M
theorem right_ok (p : Int × Int × Int) : ∃ (q : Int × Int × Int) (as' : M.Args), F__law_right 200 [.own true (dish p)] = some (.dat (.bl true), .own true (dish q) :: as') := by
  obtain ⟨r, p1, t, ht, hr, c1⟩ := one_spoon 200 p [none, none, none, none, none, none, none] 8 20 60 (by decide) (by decide) (by decide)
  have hs0 : 1 ≤ 1 + r := by omega
  have hs : 1 + r ≤ 60 := by omega
  generalize hse : 1 + r = s at hs0 hs
  have c1' : (1 : Int) + (r : Nat) = (s : Nat) := by omega
  rw [c1'] at c1
  obtain ⟨l, p2, hl, c2⟩ := spoon_call 200 0 [some (.own true (dish p1)), some (.dat (.int s)), none, none, none, none, none, none] true p1 (M.e2 addD (eV 1) (eC (.int 1))) ((s : Int) + 1) rfl (e2_ok (eV_ok rfl) eC_ok rfl) (by omega) (by omega)
  obtain ⟨r2, p3, t2, ht2, hr2, c3⟩ := one_spoon 200 p2 [some (.dat (.int s)), none, none, none, none, none, none] 12 60 200 (by decide) (by decide) (by decide)
  have hn0 : 1 ≤ 1 + r2 := by omega
  have hn : 1 + r2 ≤ 200 := by omega
  generalize hne : 1 + r2 = names at hn0 hn
  have c3' : (1 : Int) + (r2 : Nat) = (names : Nat) := by omega
  rw [c3'] at c3
  have hls : l ≤ s := by omega
  obtain ⟨p4, ys, y1, y2, y3, y4, c5⟩ := step5 s hs p3 none none none (some (.dat (.int l))) (some (.dat (.int names))) none rfl
  obtain ⟨g, p5, hg, c8⟩ := spoon_call 200 0 [some (.own true (dish p4)), some (.dat (.int s)), some (.dat (.tup (ys.map nd))), some (.dat (.int (gcds (ys.map (chN s))))), none, some (.dat (.int l)), some (.dat (.int names)), none] true p4 (M.e2 addD (eV 6) (eC (.int 1))) ((names : Int) + 1) rfl (e2_ok (eV_ok rfl) eC_ok rfl) (by omega) (by omega)
  obtain ⟨xs, a1, a2, x1, x2, e1, e2⟩ := allowed_ok 200 s names g hs0 hs hn0 hn (by omega)
  obtain ⟨tx, htx⟩ := repr_ints xs x1 x2
  let ρ : Rho := [some (.own true (dish p5)), some (.dat (.int s)), some (.dat (.tup (ys.map nd))), some (.dat (.int (gcds (ys.map (chN s))))), some (.dat (.int g)), some (.dat (.int l)), some (.dat (.int names)), none]
  have d1 : eCall F_allowed_marks 200 (rCons (eV 1) (rCons (eV 6) (rCons (eV 4) rNil))) ρ = .ok (.tup (xs.map D.int), ρ) := call_d (ds := [.int s, .int names, .int g]) (by simp [rCons, rNil, eV, Rz.bind, ρ]) e1
  have d2 : eCall F__law_allowed 200 (rCons (eV 1) (rCons (eV 6) (rCons (eV 4) rNil))) ρ = .ok (.lst (xs.map D.int), ρ) := call_d (ds := [.int s, .int names, .int g]) (by simp [rCons, rNil, eV, Rz.bind, ρ]) e2
  have d3 := e2_ok (eB1_ok d1 htx) (eB1_ok (e1_ok (op := tupD) (d := .tup (xs.map D.int)) d2 rfl) htx) (eqS_str tx)
  refine ⟨p5, [], (runB_rt (s := .dat (.bl true)) (ρ := ρ) rfl ?_).trans (by simp [ends, ρ])⟩
  show g__law_right 200 [some (.own true (dish p)), none, none, none, none, none, none, none] = _
  unfold g__law_right
  rw [seq_nx (ρ1 := [some (.own true (dish p1)), some (.dat (.int s)), none, none, none, none, none, none]) (set_ok c1 rfl)]
  rw [seq_nx (ρ1 := [some (.own true (dish p3)), some (.dat (.int s)), none, none, none, some (.dat (.int l)), some (.dat (.int names)), none]) (by
    have c2' : eCall F__law_spoon 200 (rOwn 0 (rCons (M.e2 addD (eV 1) (eC (.int 1))) rNil)) [some (.own true (dish p1)), some (.dat (.int s)), none, none, none, none, none, none] = .ok (.int l, [some (.own true (dish p2)), some (.dat (.int s)), none, none, none, none, none, none]) := c2
    simp only [sPar, aCons, aNil, c2', c3, Rz.bind]
    rfl)]
  rw [seq_nx (step3 s l hs hls _ _ _ _ _ _)]
  rw [seq_nx (step4 s hs0 hs _ _ _ _ _ _)]
  rw [seq_nx c5]
  rw [seq_nx (step6 s hs ys y4 y3 _ _ _ _)]
  rw [seq_nx (step7 s hs0 hs ys y4 y3 _ _ _ _ y1 y2 _)]
  rw [seq_nx (set_ok c8 rfl)]
  show sRet _ ρ = _
  simp [sRet, bndS, d3, Rz.bind]
end Lk

namespace Lk
open PySem PySem.Spec PyProof.Rows L2 M
theorem dish_eq (n : Nat) (ns : List Int) (k : Nat) : ∃ x y, F__law_dish n [.dat (.scr ns), .dat (.int k)] = some (.own false [.int x, .int y, .int 0], [.dat (.scr ns), .dat (.int k)]) := by
  have h1 : small 89 = true := by decide
  have h2 : small 3 = true := by decide
  have h3 : small 10007 = true := by decide
  have hc : ∃ c : Int, (eIf (M.tB (e2 ltD (eV 1) (eB lenD (aCons (eV 0) aNil)))) (e2 ixD (eV 0) (eV 1)) (e2 addD (e2 mulD (eC (.int 89)) (eV 1)) (eC (.int 31)))) [some (.dat (.scr ns)), some (.dat (.int k)), none, none, none] = .ok (.int c, [some (.dat (.scr ns)), some (.dat (.int k)), none, none, none]) := by
    by_cases hk : k < ns.length
    · refine ⟨ns[k], ?_⟩
      simp [eIf, bndT, M.tB, bnd_T, bnd, e2, eV, eB, bndA, aCons, aNil, lenD, ltD, ofO, frc_eq, iLt_eq, Rz.bind, hk, ixD, atI, ixN]
    · refine ⟨89 * k + 31, ?_⟩
      simp [eIf, bndT, M.tB, bnd_T, bnd, e2, eV, eC, eB, bndA, aCons, aNil, lenD, ltD, ofO, frc_eq, iLt_eq, Rz.bind, hk, mulD, addD, h1]
  obtain ⟨c, hc⟩ := hc
  have m1 : (0 : Int) < (10 ^ (60 : Int).toNat) ^ (9 : Int).toNat := by decide +kernel
  have m2 : (0 : Int) < 10 ^ (18 : Int).toNat + 3 := by decide +kernel
  have key : ∀ (fc : FE) (Q9 E : Int), fc [some (.dat (.scr ns)), some (.dat (.int k)), none, none, none] = .ok (.int c, [some (.dat (.scr ns)), some (.dat (.int k)), none, none, none]) → 0 < Q9 → 0 < E + 3 → ∃ x y ρ, (sSeq (sSet 2 fc)
  (sSeq (sSet 3 (e2 modD (eB M.intD (aCons (eB absD (aCons (eV 2) aNil)) aNil)) (eC (.int Q9))))
  (sSeq (sSet 4 (e2 modD (eB M.intD (aCons (e2 addD (e2 addD (e2 addD (e2 mulD (eV 3) (eC (.int 3))) (e2 mulD (eC (.int 10007)) (eV 1))) (eB M.intD (aCons (e2 ltD (eV 2) (eC (.int 0))) aNil))) (eC (.int 40487))) aNil)) (e2 addD (eC (.int E)) (eC (.int 3)))))
  (sRetO (oLst (aCons (eIf (M.tB (e2 gtD (eV 3) (eC (.int E)))) (e2 subD (eV 3) (eC (.int E))) (eC (.int 0))) (aCons (eV 4) (aCons (eC (.int 0)) aNil)))))))) [some (.dat (.scr ns)), some (.dat (.int k)), none, none, none] = .ok (.rt (.own false [.int x, .int y, .int 0]), some (.dat (.scr ns)) :: some (.dat (.int k)) :: ρ) := by
    intro fc Q9 E hc hM hE
    by_cases hz : E < (if c < 0 then -c else c) % Q9
    · simp [sSeq, sSet, bndS, hc, Rz.bind, isIo, e2, bnd, eB, bndA, aCons, aNil, eV, eC, absD, M.intD, modD, mulD, addD, subD, gtD, ltD, ofO, frc_eq, iLt_eq, h2, h3, sRetO, oLst, eIf, bndT, M.tB, bnd_T, hM, hE, hz, sizeLine]
    · simp [sSeq, sSet, bndS, hc, Rz.bind, isIo, e2, bnd, eB, bndA, aCons, aNil, eV, eC, absD, M.intD, modD, mulD, addD, subD, gtD, ltD, ofO, frc_eq, iLt_eq, h2, h3, sRetO, oLst, eIf, bndT, M.tB, bnd_T, hM, hE, hz, sizeLine]
  obtain ⟨x, y, ρ, e⟩ := key _ _ _ hc m1 m2
  refine ⟨x, y, (runB_rt (ρ := some (.dat (.scr ns)) :: some (.dat (.int k)) :: ρ) (s := .own false [.int x, .int y, .int 0]) rfl (by
      show g__law_dish n [some (.dat (.scr ns)), some (.dat (.int k)), none, none, none] = _
      unfold g__law_dish
      rw [e2_C pw1, e2_C pw2, e2_C pw3]
      exact e)).trans ?_⟩
  simp [ends]

theorem right_call (ρ : Rho) (p : Int × Int × Int) (h : ownL ρ 3 = some (false, dish p)) : ∃ q : Int × Int × Int, eCall F__law_right 200 (rOwn 3 rNil) ρ = .ok (.bl true, ρ.set 3 (some (.own false (dish q)))) := by
  obtain ⟨q, as', e⟩ := right_ok p
  exact ⟨q, call_o1 (ds := []) h (by simp [rOwn, rNil, Rz.bind, h]) e⟩
theorem bi62 : ∃ as', F_binomial 200 [.dat (.int 6), .dat (.int 2)] = some (.dat (.int 15), as') := isI_of (by decide +kernel)
theorem bi00 : ∃ as', F_binomial 200 [.dat (.int 0), .dat (.int 0)] = some (.dat (.int 1), as') := isI_of (by decide +kernel)
theorem bi60 : ∃ as', F_binomial 200 [.dat (.int 60), .dat (.int 30)] = some (.dat (.int 118264581564861424), as') := isI_of (by decide +kernel)
theorem cf1 : ∃ as', F_common_factor 200 [.dat (.int 6), .dat (.tup [.int 2, .int 3, .int 4])] = some (.dat (.int 5), as') := isI_of (by decide +kernel)
theorem cf2 : ∃ as', F_common_factor 200 [.dat (.int 4), .dat (.tup [.int 1, .int 2, .int 3])] = some (.dat (.int 2), as') := isI_of (by decide +kernel)
def isN : Option (Sl × M.Args) → Bool | some (.dat .non, _) => true | _ => false
theorem isN_of {o : Option (Sl × M.Args)} (h : isN o = true) : ∃ as', o = some (.dat .non, as') := by
  unfold isN at h
  split at h
  · exact ⟨_, rfl⟩
  · cases h
theorem pb9 : ∃ as', F_prime_base 200 [.dat (.int 9)] = some (.dat (.int 3), as') := isI_of (by decide +kernel)
theorem pb2 : ∃ as', F_prime_base 200 [.dat (.int 2)] = some (.dat (.int 2), as') := isI_of (by decide +kernel)
theorem pb8 : ∃ as', F_prime_base 200 [.dat (.int 8)] = some (.dat (.int 2), as') := isI_of (by decide +kernel)
theorem pb49 : ∃ as', F_prime_base 200 [.dat (.int 49)] = some (.dat (.int 7), as') := isI_of (by decide +kernel)
theorem pb59 : ∃ as', F_prime_base 200 [.dat (.int 59)] = some (.dat (.int 59), as') := isI_of (by decide +kernel)
theorem pb6 : ∃ as', F_prime_base 200 [.dat (.int 6)] = some (.dat .non, as') := isN_of (by decide +kernel)
theorem pb1 : ∃ as', F_prime_base 200 [.dat (.int 1)] = some (.dat .non, as') := isN_of (by decide +kernel)
theorem pb60 : ∃ as', F_prime_base 200 [.dat (.int 60)] = some (.dat .non, as') := isN_of (by decide +kernel)
end Lk

namespace Lk
open PySem PySem.Spec PyProof.Rows L2 M
/-- slots: script at told dish turn size -/
def J (ns : List Int) (ρ : Rho) : Prop := ∃ a b, ρ = [some (.dat (.scr ns)), a, none, b, none, none] ∧ isIo ρ 1 = false ∧ isIo ρ 3 = false
def J2 (ns : List Int) (ρ : Rho) : Prop := ∃ a b t, ρ = [some (.dat (.scr ns)), a, none, b, t, none] ∧ isIo ρ 1 = false ∧ isIo ρ 3 = false ∧ isIo ρ 4 = false
theorem turns (ns : List Int) (a : Option Sl) (ha : isIo [a] 0 = false) (p : Int × Int × Int) (t : Option Sl) (ht : isIo [t] 0 = false) : ∃ ρ', sFor (iRg rg1 (aCons (eC (.int 6)) aNil)) (tName 4) (sIf (tNotD (tTr (eCall F__law_right 200 (rOwn 3 rNil)))) (sRet (eC (.bl false))) sNx) [some (.dat (.scr ns)), a, none, some (.own false (dish p)), t, none] = .ok (.nx, ρ') ∧ J2 ns ρ' := by
  let R : Rho → Prop := fun ρ => ∃ (q : Int × Int × Int) (t : Option Sl), ρ = [some (.dat (.scr ns)), a, none, some (.own false (dish q)), t, none] ∧ isIo ρ 4 = false
  obtain ⟨ρ', e, q, t', rfl, i4⟩ := forL_nx (tg := tName 4) (body := sIf (tNotD (tTr (eCall F__law_right 200 (rOwn 3 rNil)))) (sRet (eC (.bl false))) sNx) R (rgD 0 6) (fun d hd ρ ⟨q, t, e, i4⟩ => by
    subst e
    obtain ⟨q2, c1⟩ := right_call [some (.dat (.scr ns)), a, none, some (.own false (dish q)), some (.dat d), none] q rfl
    refine ⟨[some (.dat (.scr ns)), a, none, some (.own false (dish q)), some (.dat d), none], [some (.dat (.scr ns)), a, none, some (.own false (dish q2)), some (.dat d), none], ?_, ?_, ⟨_, _, rfl, rfl⟩⟩
    · simp only [tName, i4]; rfl
    · simp [sIf, bndTS, tNotD, bndT_T, tTr, bnd_T, c1, Rz.bind, trD, sNx]) [some (.dat (.scr ns)), a, none, some (.own false (dish p)), t, none] ⟨p, t, rfl, by simpa [isIo] using ht⟩
  refine ⟨_, ?_, ⟨a, _, t', rfl, by simpa [isIo] using ha, rfl, i4⟩⟩
  have h62 : small62 6 = true := by decide
  simp only [sFor, iRg, aCons, aNil, eC, Rz.bind, rg1, h62, if_true]
  exact e
end Lk

namespace Lk
open PySem PySem.Spec PyProof.Rows L2 M
theorem cells (ns : List Int) : ∃ ρ', sFor (iRg rg1 (aCons (eB maxD (aCons (eC (.int 1)) (aCons (eB minD (aCons (eC (.int 5)) (aCons (eB lenD (aCons (eV 0) aNil)) aNil))) aNil))) aNil)) (tName 1) (sSeq (sOwn 3 (oCall F__law_dish 200 (rCons (eV 0) (rCons (eV 1) rNil)))) (sFor (iRg rg1 (aCons (eC (.int 6)) aNil)) (tName 4) (sIf (tNotD (tTr (eCall F__law_right 200 (rOwn 3 rNil)))) (sRet (eC (.bl false))) sNx))) [some (.dat (.scr ns)), none, none, none, none, none] = .ok (.nx, ρ') ∧ J2 ns ρ' := by
  have hr : ∃ m : Nat, (iRg rg1 (aCons (eB maxD (aCons (eC (.int 1)) (aCons (eB minD (aCons (eC (.int 5)) (aCons (eB lenD (aCons (eV 0) aNil)) aNil))) aNil))) aNil)) [some (.dat (.scr ns)), none, none, none, none, none] = .ok (rgD 0 m, [some (.dat (.scr ns)), none, none, none, none, none]) := by
    have key : ∀ v : Int, v = (if (if (ns.length : Int) < 5 then (ns.length : Int) else 5) > 1 then (if (ns.length : Int) < 5 then (ns.length : Int) else 5) else 1) → small62 v = true := fun v hv => by
      rw [small62_iff]
      split at hv <;> (try split at hv) <;> omega
    have k2 := key _ rfl
    refine ⟨(if (if (ns.length : Int) < 5 then (ns.length : Int) else 5) > 1 then (if (ns.length : Int) < 5 then (ns.length : Int) else 5) else 1).toNat, ?_⟩
    simp only [iRg, aCons, aNil, eB, bndA, eC, eV, Rz.bind, ofO, frc_eq, lenD, minD, maxD, List.getElem?_cons_zero, rg1, k2, if_true]
  obtain ⟨m, hr⟩ := hr
  obtain ⟨ρ', e, j⟩ := forL_nx (tg := tName 1) (body := sSeq (sOwn 3 (oCall F__law_dish 200 (rCons (eV 0) (rCons (eV 1) rNil)))) (sFor (iRg rg1 (aCons (eC (.int 6)) aNil)) (tName 4) (sIf (tNotD (tTr (eCall F__law_right 200 (rOwn 3 rNil)))) (sRet (eC (.bl false))) sNx))) (J2 ns) (rgD 0 m) (fun d hd ρ ⟨a, b, t, e, i1, i3, i4⟩ => by
    subst e
    obtain ⟨k, _, rfl⟩ := rgD_mem hd
    rw [Int.zero_add]
    obtain ⟨x, y, hdish⟩ := dish_eq 200 ns k
    have c1 : oCall F__law_dish 200 (rCons (eV 0) (rCons (eV 1) rNil)) [some (.dat (.scr ns)), some (.dat (.int k)), none, b, t, none] = .ok ([.int x, .int y, .int 0], [some (.dat (.scr ns)), some (.dat (.int k)), none, b, t, none]) :=
      call_do (ds := [.scr ns, .int k]) (by simp [rCons, rNil, eV, Rz.bind]) hdish
    have i3' : isIo [some (.dat (.scr ns)), some (.dat (.int k)), none, b, t, none] 3 = false := i3
    have eo : sOwn 3 (oCall F__law_dish 200 (rCons (eV 0) (rCons (eV 1) rNil))) [some (.dat (.scr ns)), some (.dat (.int k)), none, b, t, none] = .ok (.nx, [some (.dat (.scr ns)), some (.dat (.int k)), none, some (.own false (dish (x, y, 0))), t, none]) := by
      simp [sOwn, c1, Rz.bind, i3', dish]
    obtain ⟨ρ2, e2, j2⟩ := turns ns (some (.dat (.int k))) rfl (x, y, 0) t (by simpa [isIo] using i4)
    refine ⟨[some (.dat (.scr ns)), some (.dat (.int k)), none, b, t, none], ρ2, ?_, (seq_nx eo).trans e2, j2⟩
    simp only [tName, i1]; rfl) [some (.dat (.scr ns)), none, none, none, none, none] ⟨none, none, none, rfl, rfl, rfl, rfl⟩
  refine ⟨ρ', ?_, j⟩
  simp only [sFor, hr, Rz.bind]
  exact e
end Lk

namespace Lk
open PySem PySem.Spec PyProof.Rows L2 M
theorem am (s nm g : Nat) (xs : List D) (h : (match F_allowed_marks 200 [.dat (.int s), .dat (.int nm), .dat (.int g)] with | some (.dat (.tup ys), _) => (asInts ys == asInts xs && (asInts xs).isSome) | _ => false) = true) : ∃ as', F_allowed_marks 200 [.dat (.int s), .dat (.int nm), .dat (.int g)] = some (.dat (.tup xs), as') := by
  letI : Tabs := ⟨[]⟩
  split at h
  · rename_i ys a e
    rw [Bool.and_eq_true] at h
    obtain ⟨h1, h2⟩ := h
    obtain ⟨zs, hz⟩ := Option.isSome_iff_exists.mp h2
    have h3 : asInts ys = some zs := (eq_of_beq h1).trans hz
    rw [e, asInts_eq h3, asInts_eq hz]
    exact ⟨_, rfl⟩
  · cases h
theorem am1 : ∃ as', F_allowed_marks 200 [.dat (.int 6), .dat (.int 8), .dat (.int 4)] = some (.dat (.tup [.int 2, .int 3, .int 4]), as') := am 6 8 4 _ (by decide +kernel)
theorem am2 : ∃ as', F_allowed_marks 200 [.dat (.int 3), .dat (.int 2), .dat (.int 1)] = some (.dat (.tup []), as') := am 3 2 1 _ (by decide +kernel)
theorem am3 : ∃ as', F_allowed_marks 200 [.dat (.int 2), .dat (.int 5), .dat (.int 1)] = some (.dat (.tup [.int 0, .int 1]), as') := am 2 5 1 _ (by decide +kernel)
end Lk

namespace Lk
open PySem PySem.Spec PyProof.Rows L2 M
theorem law_eq (ns : List Int) : ∃ as', F_law 200 [.dat (.scr ns)] = some (.dat (.bl true), as') := by
  obtain ⟨ρ', e0, a, b, t, rfl, i1, i3, i4⟩ := cells ns
  obtain ⟨_, x1⟩ := bi62
  obtain ⟨_, x2⟩ := cf1
  obtain ⟨_, x3⟩ := cf2
  obtain ⟨_, x4⟩ := pb9
  obtain ⟨_, x5⟩ := pb6
  obtain ⟨_, x6⟩ := am1
  obtain ⟨_, x7⟩ := am2
  obtain ⟨_, x8⟩ := am3
  obtain ⟨_, x9⟩ := bi00
  obtain ⟨_, x10⟩ := pb1
  obtain ⟨_, x11⟩ := bi60
  obtain ⟨_, y1⟩ := pb2
  obtain ⟨_, y2⟩ := pb8
  obtain ⟨_, y3⟩ := pb49
  obtain ⟨_, y4⟩ := pb60
  obtain ⟨_, y5⟩ := pb59
  have g1 : ∀ ρ, eCall F_binomial 200 (rCons (eC (.int 6)) (rCons (eC (.int 2)) rNil)) ρ = .ok (.int 15, ρ) := fun ρ => call_d (ds := [.int 6, .int 2]) (by simp [rCons, rNil, eC, Rz.bind]) x1
  have tup3 : ∀ (i j k : Int) ρ, eTup (aCons (eC (.int i)) (aCons (eC (.int j)) (aCons (eC (.int k)) aNil))) ρ = .ok (.tup [.int i, .int j, .int k], ρ) := fun i j k ρ => by simp [eTup, bndA, aCons, aNil, eC, Rz.bind, sizeLine]
  have g2 : ∀ ρ, eCall F_common_factor 200 (rCons (eC (.int 6)) (rCons (eTup (aCons (eC (.int 2)) (aCons (eC (.int 3)) (aCons (eC (.int 4)) aNil)))) rNil)) ρ = .ok (.int 5, ρ) := fun ρ => call_d (ds := [.int 6, .tup [.int 2, .int 3, .int 4]]) (by simp [rCons, rNil, tup3, Rz.bind]; simp [eC, Rz.bind]) x2
  have g3 : ∀ ρ, eCall F_common_factor 200 (rCons (eC (.int 4)) (rCons (eTup (aCons (eC (.int 1)) (aCons (eC (.int 2)) (aCons (eC (.int 3)) aNil)))) rNil)) ρ = .ok (.int 2, ρ) := fun ρ => call_d (ds := [.int 4, .tup [.int 1, .int 2, .int 3]]) (by simp [rCons, rNil, tup3, Rz.bind]; simp [eC, Rz.bind]) x3
  have pbc : ∀ (i : Int) (d : D) (a : M.Args), F_prime_base 200 [.dat (.int i)] = some (.dat d, a) → ∀ ρ, eCall F_prime_base 200 (rCons (eC (.int i)) rNil) ρ = .ok (d, ρ) := fun i d a h ρ => call_d (ds := [.int i]) (by simp [rCons, rNil, eC, Rz.bind]) h
  have amc : ∀ (i j k : Int) (d : D) (a : M.Args), F_allowed_marks 200 [.dat (.int i), .dat (.int j), .dat (.int k)] = some (.dat d, a) → ∀ ρ, eCall F_allowed_marks 200 (rCons (eC (.int i)) (rCons (eC (.int j)) (rCons (eC (.int k)) rNil))) ρ = .ok (d, ρ) := fun i j k d a h ρ => call_d (ds := [.int i, .int j, .int k]) (by simp [rCons, rNil, eC, Rz.bind]) h
  have g9 : ∀ ρ, eCall F_binomial 200 (rCons (eC (.int 0)) (rCons (eC (.int 0)) rNil)) ρ = .ok (.int 1, ρ) := fun ρ => call_d (ds := [.int 0, .int 0]) (by simp [rCons, rNil, eC, Rz.bind]) x9
  have g11 : ∀ ρ, eCall F_binomial 200 (rCons (eC (.int 60)) (rCons (eC (.int 30)) rNil)) ρ = .ok (.int 118264581564861424, ρ) := fun ρ => call_d (ds := [.int 60, .int 30]) (by simp [rCons, rNil, eC, Rz.bind]) x11
  have z0 : (500 : Nat) ≤ sizeLine := by decide +kernel
  refine ⟨_, runB_rt (s := .dat (.bl true)) (ρ := [some (.dat (.scr ns)), a, some (.dat (.lst [.int 2, .int 2, .int 7, .non, .int 59])), b, t, none]) rfl ?_⟩
  show g_law 200 [some (.dat (.scr ns)), none, none, none, none, none] = _
  unfold g_law
  rw [seq_nx e0]
  have q1 : sOwn 2 (oLst (aCons (eCall F_binomial 200 (rCons (eC (.int 6)) (rCons (eC (.int 2)) rNil))) (aCons (eCall F_common_factor 200 (rCons (eC (.int 6)) (rCons (eTup (aCons (eC (.int 2)) (aCons (eC (.int 3)) (aCons (eC (.int 4)) aNil)))) rNil))) (aCons (eCall F_common_factor 200 (rCons (eC (.int 4)) (rCons (eTup (aCons (eC (.int 1)) (aCons (eC (.int 2)) (aCons (eC (.int 3)) aNil)))) rNil))) (aCons (eCall F_prime_base 200 (rCons (eC (.int 9)) rNil)) (aCons (eCall F_prime_base 200 (rCons (eC (.int 6)) rNil)) aNil)))))) [some (.dat (.scr ns)), a, none, b, t, none] = .ok (.nx, [some (.dat (.scr ns)), a, some (.own false [.int 15, .int 5, .int 2, .int 3, .non]), b, t, none]) := by
    simp [sOwn, oLst, aCons, aNil, g1, g2, g3, pbc _ _ _ x4, pbc _ _ _ x5, Rz.bind, sizeLine, isIo]
  rw [seq_nx q1]
  have q2 : sOwn 2 (oCat 2 (aCons (eCall F_allowed_marks 200 (rCons (eC (.int 6)) (rCons (eC (.int 8)) (rCons (eC (.int 4)) rNil)))) (aCons (eCall F_allowed_marks 200 (rCons (eC (.int 3)) (rCons (eC (.int 2)) (rCons (eC (.int 1)) rNil)))) (aCons (eCall F_allowed_marks 200 (rCons (eC (.int 2)) (rCons (eC (.int 5)) (rCons (eC (.int 1)) rNil)))) (aCons (eCall F_binomial 200 (rCons (eC (.int 0)) (rCons (eC (.int 0)) rNil))) aNil))))) [some (.dat (.scr ns)), a, some (.own false [.int 15, .int 5, .int 2, .int 3, .non]), b, t, none] =
      .ok (.nx, [some (.dat (.scr ns)), a, some (.own false [.int 15, .int 5, .int 2, .int 3, .non, .tup [.int 2, .int 3, .int 4], .tup [], .tup [.int 0, .int 1], .int 1]), b, t, none]) := by
    simp [sOwn, oCat, ownL, aCons, aNil, amc _ _ _ _ _ x6, amc _ _ _ _ _ x7, amc _ _ _ _ _ x8, g9, Rz.bind, sizeLine, isIo]
  rw [seq_nx q2]
  have q3 : sApp 2 (eCall F_prime_base 200 (rCons (eC (.int 1)) rNil)) [some (.dat (.scr ns)), a, some (.own false [.int 15, .int 5, .int 2, .int 3, .non, .tup [.int 2, .int 3, .int 4], .tup [], .tup [.int 0, .int 1], .int 1]), b, t, none] =
      .ok (.nx, [some (.dat (.scr ns)), a, some (.own false [.int 15, .int 5, .int 2, .int 3, .non, .tup [.int 2, .int 3, .int 4], .tup [], .tup [.int 0, .int 1], .int 1, .non]), b, t, none]) := by
    simp [sApp, bndS, ownL, pbc _ _ _ x10, Rz.bind, sizeLine]
  rw [seq_nx q3]
  have n1 : neS (.lst [.int 15, .int 5, .int 2, .int 3, .non, .tup [.int 2, .int 3, .int 4], .tup [], .tup [.int 0, .int 1], .int 1, .non]) (.lst [.int 15, .int 5, .int 2, .int 3, .non, .tup [.int 2, .int 3, .int 4], .tup [], .tup [.int 0, .int 1], .int 1, .non]) = some (.bl false) := by kernel_rfl
  have n2 : neS (.lst [.int 60, .int 200]) (.lst [.int 60, .int 200]) = some (.bl false) := by kernel_rfl
  have n3 : eqS (.lst [.int 2, .int 2, .int 7, .non, .int 59]) (.lst [.int 2, .int 2, .int 7, .non, .int 59]) = some (.bl true) := by kernel_rfl
  have n4 : eqS (.int 118264581564861424) (.int 118264581564861424) = some (.bl true) := by kernel_rfl
  rw [seq_nx (ρ1 := [some (.dat (.scr ns)), a, some (.dat (.lst [.int 15, .int 5, .int 2, .int 3, .non, .tup [.int 2, .int 3, .int 4], .tup [], .tup [.int 0, .int 1], .int 1, .non])), b, t, none]) (by
    simp [sIf, bndTS, tOrD, bndT_T, M.tB, bnd_T, M.e2, bnd, eFrz, ownL, eLst, eTup, bndA, aCons, aNil, eC, Rz.bind, sizeLine, ofO, frc_eq, n1, n2, sNx])]
  let rr : Rho := [some (.dat (.scr ns)), a, some (.dat (.lst [.int 15, .int 5, .int 2, .int 3, .non, .tup [.int 2, .int 3, .int 4], .tup [], .tup [.int 0, .int 1], .int 1, .non])), b, t, none]
  have pbv : ∀ (i : Int) (d : D) (as' : M.Args), F_prime_base 200 [.dat (.int i)] = some (.dat d, as') → eCall F_prime_base 200 (rCons (eV 5) rNil) (rr.set 5 (some (.dat (.int i)))) = .ok (d, rr.set 5 (some (.dat (.int i)))) := fun i d as' h => call_d (ds := [.int i]) (by simp [rCons, rNil, eV, Rz.bind, rr]) h
  have hlc := lc_map (fi := iSeq (eTup (aCons (eC (.int 2)) (aCons (eC (.int 8)) (aCons (eC (.int 49)) (aCons (eC (.int 60)) (aCons (eC (.int 59)) aNil))))))) (tg := tName 5) (fe := eCall F_prime_base 200 (rCons (eV 5) rNil)) (vs := [5]) (ρ := rr) (ρ0 := rr)
    (ds := [.int 2, .int 8, .int 49, .int 60, .int 59]) (fun d => match d with | .int 2 => .int 2 | .int 8 => .int 2 | .int 49 => .int 7 | .int 60 => .non | .int 59 => .int 59 | d => d) (by simp [iSeq, eTup, bndA, aCons, aNil, eC, Rz.bind, sizeLine]) rfl (fun d hd => by
      simp only [List.mem_cons, List.not_mem_nil, or_false] at hd
      rcases hd with e | e | e | e | e <;> subst e
      · exact ⟨_, _, rfl, pbv _ _ _ y1, rfl, rfl⟩
      · exact ⟨_, _, rfl, pbv _ _ _ y2, rfl, rfl⟩
      · exact ⟨_, _, rfl, pbv _ _ _ y3, rfl, rfl⟩
      · exact ⟨_, _, rfl, pbv _ _ _ y4, rfl, rfl⟩
      · exact ⟨_, _, rfl, pbv _ _ _ y5, rfl, rfl⟩) rfl (by simp [sizeLine])
  have q5 : sOwn 2 (oLc (iSeq (eTup (aCons (eC (.int 2)) (aCons (eC (.int 8)) (aCons (eC (.int 49)) (aCons (eC (.int 60)) (aCons (eC (.int 59)) aNil))))))) (tName 5) tYesD (eCall F_prime_base 200 (rCons (eV 5) rNil)) [5]) rr = .ok (.nx, [some (.dat (.scr ns)), a, some (.own false [.int 2, .int 2, .int 7, .non, .int 59]), b, t, none]) := by
    simp only [sOwn, hlc, Rz.bind]
    rfl
  rw [seq_nx q5]
  simp [sRet, bndS, eAnd, M.e2, bnd, g11, eC, Rz.bind, ofO, frc_eq, n4, eFrz, ownL, eLst, bndA, aCons, aNil, sizeLine, n3]
end Lk
theorem PySem.Challenge.cw_fewnames_k35_binomials_told_holds : PySem.Challenge.rw_fewnames_k35_binomials_told.Holds :=
  Lk.law_holds fun ns _ _ => ⟨200, Lk.law_eq ns⟩

