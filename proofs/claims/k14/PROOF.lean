import PyProof.Rows.All
import Wide.All
import OpenK.AllK
import Wide.FinOn
import HandS.Base
import HandS.Call
import HandS.List
import HandS.Comp
import HandS.Text
import HandS.Exc
import HandS.ExcOwn
import HandS.Words
import HandS.Walk
import HandS.Lambda
import HandS.TupAny
import HandS.CallSlots
import HandS.IsInst
import HandS.RaiseMore
import KE.KUnpackStar
import HandS.StrMore
import HandS.WordsExc
import HandS.Ends
import HandS.Defaults
import HandS.Head0
import HandS.Head1
import HandS.Head2
import HandS.HeadEnd
import HandS.HeadHook1
import HandS.HeadHook2
import HandS.HeadHook3
import HandS.HeadHook4
import HandS.SortOrd
import HandS.SortKw
import HandS.TupLe
import HandS.SortRule
import HandS.SortInts
import KE.KSortTupAny
import HandS.MakeKwOnly
import HandS.Style
import HandS.Dict
import HandS.Flow
import KE.KSortKey
import KE.KSortKeyAny
import HandS.Nested
import HandS.HeadWalk
import PySem.Challenge.RW_sheetmoot_k14_whole_rules_in_their_row
set_option Elab.async false
set_option linter.all false
set_option maxRecDepth 100000
set_option maxHeartbeats 4000000
/-! DLa: data trees, the frozen heap, owned lists; the readings as plain functions over slots. -/
namespace DL
open PySem PySem.Spec PyProof.Rows L2
/-- the tables of code objects that the text's lambdas grow, with the names of what they hold -/
class Tb where
  T : List (Addr × Str)
instance (priority := low) tb0 : Tb := ⟨[]⟩
variable [Tb]
/-- what stood stands; tables may have grown -/
structure Same (F H : Hp) : Prop where
  at' : ∀ b o, F b = some o → (∀ ps, o ≠ .tbl ps) → H b = some o
  tb : ∀ b ps, F b = some (.tbl ps) → ∃ ps', H b = some (.tbl ps')
  tabs : LamX.Tabs Tb.T F → LamX.Tabs Tb.T H
theorem Same.g {F H : Hp} (s : Same F H) {b : Addr} {o : HO} (h : F b = some o) (n : ∀ ps, o ≠ .tbl ps := by intro _ z; cases z) : H b = some o := s.at' b o h n
theorem Same.of {F H : Hp} (k : ∀ b o, F b = some o → H b = some o) : Same F H := ⟨fun b o h _ => k b o h, fun b ps h => ⟨ps, k b _ h⟩, fun t => t.ext k⟩
theorem Same.refl (H : Hp) : Same H H := .of fun _ _ h => h
theorem Same.trans {F G H : Hp} (a : Same F G) (b : Same G H) : Same F H := ⟨fun c o h n => b.at' c o (a.at' c o h n) n, fun c ps h => let ⟨_, e⟩ := a.tb c ps h; b.tb c _ e, fun t => b.tabs (a.tabs t)⟩
theorem Same.free {F H : Hp} (e : Same F H) {l : Addr} (h : H l = none) : F l = none := by
  cases q : F l with
  | none => rfl
  | some o =>
    by_cases n : ∀ ps, o ≠ .tbl ps
    · rw [e.at' l o q n] at h; cases h
    · have : ∃ ps, o = .tbl ps := Classical.byContradiction fun z => n fun ps e => z ⟨ps, e⟩
      obtain ⟨ps, rfl⟩ := this
      obtain ⟨ps', e'⟩ := e.tb l ps q
      rw [e'] at h; cases h
/-- no table, no thing that is told by a sentence -/
def NX (o : HO) : Prop := (∀ ps, o ≠ .tbl ps) ∧ ∀ φ, o ≠ .ext φ
theorem tabs_back {F : Hp} {p : Addr} {o : HO} (n : NX o) {T : List (Addr × Str)} (t : LamX.Tabs T (upd F p o)) : LamX.Tabs T F := fun x hx => by
  obtain ⟨ps, h1, h2, h3⟩ := t x hx
  have ne : ∀ {b u}, upd F p o b = some u → (∀ u', o = u' → u ≠ u') → F b = some u := fun {b u} e k => by
    by_cases hb : b = p
    · rw [hb, upd_same] at e; cases e; exact absurd rfl (k o rfl)
    · rwa [upd_ne hb] at e
  refine ⟨ps, ne h1 fun u' e z => n.1 ps (e.trans z.symm), h2, fun pos cv hc => ?_⟩
  obtain ⟨c, e1, e2⟩ := h3 pos cv hc
  exact ⟨c, e1, ne e2 fun u' e z => n.2 _ (e.trans z.symm)⟩
theorem tabs_upd {H : Hp} {p : Addr} {o : HO} (h1 : ∀ ps, H p ≠ some (.tbl ps)) (h2 : ∀ φ, H p ≠ some (.ext φ)) {T : List (Addr × Str)} (t : LamX.Tabs T H) : LamX.Tabs T (upd H p o) := fun x hx => by
  obtain ⟨ps, a1, a2, a3⟩ := t x hx
  refine ⟨ps, by rw [upd_ne fun z => h1 ps (by rw [← z]; exact a1)]; exact a1, a2, fun pos cv hc => ?_⟩
  obtain ⟨c, e1, e2⟩ := a3 pos cv hc
  exact ⟨c, e1, by rw [upd_ne fun z => h2 _ (by rw [← z]; exact e2)]; exact e2⟩
/-- a write at what is new to F -/
theorem Same.upd {F H : Hp} (s : Same F H) {p : Addr} {o : HO} (n : F p = none) (h1 : ∀ ps, H p ≠ some (.tbl ps)) (h2 : ∀ φ, H p ≠ some (.ext φ)) : Same F (upd H p o) :=
  ⟨fun b u e k => by rw [upd_ne (ne_of_none e n)]; exact s.at' b u e k, fun b ps e => by
    obtain ⟨ps', e'⟩ := s.tb b ps e
    exact ⟨ps', by rw [upd_ne (ne_of_none e n)]; exact e'⟩, fun t => tabs_upd h1 h2 (s.tabs t)⟩
theorem Same.seq {K : PySem.W.Frag} {H H' : Hp} {a : Addr} {xs : List V} (e : Same H H') (h : SqL K H a xs) : SqL K H' a xs := by
  rcases h with (h | ⟨o, h⟩) | h
  · exact .inl (.inl (e.g h))
  · exact .inl (.inr ⟨o, e.g h⟩)
  · exact .inr h

abbrev St := L2.St
/-- the built-in classes that isinstance asks about -/
inductive BT where
  | list | tuple | bool | str | int
  deriving DecidableEq
def BT.name : BT → String
  | .list => "list" | .tuple => "tuple" | .bool => "bool" | .str => "str" | .int => "int"
/-- plain data; bor: a list of the frame's own, lent for a moment -/
inductive D where
  | non | bl (b : Bool) | int (i : Int) | str (x : Str)
  | tup (xs : List D) | lst (xs : List D) | bor (xs : List D)
  | obj (a : Addr)
  | ins (c : Addr) (ks : List Str) (vs : List D)
  | ty (n : BT)
  | scr (xs : List D)

/-- an exception of a class of the text's own, by the class's name; its field at -/
structure Exn where
  nm : Str
  pl : Option D

inductive R (α : Type) where
  | ok (a : α) | exc (e : Exn) | stuck
def R.bind {α β : Type} (r : R α) (k : α → R β) : R β := match r with
  | .ok a => k a | .exc e => .exc e | .stuck => .stuck
def R.map {α β : Type} (g : α → β) (r : R α) : R β := match r with
  | .ok a => .ok (g a) | .exc e => .exc e | .stuck => .stuck
theorem R.bind_ok {α β : Type} (a : α) (k : α → R β) : (R.ok a).bind k = k a := rfl
theorem R.bind_exc {α β : Type} (e : Exn) (k : α → R β) : (R.exc e).bind k = .exc e := rfl
theorem R.bind_stuck {α β : Type} (k : α → R β) : (R.stuck : R α).bind k = .stuck := rfl
theorem R.map_ok {α β : Type} (a : α) (g : α → β) : (R.ok a).map g = .ok (g a) := rfl
theorem R.map_exc {α β : Type} (e : Exn) (g : α → β) : (R.exc e).map g = .exc e := rfl

/-- a slot: unknown; holding data; holding a list of the frame's own -/
inductive Sl where
  | un | d (x : D) | own (xs : List D)
abbrev Rho := List Sl

/-- a tuple that stands in F, or in the written part -/
def TupA (K : PySem.W.Frag) (F : Hp) (a : Addr) (vs : List V) : Prop := F a = some (.tup vs) ∨ ∃ (o : Obj) (its : Array Value) (n : Nat), K.lookup a = some o ∧ o.cls = .type "tuple" ∧ o.data = .seq its n ∧ its.size ≤ sizeLine ∧ Vals vs its.toList
theorem TupA.sq {K : PySem.W.Frag} {F H : Hp} {a : Addr} {vs : List V} (s : Same F H) (h : TupA K F a vs) : SqT K H a vs := by
  rcases h with h | h
  · exact .inl (.inl (s.g h))
  · exact .inr h
theorem TupA.mono {K : PySem.W.Frag} {F H : Hp} {a : Addr} {vs : List V} (s : Same F H) (h : TupA K F a vs) : TupA K H a vs := by
  rcases h with h | h
  · exact .inl (s.g h)
  · exact .inr h
mutual
/-- the value v is the datum, all its objects in the frozen heap F -/
def Rep (K : PySem.W.Frag) (F : Hp) : D → V → Prop
  | .non, v => v = .non
  | .bl b, v => v = .bl b
  | .int i, v => v = .int i
  | .str x, v => v = .str x
  | .tup xs, v => ∃ a vs, v = .ref a ∧ TupA K F a vs ∧ Reps K F xs vs
  | .lst xs, v => ∃ a vs, v = .ref a ∧ Rd F a (.lst vs) ∧ Reps K F xs vs
  | .bor _, _ => False
  | .obj a, v => v = .ref a
  | .ty n, v => v = .ty n.name
  | .scr xs, v => ∃ a vs, v = .ref a ∧ SqL K F a vs ∧ Reps K F xs vs
  | .ins c ks ds, v => ∃ a dx vs, v = .ref a ∧ F a = some (.ins c dx (ks.zip vs)) ∧ ks.length = vs.length ∧ Reps K F ds vs
def Reps (K : PySem.W.Frag) (F : Hp) : List D → List V → Prop
  | [], vs => vs = []
  | d :: ds, vs => ∃ v r, vs = v :: r ∧ Rep K F d v ∧ Reps K F ds r
end

theorem same_seqT {K : PySem.W.Frag} {H H' : Hp} {a : Addr} {xs : List V} (e : Same H H') (h : SqT K H a xs) : SqT K H' a xs := by
  rcases h with (h | ⟨o, h⟩) | h
  · exact .inl (.inl (e.g h))
  · exact .inl (.inr ⟨o, e.g h⟩)
  · exact .inr h

theorem same_rd {H H' : Hp} {a : Addr} {u : HO} (e : Same H H') (h : Rd H a u) (n : ∀ ps, u ≠ .tbl ps := by intro _ z; cases z) : Rd H' a u := by
  rcases h with h | ⟨o, h⟩
  · exact .inl (e.g h n)
  · exact .inr ⟨o, e.g h⟩
mutual
theorem Rep.mono {K : PySem.W.Frag} {F F' : Hp} (s : Same F F') : ∀ {d : D} {v : V}, Rep K F d v → Rep K F' d v
  | .non, _, h => h
  | .bl _, _, h => h
  | .int _, _, h => h
  | .str _, _, h => h
  | .tup _, _, h => by
    obtain ⟨a, vs, e, q, r⟩ := h
    exact ⟨a, vs, e, q.mono s, Reps.mono s r⟩
  | .lst _, _, h => by
    obtain ⟨a, vs, e, q, r⟩ := h
    exact ⟨a, vs, e, same_rd s q, Reps.mono s r⟩
  | .bor _, _, h => h
  | .obj _, _, h => h
  | .ty _, _, h => h
  | .scr _, _, h => by
    obtain ⟨a, vs, e, q, r⟩ := h
    exact ⟨a, vs, e, s.seq q, Reps.mono s r⟩
  | .ins _ _ _, _, h => by
    obtain ⟨a, dx, vs, e, q, l, r⟩ := h
    exact ⟨a, dx, vs, e, s.g q, l, Reps.mono s r⟩
theorem Reps.mono {K : PySem.W.Frag} {F F' : Hp} (s : Same F F') : ∀ {ds : List D} {vs : List V}, Reps K F ds vs → Reps K F' ds vs
  | [], _, h => h
  | _ :: _, _, h => by
    obtain ⟨v, r, e, q, t⟩ := h
    exact ⟨v, r, e, Rep.mono s q, Reps.mono s t⟩
end
section
variable {K : PySem.W.Frag} {F H F' H' F1 H1 : Hp}
theorem Reps.length : ∀ {ds : List D} {vs : List V}, Reps K F ds vs → ds.length = vs.length
  | [], _, h => by
    have h : _ = [] := h
    rw [h]; rfl
  | _ :: _, _, h => by
    obtain ⟨v, r, e, q, t⟩ := h
    rw [e, List.length_cons, List.length_cons, Reps.length t]
theorem Reps.nil : Reps K F [] [] := rfl
theorem Reps.cons {d : D} {v : V} {ds : List D} {vs : List V} (h : Rep K F d v) (t : Reps K F ds vs) : Reps K F (d :: ds) (v :: vs) := ⟨v, vs, rfl, h, t⟩
theorem Reps.get : ∀ {ds : List D} {vs : List V} {i : Nat} {d : D}, Reps K F ds vs → ds[i]? = some d → ∃ v, vs[i]? = some v ∧ Rep K F d v
  | [], _, i, d, h, e => by simp at e
  | x :: ds, _, 0, d, h, e => by
    obtain ⟨v, r, rfl, q, t⟩ := h
    simp at e; subst e
    exact ⟨v, rfl, q⟩
  | x :: ds, _, i + 1, d, h, e => by
    obtain ⟨v, r, rfl, q, t⟩ := h
    obtain ⟨u, e1, q1⟩ := Reps.get (i := i) t (by simpa using e)
    exact ⟨u, by simpa using e1, q1⟩
theorem Reps.get' {ds : List D} {vs : List V} {i : Nat} {v : V} (h : Reps K F ds vs) (e : vs[i]? = some v) : ∃ d, ds[i]? = some d ∧ Rep K F d v := by
  have hi : i < vs.length := (List.getElem?_eq_some_iff.mp e).1
  have hd : i < ds.length := by rw [h.length]; exact hi
  obtain ⟨u, e1, q⟩ := h.get (i := i) (d := ds[i]) (by simp [hd])
  rw [e1] at e; cases e
  exact ⟨ds[i], by simp [hd], q⟩
theorem Reps.append : ∀ {ds es : List D} {vs us : List V}, Reps K F ds vs → Reps K F es us → Reps K F (ds ++ es) (vs ++ us)
  | [], _, _, _, h, t => by
    have h : _ = [] := h
    rw [h]; exact t
  | _ :: _, _, _, _, h, t => by
    obtain ⟨v, r, rfl, q, u⟩ := h
    exact ⟨v, _, rfl, q, Reps.append u t⟩
theorem Reps.take : ∀ {ds : List D} {vs : List V} (n : Nat), Reps K F ds vs → Reps K F (ds.take n) (vs.take n)
  | _, _, 0, _ => rfl
  | [], _, n + 1, h => by
    have h : _ = [] := h
    rw [h]; rfl
  | _ :: _, _, n + 1, h => by
    obtain ⟨v, r, rfl, q, t⟩ := h
    exact ⟨v, _, rfl, q, Reps.take n t⟩
theorem Reps.drop : ∀ {ds : List D} {vs : List V} (n : Nat), Reps K F ds vs → Reps K F (ds.drop n) (vs.drop n)
  | _, _, 0, h => h
  | [], _, n + 1, h => by
    have h : _ = [] := h
    rw [h]; rfl
  | _ :: _, _, n + 1, h => by
    obtain ⟨v, r, rfl, q, t⟩ := h
    exact Reps.drop n t
theorem Reps.set : ∀ {ds : List D} {vs : List V} (i : Nat) {d : D} {v : V}, Reps K F ds vs → Rep K F d v → Reps K F (ds.set i d) (vs.set i v)
  | [], _, i, d, v, h, _ => by
    have h : _ = [] := h
    rw [h]; rfl
  | _ :: _, _, 0, d, v, h, q => by
    obtain ⟨u, r, rfl, p, t⟩ := h
    exact ⟨v, r, rfl, q, t⟩
  | _ :: _, _, i + 1, d, v, h, q => by
    obtain ⟨u, r, rfl, p, t⟩ := h
    exact ⟨u, _, rfl, p, Reps.set i t q⟩
theorem Reps.reverse : ∀ {ds : List D} {vs : List V}, Reps K F ds vs → Reps K F ds.reverse vs.reverse
  | [], _, h => by
    have h : _ = [] := h
    rw [h]; rfl
  | _ :: _, _, h => by
    obtain ⟨v, r, rfl, q, t⟩ := h
    rw [List.reverse_cons, List.reverse_cons]
    exact Reps.append (Reps.reverse t) ⟨v, [], rfl, q, rfl⟩
theorem Reps.rep {ds : List D} {vs : List V} (h : Reps K F ds vs) : ∀ k : Nat, Reps K F (List.replicate k ds).flatten (List.replicate k vs).flatten
  | 0 => rfl
  | k + 1 => by
    rw [List.replicate_succ, List.replicate_succ, List.flatten_cons, List.flatten_cons]
    exact Reps.append h (Reps.rep h k)

/-- the frozen heap and the heap grow: what stood stands; what is frozen anew is new -/
structure Ext (F H F' H' : Hp) : Prop where
  fr : Same F F'
  hp : Same H H'
  sub : Same F' H'
  new : ∀ p o, F' p = some o → F p = none → H p = none
theorem Ext.refl (s : Same F H) : Ext F H F H := ⟨Same.refl _, Same.refl _, s, fun p o h n => by rw [n] at h; cases h⟩
theorem Ext.trans (a : Ext F H F1 H1) (b : Ext F1 H1 F' H') : Ext F H F' H' where
  fr := a.fr.trans b.fr
  hp := a.hp.trans b.hp
  sub := b.sub
  new := fun p o h n => by
    cases q : F1 p with
    | some u => exact a.new p u q n
    | none => exact a.hp.free (b.new p o h q)
theorem Ext.none (e : Ext F H F' H') {p : Addr} {o : HO} (h : H p = some o) (n : F p = Option.none) : F' p = Option.none := by
  cases q : F' p with
  | none => rfl
  | some u => rw [e.new p u q n] at h; cases h
/-- a new frozen object -/
theorem Ext.frozen (s : Same F H) {p : Addr} {o : HO} (n : H p = Option.none) (x : NX o := by exact ⟨(by intro _ z; cases z), (by intro _ z; cases z)⟩) : Ext F H (upd F p o) (upd H p o) where
  fr := (Same.refl F).upd (s.free n) (by rw [s.free n]; intro _ z; cases z) (by rw [s.free n]; intro _ z; cases z)
  hp := (Same.refl H).upd n (by rw [n]; intro _ z; cases z) (by rw [n]; intro _ z; cases z)
  sub := ⟨fun b u e k => by
    by_cases hb : b = p
    · subst hb; rw [upd_same] at e ⊢; exact e
    · rw [upd_ne hb] at e ⊢; exact s.at' b u e k, fun b ps e => by
    by_cases hb : b = p
    · subst hb; rw [upd_same] at e ⊢; exact ⟨ps, e⟩
    · rw [upd_ne hb] at e ⊢; exact s.tb b ps e, fun t => tabs_upd (by rw [n]; intro _ z; cases z) (by rw [n]; intro _ z; cases z) (s.tabs (tabs_back x t))⟩
  new := fun b u e q => by
    by_cases hb : b = p
    · subst hb; exact n
    · rw [upd_ne hb, q] at e; cases e
/-- a new object that is not frozen -/
theorem Ext.laid (s : Same F H) {p : Addr} {o : HO} (n : H p = Option.none) : Ext F H F (upd H p o) where
  fr := Same.refl _
  hp := (Same.refl H).upd n (by rw [n]; intro _ z; cases z) (by rw [n]; intro _ z; cases z)
  sub := s.upd (s.free n) (by rw [n]; intro _ z; cases z) (by rw [n]; intro _ z; cases z)
  new := fun b u e q => by rw [q] at e; cases e
/-- an object outside is frozen afterwards -/
theorem Ext.freeze (s : Same F H) (e : Ext F H F' H') {p : Addr} {o : HO} (n : H p = Option.none) (h : H' p = some o) (x : NX o := by exact ⟨(by intro _ z; cases z), (by intro _ z; cases z)⟩) : Ext F H (upd F' p o) H' where
  fr := e.fr.upd (s.free n) (fun ps q => by
      obtain ⟨ps', e'⟩ := e.sub.tb _ _ q
      rw [e'] at h; exact x.1 _ (Option.some.inj h).symm) (fun φ q => by
      have e' := e.sub.g q
      rw [e'] at h; exact x.2 _ (Option.some.inj h).symm)
  hp := e.hp
  sub := ⟨fun b u q k => by
    by_cases hb : b = p
    · subst hb; rw [upd_same] at q; cases q; exact h
    · rw [upd_ne hb] at q; exact e.sub.at' b u q k, fun b ps q => by
    by_cases hb : b = p
    · subst hb; rw [upd_same] at q; cases q; exact absurd rfl (x.1 ps)
    · rw [upd_ne hb] at q; exact e.sub.tb b ps q, fun t => e.sub.tabs (tabs_back x t)⟩
  new := fun b u q z => by
    by_cases hb : b = p
    · subst hb; exact n
    · rw [upd_ne hb] at q; exact e.new b u q z
end
end DL
set_option maxRecDepth 100000
set_option maxHeartbeats 4000000
namespace DL
open PySem PySem.Spec PyProof.Rows L2
variable [Tb]

/-! ### the frame's slots and the abstract slots -/
structure Sim (K : PySem.W.Frag) (F0 H0 F H : Hp) (σ : St) (ρ : Rho) : Prop where
  base : Same F0 H0 ∧ LamX.Tabs Tb.T F0
  ext : Ext F0 H0 F H
  len : σ.length = ρ.length
  slot : ∀ (i : Nat) (x : D), ρ[i]? = some (Sl.d x) → ∃ v, σ[i]? = some (some v) ∧ Rep K F x v
  own : ∃ o : Nat → Addr, (∀ (i : Nat) (xs : List D), ρ[i]? = some (Sl.own xs) → σ[i]? = some (some (.ref (o i))) ∧ F (o i) = none ∧ H0 (o i) = none ∧ ∃ vs, H (o i) = some (.lst vs) ∧ Reps K F xs vs) ∧
    ∀ (i j : Nat) (xs ys : List D), ρ[i]? = some (Sl.own xs) → ρ[j]? = some (Sl.own ys) → o i = o j → i = j
section
variable {K : PySem.W.Frag} {F0 H0 F H F' H' F1 H1 : Hp} {σ : St} {ρ : Rho}
theorem Sim.sub (S : Sim K F0 H0 F H σ ρ) : Same F H := S.ext.sub
theorem Sim.tabs (S : Sim K F0 H0 F H σ ρ) : LamX.Tabs Tb.T F := S.ext.fr.tabs S.base.2
theorem Sim.mono (S : Sim K F0 H0 F H σ ρ) (e : Ext F H F' H') : Sim K F0 H0 F' H' σ ρ := by
  obtain ⟨s0, a, l, b, o, c, d⟩ := S
  refine ⟨s0, a.trans e, l, fun i x h => ?_, o, fun i xs h => ?_, d⟩
  · obtain ⟨v, h1, h2⟩ := b i x h
    exact ⟨v, h1, h2.mono e.fr⟩
  · obtain ⟨h1, h2, h3, vs, h4, h5⟩ := c i xs h
    exact ⟨h1, e.none h4 h2, h3, vs, e.hp.g h4, h5.mono e.fr⟩
/-- a datum, or a lent list -/
def RepX (K : PySem.W.Frag) (F H : Hp) : D → V → Prop
  | .bor xs, v => ∃ p vs, v = .ref p ∧ F p = none ∧ H p = some (.lst vs) ∧ Reps K F xs vs
  | d, v => Rep K F d v
theorem RepX.mono {d : D} {v : V} (h : RepX K F H d v) (e : Ext F H F' H') : RepX K F' H' d v := by
  cases d with
  | bor xs =>
    obtain ⟨p, vs, h1, h2, h3, h4⟩ := h
    exact ⟨p, vs, h1, e.none h3 h2, e.hp.g h3, h4.mono e.fr⟩
  | _ => exact Rep.mono e.fr h
theorem Rep.x {d : D} {v : V} (h : Rep K F d v) : RepX K F H d v := by
  cases d with
  | bor xs => exact h.elim
  | _ => exact h
def RepsX (K : PySem.W.Frag) (F H : Hp) : List D → List V → Prop
  | [], vs => vs = []
  | d :: ds, vs => ∃ v r, vs = v :: r ∧ RepX K F H d v ∧ RepsX K F H ds r
theorem RepsX.mono (e : Ext F H F' H') : ∀ {ds : List D} {vs : List V}, RepsX K F H ds vs → RepsX K F' H' ds vs
  | [], _, h => h
  | _ :: _, _, h => by
    obtain ⟨v, r, e1, q, t⟩ := h
    exact ⟨v, r, e1, q.mono e, RepsX.mono e t⟩
theorem RepsX.length : ∀ {ds : List D} {vs : List V}, RepsX K F H ds vs → ds.length = vs.length
  | [], _, h => by
    have h : _ = [] := h
    rw [h]; rfl
  | _ :: _, _, h => by
    obtain ⟨v, r, e, q, t⟩ := h
    rw [e, List.length_cons, List.length_cons, RepsX.length t]
/-- no lent list among them -/
def kept : D → Bool
  | .bor _ => false
  | _ => true
theorem RepX.kept {d : D} {v : V} (h : RepX K F H d v) (k : kept d = true) : Rep K F d v := by
  cases d with
  | bor xs => cases k
  | _ => exact h
theorem RepsX.kept : ∀ {ds : List D} {vs : List V}, RepsX K F H ds vs → ds.all DL.kept = true → Reps K F ds vs
  | [], _, h, _ => h
  | _ :: _, _, h, k => by
    obtain ⟨v, r, e1, q, t⟩ := h
    simp only [List.all_cons, Bool.and_eq_true] at k
    exact ⟨v, r, e1, q.kept k.1, RepsX.kept t k.2⟩
/-- how an exception lies -/
def ExRep (K : PySem.W.Frag) (mg : Str → Option Value) (F H : Hp) (e : Exn) (c : Value) (dd : Option Addr) : Prop :=
  ∃ C, mg e.nm = some (.ref C) ∧ c = .ref C ∧ match e.pl with
    | none => dd = none
    | some d => ∃ q v, dd = some q ∧ H q = some (.xd [("at", v)]) ∧ Rep K F d v
theorem ExRep.mono {mg : Str → Option Value} {e : Exn} {c : Value} {dd : Option Addr} (h : ExRep K mg F H e c dd) (x : Ext F H F' H') : ExRep K mg F' H' e c dd := by
  obtain ⟨C, h1, h2, h3⟩ := h
  refine ⟨C, h1, h2, ?_⟩
  cases q : e.pl with
  | none => rw [q] at h3; exact h3
  | some d =>
    rw [q] at h3
    obtain ⟨q, v, a, b, r⟩ := h3
    exact ⟨q, v, a, x.hp.g b, r.mono x.fr⟩

/-! ### what is wanted behind a part -/
/-- rel: how a result lies -/
def Post {α β : Type} (K : PySem.W.Frag) (mg : Str → Option Value) (W : WX) (rel : Hp → Hp → α → β → Prop) (F H : Hp) (σ : St) (r : R α) (Q : β → Hp → Prop) : Prop :=
  match r with
  | .ok a => ∀ b F' H', Ext F H F' H' → rel F' H' a b → Q b H'
  | .exc e => ∀ c dd F' H', Ext F H F' H' → ExRep K mg F' H' e c dd → W c dd σ H'
  | .stuck => False
variable {mg : Str → Option Value} {W : WX} {α β γ δ : Type} {rel : Hp → Hp → α → β → Prop} {rel' : Hp → Hp → γ → δ → Prop}
theorem Post.mono {r : R α} {Q : β → Hp → Prop} (p : Post K mg W rel F H σ r Q) (e : Ext F H F' H') : Post K mg W rel F' H' σ r Q := by
  cases r with
  | ok a => exact fun b F2 H2 e2 q => p b F2 H2 (e.trans e2) q
  | exc x => exact fun c dd F2 H2 e2 q => p c dd F2 H2 (e.trans e2) q
  | stuck => exact p
theorem Post.imp {r : R α} {Q Q' : β → Hp → Prop} (p : Post K mg W rel F H σ r Q) (h : ∀ b H', Q b H' → Q' b H') : Post K mg W rel F H σ r Q' := by
  cases r with
  | ok a => exact fun b F2 H2 e2 q => h _ _ (p b F2 H2 e2 q)
  | exc x => exact p
  | stuck => exact p
theorem Post.bind {r : R α} {k : α → R γ} {Q : δ → Hp → Prop} {Q1 : β → Hp → Prop} (p : Post K mg W rel' F H σ (r.bind k) Q)
    (h : ∀ a b F1 H1, r = .ok a → Ext F H F1 H1 → rel F1 H1 a b → Post K mg W rel' F1 H1 σ (k a) Q → Q1 b H1) : Post K mg W rel F H σ r Q1 := by
  cases r with
  | ok a => exact fun b F1 H1 e q => h a b F1 H1 rfl e q (Post.mono (r := k a) p e)
  | exc x => exact p
  | stuck => exact p
theorem Post.ok {a : α} {b : β} {Q : β → Hp → Prop} (p : Post K mg W rel F H σ (.ok a) Q) (s : Same F H) (q : rel F H a b) : Q b H := p b F H (Ext.refl s) q
end

/-! ### the judgements -/
def tE (K : PySem.W.Frag) (mg : Str → Option Value) (W : WX) (f : Rho → R D) : TE := fun σ H Q => ∃ F0 H0 F ρ, Sim K F0 H0 F H σ ρ ∧ Post K mg W (RepX K) F H σ (f ρ) Q
def tA (K : PySem.W.Frag) (mg : Str → Option Value) (W : WX) (f : Rho → R (List D)) : TA := fun σ H Q => ∃ F0 H0 F ρ, Sim K F0 H0 F H σ ρ ∧ Post K mg W (RepsX K) F H σ (f ρ) Q
def tT (K : PySem.W.Frag) (mg : Str → Option Value) (W : WX) (f : Rho → R Bool) : TT := fun σ H Q => ∃ F0 H0 F ρ, Sim K F0 H0 F H σ ρ ∧ Post K mg W (fun _ _ a b => a = b) F H σ (f ρ) Q
/-- a new list of the frame's own -/
def RepO (K : PySem.W.Frag) (H0 : Hp) : Hp → Hp → List D → V → Prop := fun F H xs v => ∃ p vs, v = .ref p ∧ H0 p = none ∧ F p = none ∧ H p = some (.lst vs) ∧ Reps K F xs vs
def tO (K : PySem.W.Frag) (mg : Str → Option Value) (W : WX) (f : Rho → R (List D)) : TE := fun σ H Q => ∃ F0 H0 F ρ, Sim K F0 H0 F H σ ρ ∧ Post K mg W (RepO K H) F H σ (f ρ) Q
/-- expressions; argument lists; tests; expressions that hand out a new list -/
abbrev DE (X : Cx) (W : WX) (e : Expr) (f : Rho → R D) : Prop := PE X e (tE X.K X.mg W f)
abbrev DA (X : Cx) (W : WX) (es : List Expr) (f : Rho → R (List D)) : Prop := PA X es (tA X.K X.mg W f)
abbrev DT (X : Cx) (W : WX) (e : Expr) (f : Rho → R Bool) : Prop := PT X e (tT X.K X.mg W f)
abbrev DW (X : Cx) (W : WX) (e : Expr) (f : Rho → R Bool) : Prop := PW X e (tT X.K X.mg W f)
abbrev DO (X : Cx) (W : WX) (e : Expr) (f : Rho → R (List D)) : Prop := PE X e (tO X.K X.mg W f)
theorem PE.imp {X : Cx} {e : Expr} {t t' : TE} (h : PE X e t) (i : ∀ σ H Q, t' σ H Q → t σ H Q) : PE X e t' := ⟨fun pins s σ H Q I q => h.run pins s σ H Q I (i σ H Q q)⟩
theorem PT.imp {X : Cx} {e : Expr} {t t' : TT} (h : PT X e t) (i : ∀ σ H Q, t' σ H Q → t σ H Q) : PT X e t' := ⟨fun pins s σ H Q I q => h.run pins s σ H Q I (i σ H Q q)⟩
theorem PW.imp {X : Cx} {e : Expr} {t t' : TT} (h : PW X e t) (i : ∀ σ H Q, t' σ H Q → t σ H Q) : PW X e t' := ⟨fun wh pins s σ H Q I q => h.run wh pins s σ H Q I (i σ H Q q)⟩
theorem PA.imp {X : Cx} {es : List Expr} {t t' : TA} (h : PA X es t) (i : ∀ σ H Q, t' σ H Q → t σ H Q) : PA X es t' := ⟨fun pos pins s σ H Q I q => h.run pos pins s σ H Q I (i σ H Q q)⟩
theorem PS.imp {X : Cx} {st : Stmt} {t t' : TS} (h : PS X st t) (i : ∀ D σ H, t' D σ H → t D σ H) : PS X st t' := ⟨fun pins s σ H D I q => h.run pins s σ H D I (i D σ H q)⟩
theorem PSs.imp {X : Cx} {st : List Stmt} {t t' : TS} (h : PSs X st t) (i : ∀ D σ H, t' D σ H → t D σ H) : PSs X st t' := ⟨fun pins s σ H D I q => h.run pins s σ H D I (i D σ H q)⟩
theorem PG.imp {X : Cx} {e : Expr} {t t' : TG} (h : PG X e t) (i : ∀ v σ H Q, t' v σ H Q → t v σ H Q) : PG X e t' := ⟨fun pins s σ H v u Q I r q => h.run pins s σ H v u Q I r (i v σ H Q q)⟩
theorem PGs.imp {X : Cx} {es : List Expr} {t t' : TGs} (h : PGs X es t) (i : ∀ v σ H Q, t' v σ H Q → t v σ H Q) : PGs X es t' := ⟨fun pins s σ H v u Q I r q => h.run pins s σ H v u Q I r (i v σ H Q q)⟩

/-! ### expressions -/
section
variable {X : Cx} {W : WX} {a b c : Expr} {fa fb fc : Rho → R D} {pos : Pos}
/-- a constant of the program's text -/
def eC (d : D) : Rho → R D := fun _ => .ok d
def eV (i : Nat) : Rho → R D := fun ρ => match ρ[i]? with
  | some (.d x) => .ok x
  | some (.own xs) => .ok (.bor xs)
  | _ => .stuck
theorem de_int {i j} : DE X W (.Constant (.int i) j pos) (eC (.int i)) := PE.imp pe_int fun σ H Q ⟨_, _, F, ρ, S, p⟩ => p.ok S.sub rfl
theorem de_bl {i j} : DE X W (.Constant (.bool i) j pos) (eC (.bl i)) := PE.imp pe_bl fun σ H Q ⟨_, _, F, ρ, S, p⟩ => p.ok S.sub rfl
theorem de_non {j} : DE X W (.Constant .none j pos) (eC .non) := PE.imp pe_non fun σ H Q ⟨_, _, F, ρ, S, p⟩ => p.ok S.sub rfl
theorem de_str {x j} : DE X W (.Constant (.str x) j pos) (eC (.str x)) := PE.imp pe_str fun σ H Q ⟨_, _, F, ρ, S, p⟩ => p.ok S.sub rfl
theorem dv (i : Nat) {x : Str} (hN : X.N[i]? = some x := by rfl) (hv : Vis X.env.scope x := by first | exact Or.inl rfl | exact Or.inr (Or.inl rfl) | exact Or.inr (Or.inr rfl)) (hd : (x == ("__debug__" : Str)) = false := by decide)
    (hcd : (x == ("__classdict__" : Str)) = false := by decide) : DE X W (.Name x pos) (eV i) := PE.imp (pe_var hN hv hd hcd) fun σ H Q ⟨_, _, F, ρ, S, p⟩ => by
  unfold eV at p
  split at p
  · rename_i x e
    obtain ⟨v, h1, h2⟩ := S.slot i x e
    exact ⟨v, h1, p.ok S.sub h2.x⟩
  · rename_i xs e
    obtain ⟨o, h, _⟩ := S.own
    obtain ⟨h1, h2, h3, vs, h4, h5⟩ := h i xs e
    exact ⟨_, h1, p.ok S.sub ⟨_, vs, rfl, h2, h4, h5⟩⟩
  · exact p.elim
/-- an operator on two values, by what it gives -/
def OpD (X : Cx) (op : Value → Value → Sem Value) (g : D → D → R D) : Prop := ∃ r, OpR X op r ∧ ∀ F H x y u v Q, Same F H → RepX X.K F H x u → RepX X.K F H y v →
  Post X.K X.mg (fun _ _ _ _ => False) (RepX X.K) F H [] (g x y) Q → r u v H Q
def eOp (g : D → D → R D) (fa fb : Rho → R D) : Rho → R D := fun ρ => (fa ρ).bind fun x => (fb ρ).bind fun y => g x y
/-- what never raises -/
def R.calm {α : Type} : R α → Prop
  | .exc _ => False
  | _ => True
theorem Post.calm {α β : Type} {K : PySem.W.Frag} {mg : Str → Option Value} {W W' : WX} {rel : Hp → Hp → α → β → Prop} {F H : Hp} {σ σ' : St} {r : R α} {Q : β → Hp → Prop} (p : Post K mg W rel F H σ r Q) (h : r.calm) : Post K mg W' rel F H σ' r Q := by
  cases r with
  | ok a => exact p
  | exc x => exact h.elim
  | stuck => exact p
def Calm2 (g : D → D → R D) : Prop := ∀ x y, (g x y).calm
theorem de_op {op : Operator} {g : D → D → R D} (ho : OpD X (binaryOp op) g) (hc : Calm2 g) (ha : DE X W a fa) (hb : DE X W b fb) : DE X W (.BinOp a op b pos) (eOp g fa fb) := by
  obtain ⟨r, hr, k⟩ := ho
  refine PE.imp (pe_op hr ha hb) fun σ H Q ⟨F0, H0, F, ρ, S, p⟩ => ?_
  refine ⟨F0, H0, F, ρ, S, p.bind fun x u F1 H1 _ e1 r1 p1 => ?_⟩
  refine ⟨F0, H0, F1, ρ, S.mono e1, p1.bind fun y v F2 H2 _ e2 r2 p2 => ?_⟩
  exact k F2 H2 x y u v Q e2.sub (r1.mono e2) r2 (p2.calm (hc x y))
theorem de_cmp {op : CmpOp} {g : D → D → R D} (ho : OpD X (compareOp op) g) (hc : Calm2 g) (ha : DE X W a fa) (hb : DE X W b fb) (hm : behindInMarks op b = false) : DE X W (.Compare a [op] [b] pos) (eOp g fa fb) := by
  obtain ⟨r, hr, k⟩ := ho
  refine PE.imp (pe_cmpR hr ha hb hm) fun σ H Q ⟨F0, H0, F, ρ, S, p⟩ => ?_
  refine ⟨F0, H0, F, ρ, S, p.bind fun x u F1 H1 _ e1 r1 p1 => ?_⟩
  refine ⟨F0, H0, F1, ρ, S.mono e1, p1.bind fun y v F2 H2 _ e2 r2 p2 => ?_⟩
  exact k F2 H2 x y u v Q e2.sub (r1.mono e2) r2 (p2.calm (hc x y))
/-- a truth value as a test -/
def asB : D → R Bool
  | .bl k => .ok k
  | _ => .stuck
def eT (f : Rho → R D) : Rho → R Bool := fun ρ => (f ρ).bind asB
theorem dt_cmp {op : CmpOp} {g : D → D → R D} (ho : OpD X (compareOp op) g) (hc : Calm2 g) (ha : DE X W a fa) (hb : DE X W b fb) (hm : behindInMarks op b = false) : DT X W (.Compare a [op] [b] pos) (eT (eOp g fa fb)) := by
  obtain ⟨r, hr, k⟩ := ho
  refine PT.imp (pt_cmpR hr ha hb hm) fun σ H Q ⟨F0, H0, F, ρ, S, p⟩ => ?_
  have p : Post X.K X.mg W (fun _ _ a b => a = b) F H σ (((fa ρ).bind fun x => (fb ρ).bind fun y => g x y).bind asB) Q := p
  have e : (((fa ρ).bind fun x => (fb ρ).bind fun y => g x y).bind asB) = (fa ρ).bind fun x => (fb ρ).bind fun y => (g x y).bind asB := by
    cases fa ρ with
    | ok x => cases fb ρ <;> rfl
    | exc _ => rfl
    | stuck => rfl
  rw [e] at p
  refine ⟨F0, H0, F, ρ, S, p.bind fun x u F1 H1 _ e1 r1 p1 => ?_⟩
  refine ⟨F0, H0, F1, ρ, S.mono e1, p1.bind fun y v F2 H2 _ e2 r2 p2 => ?_⟩
  refine k F2 H2 x y u v _ e2.sub (r1.mono e2) r2 (Post.calm (W := W) (σ := σ) ?_ (hc x y))
  refine p2.bind fun z w F3 H3 _ e3 r3 p3 => ?_
  cases z with
  | bl kk => exact ⟨kk, r3, p3.ok e3.sub rfl⟩
  | _ => exact p3.elim
theorem dt_val {f : Rho → R D} (h : DE X W a f) (he : ∀ whole, isTrue a X.env whole = (do let v ← whole; standAt a.pos; holding [v] (truthy v)) := by intro _; rfl) : DT X W a (eT f) := by
  refine PT.imp (pt_val h he) fun σ H Q ⟨F0, H0, F, ρ, S, p⟩ => ?_
  refine ⟨F0, H0, F, ρ, S, Post.bind p fun x u F1 H1 _ e1 r1 p1 => ?_⟩
  cases x with
  | bl kk => exact ⟨kk, r1, p1.ok e1.sub rfl⟩
  | _ => exact p1.elim
/-! and, or, not, if-expressions -/
variable {ta tb tc : Rho → R Bool} {rest : List Expr}
def eAnd (t u : Rho → R Bool) : Rho → R Bool := fun ρ => (t ρ).bind fun k => if k = true then u ρ else .ok false
def eOr (t u : Rho → R Bool) : Rho → R Bool := fun ρ => (t ρ).bind fun k => if k = true then .ok true else u ρ
def eNot (t : Rho → R Bool) : Rho → R Bool := fun ρ => (t ρ).map (!·)
theorem dw_and1 (ha : DT X W a ta) : DW X W (.BoolOp .And [a] pos) ta := pw_and1 ha
theorem dw_or1 (ha : DT X W a ta) : DW X W (.BoolOp .Or [a] pos) ta := pw_or1 ha
theorem dw_and (ha : DT X W a ta) (hb : DW X W (.BoolOp .And (b :: rest) pos) tb) : DW X W (.BoolOp .And (a :: b :: rest) pos) (eAnd ta tb) := by
  refine PW.imp (pw_and ha hb) fun σ H Q ⟨F0, H0, F, ρ, S, p⟩ => ?_
  refine ⟨F0, H0, F, ρ, S, Post.bind p fun x u F1 H1 _ e1 r1 p1 => ?_⟩
  subst r1
  cases x with
  | true => exact ⟨F0, H0, F1, ρ, S.mono e1, p1⟩
  | false => exact p1.ok e1.sub rfl
theorem dw_or (ha : DT X W a ta) (hb : DW X W (.BoolOp .Or (b :: rest) pos) tb) : DW X W (.BoolOp .Or (a :: b :: rest) pos) (eOr ta tb) := by
  refine PW.imp (pw_or ha hb) fun σ H Q ⟨F0, H0, F, ρ, S, p⟩ => ?_
  refine ⟨F0, H0, F, ρ, S, Post.bind p fun x u F1 H1 _ e1 r1 p1 => ?_⟩
  subst r1
  cases x with
  | true => exact p1.ok e1.sub rfl
  | false => exact ⟨F0, H0, F1, ρ, S.mono e1, p1⟩
theorem dt_w (h : DW X W a ta) : DT X W a ta := PW.pt h
theorem dt_not (ha : DT X W a ta) : DT X W (.UnaryOp .Not a pos) (eNot ta) := by
  refine PT.imp (pt_not ha) fun σ H Q ⟨F0, H0, F, ρ, S, p⟩ => ?_
  refine ⟨F0, H0, F, ρ, S, ?_⟩
  have p : Post X.K X.mg W (fun _ _ a b => a = b) F H σ ((ta ρ).map (!·)) Q := p
  cases e : ta ρ with
  | ok k =>
    rw [e] at p
    exact fun b F1 H1 e1 q => p (!b) F1 H1 e1 (by rw [q])
  | exc x => rw [e] at p; exact p
  | stuck => rw [e] at p; exact p
def eIf (t : Rho → R Bool) (fa fb : Rho → R D) : Rho → R D := fun ρ => (t ρ).bind fun k => if k = true then fa ρ else fb ρ
theorem de_ifExp (hc : DT X W c tc) (ha : DE X W a fa) (hb : DE X W b fb) : DE X W (.IfExp c a b pos) (eIf tc fa fb) := by
  refine PE.imp (pe_ifExp hc ha hb) fun σ H Q ⟨F0, H0, F, ρ, S, p⟩ => ?_
  refine ⟨F0, H0, F, ρ, S, Post.bind p fun x u F1 H1 _ e1 r1 p1 => ?_⟩
  subst r1
  cases x with
  | true => exact ⟨F0, H0, F1, ρ, S.mono e1, p1⟩
  | false => exact ⟨F0, H0, F1, ρ, S.mono e1, p1⟩
/-! and, or, not as values -/
def eBv (t : Rho → R Bool) : Rho → R D := fun ρ => (t ρ).map .bl
def eAndV (t : Rho → R D) (u : Rho → R D) : Rho → R D := fun ρ => (eT t ρ).bind fun k => if k = true then u ρ else .ok (.bl false)
def eOrV (t : Rho → R D) (u : Rho → R D) : Rho → R D := fun ρ => (eT t ρ).bind fun k => if k = true then .ok (.bl true) else u ρ
def eNotV (t : Rho → R D) : Rho → R D := fun ρ => (eT t ρ).map fun k => .bl (!k)
theorem eT_ok {t : Rho → R D} {ρ : Rho} {d : D} (h : t ρ = .ok d) : eT t ρ = asB d := by unfold eT; rw [h]; rfl
theorem post_eT {F H : Hp} {σ : St} {ρ : Rho} {t : Rho → R D} {k : Bool → R D} {Q : VK} (p : Post X.K X.mg W (RepX X.K) F H σ ((eT t ρ).bind k) Q) : Post X.K X.mg W (RepX X.K) F H σ ((t ρ).bind fun d => (asB d).bind k) Q := by
  have e : (eT t ρ).bind k = (t ρ).bind fun d => (asB d).bind k := by
    unfold eT
    cases t ρ <;> rfl
  rw [← e]; exact p
theorem de_one {op} (h : DE X W a fa) : DE X W (.BoolOp op [a] pos) fa := pe_one h
theorem de_and (ha : DE X W a fa) (hb : DE X W (.BoolOp .And (b :: rest) pos) fb) : DE X W (.BoolOp .And (a :: b :: rest) pos) (eAndV fa fb) := by
  refine PE.imp (pe_and ha hb) fun σ H Q ⟨F0, H0, F, ρ, S, p⟩ => ?_
  refine ⟨F0, H0, F, ρ, S, (post_eT p).bind fun x u F1 H1 _ e1 r1 p1 => ?_⟩
  cases x with
  | bl k =>
    refine ⟨k, r1, ?_⟩
    cases k with
    | true => exact ⟨F0, H0, F1, ρ, S.mono e1, p1⟩
    | false => exact p1.ok e1.sub rfl
  | _ => exact p1.elim
theorem de_or (ha : DE X W a fa) (hb : DE X W (.BoolOp .Or (b :: rest) pos) fb) : DE X W (.BoolOp .Or (a :: b :: rest) pos) (eOrV fa fb) := by
  refine PE.imp (pe_or ha hb) fun σ H Q ⟨F0, H0, F, ρ, S, p⟩ => ?_
  refine ⟨F0, H0, F, ρ, S, (post_eT p).bind fun x u F1 H1 _ e1 r1 p1 => ?_⟩
  cases x with
  | bl k =>
    refine ⟨k, r1, ?_⟩
    cases k with
    | true => exact p1.ok e1.sub rfl
    | false => exact ⟨F0, H0, F1, ρ, S.mono e1, p1⟩
  | _ => exact p1.elim
theorem de_not (ha : DE X W a fa) : DE X W (.UnaryOp .Not a pos) (eNotV fa) := by
  refine PE.imp (pe_not ha) fun σ H Q ⟨F0, H0, F, ρ, S, p⟩ => ?_
  have p : Post X.K X.mg W (RepX X.K) F H σ ((eT fa ρ).map fun k => .bl (!k)) Q := p
  have e : ((eT fa ρ).map fun k => D.bl (!k)) = (eT fa ρ).bind fun k => .ok (.bl (!k)) := by cases eT fa ρ <;> rfl
  rw [e] at p
  refine ⟨F0, H0, F, ρ, S, (post_eT p).bind fun x u F1 H1 _ e1 r1 p1 => ?_⟩
  cases x with
  | bl k => exact ⟨k, r1, p1.ok e1.sub rfl⟩
  | _ => exact p1.elim
end
end DL
set_option maxRecDepth 100000
set_option maxHeartbeats 4000000
namespace DL
open PySem PySem.Spec PyProof.Rows L2
variable [Tb]

/-! ### sequences -/
section
variable {K : PySem.W.Frag} {F H F' H' : Hp} {X : Cx}
/-- the items of a list, lent or not -/
def lsD : D → Option (List D)
  | .lst xs => some xs
  | .bor xs => some xs
  | _ => none
theorem RepX.list {d : D} {v : V} {xs : List D} (s : Same F H) (h : RepX K F H d v) (e : lsD d = some xs) : ∃ a vs, v = .ref a ∧ Rd H a (.lst vs) ∧ Reps K F xs vs := by
  cases d with
  | lst ys =>
    cases e
    obtain ⟨a, vs, h1, h2, h3⟩ := h
    exact ⟨a, vs, h1, same_rd s h2, h3⟩
  | bor ys =>
    cases e
    obtain ⟨p, vs, h1, h2, h3, h4⟩ := h
    exact ⟨p, vs, h1, .inl h3, h4⟩
  | _ => cases e
theorem RepX.tup {v : V} {xs : List D} (s : Same F H) (h : RepX K F H (.tup xs) v) : ∃ a vs, v = .ref a ∧ SqT K H a vs ∧ Reps K F xs vs := by
  obtain ⟨a, vs, h1, h2, h3⟩ := h
  exact ⟨a, vs, h1, h2.sq s, h3⟩
theorem Reps.len_le {ds : List D} {vs : List V} (h : Reps K F ds vs) : ds.length = vs.length := h.length

/-! ### list + list for frozen ones too -/
def rCatR : R2 := fun x y H Q => ∃ l b xs zs, x = .ref l ∧ y = .ref b ∧ Rd H l (.lst xs) ∧ Rd H b (.lst zs) ∧ xs.length + zs.length ≤ sizeLine ∧ ∀ p, H p = none → Q (.ref p) (upd H p (.lst (xs ++ zs)))
theorem op_catR : OpR X (binaryOp .Add) rCatR := by
  intro pins s σ H x y v u Q I rx ry h
  obtain ⟨l, b, xs, zs, rfl, rfl, hH, hB, hz, q⟩ := h
  cases rx
  cases ry
  obtain ⟨z, its, n, r, e⟩ := hH.ok I.hok
  obtain ⟨z2, its2, n2, r2, e2⟩ := hB.ok I.hok
  have hl := r.length
  have hl2 := r2.length
  refine PySem.P.add_list e e2 ?_ (by rw [List.size_toArray, List.size_toArray]; omega)
  have ea : its.toArray ++ its2.toArray = (its ++ its2).toArray := by simp
  rw [ea]
  exact ⟨.ref _, _, I.lnew (t' := s.toks) (r.append r2) (by rw [List.length_append]; omega), rfl, q _ I.fresh⟩

/-! ### + -/
def addD : D → D → R D
  | .int a, .int b => .ok (.int (a + b))
  | .str a, .str b => if a.length + b.length ≤ sizeLine then .ok (.str (a ++ b)) else .stuck
  | .tup a, .tup b => if a.length + b.length ≤ sizeLine then .ok (.tup (a ++ b)) else .stuck
  | .lst a, .lst b => if a.length + b.length ≤ sizeLine then .ok (.lst (a ++ b)) else .stuck
  | .bor a, .lst b => if a.length + b.length ≤ sizeLine then .ok (.lst (a ++ b)) else .stuck
  | .lst a, .bor b => if a.length + b.length ≤ sizeLine then .ok (.lst (a ++ b)) else .stuck
  | .bor a, .bor b => if a.length + b.length ≤ sizeLine then .ok (.lst (a ++ b)) else .stuck
  | _, _ => .stuck
theorem post_if {α β : Type} {mg : Str → Option Value} {W : WX} {rel : Hp → Hp → α → β → Prop} {σ : St} {c : Prop} [Decidable c] {r : R α} {Q : β → Hp → Prop} (p : Post K mg W rel F H σ (if c then r else .stuck) Q) : c ∧ Post K mg W rel F H σ r Q := by
  by_cases h : c
  · rw [if_pos h] at p; exact ⟨h, p⟩
  · rw [if_neg h] at p; exact p.elim
theorem Rep.newL {xs : List D} {vs : List V} {p : Addr} (h : Reps K F xs vs) (n : F p = none) : Rep K (upd F p (.lst vs)) (.lst xs) (.ref p) :=
  ⟨p, vs, rfl, .inl upd_same, h.mono (.of fun b u e => by rw [upd_ne (ne_of_none e n)]; exact e)⟩
theorem Rep.newT {xs : List D} {vs : List V} {p : Addr} (h : Reps K F xs vs) (n : F p = none) : Rep K (upd F p (.tup vs)) (.tup xs) (.ref p) :=
  ⟨p, vs, rfl, .inl upd_same, h.mono (.of fun b u e => by rw [upd_ne (ne_of_none e n)]; exact e)⟩
theorem op_addD : OpD X (binaryOp .Add) addD := by
  refine ⟨_, op_add.or (op_add_str.or (op_catA.or op_catR)), fun F H x y u v Q s rx ry p => ?_⟩
  have lists : ∀ xs ys, lsD x = some xs → lsD y = some ys → Post X.K X.mg (fun _ _ _ _ => False) (RepX X.K) F H [] (if xs.length + ys.length ≤ sizeLine then .ok (.lst (xs ++ ys)) else .stuck) Q → rCatR u v H Q := fun xs ys e1 e2 p => by
    obtain ⟨hz, p⟩ := post_if p
    obtain ⟨a, vs, rfl, h1, h2⟩ := rx.list s e1
    obtain ⟨b, us, rfl, h3, h4⟩ := ry.list s e2
    refine ⟨a, b, vs, us, rfl, rfl, h1, h3, by rw [← h2.length, ← h4.length]; exact hz, fun q hq => ?_⟩
    exact p _ _ _ (Ext.frozen s hq) (Rep.x (Rep.newL (h2.append h4) (s.free hq)))
  unfold addD at p
  split at p
  · exact .inl ⟨_, _, rx, ry, p.ok s rfl⟩
  · obtain ⟨hz, p⟩ := post_if p
    exact .inr (.inl ⟨_, _, rx, ry, hz, p.ok s rfl⟩)
  · obtain ⟨hz, p⟩ := post_if p
    obtain ⟨a, vs, rfl, h1, h2⟩ := rx.tup s
    obtain ⟨b, us, rfl, h3, h4⟩ := ry.tup s
    have l1 := h2.length
    have l2 := h4.length
    refine .inr (.inr (.inl ⟨a, b, vs, us, rfl, rfl, h1, h3, by omega, fun e => ?_, fun e e' => ?_, fun _ _ q hq => ?_⟩))
    · subst e
      cases List.eq_nil_of_length_eq_zero l1
      exact p.ok s ry
    · subst e'
      cases List.eq_nil_of_length_eq_zero l2
      rw [List.append_nil] at p
      exact p.ok s rx
    · exact p _ _ _ (Ext.frozen s hq) (Rep.x (Rep.newT (h2.append h4) (s.free hq)))
  · exact .inr (.inr (.inr (lists _ _ rfl rfl p)))
  · exact .inr (.inr (.inr (lists _ _ rfl rfl p)))
  · exact .inr (.inr (.inr (lists _ _ rfl rfl p)))
  · exact .inr (.inr (.inr (lists _ _ rfl rfl p)))
  · exact p.elim
/-! ### - * // % ** -/
def subD : D → D → R D
  | .int a, .int b => .ok (.int (a - b))
  | _, _ => .stuck
theorem op_subD : OpD X (binaryOp .Sub) subD := by
  refine ⟨_, op_sub, fun F H x y u v Q s rx ry p => ?_⟩
  unfold subD at p
  split at p
  · exact ⟨_, _, rx, ry, p.ok s rfl⟩
  · exact p.elim
def small64 (a : Int) : Bool := decide (-(2 ^ 64) < a) && decide (a < 2 ^ 64)
def fdivD : D → D → R D
  | .int a, .int b => if 0 < b ∧ b < 1073741824 then .ok (.int (a / b)) else .stuck
  | _, _ => .stuck
theorem op_fdivD : OpD X (binaryOp .FloorDiv) fdivD := by
  refine ⟨_, op_fdiv, fun F H x y u v Q s rx ry p => ?_⟩
  unfold fdivD at p
  split at p
  · obtain ⟨hz, p⟩ := post_if p
    exact ⟨_, _, rx, ry, hz, p.ok s rfl⟩
  · exact p.elim
def modD : D → D → R D
  | .int a, .int b => if 0 < b then .ok (.int (a % b)) else .stuck
  | _, _ => .stuck
theorem op_modD : OpD X (binaryOp .Mod) modD := by
  refine ⟨_, op_mod, fun F H x y u v Q s rx ry p => ?_⟩
  unfold modD at p
  split at p
  · obtain ⟨hz, p⟩ := post_if p
    exact ⟨_, _, rx, ry, hz, p.ok s rfl⟩
  · exact p.elim
def powD : D → D → R D
  | .int a, .int b => if 0 ≤ b ∧ b ≤ 1000000 ∧ a.natAbs < 2 ^ 64 then .ok (.int (a ^ b.toNat)) else .stuck
  | _, _ => .stuck
theorem op_powD : OpD X (binaryOp .Pow) powD := by
  refine ⟨_, op_pow, fun F H x y u v Q s rx ry p => ?_⟩
  unfold powD at p
  split at p
  · obtain ⟨hz, p⟩ := post_if p
    exact ⟨_, _, rx, ry, hz, p.ok s rfl⟩
  · exact p.elim
theorem calm_if {α : Type} {c : Prop} [Decidable c] {a : α} : (if c then (R.ok a) else .stuck).calm := by
  by_cases h : c
  · rw [if_pos h]; exact trivial
  · rw [if_neg h]; exact trivial
theorem calm_add : Calm2 addD := fun x y => by
  unfold addD
  split <;> first | exact trivial | exact calm_if
theorem calm_sub : Calm2 subD := fun x y => by
  unfold subD
  split <;> exact trivial
theorem calm_fdiv : Calm2 fdivD := fun x y => by
  unfold fdivD
  split <;> first | exact trivial | exact calm_if
theorem calm_mod : Calm2 modD := fun x y => by
  unfold modD
  split <;> first | exact trivial | exact calm_if
theorem calm_pow : Calm2 powD := fun x y => by
  unfold powD
  split <;> first | exact trivial | exact calm_if
/-! ### comparisons of ints -/
def ltD : D → D → R D
  | .int a, .int b => .ok (.bl (decide (a < b)))
  | _, _ => .stuck
def leD : D → D → R D
  | .int a, .int b => .ok (.bl (decide (a ≤ b)))
  | _, _ => .stuck
def gtD : D → D → R D
  | .int a, .int b => .ok (.bl (decide (b < a)))
  | _, _ => .stuck
def geD : D → D → R D
  | .int a, .int b => .ok (.bl (decide (b ≤ a)))
  | _, _ => .stuck
theorem op_ltD : OpD X (compareOp .Lt) ltD := by
  refine ⟨_, op_lt, fun F H x y u v Q s rx ry p => ?_⟩
  unfold ltD at p
  split at p
  · exact ⟨_, _, rx, ry, p.ok s rfl⟩
  · exact p.elim
theorem op_leD : OpD X (compareOp .LtE) leD := by
  refine ⟨_, op_le, fun F H x y u v Q s rx ry p => ?_⟩
  unfold leD at p
  split at p
  · exact ⟨_, _, rx, ry, p.ok s rfl⟩
  · exact p.elim
theorem op_gtD : OpD X (compareOp .Gt) gtD := by
  refine ⟨_, op_gt, fun F H x y u v Q s rx ry p => ?_⟩
  unfold gtD at p
  split at p
  · exact ⟨_, _, rx, ry, p.ok s rfl⟩
  · exact p.elim
theorem op_geD : OpD X (compareOp .GtE) geD := by
  refine ⟨_, op_ge, fun F H x y u v Q s rx ry p => ?_⟩
  unfold geD at p
  split at p
  · exact ⟨_, _, rx, ry, p.ok s rfl⟩
  · exact p.elim
theorem calm_lt : Calm2 ltD := fun x y => by unfold ltD; split <;> exact trivial
theorem calm_le : Calm2 leD := fun x y => by unfold leD; split <;> exact trivial
theorem calm_gt : Calm2 gtD := fun x y => by unfold gtD; split <;> exact trivial
theorem calm_ge : Calm2 geD := fun x y => by unfold geD; split <;> exact trivial
/-! ### == and != -/
mutual
def toP : D → Option PyData
  | .non => some .none
  | .bl b => some (.bool b)
  | .int i => some (.int i)
  | .str x => some (.str x)
  | .tup xs => (toPs xs).map .tuple
  | .lst xs => (toPs xs).map .list
  | _ => none
def toPs : List D → Option (List PyData)
  | [] => some []
  | d :: ds => (toP d).bind fun p => (toPs ds).map (p :: ·)
end
mutual
theorem Rep.dp {K : PySem.W.Frag} {H : Hp} : ∀ {d : D} {v : V} {p : PyData}, Rep K H d v → toP d = some p → Dp K H v p
  | .non, v, p, h, e => by cases e; cases (show v = V.non from h); exact .non
  | .bl b, v, p, h, e => by cases e; cases (show v = V.bl b from h); exact .bl b
  | .int i, v, p, h, e => by cases e; cases (show v = V.int i from h); exact .int i
  | .str x, v, p, h, e => by cases e; cases (show v = V.str x from h); exact .str x
  | .tup xs, v, p, h, e => by
    obtain ⟨a, vs, rfl, h1, h2⟩ := h
    obtain ⟨ps, e1, rfl⟩ := Option.map_eq_some_iff.mp (show (toPs xs).map .tuple = some p from e)
    exact .tup (h1.sq (Same.refl _)) (Reps.dp h2 e1)
  | .lst xs, v, p, h, e => by
    obtain ⟨a, vs, rfl, h1, h2⟩ := h
    obtain ⟨ps, e1, rfl⟩ := Option.map_eq_some_iff.mp (show (toPs xs).map .list = some p from e)
    exact .lst (.inl h1) (Reps.dp h2 e1)
  | .bor xs, v, p, h, e => by cases e
  | .obj xs, v, p, h, e => by cases e
  | .ins _ _ _, v, p, h, e => by cases e
  | .ty _, v, p, h, e => by cases e
  | .scr _, v, p, h, e => by cases e
theorem Reps.dp {K : PySem.W.Frag} {H : Hp} : ∀ {ds : List D} {vs : List V} {ps : List PyData}, Reps K H ds vs → toPs ds = some ps → DpAll K H vs ps
  | [], vs, ps, h, e => by
    cases (show vs = [] from h)
    cases (show some [] = some ps from e)
    exact .nil
  | d :: ds, vs, ps, h, e => by
    obtain ⟨v, r, rfl, h1, h2⟩ := h
    obtain ⟨p, e1, e2⟩ := Option.bind_eq_some_iff.mp (show (toP d).bind (fun p => (toPs ds).map (p :: ·)) = some ps from e)
    obtain ⟨qs, e3, rfl⟩ := Option.map_eq_some_iff.mp e2
    exact .cons (Rep.dp h1 e1) (Reps.dp h2 e3)
end
/-- a lent list is a list -/
def deb : D → D
  | .bor xs => .lst xs
  | d => d
theorem RepX.deb {d : D} {v : V} (s : Same F H) (h : RepX K F H d v) : Rep K H (DL.deb d) v := by
  cases d with
  | bor xs =>
    obtain ⟨p, vs, h1, h2, h3, h4⟩ := h
    exact ⟨p, vs, h1, .inl h3, h4.mono s⟩
  | _ => exact Rep.mono s h
def eqD (x y : D) : R D := match toP (deb x), toP (deb y) with
  | some p, some q => if SeqAt.shaped p = true ∧ SeqAt.shaped q = true then .ok (.bl (PyData.eqv p q)) else .stuck
  | _, _ => .stuck
def neD (x y : D) : R D := match toP (deb x), toP (deb y) with
  | some p, some q => if SeqAt.shaped p = true ∧ SeqAt.shaped q = true then .ok (.bl (!PyData.eqv p q)) else .stuck
  | _, _ => .stuck
theorem op_eqDD (hu : X.A.units + 64 < cLine) : OpD X (compareOp .Eq) eqD := by
  refine ⟨_, op_eqD hu, fun F H x y u v Q s rx ry p => ?_⟩
  unfold eqD at p
  split at p
  · rename_i e1 e2
    obtain ⟨⟨z1, z2⟩, p⟩ := post_if p
    exact ⟨_, _, (rx.deb s).dp e1, (ry.deb s).dp e2, z1, z2, p.ok s rfl⟩
  · exact p.elim
theorem op_neDD (hu : X.A.units + 64 < cLine) : OpD X (compareOp .NotEq) neD := by
  refine ⟨_, op_neD hu, fun F H x y u v Q s rx ry p => ?_⟩
  unfold neD at p
  split at p
  · rename_i e1 e2
    obtain ⟨⟨z1, z2⟩, p⟩ := post_if p
    exact ⟨_, _, (rx.deb s).dp e1, (ry.deb s).dp e2, z1, z2, p.ok s rfl⟩
  · exact p.elim
theorem calm_eq : Calm2 eqD := fun x y => by
  unfold eqD
  split <;> first | exact trivial | exact calm_if
theorem calm_ne : Calm2 neD := fun x y => by
  unfold neD
  split <;> first | exact trivial | exact calm_if
/-! ### is None -/
def isN : D → Bool
  | .non => true
  | _ => false
theorem RepX.isN {d : D} {v : V} (h : RepX K F H d v) : decide (v = .non) = DL.isN d := by
  cases d with
  | non => cases (show v = .non from h); rfl
  | bl b => cases (show v = .bl b from h); rfl
  | int b => cases (show v = .int b from h); rfl
  | str b => cases (show v = .str b from h); rfl
  | obj b => cases (show v = .ref b from h); rfl
  | ty b => cases (show v = .ty b.name from h); rfl
  | tup b => obtain ⟨a, vs, rfl, _⟩ := h; rfl
  | lst b => obtain ⟨a, vs, rfl, _⟩ := h; rfl
  | bor b => obtain ⟨a, vs, rfl, _⟩ := h; rfl
  | ins _ _ _ => obtain ⟨a, _, vs, rfl, _⟩ := h; rfl
  | scr b => obtain ⟨a, vs, rfl, _⟩ := h; rfl
def isD : D → D → R D
  | x, .non => .ok (.bl (isN x))
  | _, _ => .stuck
def notIsD : D → D → R D
  | x, .non => .ok (.bl (!isN x))
  | _, _ => .stuck
theorem op_isD : OpD X (compareOp .Is) isD := by
  refine ⟨_, op_isN, fun F H x y u v Q s rx ry p => ?_⟩
  unfold isD at p
  split at p
  · exact ⟨ry, by rw [rx.isN]; exact p.ok s rfl⟩
  · exact p.elim
theorem op_notIsD : OpD X (compareOp .IsNot) notIsD := by
  refine ⟨_, op_notN, fun F H x y u v Q s rx ry p => ?_⟩
  unfold notIsD at p
  split at p
  · exact ⟨ry, by rw [rx.isN]; exact p.ok s rfl⟩
  · exact p.elim
theorem calm_is : Calm2 isD := fun x y => by unfold isD; split <;> exact trivial
theorem calm_notIs : Calm2 notIsD := fun x y => by unfold notIsD; split <;> exact trivial
end
end DL
set_option maxRecDepth 100000
set_option maxHeartbeats 4000000
namespace DL
open PySem PySem.Spec PyProof.Rows L2
variable [Tb]
section
variable {K : PySem.W.Frag} {F H F' H' : Hp} {X : Cx}
/-! ### text * int -/
def repS (x : Str) (k : Nat) : Str := ⟨((List.replicate k x.cps.toList).flatten).toArray⟩
theorem fold_arr : ∀ (k : Nat) (a : Array Nat) (acc : Array Nat), (List.replicate k a).foldl (· ++ ·) acc = acc ++ ((List.replicate k a.toList).flatten).toArray
  | 0, a, acc => by simp
  | k + 1, a, acc => by
    rw [List.replicate_succ, List.foldl_cons, fold_arr k a, List.replicate_succ, List.flatten_cons]
    apply Array.ext'
    simp
theorem flat_len (l : List Nat) : ∀ k : Nat, ((List.replicate k l).flatten).length = k * l.length
  | 0 => by simp
  | k + 1 => by rw [List.replicate_succ, List.flatten_cons, List.length_append, flat_len l k, Nat.succ_mul, Nat.add_comm]
theorem repS_len (x : Str) (k : Nat) : (repS x k).length = x.length * k := by
  show (((List.replicate k x.cps.toList).flatten).toArray).size = x.cps.size * k
  rw [List.size_toArray, flat_len, Array.length_toList, Nat.mul_comm]
def rMulS : R2 := fun x y H Q => ∃ i k, x = .str i ∧ y = .int k ∧ (-(2 ^ 63) ≤ k ∧ k < 2 ^ 63) ∧ i.length * k.toNat ≤ sizeLine ∧ Q (.str (repS i k.toNat)) H
theorem op_mulS : OpR X (binaryOp .Mult) rMulS := by
  intro pins s σ H x y v u Q I rx ry h
  obtain ⟨i, k, rfl, rfl, ⟨h1, h2⟩, hz, q⟩ := h
  obtain ⟨t, rfl⟩ := rx
  obtain ⟨t', rfl⟩ := ry
  have hs : sizeLine = 16777216 := sizeLine_eq
  have en : ∀ x : Str, x.length = x.cps.size := fun _ => rfl
  refine PySem.P.mul_str ?_ (fun h3 _ => ?_) (fun _ _ => ?_) ?_
  · have a : ¬ k < -(2 ^ 63) := by omega
    have b : ¬ k ≥ 2 ^ 63 := by omega
    rw [decide_eq_false a, decide_eq_false b]; rfl
  · intro h4
    have h5 : (i.length : Int) * k ≤ 16777216 := by
      have e : ((i.length * k.toNat : Nat) : Int) = (i.length : Int) * k := by
        rw [Int.natCast_mul, Int.toNat_of_nonneg (by omega)]
      rw [← e]; omega
    have h6 : (2 ^ 63 - 1) / k < (i.length : Int) := h4
    have h7 : (2 ^ 63 - 1) < (i.length : Int) * k := by
      have := Int.lt_mul_of_ediv_lt (by omega : 0 < k) h6
      exact this
    omega
  · unfold Builtin.Str.tooLong
    exact decide_eq_false (by omega)
  · by_cases h3 : k < 1
    · rw [if_pos h3]
      have e : repS i k.toNat = Str.empty := by
        have z : k.toNat = 0 := by omega
        rw [z]; rfl
      rw [e] at q
      exact ⟨by decide, ⟨.str Str.empty, H, I.tok _, ⟨_, rfl⟩, q⟩⟩
    · rw [if_neg h3]
      by_cases h4 : (k == 1 || i.length == 0) = true
      · rw [if_pos h4]
        have e : repS i k.toNat = i := by
          rw [Bool.or_eq_true, beq_iff_eq, beq_iff_eq] at h4
          rcases h4 with z | z
          · subst z
            show (⟨((List.replicate 1 i.cps.toList).flatten).toArray⟩ : Str) = i
            simp
          · have e0 : i.cps = #[] := Array.eq_empty_of_size_eq_zero z
            obtain ⟨c⟩ := i
            simp only at e0
            subst e0
            show (⟨((List.replicate k.toNat (#[] : Array Nat).toList).flatten).toArray⟩ : Str) = ⟨#[]⟩
            simp
        rw [e] at q
        exact ⟨.str i, H, I, ⟨_, rfl⟩, q⟩
      · rw [if_neg h4]
        have e : (⟨(List.replicate k.toNat i.cps).foldl (· ++ ·) #[]⟩ : Str) = repS i k.toNat := by
          rw [fold_arr]
          show (⟨#[] ++ _⟩ : Str) = _
          simp [repS]
        rw [e]
        refine ⟨by rw [repS_len]; exact hz, ⟨.str _, H, I.tok _, ⟨_, rfl⟩, q⟩⟩
/-! ### * -/
def mulD : D → D → R D
  | .int a, .int b => if (-(2 ^ 64) < a ∧ a < 2 ^ 64) ∨ (-(2 ^ 64) < b ∧ b < 2 ^ 64) then .ok (.int (a * b)) else .stuck
  | .str a, .int k => if (-(2 ^ 63) ≤ k ∧ k < 2 ^ 63) ∧ a.length * k.toNat ≤ sizeLine then .ok (.str (repS a k.toNat)) else .stuck
  | .lst a, .int k => if (-(2 ^ 63) ≤ k ∧ k < 2 ^ 63) ∧ a.length * k.toNat ≤ sizeLine then .ok (.lst (List.replicate k.toNat a).flatten) else .stuck
  | _, _ => .stuck
/-- list * int, of frozen ones too -/
def rRepR : R2 := fun x y H Q => ∃ l k xs, x = .ref l ∧ y = .int k ∧ Rd H l (.lst xs) ∧ -(2 ^ 63) ≤ k ∧ k < 2 ^ 63 ∧ xs.length * k.toNat ≤ sizeLine ∧
  ∀ p, H p = none → Q (.ref p) (upd H p (.lst (List.replicate k.toNat xs).flatten))
theorem op_repR : OpR X (binaryOp .Mult) rRepR := by
  intro pins s σ H x y v u Q I rx ry h
  obtain ⟨l, k, xs, rfl, rfl, hH, h1, h2, hz, q⟩ := h
  cases rx
  obtain ⟨t, rfl⟩ := ry
  obtain ⟨z, its, n, r, e⟩ := hH.ok I.hok
  have hl := r.length
  have hlen : its.toArray.size * k.toNat ≤ sizeLine := by rw [List.size_toArray, ← hl]; exact hz
  have hcap : ¬ its.toArray.size * k.toNat > (2 ^ 63 - 1) / 8 := by
    have : (sizeLine : Nat) ≤ (2 ^ 63 - 1) / 8 := by decide
    omega
  have hfit : ¬ (!Builtin.List.listFitsIndex k) = true := by
    rw [fitsIndex_both h1 h2]
    exact Bool.false_ne_true
  have hlong : ¬ Builtin.List.listTooLong (its.toArray.size * k.toNat) = true := by
    rw [notLongL hlen]
    exact Bool.false_ne_true
  have hnew : List.foldl (fun x1 x2 => x1 ++ x2) #[] (List.replicate (if its.toArray.isEmpty = true then 0 else k.toNat) its.toArray) = (List.replicate k.toNat its).flatten.toArray := by
    have f0 : ∀ m : Nat, List.foldl (fun x1 x2 => x1 ++ x2) #[] (List.replicate m its.toArray) = (List.replicate m its).flatten.toArray := fun m => by
      have := foldl_rep its m []
      rw [List.nil_append] at this
      exact this
    rw [f0]
    cases its with
    | nil => simp
    | cons a r' => rw [if_neg (by simp)]
  refine wpAny_binaryOp_repeat_ref (T := "list") (U := "int") (by decide) ⟨_, e, rfl⟩ (fun s' => typeIs_int s' k t) noFill_list_mul F.fills_int_mul F.slot_int_rmul repeat_list F.slot_int_index.lookup
    (call_meets F.slot_int_rmul (typeIs_int s k t) F.entry_int_rmul (F.args_int_rmul_2 _ _) (int___rmul___int_list k t l its.toArray n)
      ⟨e, rfl, ⟨_, e, rfl⟩, call_meets F.slot_list_mul ⟨_, e, rfl⟩ F.entry_list_mul (F.args_list_mul_2 _ _) (AutoListH.list___mul___list_int_3 l its.toArray n k t hfit hcap hlong) ⟨e, ?_⟩⟩)
  rw [hnew]
  exact ⟨.ref _, _, I.lnew (t' := s.toks) (r.rep k.toNat) (by rw [PyProof.Rows.lm_len_rep_flat, Nat.mul_comm]; exact hz), rfl, q _ I.fresh⟩
theorem op_mulD : OpD X (binaryOp .Mult) mulD := by
  refine ⟨_, op_mul.or (op_mulS.or op_repR), fun F H x y u v Q s rx ry p => ?_⟩
  unfold mulD at p
  split at p
  · obtain ⟨hz, p⟩ := post_if p
    exact .inl ⟨_, _, rx, ry, hz, p.ok s rfl⟩
  · obtain ⟨hz, p⟩ := post_if p
    exact .inr (.inl ⟨_, _, rx, ry, hz.1, hz.2, p.ok s rfl⟩)
  · obtain ⟨hz, p⟩ := post_if p
    obtain ⟨a, vs, rfl, h1, h2⟩ := rx.list s rfl
    refine .inr (.inr ⟨a, _, vs, rfl, ry, h1, hz.1.1, hz.1.2, by rw [← h2.length]; exact hz.2, fun q hq => ?_⟩)
    exact p _ _ _ (Ext.frozen s hq) (Rep.x (Rep.newL (h2.rep _) (s.free hq)))
  · exact p.elim
theorem calm_mul : Calm2 mulD := fun x y => by
  unfold mulD
  split <;> first | exact trivial | exact calm_if
/-! ### in, not in -/
def flatD : D → Bool
  | .non => true | .bl _ => true | .int _ => true | .str _ => true
  | _ => false
/-- == of flat data -/
def eqF : D → D → Bool
  | .non, .non => true
  | .bl a, .bl b => a == b
  | .bl a, .int b => (if a then 1 else 0) == b
  | .int a, .bl b => a == (if b then 1 else 0)
  | .int a, .int b => a == b
  | .str a, .str b => a == b
  | _, _ => false
def flatOf : D → V
  | .bl b => .bl b | .int i => .int i | .str x => .str x
  | _ => .non
theorem RepX.flat {d : D} {v : V} (h : RepX K F H d v) (f : flatD d = true) : v = flatOf d ∧ flatV v = true := by
  cases d with
  | non => cases (show v = .non from h); exact ⟨rfl, rfl⟩
  | bl b => cases (show v = .bl b from h); exact ⟨rfl, rfl⟩
  | int b => cases (show v = .int b from h); exact ⟨rfl, rfl⟩
  | str b => cases (show v = .str b from h); exact ⟨rfl, rfl⟩
  | _ => cases f
theorem eqF_V {d e : D} (f : flatD d = true) (g : flatD e = true) : eqV (flatOf d) (flatOf e) = eqF d e := by
  cases d <;> first | exact absurd f Bool.false_ne_true | (cases e <;> first | exact absurd g Bool.false_ne_true | rfl)
theorem Reps.flats : ∀ {ds : List D} {vs : List V}, Reps K F ds vs → ds.all flatD = true → vs = ds.map flatOf ∧ vs.all flatV = true
  | [], vs, h, _ => by cases (show vs = [] from h); exact ⟨rfl, rfl⟩
  | d :: ds, vs, h, f => by
    obtain ⟨v, r, rfl, q, t⟩ := h
    rw [List.all_cons, Bool.and_eq_true] at f
    obtain ⟨e1, f1⟩ := RepX.flat (H := F) q.x f.1
    obtain ⟨e2, f2⟩ := Reps.flats t f.2
    subst e1 e2
    exact ⟨rfl, by rw [List.all_cons, f1, f2]; rfl⟩
def memF (x : D) (xs : List D) : Bool := xs.any fun y => eqF y x
theorem inV_F {x : D} (f : flatD x = true) : ∀ {xs : List D}, xs.all flatD = true → inV (flatOf x) (xs.map flatOf) = memF x xs
  | [], _ => rfl
  | y :: xs, g => by
    rw [List.all_cons, Bool.and_eq_true] at g
    have ih := inV_F f g.2
    unfold inV memF at ih ⊢
    rw [List.map_cons, List.any_cons, List.any_cons, ih, eqF_V g.1 f]
/-- a text within another -/
def inS (i j : Str) : Bool := !(Builtin.Str.occurrences j i 0 j.length 1).isEmpty
theorem inS_sign (c : Nat) (z : Str) : inS ⟨#[c]⟩ z = decide (c ∈ z.cps.toList) := PySem.StrLaws.found_one z c
def inD : D → D → R D
  | .str a, .str b => .ok (.bl (inS a b))
  | x, .tup ys => if flatD x = true ∧ ys.all flatD = true then .ok (.bl (memF x ys)) else .stuck
  | x, .lst ys => if flatD x = true ∧ ys.all flatD = true then .ok (.bl (memF x ys)) else .stuck
  | x, .bor ys => if flatD x = true ∧ ys.all flatD = true then .ok (.bl (memF x ys)) else .stuck
  | _, _ => .stuck
def notInD : D → D → R D
  | .str a, .str b => .ok (.bl (!inS a b))
  | x, .tup ys => if flatD x = true ∧ ys.all flatD = true then .ok (.bl (!memF x ys)) else .stuck
  | x, .lst ys => if flatD x = true ∧ ys.all flatD = true then .ok (.bl (!memF x ys)) else .stuck
  | x, .bor ys => if flatD x = true ∧ ys.all flatD = true then .ok (.bl (!memF x ys)) else .stuck
  | _, _ => .stuck
theorem op_inD : OpD X (compareOp .In) inD := by
  refine ⟨_, op_in_str.or op_in_seq, fun F H x y u v Q s rx ry p => ?_⟩
  have L : ∀ ys, lsD y = some ys → Post X.K X.mg (fun _ _ _ _ => False) (RepX X.K) F H [] (if flatD x = true ∧ ys.all flatD = true then .ok (.bl (memF x ys)) else .stuck) Q → rIn X.K false u v H Q := fun ys e p => by
    obtain ⟨hz, p⟩ := post_if p
    obtain ⟨a, vs, rfl, h1, h2⟩ := ry.list s e
    obtain ⟨e1, f1⟩ := rx.flat hz.1
    obtain ⟨e2, f2⟩ := h2.flats hz.2
    subst e1 e2
    exact ⟨a, _, rfl, .inl (.inl h1), f1, f2, by rw [inV_F hz.1 hz.2]; exact p.ok s rfl⟩
  unfold inD at p
  split at p
  · exact .inl ⟨_, _, rx, ry, p.ok s rfl⟩
  · obtain ⟨hz, p⟩ := post_if p
    obtain ⟨a, vs, rfl, h1, h2⟩ := ry.tup s
    obtain ⟨e1, f1⟩ := rx.flat hz.1
    obtain ⟨e2, f2⟩ := h2.flats hz.2
    subst e1 e2
    exact .inr ⟨a, _, rfl, .inr h1, f1, f2, by rw [inV_F hz.1 hz.2]; exact p.ok s rfl⟩
  · exact .inr (L _ rfl p)
  · exact .inr (L _ rfl p)
  · exact p.elim
theorem op_notInD : OpD X (compareOp .NotIn) notInD := by
  refine ⟨_, L2.op_notIn_str.or op_notIn_seq, fun F H x y u v Q s rx ry p => ?_⟩
  have L : ∀ ys, lsD y = some ys → Post X.K X.mg (fun _ _ _ _ => False) (RepX X.K) F H [] (if flatD x = true ∧ ys.all flatD = true then .ok (.bl (!memF x ys)) else .stuck) Q → rIn X.K true u v H Q := fun ys e p => by
    obtain ⟨hz, p⟩ := post_if p
    obtain ⟨a, vs, rfl, h1, h2⟩ := ry.list s e
    obtain ⟨e1, f1⟩ := rx.flat hz.1
    obtain ⟨e2, f2⟩ := h2.flats hz.2
    subst e1 e2
    exact ⟨a, _, rfl, .inl (.inl h1), f1, f2, by rw [inV_F hz.1 hz.2]; exact p.ok s rfl⟩
  unfold notInD at p
  split at p
  · exact .inl ⟨_, _, rx, ry, p.ok s rfl⟩
  · obtain ⟨hz, p⟩ := post_if p
    obtain ⟨a, vs, rfl, h1, h2⟩ := ry.tup s
    obtain ⟨e1, f1⟩ := rx.flat hz.1
    obtain ⟨e2, f2⟩ := h2.flats hz.2
    subst e1 e2
    exact .inr ⟨a, _, rfl, .inr h1, f1, f2, by rw [inV_F hz.1 hz.2]; exact p.ok s rfl⟩
  · exact .inr (L _ rfl p)
  · exact .inr (L _ rfl p)
  · exact p.elim
theorem calm_in : Calm2 inD := fun x y => by
  unfold inD
  split <;> first | exact trivial | exact calm_if
theorem calm_notIn : Calm2 notInD := fun x y => by
  unfold notInD
  split <;> first | exact trivial | exact calm_if
/-! ### an item -/
def optR {α : Type} : Option α → R α
  | some a => .ok a
  | none => .stuck
def ixD : D → D → R D
  | .tup xs, .int i => optR (atI xs i)
  | .lst xs, .int i => optR (atI xs i)
  | .bor xs, .int i => optR (atI xs i)
  | .str z, .int i => if z.length ≤ sizeLine then (optR (atI z.cps.toList i)).map fun c => .str ⟨#[c]⟩ else .stuck
  | _, _ => .stuck
theorem Reps.atI {ds : List D} {vs : List V} {i : Int} {d : D} (h : Reps K F ds vs) (e : L2.atI ds i = some d) : ∃ v, L2.atI vs i = some v ∧ Rep K F d v := by
  unfold L2.atI at e ⊢
  obtain ⟨j, e1, e2⟩ := Option.bind_eq_some_iff.mp e
  obtain ⟨v, e3, r⟩ := h.get e2
  exact ⟨v, by rw [← h.length, e1]; exact e3, r⟩
def IxD (X : Cx) (g : D → D → R D) : Prop := ∃ r, IxR X r ∧ ∀ F H x y u v Q, Same F H → RepX X.K F H x u → RepX X.K F H y v → Post X.K X.mg (fun _ _ _ _ => False) (RepX X.K) F H [] (g x y) Q → r u v H Q
theorem ix_D : IxD X ixD := by
  refine ⟨_, ix_list.or (ix_tup.or ix_str), fun F H x y u v Q s rx ry p => ?_⟩
  have L : ∀ xs i, lsD x = some xs → v = .int i → Post X.K X.mg (fun _ _ _ _ => False) (RepX X.K) F H [] (optR (L2.atI xs i)) Q → rIxL X.K u v H Q := fun xs i e ev p => by
    subst ev
    obtain ⟨a, vs, rfl, h1, h2⟩ := rx.list s e
    cases q : L2.atI xs i with
    | none => rw [q] at p; exact p.elim
    | some d =>
      rw [q] at p
      obtain ⟨w, e1, r⟩ := h2.atI q
      exact ⟨a, vs, i, w, rfl, rfl, .inl h1, e1, Post.ok p s r.x⟩
  unfold ixD at p
  split at p
  · rename_i xs i
    obtain ⟨a, vs, rfl, h1, h2⟩ := rx.tup s
    cases q : L2.atI xs i with
    | none => rw [q] at p; exact p.elim
    | some d =>
      rw [q] at p
      obtain ⟨w, e1, r⟩ := h2.atI q
      exact .inr (.inl ⟨a, vs, i, w, rfl, ry, h1, e1, Post.ok p s r.x⟩)
  · exact .inl (L _ _ rfl ry p)
  · exact .inl (L _ _ rfl ry p)
  · rename_i z i
    obtain ⟨hz, p⟩ := post_if p
    cases q : L2.atI z.cps.toList i with
    | none => rw [q] at p; exact p.elim
    | some c =>
      rw [q] at p
      exact .inr (.inr ⟨z, i, c, rx, ry, hz, q, Post.ok p s rfl⟩)
  · exact p.elim
theorem calm_opt {α : Type} (o : Option α) : (optR o).calm := by cases o <;> exact trivial
theorem calm_map {α β : Type} (g : α → β) (r : R α) (h : r.calm) : (r.map g).calm := by cases r <;> exact h
theorem calm_ix : Calm2 ixD := fun x y => by
  unfold ixD
  split <;> first | exact trivial | exact calm_opt _ | (split <;> first | exact calm_map _ _ (calm_opt _) | exact trivial)
variable {W : WX} {a b c : Expr} {fa fb fc : Rho → R D} {pos : Pos}
theorem de_ix (ha : DE X W a fa) (hb : DE X W b fb) (hs : PlainIx b := by exact fun _ _ => rfl) : DE X W (.Subscript a b pos) (eOp ixD fa fb) := by
  obtain ⟨r, hr, k⟩ := ix_D (X := X)
  refine PE.imp (pe_ix hr ha hb hs) fun σ H Q ⟨F0, H0, F, ρ, S, p⟩ => ?_
  refine ⟨F0, H0, F, ρ, S, p.bind fun x u F1 H1 _ e1 r1 p1 => ?_⟩
  refine ⟨F0, H0, F1, ρ, S.mono e1, p1.bind fun y v F2 H2 _ e2 r2 p2 => ?_⟩
  exact k F2 H2 x y u v Q e2.sub (r1.mono e2) r2 (p2.calm (calm_ix x y))
/-! ### argument lists, displays -/
variable {es : List Expr} {ft : Rho → R (List D)}
def aNil : Rho → R (List D) := fun _ => .ok []
def aCons (f : Rho → R D) (g : Rho → R (List D)) : Rho → R (List D) := fun ρ => (f ρ).bind fun x => (g ρ).bind fun xs => .ok (x :: xs)
theorem da_nil : DA X W [] aNil := PA.imp pa_nil fun σ H Q ⟨_, _, F, ρ, S, p⟩ => p.ok S.sub rfl
theorem da_cons (ha : DE X W a fa) (hr : DA X W es ft) (hs : starEach (a :: es) X.env = (false, eval a X.env) :: starEach es X.env := by rfl) : DA X W (a :: es) (aCons fa ft) := by
  refine PA.imp (pa_cons ha hr hs) fun σ H Q ⟨F0, H0, F, ρ, S, p⟩ => ?_
  refine ⟨F0, H0, F, ρ, S, Post.bind p fun x u F1 H1 _ e1 r1 p1 => ?_⟩
  refine ⟨F0, H0, F1, ρ, S.mono e1, Post.bind p1 fun xs vs F2 H2 _ e2 r2 p2 => ?_⟩
  exact p2.ok e2.sub ⟨u, vs, rfl, r1.mono e2, r2⟩
def okLen (ds : List D) : Prop := ds.all kept = true ∧ ds.length ≤ sizeLine
instance (ds : List D) : Decidable (okLen ds) := inferInstanceAs (Decidable (_ ∧ _))
def eTup (f : Rho → R (List D)) : Rho → R D := fun ρ => (f ρ).bind fun xs => if okLen xs then .ok (.tup xs) else .stuck
theorem de_tup {x1} (h : DA X W es ft) : DE X W (.Tuple es x1 pos) (eTup ft) := by
  refine PE.imp (pe_tup h) fun σ H Q ⟨F0, H0, F, ρ, S, p⟩ => ?_
  refine ⟨F0, H0, F, ρ, S, Post.bind p fun xs vs F1 H1 _ e1 r1 p1 => ?_⟩
  obtain ⟨hz, p1⟩ := post_if p1
  have r := r1.kept hz.1
  refine ⟨by rw [← r.length]; exact hz.2, fun q hq => ?_⟩
  exact p1 _ _ _ (Ext.frozen e1.sub hq) (Rep.x (Rep.newT r (e1.sub.free hq)))
def oLst (f : Rho → R (List D)) : Rho → R (List D) := fun ρ => (f ρ).bind fun xs => if okLen xs then .ok xs else .stuck
theorem do_lst (h : DA X W es ft) : DO X W (.List es pos) (oLst ft) := by
  refine PE.imp (pe_lst h) fun σ H Q ⟨F0, H0, F, ρ, S, p⟩ => ?_
  refine ⟨F0, H0, F, ρ, S, Post.bind p fun xs vs F1 H1 _ e1 r1 p1 => ?_⟩
  obtain ⟨hz, p1⟩ := post_if p1
  have r := r1.kept hz.1
  refine ⟨by rw [← r.length]; exact hz.2, fun q hq => ?_⟩
  exact p1 _ _ _ (Ext.laid e1.sub hq) ⟨q, vs, rfl, e1.hp.free hq, e1.sub.free hq, upd_same, r⟩
/-- a new list, frozen at once -/
def eL (f : Rho → R (List D)) : Rho → R D := fun ρ => (f ρ).map .lst
theorem DO.de {e : Expr} {f : Rho → R (List D)} (h : DO X W e f) : DE X W e (eL f) := by
  refine PE.imp h fun σ H Q ⟨F0, H0, F, ρ, S, p⟩ => ⟨F0, H0, F, ρ, S, ?_⟩
  have p : Post X.K X.mg W (RepX X.K) F H σ ((f ρ).map D.lst) Q := p
  cases e : f ρ with
  | ok xs =>
    rw [e] at p
    intro v F1 H1 e1 r1
    obtain ⟨q, vs, rfl, n0, n1, h1, r⟩ := r1
    exact p _ _ _ (Ext.freeze S.sub e1 n0 h1) (Rep.x (Rep.newL r n1))
  | exc x => rw [e] at p; exact p
  | stuck => rw [e] at p; exact p
theorem de_lst (h : DA X W es ft) : DE X W (.List es pos) (eL (oLst ft)) := DO.de (do_lst h)
end
end DL
set_option maxRecDepth 100000
set_option maxHeartbeats 4000000
namespace DL
open PySem PySem.Spec PyProof.Rows L2
variable [Tb]
section
variable {K : PySem.W.Frag} {F0 H0 F H F' H' F1 H1 : Hp} {X : Cx} {σ : St} {ρ : Rho} {mg : Str → Option Value} {W : WX}
/-! ### slots stored -/
theorem set_get {α : Type} {l : List α} {i j : Nat} {x y : α} (h : (l.set i x)[j]? = some y) : (i = j ∧ y = x ∧ i < l.length) ∨ (i ≠ j ∧ l[j]? = some y) := by
  by_cases e : i = j
  · subst e
    by_cases hl : i < l.length
    · rw [List.getElem?_set_self hl] at h; cases h; exact .inl ⟨rfl, rfl, hl⟩
    · rw [List.getElem?_eq_none (by simpa using hl)] at h; cases h
  · rw [List.getElem?_set_ne e] at h; exact .inr ⟨e, h⟩
theorem Sim.setD (S : Sim K F0 H0 F H σ ρ) {i : Nat} {d : D} {v : V} (r : Rep K F d v) : Sim K F0 H0 F H (σ.set i (some v)) (ρ.set i (.d d)) := by
  obtain ⟨s0, a, l, b, o, c, dd⟩ := S
  refine ⟨s0, a, by rw [List.length_set, List.length_set]; exact l, fun j x h => ?_, o, fun j xs h => ?_, fun j k xs ys h1 h2 => ?_⟩
  · rcases set_get h with ⟨rfl, e, hl⟩ | ⟨hne, h⟩
    · cases e
      exact ⟨v, List.getElem?_set_self (by rw [l]; exact hl), r⟩
    · obtain ⟨w, h1, h2⟩ := b j x h
      exact ⟨w, by rw [List.getElem?_set_ne hne]; exact h1, h2⟩
  · rcases set_get h with ⟨rfl, e, hl⟩ | ⟨hne, h⟩
    · cases e
    · obtain ⟨h1, h2⟩ := c j xs h
      exact ⟨by rw [List.getElem?_set_ne hne]; exact h1, h2⟩
  · rcases set_get h1 with ⟨rfl, e, hl⟩ | ⟨_, h1⟩
    · cases e
    · rcases set_get h2 with ⟨rfl, e, hl⟩ | ⟨_, h2⟩
      · cases e
      · exact dd j k xs ys h1 h2
theorem Sim.setO (S : Sim K F0 H0 F H σ ρ) {i : Nat} {xs : List D} {p : Addr} {vs : List V} (n0 : H0 p = none) (n : F p = none) (hp : H p = some (.lst vs)) (r : Reps K F xs vs)
    (ap : ∀ (j : Nat) ys, ρ[j]? = some (Sl.own ys) → j ≠ i → σ[j]? ≠ some (some (.ref p))) : Sim K F0 H0 F H (σ.set i (some (.ref p))) (ρ.set i (.own xs)) := by
  obtain ⟨s0, a, l, b, o, c, dd⟩ := S
  refine ⟨s0, a, by rw [List.length_set, List.length_set]; exact l, fun j x h => ?_, fun j => if j = i then p else o j, fun j ys h => ?_, fun j k ys zs h1 h2 e => ?_⟩
  · rcases set_get h with ⟨rfl, e, hl⟩ | ⟨hne, h⟩
    · cases e
    · obtain ⟨w, h1, h2⟩ := b j x h
      exact ⟨w, by rw [List.getElem?_set_ne hne]; exact h1, h2⟩
  · rcases set_get h with ⟨rfl, e, hl⟩ | ⟨hne, h⟩
    · cases e
      simp only [if_true]
      exact ⟨List.getElem?_set_self (by rw [l]; exact hl), n, n0, vs, hp, r⟩
    · simp only [if_neg (Ne.symm hne)]
      obtain ⟨h1, h2⟩ := c j ys h
      exact ⟨by rw [List.getElem?_set_ne hne]; exact h1, h2⟩
  · have key : ∀ (j : Nat) ys, j ≠ i → ρ[j]? = some (Sl.own ys) → o j ≠ p := fun j ys hj h q => by
      refine ap j ys h hj ?_
      rw [← q]; exact (c j ys h).1
    rcases set_get h1 with ⟨rfl, _, _⟩ | ⟨hj, h1⟩
    · rcases set_get h2 with ⟨rfl, _, _⟩ | ⟨hk, h2⟩
      · rfl
      · simp only [if_true, if_neg (Ne.symm hk)] at e
        exact absurd e.symm (key k zs (Ne.symm hk) h2)
    · rcases set_get h2 with ⟨rfl, _, _⟩ | ⟨hk, h2⟩
      · simp only [if_true, if_neg (Ne.symm hj)] at e
        exact absurd e (key j ys (Ne.symm hj) h1)
      · simp only [if_neg (Ne.symm hj), if_neg (Ne.symm hk)] at e
        exact dd j k ys zs h1 h2 e
/-- a new list given to a slot -/
theorem Sim.setNew (S : Sim K F0 H0 F H σ ρ) (e : Ext F H F1 H1) {i : Nat} {xs : List D} {v : V} (r : RepO K H F1 H1 xs v) : ∃ p, v = .ref p ∧ Sim K F0 H0 F1 H1 (σ.set i (some v)) (ρ.set i (.own xs)) := by
  obtain ⟨p, vs, rfl, n0, n1, h1, r1⟩ := r
  refine ⟨p, rfl, (S.mono e).setO (S.ext.hp.free n0) n1 h1 r1 fun j ys h hj q => ?_⟩
  obtain ⟨o, c, _⟩ := S.own
  obtain ⟨g1, _, _, us, g4, _⟩ := c j ys h
  rw [g1] at q
  injection q with q; injection q with q; injection q with q
  rw [q, n0] at g4; cases g4
/-- a list of the frame's own is written -/
theorem Sim.write (S : Sim K F0 H0 F H σ ρ) {i : Nat} {xs ys : List D} {p : Addr} {vs us : List V} (h : ρ[i]? = some (.own xs)) (hs : σ[i]? = some (some (.ref p))) (hp : H p = some (.lst vs)) (r : Reps K F ys us) :
    Sim K F0 H0 F (upd H p (.lst us)) σ (ρ.set i (.own ys)) := by
  obtain ⟨s0, a, l, b, o, c, dd⟩ := S
  obtain ⟨h1, h2, h3, ws, h4, h5⟩ := c i xs h
  have ep : o i = p := by
    rw [h1] at hs
    injection hs with q; injection q with q; injection q with q
  rw [ep] at h1 h2 h3 h4
  have hl : i < ρ.length := (List.getElem?_eq_some_iff.mp h).1
  refine ⟨s0, ⟨a.fr, a.hp.upd h3 (by rw [hp]; intro _ z; cases z) (by rw [hp]; intro _ z; cases z), a.sub.upd h2 (by rw [hp]; intro _ z; cases z) (by rw [hp]; intro _ z; cases z), a.new⟩, by rw [List.length_set]; exact l, fun j x hx => ?_, o, fun j zs hz => ?_, fun j k zs ws h1 h2 => ?_⟩
  · rcases set_get hx with ⟨rfl, e, _⟩ | ⟨_, hx⟩
    · cases e
    · exact b j x hx
  · rcases set_get hz with ⟨rfl, e, _⟩ | ⟨hne, hz⟩
    · cases e
      rw [ep]
      exact ⟨h1, h2, h3, us, upd_same, r⟩
    · obtain ⟨g1, g2, g3, vs', g4, g5⟩ := c j zs hz
      exact ⟨g1, g2, g3, vs', by rw [upd_ne (fun q => hne (dd i j xs zs h hz (by rw [ep, q])))]; exact g4, g5⟩
  · rcases set_get h1 with ⟨rfl, e, _⟩ | ⟨hj, h1⟩
    · rcases set_get h2 with ⟨rfl, e, _⟩ | ⟨hk, h2⟩
      · exact fun _ => rfl
      · exact dd _ k xs ws h h2
    · rcases set_get h2 with ⟨rfl, e, _⟩ | ⟨hk, h2⟩
      · exact dd j _ zs xs h1 h
      · exact dd j k zs ws h1 h2
/-- a list of the frame's own is given away -/
theorem Sim.freeze (S : Sim K F0 H0 F H σ ρ) {i : Nat} {xs : List D} (h : ρ[i]? = some (.own xs)) : ∃ F', Same F F' ∧ Sim K F0 H0 F' H σ (ρ.set i (.d (.lst xs))) := by
  obtain ⟨s0, a, l, b, o, c, dd⟩ := S
  obtain ⟨h1, h2, h3, ws, h4, h5⟩ := c i xs h
  have up : Same F (upd F (o i) (.lst ws)) := .of fun q u z => by rw [upd_ne (ne_of_none z h2)]; exact z
  refine ⟨upd F (o i) (.lst ws), up, s0, Ext.freeze s0.1 a h3 h4, by rw [List.length_set]; exact l, fun j x hx => ?_, o, fun j zs hz => ?_, fun j k zs ws h1 h2 => ?_⟩
  · rcases set_get hx with ⟨rfl, e, _⟩ | ⟨_, hx⟩
    · cases e
      exact ⟨_, h1, _, ws, rfl, .inl upd_same, h5.mono up⟩
    · obtain ⟨v, g1, g2⟩ := b j x hx
      exact ⟨v, g1, g2.mono up⟩
  · rcases set_get hz with ⟨rfl, e, _⟩ | ⟨hne, hz⟩
    · cases e
    · obtain ⟨g1, g2, g3, vs', g4, g5⟩ := c j zs hz
      refine ⟨g1, ?_, g3, vs', g4, g5.mono up⟩
      rw [upd_ne (fun q => hne (dd j i zs xs hz h q).symm)]; exact g2
  · rcases set_get h1 with ⟨rfl, e, _⟩ | ⟨hj, h1⟩
    · cases e
    · rcases set_get h2 with ⟨rfl, e, _⟩ | ⟨hk, h2⟩
      · cases e
      · exact dd j k zs ws h1 h2
/-- a slot forgotten -/
theorem Sim.drop (S : Sim K F0 H0 F H σ ρ) {σ' : St} {ρ' : Rho} (hl : σ'.length = ρ'.length) (h : ∀ (i : Nat), ρ'[i]? = some .un ∨ (ρ'[i]? = ρ[i]? ∧ σ'[i]? = σ[i]?) ∨ ρ'[i]? = none) : Sim K F0 H0 F H σ' ρ' := by
  obtain ⟨s0, a, l, b, o, c, dd⟩ := S
  have key : ∀ (i : Nat) s, ρ'[i]? = some s → s ≠ .un → ρ[i]? = some s ∧ σ'[i]? = σ[i]? := fun i s e n => by
    rcases h i with q | ⟨q, r⟩ | q
    · rw [q] at e; exact absurd (Option.some.inj e).symm n
    · exact ⟨by rw [← q]; exact e, r⟩
    · rw [q] at e; cases e
  refine ⟨s0, a, hl, fun i x e => ?_, o, fun i xs e => ?_, fun i j xs ys e1 e2 => ?_⟩
  · obtain ⟨e', q⟩ := key i _ e (by intro z; cases z)
    rw [q]; exact b i x e'
  · obtain ⟨e', q⟩ := key i _ e (by intro z; cases z)
    rw [q]; exact c i xs e'
  · exact dd i j xs ys (key i _ e1 (by intro z; cases z)).1 (key j _ e2 (by intro z; cases z)).1

/-! ### targets; vs: the slots that may change -/
def tG (K : PySem.W.Frag) (g : D → Rho → Option Rho) (vs : List Nat) : TG := fun v σ H Q => ∃ F0 H0 F ρ d, Sim K F0 H0 F H σ ρ ∧ Rep K F d v ∧ ∃ ρ', g d ρ = some ρ' ∧ ∀ σ' F' H', Ext F H F' H' → Sim K F0 H0 F' H' σ' ρ' → σ'.length = σ.length → (∀ (i : Nat), i ∉ vs → σ'[i]? = σ[i]?) → Q σ' H'
def tGs (K : PySem.W.Frag) (g : List D → Rho → Option Rho) (vs : List Nat) : TGs := fun us σ H Q => ∃ F0 H0 F ρ ds, Sim K F0 H0 F H σ ρ ∧ Reps K F ds us ∧ ∃ ρ', g ds ρ = some ρ' ∧ ∀ σ' F' H', Ext F H F' H' → Sim K F0 H0 F' H' σ' ρ' → σ'.length = σ.length → (∀ (i : Nat), i ∉ vs → σ'[i]? = σ[i]?) → Q σ' H'
abbrev DG (X : Cx) (tg : Expr) (g : D → Rho → Option Rho) (vs : List Nat) : Prop := PG X tg (tG X.K g vs)
abbrev DGs (X : Cx) (tg : List Expr) (g : List D → Rho → Option Rho) (vs : List Nat) : Prop := PGs X tg (tGs X.K g vs)
variable {pos : Pos} {vs vs1 vs2 : List Nat}
def gV (i : Nat) : D → Rho → Option Rho := fun d ρ => some (ρ.set i (.d d))
theorem dg_name {i : Nat} {x : Str} (hN : X.N.Nodup) (hi : X.N[i]? = some x) (hx : Loc X.env.scope x) (hf : X.fn x = true ∨ X.env.scope.names.lookup x = some .local := by first | exact .inl rfl | exact .inr rfl | assumption) : DG X (.Name x pos) (gV i) [i] := by
  refine PG.imp (pg_name hN hi hx hf) fun v σ H Q ⟨F0, H0, F, ρ, d, S, r, ρ', e, k⟩ => ?_
  cases e
  refine k _ F H (Ext.refl S.ext.sub) (S.setD r) (by rw [List.length_set]) fun j hj => ?_
  rw [List.getElem?_set_ne (fun z => hj (by rw [z]; exact List.mem_singleton_self _))]
def gN : List D → Rho → Option Rho := fun ds ρ => match ds with
  | [] => some ρ
  | _ => none
def gC (g : D → Rho → Option Rho) (h : List D → Rho → Option Rho) : List D → Rho → Option Rho := fun ds ρ => match ds with
  | d :: r => (g d ρ).bind fun ρ' => h r ρ'
  | [] => none
theorem dgs_nil : DGs X [] gN [] := by
  refine PGs.imp pgs_nil fun vs σ H Q ⟨F0, H0, F, ρ, ds, S, r, ρ', e, k⟩ => ?_
  cases ds with
  | nil =>
    cases e
    exact ⟨r, k _ F H (Ext.refl S.ext.sub) S rfl fun _ _ => rfl⟩
  | cons d ds => cases e
theorem dgs_cons {e : Expr} {es : List Expr} {g : D → Rho → Option Rho} {h : List D → Rho → Option Rho} (h1 : DG X e g vs1) (h2 : DGs X es h vs2)
    (hs : (assignEach (e :: es) X.env).map (·.2) = assign e X.env :: (assignEach es X.env).map (·.2) := by rfl) : DGs X (e :: es) (gC g h) (vs1 ++ vs2) := by
  refine PGs.imp (pgs_cons h1 h2 hs) fun vs σ H Q ⟨F0, H0, F, ρ, ds, S, r, ρ', e, k⟩ => ?_
  cases ds with
  | nil => cases e
  | cons d ds =>
    obtain ⟨v, us, rfl, r1, r2⟩ := r
    obtain ⟨ρ1, e1, e2⟩ := Option.bind_eq_some_iff.mp (show (g d ρ).bind (fun ρ' => h ds ρ') = some ρ' from e)
    refine ⟨v, us, rfl, F0, H0, F, ρ, d, S, r1, ρ1, e1, fun σ1 Fa Ha x1 S1 l1 q1 => ⟨F0, H0, Fa, ρ1, ds, S1, r2.mono x1.fr, ρ', e2, fun σ2 Fb Hb x2 S2 l2 q2 => k σ2 Fb Hb (x1.trans x2) S2 (l2.trans l1) fun i hi => ?_⟩⟩
    rw [q2 i (fun z => hi (List.mem_append_right _ z)), q1 i (fun z => hi (List.mem_append_left _ z))]
def gT (n : Nat) (h : List D → Rho → Option Rho) : D → Rho → Option Rho := fun d ρ => match d with
  | .tup ds => if ds.length = n then h ds ρ else none
  | _ => none
theorem dg_tup {es : List Expr} {k n : Nat} {h : List D → Rho → Option Rho} (hc : X.calm = true) (hh : DGs X es h vs)
    (hn : (assignEach es X.env).length = n := by rfl) (hst : (assignEach es X.env).findIdx? (·.1) = none := by rfl) : DG X (.Tuple es k pos) (gT n h) vs := by
  refine PG.imp (pg_tup hc hh hn hst) fun v σ H Q ⟨F0, H0, F, ρ, d, S, r, ρ', e, k⟩ => ?_
  cases d with
  | tup ds =>
    have e : (if ds.length = n then h ds ρ else none) = some ρ' := e
    by_cases hl : ds.length = n
    · rw [if_pos hl] at e
      obtain ⟨a, vs, rfl, q, rr⟩ := r
      exact ⟨a, vs, rfl, q.sq S.ext.sub, by rw [← rr.length]; exact hl, F0, H0, F, ρ, ds, S, rr, ρ', e, k⟩
    · rw [if_neg hl] at e; cases e
  | _ => cases e

/-! ### statements -/
inductive RV where
  | d (x : D) | own (xs : List D)
def RepV (K : PySem.W.Frag) (H0 F H : Hp) : RV → V → Prop
  | .d x, v => Rep K F x v
  | .own xs, v => RepO K H0 F H xs v
structure EndsD where
  nx : Rho → Prop
  rt : RV → Prop
  bk : Rho → Prop
  ct : Rho → Prop
  ex : Exn → Rho → Prop
structure Conn (K : PySem.W.Frag) (mg : Str → Option Value) (W : WX) (F0 H0 F : Hp) (De : EndsD) (D : Ends) : Prop where
  nx : ∀ F' H' σ ρ, Same F F' → Sim K F0 H0 F' H' σ ρ → De.nx ρ → D.nx σ H'
  rt : ∀ F' H' rv v, Same F F' → Ext F0 H0 F' H' → RepV K H0 F' H' rv v → De.rt rv → D.rt v H'
  bk : ∀ F' H' σ ρ, Same F F' → Sim K F0 H0 F' H' σ ρ → De.bk ρ → D.bk σ H'
  ct : ∀ F' H' σ ρ, Same F F' → Sim K F0 H0 F' H' σ ρ → De.ct ρ → D.ct σ H'
  ex : ∀ F' H' σ ρ e c dd, Same F F' → Sim K F0 H0 F' H' σ ρ → ExRep K mg F' H' e c dd → De.ex e ρ → W c dd σ H'
theorem Conn.mono {De : EndsD} {D : Ends} (c : Conn K mg W F0 H0 F De D) (s : Same F F') : Conn K mg W F0 H0 F' De D :=
  ⟨fun F2 H2 σ ρ a b d => c.nx F2 H2 σ ρ (s.trans a) b d, fun F2 H2 rv v a b d e => c.rt F2 H2 rv v (s.trans a) b d e, fun F2 H2 σ ρ a b d => c.bk F2 H2 σ ρ (s.trans a) b d, fun F2 H2 σ ρ a b d => c.ct F2 H2 σ ρ (s.trans a) b d,
    fun F2 H2 σ ρ e cc dd a b d f => c.ex F2 H2 σ ρ e cc dd (s.trans a) b d f⟩
abbrev TD := EndsD → Rho → Prop
def tS (K : PySem.W.Frag) (mg : Str → Option Value) (W : WX) (t : TD) : TS := fun D σ H => ∃ F0 H0 F ρ De, Sim K F0 H0 F H σ ρ ∧ Conn K mg W F0 H0 F De D ∧ t De ρ
abbrev DS (X : Cx) (W : WX) (st : Stmt) (t : TD) : Prop := PS X st (tS X.K X.mg W t)
abbrev DSs (X : Cx) (W : WX) (sts : List Stmt) (t : TD) : Prop := PSs X sts (tS X.K X.mg W t)
/-- a result goes on; an exception goes out -/
def go {α : Type} (De : EndsD) (ρ : Rho) (r : R α) (k : α → Prop) : Prop := match r with
  | .ok a => k a
  | .exc e => De.ex e ρ
  | .stuck => False
theorem go_ok {α : Type} (De : EndsD) (ρ : Rho) (a : α) (k : α → Prop) : go De ρ (.ok a) k = k a := rfl
theorem post_go {α β : Type} {rel : Hp → Hp → α → β → Prop} {r : R α} {De : EndsD} {D : Ends} {k : α → Prop} {Q : β → Hp → Prop} (S : Sim K F0 H0 F H σ ρ) (c : Conn K mg W F0 H0 F De D) (g : go De ρ r k)
    (h : ∀ a b F1 H1, Ext F H F1 H1 → rel F1 H1 a b → k a → Q b H1) : Post K mg W rel F H σ r Q := by
  cases r with
  | ok a => exact fun b F1 H1 e q => h a b F1 H1 e q g
  | exc e => exact fun cc dd F1 H1 x q => c.ex F1 H1 σ ρ e cc dd x.fr (S.mono x) q g
  | stuck => exact g
variable {st : Stmt} {sts : List Stmt} {t u : TD} {e : Expr} {f : Rho → R D} {fo : Rho → R (List D)}
def sNil : TD := fun De ρ => De.nx ρ
def sSeq (t u : TD) : TD := fun De ρ => t { De with nx := u De } ρ
theorem dss_nil : DSs X W [] sNil := PSs.imp pss_nil fun D σ H ⟨F0, H0, F, ρ, De, S, c, q⟩ => c.nx F H σ ρ (Same.refl _) S q
theorem dss_cons (h1 : DS X W st t) (h2 : DSs X W sts u) : DSs X W (st :: sts) (sSeq t u) := by
  refine PSs.imp (pss_cons h1 h2) fun D σ H ⟨F0, H0, F, ρ, De, S, c, q⟩ => ?_
  exact ⟨F0, H0, F, ρ, { De with nx := u De }, S, ⟨fun F2 H2 σ ρ a b d => ⟨F0, H0, F2, ρ, De, b, c.mono a, d⟩, c.rt, c.bk, c.ct, c.ex⟩, q⟩
theorem dss_one (h1 : DS X W st t) : DSs X W [st] t := pss_one h1
theorem ds_pass : DS X W (.Pass pos) sNil := PS.imp ps_pass fun D σ H ⟨F0, H0, F, ρ, De, S, c, q⟩ => c.nx F H σ ρ (Same.refl _) S q
def sBrk : TD := fun De ρ => De.bk ρ
def sCnt : TD := fun De ρ => De.ct ρ
theorem ds_break : DS X W (.Break pos) sBrk := PS.imp ps_break fun D σ H ⟨F0, H0, F, ρ, De, S, c, q⟩ => c.bk F H σ ρ (Same.refl _) S q
theorem ds_continue : DS X W (.Continue pos) sCnt := PS.imp ps_continue fun D σ H ⟨F0, H0, F, ρ, De, S, c, q⟩ => c.ct F H σ ρ (Same.refl _) S q
theorem ds_doc {x j pos pos'} : DS X W (.Expr (.Constant (.str x) j pos) pos') sNil := PS.imp ps_doc fun D σ H ⟨F0, H0, F, ρ, De, S, c, q⟩ => c.nx F H σ ρ (Same.refl _) S q
def sDrop (f : Rho → R D) : TD := fun De ρ => go De ρ (f ρ) fun _ => De.nx ρ
theorem ds_expr (he : DE X W e f) (hs : swapsWith e none pos.line X.env = pure false := by rfl) : DS X W (.Expr e pos) (sDrop f) := by
  refine PS.imp (ps_expr he hs) fun D σ H ⟨F0, H0, F, ρ, De, S, c, q⟩ => ?_
  exact ⟨F0, H0, F, ρ, S, post_go S c q fun a b F1 H1 x _ k => c.nx F1 H1 σ ρ x.fr (S.mono x) k⟩
/-- return of an expression's datum -/
def sRet (f : Rho → R D) : TD := fun De ρ => go De ρ (f ρ) fun d => kept d = true ∧ De.rt (.d d)
theorem ds_ret (he : DE X W e f) : DS X W (.Return (some e) pos) (sRet f) := by
  refine PS.imp (ps_ret he) fun D σ H ⟨F0, H0, F, ρ, De, S, c, q⟩ => ?_
  exact ⟨F0, H0, F, ρ, S, post_go S c q fun a b F1 H1 x r k => c.rt F1 H1 (.d a) b x.fr (S.ext.trans x) (r.kept k.1) k.2⟩
/-- return of a new list -/
def sRetO (f : Rho → R (List D)) : TD := fun De ρ => go De ρ (f ρ) fun xs => De.rt (.own xs)
theorem ds_retO (he : DO X W e fo) : DS X W (.Return (some e) pos) (sRetO fo) := by
  refine PS.imp (ps_ret he) fun D σ H ⟨F0, H0, F, ρ, De, S, c, q⟩ => ?_
  refine ⟨F0, H0, F, ρ, S, post_go S c q fun a b F1 H1 x r k => c.rt F1 H1 (.own a) b x.fr (S.ext.trans x) ?_ k⟩
  obtain ⟨p, vs, h1, n0, n1, h2, h3⟩ := r
  exact ⟨p, vs, h1, S.ext.hp.free n0, n1, h2, h3⟩
/-- return of a slot: a list of the frame's own goes to the caller -/
def sRetV (i : Nat) : TD := fun De ρ => match ρ[i]? with
  | some (.d x) => De.rt (.d x)
  | some (.own xs) => De.rt (.own xs)
  | _ => False
theorem ds_retV (i : Nat) {x : Str} {p2 : Pos} (hN : X.N[i]? = some x := by rfl) (hv : Vis X.env.scope x := by first | exact Or.inl rfl | exact Or.inr (Or.inl rfl) | exact Or.inr (Or.inr rfl)) (hd : (x == ("__debug__" : Str)) = false := by decide)
    (hcd : (x == ("__classdict__" : Str)) = false := by decide) : DS X W (.Return (some (.Name x p2)) pos) (sRetV i) := by
  refine PS.imp (ps_ret (pe_var hN hv hd hcd)) fun D σ H ⟨F0, H0, F, ρ, De, S, c, q⟩ => ?_
  unfold sRetV at q
  split at q
  · rename_i x e
    obtain ⟨v, h1, h2⟩ := S.slot i x e
    exact ⟨v, h1, c.rt F H (.d x) v (Same.refl _) S.ext h2 q⟩
  · rename_i xs e
    obtain ⟨o, h, _⟩ := S.own
    obtain ⟨h1, h2, h3, vs, h4, h5⟩ := h i xs e
    exact ⟨_, h1, c.rt F H (.own xs) _ (Same.refl _) S.ext ⟨_, vs, rfl, h3, h2, h4, h5⟩ q⟩
  · exact q.elim
def sRetN : TD := fun De _ => De.rt (.d .non)
theorem ds_retN : DS X W (.Return none pos) sRetN := PS.imp ps_retN fun D σ H ⟨F0, H0, F, ρ, De, S, c, q⟩ => c.rt F H (.d .non) .non (Same.refl _) S.ext rfl q
def sIf (c : Rho → R Bool) (t u : TD) : TD := fun De ρ => go De ρ (c ρ) fun k => if k = true then t De ρ else u De ρ
theorem ds_if {c : Expr} {a b : List Stmt} {tc : Rho → R Bool} (hc : DT X W c tc) (ha : DSs X W a t) (hb : DSs X W b u) : DS X W (.If c a b pos) (sIf tc t u) := by
  refine PS.imp (ps_if hc ha hb) fun D σ H ⟨F0, H0, F, ρ, De, S, c, q⟩ => ?_
  refine ⟨F0, H0, F, ρ, S, post_go S c q fun k k' F1 H1 x r z => ?_⟩
  subst r
  cases k with
  | true => exact ⟨F0, H0, F1, ρ, De, S.mono x, c.mono x.fr, z⟩
  | false => exact ⟨F0, H0, F1, ρ, De, S.mono x, c.mono x.fr, z⟩
/-- target = expression -/
def sAsg (f : Rho → R D) (g : D → Rho → Option Rho) : TD := fun De ρ => go De ρ (f ρ) fun d => kept d = true ∧ ∃ ρ', g d ρ = some ρ' ∧ De.nx ρ'
theorem ds_asg {tg : Expr} {g : D → Rho → Option Rho} (he : DE X W e f) (hg : DG X tg g vs) (hs : swapsWithSole [tg] e pos.line X.env = pure false := by rfl) (hw : swappedStores [tg] e X.env = pure none := by rfl)
    (h1 : (assignEach [tg] X.env).map (·.2) = [assign tg X.env] := by rfl) : DS X W (.Assign [tg] e pos) (sAsg f g) := by
  refine PS.imp (ps_asg he hg hs hw h1) fun D σ H ⟨F0, H0, F, ρ, De, S, c, q⟩ => ?_
  refine ⟨F0, H0, F, ρ, S, post_go S c q fun d v F1 H1 x r ⟨kd, ρ', e1, k⟩ => ?_⟩
  exact ⟨F0, H0, F1, ρ, d, S.mono x, r.kept kd, ρ', e1, fun σ' F2 H2 x2 S' _ _ => c.nx F2 H2 σ' ρ' (x.fr.trans x2.fr) S' k⟩
/-- name = expression -/
def sSet (i : Nat) (f : Rho → R D) : TD := fun De ρ => go De ρ (f ρ) fun d => kept d = true ∧ De.nx (ρ.set i (.d d))
theorem ds_set {i : Nat} {x : Str} {pos' : Pos} (hN : X.N.Nodup) (hi : X.N[i]? = some x) (hx : Loc X.env.scope x) (he : DE X W e f) (hs : swapsWith e (some (.Name x pos')) pos.line X.env = pure false := by rfl) (hf : X.fn x = true ∨ X.env.scope.names.lookup x = some .local := by first | exact .inl rfl | exact .inr rfl | assumption) :
    DS X W (.Assign [.Name x pos'] e pos) (sSet i f) := by
  refine PS.imp (ps_set hN hi hx he hs hf) fun D σ H ⟨F0, H0, F, ρ, De, S, c, q⟩ => ?_
  exact ⟨F0, H0, F, ρ, S, post_go S c q fun d v F1 H1 x r k => c.nx F1 H1 _ _ x.fr ((S.mono x).setD (r.kept k.1)) k.2⟩
/-- name = a new list, which stays the frame's own -/
def sSetO (i : Nat) (f : Rho → R (List D)) : TD := fun De ρ => go De ρ (f ρ) fun xs => De.nx (ρ.set i (.own xs))
theorem ds_setO {i : Nat} {x : Str} {pos' : Pos} (hN : X.N.Nodup) (hi : X.N[i]? = some x) (hx : Loc X.env.scope x) (he : DO X W e fo) (hs : swapsWith e (some (.Name x pos')) pos.line X.env = pure false := by rfl) (hf : X.fn x = true ∨ X.env.scope.names.lookup x = some .local := by first | exact .inl rfl | exact .inr rfl | assumption) :
    DS X W (.Assign [.Name x pos'] e pos) (sSetO i fo) := by
  refine PS.imp (ps_set hN hi hx he hs hf) fun D σ H ⟨F0, H0, F, ρ, De, S, c, q⟩ => ?_
  refine ⟨F0, H0, F, ρ, S, post_go S c q fun d v F1 H1 x r k => ?_⟩
  obtain ⟨p, rfl, S'⟩ := S.setNew x r (i := i)
  exact c.nx F1 H1 _ _ x.fr S' k
/-- a list of the frame's own becomes data -/
def sFrz (i : Nat) (t : TD) : TD := fun De ρ => match ρ[i]? with
  | some (.own xs) => t De (ρ.set i (.d (.lst xs)))
  | _ => t De ρ
theorem dss_frz (i : Nat) (h : DSs X W sts t) : DSs X W sts (sFrz i t) := by
  refine PSs.imp h fun D σ H ⟨F0, H0, F, ρ, De, S, c, q⟩ => ?_
  unfold sFrz at q
  split at q
  · rename_i xs e
    obtain ⟨F', s1, S'⟩ := S.freeze e
    exact ⟨F0, H0, F', _, De, S', c.mono s1, q⟩
  · exact ⟨F0, H0, F, ρ, De, S, c, q⟩
end
end DL
set_option maxRecDepth 100000
set_option maxHeartbeats 4000000
namespace DL
open PySem PySem.Spec PyProof.Rows L2
variable [Tb]
section
variable {K : PySem.W.Frag} {F0 H0 F H F' H' F1 H1 : Hp} {X : Cx} {σ : St} {ρ : Rho} {mg : Str → Option Value} {W : WX} {pos : Pos}
variable {st : Stmt} {sts : List Stmt} {t u : TD} {e : Expr} {f : Rho → R D} {fo : Rho → R (List D)}
/-! ### a list of the frame's own is changed -/
/-- name.append(e) -/
def sApp (i : Nat) (f : Rho → R D) : TD := fun De ρ => match ρ[i]? with
  | some (.own xs) => go De ρ (f ρ) fun d => kept d = true ∧ xs.length < sizeLine ∧ De.nx (ρ.set i (.own (xs ++ [d])))
  | _ => False
theorem ds_app {i : Nat} {x : Str} {p2 apos cpos : Pos} (he : DE X W e f) (hN : X.N[i]? = some x := by rfl) (hv : Vis X.env.scope x := by first | exact Or.inl rfl | exact Or.inr (Or.inl rfl) | exact Or.inr (Or.inr rfl)) (hd : (x == ("__debug__" : Str)) = false := by decide)
    (hcd : (x == ("__classdict__" : Str)) = false := by decide) (hst : starEach [e] X.env = (false, eval e X.env) :: starEach [] X.env := by rfl)
    (hb : attributeBase (.Name x p2) ("append" : Str) X.env (eval (.Name x p2) X.env) = eval (.Name x p2) X.env := by rfl) (hl : (apos.endLine == cpos.line) = true := by rfl)
    (hfew : (((backTo cpos (starEach [e] X.env)).all fun x => !x.1) && ((backToKw cpos (keywordEach [] X.env)).all fun x => x.1.isSome) && decide ([e].length + ([] : List Keyword).length + (if ([] : List Keyword).isEmpty then 0 else 1) < 30)) = true := by rfl)
    (hs : swapsWith (.Call (.Attribute (.Name x p2) "append" apos) [e] [] cpos) none pos.line X.env = pure false := by rfl) : DS X W (.Expr (.Call (.Attribute (.Name x p2) "append" apos) [e] [] cpos) pos) (sApp i f) := by
  have pe : PE X (.Call (.Attribute (.Name x p2) "append" apos) [e] [] cpos) _ := pe_bm PySem.F.plainAttrs_list PySem.F.slot_list_append PySem.F.type_list_append mt_append (pe_var hN hv hd hcd) (da_cons (W := W) he da_nil hst) hb hfew hl hst
  refine PS.imp (ps_expr pe hs) fun D σ H ⟨F0, H0, F, ρ, De, S, c, q⟩ => ?_
  unfold sApp at q
  split at q
  · rename_i xs e1
    obtain ⟨o, h, _⟩ := S.own
    obtain ⟨h1, h2, h3, vs, h4, h5⟩ := h i xs e1
    refine ⟨_, h1, .inl ⟨rfl, vs, .inl (.inl h4)⟩, F0, H0, F, ρ, S, ?_⟩
    have g : go De ρ (aCons f aNil ρ) (fun ds => ∃ d, ds = [d] ∧ kept d = true ∧ xs.length < sizeLine ∧ De.nx (ρ.set i (.own (xs ++ [d])))) := by
      unfold aCons aNil
      cases e2 : f ρ with
      | ok d => rw [e2] at q; exact ⟨d, rfl, q⟩
      | exc x => rw [e2] at q; exact q
      | stuck => rw [e2] at q; exact q
    refine post_go S c g fun ds ws F1 H1 x r ⟨d, e3, kd, hz, k⟩ => ?_
    subst e3
    obtain ⟨v, r', rfl, rd, rn⟩ := r
    cases (show r' = [] from rn)
    have S1 := S.mono x
    have h4' := x.hp.g h4
    refine ⟨_, vs, v, rfl, rfl, h4', by rw [← h5.length]; exact hz, ?_⟩
    exact c.nx F1 _ _ _ x.fr (S1.write e1 h1 h4' ((h5.mono x.fr).append (Reps.cons (rd.kept kd) Reps.nil))) k
  · exact q.elim
/-- name[i] = e -/
def sPut (i : Nat) (fi fv : Rho → R D) : TD := fun De ρ => match ρ[i]? with
  | some (.own xs) => go De ρ (fv ρ) fun d => go De ρ (fi ρ) fun j => kept d = true ∧ ∃ k n, j = .int k ∧ ixN xs.length k = some n ∧ De.nx (ρ.set i (.own (xs.set n d)))
  | _ => False
theorem vset {vs : List V} : ∀ (n : Nat) (v : V), (vs.set n v).length = vs.length := fun n v => by simp
theorem ds_put {i : Nat} {x : Str} {p2 spos : Pos} {ei : Expr} {fi : Rho → R D} (he : DE X W e f) (hi : DE X W ei fi) (hN : X.N[i]? = some x := by rfl) (hv : Vis X.env.scope x := by first | exact Or.inl rfl | exact Or.inr (Or.inl rfl) | exact Or.inr (Or.inr rfl)) (hd : (x == ("__debug__" : Str)) = false := by decide)
    (hcd : (x == ("__classdict__" : Str)) = false := by decide)
    (ha : ∀ v, assign (.Subscript (.Name x p2) ei spos) X.env v = (do
      let ov ← holding [v] (eval (.Name x p2) X.env)
      let iv ← holding [v, ov] (eval ei X.env)
      standAt spos
      holding [v, ov, iv] (setItem ov iv v)
      release [v, ov, iv] []) := by intro _; rfl)
    (hs : swapsWithSole [(.Subscript (.Name x p2) ei spos)] e pos.line X.env = pure false := by rfl) (hw : swappedStores [(.Subscript (.Name x p2) ei spos)] e X.env = pure none := by rfl)
    (h1 : (assignEach [(.Subscript (.Name x p2) ei spos)] X.env).map (·.2) = [assign (.Subscript (.Name x p2) ei spos) X.env] := by rfl) : DS X W (.Assign [.Subscript (.Name x p2) ei spos] e pos) (sPut i fi f) := by
  have pg := pg_sub (pe_var (pos := p2) hN hv hd hcd) hi (set_list (X := X)) ha
  refine PS.imp (ps_asg he pg hs hw h1) fun D σ H ⟨F0, H0, F, ρ, De, S, c, q⟩ => ?_
  unfold sPut at q
  split at q
  · rename_i xs e1
    refine ⟨F0, H0, F, ρ, S, post_go S c q fun d v F1 H1 x1 r1 q1 => ?_⟩
    obtain ⟨o, h, _⟩ := S.own
    obtain ⟨h1, h2, h3, vs, h4, h5⟩ := h i xs e1
    have S1 := S.mono x1
    refine ⟨.ref (o i), h1, F0, H0, F1, ρ, S1, post_go S1 (c.mono x1.fr) q1 fun j w F2 H2 x2 r2 ⟨kd, k, n, e2, e3, kk⟩ => ?_⟩
    subst e2
    have S2 := S1.mono x2
    have h4' := x2.hp.g (x1.hp.g h4)
    have h5' := (h5.mono x1.fr).mono x2.fr
    refine ⟨_, vs, k, n, rfl, r2, h4', by rw [← h5.length]; exact e3, ?_⟩
    exact c.nx F2 _ _ _ (x1.fr.trans x2.fr) (S2.write e1 h1 h4' (h5'.set n ((r1.mono x2).kept kd))) kk
  · exact q.elim
/-! ### walks -/
def Walked (K : PySem.W.Frag) (Gb F1 : Hp) (ds : List D) (J : It) : Prop := ∃ G Y, Walk J ds.length G Y ∧ (∀ H', Same Gb H' → G H') ∧ ∀ (i : Nat) (d : D) F2 H2 x H2', ds[i]? = some d → Same F1 F2 → Same F2 H2 → Y i H2 x H2' → ∃ F2', Ext F2 H2 F2' H2' ∧ Rep K F2' d x
def RepI (K : PySem.W.Frag) : Hp → Hp → List D → It → Prop := fun F1 H1 ds J => Walked K F1 F1 ds J
def RepIC (K : PySem.W.Frag) : Hp → Hp → List D → It → Prop := fun F1 H1 ds J => Walked K H1 F1 ds J
/-- what a for walks; what a comprehension walks (lent lists too) -/
def tIF (K : PySem.W.Frag) (mg : Str → Option Value) (W : WX) (f : Rho → R (List D)) : TI := fun σ H R => ∃ F0 H0 F ρ, Sim K F0 H0 F H σ ρ ∧ Post K mg W (RepI K) F H σ (f ρ) R
def tIC (K : PySem.W.Frag) (mg : Str → Option Value) (W : WX) (f : Rho → R (List D)) : TI := fun σ H R => ∃ F0 H0 F ρ, Sim K F0 H0 F H σ ρ ∧ Post K mg W (RepIC K) F H σ (f ρ) R
abbrev DI (X : Cx) (W : WX) (tg e : Expr) (f : Rho → R (List D)) : Prop := PI X tg e (tIF X.K X.mg W f)
abbrev DIC (X : Cx) (W : WX) (tg e : Expr) (f : Rho → R (List D)) : Prop := PI X tg e (tIC X.K X.mg W f)
theorem PI.imp {tg e : Expr} {t t' : TI} (h : PI X tg e t) (i : ∀ σ H R, t' σ H R → t σ H R) : PI X tg e t' := ⟨fun pins s σ H R I q => h.run pins s σ H R I (i σ H R q)⟩
theorem Post.rel {α β : Type} {rel rel' : Hp → Hp → α → β → Prop} {r : R α} {Q : β → Hp → Prop} (p : Post K mg W rel F H σ r Q) (h : ∀ F' H' a b, Ext F H F' H' → rel' F' H' a b → rel F' H' a b) : Post K mg W rel' F H σ r Q := by
  cases r with
  | ok a => exact fun b F1 H1 e q => p b F1 H1 e (h _ _ _ _ e q)
  | exc x => exact p
  | stuck => exact p
theorem di_c {tg : Expr} (h : DI X W tg e fo) : DIC X W tg e fo := PI.imp h fun σ H R ⟨F0, H0, F, ρ, S, p⟩ =>
  ⟨F0, H0, F, ρ, S, Post.rel p fun F1 H1 ds J x ⟨G, Y, a, b, c⟩ => ⟨G, Y, a, fun H' s => b H' (x.sub.trans s), c⟩⟩
/-- a list, a tuple or a text -/
def iAny (K : PySem.W.Frag) (tl : TE) : TI := fun σ H R => tl σ H fun x H1 => (∃ a xs, x = .ref a ∧ SqL K H1 a xs ∧ R (Itl K a) H1) ∨ (∃ a xs, x = .ref a ∧ SqT K H1 a xs ∧ R (Itt K a) H1) ∨ ∃ y, x = .str y ∧ R (Its y) H1
theorem pi_any {tg l : Expr} {tl : TE} (hl : PE X l tl) : PI X tg l (iAny X.K tl) := by
  refine ⟨fun pins s σ H R I h => ?_⟩
  refine thn (hl.run pins s σ H _ I h) fun v s1 ⟨x, H1, I1, r1, q1⟩ => ?_
  rcases q1 with ⟨a, xs, e, hq, q⟩ | ⟨a, xs, e, hq, q⟩ | ⟨y, e, q⟩
  · subst e
    cases r1
    obtain ⟨its, rv, p, hz⟩ := I1.list hq
    refine wpAny_pyIter_list p.isList ?_
    refine ⟨s1.heap.objs.size, [s1.heap.objs.size], _, _, H1, rfl, I1.kept (t' := s1.toks) fun b o e => Heap.get?_push_of_some _ e, turn_list a _, ⟨_, Heap.get?_push_size _ rfl, rfl, rfl⟩, fun b hb => ?_, q⟩
    have e : b = s1.heap.objs.size := by simpa using hb
    subst e
    exact I1.fpOk (Nat.le_refl _) (I1.hok.fresh (Nat.le_refl _))
  · subst e
    cases r1
    obtain ⟨its, rv, p, hz⟩ := I1.tuple hq
    refine wpAny_pyIter_tuple (show s1.heap.IsTuple a its.toArray from p) ?_
    refine ⟨s1.heap.objs.size, [s1.heap.objs.size], _, _, H1, rfl, I1.kept (t' := s1.toks) fun b o e => Heap.get?_push_of_some _ e, turn_tuple a _, ⟨_, Heap.get?_push_size _ rfl, rfl, rfl⟩, fun b hb => ?_, q⟩
    have e : b = s1.heap.objs.size := by simpa using hb
    subst e
    exact I1.fpOk (Nat.le_refl _) (I1.hok.fresh (Nat.le_refl _))
  · subst e
    obtain ⟨t, rfl⟩ := r1
    cases ha : y.cps.all (· < 128)
    · exact wpAny_pyIter_wide ha (pi_one (tk := s1.toks) I1 _ (turn_str _ y t "str_iterator" (.inr rfl)) ⟨_, Heap.get?_push_size _ rfl, rfl, rfl⟩ q)
    · exact wpAny_pyIter_ascii ha (pi_one (tk := s1.toks) I1 _ (turn_str _ y t "str_ascii_iterator" (.inl rfl)) ⟨_, Heap.get?_push_size _ rfl, rfl, rfl⟩ q)
/-- the signs of a text -/
def signs (z : Str) : List D := z.cps.toList.map fun c => .str ⟨#[c]⟩
def itD : D → R (List D)
  | .lst xs => .ok xs
  | .tup xs => .ok xs
  | .str z => .ok (signs z)
  | _ => .stuck
/-- of lent lists too -/
def itDC : D → R (List D)
  | .bor xs => .ok xs
  | d => itD d
def iE (f : Rho → R D) : Rho → R (List D) := fun ρ => (f ρ).bind itD
def iEC (f : Rho → R D) : Rho → R (List D) := fun ρ => (f ρ).bind itDC
theorem walked_lst {xs : List D} {vs : List V} {a : Addr} (q : Rd F a (.lst vs)) (r : Reps K F xs vs) : Walked K F F xs (Itl K a) := by
  have w := walk_list (K := K) (a := a) (xs := vs)
  rw [← r.length] at w
  refine ⟨_, _, w, fun H' s => .inl (same_rd s q), fun i d F2 H2 x H2' hi s1 s2 ⟨e, y⟩ => ?_⟩
  subst e
  obtain ⟨d', h1, h2⟩ := r.get' y
  rw [h1] at hi; cases hi
  exact ⟨F2, Ext.refl s2, h2.mono s1⟩
theorem walked_tup {xs : List D} {vs : List V} {a : Addr} (q : TupA K F a vs) (r : Reps K F xs vs) : Walked K F F xs (Itt K a) := by
  have w := walk_tup (K := K) (a := a) (xs := vs)
  rw [← r.length] at w
  refine ⟨_, _, w, fun H' s => q.sq s, fun i d F2 H2 x H2' hi s1 s2 ⟨e, y⟩ => ?_⟩
  subst e
  obtain ⟨d', h1, h2⟩ := r.get' y
  rw [h1] at hi; cases hi
  exact ⟨F2, Ext.refl s2, h2.mono s1⟩
theorem walked_str {z : Str} : Walked K F F (signs z) (Its z) := by
  have w := walk_str (z := z)
  rw [← show (signs z).length = z.cps.size by simp [signs]] at w
  refine ⟨_, _, w, fun H' s => trivial, fun i d F2 H2 x H2' hi s1 s2 ⟨e, c, h1, h2⟩ => ?_⟩
  subst e h2
  refine ⟨F2, Ext.refl s2, ?_⟩
  unfold signs at hi
  rw [List.getElem?_map, Array.getElem?_toList, h1] at hi
  cases hi
  rfl
theorem di_e {tg : Expr} (he : DE X W e f) : DI X W tg e (iE f) := by
  refine PI.imp (pi_any he) fun σ H R ⟨F0, H0, F, ρ, S, p⟩ => ?_
  refine ⟨F0, H0, F, ρ, S, Post.bind p fun d v F1 H1 _ e1 r1 p1 => ?_⟩
  cases d with
  | lst xs =>
    obtain ⟨a, vs, rfl, q, r⟩ := r1
    exact .inl ⟨a, vs, rfl, .inl (same_rd e1.sub q), p1.ok e1.sub (walked_lst q r)⟩
  | tup xs =>
    obtain ⟨a, vs, rfl, q, r⟩ := r1
    exact .inr (.inl ⟨a, vs, rfl, q.sq e1.sub, p1.ok e1.sub (walked_tup q r)⟩)
  | str z => exact .inr (.inr ⟨z, r1, p1.ok e1.sub walked_str⟩)
  | _ => exact p1.elim
theorem Walked.c {ds : List D} {J : It} (s : Same F H) (w : Walked K F F ds J) : Walked K H F ds J := by
  obtain ⟨G, Y, a, b, c⟩ := w
  exact ⟨G, Y, a, fun H' q => b H' (s.trans q), c⟩
theorem dic_e {tg : Expr} (he : DE X W e f) : DIC X W tg e (iEC f) := by
  refine PI.imp (pi_any he) fun σ H R ⟨F0, H0, F, ρ, S, p⟩ => ?_
  refine ⟨F0, H0, F, ρ, S, Post.bind p fun d v F1 H1 _ e1 r1 p1 => ?_⟩
  cases d with
  | lst xs =>
    obtain ⟨a, vs, rfl, q, r⟩ := r1
    exact .inl ⟨a, vs, rfl, .inl (same_rd e1.sub q), Post.ok (a := xs) p1 e1.sub ((walked_lst q r).c e1.sub)⟩
  | bor xs =>
    obtain ⟨a, vs, rfl, _, q, r⟩ := r1
    have w := walk_list (K := X.K) (a := a) (xs := vs)
    rw [← r.length] at w
    refine .inl ⟨a, vs, rfl, .inl (.inl q), Post.ok (a := xs) p1 e1.sub ⟨_, _, w, fun H' s => .inl (.inl (s.g q)), fun i d F2 H2 x H2' hi s1 s2 ⟨e, y⟩ => ?_⟩⟩
    subst e
    obtain ⟨d', h1, h2⟩ := r.get' y
    rw [h1] at hi; cases hi
    exact ⟨F2, Ext.refl s2, h2.mono s1⟩
  | tup xs =>
    obtain ⟨a, vs, rfl, q, r⟩ := r1
    exact .inr (.inl ⟨a, vs, rfl, q.sq e1.sub, Post.ok (a := xs) p1 e1.sub ((walked_tup q r).c e1.sub)⟩)
  | str z => exact .inr (.inr ⟨z, r1, Post.ok (a := signs z) p1 e1.sub (walked_str.c e1.sub)⟩)
  | _ => exact p1.elim
/-! ranges -/
def rngL (lo c : Int) (n : Nat) : List D := (List.range n).map fun i => .int (lo + (i : Nat) * c)
def big62 (i : Int) : Prop := -(2 ^ 62) ≤ i ∧ i < 2 ^ 62
/-- not computed: a proof is asked for -/
noncomputable instance (i : Int) : Decidable (big62 i) := Classical.propDecidable _
noncomputable def iR1 (f : Rho → R (List D)) : Rho → R (List D) := fun ρ => (f ρ).bind fun ds => match ds with
  | [.int j] => if big62 j then .ok (rngL 0 1 j.toNat) else .stuck
  | _ => .stuck
noncomputable def iR2 (f : Rho → R (List D)) : Rho → R (List D) := fun ρ => (f ρ).bind fun ds => match ds with
  | [.int i, .int j] => if big62 i ∧ big62 j then .ok (rngL i 1 (j - i).toNat) else .stuck
  | _ => .stuck
/-- range(i, j, -1) -/
noncomputable def iR3 (f : Rho → R (List D)) : Rho → R (List D) := fun ρ => (f ρ).bind fun ds => match ds with
  | [.int i, .int j, .int c] => if c = -1 ∧ big62 i ∧ big62 j then .ok (rngL i (-1) (i - j).toNat) else .stuck
  | _ => .stuck
theorem walked_rng {lo : Int} {n : Nat} : Walked K F F (rngL lo 1 n) (Itr lo n) := by
  have w := walk_range (lo := lo) (n := n)
  have el : (rngL lo 1 n).length = n := by simp [rngL]
  refine ⟨fun _ => True, YFn fun i => .int (lo + i), (by rw [el]; exact w), fun _ _ => trivial, fun i d F2 H2 x H2' hi s1 s2 ⟨e, y⟩ => ?_⟩
  subst e y
  refine ⟨F2, Ext.refl s2, ?_⟩
  unfold rngL at hi
  rw [List.getElem?_map] at hi
  obtain ⟨j, h1, h2⟩ := Option.map_eq_some_iff.mp hi
  have hj : j = i := by
    rw [List.getElem?_range (by have := (List.getElem?_eq_some_iff.mp h1).1; simpa using this)] at h1
    exact (Option.some.inj h1).symm
  subst h2 hj
  show V.int _ = V.int _
  rw [Int.mul_one]
theorem walked_rngC {lo c : Int} {n : Nat} : Walked K F F (rngL lo c n) (Itc lo c n) := by
  have w := walk_rangeC (lo := lo) (c := c) (n := n)
  have el : (rngL lo c n).length = n := by simp [rngL]
  refine ⟨fun _ => True, YFn fun i => .int (lo + (i : Nat) * c), (by rw [el]; exact w), fun _ _ => trivial, fun i d F2 H2 x H2' hi s1 s2 ⟨e, y⟩ => ?_⟩
  subst e y
  refine ⟨F2, Ext.refl s2, ?_⟩
  unfold rngL at hi
  rw [List.getElem?_map] at hi
  obtain ⟨j, h1, h2⟩ := Option.map_eq_some_iff.mp hi
  have hj : j = i := by
    rw [List.getElem?_range (by have := (List.getElem?_eq_some_iff.mp h1).1; simpa using this)] at h1
    exact (Option.some.inj h1).symm
  subst h2 hj
  rfl
theorem reps_1 {d : D} {vs : List V} (h : RepsX K F H [d] vs) : ∃ v, vs = [v] ∧ RepX K F H d v := by
  obtain ⟨v, r, rfl, h1, h2⟩ := h
  cases (show r = [] from h2)
  exact ⟨v, rfl, h1⟩
theorem reps_2 {d e : D} {vs : List V} (h : RepsX K F H [d, e] vs) : ∃ v u, vs = [v, u] ∧ RepX K F H d v ∧ RepX K F H e u := by
  obtain ⟨v, r, rfl, h1, h2⟩ := h
  obtain ⟨u, rfl, h3⟩ := reps_1 h2
  exact ⟨v, u, rfl, h1, h3⟩
theorem reps_3 {d e g : D} {vs : List V} (h : RepsX K F H [d, e, g] vs) : ∃ v u w, vs = [v, u, w] ∧ RepX K F H d v ∧ RepX K F H e u ∧ RepX K F H g w := by
  obtain ⟨v, r, rfl, h1, h2⟩ := h
  obtain ⟨u, w, rfl, h3, h4⟩ := reps_2 h2
  exact ⟨v, u, w, rfl, h1, h3, h4⟩
variable {a b c : Expr} {ft : Rho → R (List D)}
theorem di_range1 {tg : Expr} {p : Pos} (hg : Gl X "range") (hm : X.mg "range" = none) (ha : DA X W [a] ft) (hs : starEach [a] X.env = [(false, eval a X.env)] := by rfl) : DI X W tg (.Call (.Name "range" p) [a] [] pos) (iR1 ft) := by
  refine PI.imp (pi_range1 hg hm ha hs) fun σ H R ⟨F0, H0, F, ρ, S, p⟩ => ?_
  refine ⟨F0, H0, F, ρ, S, Post.bind p fun ds vs F1 H1 _ e1 r1 p1 => ?_⟩
  split at p1
  · obtain ⟨hz, p1⟩ := post_if p1
    obtain ⟨v, rfl, rv⟩ := reps_1 r1
    cases (show v = _ from rv)
    exact ⟨_, rfl, hz.1, hz.2, p1.ok e1.sub walked_rng⟩
  · exact p1.elim
theorem di_range2 {tg : Expr} {p : Pos} (hg : Gl X "range") (hm : X.mg "range" = none) (ha : DA X W [a, b] ft) (hs : starEach [a, b] X.env = [(false, eval a X.env), (false, eval b X.env)] := by rfl) (hs2 : starEach [b] X.env = [(false, eval b X.env)] := by rfl) :
    DI X W tg (.Call (.Name "range" p) [a, b] [] pos) (iR2 ft) := by
  refine PI.imp (pi_range2 hg hm ha hs hs2) fun σ H R ⟨F0, H0, F, ρ, S, p⟩ => ?_
  refine ⟨F0, H0, F, ρ, S, Post.bind p fun ds vs F1 H1 _ e1 r1 p1 => ?_⟩
  split at p1
  · obtain ⟨hz, p1⟩ := post_if p1
    obtain ⟨v, u, rfl, rv, ru⟩ := reps_2 r1
    cases (show v = _ from rv)
    cases (show u = _ from ru)
    exact ⟨_, _, rfl, ⟨hz.1.1, hz.1.2, hz.2.1, hz.2.2⟩, p1.ok e1.sub walked_rng⟩
  · exact p1.elim
theorem di_range3 {tg : Expr} {p : Pos} (hg : Gl X "range") (hm : X.mg "range" = none) (ha : DA X W [a, b, c] ft)
    (hs : starEach [a, b, c] X.env = (false, eval a X.env) :: starEach [b, c] X.env := by rfl) (hpl : (backTo pos (starEach [b, c] X.env)).any (·.1) = false := by rfl) :
    DI X W tg (.Call (.Name "range" p) [a, b, c] [] pos) (iR3 ft) := by
  refine PI.imp (pi_range3 hg hm ha hs hpl) fun σ H R ⟨F0, H0, F, ρ, S, p⟩ => ?_
  refine ⟨F0, H0, F, ρ, S, Post.bind p fun ds vs F1 H1 _ e1 r1 p1 => ?_⟩
  split at p1
  · obtain ⟨⟨hc, hi, hj⟩, p2⟩ := post_if p1
    clear p1
    obtain ⟨v, u, w, rfl, rv, ru, rw'⟩ := reps_3 r1
    cases (show v = _ from rv)
    cases (show u = _ from ru)
    cases (show w = _ from rw')
    subst hc
    exact ⟨_, _, _, _, rfl, RgC.neg hi.1 hi.2 hj.1 hj.2, p2.ok e1.sub walked_rngC⟩
  · exact p1.elim
/-- enumerate(a list) -/
def enumL (ds : List D) : List D := ds.zipIdx.map fun p => .tup [.int (p.2 : Nat), p.1]
def iEn (f : Rho → R (List D)) : Rho → R (List D) := fun ρ => (f ρ).bind fun ds => match ds with
  | [.lst xs] => .ok (enumL xs)
  | _ => .stuck
theorem walked_enum {xs : List D} {vs : List V} {a : Addr} (q : Rd F a (.lst vs)) (r : Reps K F xs vs) : Walked K F F (enumL xs) (Ite K a) := by
  have w := walk_enum (K := K) (a := a) (xs := vs)
  rw [← show (enumL xs).length = vs.length by simp [enumL, r.length]] at w
  refine ⟨_, _, w, fun H' s => .inl (same_rd s q), fun i d F2 H2 x H2' hi s1 s2 ⟨T, y, z, e1, e2, e3, e4, e5⟩ => ?_⟩
  subst e1 e3
  cases e4
  obtain ⟨d', h1, h2⟩ := r.get' e5
  unfold enumL at hi
  rw [List.getElem?_map, List.getElem?_zipIdx, h1] at hi
  cases hi
  refine ⟨_, Ext.frozen s2 e2, Rep.newT ⟨_, [z], rfl, ?_, z, [], rfl, h2.mono s1, rfl⟩ (s2.free e2)⟩
  show V.int _ = V.int _
  simp
theorem di_enum {p tpos : Pos} {elts : List Expr} {kk : Nat} (hg : Gl X "enumerate") (hm : X.mg "enumerate" = none) (ha : DA X W [a] ft) (hs : starEach [a] X.env = [(false, eval a X.env)] := by rfl) :
    DI X W (.Tuple elts kk tpos) (.Call (.Name "enumerate" p) [a] [] pos) (iEn ft) := by
  refine PI.imp (pi_enum hg hm ha hs) fun σ H R ⟨F0, H0, F, ρ, S, p⟩ => ?_
  refine ⟨F0, H0, F, ρ, S, Post.bind p fun ds vs F1 H1 _ e1 r1 p1 => ?_⟩
  split at p1
  · obtain ⟨v, rfl, rv⟩ := reps_1 r1
    obtain ⟨a, us, rfl, q, r⟩ := rv
    exact ⟨a, us, rfl, .inl (same_rd e1.sub q), p1.ok e1.sub (walked_enum q r)⟩
  · exact p1.elim

/-! ### for -/
def loopD (g : D → Rho → Option Rho) (t : TD) (De : EndsD) : List D → Rho → Prop
  | [], ρ => De.nx ρ
  | d :: ds, ρ => ∃ ρ', g d ρ = some ρ' ∧ t { De with nx := loopD g t De ds, ct := loopD g t De ds, bk := De.nx } ρ'
def sFor (f : Rho → R (List D)) (g : D → Rho → Option Rho) (t : TD) : TD := fun De ρ => go De ρ (f ρ) fun ds => loopD g t De ds ρ
theorem ds_for {vs : List Nat} {tg iter : Expr} {body : List Stmt} {g : D → Rho → Option Rho} (hp : PassesOwn (model X.prog X.w) X.A X.env X.xe) (hc : X.calm = true) (hi : DI X W tg iter fo) (hg : DG X tg g vs) (hb : DSs X W body t)
    (hs : ∀ x, foldedSetIterable iter X.env x = pure x := by intro _; rfl) : DS X W (.For tg iter body [] pos) (sFor fo g t) := by
  refine PS.imp (ps_for hp hc hi hg hb hs) fun D σ H ⟨F0, H0, F, ρ, De, S, c, q⟩ => ?_
  refine ⟨F0, H0, F, ρ, S, post_go S c q fun ds J F1 H1 x ⟨G, Y, w, hG, items⟩ l => ?_⟩
  refine for_it w (fun i σ H' => ∃ F' ρ', Same F1 F' ∧ Sim X.K F0 H0 F' H' σ ρ' ∧ loopD g t De (ds.drop i) ρ') ⟨F1, ρ, Same.refl _, S.mono x, l⟩ (fun i σ H' _ ⟨F', ρ', s1, S', _⟩ => hG H' (s1.trans S'.ext.sub)) ?_ ?_
  · rintro i y σ1 H2 H2' hi ⟨F2, ρ2, s1, S2, l2⟩ hy
    have hd : ds[i]? = some ds[i] := by simp [hi]
    obtain ⟨F3, x3, r3⟩ := items i _ F2 H2 y H2' hd s1 S2.ext.sub hy
    rw [List.drop_eq_getElem_cons hi] at l2
    obtain ⟨ρ3, e3, l3⟩ := l2
    refine ⟨F0, H0, F3, ρ2, ds[i], S2.mono x3, r3, ρ3, e3, fun σ4 F4 H4 x4 S4 _ _ => ?_⟩
    have s3 : Same F1 F4 := (s1.trans x3.fr).trans x4.fr
    have c3 := c.mono (x.fr.trans s3)
    refine ⟨F0, H0, F4, ρ3, { De with nx := loopD g t De (ds.drop (i + 1)), ct := loopD g t De (ds.drop (i + 1)), bk := De.nx }, S4, ⟨fun F5 H5 σ5 ρ5 a b d => ?_, c3.rt, c3.nx, fun F5 H5 σ5 ρ5 a b d => ?_, c3.ex⟩, l3⟩
    · exact ⟨F5, ρ5, s3.trans a, b, d⟩
    · exact ⟨F5, ρ5, s3.trans a, b, d⟩
  · rintro σ1 H2 ⟨F2, ρ2, s1, S2, l2⟩
    rw [List.drop_length] at l2
    exact c.nx F2 H2 σ1 ρ2 (x.fr.trans s1) S2 l2
/-! ### while -/
def whileD (c : Rho → R Bool) (t : TD) (De : EndsD) : Nat → Rho → Prop
  | 0, _ => False
  | n + 1, ρ => go De ρ (c ρ) fun b => if b = true then t { De with nx := whileD c t De n, ct := whileD c t De n, bk := De.nx } ρ else De.nx ρ
def sWhile (c : Rho → R Bool) (t : TD) : TD := fun De ρ => ∃ n, whileD c t De n ρ
theorem ds_while {c : Expr} {tc : Rho → R Bool} {body : List Stmt} (hp : PassesOwn (model X.prog X.w) X.A X.env X.xe) (hc : DT X W c tc) (hb : DSs X W body t) : DS X W (.While c body [] pos) (sWhile tc t) := by
  refine PS.imp (ps_while hp hc hb) fun D σ H ⟨F0, H0, F, ρ, De, S, c, n, q⟩ => ?_
  refine ⟨fun m σ H' => ∃ F' ρ', Same F F' ∧ Sim X.K F0 H0 F' H' σ ρ' ∧ whileD tc t De m ρ', ⟨n, F, ρ, Same.refl _, S, q⟩, ?_⟩
  rintro m σ1 H1 ⟨F1, ρ1, s1, S1, q1⟩
  cases m with
  | zero => exact q1.elim
  | succ m =>
    have c1 := c.mono s1
    refine ⟨F0, H0, F1, ρ1, S1, post_go S1 c1 q1 fun b b' F2 H2 x e k => ?_⟩
    subst e
    cases b with
    | true =>
      have c2 := c1.mono x.fr
      refine ⟨fun σ' H' => ∃ F' ρ', Same F F' ∧ Sim X.K F0 H0 F' H' σ' ρ' ∧ whileD tc t De m ρ', fun σ' H' z => ⟨m, Nat.lt_succ_self _, z⟩, ?_⟩
      refine ⟨F0, H0, F2, ρ1, { De with nx := whileD tc t De m, ct := whileD tc t De m, bk := De.nx }, S1.mono x, ⟨fun F5 H5 σ5 ρ5 a b d => ?_, c2.rt, c2.nx, fun F5 H5 σ5 ρ5 a b d => ?_, c2.ex⟩, k⟩
      · exact ⟨F5, ρ5, (s1.trans x.fr).trans a, b, d⟩
      · exact ⟨F5, ρ5, (s1.trans x.fr).trans a, b, d⟩
    | false => exact c1.nx F2 H2 σ1 ρ1 x.fr (S1.mono x) k
end
end DL
set_option maxRecDepth 100000
set_option maxHeartbeats 4000000
namespace DL
open PySem PySem.Spec PyProof.Rows L2
variable [Tb]
section
variable {K : PySem.W.Frag} {F0 H0 F H F' H' F1 H1 : Hp} {X : Cx} {σ : St} {ρ : Rho} {mg : Str → Option Value} {W : WX} {pos : Pos}
variable {st : Stmt} {sts : List Stmt} {t u : TD} {e : Expr} {f : Rho → R D} {fo : Rho → R (List D)} {ft : Rho → R (List D)}
/-! ### list comprehensions -/
abbrev W0 : WX := fun _ _ _ _ => False
def wipeD (ρ : Rho) : List Nat → Rho
  | [] => ρ
  | v :: vs => (wipeD ρ vs).set v .un
theorem wipeD_len (ρ : Rho) : ∀ vs, (wipeD ρ vs).length = ρ.length
  | [] => rfl
  | v :: vs => by unfold wipeD; rw [List.length_set, wipeD_len ρ vs]
theorem wipe_get {σ : St} : ∀ {vs : List Nat} {i : Nat}, i ∉ vs → (wipe σ vs)[i]? = σ[i]?
  | [], i, _ => rfl
  | v :: vs, i, h => by
    unfold wipe
    rw [List.getElem?_set_ne (fun z => h (by rw [z]; exact List.mem_cons_self))]
    exact wipe_get fun z => h (List.mem_cons_of_mem _ z)
theorem wipeD_get {ρ : Rho} : ∀ {vs : List Nat} {i : Nat}, i ∉ vs → (wipeD ρ vs)[i]? = ρ[i]?
  | [], i, _ => rfl
  | v :: vs, i, h => by
    unfold wipeD
    rw [List.getElem?_set_ne (fun z => h (by rw [z]; exact List.mem_cons_self))]
    exact wipeD_get fun z => h (List.mem_cons_of_mem _ z)
theorem wipeD_in {ρ : Rho} : ∀ {vs : List Nat} {i : Nat}, i ∈ vs → (wipeD ρ vs)[i]? = some .un ∨ (wipeD ρ vs)[i]? = none
  | v :: vs, i, h => by
    unfold wipeD
    by_cases e : v = i
    · subst e
      by_cases hl : v < (wipeD ρ vs).length
      · exact .inl (List.getElem?_set_self hl)
      · exact .inr (List.getElem?_eq_none (by simpa using hl))
    · rw [List.getElem?_set_ne e]
      exact wipeD_in ((List.mem_cons.mp h).resolve_left fun z => e z.symm)
theorem wipe_in {σ : St} : ∀ {vs : List Nat} {i : Nat}, i ∈ vs → (wipe σ vs)[i]? = some none ∨ (wipe σ vs)[i]? = none
  | v :: vs, i, h => by
    unfold wipe
    by_cases e : v = i
    · subst e
      by_cases hl : v < (wipe σ vs).length
      · exact .inl (List.getElem?_set_self hl)
      · exact .inr (List.getElem?_eq_none (by simpa using hl))
    · rw [List.getElem?_set_ne e]
      exact wipe_in ((List.mem_cons.mp h).resolve_left fun z => e z.symm)
theorem Sim.wipe (S : Sim K F0 H0 F H σ ρ) (vs : List Nat) : Sim K F0 H0 F H (L2.wipe σ vs) (wipeD ρ vs) := by
  refine S.drop (by rw [wipe_length, wipeD_len]; exact S.len) fun i => ?_
  by_cases h : i ∈ vs
  · rcases wipeD_in (ρ := ρ) h with z | z
    · exact .inl z
    · exact .inr (.inr z)
  · exact .inr (.inl ⟨wipeD_get h, wipe_get h⟩)
theorem wipe_eq {σ σ' : St} {vs : List Nat} (hl : σ'.length = σ.length) (h : ∀ (i : Nat), i ∉ vs → σ'[i]? = σ[i]?) : L2.wipe σ' vs = L2.wipe σ vs := by
  apply List.ext_getElem?
  intro i
  by_cases hi : i ∈ vs
  · have z : ∀ τ : St, (L2.wipe τ vs)[i]? = if i < τ.length then some none else none := fun τ => by
      by_cases hl : i < τ.length
      · rw [if_pos hl]
        rcases wipe_in (σ := τ) hi with q | q
        · exact q
        · rw [List.getElem?_eq_none_iff, wipe_length] at q
          omega
      · rw [if_neg hl, List.getElem?_eq_none_iff, wipe_length]
        omega
    rw [z, z, hl]
  · rw [wipe_get hi, wipe_get hi, h i hi]
/-- what raises is not served within -/
def noExc {α : Type} : R α → R α
  | .ok a => .ok a
  | _ => .stuck
def compD (g : D → Rho → Option Rho) (c : Rho → R Bool) (f : Rho → R D) (ρ : Rho) : List D → R (List D)
  | [] => .ok []
  | d :: ds => match g d ρ with
    | some ρ' => (noExc (c ρ')).bind fun b => if b = true then (noExc (f ρ')).bind fun y => if kept y = true then (compD g c f ρ ds).map (y :: ·) else .stuck else compD g c f ρ ds
    | none => .stuck
theorem compD_len {g : D → Rho → Option Rho} {c : Rho → R Bool} {f : Rho → R D} {ρ : Rho} : ∀ {ds ys : List D}, compD g c f ρ ds = .ok ys → ys.length ≤ ds.length
  | [], ys, h => by cases h; exact Nat.le_refl _
  | d :: ds, ys, h => by
    unfold compD at h
    split at h
    · rename_i ρ' e
      cases hc : noExc (c ρ') with
      | ok b =>
        rw [hc] at h
        cases b with
        | true =>
          have h : ((noExc (f ρ')).bind fun y => if kept y = true then (compD g c f ρ ds).map (y :: ·) else .stuck) = .ok ys := h
          cases hf : noExc (f ρ') with
          | ok y =>
            rw [hf] at h
            have h : (if kept y = true then (compD g c f ρ ds).map (y :: ·) else .stuck) = .ok ys := h
            by_cases k : kept y = true
            · rw [if_pos k] at h
              cases hr : compD g c f ρ ds with
              | ok zs =>
                rw [hr] at h
                cases h
                have := compD_len hr
                rw [List.length_cons, List.length_cons]; omega
              | exc x => rw [hr] at h; cases h
              | stuck => rw [hr] at h; cases h
            · rw [if_neg k] at h; cases h
          | exc x => rw [hf] at h; cases h
          | stuck => rw [hf] at h; cases h
        | false =>
          have h : compD g c f ρ ds = .ok ys := h
          have := compD_len h
          rw [List.length_cons]; omega
      | exc x => rw [hc] at h; cases h
      | stuck => rw [hc] at h; cases h
    · cases h
def oComp (vs : List Nat) (fi : Rho → R (List D)) (g : D → Rho → Option Rho) (c : Rho → R Bool) (f : Rho → R D) : Rho → R (List D) := fun ρ => (fi ρ).bind fun ds => if ds.length ≤ sizeLine then compD g c f (wipeD ρ vs) ds else .stuck
def eYes : Rho → R Bool := fun _ => .ok true
theorem noExc_ok {α : Type} {r : R α} {a : α} (h : noExc r = .ok a) : r = .ok a := by
  cases r with
  | ok b => exact h
  | exc x => cases h
  | stuck => cases h
theorem map_exc {α β : Type} {r : R α} {h : α → β} {x : Exn} (e : r.map h = .exc x) : r = .exc x := by
  cases r with
  | ok a => cases e
  | exc y => exact congrArg _ (by injection e)
  | stuck => cases e
theorem compD_exc {g : D → Rho → Option Rho} {c : Rho → R Bool} {f : Rho → R D} {ρ : Rho} : ∀ {ds : List D} {x : Exn}, compD g c f ρ ds = .exc x → False
  | [], x, h => by cases h
  | d :: ds, x, h => by
    unfold compD at h
    split at h
    · rename_i ρ' e
      cases hc : noExc (c ρ') with
      | ok b =>
        rw [hc] at h
        cases b with
        | true =>
          have h : ((noExc (f ρ')).bind fun y => if kept y = true then (compD g c f ρ ds).map (y :: ·) else .stuck) = .exc x := h
          cases hf : noExc (f ρ') with
          | ok y =>
            rw [hf] at h
            have h : (if kept y = true then (compD g c f ρ ds).map (y :: ·) else .stuck) = .exc x := h
            by_cases k : kept y = true
            · rw [if_pos k] at h
              exact compD_exc (map_exc h)
            · rw [if_neg k] at h; cases h
          | exc x =>
            cases hq : f ρ' <;> (rw [hq] at hf; cases hf)
          | stuck => rw [hf] at h; cases h
        | false => exact compD_exc (show compD g c f ρ ds = .exc x from h)
      | exc x => cases hq : c ρ' <;> (rw [hq] at hc; cases hc)
      | stuck => rw [hc] at h; cases h
    · cases h
/-- the reading of a comprehension -/
theorem lc_read {fi : Rho → R (List D)} {g : D → Rho → Option Rho} {c : Rho → R Bool} {ws vs : List Nat} (hws : ∀ i ∈ ws, i ∈ vs) (S : Sim K F0 H0 F H σ ρ) {Q : VK}
    (p : Post K mg W (RepO K H) F H σ (oComp vs fi g c f ρ) Q) : tLc (tIC K mg W fi) (tG K g ws) (tT K mg W0 c) (tE K mg W0 f) vs σ H Q := by
  refine ⟨F0, H0, F, ρ, S, Post.bind p fun ds J F1 H1 _ x1 ⟨G, Y, w, hG, items⟩ p1 => ?_⟩
  obtain ⟨hz, p1⟩ := post_if p1
  intro A hA
  have hA0 : H A = none := x1.hp.free hA
  cases ec : compD g c f (wipeD ρ vs) ds with
  | exc x => exact (compD_exc ec).elim
  | stuck => rw [ec] at p1; exact p1.elim
  | ok zs =>
    rw [ec] at p1
    have p1 : ∀ b F' H', Ext F1 H1 F' H' → RepO K H F' H' zs b → Q b H' := p1
    refine lc_it w (fun i H' => ∃ F' acc us ys, Ext F1 H1 F' H' ∧ F' A = none ∧ H' A = some (.lst us) ∧ Reps K F' acc us ∧ acc.length ≤ i ∧ compD g c f (wipeD ρ vs) (ds.drop i) = .ok ys ∧ acc ++ ys = zs)
      ⟨F1, [], [], zs, Ext.laid x1.sub hA, x1.sub.free hA, upd_same, rfl, Nat.le_refl _, ec, rfl⟩ (fun i H' _ ⟨F', _, _, _, x, _⟩ => hG H' x.hp) ?_ ?_
    · rintro i y H2 H2' hi ⟨F2, acc, us, ys, x2, n2, h2, r2, hl2, c2, e2⟩ hy
      have hd : ds[i]? = some ds[i] := by simp [hi]
      obtain ⟨F3, x3, r3⟩ := items i _ F2 H2 y H2' hd x2.fr x2.sub hy
      rw [List.drop_eq_getElem_cons hi] at c2
      unfold compD at c2
      split at c2
      · rename_i ρ3 e3
        have S3 := (S.mono ((x1.trans x2).trans x3)).wipe vs
        refine ⟨F0, H0, F3, _, _, S3, r3, ρ3, e3, fun σ4 F3' H3' x3' S4 hl4 hs4 => ⟨?_, ?_⟩⟩
        · have z := wipe_eq (vs := vs) hl4 fun i hi => hs4 i fun q => hi (hws i q)
          rw [z]
          exact wipe_eq (by rw [wipe_length]) fun i hi => wipe_get hi
        · replace x3 := x3.trans x3'
          refine ⟨F0, H0, F3', ρ3, S4, ?_⟩
          cases hc : noExc (c ρ3) with
          | exc x => rw [hc] at c2; cases c2
          | stuck => rw [hc] at c2; cases c2
          | ok b =>
            rw [hc] at c2
            rw [noExc_ok hc]
            intro b' F4 H4 x4 eb
            subst eb
            cases b with
            | false =>
              have c2 : compD g c f (wipeD ρ vs) (ds.drop (i + 1)) = .ok ys := c2
              rw [if_neg Bool.false_ne_true]
              have x34 := x3.trans x4
              exact ⟨F4, acc, us, ys, x2.trans x34, x34.none h2 n2, x34.hp.g h2, r2.mono x34.fr, by omega, c2, e2⟩
            | true =>
              rw [if_pos rfl]
              have c2 : ((noExc (f ρ3)).bind fun y => if kept y = true then (compD g c f (wipeD ρ vs) (ds.drop (i + 1))).map (y :: ·) else .stuck) = .ok ys := c2
              cases hf : noExc (f ρ3) with
              | exc x => rw [hf] at c2; cases c2
              | stuck => rw [hf] at c2; cases c2
              | ok z =>
                rw [hf] at c2
                have c2 : (if kept z = true then (compD g c f (wipeD ρ vs) (ds.drop (i + 1))).map (z :: ·) else .stuck) = .ok ys := c2
                by_cases kz : kept z = true
                · rw [if_pos kz] at c2
                  cases hr : compD g c f (wipeD ρ vs) (ds.drop (i + 1)) with
                  | exc x => rw [hr] at c2; cases c2
                  | stuck => rw [hr] at c2; cases c2
                  | ok rs =>
                    rw [hr] at c2
                    cases c2
                    refine ⟨F0, H0, F4, ρ3, S4.mono x4, ?_⟩
                    rw [noExc_ok hf]
                    intro v F5 H5 x5 r5
                    have x35 := (x3.trans x4).trans x5
                    have h5 := x35.hp.g h2
                    have n5 := x35.none h2 n2
                    refine ⟨us, h5, by rw [← r2.length]; omega, F5, acc ++ [z], us ++ [v], rs, ?_, n5, upd_same, (r2.mono x35.fr).append (Reps.cons (r5.kept kz) Reps.nil), by rw [List.length_append, List.length_singleton]; omega, rfl, by rw [← e2, List.append_assoc]; rfl⟩
                    have xx := x2.trans x35
                    exact ⟨xx.fr, xx.hp.upd hA (by rw [h5]; intro _ z; cases z) (by rw [h5]; intro _ z; cases z), xx.sub.upd n5 (by rw [h5]; intro _ z; cases z) (by rw [h5]; intro _ z; cases z), xx.new⟩
                · rw [if_neg kz] at c2; cases c2
      · cases c2
    · rintro H2 ⟨F2, acc, us, ys, x2, n2, h2, r2, hl2, c2, e2⟩
      rw [List.drop_length] at c2
      cases c2
      rw [List.append_nil] at e2
      subst e2
      exact p1 _ _ _ x2 ⟨A, us, rfl, hA0, n2, h2, r2⟩
/-- no test; one test -/
theorem dts_nil : PTs X [] (tT X.K X.mg W eYes) := ⟨fun pins s σ H Q I ⟨_, _, F, ρ, S, p⟩ => pts_nil.run pins s σ H Q I (p.ok S.sub rfl)⟩
theorem dts_one {c : Expr} {tc : Rho → R Bool} (h : DT X W c tc) : PTs X [c] (tT X.K X.mg W tc) := pts_one h
section
variable {elt tg iter : Expr} {ifs : List Expr} {scope : Scope} {own : List (Str × Nat)} {fi : Rho → R (List D)} {g : D → Rho → Option Rho} {c : Rho → R Bool} {ws : List Nat}
abbrev Blk (X : Cx) (scope : Scope) (s : Shared) (H : Hp) (C : Addr) (cl : List (Str × Addr)) (fp : List Addr) : Cx := X.blk s H scope (compEnvC scope cl C X.env) fp
theorem do_lc (hc : X.calm = true) (hN : X.N.Nodup) (hi : DIC X W tg iter fi) (ok : BlkOk X.N X.env.scope scope own)
    (hg : ∀ s H C cl fp, DG (Blk X scope s H C cl fp) tg g ws) (ht : ∀ s H C cl fp, PTs (Blk X scope s H C cl fp) ifs (tT X.K X.mg W0 c))
    (he : ∀ s H C cl fp, DE (Blk X scope s H C cl fp) W0 elt f) (hws : ∀ i ∈ ws, i ∈ own.map (·.2) := by decide) (hs : ∀ x, foldedSetIterable iter X.env x = pure x := by intro _; rfl) :
    DO X W (.ListComp elt [⟨tg, iter, ifs, 0⟩] scope pos) (oComp (own.map (·.2)) fi g c f) :=
  PE.imp (pe_lc hc hN hi ok hg ht he hs) fun σ H Q ⟨F0, H0, F, ρ, S, p⟩ => lc_read hws S p
theorem ds_setLc {i : Nat} {y : Str} {py spos : Pos} (hc : X.calm = true) (hN : X.N.Nodup) (hy : X.N[i]? = some y) (hyl : X.env.scope.names.lookup y = some .local)
    (hsw : swapsWith (.ListComp elt [⟨tg, iter, ifs, 0⟩] scope pos) (some (.Name y py)) spos.line X.env = pure true) (hi : DIC X W tg iter fi) (ok : BlkOk X.N X.env.scope scope own)
    (hg : ∀ s H C cl fp, DG (Blk X scope s H C cl fp) tg g ws) (ht : ∀ s H C cl fp, PTs (Blk X scope s H C cl fp) ifs (tT X.K X.mg W0 c))
    (he : ∀ s H C cl fp, DE (Blk X scope s H C cl fp) W0 elt f) (hws : ∀ i ∈ ws, i ∈ own.map (·.2) := by decide) (hs : ∀ x, foldedSetIterable iter X.env x = pure x := by intro _; rfl) :
    DS X W (.Assign [.Name y py] (.ListComp elt [⟨tg, iter, ifs, 0⟩] scope pos) spos) (sSetO i (oComp (own.map (·.2)) fi g c f)) := by
  refine PS.imp (L2.ps_setLc (te := tE X.K X.mg W0 f) (g := tG X.K g ws) (tt := tT X.K X.mg W0 c) hc hN hy hyl hsw hi ok hg ht he hs) fun D σ H ⟨F0, H0, F, ρ, De, S, c, q⟩ => ?_
  refine lc_read hws S (post_go S c q fun d v F1 H1 x r k => ?_)
  obtain ⟨p, rfl, S'⟩ := S.setNew x r (i := i)
  exact c.nx F1 H1 _ _ x.fr S' k
end
/-! ### calls of the text's own defs -/
def spD (K : PySem.W.Frag) (mg : Str → Option Value) (m : List D → R RV) : Sp := fun vs H Q E => ∃ F ds, (Same F H ∧ LamX.Tabs Tb.T F) ∧ Reps K F ds vs ∧ Post K mg (fun c dd _ H' => E c dd H') (RepV K H) F H [] (m ds) Q
/-- the def at f is worth m -/
abbrev FnD (P : Program) (w : World) (K : PySem.W.Frag) (mg : Str → Option Value) (base : Heap) (k : Nat) (f : Addr) (fd : FuncData) (ps : List Str) (m : List D → R RV) : Prop := FnOk P w K mg base (L2.CX P w) k f fd ps (spD K mg m)
def rvD : RV → D
  | .d x => x
  | .own xs => .lst xs
/-- exceptions and results that hold no list -/
def lendR : R RV → R D
  | .ok (.d x) => if flatD x = true then .ok x else .stuck
  | .ok (.own _) => .stuck
  | .exc e => match e.pl with
    | none => .exc e
    | some d => if flatD d = true then .exc e else .stuck
  | .stuck => .stuck
def callR (m : List D → R RV) (ds : List D) : R D := if ds.all kept = true then (m ds).map rvD else lendR (m (ds.map deb))
def eCall (m : List D → R RV) (ft : Rho → R (List D)) : Rho → R D := fun ρ => (ft ρ).bind (callR m)
def ownR : RV → R (List D)
  | .own xs => .ok xs
  | .d _ => .stuck
def callO (m : List D → R RV) (ds : List D) : R (List D) := if ds.all kept = true then (m ds).bind ownR else .stuck
def oCall (m : List D → R RV) (ft : Rho → R (List D)) : Rho → R (List D) := fun ρ => (ft ρ).bind (callO m)
theorem RepsX.deb (s : Same F H) : ∀ {ds : List D} {vs : List V}, RepsX K F H ds vs → Reps K H (ds.map DL.deb) vs
  | [], _, h => h
  | _ :: _, _, h => by
    obtain ⟨v, r, e1, q, t⟩ := h
    exact ⟨v, r, e1, q.deb s, RepsX.deb s t⟩
theorem flat_rep {d : D} {v : V} (f : flatD d = true) (h : Rep K F d v) : Rep K F' d v := by
  cases d <;> first | exact h | exact absurd f Bool.false_ne_true
theorem call_sp {m : List D → R RV} {ds : List D} {vs : List V} {Q : VK} (s : Same F H) (tt : LamX.Tabs Tb.T F) (r : RepsX K F H ds vs) (p : Post K mg W (RepX K) F H σ (callR m ds) Q) : spD K mg m vs H Q (WE W σ) := by
  unfold callR at p
  by_cases k : ds.all kept = true
  · rw [if_pos k] at p
    refine ⟨F, ds, ⟨s, tt⟩, r.kept k, ?_⟩
    cases e : m ds with
    | ok a =>
      rw [e] at p
      intro v F1 H1 x rr
      cases a with
      | d y => exact p v F1 H1 x (Rep.x rr)
      | own xs =>
        obtain ⟨q, us, rfl, n0, n1, h1, r1⟩ := rr
        exact p _ _ _ (Ext.freeze s x n0 h1) (Rep.x (Rep.newL r1 n1))
    | exc x => rw [e] at p; exact p
    | stuck => rw [e] at p; exact p.elim
  · rw [if_neg k] at p
    refine ⟨H, ds.map deb, ⟨Same.refl _, s.tabs tt⟩, r.deb s, ?_⟩
    cases e : m (ds.map deb) with
    | ok a =>
      rw [e] at p
      cases a with
      | d y =>
        obtain ⟨fy, p⟩ := post_if (show Post K mg W (RepX K) F H σ (if flatD y = true then .ok y else .stuck) Q from p)
        intro v F1 H1 x rr
        exact p v F H1 ⟨Same.refl _, x.hp, s.trans x.hp, fun b o q n => by rw [n] at q; cases q⟩ (Rep.x (flat_rep fy rr))
      | own xs => exact p.elim
    | exc x =>
      rw [e] at p
      intro c dd F1 H1 xx rr
      have en : Ext F H F H1 := ⟨Same.refl _, xx.hp, s.trans xx.hp, fun b o q n => by rw [n] at q; cases q⟩
      unfold lendR at p
      cases epl : x.pl with
      | none =>
        simp only [epl] at p
        refine p c dd F H1 en ?_
        obtain ⟨C, g1, g2, g3⟩ := rr
        exact ⟨C, g1, g2, by rw [epl] at g3 ⊢; exact g3⟩
      | some d =>
        simp only [epl] at p
        obtain ⟨fy, p⟩ := post_if p
        refine p c dd F H1 en ?_
        obtain ⟨C, g1, g2, g3⟩ := rr
        refine ⟨C, g1, g2, ?_⟩
        rw [epl] at g3 ⊢
        obtain ⟨q, v, a1, a2, a3⟩ := g3
        exact ⟨q, v, a1, a2, flat_rep fy a3⟩
    | stuck => rw [e] at p; exact p.elim
section
variable {k : Nat} {fa : Addr} {fd : FuncData} {ps : List Str} {m : List D → R RV} {x : Str} {p : Pos} {es : List Expr}
theorem de_call (F : FnD X.prog X.w X.K X.mg X.base k fa fd ps m) (hr : Room k X.A) (tk : Takes X W) (hg : Gl X x) (hm : X.mg x = some (.ref fa)) (hk : PySem.W.keepIn X.K (.ref fa) = true) (hb : Binds X.K fd ps [])
    (ha : DA X W (e :: es) ft) (hdb : (x == ("__debug__" : Str)) = false := by decide) (he : starEach (e :: es) X.env = (false, eval e X.env) :: starEach es X.env := by rfl) (hpl : (backTo pos (starEach es X.env)).any (·.1) = false := by rfl) :
    DE X W (.Call (.Name x p) (e :: es) [] pos) (eCall m ft) := by
  refine PE.imp (pe_callS (E := WE W) F hr hg hm hk hb (fun σ => passAt tk σ) ha hdb he hpl) fun σ H Q ⟨F0, H0, F, ρ, S, q⟩ => ?_
  refine ⟨F0, H0, F, ρ, S, Post.bind q fun ds vs F1 H1 _ e1 r1 p1 => ?_⟩
  exact call_sp e1.sub (e1.fr.tabs S.tabs) r1 p1
theorem do_call (F : FnD X.prog X.w X.K X.mg X.base k fa fd ps m) (hr : Room k X.A) (tk : Takes X W) (hg : Gl X x) (hm : X.mg x = some (.ref fa)) (hk : PySem.W.keepIn X.K (.ref fa) = true) (hb : Binds X.K fd ps [])
    (ha : DA X W (e :: es) ft) (hdb : (x == ("__debug__" : Str)) = false := by decide) (he : starEach (e :: es) X.env = (false, eval e X.env) :: starEach es X.env := by rfl) (hpl : (backTo pos (starEach es X.env)).any (·.1) = false := by rfl) :
    DO X W (.Call (.Name x p) (e :: es) [] pos) (oCall m ft) := by
  refine PE.imp (pe_callS (E := WE W) F hr hg hm hk hb (fun σ => passAt tk σ) ha hdb he hpl) fun σ H Q ⟨F0, H0, F, ρ, S, q⟩ => ?_
  refine ⟨F0, H0, F, ρ, S, Post.bind q fun ds vs F1 H1 _ e1 r1 p1 => ?_⟩
  unfold callO at p1
  obtain ⟨kk, p1⟩ := post_if p1
  refine ⟨F1, ds, ⟨e1.sub, e1.fr.tabs S.tabs⟩, r1.kept kk, ?_⟩
  cases e : m ds with
  | ok a =>
    rw [e] at p1
    cases a with
    | d y => exact p1.elim
    | own xs =>
      intro v F2 H2 xx rr
      obtain ⟨q, us, rfl, n0, n1, h1, r1⟩ := rr
      exact p1 _ F2 H2 xx ⟨q, us, rfl, e1.hp.free n0, n1, h1, r1⟩
  | exc x => rw [e] at p1; exact p1
  | stuck => rw [e] at p1; exact p1.elim
end
/-! ### a def of the text is worth m -/
def endsOf (o : R RV) : EndsD where
  nx := fun _ => o = .ok (.d .non)
  rt := fun rv => o = .ok rv
  bk := fun _ => False
  ct := fun _ => False
  ex := fun e _ => o = .exc e
def startD (n : Nat) (ds : List D) : Rho := ds.map Sl.d ++ List.replicate (n - ds.length) Sl.un
theorem sim_start {ds : List D} {vs : List V} {N : List Str} (s : Same F H ∧ LamX.Tabs Tb.T F) (r : Reps K F ds vs) : Sim K F H F H (L2.start N vs) (startD N.length ds) := by
  refine ⟨s, Ext.refl s.1, ?_, fun i x h => ?_, fun _ => 0, fun i xs h => ?_, fun i j xs ys h _ => ?_⟩
  · unfold L2.start startD
    rw [List.length_append, List.length_append, List.length_map, List.length_map, List.length_replicate, List.length_replicate, r.length]
  · unfold startD at h
    by_cases hi : i < ds.length
    · rw [List.getElem?_append_left (by simpa using hi), List.getElem?_map] at h
      obtain ⟨d, h1, h2⟩ := Option.map_eq_some_iff.mp h
      cases h2
      obtain ⟨v, h3, h4⟩ := r.get h1
      refine ⟨v, ?_, h4⟩
      unfold L2.start
      rw [List.getElem?_append_left (by rw [List.length_map, ← r.length]; exact hi), List.getElem?_map, h3]
      rfl
    · rw [List.getElem?_append_right (by simpa using Nat.le_of_not_lt hi), List.getElem?_replicate] at h
      split at h <;> cases h
  · unfold startD at h
    by_cases hi : i < ds.length
    · rw [List.getElem?_append_left (by simpa using hi), List.getElem?_map] at h
      obtain ⟨d, h1, h2⟩ := Option.map_eq_some_iff.mp h
      cases h2
    · rw [List.getElem?_append_right (by simpa using Nat.le_of_not_lt hi), List.getElem?_replicate] at h
      split at h <;> cases h
  · unfold startD at h
    by_cases hi : i < ds.length
    · rw [List.getElem?_append_left (by simpa using hi), List.getElem?_map] at h
      obtain ⟨d, h1, h2⟩ := Option.map_eq_some_iff.mp h
      cases h2
    · rw [List.getElem?_append_right (by simpa using Nat.le_of_not_lt hi), List.getElem?_replicate] at h
      split at h <;> cases h
abbrev WofE (E : XK) : WX := fun cls d _ H => E cls d H
/-- THE RULE: the body's reading gives what m says, for each list of data at which m says something -/
theorem okDT {P : Program} {w : World} {base : Heap} {x qual : Str} {st : Stmt} {fa : Addr} {fd : FuncData} {N ps : List Str} {k : Nat} {m : List D → R RV} (Fu : Fun K x qual st fa fd) (Sc : FnScope N ps (defScope st))
    (hlen : ∀ ds, m ds ≠ .stuck → ds.length = ps.length)
    (hbody : ∀ (cdv : Value), fd.code = cdv → ∀ (A : Around) (outer : List Env) (s : Shared) (H : Hp) (E : XK), Room k (A.deeper (envOfC qual (defScope st) s.heap.objs.size fa cdv)) →
      Takes (cxOf (L2.CX P w) P w K mg base N qual (defScope st) fa cdv A outer s H E) (WofE E) →
      PassesOwn (model P w) (A.deeper (envOfC qual (defScope st) s.heap.objs.size fa cdv)) (envOfC qual (defScope st) s.heap.objs.size fa cdv) (cxOf (L2.CX P w) P w K mg base N qual (defScope st) fa cdv A outer s H E).xe →
      ∃ t, DSs (cxOf (L2.CX P w) P w K mg base N qual (defScope st) fa cdv A outer s H E) (WofE E) (defBody st) t ∧ ∀ ds, ds.length = ps.length → m ds ≠ .stuck → t (endsOf (m ds)) (startD N.length ds)) :
    FnD P w K mg base (k + 1) fa fd ps m := by
  obtain ⟨oc, od, kV, doc, pm, an, cdv, ct, osl, rfl, lk, hcd⟩ := Fu.ex
  refine fn_of lk hcd Sc (fun vs H Q E ⟨F, ds, s, r, p⟩ => ?_) fun A outer s H vs Q E hr ⟨F, ds, sm, r, p⟩ => ?_
  · rw [← r.length]
    refine hlen ds fun z => ?_
    rw [z] at p; exact p
  · obtain ⟨t, h, q⟩ := hbody cdv rfl A outer s H E hr (takes_of rfl rfl rfl rfl) (passes_of rfl)
    refine ⟨_, h, ?_⟩
    have nz : m ds ≠ .stuck := fun z => by rw [z] at p; exact p
    refine ⟨F, H, F, startD N.length ds, endsOf (m ds), sim_start sm r, ?_, q ds (hlen ds nz) nz⟩
    have out : ∀ {F' H' : Hp} {rv : RV} {v : V}, Ext F H F' H' → RepV K H F' H' rv v → m ds = .ok rv → Q v H' := fun {F' H' rv v} x rr e => by
      rw [e] at p
      exact p v F' H' x rr
    refine ⟨fun F' H' σ ρ _ S e => ?_, fun F' H' rv v _ x rr e => out x rr e, fun _ _ _ _ _ _ e => e.elim, fun _ _ _ _ _ _ e => e.elim, fun F' H' σ ρ e c dd _ S rr z => ?_⟩
    · exact out (rv := .d .non) S.ext rfl e
    · have z : m ds = .exc e := z
      rw [z] at p
      exact p c dd F' H' S.ext rr
theorem okD {P : Program} {w : World} {base : Heap} {x qual : Str} {st : Stmt} {fa : Addr} {fd : FuncData} {N ps : List Str} {k : Nat} {m : List D → R RV} (Fu : Fun K x qual st fa fd) (Sc : FnScope N ps (defScope st))
    (hlen : ∀ ds, m ds ≠ .stuck → ds.length = ps.length)
    (hbody : ∀ (cdv : Value) (A : Around) (outer : List Env) (s : Shared) (H : Hp) (E : XK), Room k (A.deeper (envOfC qual (defScope st) s.heap.objs.size fa cdv)) →
      Takes (cxOf (L2.CX P w) P w K mg base N qual (defScope st) fa cdv A outer s H E) (WofE E) →
      PassesOwn (model P w) (A.deeper (envOfC qual (defScope st) s.heap.objs.size fa cdv)) (envOfC qual (defScope st) s.heap.objs.size fa cdv) (cxOf (L2.CX P w) P w K mg base N qual (defScope st) fa cdv A outer s H E).xe →
      ∃ t, DSs (cxOf (L2.CX P w) P w K mg base N qual (defScope st) fa cdv A outer s H E) (WofE E) (defBody st) t ∧ ∀ ds, ds.length = ps.length → m ds ≠ .stuck → t (endsOf (m ds)) (startD N.length ds)) :
    FnD P w K mg base (k + 1) fa fd ps m := okDT Fu Sc hlen fun cdv _ => hbody cdv
end
end DL
set_option maxRecDepth 100000
set_option maxHeartbeats 4000000
namespace DL
open PySem PySem.Spec PyProof.Rows L2
variable [Tb]
section
variable {prog : Program} {w : World} {A : Around} {E : Value → Shared → Prop} {s : Shared}
/-! ### a star among targets -/
theorem starL {l : Addr} {items : Array Value} {n i : Nat} {Q : List Value → Shared → Prop} (hl : s.heap.IsList l items) (hh : A.handled = none) (hi : i < n) (hn : n ≤ items.size + 1) (hz : items.size ≤ 16384)
    (h : ∀ h₂ tk, (∀ b o, s.heap.get? b = some o → h₂.get? b = some o) → wpAny (model prog w) A (newList ((items.toList.drop i).take (items.size + 1 - n)) >>= fun d => pure (items.toList.take i ++ [d] ++ (items.toList.drop i).drop (items.size + 1 - n))) Q E { s with heap := h₂, toks := tk }) :
    wpAny (model prog w) A (unpackItems (.ref l) n (some i)) Q E s := by
  have hlt : l ≠ s.heap.objs.size := by obtain ⟨o, ho, _⟩ := hl; exact Nat.ne_of_lt (Heap.lt_size ho)
  unfold unpackItems
  refine wpAny_bind ?_
  unfold notIterableAtAll
  refine wpAny_bind (wpAny_specialOf hl.typeIs slot_list_iter.lookup ?_)
  refine wpAny_pure ?_
  simp only [Bool.false_eq_true, if_false]
  refine wpAny_bind (wpAny_holding (wpAny_pyIter_list hl ?_))
  refine wpAny_bind (wpAny_holding (PySem.W.kun_draw hlt i 0 _ _ ⟨_, Heap.get?_push_size _ rfl, rfl, rfl⟩ (hl.push _) (by omega) fun h₁ hit₁ hs₁ => ?_))
  have hl₁ : h₁.IsList l items := (hl.push _).extBut hs₁.extBut hlt
  rw [Nat.zero_add] at hit₁
  obtain ⟨oi, hoi, _⟩ := id hit₁
  obtain ⟨ol, hol, _⟩ := id hl₁
  rw [List.drop_zero]
  have hfl : (items.toList.take i).length = i := by rw [List.length_take, Array.length_toList]; omega
  rw [if_neg (show ¬ ((items.toList.take i).length < i) by rw [hfl]; omega)]
  refine wpAny_bind (wpAny_holding (PySem.W.kun_collect (s := { s with heap := h₁ }) (T := "list_iterator") (.inr (.inr (.inl rfl))) (Walks.list (A := A.in1) hh s.heap.objs.size l hlt items) (fun j u st => st.1.typeIs) (k := i) (by omega) ⟨hit₁, hl₁⟩ (Heap.lt_size hoi) (Heap.lt_size hol) (fun h₂ tk hk => ?_) (by rw [sizeLine_eq]; omega)))
  have hrl : (items.toList.drop i).length = items.size - i := by rw [List.length_drop, Array.length_toList]
  have hmid : (items.toList.drop i).length - (n - 1 - i) = items.size + 1 - n := by rw [hrl]; omega
  show wpAny _ _ (if (items.toList.drop i).length < n - 1 - i then _ else _) _ _ _
  rw [if_neg (by rw [hrl]; omega)]
  show wpAny _ _ (newList ((items.toList.drop i).take ((items.toList.drop i).length - (n - 1 - i))) >>= fun d => pure (items.toList.take i ++ [d] ++ (items.toList.drop i).drop ((items.toList.drop i).length - (n - 1 - i)))) _ _ _
  rw [hmid]
  exact h h₂ tk fun b o e => hk b o (Nat.ne_of_lt (Heap.lt_size e)) (hs₁.extBut b o (Nat.ne_of_lt (Heap.lt_size e)) (Heap.get?_push_of_some _ e))
theorem starT {l : Addr} {items : Array Value} {n i : Nat} {Q : List Value → Shared → Prop} (hl : IsTup s.heap l items) (hh : A.handled = none) (hi : i < n) (hn : n ≤ items.size + 1) (hz : items.size ≤ 16384)
    (h : ∀ h₂ tk, (∀ b o, s.heap.get? b = some o → h₂.get? b = some o) → wpAny (model prog w) A (newList ((items.toList.drop i).take (items.size + 1 - n)) >>= fun d => pure (items.toList.take i ++ [d] ++ (items.toList.drop i).drop (items.size + 1 - n))) Q E { s with heap := h₂, toks := tk }) :
    wpAny (model prog w) A (unpackItems (.ref l) n (some i)) Q E s := by
  have hlt : l ≠ s.heap.objs.size := by obtain ⟨o, ho, _⟩ := hl; exact Nat.ne_of_lt (Heap.lt_size ho)
  unfold unpackItems
  refine wpAny_bind ?_
  unfold notIterableAtAll
  refine wpAny_bind (wpAny_specialOf hl.typeIs slot_tuple_iter.lookup ?_)
  refine wpAny_pure ?_
  simp only [Bool.false_eq_true, if_false]
  refine wpAny_bind (wpAny_holding (iter_tuple hl ?_))
  refine wpAny_bind (wpAny_holding (draw_tuple hlt i 0 _ _ ⟨_, Heap.get?_push_size _ rfl, rfl, rfl⟩ (hl.push _) (by omega) fun h₁ hit₁ hs₁ => ?_))
  have hl₁ : IsTup h₁ l items := (hl.push _).extBut hs₁.extBut hlt
  rw [Nat.zero_add] at hit₁
  obtain ⟨oi, hoi, _⟩ := id hit₁
  obtain ⟨ol, hol, _⟩ := id hl₁
  rw [List.drop_zero]
  have hfl : (items.toList.take i).length = i := by rw [List.length_take, Array.length_toList]; omega
  rw [if_neg (show ¬ ((items.toList.take i).length < i) by rw [hfl]; omega)]
  refine wpAny_bind (wpAny_holding (PySem.W.kun_collect (s := { s with heap := h₁ }) (T := "tuple_iterator") (.inr (.inr (.inr rfl))) (Walks.tuple (A := A.in1) hh s.heap.objs.size l hlt items) (fun j u st => st.1.typeIs) (k := i) (by omega) ⟨hit₁, hl₁⟩ (Heap.lt_size hoi) (Heap.lt_size hol) (fun h₂ tk hk => ?_) (by rw [sizeLine_eq]; omega)))
  have hrl : (items.toList.drop i).length = items.size - i := by rw [List.length_drop, Array.length_toList]
  have hmid : (items.toList.drop i).length - (n - 1 - i) = items.size + 1 - n := by rw [hrl]; omega
  show wpAny _ _ (if (items.toList.drop i).length < n - 1 - i then _ else _) _ _ _
  rw [if_neg (by rw [hrl]; omega)]
  show wpAny _ _ (newList ((items.toList.drop i).take ((items.toList.drop i).length - (n - 1 - i))) >>= fun d => pure (items.toList.take i ++ [d] ++ (items.toList.drop i).drop ((items.toList.drop i).length - (n - 1 - i)))) _ _ _
  rw [hmid]
  exact h h₂ tk fun b o e => hk b o (Nat.ne_of_lt (Heap.lt_size e)) (hs₁.extBut b o (Nat.ne_of_lt (Heap.lt_size e)) (Heap.get?_push_of_some _ e))
end
section
variable {K : PySem.W.Frag} {F0 H0 F H F' H' F1 H1 : Hp} {X : Cx} {σ : St} {ρ : Rho} {mg : Str → Option Value} {W : WX} {pos : Pos}
/-- the items with a new list in the star's place -/
def starV {α : Type} (i n : Nat) (xs : List α) (d : α) : List α := xs.take i ++ [d] ++ (xs.drop i).drop (xs.length + 1 - n)
def starM {α : Type} (i n : Nat) (xs : List α) : List α := (xs.drop i).take (xs.length + 1 - n)
def gStar (K : PySem.W.Frag) (i n : Nat) (t : TGs) : TG := fun v σ H Q => ∃ a xs, v = .ref a ∧ (SqL K H a xs ∨ SqT K H a xs) ∧ n ≤ xs.length + 1 ∧ xs.length ≤ 16384 ∧ ∀ q, H q = none → t (starV i n xs (.ref q)) σ (upd H q (.lst (starM i n xs))) Q
theorem pg_star {es : List Expr} {k : Nat} {t : TGs} {n i : Nat} (hc : X.calm = true) (h : PGs X es t) (hi : i < n := by decide)
    (hn : (assignEach es X.env).length = n := by rfl) (hst : (assignEach es X.env).findIdx? (·.1) = some i := by rfl) : PG X (.Tuple es k pos) (gStar X.K i n t) := by
  refine ⟨fun pins s σ H v u Q I r hw => ?_⟩
  obtain ⟨a, xs, e1, hq, hl, hz, hw⟩ := hw
  subst e1
  cases r
  rw [assign_Tuple]
  refine wpAny_bind (wpAny_standAt ?_)
  unfold unpack
  rw [hn, hst]
  have go : ∀ (its : List Value), Vals xs its → ∀ h₂ tk, (∀ b o, s.heap.get? b = some o → h₂.get? b = some o) →
      wpAny (model X.prog X.w) X.A (newList ((its.toArray.toList.drop i).take (its.toArray.size + 1 - n)) >>= fun d => pure (its.toArray.toList.take i ++ [d] ++ (its.toArray.toList.drop i).drop (its.toArray.size + 1 - n)))
        (fun us s' => wpAny (model X.prog X.w) X.A (assignInOrder ((assignEach es X.env).map (·.2)) us) (fun _ s' => ∃ σ' H', Inv X pins σ' H' s' ∧ Q σ' H') X.xe s') X.xe { s with heap := h₂, toks := tk } := by
    intro its rv h₂ tk hk
    have I1 : Inv X pins σ H { s with heap := h₂, toks := tk } := I.kept hk
    have el := rv.length
    have es : its.toArray.size = xs.length := by rw [List.size_toArray, el]
    rw [List.toList_toArray, es]
    have rm : Vals (starM i n xs) ((its.drop i).take (xs.length + 1 - n)) := (rv.drop i).take _
    refine wpAny_bind ?_
    unfold newList
    refine wpAny_newObj_type ?_ (by
      have hs : sizeLine = 16777216 := sizeLine_eq
      show ((its.drop i).take (xs.length + 1 - n)).length ≤ sizeLine
      rw [List.length_take, List.length_drop]; omega)
    have I2 := I1.lnew (t' := tk) rm (by
      have hs : sizeLine = 16777216 := sizeLine_eq
      unfold starM
      rw [List.length_take, List.length_drop]; omega)
    refine wpAny_pure ?_
    refine h.run pins _ σ _ (starV i n xs (.ref h₂.objs.size)) _ Q I2 ?_ (hw _ I1.fresh)
    exact ((rv.take i).append (.cons (show RelV (.ref h₂.objs.size) (.ref h₂.objs.size) from rfl) .nil)).append ((rv.drop i).drop _)
  rcases hq with hq | hq
  · obtain ⟨its, rv, pl, _⟩ := I.list hq
    have el := rv.length
    exact wpAny_bind (wpAny_holding (starL pl.isList (I.ok.hd hc) hi (by rw [List.size_toArray, ← el]; exact hl) (by rw [List.size_toArray, ← el]; exact hz) (go its rv)))
  · obtain ⟨its, rv, pl, _⟩ := I.tuple hq
    have el := rv.length
    exact wpAny_bind (wpAny_holding (starT pl (I.ok.hd hc) hi (by rw [List.size_toArray, ← el]; exact hl) (by rw [List.size_toArray, ← el]; exact hz) (go its rv)))
theorem dgs_star {e : Expr} {es : List Expr} {sp : Pos} {vs1 vs2 : List Nat} {g : D → Rho → Option Rho} {h : List D → Rho → Option Rho} (h1 : DG X e g vs1) (h2 : DGs X es h vs2)
    (hs : (assignEach (.Starred e sp :: es) X.env).map (·.2) = assign e X.env :: (assignEach es X.env).map (·.2) := by rfl) : DGs X (.Starred e sp :: es) (gC g h) (vs1 ++ vs2) := by
  refine ⟨fun pins s σ H vs us Q I r hw => ?_⟩
  obtain ⟨F0, H0, F, ρ, ds, S, rr, ρ', e, k⟩ := hw
  cases ds with
  | nil => cases e
  | cons d ds =>
    obtain ⟨v, us', rfl, r1, r2⟩ := rr
    obtain ⟨ρ1, e1, e2⟩ := Option.bind_eq_some_iff.mp (show (g d ρ).bind (fun ρ' => h ds ρ') = some ρ' from e)
    cases r with
    | cons r rr =>
      rw [hs]
      refine assignInOrder_cons (thn (h1.run pins s σ H _ _ (fun σ1 H1 => ∃ F1, Ext F H F1 H1 ∧ Sim X.K F0 H0 F1 H1 σ1 ρ1 ∧ σ1.length = σ.length ∧ ∀ (i : Nat), i ∉ vs1 → σ1[i]? = σ[i]?) I r ⟨F0, H0, F, ρ, d, S, r1, ρ1, e1, fun σ1 Fa Ha x1 S1 l1 q1 => ⟨Fa, x1, S1, l1, q1⟩⟩) fun _ s1 ⟨σ1, H1, I1, F1, x1, S1, l1, q1⟩ => ?_)
      refine h2.run pins s1 σ1 H1 _ _ Q I1 rr ⟨F0, H0, F1, ρ1, ds, S1, r2.mono x1.fr, ρ', e2, fun σ2 Fb Hb x2 S2 l2 q2 => k σ2 Fb Hb (x1.trans x2) S2 (l2.trans l1) fun i hi => ?_⟩
      rw [q2 i (fun z => hi (List.mem_append_right _ z)), q1 i (fun z => hi (List.mem_append_left _ z))]
def gS (i n : Nat) (h : List D → Rho → Option Rho) : D → Rho → Option Rho := fun d ρ => match d with
  | .tup ds => if n ≤ ds.length + 1 ∧ ds.length ≤ 16384 then h (starV i n ds (.lst (starM i n ds))) ρ else none
  | .lst ds => if n ≤ ds.length + 1 ∧ ds.length ≤ 16384 then h (starV i n ds (.lst (starM i n ds))) ρ else none
  | _ => none
theorem dg_star {es : List Expr} {k n i : Nat} {vs : List Nat} {h : List D → Rho → Option Rho} (hc : X.calm = true) (hh : DGs X es h vs) (hi : i < n := by decide)
    (hn : (assignEach es X.env).length = n := by rfl) (hst : (assignEach es X.env).findIdx? (·.1) = some i := by rfl) : DG X (.Tuple es k pos) (gS i n h) vs := by
  refine PG.imp (pg_star hc hh hi hn hst) fun v σ H Q ⟨F0, H0, F, ρ, d, S, r, ρ', e, k⟩ => ?_
  have go : ∀ ds us a, v = .ref a → (SqL X.K H a us ∨ SqT X.K H a us) → Reps X.K F ds us → (if n ≤ ds.length + 1 ∧ ds.length ≤ 16384 then h (starV i n ds (.lst (starM i n ds))) ρ else none) = some ρ' → gStar X.K i n (tGs X.K h vs) v σ H Q := by
    intro ds us a ev hq rr e
    by_cases hl : n ≤ ds.length + 1 ∧ ds.length ≤ 16384
    · rw [if_pos hl] at e
      have el := rr.length
      refine ⟨a, us, ev, hq, by omega, by omega, fun q hq => ?_⟩
      have x : Ext F H (upd F q (.lst (starM i n us))) (upd H q (.lst (starM i n us))) := Ext.frozen S.ext.sub hq
      have rm : Reps X.K F (starM i n ds) (starM i n us) := by
        unfold starM
        rw [el]
        exact (rr.drop i).take _
      refine ⟨F0, H0, _, ρ, _, S.mono x, ?_, ρ', e, fun σ' F2 H2 x2 S' l q' => k σ' F2 H2 (x.trans x2) S' l q'⟩
      unfold starV
      rw [el]
      exact (((rr.take i).mono x.fr).append (Reps.cons (Rep.newL rm (S.ext.sub.free hq)) Reps.nil)).append (((rr.drop i).drop _).mono x.fr)
    · rw [if_neg hl] at e; cases e
  cases d with
  | tup ds =>
    obtain ⟨a, us, rfl, q, rr⟩ := r
    exact go ds us a rfl (.inr (q.sq S.ext.sub)) rr e
  | lst ds =>
    obtain ⟨a, us, rfl, q, rr⟩ := r
    exact go ds us a rfl (.inl (.inl (same_rd S.ext.sub q))) rr e
  | _ => cases e
end
end DL
set_option maxRecDepth 100000
set_option maxHeartbeats 4000000
namespace DL
open PySem PySem.Spec PyProof.Rows L2
variable [Tb]
section
variable {K : PySem.W.Frag} {F0 H0 F H F' H' F1 H1 : Hp} {X : Cx} {σ : St} {ρ : Rho} {mg : Str → Option Value} {W : WX} {pos p : Pos} {x : Str}
variable {e a b c : Expr} {es : List Expr} {f fa fb : Rho → R D} {ft : Rho → R (List D)} {T mid : String}
/-! ### built-in functions and classes -/
def CallD (X : Cx) (fv : Value) (g : List D → R D) : Prop := ∃ r, CallR X fv r ∧ ∀ F H ds vs Q, Same F H → RepsX X.K F H ds vs → Post X.K X.mg W0 (RepX X.K) F H [] (g ds) Q → r vs H Q
def CallO (X : Cx) (fv : Value) (g : List D → R (List D)) : Prop := ∃ r, CallR X fv r ∧ ∀ F H ds vs Q, Same F H → RepsX X.K F H ds vs → Post X.K X.mg W0 (RepO X.K H) F H [] (g ds) Q → r vs H Q
def eFn {α : Type} (g : List D → R α) (ft : Rho → R (List D)) : Rho → R α := fun ρ => (ft ρ).bind g
def CalmN {α : Type} (g : List D → R α) : Prop := ∀ ds, (g ds).calm
theorem RepO.up {xs : List D} {v : V} (s : Same H0 H) (r : RepO K H F' H' xs v) : RepO K H0 F' H' xs v := by
  obtain ⟨q, us, rfl, n0, n1, h1, r1⟩ := r
  exact ⟨q, us, rfl, s.free n0, n1, h1, r1⟩
theorem Post.up {r : R (List D)} {Q : VK} (s : Same H0 H) (q : Post K mg W (RepO K H0) F H σ r Q) : Post K mg W (RepO K H) F H σ r Q := Post.rel q fun _ _ _ _ _ rr => rr.up s
theorem de_callB {g : List D → R D} (hc : CallD X (.builtin mid) g) (hq : CalmN g) (hg : Gl X x) (hm : X.mg x = none) (hv : bootBuiltins x = some (.builtin mid)) (ha : DA X W (e :: es) ft) (hn : x ≠ "__name__" := by decide) (hdb : (x == ("__debug__" : Str)) = false := by decide)
    (he : starEach (e :: es) X.env = (false, eval e X.env) :: starEach es X.env := by rfl) (hpl : (backTo pos (starEach es X.env)).any (·.1) = false := by rfl) : DE X W (.Call (.Name x p) (e :: es) [] pos) (eFn g ft) := by
  obtain ⟨r, hr, k⟩ := hc
  refine PE.imp (pe_callB hr hg hm hv ha hn hdb he hpl) fun σ H Q ⟨F0, H0, F, ρ, S, q⟩ => ?_
  exact ⟨F0, H0, F, ρ, S, Post.bind q fun ds vs F1 H1 _ e1 r1 p1 => k F1 H1 ds vs Q e1.sub r1 (p1.calm (hq ds))⟩
theorem de_callTy {g : List D → R D} (hc : CallD X (.type T) g) (hq : CalmN g) (hg : Gl X x) (hm : X.mg x = none) (hv : bootBuiltins x = some (.type T)) (ha : DA X W (e :: es) ft) (hn : x ≠ "__name__" := by decide) (hdb : (x == ("__debug__" : Str)) = false := by decide)
    (he : starEach (e :: es) X.env = (false, eval e X.env) :: starEach es X.env := by rfl) (hpl : (backTo pos (starEach es X.env)).any (·.1) = false := by rfl) : DE X W (.Call (.Name x p) (e :: es) [] pos) (eFn g ft) := by
  obtain ⟨r, hr, k⟩ := hc
  refine PE.imp (pe_callTy hr hg hm hv ha hn hdb he hpl) fun σ H Q ⟨F0, H0, F, ρ, S, q⟩ => ?_
  exact ⟨F0, H0, F, ρ, S, Post.bind q fun ds vs F1 H1 _ e1 r1 p1 => k F1 H1 ds vs Q e1.sub r1 (p1.calm (hq ds))⟩
theorem do_callTy {g : List D → R (List D)} (hc : CallO X (.type T) g) (hq : CalmN g) (hg : Gl X x) (hm : X.mg x = none) (hv : bootBuiltins x = some (.type T)) (ha : DA X W (e :: es) ft) (hn : x ≠ "__name__" := by decide) (hdb : (x == ("__debug__" : Str)) = false := by decide)
    (he : starEach (e :: es) X.env = (false, eval e X.env) :: starEach es X.env := by rfl) (hpl : (backTo pos (starEach es X.env)).any (·.1) = false := by rfl) : DO X W (.Call (.Name x p) (e :: es) [] pos) (eFn g ft) := by
  obtain ⟨r, hr, k⟩ := hc
  refine PE.imp (pe_callTy hr hg hm hv ha hn hdb he hpl) fun σ H Q ⟨F0, H0, F, ρ, S, q⟩ => ?_
  exact ⟨F0, H0, F, ρ, S, Post.bind q fun ds vs F1 H1 _ e1 r1 p1 => k F1 H1 ds vs Q e1.sub r1 ((Post.up e1.hp p1).calm (hq ds))⟩
/-! len -/
def lenD : List D → R D
  | [.str z] => if z.length ≤ sizeLine then .ok (.int z.length) else .stuck
  | [.lst xs] => .ok (.int xs.length)
  | [.bor xs] => .ok (.int xs.length)
  | [.tup xs] => .ok (.int xs.length)
  | _ => .stuck
theorem cd_len : CallD X (.builtin "len") lenD := by
  refine ⟨_, call_len, fun F H ds vs Q s r q => ?_⟩
  unfold lenD at q
  split at q
  · obtain ⟨hz, q⟩ := post_if q
    obtain ⟨v, rfl, rv⟩ := reps_1 r
    cases (show v = _ from rv)
    exact ⟨_, _, rfl, ⟨hz, rfl⟩, q.ok s rfl⟩
  · obtain ⟨v, rfl, rv⟩ := reps_1 r
    obtain ⟨a, us, rfl, h1, h2⟩ := rv.list s rfl
    exact ⟨_, us.length, rfl, .inl ⟨us, .inl h1, rfl⟩, by rw [← h2.length]; exact q.ok s rfl⟩
  · obtain ⟨v, rfl, rv⟩ := reps_1 r
    obtain ⟨a, us, rfl, h1, h2⟩ := rv.list s rfl
    exact ⟨_, us.length, rfl, .inl ⟨us, .inl h1, rfl⟩, by rw [← h2.length]; exact q.ok s rfl⟩
  · obtain ⟨v, rfl, rv⟩ := reps_1 r
    obtain ⟨a, us, rfl, h1, h2⟩ := rv.tup s
    exact ⟨_, us.length, rfl, .inr ⟨us, h1, rfl⟩, by rw [← h2.length]; exact q.ok s rfl⟩
  · exact q.elim
theorem calm_len : CalmN lenD := fun ds => by
  unfold lenD
  split <;> first | exact trivial | exact calm_if
/-! int, str, repr -/
def intD : List D → R D
  | [.int i] => .ok (.int i)
  | [.bl k] => .ok (.int (if k then 1 else 0))
  | _ => .stuck
theorem cd_int : CallD X (.type "int") intD := by
  refine ⟨_, call_int1, fun F H ds vs Q s r q => ?_⟩
  unfold intD at q
  split at q
  · obtain ⟨v, rfl, rv⟩ := reps_1 r
    cases (show v = _ from rv)
    exact .inl ⟨_, rfl, q.ok s rfl⟩
  · obtain ⟨v, rfl, rv⟩ := reps_1 r
    cases (show v = _ from rv)
    exact .inr ⟨_, rfl, q.ok s rfl⟩
  · exact q.elim
theorem calm_int : CalmN intD := fun ds => by unfold intD; split <;> exact trivial
def strD : List D → R D
  | [.int i] => if i.natAbs.log2 < 1920 then .ok (.str (toString i)) else .stuck
  | [.str z] => .ok (.str z)
  | _ => .stuck
theorem cd_str : CallD X (.type "str") strD := by
  refine ⟨_, call_str_int.or SkE.call_str_str, fun F H ds vs Q s r q => ?_⟩
  unfold strD at q
  split at q
  · obtain ⟨hz, q⟩ := post_if q
    obtain ⟨v, rfl, rv⟩ := reps_1 r
    cases (show v = _ from rv)
    exact .inl ⟨_, rfl, hz, q.ok s rfl⟩
  · obtain ⟨v, rfl, rv⟩ := reps_1 r
    cases (show v = _ from rv)
    exact .inr ⟨_, rfl, q.ok s rfl⟩
  · exact q.elim
theorem calm_str : CalmN strD := fun ds => by
  unfold strD
  split <;> first | exact trivial | exact calm_if
/-! abs, max, min of two -/
def maxD : List D → R D
  | [.int i, .int j] => .ok (.int (if j > i then j else i))
  | _ => .stuck
def minD : List D → R D
  | [.int i, .int j] => .ok (.int (if j < i then j else i))
  | _ => .stuck
theorem cd_max (hc : X.calm = true) : CallD X (.builtin "max") maxD := by
  refine ⟨_, call_max2 hc, fun F H ds vs Q s r q => ?_⟩
  unfold maxD at q
  split at q
  · obtain ⟨v, u, rfl, rv, ru⟩ := reps_2 r
    cases (show v = _ from rv)
    cases (show u = _ from ru)
    exact ⟨_, _, rfl, q.ok s rfl⟩
  · exact q.elim
theorem cd_min (hc : X.calm = true) : CallD X (.builtin "min") minD := by
  refine ⟨_, call_min2 hc, fun F H ds vs Q s r q => ?_⟩
  unfold minD at q
  split at q
  · obtain ⟨v, u, rfl, rv, ru⟩ := reps_2 r
    cases (show v = _ from rv)
    cases (show u = _ from ru)
    exact ⟨_, _, rfl, q.ok s rfl⟩
  · exact q.elim
theorem calm_max : CalmN maxD := fun ds => by unfold maxD; split <;> exact trivial
theorem calm_min : CalmN minD := fun ds => by unfold minD; split <;> exact trivial
/-! list(..), tuple(..) -/
theorem str_vals {x : Str} {acc : Array Value} (h : ItemsOf (SignAt x) acc x.cps.size) : Vals (x.cps.toList.map fun c => V.str ⟨#[c]⟩) acc.toList := by
  have hl : (x.cps.toList.map fun c => V.str ⟨#[c]⟩).length = acc.toList.length := by
    rw [List.length_map, Array.length_toList, Array.length_toList, h.1]
  have key : ∀ (n : Nat) (xs : List V) (us : List Value), xs.length = n → us.length = n → (∀ (i : Nat) v u, xs[i]? = some v → us[i]? = some u → RelV v u) → Vals xs us := by
    intro n
    induction n with
    | zero =>
      intro xs us h1 h2 _
      cases List.eq_nil_of_length_eq_zero h1
      cases List.eq_nil_of_length_eq_zero h2
      exact .nil
    | succ n ih =>
      intro xs us h1 h2 h3
      match xs, us, h1, h2 with
      | x :: xs, u :: us, h1, h2 => exact .cons (h3 0 x u rfl rfl) (ih xs us (by simpa using h1) (by simpa using h2) fun i v w e1 e2 => h3 (i + 1) v w (by simpa using e1) (by simpa using e2))
  refine key _ _ _ rfl hl.symm fun i v u e1 e2 => ?_
  rw [Array.getElem?_toList] at e2
  obtain ⟨c, t, e3, e4⟩ := h.2 i u e2
  rw [List.getElem?_map, Array.getElem?_toList, e3] at e1
  cases e1
  subst e4
  exact ⟨t, rfl⟩
theorem signs_reps (z : Str) : Reps K F (signs z) (z.cps.toList.map fun c => V.str ⟨#[c]⟩) := by
  unfold signs
  induction z.cps.toList with
  | nil => rfl
  | cons c r ih => exact Reps.cons rfl ih
theorem call_listS (hc : X.calm = true) : CallR X (.type "list") (fun xs H Q => ∃ z, xs = [.str z] ∧ z.cps.size ≤ sizeLine ∧ ∀ l, H l = none → Q (.ref l) (upd H l (.lst (z.cps.toList.map fun c => V.str ⟨#[c]⟩)))) := by
  intro pins s σ H xs us Q I r h
  obtain ⟨z, rfl, hz, q⟩ := h
  obtain ⟨u, rfl, t, rfl⟩ := vals1 r
  refine call_list_str (I.ok.hd hc) z t (fun h' tk acc c' hk e it => ?_) hz
  refine ⟨.ref s.heap.objs.size, _, I.laid (t' := tk) hk (Nat.le_refl _) (show ObjOk X.prog X.w _ h' _ (.lst (z.cps.toList.map fun c => V.str ⟨#[c]⟩)) from ⟨by rw [List.length_map, Array.length_toList]; exact hz, acc.toList, c', str_vals it, by simpa using e⟩), rfl, q _ (I.hok.fresh (Nat.le_refl _))⟩
theorem call_tupleS (hc : X.calm = true) : CallR X (.type "tuple") (fun xs H Q => ∃ z, xs = [.str z] ∧ z.cps.size ≤ sizeLine ∧ ∀ l, H l = none → Q (.ref l) (upd H l (.tup (z.cps.toList.map fun c => V.str ⟨#[c]⟩)))) := by
  intro pins s σ H xs us Q I r h
  obtain ⟨z, rfl, hz, q⟩ := h
  obtain ⟨u, rfl, t, rfl⟩ := vals1 r
  refine call_tuple_str (I.ok.hd hc) z t (fun h' tk acc hk it => ?_) hz
  have I1 : Inv X pins σ H { s with heap := h', toks := tk } := I.kept hk
  have I2 : Inv X pins σ (upd H h'.objs.size (.tup (z.cps.toList.map fun c => V.str ⟨#[c]⟩))) { s with heap := h'.push { cls := .type "tuple", data := .seq acc }, toks := tk } :=
    I1.laid (t' := tk) (fun b o e => Heap.get?_push_of_some _ e) (Nat.le_refl _) ⟨by rw [List.length_map, Array.length_toList]; exact hz, acc.toList, str_vals it, by
      have z := IsTup.new h' acc
      simpa using z⟩
  exact ⟨.ref h'.objs.size, _, I2, rfl, q _ (I1.hok.fresh (Nat.le_refl _))⟩
def listO : List D → R (List D)
  | [.lst xs] => .ok xs
  | [.bor xs] => .ok xs
  | [.tup xs] => .ok xs
  | [.str z] => if z.cps.size ≤ sizeLine then .ok (signs z) else .stuck
  | _ => .stuck
theorem RepO.new {xs : List D} {vs : List V} {l : Addr} (s : Same F H) (hl : H l = none) (r : Reps K F xs vs) : RepO K H F (upd H l (.lst vs)) xs (.ref l) := ⟨l, vs, rfl, hl, s.free hl, upd_same, r⟩
theorem co_list (hc : X.calm = true) : CallO X (.type "list") listO := by
  refine ⟨_, call_list_of.or (call_listS hc), fun F H ds vs Q s r q => ?_⟩
  unfold listO at q
  split at q
  · obtain ⟨v, rfl, rv⟩ := reps_1 r
    obtain ⟨a, us, rfl, h1, h2⟩ := rv.list s rfl
    exact .inl ⟨a, us, rfl, .inl (.inl h1), fun l hl => q _ _ _ (Ext.laid s hl) (RepO.new s hl h2)⟩
  · obtain ⟨v, rfl, rv⟩ := reps_1 r
    obtain ⟨a, us, rfl, h1, h2⟩ := rv.list s rfl
    exact .inl ⟨a, us, rfl, .inl (.inl h1), fun l hl => q _ _ _ (Ext.laid s hl) (RepO.new s hl h2)⟩
  · obtain ⟨v, rfl, rv⟩ := reps_1 r
    obtain ⟨a, us, rfl, h1, h2⟩ := rv.tup s
    exact .inl ⟨a, us, rfl, .inr h1, fun l hl => q _ _ _ (Ext.laid s hl) (RepO.new s hl h2)⟩
  · obtain ⟨hz, q⟩ := post_if q
    obtain ⟨v, rfl, rv⟩ := reps_1 r
    cases (show v = _ from rv)
    exact .inr ⟨_, rfl, hz, fun l hl => q _ _ _ (Ext.laid s hl) (RepO.new s hl (signs_reps _))⟩
  · exact q.elim
theorem calm_listO : CalmN listO := fun ds => by
  unfold listO
  split <;> first | exact trivial | exact calm_if
def tupleD : List D → R D
  | [.lst xs] => .ok (.tup xs)
  | [.bor xs] => .ok (.tup xs)
  | [.tup xs] => .ok (.tup xs)
  | [.str z] => if z.cps.size ≤ sizeLine then .ok (.tup (signs z)) else .stuck
  | _ => .stuck
theorem cd_tuple (hc : X.calm = true) : CallD X (.type "tuple") tupleD := by
  refine ⟨_, call_tuple_of.or (call_tupleS hc), fun F H ds vs Q s r q => ?_⟩
  unfold tupleD at q
  split at q
  · obtain ⟨v, rfl, rv⟩ := reps_1 r
    obtain ⟨a, us, rfl, h1, h2⟩ := rv.list s rfl
    exact .inl ⟨a, us, rfl, .inl ⟨.inl h1, fun l hl => q _ _ _ (Ext.frozen s hl) (Rep.x (Rep.newT h2 (s.free hl)))⟩⟩
  · obtain ⟨v, rfl, rv⟩ := reps_1 r
    obtain ⟨a, us, rfl, h1, h2⟩ := rv.list s rfl
    exact .inl ⟨a, us, rfl, .inl ⟨.inl h1, fun l hl => q _ _ _ (Ext.frozen s hl) (Rep.x (Rep.newT h2 (s.free hl)))⟩⟩
  · obtain ⟨v, rfl, rv⟩ := reps_1 r
    obtain ⟨a, us, rfl, h1, h2⟩ := id rv
    exact .inl ⟨a, us, rfl, .inr ⟨h1.sq s, q.ok s rv⟩⟩
  · obtain ⟨hz, q⟩ := post_if q
    obtain ⟨v, rfl, rv⟩ := reps_1 r
    cases (show v = _ from rv)
    exact .inr ⟨_, rfl, hz, fun l hl => q _ _ _ (Ext.frozen s hl) (Rep.x (Rep.newT (signs_reps _) (s.free hl)))⟩
  · exact q.elim
theorem calm_tupleD : CalmN tupleD := fun ds => by
  unfold tupleD
  split <;> first | exact trivial | exact calm_if
/-! sum, all, any of lists -/
def intsOf : List D → Option (List Int)
  | [] => some []
  | .int i :: r => (intsOf r).map (i :: ·)
  | _ => none
def blsOf : List D → Option (List Bool)
  | [] => some []
  | .bl i :: r => (blsOf r).map (i :: ·)
  | _ => none
def strsOf : List D → Option (List Str)
  | [] => some []
  | .str i :: r => (strsOf r).map (i :: ·)
  | _ => none
theorem intsOf_reps : ∀ {xs : List D} {ns : List Int} {vs : List V}, intsOf xs = some ns → Reps K F xs vs → vs = ns.map V.int
  | [], ns, vs, e, r => by cases e; exact r
  | .int i :: xs, ns, vs, e, r => by
    obtain ⟨ms, e1, rfl⟩ := Option.map_eq_some_iff.mp (show (intsOf xs).map (i :: ·) = some ns from e)
    obtain ⟨v, us, rfl, h1, h2⟩ := r
    cases (show v = V.int i from h1)
    rw [intsOf_reps e1 h2]; rfl
theorem blsOf_reps : ∀ {xs : List D} {ns : List Bool} {vs : List V}, blsOf xs = some ns → Reps K F xs vs → vs = ns.map V.bl
  | [], ns, vs, e, r => by cases e; exact r
  | .bl i :: xs, ns, vs, e, r => by
    obtain ⟨ms, e1, rfl⟩ := Option.map_eq_some_iff.mp (show (blsOf xs).map (i :: ·) = some ns from e)
    obtain ⟨v, us, rfl, h1, h2⟩ := r
    cases (show v = V.bl i from h1)
    rw [blsOf_reps e1 h2]; rfl
theorem strsOf_reps : ∀ {xs : List D} {ns : List Str} {vs : List V}, strsOf xs = some ns → Reps K F xs vs → vs = ns.map V.str
  | [], ns, vs, e, r => by cases e; exact r
  | .str i :: xs, ns, vs, e, r => by
    obtain ⟨ms, e1, rfl⟩ := Option.map_eq_some_iff.mp (show (strsOf xs).map (i :: ·) = some ns from e)
    obtain ⟨v, us, rfl, h1, h2⟩ := r
    cases (show v = V.str i from h1)
    rw [strsOf_reps e1 h2]; rfl
def sumD : List D → R D
  | [.lst xs] => (optR (intsOf xs)).map fun ns => .int ns.sum
  | _ => .stuck
def allD : List D → R D
  | [.lst xs] => (optR (blsOf xs)).map fun ns => .bl (ns.all id)
  | _ => .stuck
def anyD : List D → R D
  | [.lst xs] => (optR (blsOf xs)).map fun ns => .bl (ns.any id)
  | _ => .stuck
theorem cd_sum (hc : X.calm = true) : CallD X (.builtin "sum") sumD := by
  refine ⟨_, cr_sum hc, fun F H ds vs Q s r q => ?_⟩
  unfold sumD at q
  split at q
  · obtain ⟨v, rfl, rv⟩ := reps_1 r
    obtain ⟨a, us, rfl, h1, h2⟩ := rv.list s rfl
    rename_i xs
    cases e : intsOf xs with
    | none => rw [e] at q; exact q.elim
    | some ns =>
      rw [e] at q
      cases intsOf_reps e h2
      exact ⟨a, ns, rfl, .inl h1, Post.ok q s rfl⟩
  · exact q.elim
theorem cd_all (hc : X.calm = true) : CallD X (.builtin "all") allD := by
  refine ⟨_, cr_all hc, fun F H ds vs Q s r q => ?_⟩
  unfold allD at q
  split at q
  · obtain ⟨v, rfl, rv⟩ := reps_1 r
    obtain ⟨a, us, rfl, h1, h2⟩ := rv.list s rfl
    rename_i xs
    cases e : blsOf xs with
    | none => rw [e] at q; exact q.elim
    | some ns =>
      rw [e] at q
      cases blsOf_reps e h2
      exact ⟨a, ns, rfl, .inl h1, Post.ok q s rfl⟩
  · exact q.elim
theorem cd_any (hc : X.calm = true) : CallD X (.builtin "any") anyD := by
  refine ⟨_, cr_any hc, fun F H ds vs Q s r q => ?_⟩
  unfold anyD at q
  split at q
  · obtain ⟨v, rfl, rv⟩ := reps_1 r
    obtain ⟨a, us, rfl, h1, h2⟩ := rv.list s rfl
    rename_i xs
    cases e : blsOf xs with
    | none => rw [e] at q; exact q.elim
    | some ns =>
      rw [e] at q
      cases blsOf_reps e h2
      exact ⟨a, ns, rfl, .inl h1, Post.ok q s rfl⟩
  · exact q.elim
theorem calm_sum : CalmN sumD := fun ds => by
  unfold sumD
  split <;> first | exact calm_map _ _ (calm_opt _) | exact trivial
theorem calm_all : CalmN allD := fun ds => by
  unfold allD
  split <;> first | exact calm_map _ _ (calm_opt _) | exact trivial
theorem calm_any : CalmN anyD := fun ds => by
  unfold anyD
  split <;> first | exact calm_map _ _ (calm_opt _) | exact trivial
/-! isinstance -/
theorem de_bty {n : BT} (hg : Gl X x) (hm : X.mg x = none) (hv : bootBuiltins x = some (.type n.name)) (hn : x ≠ "__name__" := by decide) (hd : (x == ("__debug__" : Str)) = false := by decide) : DE X W (.Name x pos) (eC (.ty n)) :=
  PE.imp (pe_bltn (v := .ty n.name) hg hm hv rfl hn hd) fun σ H Q ⟨_, _, F, ρ, S, q⟩ => q.ok S.sub rfl
/-- a datum's class, told apart as far as isinstance needs it here -/
def tyB : D → Option String
  | .non => some "NoneType" | .bl _ => some "bool" | .int _ => some "int" | .str _ => some "str" | .tup _ => some "tuple" | .lst _ => some "list" | .bor _ => some "list"
  | _ => none
def isB : D → BT → Bool
  | .lst _, .list => true | .bor _, .list => true | .tup _, .tuple => true | .bl _, .bool => true | .bl _, .int => true | .int _, .int => true | .str _, .str => true
  | _, _ => false
def isL (d : D) : List D → Option Bool
  | [] => some false
  | .ty n :: r => (isL d r).map (isB d n || ·)
  | _ => none
def isiD : List D → R D
  | [d, .ty n] => if (tyB d).isSome = true then .ok (.bl (isB d n)) else .stuck
  | [d, .tup ts] => if (tyB d).isSome = true then (optR (isL d ts)).map .bl else .stuck
  | _ => .stuck
theorem kit_isB {d : D} {n : BT} {t : String} (e : tyB d = some t) : kitB t n.name = some (isB d n) := by
  have k0 : ∀ n : BT, kitB "NoneType" n.name = some false := by intro n; cases n <;> decide +kernel
  have k1 : ∀ n : BT, kitB "bool" n.name = some (match n with | .bool => true | .int => true | _ => false) := by intro n; cases n <;> decide +kernel
  have k2 : ∀ n : BT, kitB "int" n.name = some (match n with | .int => true | _ => false) := by intro n; cases n <;> decide +kernel
  have k3 : ∀ n : BT, kitB "str" n.name = some (match n with | .str => true | _ => false) := by intro n; cases n <;> decide +kernel
  have k4 : ∀ n : BT, kitB "tuple" n.name = some (match n with | .tuple => true | _ => false) := by intro n; cases n <;> decide +kernel
  have k5 : ∀ n : BT, kitB "list" n.name = some (match n with | .list => true | _ => false) := by intro n; cases n <;> decide +kernel
  cases d with
  | non => cases e; rw [k0]; rfl
  | bl b => cases e; rw [k1]; cases n <;> rfl
  | int b => cases e; rw [k2]; cases n <;> rfl
  | str b => cases e; rw [k3]; cases n <;> rfl
  | tup b => cases e; rw [k4]; cases n <;> rfl
  | lst b => cases e; rw [k5]; cases n <;> rfl
  | bor b => cases e; rw [k5]; cases n <;> rfl
  | _ => cases e
theorem RepX.tyX {d : D} {v : V} {t : String} (s : Same F H) (r : RepX K F H d v) (e : tyB d = some t) : TyX K H v (.type t) := by
  have rd : ∀ {a : Addr} {u : List V}, Rd H a (.lst u) → TyX K H (.ref a) (.type "list") := fun h => by
    rcases h with h | ⟨o, h⟩
    · exact .base (.lst h)
    · exact .base (.frz h)
  cases d with
  | non => cases e; cases (show v = _ from r); exact .base .non
  | bl b => cases e; cases (show v = _ from r); exact .base (.bl b)
  | int b => cases e; cases (show v = _ from r); exact .base (.int b)
  | str b => cases e; cases (show v = _ from r); exact .base (.str b)
  | tup b =>
    cases e
    obtain ⟨a, vs, rfl, q, _⟩ := id r
    rcases q.mono s with q | ⟨o, its, n, q, c, _⟩
    · exact .base (.tup q)
    · exact .kTuple q c
  | lst b =>
    cases e
    obtain ⟨a, vs, rfl, q, _⟩ := r.list s rfl
    exact rd q
  | bor b =>
    cases e
    obtain ⟨a, vs, rfl, q, _⟩ := r.list s rfl
    exact rd q
  | _ => cases e
theorem isL_kit {d : D} {t : String} (e : tyB d = some t) : ∀ {ts : List D} {vs : List V} {k : Bool}, isL d ts = some k → Reps K F ts vs → ∃ us, Paired ClsV vs us ∧ PySem.W.kitAny K (.type t) us = some k
  | [], vs, k, h, r => by
    cases h
    cases (show vs = [] from r)
    exact ⟨[], .nil, rfl⟩
  | .ty n :: ts, vs, k, h, r => by
    obtain ⟨k', e1, rfl⟩ := Option.map_eq_some_iff.mp (show (isL d ts).map (isB d n || ·) = some k from h)
    obtain ⟨v, us, rfl, h1, h2⟩ := r
    cases (show v = V.ty n.name from h1)
    obtain ⟨ws, q1, q2⟩ := isL_kit e e1 h2
    refine ⟨.type n.name :: ws, .cons (.ty _) q1, ?_⟩
    refine kitAny_cons (kit_ty (kit_isB e)) (fun z => ?_) (fun z => ?_)
    · rw [z, q2]; rfl
    · rw [z]; rfl
theorem cd_isi : CallD X (.builtin "isinstance") isiD := by
  refine ⟨_, call_isi.or (call_isiT.or call_isiK), fun F H ds vs Q s r q => ?_⟩
  unfold isiD at q
  split at q
  · rename_i d n
    obtain ⟨hz, q⟩ := post_if q
    obtain ⟨v, u, rfl, rv, ru⟩ := reps_2 r
    cases (show u = V.ty n.name from ru)
    obtain ⟨t, et⟩ := Option.isSome_iff_exists.mp hz
    exact .inl ⟨v, _, _, _, _, rfl, .ty _, rv.tyX s et, kit_ty (kit_isB et), q.ok s rfl⟩
  · rename_i d ts
    obtain ⟨hz, q⟩ := post_if q
    obtain ⟨v, u, rfl, rv, ru⟩ := reps_2 r
    obtain ⟨t, et⟩ := Option.isSome_iff_exists.mp hz
    cases e : isL d ts with
    | none => rw [e] at q; exact q.elim
    | some k =>
      rw [e] at q
      obtain ⟨a, us, rfl, h1, h2⟩ := id ru
      obtain ⟨ws, q1, q2⟩ := isL_kit et e h2
      rcases h1.mono s with h1 | ⟨o, its, n, g1, g2, g3, g4, g5⟩
      · exact .inr (.inl ⟨v, a, us, _, ws, k, rfl, h1, q1, rv.tyX s et, q2, Post.ok q s rfl⟩)
      · have ew := ClsV.all q1 g5
        obtain ⟨oc, od, dt, sl⟩ := o
        simp only at g2 g3
        subst g2 g3
        exact .inr (.inr ⟨v, a, od, ws, n, sl, _, k, rfl, by rw [g1, ← ew, Array.toArray_toList], rv.tyX s et, q2, Post.ok q s rfl⟩)
  · exact q.elim
theorem calm_isi : CalmN isiD := fun ds => by
  unfold isiD
  split <;> first | exact trivial | exact calm_if | (split <;> first | exact calm_map _ _ (calm_opt _) | exact trivial)
/-! ### methods of texts -/
def eM1 {α : Type} (g : Str → D → R α) (fo fe : Rho → R D) : Rho → R α := fun ρ => (fo ρ).bind fun x => match x with
  | .str z => (fe ρ).bind (g z)
  | _ => .stuck
def Mt1D (X : Cx) (mid : String) (g : Str → D → R D) : Prop := ∃ r, MtR X mid r ∧ ∀ F H z y v Q, Same F H → RepX X.K F H y v → Post X.K X.mg W0 (RepX X.K) F H [] (g z y) Q → r (.str z) [v] H Q
def Mt1O (X : Cx) (mid : String) (g : Str → D → R (List D)) : Prop := ∃ r, MtR X mid r ∧ ∀ F H z y v Q, Same F H → RepX X.K F H y v → Post X.K X.mg W0 (RepO X.K H) F H [] (g z y) Q → r (.str z) [v] H Q
def CalmM {α : Type} (g : Str → D → R α) : Prop := ∀ z y, (g z y).calm
section
variable {name : Str} {apos : Pos} {o : Expr} {fo fe : Rho → R D}
theorem de_m1 {g : Str → D → R D} (slot : Slot "str" name mid) (ty : typeOf (.builtin mid) = pure (.type "method_descriptor")) (hr : Mt1D X mid g) (hq : CalmM g) (ho : DE X W o fo) (he : DE X W e fe)
    (hs : starEach [e] X.env = [(false, eval e X.env)] := by rfl) (hbase : attributeBase o name X.env (eval o X.env) = eval o X.env := by rfl) (hline : (apos.endLine == pos.line) = true := by rfl) :
    DE X W (.Call (.Attribute o name apos) [e] [] pos) (eM1 g fo fe) := by
  obtain ⟨r, rule, k⟩ := hr
  refine PE.imp (pe_m1 slot ty rule ho he hs hbase hline) fun σ H Q ⟨F0, H0, F, ρ, S, q⟩ => ?_
  refine ⟨F0, H0, F, ρ, S, Post.bind q fun x v F1 H1 _ e1 r1 p1 => ?_⟩
  cases x with
  | str z =>
    cases (show v = _ from r1)
    exact ⟨⟨z, rfl⟩, F0, H0, F1, ρ, S.mono e1, Post.bind p1 fun y u F2 H2 _ e2 r2 p2 => k F2 H2 z y u Q e2.sub r2 (p2.calm (hq z y))⟩
  | _ => exact p1.elim
theorem do_m1 {g : Str → D → R (List D)} (slot : Slot "str" name mid) (ty : typeOf (.builtin mid) = pure (.type "method_descriptor")) (hr : Mt1O X mid g) (hq : CalmM g) (ho : DE X W o fo) (he : DE X W e fe)
    (hs : starEach [e] X.env = [(false, eval e X.env)] := by rfl) (hbase : attributeBase o name X.env (eval o X.env) = eval o X.env := by rfl) (hline : (apos.endLine == pos.line) = true := by rfl) :
    DO X W (.Call (.Attribute o name apos) [e] [] pos) (eM1 g fo fe) := by
  obtain ⟨r, rule, k⟩ := hr
  refine PE.imp (pe_m1 slot ty rule ho he hs hbase hline) fun σ H Q ⟨F0, H0, F, ρ, S, q⟩ => ?_
  refine ⟨F0, H0, F, ρ, S, Post.bind q fun x v F1 H1 _ e1 r1 p1 => ?_⟩
  cases x with
  | str z =>
    cases (show v = _ from r1)
    exact ⟨⟨z, rfl⟩, F0, H0, F1, ρ, S.mono e1, Post.bind p1 fun y u F2 H2 _ e2 r2 p2 => k F2 H2 z y u Q e2.sub r2 ((Post.up (e1.hp.trans e2.hp) p2).calm (hq z y))⟩
  | _ => exact p1.elim
end
def joinD (z : Str) : D → R D
  | .lst xs => match strsOf xs with
    | some ys => if (ys.map (·.length)).sum + ys.length * z.length ≤ 16777216 then .ok (.str (Txt.join z ys)) else .stuck
    | none => .stuck
  | _ => .stuck
theorem mt_joinD : Mt1D X "str.join" joinD := by
  refine ⟨_, mt_join, fun F H z y v Q s r q => ?_⟩
  unfold joinD at q
  split at q
  · split at q
    · rename_i ys e
      obtain ⟨hz, q⟩ := post_if q
      obtain ⟨a, us, rfl, h1, h2⟩ := r.list s rfl
      cases strsOf_reps e h2
      exact ⟨z, a, ys, rfl, rfl, .inl (.inl h1), hz, q.ok s rfl⟩
    · exact q.elim
  · exact q.elim
theorem calm_join : CalmM joinD := fun z y => by
  unfold joinD
  split
  · split <;> first | exact calm_if | exact trivial
  · exact trivial
def splitO (z : Str) : D → R (List D)
  | .str b => if (b.length == 0) = false ∧ z.length + 2 ≤ sizeLine then .ok ((Txt.split z b).map .str) else .stuck
  | _ => .stuck
theorem reps_strs : ∀ (ys : List Str), Reps K F (ys.map D.str) (ys.map V.str)
  | [] => rfl
  | y :: ys => Reps.cons rfl (reps_strs ys)
theorem mt_splitO : Mt1O X "str.split" splitO := by
  refine ⟨_, mt_split, fun F H z y v Q s r q => ?_⟩
  unfold splitO at q
  split at q
  · obtain ⟨hz, q⟩ := post_if q
    cases (show v = _ from r)
    exact ⟨z, _, rfl, rfl, hz.1, hz.2, fun l hl => q _ _ _ (Ext.laid s hl) (RepO.new s hl (reps_strs _))⟩
  · exact q.elim
theorem calm_split : CalmM splitO := fun z y => by
  unfold splitO
  split <;> first | exact calm_if | exact trivial
def lstripD (z : Str) : D → R D
  | .str b => if z.length ≤ sizeLine then .ok (.str (Txt.lstripChars z b)) else .stuck
  | _ => .stuck
theorem mt_lstripD : Mt1D X "str.lstrip" lstripD := by
  refine ⟨_, mt_lstripChars, fun F H z y v Q s r q => ?_⟩
  unfold lstripD at q
  split at q
  · obtain ⟨hz, q⟩ := post_if q
    cases (show v = _ from r)
    exact ⟨z, _, rfl, rfl, hz, q.ok s rfl⟩
  · exact q.elim
theorem calm_lstrip : CalmM lstripD := fun z y => by
  unfold lstripD
  split <;> first | exact calm_if | exact trivial
def partD (z : Str) : D → R D
  | .str b => if (b.length == 0) = false ∧ z.length ≤ sizeLine then .ok (.tup [.str (Txt.partition z b).1, .str (Txt.partition z b).2.1, .str (Txt.partition z b).2.2]) else .stuck
  | _ => .stuck
theorem mt_partD : Mt1D X "str.partition" partD := by
  refine ⟨_, mt_partition, fun F H z y v Q s r q => ?_⟩
  unfold partD at q
  split at q
  · obtain ⟨hz, q⟩ := post_if q
    cases (show v = _ from r)
    exact ⟨z, _, rfl, rfl, hz.1, hz.2, fun l hl => q _ _ _ (Ext.frozen s hl) (Rep.x (Rep.newT (Reps.cons rfl (Reps.cons rfl (Reps.cons rfl Reps.nil))) (s.free hl)))⟩
  · exact q.elim
theorem calm_part : CalmM partD := fun z y => by
  unfold partD
  split <;> first | exact calm_if | exact trivial
end
end DL
set_option maxRecDepth 100000
set_option maxHeartbeats 4000000
namespace DL
open PySem PySem.Spec PyProof.Rows L2
variable [Tb]
section
variable {K : PySem.W.Frag} {F0 H0 F H F' H' F1 H1 : Hp} {X : Cx} {σ : St} {ρ : Rho} {mg : Str → Option Value} {W : WX} {pos p : Pos} {x : Str}
variable {e a b c : Expr} {es : List Expr} {f fa fb : Rho → R D} {ft : Rho → R (List D)}
/-! ### slices -/
def tP (K : PySem.W.Frag) (mg : Str → Option Value) (W : WX) (f : Rho → R (Option Int)) : TO := fun σ H Q => ∃ F0 H0 F ρ, Sim K F0 H0 F H σ ρ ∧ Post K mg W (fun _ _ a b => a = b) F H σ (f ρ) Q
abbrev DP (X : Cx) (W : WX) (e : Option Expr) (f : Rho → R (Option Int)) : Prop := PO X e (tP X.K X.mg W f)
def asI : D → R (Option Int)
  | .int i => .ok (some i)
  | _ => .stuck
def pNo : Rho → R (Option Int) := fun _ => .ok none
def pYes (f : Rho → R D) : Rho → R (Option Int) := fun ρ => (f ρ).bind asI
theorem PO.imp {e : Option Expr} {t t' : TO} (h : PO X e t) (i : ∀ σ H Q, t' σ H Q → t σ H Q) : PO X e t' := ⟨fun pins s σ H Q I q => h.run pins s σ H Q I (i σ H Q q)⟩
theorem dp_none : DP X W none pNo := PO.imp po_none fun σ H Q ⟨_, _, F, ρ, S, q⟩ => q.ok S.sub rfl
theorem dp_some (h : DE X W e f) : DP X W (some e) (pYes f) := PO.imp (po_some h) fun σ H Q ⟨F0, H0, F, ρ, S, q⟩ => by
  refine ⟨F0, H0, F, ρ, S, Post.bind q fun d v F1 H1 _ e1 r1 p1 => ?_⟩
  cases d with
  | int i => exact ⟨i, r1, p1.ok e1.sub rfl⟩
  | _ => exact p1.elim
def cutG {α : Type} (xs : List α) (lo hi : Option Int) : List α := (xs.drop (HT.sIx xs.length 0 lo)).take (HT.sIx xs.length xs.length hi - HT.sIx xs.length 0 lo)
theorem Reps.cut {ds : List D} {vs : List V} (h : Reps K F ds vs) (lo hi : Option Int) : Reps K F (cutG ds lo hi) (cutV vs lo hi) := by
  unfold cutG cutV
  rw [h.length]
  exact (h.drop _).take _
def cutD (d : D) (lo hi : Option Int) : R D := match d with
  | .str z => if z.length ≤ sizeLine then .ok (.str (cutS z lo hi)) else .stuck
  | .tup xs => .ok (.tup (cutG xs lo hi))
  | .lst xs => .ok (.lst (cutG xs lo hi))
  | .bor xs => .ok (.lst (cutG xs lo hi))
  | .scr xs => .ok (.lst (cutG xs lo hi))
  | _ => .stuck
def cutO (d : D) (lo hi : Option Int) : R (List D) := match d with
  | .lst xs => .ok (cutG xs lo hi)
  | .bor xs => .ok (cutG xs lo hi)
  | _ => .stuck
/-- a list's slice, of a frozen one too -/
def eSl {α : Type} (g : D → Option Int → Option Int → R α) (f : Rho → R D) (l u : Rho → R (Option Int)) : Rho → R α := fun ρ => (f ρ).bind fun x => (l ρ).bind fun lo => (u ρ).bind fun hi => g x lo hi
theorem cut_whole {α : Type} {xs : List α} {lo hi : Option Int} (h : HT.sIx xs.length 0 lo = 0 ∧ HT.sIx xs.length xs.length hi = xs.length) : cutG xs lo hi = xs := by
  unfold cutG
  rw [h.1, h.2, List.drop_zero, Nat.sub_zero, List.take_length]
variable {lo hi : Option Expr} {l u : Rho → R (Option Int)} {p2 : Pos}
theorem calm_cut (d : D) (lo hi : Option Int) : (cutD d lo hi).calm := by
  unfold cutD
  split <;> first | exact trivial | exact calm_if
theorem de_sl (he : DE X W e f) (hl : DP X W lo l) (hu : DP X W hi u) : DE X W (.Subscript e (.Slice lo hi none p2) pos) (eSl cutD f l u) := by
  refine PE.imp (pe_slice (sl_str.or (sl_tupA.or sl_list)) he hl hu) fun σ H Q ⟨F0, H0, F, ρ, S, q⟩ => ?_
  refine ⟨F0, H0, F, ρ, S, Post.bind q fun d v F1 H1 _ e1 r1 p1 => ?_⟩
  refine ⟨F0, H0, F1, ρ, S.mono e1, Post.bind p1 fun a a' F2 H2 _ e2 r2 p2 => ?_⟩
  subst r2
  refine ⟨F0, H0, F2, ρ, (S.mono e1).mono e2, Post.bind p2 fun b b' F3 H3 _ e3 r3 p3 => ?_⟩
  subst r3
  have r4 := (r1.mono e2).mono e3
  have s3 := e3.sub
  have L : ∀ xs, lsD d = some xs → Post X.K X.mg W (RepX X.K) F3 H3 σ (.ok (.lst (cutG xs a b))) Q → rSlL X.K v a b H3 Q := fun xs e p => by
    obtain ⟨q, vs, rfl, h1, h2⟩ := r4.list s3 e
    exact ⟨q, vs, rfl, .inl h1, fun l hl => p _ _ _ (Ext.frozen s3 hl) (Rep.x (Rep.newL (h2.cut a b) (s3.free hl)))⟩
  unfold cutD at p3
  split at p3
  · obtain ⟨hz, p3⟩ := post_if p3
    exact .inl ⟨_, r4, hz, p3.ok s3 rfl⟩
  · rename_i xs
    obtain ⟨q, vs, rfl, h1, h2⟩ := id r4
    refine .inr (.inl ⟨q, vs, rfl, h1.sq s3, fun z => ?_, fun _ l hl => p3 _ _ _ (Ext.frozen s3 hl) (Rep.x (Rep.newT (h2.cut a b) (s3.free hl)))⟩)
    rw [← h2.length] at z
    have r5 := r4
    rw [← cut_whole z] at r5
    exact p3.ok s3 r5
  · exact .inr (.inr (L _ rfl p3))
  · exact .inr (.inr (L _ rfl p3))
  · obtain ⟨q, vs, rfl, h1, h2⟩ := id r4
    exact .inr (.inr ⟨q, vs, rfl, s3.seq h1, fun l hl => p3 _ _ _ (Ext.frozen s3 hl) (Rep.x (Rep.newL (h2.cut a b) (s3.free hl)))⟩)
  · exact p3.elim
theorem do_sl (he : DE X W e f) (hl : DP X W lo l) (hu : DP X W hi u) : DO X W (.Subscript e (.Slice lo hi none p2) pos) (eSl cutO f l u) := by
  refine PE.imp (pe_slice sl_list he hl hu) fun σ H Q ⟨F0, H0, F, ρ, S, q⟩ => ?_
  refine ⟨F0, H0, F, ρ, S, Post.bind q fun d v F1 H1 _ e1 r1 p1 => ?_⟩
  refine ⟨F0, H0, F1, ρ, S.mono e1, Post.bind p1 fun a a' F2 H2 _ e2 r2 p2 => ?_⟩
  subst r2
  refine ⟨F0, H0, F2, ρ, (S.mono e1).mono e2, Post.bind p2 fun b b' F3 H3 _ e3 r3 p3 => ?_⟩
  subst r3
  have r4 := (r1.mono e2).mono e3
  have s3 := e3.sub
  have p3 := Post.up ((e1.hp.trans e2.hp).trans e3.hp) p3
  have L : ∀ xs, lsD d = some xs → Post X.K X.mg W (RepO X.K H3) F3 H3 σ (.ok (cutG xs a b)) Q → rSlL X.K v a b H3 Q := fun xs e p => by
    obtain ⟨q, vs, rfl, h1, h2⟩ := r4.list s3 e
    exact ⟨q, vs, rfl, .inl h1, fun l hl => p _ _ _ (Ext.laid s3 hl) (RepO.new s3 hl (h2.cut a b))⟩
  unfold cutO at p3
  split at p3
  · exact L _ rfl p3
  · exact L _ rfl p3
  · exact p3.elim
/-! ### list operators that hand out a new list -/
def OpO (X : Cx) (op : Value → Value → Sem Value) (g : D → D → R (List D)) : Prop := ∃ r, OpR X op r ∧ ∀ F H x y u v Q, Same F H → RepX X.K F H x u → RepX X.K F H y v → Post X.K X.mg W0 (RepO X.K H) F H [] (g x y) Q → r u v H Q
def oOp (g : D → D → R (List D)) (fa fb : Rho → R D) : Rho → R (List D) := fun ρ => (fa ρ).bind fun x => (fb ρ).bind fun y => g x y
def Calm2O (g : D → D → R (List D)) : Prop := ∀ x y, (g x y).calm
theorem do_op {op : Operator} {g : D → D → R (List D)} (ho : OpO X (binaryOp op) g) (hc : Calm2O g) (ha : DE X W a fa) (hb : DE X W b fb) : DO X W (.BinOp a op b pos) (oOp g fa fb) := by
  obtain ⟨r, hr, k⟩ := ho
  refine PE.imp (pe_op hr ha hb) fun σ H Q ⟨F0, H0, F, ρ, S, p⟩ => ?_
  refine ⟨F0, H0, F, ρ, S, Post.bind p fun x u F1 H1 _ e1 r1 p1 => ?_⟩
  refine ⟨F0, H0, F1, ρ, S.mono e1, Post.bind p1 fun y v F2 H2 _ e2 r2 p2 => ?_⟩
  exact k F2 H2 x y u v Q e2.sub (r1.mono e2) r2 ((Post.up (e1.hp.trans e2.hp) p2).calm (hc x y))
def addO (x y : D) : R (List D) := match lsD x, lsD y with
  | some a, some b => if a.length + b.length ≤ sizeLine then .ok (a ++ b) else .stuck
  | _, _ => .stuck
theorem op_addO : OpO X (binaryOp .Add) addO := by
  refine ⟨_, op_catR, fun F H x y u v Q s rx ry p => ?_⟩
  unfold addO at p
  split at p
  · rename_i xs ys e1 e2
    obtain ⟨hz, p⟩ := post_if p
    obtain ⟨a, vs, rfl, h1, h2⟩ := rx.list s e1
    obtain ⟨b, us, rfl, h3, h4⟩ := ry.list s e2
    exact ⟨a, b, vs, us, rfl, rfl, h1, h3, by rw [← h2.length, ← h4.length]; exact hz, fun q hq => p _ _ _ (Ext.laid s hq) (RepO.new s hq (h2.append h4))⟩
  · exact p.elim
theorem calm_addO : Calm2O addO := fun x y => by
  unfold addO
  split <;> first | exact trivial | exact calm_if
def mulO (x y : D) : R (List D) := match lsD x, y with
  | some a, .int k => if (-(2 ^ 63) ≤ k ∧ k < 2 ^ 63) ∧ a.length * k.toNat ≤ sizeLine then .ok (List.replicate k.toNat a).flatten else .stuck
  | _, _ => .stuck
theorem op_mulO : OpO X (binaryOp .Mult) mulO := by
  refine ⟨_, op_repR, fun F H x y u v Q s rx ry p => ?_⟩
  unfold mulO at p
  split at p
  · rename_i xs k e1
    obtain ⟨hz, p⟩ := post_if p
    obtain ⟨a, vs, rfl, h1, h2⟩ := rx.list s e1
    exact ⟨a, _, vs, rfl, ry, h1, hz.1.1, hz.1.2, by rw [← h2.length]; exact hz.2, fun q hq => p _ _ _ (Ext.laid s hq) (RepO.new s hq (h2.rep _))⟩
  · exact p.elim
theorem calm_mulO : Calm2O mulO := fun x y => by
  unfold mulO
  split <;> first | exact trivial | exact calm_if
/-! ### one comparison behind another -/
def ifBl {α : Type} (z : D) (t f : R α) : R α := match z with
  | .bl k => if k = true then t else f
  | _ => .stuck
def eChain (g h : D → D → R D) (fa fb fc : Rho → R D) : Rho → R D := fun ρ => (fa ρ).bind fun x => (fb ρ).bind fun y => (g x y).bind fun z => ifBl z ((fc ρ).bind fun w => h y w) (.ok (.bl false))
/-! ### a module's constant -/
theorem de_glob {x : Str} {d : D} {u : Value} (hg : Gl X x) (hm : X.mg x = some u) (r : ∃ v, RelV v u ∧ ∀ F, Rep X.K F d v) (hd : (x == ("__debug__" : Str)) = false := by decide) : DE X W (.Name x pos) (eC d) := by
  obtain ⟨v, rv, rr⟩ := r
  exact PE.imp (pe_glob hg hm rv hd) fun σ H Q ⟨_, _, F, ρ, S, q⟩ => q.ok S.sub (Rep.x (rr F))
end
end DL
set_option maxRecDepth 100000
set_option maxHeartbeats 4000000
namespace DL
open PySem PySem.Spec PyProof.Rows L2
variable [Tb]
section
variable {K : PySem.W.Frag} {F0 H0 F H F' H' F1 H1 : Hp} {X : Cx} {σ : St} {ρ : Rho} {mg : Str → Option Value} {W : WX} {pos p : Pos} {x : Str}
variable {e a b c : Expr} {es : List Expr} {f fa fb fc : Rho → R D} {ft : Rho → R (List D)}
/-! ### a op b op' c -/
theorem de_chain {op op' : CmpOp} {g h : D → D → R D} (ho : OpD X (compareOp op) g) (hq : Calm2 g) (ho' : OpD X (compareOp op') h) (hq' : Calm2 h) (ha : DE X W a fa) (hb : DE X W b fb) (hc : DE X W c fc)
    (hm : lastMarks [op, op'] [b, c] = false := by with_unfolding_all rfl) : DE X W (.Compare a [op, op'] [b, c] pos) (eChain g h fa fb fc) := by
  obtain ⟨r, hr, k⟩ := ho
  obtain ⟨r', hr', k'⟩ := ho'
  refine PE.imp (pe_chain hr hr' ha hb hc hm) fun σ H Q ⟨F0, H0, F, ρ, S, p⟩ => ?_
  refine ⟨F0, H0, F, ρ, S, Post.bind p fun x u F1 H1 _ e1 r1 p1 => ?_⟩
  refine ⟨F0, H0, F1, ρ, S.mono e1, Post.bind p1 fun y v F2 H2 _ e2 r2 p2 => ?_⟩
  refine k F2 H2 x y u v _ e2.sub (r1.mono e2) r2 (Post.calm (W := W) (σ := σ) ?_ (hq x y))
  refine Post.bind p2 fun z w F3 H3 _ e3 r3 p3 => ?_
  cases z with
  | bl kk =>
    refine ⟨kk, r3, ?_⟩
    cases kk with
    | true =>
      rw [if_pos rfl]
      refine ⟨F0, H0, F3, ρ, ((S.mono e1).mono e2).mono e3, Post.bind (show Post X.K X.mg W (RepX X.K) F3 H3 σ ((fc ρ).bind fun w => h y w) Q from p3) fun w' v' F4 H4 _ e4 r4 p4 => ?_⟩
      exact k' F4 H4 y w' v v' Q e4.sub ((r2.mono e3).mono e4) r4 (p4.calm (hq' y w'))
    | false =>
      rw [if_neg Bool.false_ne_true]
      exact Post.ok (a := D.bl false) p3 e3.sub rfl
  | _ => exact p3.elim
theorem dt_chain {op op' : CmpOp} {g h : D → D → R D} (ho : OpD X (compareOp op) g) (hq : Calm2 g) (ho' : OpD X (compareOp op') h) (hq' : Calm2 h) (ha : DE X W a fa) (hb : DE X W b fb) (hc : DE X W c fc)
    (hm : lastMarks [op, op'] [b, c] = false := by with_unfolding_all rfl) : DT X W (.Compare a [op, op'] [b, c] pos) (eT (eChain g h fa fb fc)) := by
  obtain ⟨r, hr, k⟩ := ho
  obtain ⟨r', hr', k'⟩ := ho'
  refine PT.imp (pt_chain hr hr' ha hb hc hm) fun σ H Q ⟨F0, H0, F, ρ, S, p⟩ => ?_
  have p : Post X.K X.mg W (fun _ _ a b => a = b) F H σ ((eChain g h fa fb fc ρ).bind asB) Q := p
  have e : (eChain g h fa fb fc ρ).bind asB = (fa ρ).bind fun x => (fb ρ).bind fun y => (g x y).bind fun z => ifBl z ((fc ρ).bind fun w => (h y w).bind asB) (.ok false) := by
    unfold eChain
    cases fa ρ with
    | ok x =>
      cases fb ρ with
      | ok y =>
        simp only [R.bind_ok]
        cases g x y with
        | ok z =>
          simp only [R.bind_ok]
          cases z with
          | bl k =>
            cases k with
            | true =>
              show ((fc ρ).bind fun w => h y w).bind asB = (fc ρ).bind fun w => (h y w).bind asB
              cases fc ρ <;> rfl
            | false => rfl
          | _ => rfl
        | exc _ => rfl
        | stuck => rfl
      | exc _ => rfl
      | stuck => rfl
    | exc _ => rfl
    | stuck => rfl
  rw [e] at p
  refine ⟨F0, H0, F, ρ, S, Post.bind p fun x u F1 H1 _ e1 r1 p1 => ?_⟩
  refine ⟨F0, H0, F1, ρ, S.mono e1, Post.bind p1 fun y v F2 H2 _ e2 r2 p2 => ?_⟩
  refine k F2 H2 x y u v _ e2.sub (r1.mono e2) r2 (Post.calm (W := W) (σ := σ) ?_ (hq x y))
  refine Post.bind p2 fun z w F3 H3 _ e3 r3 p3 => ?_
  cases z with
  | bl kk =>
    refine ⟨kk, r3, ?_⟩
    cases kk with
    | true =>
      rw [if_pos rfl]
      refine ⟨F0, H0, F3, ρ, ((S.mono e1).mono e2).mono e3, Post.bind (show Post X.K X.mg W (fun _ _ a b => a = b) F3 H3 σ ((fc ρ).bind fun w => (h y w).bind asB) Q from p3) fun w' v' F4 H4 _ e4 r4 p4 => ?_⟩
      refine k' F4 H4 y w' v v' _ e4.sub ((r2.mono e3).mono e4) r4 (Post.calm (W := W) (σ := σ) ?_ (hq' y w'))
      refine Post.bind p4 fun z' w'' F5 H5 _ e5 r5 p5 => ?_
      cases z' with
      | bl k2 => exact ⟨k2, r5, p5.ok e5.sub rfl⟩
      | _ => exact p5.elim
    | false =>
      rw [if_neg Bool.false_ne_true]
      exact ⟨false, rfl, Post.ok (a := false) p3 e3.sub rfl⟩
  | _ => exact p3.elim
/-! ### -a -/
def negD : D → R D
  | .int i => .ok (.int (-i))
  | _ => .stuck
def eUn (g : D → R D) (fa : Rho → R D) : Rho → R D := fun ρ => (fa ρ).bind g
theorem de_neg (ha : DE X W a fa) : DE X W (.UnaryOp .USub a pos) (eUn negD fa) := by
  refine PE.imp (pe_un un_neg ha) fun σ H Q ⟨F0, H0, F, ρ, S, p⟩ => ?_
  refine ⟨F0, H0, F, ρ, S, Post.bind p fun x u F1 H1 _ e1 r1 p1 => ?_⟩
  cases x with
  | int i => exact ⟨i, r1, p1.ok e1.sub rfl⟩
  | _ => exact p1.elim
/-! ### repr -/
def reprD : List D → R D
  | [.int i] => if i.natAbs.log2 < 1920 then .ok (.str (toString i)) else .stuck
  | _ => .stuck
theorem cd_repr : CallD X (.builtin "repr") reprD := by
  refine ⟨_, SkE.call_repr_int, fun F H ds vs Q s r q => ?_⟩
  unfold reprD at q
  split at q
  · obtain ⟨hz, q⟩ := post_if q
    obtain ⟨v, rfl, rv⟩ := reps_1 r
    cases (show v = _ from rv)
    exact ⟨_, rfl, hz, q.ok s rfl⟩
  · exact q.elim
theorem calm_repr : CalmN reprD := fun ds => by
  unfold reprD
  split <;> first | exact trivial | exact calm_if
/-! ### name op= e -/
def sAug (i : Nat) (g : D → D → R D) (f : Rho → R D) : TD := fun De ρ => match ρ[i]? with
  | some (.d x) => go De ρ (f ρ) fun y => go De ρ (g x y) fun z => kept z = true ∧ De.nx (ρ.set i (.d z))
  | _ => False
def IpD (X : Cx) (op : Operator) (g : D → D → R D) : Prop := ∃ r, PIp X op r ∧ ∀ F H x y u v Q, Same F H → RepX X.K F H x u → RepX X.K F H y v → Post X.K X.mg W0 (RepX X.K) F H [] (g x y) Q → r u v H Q
theorem ds_aug {i : Nat} {op : Operator} {g : D → D → R D} {pos' : Pos} (hN : X.N.Nodup) (hi : X.N[i]? = some x) (hx : Loc X.env.scope x) (he : DE X W e f) (ho : IpD X op g) (hq : Calm2 g) (hf : X.fn x = true ∨ X.env.scope.names.lookup x = some .local := by first | exact .inl rfl | exact .inr rfl | assumption) :
    DS X W (.AugAssign (.Name x pos') op e pos) (sAug i g f) := by
  obtain ⟨r, hr, k⟩ := ho
  refine PS.imp (ps_aug hN hi hx he hr hf) fun D σ H ⟨F0, H0, F, ρ, De, S, c, q⟩ => ?_
  unfold sAug at q
  split at q
  · rename_i d e1
    obtain ⟨v, h1, h2⟩ := S.slot i d e1
    refine ⟨v, h1, F0, H0, F, ρ, S, post_go S c q fun y u F1 H1 x1 r1 q1 => ?_⟩
    have S1 := S.mono x1
    have r2 : RepX X.K F1 H1 d v := Rep.x (h2.mono x1.fr)
    refine k F1 H1 d y v u _ x1.sub r2 r1 (Post.calm (W := W) (σ := σ) (post_go S1 (c.mono x1.fr) q1 fun z w F2 H2 x2 r3 k2 => ?_) (hq d y))
    exact c.nx F2 H2 _ _ (x1.fr.trans x2.fr) ((S1.mono x2).setD (r3.kept k2.1)) k2.2
  · exact q.elim
def iaddD : D → D → R D
  | .int a, .int b => .ok (.int (a + b))
  | .str a, .str b => if a.length + b.length ≤ sizeLine then .ok (.str (a ++ b)) else .stuck
  | _, _ => .stuck
theorem PIp.or {op : Operator} {r r' : TIp} (h : PIp X op r) (h' : PIp X op r') : PIp X op (fun x y H Q => r x y H Q ∨ r' x y H Q) := by
  intro pins s σ H x y v u Q I r1 r2 q
  rcases q with q | q
  · exact h pins s σ H x y v u Q I r1 r2 q
  · exact h' pins s σ H x y v u Q I r1 r2 q
theorem ip_iaddD : IpD X .Add iaddD := by
  have hs : PIp X .Add (fun x y H Q => ∃ i j, x = V.str i ∧ y = V.str j ∧ i.length + j.length ≤ sizeLine ∧ Q (V.str (i ++ j)) H) := fun pins s σ H x y v u Q I r1 r2 h => iop_add_str pins s σ H x y v u Q I r1 r2 h
  refine ⟨_, PIp.or ip_add hs, fun F H x y u v Q s rx ry q => ?_⟩
  unfold iaddD at q
  split at q
  · exact .inl ⟨_, _, rx, ry, q.ok s rfl⟩
  · obtain ⟨hz, q⟩ := post_if q
    exact .inr ⟨_, _, rx, ry, hz, q.ok s rfl⟩
  · exact q.elim
theorem calm_iadd : Calm2 iaddD := fun x y => by
  unfold iaddD
  split <;> first | exact trivial | exact calm_if
/-! ### defs by name -/
structure DefAt (P : Program) (w : World) (K : PySem.W.Frag) (mg : Str → Option Value) (base : Heap) (k : Nat) (name : Str) (ps : List Str) (m : List D → R RV) : Prop where
  ex : ∃ fa fd, FnD P w K mg base k fa fd ps m ∧ mg name = some (.ref fa) ∧ PySem.W.keepIn K (.ref fa) = true ∧ Binds K fd ps []
section
variable {k : Nat} {ps : List Str} {m : List D → R RV}
theorem de_callA (g : DefAt X.prog X.w X.K X.mg X.base k x ps m) (hr : Room k X.A) (tk : Takes X W) (hg : Gl X x)
    (ha : DA X W (e :: es) ft) (hdb : (x == ("__debug__" : Str)) = false := by decide) (he : starEach (e :: es) X.env = (false, eval e X.env) :: starEach es X.env := by rfl) (hpl : (backTo pos (starEach es X.env)).any (·.1) = false := by rfl) :
    DE X W (.Call (.Name x p) (e :: es) [] pos) (eCall m ft) := by
  obtain ⟨fa, fd, F, hm, hk, hb⟩ := g.ex
  exact de_call F hr tk hg hm hk hb ha hdb he hpl
theorem do_callA (g : DefAt X.prog X.w X.K X.mg X.base k x ps m) (hr : Room k X.A) (tk : Takes X W) (hg : Gl X x)
    (ha : DA X W (e :: es) ft) (hdb : (x == ("__debug__" : Str)) = false := by decide) (he : starEach (e :: es) X.env = (false, eval e X.env) :: starEach es X.env := by rfl) (hpl : (backTo pos (starEach es X.env)).any (·.1) = false := by rfl) :
    DO X W (.Call (.Name x p) (e :: es) [] pos) (oCall m ft) := by
  obtain ⟨fa, fd, F, hm, hk, hb⟩ := g.ex
  exact do_call F hr tk hg hm hk hb ha hdb he hpl
end
end
end DL
set_option maxRecDepth 100000
set_option maxHeartbeats 4000000
namespace DL
open PySem PySem.Spec PyProof.Rows L2
variable [Tb]
/-! ### constants of the modules -/
structure ConstAt (K : PySem.W.Frag) (mg : Str → Option Value) (name : Str) (d : D) : Prop where
  ex : ∃ u v, mg name = some u ∧ RelV v u ∧ ∀ F, Rep K F d v
theorem de_globC {X : Cx} {W : WX} {x : Str} {d : D} {pos : Pos} (c : ConstAt X.K X.mg x d) (hg : Gl X x) (hd : (x == ("__debug__" : Str)) = false := by decide) : DE X W (.Name x pos) (eC d) := by
  obtain ⟨u, v, hm, r, rr⟩ := c.ex
  exact de_glob hg hm ⟨v, r, rr⟩ hd
/-! ### data of a type -/
class Enc (α : Type) where
  enc : α → D
  dec : D → Option α
  de : ∀ a, dec (enc a) = some a
  ed : ∀ d a, dec d = some a → d = enc a
instance : Enc Int := ⟨.int, fun d => match d with | .int i => some i | _ => none, fun _ => rfl, fun d a h => by cases d <;> first | (cases h; rfl) | cases h⟩
instance : Enc Bool := ⟨.bl, fun d => match d with | .bl i => some i | _ => none, fun _ => rfl, fun d a h => by cases d <;> first | (cases h; rfl) | cases h⟩
instance : Enc Str := ⟨.str, fun d => match d with | .str i => some i | _ => none, fun _ => rfl, fun d a h => by cases d <;> first | (cases h; rfl) | cases h⟩
instance : Enc D := ⟨fun d => d, some, fun _ => rfl, fun d a h => by cases h; rfl⟩
def decs {α : Type} [Enc α] : List D → Option (List α)
  | [] => some []
  | d :: ds => (Enc.dec d).bind fun a => (decs ds).map (a :: ·)
theorem decs_encs {α : Type} [Enc α] : ∀ l : List α, decs (l.map Enc.enc) = some l
  | [] => rfl
  | a :: l => by
    show (Enc.dec (Enc.enc a)).bind (fun a => (decs (l.map Enc.enc)).map (a :: ·)) = _
    rw [Enc.de, decs_encs l]; rfl
theorem encs_decs {α : Type} [Enc α] : ∀ (ds : List D) (l : List α), decs ds = some l → ds = l.map Enc.enc
  | [], l, h => by cases h; rfl
  | d :: ds, l, h => by
    obtain ⟨a, e1, e2⟩ := Option.bind_eq_some_iff.mp (show (Enc.dec d).bind (fun a => (decs ds).map (a :: ·)) = some l from h)
    obtain ⟨r, e3, rfl⟩ := Option.map_eq_some_iff.mp e2
    rw [List.map_cons, ← Enc.ed d a e1, ← encs_decs ds r e3]
instance {α : Type} [Enc α] : Enc (List α) := ⟨fun l => .lst (l.map Enc.enc), fun d => match d with | .lst ds => decs ds | _ => none, fun l => decs_encs l, fun d l h => by
  cases d with
  | lst ds => exact congrArg D.lst (encs_decs ds l h)
  | _ => cases h⟩
instance {α β : Type} [Enc α] [Enc β] : Enc (α × β) := ⟨fun p => .tup [Enc.enc p.1, Enc.enc p.2], fun d => match d with | .tup [x, y] => (Enc.dec x).bind fun a => (Enc.dec y).map fun b => (a, b) | _ => none,
  fun p => by
    show (Enc.dec (Enc.enc p.1)).bind (fun a => (Enc.dec (Enc.enc p.2)).map fun b => (a, b)) = some p
    rw [Enc.de, Enc.de]; rfl,
  fun d p h => by
    cases d with
    | tup ds =>
      match ds, h with
      | [x, y], h =>
        obtain ⟨a, e1, e2⟩ := Option.bind_eq_some_iff.mp (show (Enc.dec x).bind (fun a => (Enc.dec y).map fun b => (a, b)) = some p from h)
        obtain ⟨b, e3, rfl⟩ := Option.map_eq_some_iff.mp e2
        rw [Enc.ed x a e1, Enc.ed y b e3]
    | _ => cases h⟩
/-- the script's own list -/
structure Scr where
  ns : List Int
instance : Enc Scr := ⟨fun l => .scr (l.ns.map D.int), fun d => match d with | .scr ds => (decs ds).map Scr.mk | _ => none, fun l => by
    show (decs (l.ns.map D.int)).map Scr.mk = some l
    have := decs_encs l.ns
    rw [show l.ns.map D.int = l.ns.map Enc.enc from rfl, this]; rfl, fun d l h => by
  cases d with
  | scr ds =>
    obtain ⟨r, e, rfl⟩ := Option.map_eq_some_iff.mp (show (decs ds).map Scr.mk = some l from h)
    exact congrArg D.scr (encs_decs ds r e)
  | _ => cases h⟩
section
variable {α β γ δ ε : Type} [Enc α] [Enc β] [Enc γ] [Enc δ] [Enc ε]
def fn1 (f : α → R RV) : List D → R RV
  | [x] => match (Enc.dec x : Option α) with
    | some a => f a
    | none => .stuck
  | _ => .stuck
def fn2 (f : α → β → R RV) : List D → R RV
  | [x, y] => match (Enc.dec x : Option α), (Enc.dec y : Option β) with
    | some a, some b => f a b
    | _, _ => .stuck
  | _ => .stuck
def fn3 (f : α → β → γ → R RV) : List D → R RV
  | [x, y, z] => match (Enc.dec x : Option α), (Enc.dec y : Option β), (Enc.dec z : Option γ) with
    | some a, some b, some c => f a b c
    | _, _, _ => .stuck
  | _ => .stuck
def fn4 (f : α → β → γ → δ → R RV) : List D → R RV
  | [x, y, z, u] => match (Enc.dec x : Option α), (Enc.dec y : Option β), (Enc.dec z : Option γ), (Enc.dec u : Option δ) with
    | some a, some b, some c, some d => f a b c d
    | _, _, _, _ => .stuck
  | _ => .stuck
def fn5 (f : α → β → γ → δ → ε → R RV) : List D → R RV
  | [x, y, z, u, v] => match (Enc.dec x : Option α), (Enc.dec y : Option β), (Enc.dec z : Option γ), (Enc.dec u : Option δ), (Enc.dec v : Option ε) with
    | some a, some b, some c, some d, some e => f a b c d e
    | _, _, _, _, _ => .stuck
  | _ => .stuck
theorem fn1_app (f : α → R RV) (a : α) : fn1 f [Enc.enc a] = f a := by simp only [fn1, Enc.de]
theorem fn2_app (f : α → β → R RV) (a : α) (b : β) : fn2 f [Enc.enc a, Enc.enc b] = f a b := by simp only [fn2, Enc.de]
theorem fn3_app (f : α → β → γ → R RV) (a : α) (b : β) (c : γ) : fn3 f [Enc.enc a, Enc.enc b, Enc.enc c] = f a b c := by simp only [fn3, Enc.de]
theorem fn4_app (f : α → β → γ → δ → R RV) (a : α) (b : β) (c : γ) (d : δ) : fn4 f [Enc.enc a, Enc.enc b, Enc.enc c, Enc.enc d] = f a b c d := by simp only [fn4, Enc.de]
theorem fn5_app (f : α → β → γ → δ → ε → R RV) (a : α) (b : β) (c : γ) (d : δ) (e : ε) : fn5 f [Enc.enc a, Enc.enc b, Enc.enc c, Enc.enc d, Enc.enc e] = f a b c d e := by simp only [fn5, Enc.de]
theorem fn1_out {f : α → R RV} {ds : List D} (h : fn1 f ds ≠ .stuck) : ∃ a, ds = [Enc.enc a] ∧ fn1 f ds = f a ∧ f a ≠ .stuck := by
  unfold fn1 at h
  split at h
  · split at h
    · rename_i x _ a e
      have ex := Enc.ed x a e
      subst ex
      exact ⟨a, rfl, fn1_app f a, h⟩
    · exact absurd rfl h
  · exact absurd rfl h
theorem fn2_out {f : α → β → R RV} {ds : List D} (h : fn2 f ds ≠ .stuck) : ∃ a b, ds = [Enc.enc a, Enc.enc b] ∧ fn2 f ds = f a b ∧ f a b ≠ .stuck := by
  unfold fn2 at h
  split at h
  · split at h
    · rename_i x y _ _ a b e1 e2
      have h1 := Enc.ed x a e1
      have h2 := Enc.ed y b e2
      subst h1 h2
      exact ⟨a, b, rfl, fn2_app f a b, h⟩
    · exact absurd rfl h
  · exact absurd rfl h
theorem fn3_out {f : α → β → γ → R RV} {ds : List D} (h : fn3 f ds ≠ .stuck) : ∃ a b c, ds = [Enc.enc a, Enc.enc b, Enc.enc c] ∧ fn3 f ds = f a b c ∧ f a b c ≠ .stuck := by
  unfold fn3 at h
  split at h
  · split at h
    · rename_i x y z _ _ _ a b c e1 e2 e3
      have h1 := Enc.ed x a e1
      have h2 := Enc.ed y b e2
      have h3 := Enc.ed z c e3
      subst h1 h2 h3
      exact ⟨a, b, c, rfl, fn3_app f a b c, h⟩
    · exact absurd rfl h
  · exact absurd rfl h
theorem fn4_out {f : α → β → γ → δ → R RV} {ds : List D} (h : fn4 f ds ≠ .stuck) : ∃ a b c d, ds = [Enc.enc a, Enc.enc b, Enc.enc c, Enc.enc d] ∧ fn4 f ds = f a b c d ∧ f a b c d ≠ .stuck := by
  unfold fn4 at h
  split at h
  · split at h
    · rename_i x y z u _ _ _ _ a b c d e1 e2 e3 e4
      have h1 := Enc.ed x a e1
      have h2 := Enc.ed y b e2
      have h3 := Enc.ed z c e3
      have h4 := Enc.ed u d e4
      subst h1 h2 h3 h4
      exact ⟨a, b, c, d, rfl, fn4_app f a b c d, h⟩
    · exact absurd rfl h
  · exact absurd rfl h
end
/-! ### THE RULE, for typed functions -/
section
variable {α β γ δ : Type} [Enc α] [Enc β] [Enc γ] [Enc δ] {P : Program} {w : World} {K : PySem.W.Frag} {mg : Str → Option Value} {base : Heap} {x qual : Str} {st : Stmt} {fa : Addr} {fd : FuncData} {N ps : List Str} {k : Nat}
abbrev BodyX (P : Program) (w : World) (K : PySem.W.Frag) (mg : Str → Option Value) (base : Heap) (N : List Str) (qual : Str) (st : Stmt) (fa : Addr) (cdv : Value) (A : Around) (outer : List Env) (s : Shared) (H : Hp) (E : XK) : Cx := cxOf (L2.CX P w) P w K mg base N qual (defScope st) fa cdv A outer s H E
abbrev BodyOk (P : Program) (w : World) (K : PySem.W.Frag) (mg : Str → Option Value) (base : Heap) (k : Nat) (N : List Str) (qual : Str) (st : Stmt) (fa : Addr) (rd : TD → Prop) : Prop :=
  ∀ (cdv : Value) (A : Around) (outer : List Env) (s : Shared) (H : Hp) (E : XK), Room k (A.deeper (envOfC qual (defScope st) s.heap.objs.size fa cdv)) →
      Takes (BodyX P w K mg base N qual st fa cdv A outer s H E) (WofE E) →
      PassesOwn (model P w) (A.deeper (envOfC qual (defScope st) s.heap.objs.size fa cdv)) (envOfC qual (defScope st) s.heap.objs.size fa cdv) (BodyX P w K mg base N qual st fa cdv A outer s H E).xe →
      ∃ t, DSs (BodyX P w K mg base N qual st fa cdv A outer s H E) (WofE E) (defBody st) t ∧ rd t
theorem ok1 {f : α → R RV} (Fu : Fun K x qual st fa fd) (Sc : FnScope N ps (defScope st)) (hp : ps.length = 1)
    (hb : BodyOk P w K mg base k N qual st fa fun t => ∀ a, f a ≠ .stuck → t (endsOf (f a)) (startD N.length [Enc.enc a])) : FnD P w K mg base (k + 1) fa fd ps (fn1 f) := by
  refine okD Fu Sc (fun ds h => ?_) fun cdv A outer s H E hr tk po => ?_
  · obtain ⟨a, rfl, _⟩ := fn1_out h
    exact hp.symm
  · obtain ⟨t, h1, h2⟩ := hb cdv A outer s H E hr tk po
    refine ⟨t, h1, fun ds _ h => ?_⟩
    obtain ⟨a, rfl, e, n⟩ := fn1_out h
    rw [e]; exact h2 a n
theorem ok2 {f : α → β → R RV} (Fu : Fun K x qual st fa fd) (Sc : FnScope N ps (defScope st)) (hp : ps.length = 2)
    (hb : BodyOk P w K mg base k N qual st fa fun t => ∀ a b, f a b ≠ .stuck → t (endsOf (f a b)) (startD N.length [Enc.enc a, Enc.enc b])) : FnD P w K mg base (k + 1) fa fd ps (fn2 f) := by
  refine okD Fu Sc (fun ds h => ?_) fun cdv A outer s H E hr tk po => ?_
  · obtain ⟨a, b, rfl, _⟩ := fn2_out h
    exact hp.symm
  · obtain ⟨t, h1, h2⟩ := hb cdv A outer s H E hr tk po
    refine ⟨t, h1, fun ds _ h => ?_⟩
    obtain ⟨a, b, rfl, e, n⟩ := fn2_out h
    rw [e]; exact h2 a b n
theorem ok3 {f : α → β → γ → R RV} (Fu : Fun K x qual st fa fd) (Sc : FnScope N ps (defScope st)) (hp : ps.length = 3)
    (hb : BodyOk P w K mg base k N qual st fa fun t => ∀ a b c, f a b c ≠ .stuck → t (endsOf (f a b c)) (startD N.length [Enc.enc a, Enc.enc b, Enc.enc c])) : FnD P w K mg base (k + 1) fa fd ps (fn3 f) := by
  refine okD Fu Sc (fun ds h => ?_) fun cdv A outer s H E hr tk po => ?_
  · obtain ⟨a, b, c, rfl, _⟩ := fn3_out h
    exact hp.symm
  · obtain ⟨t, h1, h2⟩ := hb cdv A outer s H E hr tk po
    refine ⟨t, h1, fun ds _ h => ?_⟩
    obtain ⟨a, b, c, rfl, e, n⟩ := fn3_out h
    rw [e]; exact h2 a b c n
theorem ok4 {f : α → β → γ → δ → R RV} (Fu : Fun K x qual st fa fd) (Sc : FnScope N ps (defScope st)) (hp : ps.length = 4)
    (hb : BodyOk P w K mg base k N qual st fa fun t => ∀ a b c d, f a b c d ≠ .stuck → t (endsOf (f a b c d)) (startD N.length [Enc.enc a, Enc.enc b, Enc.enc c, Enc.enc d])) : FnD P w K mg base (k + 1) fa fd ps (fn4 f) := by
  refine okD Fu Sc (fun ds h => ?_) fun cdv A outer s H E hr tk po => ?_
  · obtain ⟨a, b, c, d, rfl, _⟩ := fn4_out h
    exact hp.symm
  · obtain ⟨t, h1, h2⟩ := hb cdv A outer s H E hr tk po
    refine ⟨t, h1, fun ds _ h => ?_⟩
    obtain ⟨a, b, c, d, rfl, e, n⟩ := fn4_out h
    rw [e]; exact h2 a b c d n
end
end DL
set_option maxRecDepth 100000
set_option maxHeartbeats 4000000
namespace DL
open PySem PySem.Spec PyProof.Rows L2
/-! ### loops, by what holds between the turns -/
theorem loop_ix {g : D → Rho → Option Rho} {t : TD} {De : EndsD} {ds : List D} (J : Nat → Rho → Prop) (hd : ∀ ρ, J ds.length ρ → De.nx ρ)
    (hs : ∀ i d ρ, ds[i]? = some d → J i ρ → (∀ ρ', J (i + 1) ρ' → loopD g t De (ds.drop (i + 1)) ρ') → ∃ ρ', g d ρ = some ρ' ∧ t { De with nx := loopD g t De (ds.drop (i + 1)), ct := loopD g t De (ds.drop (i + 1)), bk := De.nx } ρ') {ρ : Rho} (h0 : J 0 ρ) : loopD g t De ds ρ := by
  have key : ∀ n i, i + n = ds.length → ∀ ρ, J i ρ → loopD g t De (ds.drop i) ρ := by
    intro n
    induction n with
    | zero =>
      intro i e ρ h
      have ei : i = ds.length := by omega
      subst ei
      rw [List.drop_length]
      exact hd ρ h
    | succ n ih =>
      intro i e ρ h
      have hi : i < ds.length := by omega
      rw [List.drop_eq_getElem_cons hi]
      exact hs i ds[i] ρ (by simp [hi]) h fun ρ' h' => ih (i + 1) (by omega) ρ' h'
  have := key ds.length 0 (by omega) ρ h0
  rwa [List.drop_zero] at this
/-- over typed items -/
theorem loop_map {α : Type} {g : D → Rho → Option Rho} {t : TD} {De : EndsD} {f : α → D} (J : List α → Rho → Prop) (hd : ∀ ρ, J [] ρ → De.nx ρ)
    (hs : ∀ x xs ρ, J (x :: xs) ρ → (∀ ρ', J xs ρ' → loopD g t De (xs.map f) ρ') → ∃ ρ', g (f x) ρ = some ρ' ∧ t { De with nx := loopD g t De (xs.map f), ct := loopD g t De (xs.map f), bk := De.nx } ρ') : ∀ {xs : List α} {ρ : Rho}, J xs ρ → loopD g t De (xs.map f) ρ := by
  intro xs
  induction xs with
  | nil => intro ρ h; exact hd ρ h
  | cons x xs ih => intro ρ h; exact hs x xs ρ h fun ρ' h' => ih h'
/-- over a range upwards -/
theorem loop_rng {g : D → Rho → Option Rho} {t : TD} {De : EndsD} {lo : Int} {n : Nat} (J : Nat → Rho → Prop) (hd : ∀ ρ, J n ρ → De.nx ρ)
    (hs : ∀ i ρ (nx : Rho → Prop), i < n → J i ρ → (∀ ρ', J (i + 1) ρ' → nx ρ') → ∃ ρ', g (.int (lo + (i : Nat))) ρ = some ρ' ∧ t { De with nx := nx, ct := nx, bk := De.nx } ρ') {ρ : Rho} (h0 : J 0 ρ) : loopD g t De (rngL lo 1 n) ρ := by
  have el : (rngL lo 1 n).length = n := by simp [rngL]
  refine loop_ix J (by rw [el]; exact hd) (fun i d ρ e h k => ?_) h0
  have hi : i < n := by
    have := (List.getElem?_eq_some_iff.mp e).1
    rwa [el] at this
  unfold rngL at e
  rw [List.getElem?_map, List.getElem?_range hi] at e
  cases e
  have := hs i ρ _ hi h k
  show ∃ ρ', g (.int (lo + (i : Nat) * 1)) ρ = some ρ' ∧ _
  rwa [Int.mul_one]
/-- over a range downwards -/
theorem loop_down {g : D → Rho → Option Rho} {t : TD} {De : EndsD} {lo : Int} {n : Nat} (J : Nat → Rho → Prop) (hd : ∀ ρ, J n ρ → De.nx ρ)
    (hs : ∀ i ρ (nx : Rho → Prop), i < n → J i ρ → (∀ ρ', J (i + 1) ρ' → nx ρ') → ∃ ρ', g (.int (lo - (i : Nat))) ρ = some ρ' ∧ t { De with nx := nx, ct := nx, bk := De.nx } ρ') {ρ : Rho} (h0 : J 0 ρ) : loopD g t De (rngL lo (-1) n) ρ := by
  have el : (rngL lo (-1) n).length = n := by simp [rngL]
  refine loop_ix J (by rw [el]; exact hd) (fun i d ρ e h k => ?_) h0
  have hi : i < n := by
    have := (List.getElem?_eq_some_iff.mp e).1
    rwa [el] at this
  unfold rngL at e
  rw [List.getElem?_map, List.getElem?_range hi] at e
  cases e
  have := hs i ρ _ hi h k
  show ∃ ρ', g (.int (lo + (i : Nat) * (-1))) ρ = some ρ' ∧ _
  rwa [show lo + (i : Nat) * (-1 : Int) = lo - (i : Nat) by omega]
/-- a while; J m: at most m turns are left -/
theorem while_ind {c : Rho → R Bool} {t : TD} {De : EndsD} (J : Nat → Rho → Prop)
    (hs : ∀ m ρ (nx : Rho → Prop), J m ρ → (∀ m' ρ', m = m' + 1 → J m' ρ' → nx ρ') → go De ρ (c ρ) fun b => if b = true then t { De with nx := nx, ct := nx, bk := De.nx } ρ else De.nx ρ) {m : Nat} {ρ : Rho} (h0 : J m ρ) : sWhile c t De ρ := by
  refine ⟨m + 1, ?_⟩
  induction m generalizing ρ with
  | zero => exact hs 0 ρ _ h0 fun m' ρ' e => by omega
  | succ m ih =>
    refine hs (m + 1) ρ _ h0 fun m' ρ' e h => ?_
    have : m' = m := by omega
    subst this
    exact ih h
/-! ### what the operators give -/
section
variable {a b i j k : Int} {x y z : Str} {xs ys : List D} {d : D} {ρ : Rho} {De : EndsD}
theorem eV_d0 : eV 0 (.d d :: ρ) = .ok d := rfl
theorem eV_o0 : eV 0 (.own xs :: ρ) = .ok (.bor xs) := rfl
theorem eV_s {n : Nat} {s : Sl} : eV (n + 1) (s :: ρ) = eV n ρ := rfl
theorem addD_int : addD (.int a) (.int b) = .ok (.int (a + b)) := rfl
theorem addD_str (h : x.length + y.length ≤ 16777216) : addD (.str x) (.str y) = .ok (.str (x ++ y)) := if_pos h
theorem addD_lst (h : xs.length + ys.length ≤ 16777216) : addD (.lst xs) (.lst ys) = .ok (.lst (xs ++ ys)) := if_pos h
theorem addD_tup (h : xs.length + ys.length ≤ 16777216) : addD (.tup xs) (.tup ys) = .ok (.tup (xs ++ ys)) := if_pos h
theorem subD_int : subD (.int a) (.int b) = .ok (.int (a - b)) := rfl
theorem mulD_int (h : -(2 ^ 64) < a ∧ a < 2 ^ 64 ∨ -(2 ^ 64) < b ∧ b < 2 ^ 64) : mulD (.int a) (.int b) = .ok (.int (a * b)) := if_pos h
theorem mulD_intL (h1 : -(2 ^ 64) < a) (h2 : a < 2 ^ 64) : mulD (.int a) (.int b) = .ok (.int (a * b)) := if_pos (.inl ⟨h1, h2⟩)
theorem mulD_intR (h1 : -(2 ^ 64) < b) (h2 : b < 2 ^ 64) : mulD (.int a) (.int b) = .ok (.int (a * b)) := if_pos (.inr ⟨h1, h2⟩)
theorem mulD_str (h1 : 0 ≤ k) (h2 : x.length * k.toNat ≤ 16777216) (h3 : k < 2 ^ 63) : mulD (.str x) (.int k) = .ok (.str (repS x k.toNat)) := if_pos ⟨⟨by omega, h3⟩, h2⟩
theorem fdivD_int (h1 : 0 < b) (h2 : b < 1073741824) : fdivD (.int a) (.int b) = .ok (.int (a / b)) := if_pos ⟨h1, h2⟩
theorem modD_int (h1 : 0 < b) : modD (.int a) (.int b) = .ok (.int (a % b)) := if_pos h1
theorem ltD_int : ltD (.int a) (.int b) = .ok (.bl (decide (a < b))) := rfl
theorem leD_int : leD (.int a) (.int b) = .ok (.bl (decide (a ≤ b))) := rfl
theorem gtD_int : gtD (.int a) (.int b) = .ok (.bl (decide (b < a))) := rfl
theorem geD_int : geD (.int a) (.int b) = .ok (.bl (decide (b ≤ a))) := rfl
theorem eqD_int : eqD (.int a) (.int b) = .ok (.bl (a == b)) := rfl
theorem neD_int : neD (.int a) (.int b) = .ok (.bl (!(a == b))) := rfl
theorem eqD_bl {a b : Bool} : eqD (.bl a) (.bl b) = .ok (.bl (a == b)) := rfl
theorem neD_bl {a b : Bool} : neD (.bl a) (.bl b) = .ok (.bl (!(a == b))) := rfl
theorem isD_non : isD d .non = .ok (.bl (isN d)) := rfl
theorem notIsD_non : notIsD d .non = .ok (.bl (!isN d)) := rfl
theorem asB_bl {k : Bool} : asB (.bl k) = .ok k := rfl
theorem atI_pos {α : Type} {l : List α} (h1 : 0 ≤ i) (h2 : i < (l.length : Int)) (dflt : α) : L2.atI l i = some (l.getD i.toNat dflt) := by
  obtain ⟨n, rfl⟩ : ∃ n : Nat, i = n := ⟨i.toNat, by omega⟩
  have hn : n < l.length := by omega
  refine atI_nat ?_
  rw [Int.toNat_natCast, List.getD_eq_getElem?_getD, List.getElem?_eq_getElem hn]
  rfl
theorem atI_neg {α : Type} {l : List α} (h1 : 1 ≤ l.length) (dflt : α) : L2.atI l (-1) = some (l.getD (l.length - 1) dflt) := by
  unfold L2.atI L2.ixN
  rw [if_neg (by omega), if_pos (by omega)]
  have e : (-1 + (l.length : Int)).toNat = l.length - 1 := by omega
  rw [e, Option.bind_some, List.getD_eq_getElem?_getD, List.getElem?_eq_getElem (by omega)]
  rfl
theorem ixD_lst (h1 : 0 ≤ i) (h2 : i < (xs.length : Int)) : ixD (.lst xs) (.int i) = .ok (xs.getD i.toNat .non) := by
  show optR (L2.atI xs i) = _
  rw [atI_pos h1 h2 .non]; rfl
theorem ixD_bor (h1 : 0 ≤ i) (h2 : i < (xs.length : Int)) : ixD (.bor xs) (.int i) = .ok (xs.getD i.toNat .non) := ixD_lst h1 h2
theorem ixD_tup (h1 : 0 ≤ i) (h2 : i < (xs.length : Int)) : ixD (.tup xs) (.int i) = .ok (xs.getD i.toNat .non) := ixD_lst h1 h2
theorem ixD_lstN (h1 : 1 ≤ xs.length) : ixD (.lst xs) (.int (-1)) = .ok (xs.getD (xs.length - 1) .non) := by
  show optR (L2.atI xs (-1)) = _
  rw [atI_neg h1 .non]; rfl
theorem ixD_borN (h1 : 1 ≤ xs.length) : ixD (.bor xs) (.int (-1)) = .ok (xs.getD (xs.length - 1) .non) := ixD_lstN h1
theorem ixD_tupN (h1 : 1 ≤ xs.length) : ixD (.tup xs) (.int (-1)) = .ok (xs.getD (xs.length - 1) .non) := ixD_lstN h1
theorem ixD_str (h0 : z.cps.toList.length ≤ 16777216) (h1 : 0 ≤ i) (h2 : i < (z.cps.toList.length : Int)) : ixD (.str z) (.int i) = .ok (.str ⟨#[z.cps.toList.getD i.toNat 0]⟩) := by
  have e : z.length ≤ sizeLine := by
    show z.cps.size ≤ 16777216
    rw [← Array.length_toList]; exact h0
  show (if z.length ≤ sizeLine then (optR (L2.atI z.cps.toList i)).map (fun c => D.str ⟨#[c]⟩) else R.stuck) = _
  rw [if_pos e, atI_pos h1 h2 0]; rfl
theorem getD_map {α : Type} {f : α → D} {l : List α} {n : Nat} (h : n < l.length) (dflt : α) (e : D) : (l.map f).getD n e = f (l.getD n dflt) := by
  rw [List.getD_eq_getElem?_getD, List.getD_eq_getElem?_getD, List.getElem?_map, List.getElem?_eq_getElem h]; rfl
theorem lenD_lst : lenD [.lst xs] = .ok (.int xs.length) := rfl
theorem lenD_bor : lenD [.bor xs] = .ok (.int xs.length) := rfl
theorem lenD_tup : lenD [.tup xs] = .ok (.int xs.length) := rfl
theorem lenD_str (h : z.length ≤ 16777216) : lenD [.str z] = .ok (.int z.length) := if_pos h
theorem maxD_int : maxD [.int a, .int b] = .ok (.int (if b > a then b else a)) := rfl
theorem minD_int : minD [.int a, .int b] = .ok (.int (if b < a then b else a)) := rfl
theorem intD_int : intD [.int a] = .ok (.int a) := rfl
theorem intD_bl {k : Bool} : intD [.bl k] = .ok (.int (if k then 1 else 0)) := rfl
theorem negD_int : negD (.int a) = .ok (.int (-a)) := rfl
theorem powD_1018 : powD (.int 10) (.int 18) = .ok (.int 1000000000000000000) := by
  have e : ((10 : Int) ^ (18 : Int).toNat) = 1000000000000000000 := by decide
  show (if 0 ≤ (18 : Int) ∧ (18 : Int) ≤ 1000000 ∧ (10 : Int).natAbs < 2 ^ 64 then R.ok (D.int ((10 : Int) ^ (18 : Int).toNat)) else R.stuck) = _
  rw [if_pos ⟨by decide, by decide, by decide⟩, e]
theorem okLen_of {ds : List D} (h1 : ds.all kept = true) (h2 : ds.length ≤ 16777216) : okLen ds := ⟨h1, h2⟩
theorem eTup_ok {f : Rho → R (List D)} (h : f ρ = .ok xs) (h1 : xs.all kept = true) (h2 : xs.length ≤ 16777216) : eTup f ρ = .ok (.tup xs) := by
  unfold eTup; rw [h]; exact if_pos ⟨h1, h2⟩
theorem rng1 (h : big62 j) : (match [D.int j] with
    | [.int j] => if big62 j then R.ok (rngL 0 1 j.toNat) else .stuck
    | _ => .stuck) = .ok (rngL 0 1 j.toNat) := if_pos h
theorem big62_of (h1 : -4611686018427387904 ≤ i) (h2 : i < 4611686018427387904) : big62 i := ⟨by omega, by omega⟩
end
end DL
set_option maxRecDepth 100000
set_option maxHeartbeats 4000000
namespace DL
open PySem PySem.Spec PyProof.Rows L2
section
variable {X : Cx} {W : WX} {st : Stmt} {sts : List Stmt}
/-- what is not come to -/
def sDead : TD := fun _ _ => False
theorem ds_dead [Tb] : DS X W st sDead := ⟨fun pins s D σ H I ⟨_, _, _, _, _, _, _, h⟩ => h.elim⟩
theorem dss_dead [Tb] : DSs X W sts sDead := ⟨fun pins s D σ H I ⟨_, _, _, _, _, _, _, h⟩ => h.elim⟩
end
/-! ### comprehensions -/
theorem compD_ok {α : Type} {en : α → D} {g : D → Rho → Option Rho} {c : Rho → R Bool} {f : Rho → R D} {ρ : Rho} (p : α → Bool) (q : α → D) : ∀ {xs : List α}, (∀ x ∈ xs, ∃ ρ', g (en x) ρ = some ρ' ∧ c ρ' = .ok (p x) ∧ (p x = true → f ρ' = .ok (q x) ∧ kept (q x) = true)) →
    compD g c f ρ (xs.map en) = .ok ((xs.filter p).map q)
  | [], _ => rfl
  | x :: xs, h => by
    obtain ⟨ρ', h1, h2, h3⟩ := h x (List.mem_cons_self)
    have ih := compD_ok (en := en) (g := g) (c := c) (f := f) (ρ := ρ) p q (xs := xs) fun y hy => h y (List.mem_cons_of_mem _ hy)
    rw [List.map_cons]
    unfold compD
    simp only [h1, h2, noExc, R.bind_ok]
    cases hp : p x with
    | false => rw [List.filter_cons_of_neg (by simp [hp]), if_neg (by simp), ih]
    | true =>
      obtain ⟨h4, h5⟩ := h3 hp
      rw [List.filter_cons_of_pos hp, if_pos rfl, h4]
      simp only [R.bind_ok, h5, if_true, ih, R.map_ok, List.map_cons]
theorem compD_all {α : Type} {en : α → D} {g : D → Rho → Option Rho} {f : Rho → R D} {ρ : Rho} (q : α → D) {xs : List α} (h : ∀ x ∈ xs, ∃ ρ', g (en x) ρ = some ρ' ∧ f ρ' = .ok (q x) ∧ kept (q x) = true) :
    compD g eYes f ρ (xs.map en) = .ok (xs.map q) := by
  have := compD_ok (en := en) (g := g) (c := eYes) (f := f) (ρ := ρ) (fun _ => true) q (xs := xs) fun x hx => by
    obtain ⟨ρ', a, b, c⟩ := h x hx
    exact ⟨ρ', a, rfl, fun _ => ⟨b, c⟩⟩
  rw [this, List.filter_eq_self.mpr fun _ _ => rfl]
theorem oComp_ok {vs : List Nat} {fi : Rho → R (List D)} {g : D → Rho → Option Rho} {c : Rho → R Bool} {f : Rho → R D} {ρ : Rho} {ds ys : List D} (h : fi ρ = .ok ds) (hl : ds.length ≤ 16777216) (hc : compD g c f (wipeD ρ vs) ds = .ok ys) : oComp vs fi g c f ρ = .ok ys := by
  unfold oComp
  rw [h, R.bind_ok, if_pos (show ds.length ≤ sizeLine from hl), hc]
theorem rngL_map {lo : Int} {n : Nat} : rngL lo 1 n = (List.range n).map fun i => D.int (lo + (i : Nat)) := by
  unfold rngL
  refine List.map_congr_left fun i _ => by rw [Int.mul_one]
theorem rngL_0 {n : Nat} : rngL 0 1 n = (List.range n).map fun i => D.int (i : Nat) := by
  rw [rngL_map]
  exact List.map_congr_left fun i _ => by rw [Int.zero_add]
theorem signs_map {z : Str} : signs z = z.cps.toList.map fun c => D.str ⟨#[c]⟩ := rfl
theorem blsOf_map : ∀ (bs : List Bool), blsOf (bs.map D.bl) = some bs
  | [] => rfl
  | b :: bs => by
    show (blsOf (bs.map D.bl)).map (b :: ·) = _
    rw [blsOf_map bs]; rfl
theorem allD_map {α : Type} {q : α → Bool} {xs : List α} : allD [.lst (xs.map fun x => D.bl (q x))] = .ok (.bl (xs.all q)) := by
  show (optR (blsOf (xs.map fun x => D.bl (q x)))).map (fun ns => D.bl (ns.all id)) = _
  rw [show (xs.map fun x => D.bl (q x)) = (xs.map q).map D.bl by simp, blsOf_map]
  show R.ok (D.bl ((xs.map q).all id)) = _
  simp [List.all_map, Function.comp_def]
theorem anyD_map {α : Type} {q : α → Bool} {xs : List α} : anyD [.lst (xs.map fun x => D.bl (q x))] = .ok (.bl (xs.any q)) := by
  show (optR (blsOf (xs.map fun x => D.bl (q x)))).map (fun ns => D.bl (ns.any id)) = _
  rw [show (xs.map fun x => D.bl (q x)) = (xs.map q).map D.bl by simp, blsOf_map]
  show R.ok (D.bl ((xs.map q).any id)) = _
  simp [List.any_map, Function.comp_def]
theorem iR1_ok {f : Rho → R (List D)} {ρ : Rho} {j : Int} (h : f ρ = .ok [.int j]) (hj : big62 j) : iR1 f ρ = .ok (rngL 0 1 j.toNat) := by
  unfold iR1
  rw [h, R.bind_ok]; exact if_pos hj
/-! ### == of typed data -/
class EncP (α : Type) [Enc α] [DecidableEq α] where
  pd : α → PyData
  good : α → Prop
  dp : Nat
  to : ∀ a : α, toP (Enc.enc a) = some (pd a)
  lay : ∀ a, good a → (pd a).canLay0 = true
  dep : ∀ a, (pd a).depth ≤ dp
  eqv : ∀ a b, PyData.eqv (pd a) (pd b) = decide (a = b)
  bor : ∀ a : α, deb (Enc.enc a) = Enc.enc a
instance : EncP Int := ⟨.int, fun _ => True, 0, fun _ => rfl, fun _ _ => rfl, fun _ => Nat.zero_le _, fun a b => by
  show (a == b) = decide (a = b)
  rfl, fun _ => rfl⟩
instance : EncP Bool := ⟨.bool, fun _ => True, 0, fun _ => rfl, fun _ _ => rfl, fun _ => Nat.zero_le _, fun a b => by
  show (a == b) = decide (a = b)
  cases a <;> cases b <;> rfl, fun _ => rfl⟩
instance : EncP Str := ⟨.str, fun z => PyData.strOk z = true, 0, fun _ => rfl, fun _ h => h, fun _ => Nat.zero_le _, fun a b => by
  show (a == b) = decide (a = b)
  rfl, fun _ => rfl⟩
theorem toPs_enc {α : Type} [Enc α] [DecidableEq α] [EncP α] : ∀ l : List α, toPs (l.map Enc.enc) = some (l.map EncP.pd)
  | [] => rfl
  | a :: l => by
    show (toP (Enc.enc a)).bind (fun p => (toPs (l.map Enc.enc)).map (p :: ·)) = _
    rw [EncP.to, toPs_enc l]; rfl
theorem lay_all {α : Type} [Enc α] [DecidableEq α] [EncP α] : ∀ l : List α, (∀ a ∈ l, EncP.good a) → PyData.canLayAll0 (l.map EncP.pd) = true
  | [], _ => rfl
  | a :: l, h => by
    show ((EncP.pd a).canLay0 && PyData.canLayAll0 (l.map EncP.pd)) = true
    rw [EncP.lay a (h a List.mem_cons_self), lay_all l fun b hb => h b (List.mem_cons_of_mem _ hb)]; rfl
theorem dep_all {α : Type} [Enc α] [DecidableEq α] [EncP α] : ∀ l : List α, PyData.depthAll (l.map EncP.pd) ≤ EncP.dp α
  | [] => Nat.zero_le _
  | a :: l => by
    show max (EncP.pd a).depth (PyData.depthAll (l.map EncP.pd)) ≤ EncP.dp α
    exact Nat.max_le.mpr ⟨EncP.dep a, dep_all l⟩
theorem eqv_all {α : Type} [Enc α] [DecidableEq α] [EncP α] : ∀ l m : List α, PyData.eqvAll (l.map EncP.pd) (m.map EncP.pd) = decide (l = m)
  | [], [] => rfl
  | [], _ :: _ => rfl
  | _ :: _, [] => rfl
  | a :: l, b :: m => by
    show (PyData.eqv (EncP.pd a) (EncP.pd b) && PyData.eqvAll (l.map EncP.pd) (m.map EncP.pd)) = _
    rw [EncP.eqv, eqv_all l m]
    by_cases h : a = b <;> by_cases h' : l = m <;> simp [h, h']
instance {α : Type} [Enc α] [DecidableEq α] [EncP α] : EncP (List α) := ⟨fun l => .list (l.map EncP.pd), fun l => ∀ a ∈ l, EncP.good a, EncP.dp α + 1, fun l => by
    show (toPs (l.map Enc.enc)).map PyData.list = _
    rw [toPs_enc]; rfl, fun l h => lay_all l h, fun l => by
    have := dep_all l
    show PyData.depthAll (l.map EncP.pd) + 1 ≤ _
    omega, fun l m => eqv_all l m, fun _ => rfl⟩
instance {α β : Type} [Enc α] [DecidableEq α] [EncP α] [Enc β] [DecidableEq β] [EncP β] : EncP (α × β) := ⟨fun p => .tuple [EncP.pd p.1, EncP.pd p.2], fun p => EncP.good p.1 ∧ EncP.good p.2, max (EncP.dp α) (EncP.dp β) + 1, fun p => by
    show ((toP (Enc.enc p.1)).bind fun a => ((toP (Enc.enc p.2)).bind fun b => (some []).map (b :: ·)).map (a :: ·)).map PyData.tuple = _
    rw [EncP.to, EncP.to]; rfl, fun p h => by
    show ((EncP.pd p.1).canLay0 && ((EncP.pd p.2).canLay0 && true)) = true
    rw [EncP.lay _ h.1, EncP.lay _ h.2]; rfl, fun p => by
    have h1 := EncP.dep p.1
    have h2 := EncP.dep p.2
    show max (EncP.pd p.1).depth (max (EncP.pd p.2).depth 0) + 1 ≤ _
    omega, fun p q => by
    show (PyData.eqv (EncP.pd p.1) (EncP.pd q.1) && (PyData.eqv (EncP.pd p.2) (EncP.pd q.2) && true)) = _
    rw [EncP.eqv, EncP.eqv]
    obtain ⟨a, b⟩ := p
    obtain ⟨c, d⟩ := q
    by_cases h : a = c <;> by_cases h' : b = d <;> simp [h, h'], fun _ => rfl⟩
section
variable {α : Type} [Enc α] [DecidableEq α] [EncP α]
theorem shaped_enc {a : α} (h : EncP.good a) (hd : EncP.dp α ≤ 64) : SeqAt.shaped (EncP.pd a) = true := by
  have := EncP.dep a
  unfold SeqAt.shaped
  rw [EncP.lay a h, decide_eq_true (by omega)]; rfl
theorem eqD_enc {a b : α} (h1 : EncP.good a) (h2 : EncP.good b) (hd : EncP.dp α ≤ 64 := by decide) : eqD (Enc.enc a) (Enc.enc b) = .ok (.bl (decide (a = b))) := by
  unfold eqD
  rw [EncP.bor, EncP.bor, EncP.to, EncP.to]
  show (if _ ∧ _ then R.ok (D.bl (PyData.eqv _ _)) else .stuck) = _
  rw [if_pos ⟨shaped_enc h1 hd, shaped_enc h2 hd⟩, EncP.eqv]
theorem neD_enc {a b : α} (h1 : EncP.good a) (h2 : EncP.good b) (hd : EncP.dp α ≤ 64 := by decide) : neD (Enc.enc a) (Enc.enc b) = .ok (.bl (!decide (a = b))) := by
  unfold neD
  rw [EncP.bor, EncP.bor, EncP.to, EncP.to]
  show (if _ ∧ _ then R.ok (D.bl (!PyData.eqv _ _)) else .stuck) = _
  rw [if_pos ⟨shaped_enc h1 hd, shaped_enc h2 hd⟩, EncP.eqv]
end
theorem eqD_str {a b : Str} (h1 : PyData.strOk a = true) (h2 : PyData.strOk b = true) : eqD (.str a) (.str b) = .ok (.bl (decide (a = b))) := eqD_enc (a := a) (b := b) h1 h2
theorem neD_str {a b : Str} (h1 : PyData.strOk a = true) (h2 : PyData.strOk b = true) : neD (.str a) (.str b) = .ok (.bl (!decide (a = b))) := neD_enc (a := a) (b := b) h1 h2
theorem eqD_nil {xs : List D} {ps : List PyData} (h : toPs xs = some ps) (hs : SeqAt.shaped (.list ps) = true) : eqD (.lst xs) (.lst []) = .ok (.bl xs.isEmpty) := by
  unfold eqD
  show (match (toPs xs).map PyData.list, (toPs []).map PyData.list with | some p, some q => if SeqAt.shaped p = true ∧ SeqAt.shaped q = true then R.ok (D.bl (PyData.eqv p q)) else .stuck | _, _ => .stuck) = _
  rw [h]
  show (if SeqAt.shaped (.list ps) = true ∧ SeqAt.shaped (.list []) = true then R.ok (D.bl (PyData.eqv (.list ps) (.list []))) else .stuck) = _
  rw [if_pos ⟨hs, rfl⟩]
  cases xs with
  | nil => cases h; rfl
  | cons x xs =>
    obtain ⟨p, e1, e2⟩ := Option.bind_eq_some_iff.mp (show (toP x).bind (fun p => (toPs xs).map (p :: ·)) = some ps from h)
    obtain ⟨qs, e3, rfl⟩ := Option.map_eq_some_iff.mp e2
    rfl
theorem flats_str : ∀ (zs : List Str), (zs.map D.str).all flatD = true
  | [] => rfl
  | z :: zs => by rw [List.map_cons, List.all_cons, flats_str zs]; rfl
theorem memF_str {z : Str} : ∀ (zs : List Str), memF (.str z) (zs.map D.str) = zs.contains z
  | [] => rfl
  | y :: zs => by
    have ih := memF_str (z := z) zs
    unfold memF at ih ⊢
    rw [List.map_cons, List.any_cons, ih, List.contains_cons]
    show ((y == z) || _) = ((z == y) || _)
    rw [show (y == z) = (z == y) from BEq.comm]
theorem inD_tupS {z : Str} {zs : List Str} : inD (.str z) (.tup (zs.map D.str)) = .ok (.bl (zs.contains z)) := by
  show (if flatD (.str z) = true ∧ (zs.map D.str).all flatD = true then R.ok (D.bl (memF (.str z) (zs.map D.str))) else .stuck) = _
  rw [if_pos ⟨rfl, flats_str zs⟩, memF_str]
theorem inD_lstS {z : Str} {zs : List Str} : inD (.str z) (.lst (zs.map D.str)) = .ok (.bl (zs.contains z)) := inD_tupS
theorem notInD_tupS {z : Str} {zs : List Str} : notInD (.str z) (.tup (zs.map D.str)) = .ok (.bl (!zs.contains z)) := by
  show (if flatD (.str z) = true ∧ (zs.map D.str).all flatD = true then R.ok (D.bl (!memF (.str z) (zs.map D.str))) else .stuck) = _
  rw [if_pos ⟨rfl, flats_str zs⟩, memF_str]
theorem notInD_lstS {z : Str} {zs : List Str} : notInD (.str z) (.lst (zs.map D.str)) = .ok (.bl (!zs.contains z)) := notInD_tupS
theorem inD_str {a b : Str} : inD (.str a) (.str b) = .ok (.bl (inS a b)) := rfl
theorem notInD_str {a b : Str} : notInD (.str a) (.str b) = .ok (.bl (!inS a b)) := rfl
theorem map_snd1 {a : Str} {b : Nat} : List.map (fun x : Str × Nat => x.2) [(a, b)] = [b] := rfl
theorem map_snd2 {a c : Str} {b d : Nat} : List.map (fun x : Str × Nat => x.2) [(a, b), (c, d)] = [b, d] := rfl
section
variable {t u : TD} {De : EndsD} {ρ : Rho} {c : Rho → R Bool} {f : Rho → R D} {d : D} {i : Nat}
theorem sSeq_i (h : t { De with nx := u De } ρ) : sSeq t u De ρ := h
theorem sNil_i (h : De.nx ρ) : sNil De ρ := h
theorem sIf_yes (h : c ρ = .ok true) (k : t De ρ) : sIf c t u De ρ := by
  unfold sIf; rw [h]; exact k
theorem sIf_no (h : c ρ = .ok false) (k : u De ρ) : sIf c t u De ρ := by
  unfold sIf; rw [h]; exact k
theorem sIf_skip {c : Rho → R Bool} (h : c ρ = .ok false) (k : De.nx ρ) : sIf c t sNil De ρ := sIf_no h k
theorem sSet_i (h : f ρ = .ok d) (k : kept d = true) (n : De.nx (ρ.set i (.d d))) : sSet i f De ρ := by
  unfold sSet; rw [h]; exact ⟨k, n⟩
theorem sSetO_i {f : Rho → R (List D)} {xs : List D} (h : f ρ = .ok xs) (n : De.nx (ρ.set i (.own xs))) : sSetO i f De ρ := by
  unfold sSetO; rw [h]; exact n
theorem sRet_i (h : f ρ = .ok d) (k : kept d = true) (n : De.rt (.d d)) : sRet f De ρ := by
  unfold sRet; rw [h]; exact ⟨k, n⟩
theorem sDrop_i (h : f ρ = .ok d) (n : De.nx ρ) : sDrop f De ρ := by
  unfold sDrop; rw [h]; exact n
theorem sAsg_i {g : D → Rho → Option Rho} {ρ' : Rho} (h : f ρ = .ok d) (k : kept d = true) (e : g d ρ = some ρ') (n : De.nx ρ') : sAsg f g De ρ := by
  unfold sAsg; rw [h]; exact ⟨k, ρ', e, n⟩
theorem sFor_i {f : Rho → R (List D)} {g : D → Rho → Option Rho} {ds : List D} (h : f ρ = .ok ds) (n : loopD g t De ds ρ) : sFor f g t De ρ := by
  unfold sFor; rw [h]; exact n
theorem sApp_i {xs : List D} (e : ρ[i]? = some (.own xs)) (h : f ρ = .ok d) (k : kept d = true) (hl : xs.length < 16777216) (n : De.nx (ρ.set i (.own (xs ++ [d])))) : sApp i f De ρ := by
  unfold sApp; rw [e]; simp only; rw [h]; exact ⟨k, hl, n⟩
variable {v : TD}
theorem seq_skip (h : c ρ = .ok false) (k : v De ρ) : sSeq (sIf c t sNil) v De ρ := sIf_no (De := { De with nx := v De }) h k
theorem seq_no (h : c ρ = .ok false) (k : u { De with nx := v De } ρ) : sSeq (sIf c t u) v De ρ := sIf_no (De := { De with nx := v De }) h k
theorem seq_yes (h : c ρ = .ok true) (k : t { De with nx := v De } ρ) : sSeq (sIf c t u) v De ρ := sIf_yes (De := { De with nx := v De }) h k
theorem seq_set (h : f ρ = .ok d) (k : kept d = true) (n : v De (ρ.set i (.d d))) : sSeq (sSet i f) v De ρ := sSet_i (De := { De with nx := v De }) h k n
theorem seq_setO {f : Rho → R (List D)} {xs : List D} (h : f ρ = .ok xs) (n : v De (ρ.set i (.own xs))) : sSeq (sSetO i f) v De ρ := sSetO_i (De := { De with nx := v De }) h n
theorem seq_drop (h : f ρ = .ok d) (n : v De ρ) : sSeq (sDrop f) v De ρ := sDrop_i (De := { De with nx := v De }) h n
theorem seq_asg {g : D → Rho → Option Rho} {ρ' : Rho} (h : f ρ = .ok d) (k : kept d = true) (e : g d ρ = some ρ') (n : v De ρ') : sSeq (sAsg f g) v De ρ := sAsg_i (De := { De with nx := v De }) h k e n
theorem seq_app {xs : List D} (e : ρ[i]? = some (.own xs)) (h : f ρ = .ok d) (k : kept d = true) (hl : xs.length < 16777216) (n : v De (ρ.set i (.own (xs ++ [d])))) : sSeq (sApp i f) v De ρ := sApp_i (De := { De with nx := v De }) e h k hl n
theorem seq_for {f : Rho → R (List D)} {g : D → Rho → Option Rho} {ds : List D} (h : f ρ = .ok ds) (n : loopD g t { De with nx := v De } ds ρ) : sSeq (sFor f g t) v De ρ := sFor_i (De := { De with nx := v De }) h n
theorem seq_frz {xs : List D} {n : Nat} (e : ρ[n]? = some (.own xs)) (k : t De (ρ.set n (.d (.lst xs)))) : sFrz n t De ρ := by
  unfold sFrz; rw [e]; exact k
end
theorem kk_int {i : Int} : kept (.int i) = true := rfl
theorem kk_str {i : Str} : kept (.str i) = true := rfl
theorem kk_bl {i : Bool} : kept (.bl i) = true := rfl
theorem kk_non : kept .non = true := rfl
theorem kk_tup {i : List D} : kept (.tup i) = true := rfl
theorem kk_lst {i : List D} : kept (.lst i) = true := rfl
theorem ifBl_bl {α : Type} {k : Bool} {t f : R α} : ifBl (.bl k) t f = if k = true then t else f := rfl
theorem listO_str {z : Str} (h : z.cps.size ≤ 16777216) : listO [.str z] = .ok (signs z) := if_pos h
theorem tupleD_str {z : Str} (h : z.cps.size ≤ 16777216) : tupleD [.str z] = .ok (.tup (signs z)) := if_pos h
theorem notInD_bls {b : Bool} : notInD (.bl b) (.tup [.bl true, .bl false]) = .ok (.bl false) := by cases b <;> rfl
theorem bind_if {α β : Type} {c : Prop} [Decidable c] {x y : R α} {k : α → R β} : (if c then x else y).bind k = if c then x.bind k else y.bind k := by split <;> rfl
theorem map_if {α β : Type} {c : Prop} [Decidable c] {x y : R α} {k : α → β} : (if c then x else y).map k = if c then x.map k else y.map k := by split <;> rfl
theorem go_if {α : Type} {c : Prop} [Decidable c] {x y : R α} {De : EndsD} {ρ : Rho} {k : α → Prop} : go De ρ (if c then x else y) k = if c then go De ρ x k else go De ρ y k := by split <;> rfl
theorem isN_non : isN .non = true := rfl
theorem isN_int {i : Int} : isN (.int i) = false := rfl
theorem isN_bl {i : Bool} : isN (.bl i) = false := rfl
theorem isN_str {i : Str} : isN (.str i) = false := rfl
theorem isN_tup {i : List D} : isN (.tup i) = false := rfl
theorem isN_lst {i : List D} : isN (.lst i) = false := rfl
theorem addD_str' {x y : Str} (h1 : x.length ≤ 1000000) (h2 : y.length ≤ 1000000) : addD (.str x) (.str y) = .ok (.str (x ++ y)) := addD_str (by omega)
/-! ### short rows -/
section
variable {a b c d e f g : D}
theorem okLen0 : okLen [] := ⟨rfl, by decide⟩
theorem okLen1 (ha : kept a = true) : okLen [a] := ⟨by simp [ha], show _ + 1 ≤ 16777216 by simp⟩
theorem okLen2 (ha : kept a = true) (hb : kept b = true) : okLen [a, b] := ⟨by simp [ha, hb], show _ + 1 ≤ 16777216 by simp⟩
theorem okLen3 (ha : kept a = true) (hb : kept b = true) (hc : kept c = true) : okLen [a, b, c] := ⟨by simp [ha, hb, hc], show _ + 1 ≤ 16777216 by simp⟩
theorem okLen4 (ha : kept a = true) (hb : kept b = true) (hc : kept c = true) (hd : kept d = true) : okLen [a, b, c, d] := ⟨by simp [ha, hb, hc, hd], show _ + 1 ≤ 16777216 by simp⟩
theorem okLen5 (ha : kept a = true) (hb : kept b = true) (hc : kept c = true) (hd : kept d = true) (he : kept e = true) : okLen [a, b, c, d, e] := ⟨by simp [ha, hb, hc, hd, he], show _ + 1 ≤ 16777216 by simp⟩
theorem okLen6 (ha : kept a = true) (hb : kept b = true) (hc : kept c = true) (hd : kept d = true) (he : kept e = true) (hf : kept f = true) : okLen [a, b, c, d, e, f] := ⟨by simp [ha, hb, hc, hd, he, hf], show _ + 1 ≤ 16777216 by simp⟩
theorem okLen7 (ha : kept a = true) (hb : kept b = true) (hc : kept c = true) (hd : kept d = true) (he : kept e = true) (hf : kept f = true) (hg : kept g = true) : okLen [a, b, c, d, e, f, g] := ⟨by simp [ha, hb, hc, hd, he, hf, hg], show _ + 1 ≤ 16777216 by simp⟩
end
/-! ### calls with typed data -/
section
variable {α β γ δ : Type} [Enc α] [Enc β] [Enc γ] [Enc δ]
theorem callR_fn1 {f : α → R RV} (a : α) {rv : RV} (h : f a = .ok rv) (k : kept (Enc.enc a) = true) : callR (fn1 f) [Enc.enc a] = .ok (rvD rv) := by
  unfold callR
  rw [if_pos (by rw [List.all_cons, k]; rfl), fn1_app, h]; rfl
theorem callR_fn2 {f : α → β → R RV} (a : α) (b : β) {rv : RV} (h : f a b = .ok rv) (k : kept (Enc.enc a) = true) (k2 : kept (Enc.enc b) = true) : callR (fn2 f) [Enc.enc a, Enc.enc b] = .ok (rvD rv) := by
  unfold callR
  rw [if_pos (by rw [List.all_cons, k, List.all_cons, k2]; rfl), fn2_app, h]; rfl
theorem callR_fn3 {f : α → β → γ → R RV} (a : α) (b : β) (c : γ) {rv : RV} (h : f a b c = .ok rv) (k : kept (Enc.enc a) = true) (k2 : kept (Enc.enc b) = true) (k3 : kept (Enc.enc c) = true) : callR (fn3 f) [Enc.enc a, Enc.enc b, Enc.enc c] = .ok (rvD rv) := by
  unfold callR
  rw [if_pos (by rw [List.all_cons, k, List.all_cons, k2, List.all_cons, k3]; rfl), fn3_app, h]; rfl
theorem callR_fn4 {f : α → β → γ → δ → R RV} (a : α) (b : β) (c : γ) (d : δ) {rv : RV} (h : f a b c d = .ok rv) (k : kept (Enc.enc a) = true) (k2 : kept (Enc.enc b) = true) (k3 : kept (Enc.enc c) = true) (k4 : kept (Enc.enc d) = true) : callR (fn4 f) [Enc.enc a, Enc.enc b, Enc.enc c, Enc.enc d] = .ok (rvD rv) := by
  unfold callR
  rw [if_pos (by rw [List.all_cons, k, List.all_cons, k2, List.all_cons, k3, List.all_cons, k4]; rfl), fn4_app, h]; rfl
end
/-- tuples of one kind -/
structure Tup (α : Type) where
  l : List α
  deriving DecidableEq
instance {α : Type} [Enc α] : Enc (Tup α) := ⟨fun l => .tup (l.l.map Enc.enc), fun d => match d with | .tup ds => (decs ds).map Tup.mk | _ => none, fun l => by
    show (decs (l.l.map Enc.enc)).map Tup.mk = some l
    rw [decs_encs]; rfl, fun d l h => by
  cases d with
  | tup ds =>
    obtain ⟨r, e, rfl⟩ := Option.map_eq_some_iff.mp (show (decs ds).map Tup.mk = some l from h)
    exact congrArg D.tup (encs_decs ds r e)
  | _ => cases h⟩
/-- nothing, or something -/
instance {α : Type} [Enc α] : Enc (Option (Tup α)) := ⟨fun l => match l with | none => .non | some l => Enc.enc l, fun d => match d with | .non => some none | d => (Enc.dec d).map some, fun l => by
    cases l with
    | none => rfl
    | some l =>
      show (Enc.dec (Enc.enc l)).map some = some (some l)
      rw [Enc.de]; rfl, fun d l h => by
  cases d with
  | non => cases h; rfl
  | tup ds =>
    obtain ⟨r, e, rfl⟩ := Option.map_eq_some_iff.mp (show ((Enc.dec (D.tup ds) : Option (Tup α))).map some = some l from h)
    exact Enc.ed _ _ e
  | _ => cases h⟩
/-- what promises nothing -/
theorem fnd_stuck [Tb] {P : Program} {w : World} {K : PySem.W.Frag} {mg : Str → Option Value} {base : Heap} {k : Nat} {fa : Addr} {fd : FuncData} {ps : List Str} {m : List D → R RV} (h : ∀ ds, m ds = .stuck) : FnD P w K mg base k fa fd ps m := by
  have no : ∀ {vs : List V} {H : Hp} {Q : VK} {E : XK}, spD K mg m vs H Q E → False := fun ⟨F, ds, _, _, p⟩ => by
    rw [h ds] at p; exact p
  exact ⟨fun vs H Q E q => (no q).elim, fun _ _ _ _ _ _ _ _ _ _ _ _ _ q => (no q).elim⟩
theorem cutG_drop {α : Type} {xs : List α} {q : Nat} : cutG xs (some (q : Int)) none = xs.drop q := by
  have e2 : HT.sIx xs.length xs.length none = xs.length := HT.sIx_none _ _
  unfold cutG
  rw [e2, show HT.sIx xs.length 0 (some (q : Int)) = min q xs.length from HT.sIx_nat _ _ q]
  by_cases h : q ≤ xs.length
  · rw [Nat.min_eq_left h, List.take_of_length_le (by simp)]
  · rw [Nat.min_eq_right (by omega), List.drop_of_length_le (by omega), List.drop_of_length_le (by omega)]; simp
end DL
set_option maxRecDepth 100000
set_option maxHeartbeats 4000000
namespace L2
open PySem PySem.Spec PyProof.Rows
theorem walk_ofW {lw : PySem.W.OpenLaw} {most lev : Nat} {vw : Program} {lo : List Str} {XX : (Str → Option Value) → Heap → Prop} {YY : World → Heap → Prop} {dr : DefRec} {CC : World → CXT} {par : Str}
    (hmost : lw.most = some most) (hsize : most ≤ sizeLine) (hno : dr.params.defaults = []) (hroom : Room lev callerA)
    (FF : ∀ (w : World) (mg : Str → Option Value) (at' : Addr) (hp : Heap), YY w hp → hp.Ns mainGlobals mg → mg dr.name = some (.ref at') →
      ∃ (K : PySem.W.Frag) (fdt : FuncData) (spc : Sp), K.In hp ∧ (∀ (sh : Shared) (val : Value), BindsTo sh fdt ⟨[val], []⟩ [(par, val)]) ∧
        (∀ (HH : Hp) (ad : Addr) (nums : List Int), nums.length ≤ most → Only HH → SqL K HH ad (nums.map V.int) → spc [.ref ad] HH (fun r _ => r = .bl true) fun _ _ _ => False) ∧
        ∀ bs : Heap, K.In bs → bs.Ns mainGlobals mg → FnOk lw.prog w K mg bs (CC w) lev at' fdt [par] spc)
    (hno2 : ∀ (w : World) (HH : Hp) (sh : Shared) (ev : Value) (sh' : Shared), CC w [] HH sh (fun _ _ _ => False) ev sh' → False) :
    PySem.W.WalkO vw lo XX YY lw.row.toRowW dr [] (fun g xs => PySem.call g xs) := by
  refine Att.attach_call hmost hno fun w sA sB mgl mbl fad ob pmm cdd dcc adr vls nums GG YB h1 h2 h3 h4 h5 h6 h7 h8 => ?_
  obtain ⟨KK, fdt, spc, inK, bnd, spv, fok⟩ := FF w mgl fad _ YB GG.T.g h4
  exact law_call inK GG.T.g GG.T.b GG.T.builtins GG.T.nolimit h8 h5 h6 (Nat.le_trans h7 hsize) hroom fok bnd (fun HH only sq => spv HH adr nums h7 only sq) fun HH ev sh' => hno2 w HH sB ev sh'
end L2
namespace DL
open PySem PySem.Spec PyProof.Rows L2
variable [Tb]
section
variable {K : PySem.W.Frag} {mg : Str → Option Value} {base h : Heap} {P : Program} {w : World}
theorem fun_of {x qual : Str} {st : Stmt} {f : Addr} {fd : FuncData} (F : FunD K x qual (defArgs st) (defBody st) (defScope st) [] [] f fd) : Fun K x qual st f fd := by
  obtain ⟨oc, od, dV, kV, doc, pm, an, cdv, ct, osl, h1, lk, hcd, hD, hK⟩ := F.ex
  rcases hD with ⟨_, rfl⟩ | ⟨e, _⟩
  · exact ⟨⟨oc, od, kV, doc, pm, an, cdv, ct, osl, h1, lk, hcd⟩, F.kp⟩
  · exact absurd rfl e
/-- texts within a tuple of the top's -/
def strsB : List Value → List Str → Bool
  | [], [] => true
  | .str y _ :: vs, z :: zs => decide (y = z) && strsB vs zs
  | _, _ => false
def tupB (K : PySem.W.Frag) (x : Str) (zs : List Str) : Bool := match PySem.W.nsIn K mainGlobals x with
  | some (some (.ref a)) => (match K.lookup a with
    | some ⟨.type c, _, .seq its _, _⟩ => decide (c = "tuple") && (decide (its.size ≤ 1000) && strsB its.toList zs)
    | _ => false)
  | _ => false
theorem strsB_ok {F : Hp} : ∀ {vs : List Value} {zs : List Str}, strsB vs zs = true → ∃ us, Vals us vs ∧ Reps K F (zs.map D.str) us
  | [], [], _ => ⟨[], .nil, rfl⟩
  | v :: vs, z :: zs, h => by
    cases v with
    | str y t =>
      obtain ⟨h1, h2⟩ := He.ba (show (decide (y = z) && strsB vs zs) = true from h)
      have e := of_decide_eq_true h1
      subst e
      obtain ⟨us, v1, r1⟩ := strsB_ok (F := F) h2
      exact ⟨V.str y :: us, .cons ⟨t, rfl⟩ v1, V.str y, us, rfl, rfl, r1⟩
    | _ => cases h
  | [], _ :: _, h => by cases h
  | _ :: _, [], h => by
    rename_i v vs
    cases v <;> cases h
theorem const_tup (X : K.In h) (G : h.Ns mainGlobals mg) {x : Str} {zs : List Str} (c : tupB K x zs = true) : ConstAt K mg x (.tup (zs.map D.str)) := by
  unfold tupB at c
  split at c
  · rename_i a e
    split at c
    · rename_i ty od its n sl lk
      obtain ⟨h1, h2⟩ := He.ba c
      obtain ⟨h3, h4⟩ := He.ba h2
      have e1 := of_decide_eq_true h1
      subst e1
      have hm := PySem.W.mg_of X G e
      refine ⟨.ref a, .ref a, hm, rfl, fun F => ?_⟩
      obtain ⟨us, v1, r1⟩ := strsB_ok (K := K) (F := F) h4
      exact ⟨a, us, rfl, .inr ⟨_, its, n, lk, rfl, rfl, Nat.le_trans (of_decide_eq_true h3) (by decide), v1⟩, r1⟩
    · cases c
  · cases c
theorem const_int (X : K.In h) (G : h.Ns mainGlobals mg) {x : Str} {i : Int} (c : (He.Fa.int x i).ok K = true) : ConstAt K mg x (.int i) := by
  obtain ⟨t, e⟩ := He.int_ok X G c
  exact ⟨_, V.int i, e, ⟨t, rfl⟩, fun F => rfl⟩
theorem const_str (X : K.In h) (G : h.Ns mainGlobals mg) {x z : Str} (c : (He.Fa.str x z).ok K = true) : ConstAt K mg x (.str z) := by
  obtain ⟨t, e⟩ := He.str_ok X G c
  exact ⟨_, V.str z, e, ⟨t, rfl⟩, fun F => rfl⟩
theorem reps_ints {F : Hp} : ∀ ns : List Int, Reps K F (ns.map D.int) (ns.map V.int)
  | [] => rfl
  | n :: ns => ⟨V.int n, ns.map V.int, rfl, rfl, reps_ints ns⟩
theorem law_sp {H : Hp} {a : Addr} {ns : List Int} {m : List D → R RV} (hm : m [.scr (ns.map D.int)] = .ok (.d (.bl true))) (h : SqL K H a (ns.map V.int)) (tt : LamX.Tabs Tb.T H) : spD K mg m [.ref a] H (fun v _ => v = .bl true) fun _ _ _ => False := by
  refine ⟨H, [.scr (ns.map D.int)], ⟨Same.refl _, tt⟩, ?_, ?_⟩
  · exact ⟨.ref a, [], rfl, ⟨a, ns.map V.int, rfl, h, reps_ints ns⟩, rfl⟩
  · rw [hm]
    intro v F' H' x r
    exact r
end
end DL
set_option maxRecDepth 100000
set_option maxHeartbeats 4000000
/-! DMa: statements read as functions of the slots; a def's model is its body's reading. -/
namespace DL
open PySem PySem.Spec PyProof.Rows L2
variable [Tb]
inductive Out where
  | nx (ρ : Rho) | rt (v : RV) | bk (ρ : Rho) | ct (ρ : Rho) | ex (e : Exn) (ρ : Rho) | stuck
abbrev SR := Rho → Out
def Out.td (De : EndsD) : Out → Prop
  | .nx ρ => De.nx ρ
  | .rt v => De.rt v
  | .bk ρ => De.bk ρ
  | .ct ρ => De.ct ρ
  | .ex e ρ => De.ex e ρ
  | .stuck => False
def toTD (r : SR) : TD := fun De ρ => (r ρ).td De
def R.out {α : Type} (r : R α) (ρ : Rho) (k : α → Out) : Out := match r with
  | .ok a => k a
  | .exc e => .ex e ρ
  | .stuck => .stuck
theorem R.out_ok {α : Type} (a : α) (ρ : Rho) (k : α → Out) : (R.ok a).out ρ k = k a := rfl
theorem R.out_exc {α : Type} (e : Exn) (ρ : Rho) (k : α → Out) : (R.exc e).out ρ k = .ex e ρ := rfl
theorem R.out_go {α : Type} {r : R α} {ρ : Rho} {k : α → Out} {De : EndsD} {k' : α → Prop} (h : (r.out ρ k).td De) (i : ∀ a, (k a).td De → k' a) : go De ρ r k' := by
  cases r with
  | ok a => exact i a h
  | exc e => exact h
  | stuck => exact h
section
variable {X : Cx} {W : WX} {pos : Pos} {st : Stmt} {sts : List Stmt} {r q : SR} {e : Expr} {f : Rho → R D} {fo : Rho → R (List D)}
abbrev FS (X : Cx) (W : WX) (st : Stmt) (r : SR) : Prop := DS X W st (toTD r)
abbrev FSs (X : Cx) (W : WX) (sts : List Stmt) (r : SR) : Prop := DSs X W sts (toTD r)
theorem DS.imp {t t' : TD} (h : DS X W st t) (i : ∀ De ρ, t' De ρ → t De ρ) : DS X W st t' := PS.imp h fun D σ H ⟨F0, H0, F, ρ, De, S, c, z⟩ => ⟨F0, H0, F, ρ, De, S, c, i De ρ z⟩
theorem DSs.imp {t t' : TD} (h : DSs X W sts t) (i : ∀ De ρ, t' De ρ → t De ρ) : DSs X W sts t' := PSs.imp h fun D σ H ⟨F0, H0, F, ρ, De, S, c, z⟩ => ⟨F0, H0, F, ρ, De, S, c, i De ρ z⟩
/-- a guard -/
def Out.when (c : Prop) [Decidable c] (o : Out) : Out := if c then o else .stuck
theorem Out.when_pos {c : Prop} [Decidable c] {o : Out} (h : c) : Out.when c o = o := if_pos h
theorem Out.when_td {c : Prop} [Decidable c] {o : Out} {De : EndsD} (h : (Out.when c o).td De) : c ∧ o.td De := by
  unfold Out.when at h
  split at h
  · exact ⟨‹_›, h⟩
  · exact h.elim
def rNil : SR := fun ρ => .nx ρ
def rSeq (a b : SR) : SR := fun ρ => match a ρ with
  | .nx ρ' => b ρ'
  | o => o
theorem fss_nil : FSs X W [] rNil := dss_nil
theorem fss_cons (h1 : FS X W st r) (h2 : FSs X W sts q) : FSs X W (st :: sts) (rSeq r q) := DSs.imp (dss_cons h1 h2) fun De ρ z => by
  show (r ρ).td { De with nx := toTD q De }
  have z : (rSeq r q ρ).td De := z
  unfold rSeq at z
  cases h : r ρ <;> rw [h] at z <;> exact z
theorem fss_one (h1 : FS X W st r) : FSs X W [st] r := dss_one h1
theorem fs_pass : FS X W (.Pass pos) rNil := ds_pass
def rBrk : SR := fun ρ => .bk ρ
def rCnt : SR := fun ρ => .ct ρ
theorem fs_break : FS X W (.Break pos) rBrk := ds_break
theorem fs_continue : FS X W (.Continue pos) rCnt := ds_continue
theorem fs_doc {x j pos pos'} : FS X W (.Expr (.Constant (.str x) j pos) pos') rNil := ds_doc
def rDrop (f : Rho → R D) : SR := fun ρ => (f ρ).out ρ fun _ => .nx ρ
theorem fs_expr (he : DE X W e f) (hs : swapsWith e none pos.line X.env = pure false := by rfl) : FS X W (.Expr e pos) (rDrop f) := DS.imp (ds_expr he hs) fun De ρ z => R.out_go z fun _ h => h
def rRet (f : Rho → R D) : SR := fun ρ => (f ρ).out ρ fun d => .when (kept d = true) (.rt (.d d))
theorem fs_ret (he : DE X W e f) : FS X W (.Return (some e) pos) (rRet f) := DS.imp (ds_ret he) fun De ρ z => R.out_go z fun _ h => Out.when_td h
def rRetO (f : Rho → R (List D)) : SR := fun ρ => (f ρ).out ρ fun xs => .rt (.own xs)
theorem fs_retO (he : DO X W e fo) : FS X W (.Return (some e) pos) (rRetO fo) := DS.imp (ds_retO he) fun De ρ z => R.out_go z fun _ h => h
def rRetV (i : Nat) : SR := fun ρ => match ρ[i]? with
  | some (.d x) => .rt (.d x)
  | some (.own xs) => .rt (.own xs)
  | _ => .stuck
theorem fs_retV (i : Nat) {x : Str} {p2 : Pos} (hN : X.N[i]? = some x := by rfl) (hv : Vis X.env.scope x := by first | exact Or.inl rfl | exact Or.inr (Or.inl rfl) | exact Or.inr (Or.inr rfl)) (hd : (x == ("__debug__" : Str)) = false := by decide)
    (hcd : (x == ("__classdict__" : Str)) = false := by decide) : FS X W (.Return (some (.Name x p2)) pos) (rRetV i) := DS.imp (ds_retV i hN hv hd hcd) fun De ρ z => by
  have z : (rRetV i ρ).td De := z
  unfold rRetV at z
  unfold sRetV
  generalize ρ[i]? = o at z ⊢
  cases o with
  | none => exact z
  | some s => cases s <;> exact z
def rRetN : SR := fun _ => .rt (.d .non)
theorem fs_retN : FS X W (.Return none pos) rRetN := ds_retN
def rIf (c : Rho → R Bool) (t u : SR) : SR := fun ρ => (c ρ).out ρ fun k => if k = true then t ρ else u ρ
theorem fs_if {c : Expr} {a b : List Stmt} {tc : Rho → R Bool} (hc : DT X W c tc) (ha : FSs X W a r) (hb : FSs X W b q) : FS X W (.If c a b pos) (rIf tc r q) := DS.imp (ds_if hc ha hb) fun De ρ z => R.out_go z fun k h => by
  cases k with
  | true => exact h
  | false => exact h
def Out.some (o : Option Rho) : Out := match o with
  | .some ρ => .nx ρ
  | .none => .stuck
def rAsg (f : Rho → R D) (g : D → Rho → Option Rho) : SR := fun ρ => (f ρ).out ρ fun d => .when (kept d = true) (.some (g d ρ))
theorem fs_asg {vs : List Nat} {tg : Expr} {g : D → Rho → Option Rho} (he : DE X W e f) (hg : DG X tg g vs) (hs : swapsWithSole [tg] e pos.line X.env = pure false := by rfl) (hw : swappedStores [tg] e X.env = pure none := by rfl)
    (h1 : (assignEach [tg] X.env).map (·.2) = [assign tg X.env] := by rfl) : FS X W (.Assign [tg] e pos) (rAsg f g) := DS.imp (ds_asg he hg hs hw h1) fun De ρ z => R.out_go z fun d h => by
  obtain ⟨k, h⟩ := Out.when_td h
  refine ⟨k, ?_⟩
  unfold Out.some at h
  split at h
  · exact ⟨_, ‹_›, h⟩
  · exact h.elim
def rSet (i : Nat) (f : Rho → R D) : SR := fun ρ => (f ρ).out ρ fun d => .when (kept d = true) (.nx (ρ.set i (.d d)))
theorem fs_set {i : Nat} {x : Str} {pos' : Pos} (hN : X.N.Nodup) (hi : X.N[i]? = some x) (hx : Loc X.env.scope x) (he : DE X W e f) (hs : swapsWith e (some (.Name x pos')) pos.line X.env = pure false := by rfl) (hf : X.fn x = true ∨ X.env.scope.names.lookup x = some .local := by first | exact .inl rfl | exact .inr rfl | assumption) :
    FS X W (.Assign [.Name x pos'] e pos) (rSet i f) := DS.imp (ds_set hN hi hx he hs hf) fun De ρ z => R.out_go z fun d h => Out.when_td h
def rSetO (i : Nat) (f : Rho → R (List D)) : SR := fun ρ => (f ρ).out ρ fun xs => .nx (ρ.set i (.own xs))
theorem fs_setO {i : Nat} {x : Str} {pos' : Pos} (hN : X.N.Nodup) (hi : X.N[i]? = some x) (hx : Loc X.env.scope x) (he : DO X W e fo) (hs : swapsWith e (some (.Name x pos')) pos.line X.env = pure false := by rfl) (hf : X.fn x = true ∨ X.env.scope.names.lookup x = some .local := by first | exact .inl rfl | exact .inr rfl | assumption) :
    FS X W (.Assign [.Name x pos'] e pos) (rSetO i fo) := DS.imp (ds_setO hN hi hx he hs hf) fun De ρ z => R.out_go z fun d h => h
def rFrz (i : Nat) (t : SR) : SR := fun ρ => match ρ[i]? with
  | some (.own xs) => t (ρ.set i (.d (.lst xs)))
  | _ => t ρ
theorem fss_frz (i : Nat) (h : FSs X W sts r) : FSs X W sts (rFrz i r) := DSs.imp (dss_frz i h) fun De ρ z => by
  have z : (rFrz i r ρ).td De := z
  unfold rFrz at z
  unfold sFrz
  generalize ρ[i]? = o at z ⊢
  cases o with
  | none => exact z
  | some s => cases s <;> exact z
def rApp (i : Nat) (f : Rho → R D) : SR := fun ρ => match ρ[i]? with
  | some (.own xs) => (f ρ).out ρ fun d => .when (kept d = true ∧ xs.length < 16777216) (.nx (ρ.set i (.own (xs ++ [d]))))
  | _ => .stuck
theorem fs_app {i : Nat} {x : Str} {p2 apos cpos : Pos} (he : DE X W e f) (hN : X.N[i]? = some x := by rfl) (hv : Vis X.env.scope x := by first | exact Or.inl rfl | exact Or.inr (Or.inl rfl) | exact Or.inr (Or.inr rfl)) (hd : (x == ("__debug__" : Str)) = false := by decide)
    (hcd : (x == ("__classdict__" : Str)) = false := by decide) (hst : starEach [e] X.env = (false, eval e X.env) :: starEach [] X.env := by rfl)
    (hb : attributeBase (.Name x p2) ("append" : Str) X.env (eval (.Name x p2) X.env) = eval (.Name x p2) X.env := by rfl) (hl : (apos.endLine == cpos.line) = true := by rfl)
    (hfew : (((backTo cpos (starEach [e] X.env)).all fun x => !x.1) && ((backToKw cpos (keywordEach [] X.env)).all fun x => x.1.isSome) && decide ([e].length + ([] : List Keyword).length + (if ([] : List Keyword).isEmpty then 0 else 1) < 30)) = true := by rfl)
    (hs : swapsWith (.Call (.Attribute (.Name x p2) "append" apos) [e] [] cpos) none pos.line X.env = pure false := by rfl) : FS X W (.Expr (.Call (.Attribute (.Name x p2) "append" apos) [e] [] cpos) pos) (rApp i f) := DS.imp (ds_app he hN hv hd hcd hst hb hl hfew hs) fun De ρ z => by
  have z : (rApp i f ρ).td De := z
  unfold rApp at z
  unfold sApp
  generalize ρ[i]? = o at z ⊢
  cases o with
  | none => exact z
  | some s =>
    cases s with
    | own xs =>
      refine R.out_go z fun d h => ?_
      obtain ⟨⟨k, l⟩, h⟩ := Out.when_td h
      exact ⟨k, l, h⟩
    | _ => exact z
def putD (xs : List D) (d : D) : D → Option (List D)
  | .int k => (ixN xs.length k).map fun n => xs.set n d
  | _ => none
def rPut (i : Nat) (fi fv : Rho → R D) : SR := fun ρ => match ρ[i]? with
  | some (.own xs) => (fv ρ).out ρ fun d => (fi ρ).out ρ fun j => .when (kept d = true) (match putD xs d j with
    | some ys => .nx (ρ.set i (.own ys))
    | none => .stuck)
  | _ => .stuck
theorem fs_put {i : Nat} {x : Str} {p2 spos : Pos} {ei : Expr} {fi : Rho → R D} (he : DE X W e f) (hi : DE X W ei fi) (hN : X.N[i]? = some x := by rfl) (hv : Vis X.env.scope x := by first | exact Or.inl rfl | exact Or.inr (Or.inl rfl) | exact Or.inr (Or.inr rfl)) (hd : (x == ("__debug__" : Str)) = false := by decide)
    (hcd : (x == ("__classdict__" : Str)) = false := by decide)
    (ha : ∀ v, assign (.Subscript (.Name x p2) ei spos) X.env v = (do
      let ov ← holding [v] (eval (.Name x p2) X.env)
      let iv ← holding [v, ov] (eval ei X.env)
      standAt spos
      holding [v, ov, iv] (setItem ov iv v)
      release [v, ov, iv] []) := by intro _; rfl)
    (hs : swapsWithSole [(.Subscript (.Name x p2) ei spos)] e pos.line X.env = pure false := by rfl) (hw : swappedStores [(.Subscript (.Name x p2) ei spos)] e X.env = pure none := by rfl)
    (h1 : (assignEach [(.Subscript (.Name x p2) ei spos)] X.env).map (·.2) = [assign (.Subscript (.Name x p2) ei spos) X.env] := by rfl) : FS X W (.Assign [.Subscript (.Name x p2) ei spos] e pos) (rPut i fi f) := DS.imp (ds_put he hi hN hv hd hcd ha hs hw h1) fun De ρ z => by
  have z : (rPut i fi f ρ).td De := z
  unfold rPut at z
  unfold sPut
  generalize ρ[i]? = o at z ⊢
  cases o with
  | none => exact z
  | some s =>
   cases s with
   | un => exact z
   | d x => exact z
   | own xs =>
    refine R.out_go z fun d h => R.out_go h fun j h => ?_
    obtain ⟨k, h⟩ := Out.when_td h
    refine ⟨k, ?_⟩
    cases hp : putD xs d j with
    | none => rw [hp] at h; exact h.elim
    | some ys =>
      rw [hp] at h
      cases j with
      | int kk =>
        obtain ⟨n, hn, rfl⟩ := Option.map_eq_some_iff.mp (show (ixN xs.length kk).map (fun n => xs.set n d) = some ys from hp)
        exact ⟨kk, n, rfl, hn, h⟩
      | _ => cases hp
def rAug (i : Nat) (g : D → D → R D) (f : Rho → R D) : SR := fun ρ => match ρ[i]? with
  | some (.d x) => (f ρ).out ρ fun y => (g x y).out ρ fun z => .when (kept z = true) (.nx (ρ.set i (.d z)))
  | _ => .stuck
theorem fs_aug {i : Nat} {x : Str} {op : Operator} {g : D → D → R D} {pos' : Pos} (hN : X.N.Nodup) (hi : X.N[i]? = some x) (hx : Loc X.env.scope x) (he : DE X W e f) (ho : IpD X op g) (hq : Calm2 g) (hf : X.fn x = true ∨ X.env.scope.names.lookup x = some .local := by first | exact .inl rfl | exact .inr rfl | assumption) :
    FS X W (.AugAssign (.Name x pos') op e pos) (rAug i g f) := DS.imp (ds_aug hN hi hx he ho hq hf) fun De ρ z => by
  have z : (rAug i g f ρ).td De := z
  unfold rAug at z
  unfold sAug
  generalize ρ[i]? = o at z ⊢
  cases o with
  | none => exact z
  | some s =>
    cases s with
    | d x => exact R.out_go z fun d h => R.out_go h fun d h => Out.when_td h
    | _ => exact z
def forR (g : D → Rho → Option Rho) (t : SR) : List D → Rho → Out
  | [], ρ => .nx ρ
  | d :: ds, ρ => match g d ρ with
    | none => .stuck
    | some ρ' => match t ρ' with
      | .nx ρ2 => forR g t ds ρ2
      | .ct ρ2 => forR g t ds ρ2
      | .bk ρ2 => .nx ρ2
      | o => o
theorem forR_td {g : D → Rho → Option Rho} {t : SR} {De : EndsD} : ∀ (ds : List D) (ρ : Rho), (forR g t ds ρ).td De → loopD g (toTD t) De ds ρ
  | [], ρ, h => h
  | d :: ds, ρ, h => by
    unfold forR at h
    unfold loopD
    cases e : g d ρ with
    | none => rw [e] at h; exact h.elim
    | some ρ' =>
      rw [e] at h
      refine ⟨ρ', rfl, ?_⟩
      show (t ρ').td _
      cases et : t ρ' with
      | nx ρ2 => simp only [et] at h; exact forR_td ds ρ2 h
      | ct ρ2 => simp only [et] at h; exact forR_td ds ρ2 h
      | bk ρ2 => simp only [et] at h; exact h
      | rt v => simp only [et] at h; exact h
      | ex x ρ2 => simp only [et] at h; exact h
      | stuck => simp only [et] at h; exact h
def rFor (f : Rho → R (List D)) (g : D → Rho → Option Rho) (t : SR) : SR := fun ρ => (f ρ).out ρ fun ds => forR g t ds ρ
theorem fs_for {vs : List Nat} {tg iter : Expr} {body : List Stmt} {g : D → Rho → Option Rho} (hp : PassesOwn (model X.prog X.w) X.A X.env X.xe) (hc : X.calm = true) (hi : DI X W tg iter fo) (hg : DG X tg g vs) (hb : FSs X W body r)
    (hs : ∀ x, foldedSetIterable iter X.env x = pure x := by intro _; rfl) : FS X W (.For tg iter body [] pos) (rFor fo g r) := DS.imp (ds_for hp hc hi hg hb hs) fun De ρ z => R.out_go z fun ds h => forR_td ds ρ h
def whileR (c : Rho → R Bool) (t : SR) : Nat → Rho → Out
  | 0, _ => .stuck
  | n + 1, ρ => (c ρ).out ρ fun b => if b = true then (match t ρ with
    | .nx ρ2 => whileR c t n ρ2
    | .ct ρ2 => whileR c t n ρ2
    | .bk ρ2 => .nx ρ2
    | o => o) else .nx ρ
theorem whileR_td {c : Rho → R Bool} {t : SR} {De : EndsD} : ∀ (n : Nat) (ρ : Rho), (whileR c t n ρ).td De → whileD c (toTD t) De n ρ
  | 0, ρ, h => h
  | n + 1, ρ, h => by
    unfold whileR at h
    unfold whileD
    refine R.out_go h fun b h => ?_
    cases b with
    | false => exact h
    | true =>
      show (t ρ).td _
      cases et : t ρ with
      | nx ρ2 => simp only [et, if_true] at h; exact whileR_td n ρ2 h
      | ct ρ2 => simp only [et, if_true] at h; exact whileR_td n ρ2 h
      | bk ρ2 => simp only [et, if_true] at h; exact h
      | rt v => simp only [et, if_true] at h; exact h
      | ex x ρ2 => simp only [et, if_true] at h; exact h
      | stuck => simp only [et, if_true] at h; exact h
theorem whileR_mono {c : Rho → R Bool} {t : SR} : ∀ (n m : Nat) (ρ : Rho), n ≤ m → whileR c t n ρ ≠ .stuck → whileR c t m ρ = whileR c t n ρ
  | 0, m, ρ, _, h => absurd rfl h
  | n + 1, 0, ρ, hl, h => by omega
  | n + 1, m + 1, ρ, hl, h => by
    unfold whileR at h ⊢
    cases ec : c ρ with
    | exc e => rfl
    | stuck => rfl
    | ok b =>
      rw [ec] at h
      cases b with
      | false => rfl
      | true =>
        simp only [R.out_ok, if_true] at h ⊢
        cases et : t ρ with
        | nx ρ2 => simp only [et] at h ⊢; exact whileR_mono n m ρ2 (by omega) h
        | ct ρ2 => simp only [et] at h ⊢; exact whileR_mono n m ρ2 (by omega) h
        | _ => rfl
open Classical in
noncomputable def rWhile (c : Rho → R Bool) (t : SR) : SR := fun ρ => if h : ∃ n, whileR c t n ρ ≠ .stuck then whileR c t (Classical.choose h) ρ else .stuck
theorem rWhile_of {c : Rho → R Bool} {t : SR} {ρ : Rho} (n : Nat) {o : Out} (h : whileR c t n ρ = o) (hs : o ≠ .stuck) : rWhile c t ρ = o := by
  have ex : ∃ n, whileR c t n ρ ≠ .stuck := ⟨n, by rw [h]; exact hs⟩
  unfold rWhile
  rw [dif_pos ex]
  have h2 := Classical.choose_spec ex
  rcases Nat.le_total n (Classical.choose ex) with l | l
  · rw [whileR_mono _ _ _ l (by rw [h]; exact hs), h]
  · rw [← whileR_mono _ _ _ l h2, h]
theorem fs_while {c : Expr} {tc : Rho → R Bool} {body : List Stmt} (hp : PassesOwn (model X.prog X.w) X.A X.env X.xe) (hc : DT X W c tc) (hb : FSs X W body r) : FS X W (.While c body [] pos) (rWhile tc r) := DS.imp (ds_while hp hc hb) fun De ρ z => by
  have z : (rWhile tc r ρ).td De := z
  unfold rWhile at z
  split at z
  · exact ⟨_, whileR_td _ _ z⟩
  · exact z.elim
end
/-! ### a def's model -/
def Out.res : Out → R RV
  | .nx _ => .ok (.d .non)
  | .rt v => .ok v
  | .ex e _ => .exc e
  | _ => .stuck
def runF (np n : Nat) (t : SR) : List D → R RV := fun ds => if ds.length = np then (t (startD n ds)).res else .stuck
section
variable {P : Program} {w : World} {K : PySem.W.Frag} {mg : Str → Option Value} {base : Heap} {x qual : Str} {st : Stmt} {fa : Addr} {fd : FuncData} {N ps : List Str} {k : Nat}
theorem okFT {np n : Nat} {r : SR} (Fu : Fun K x qual st fa fd) (Sc : FnScope N ps (defScope st)) (hp : ps.length = np) (hn : N.length = n)
    (hb : ∀ (cdv : Value), fd.code = cdv → ∀ (A : Around) (outer : List Env) (s : Shared) (H : Hp) (E : XK), Room k (A.deeper (envOfC qual (defScope st) s.heap.objs.size fa cdv)) →
      Takes (BodyX P w K mg base N qual st fa cdv A outer s H E) (WofE E) →
      PassesOwn (model P w) (A.deeper (envOfC qual (defScope st) s.heap.objs.size fa cdv)) (envOfC qual (defScope st) s.heap.objs.size fa cdv) (BodyX P w K mg base N qual st fa cdv A outer s H E).xe →
      FSs (BodyX P w K mg base N qual st fa cdv A outer s H E) (WofE E) (defBody st) r) : FnD P w K mg base (k + 1) fa fd ps (runF np n r) := by
  subst hp hn
  have key : ∀ ds, runF ps.length N.length r ds ≠ .stuck → ds.length = ps.length := fun ds h => by
    unfold runF at h
    split at h
    · assumption
    · exact absurd rfl h
  refine okDT Fu Sc key fun cdv hcode A outer s H E hr tk po => ⟨_, hb cdv hcode A outer s H E hr tk po, fun ds hl hs => ?_⟩
  show (r (startD N.length ds)).td (endsOf (runF ps.length N.length r ds))
  unfold runF at hs ⊢
  rw [if_pos hl] at hs ⊢
  cases e : r (startD N.length ds) with
  | nx ρ => rfl
  | rt v => rfl
  | ex x ρ => rfl
  | bk ρ => rw [e] at hs; exact absurd rfl hs
  | ct ρ => rw [e] at hs; exact absurd rfl hs
  | stuck => rw [e] at hs; exact absurd rfl hs
theorem okF {np n : Nat} {r : SR} (Fu : Fun K x qual st fa fd) (Sc : FnScope N ps (defScope st)) (hp : ps.length = np) (hn : N.length = n)
    (hb : ∀ (cdv : Value) (A : Around) (outer : List Env) (s : Shared) (H : Hp) (E : XK), Room k (A.deeper (envOfC qual (defScope st) s.heap.objs.size fa cdv)) →
      Takes (BodyX P w K mg base N qual st fa cdv A outer s H E) (WofE E) →
      PassesOwn (model P w) (A.deeper (envOfC qual (defScope st) s.heap.objs.size fa cdv)) (envOfC qual (defScope st) s.heap.objs.size fa cdv) (BodyX P w K mg base N qual st fa cdv A outer s H E).xe →
      FSs (BodyX P w K mg base N qual st fa cdv A outer s H E) (WofE E) (defBody st) r) : FnD P w K mg base (k + 1) fa fd ps (runF np n r) := okFT Fu Sc hp hn fun cdv _ => hb cdv
end
end DL
set_option maxRecDepth 100000
set_option maxHeartbeats 4000000
namespace DL
open PySem PySem.Spec PyProof.Rows L2
variable [Tb]
section
variable {X : Cx} {W : WX} {pos : Pos} {st : Stmt} {sts : List Stmt} {r q : SR} {e : Expr} {f : Rho → R D} {fo : Rho → R (List D)}
/-- what is never reached -/
def rDead : SR := fun _ => .stuck
theorem fs_dead : FS X W st rDead := DS.imp ds_dead fun De ρ z => z
theorem fs_setLc {elt tg iter : Expr} {ifs : List Expr} {scope : Scope} {own : List (Str × Nat)} {fi : Rho → R (List D)} {g : D → Rho → Option Rho} {c : Rho → R Bool} {ws : List Nat} {i : Nat} {y : Str} {py spos : Pos} (hc : X.calm = true) (hN : X.N.Nodup) (hy : X.N[i]? = some y) (hyl : X.env.scope.names.lookup y = some .local)
    (hsw : swapsWith (.ListComp elt [⟨tg, iter, ifs, 0⟩] scope pos) (some (.Name y py)) spos.line X.env = pure true) (hi : DIC X W tg iter fi) (ok : BlkOk X.N X.env.scope scope own)
    (hg : ∀ s H C cl fp, DG (Blk X scope s H C cl fp) tg g ws) (ht : ∀ s H C cl fp, PTs (Blk X scope s H C cl fp) ifs (tT X.K X.mg W0 c))
    (he : ∀ s H C cl fp, DE (Blk X scope s H C cl fp) W0 elt f) (hws : ∀ i ∈ ws, i ∈ own.map (·.2) := by decide) (hs : ∀ x, foldedSetIterable iter X.env x = pure x := by intro _; rfl) :
    FS X W (.Assign [.Name y py] (.ListComp elt [⟨tg, iter, ifs, 0⟩] scope pos) spos) (rSetO i (oComp (own.map (·.2)) fi g c f)) := DS.imp (ds_setLc hc hN hy hyl hsw hi ok hg ht he hws hs) fun De ρ z => R.out_go z fun d h => h
/-- try: body / except .., where the body raises nothing -/
def rThru (t : SR) : SR := fun ρ => match t ρ with
  | .ex _ _ => .stuck
  | o => o
theorem fs_thru {body : List Stmt} {h₀ : ExceptHandler} {hs : List ExceptHandler} (hb : FSs X.nox W0 body r) : FS X W (.Try body (h₀ :: hs) [] [] pos) (rThru r) := by
  refine PS.imp (ps_try_thru0 hb) fun D σ H ⟨F0, H0, F, ρ, De, S, c, z⟩ => ?_
  refine ⟨F0, H0, F, ρ, { De with ex := fun _ _ => False }, S, ⟨c.nx, c.rt, c.bk, c.ct, fun _ _ _ _ _ _ _ _ _ _ h => h.elim⟩, ?_⟩
  have z : (rThru r ρ).td De := z
  unfold rThru at z
  show (r ρ).td _
  cases h : r ρ <;> rw [h] at z <;> exact z
end
end DL
set_option maxRecDepth 100000
set_option maxHeartbeats 4000000
/-! DMc: the readings of statements as wishes (TD), both ways; a def's model by such a reading. -/
namespace DL
open PySem PySem.Spec PyProof.Rows L2
theorem R.out_td {α : Type} {r : R α} {ρ : Rho} {k : α → Out} {De : EndsD} : (r.out ρ k).td De = go De ρ r fun a => (k a).td De := by
  cases r <;> rfl
theorem when_td {c : Prop} [Decidable c] {o : Out} {De : EndsD} : (Out.when c o).td De = (c ∧ o.td De) := by
  unfold Out.when
  by_cases h : c
  · rw [if_pos h]; simp [h]
  · rw [if_neg h]; simp [h, Out.td]
theorem td_nil : toTD rNil = sNil := rfl
theorem td_seq {a b : SR} : toTD (rSeq a b) = sSeq (toTD a) (toTD b) := by
  funext De ρ
  show (rSeq a b ρ).td De = (a ρ).td { De with nx := toTD b De }
  unfold rSeq
  cases a ρ <;> rfl
theorem td_brk : toTD rBrk = sBrk := rfl
theorem td_cnt : toTD rCnt = sCnt := rfl
theorem td_dead : toTD rDead = sDead := rfl
theorem td_retN : toTD rRetN = sRetN := rfl
theorem td_drop {f : Rho → R D} : toTD (rDrop f) = sDrop f := by
  funext De ρ; exact R.out_td
theorem td_ret {f : Rho → R D} : toTD (rRet f) = sRet f := by
  funext De ρ
  show ((f ρ).out ρ _).td De = _
  rw [R.out_td]; simp only [when_td]; rfl
theorem td_retO {f : Rho → R (List D)} : toTD (rRetO f) = sRetO f := by
  funext De ρ; exact R.out_td
theorem td_retV {i : Nat} : toTD (rRetV i) = sRetV i := by
  funext De ρ
  show (rRetV i ρ).td De = _
  unfold rRetV sRetV
  cases ρ[i]? with
  | none => rfl
  | some s => cases s <;> rfl
theorem td_if {c : Rho → R Bool} {t u : SR} : toTD (rIf c t u) = sIf c (toTD t) (toTD u) := by
  funext De ρ
  show ((c ρ).out ρ _).td De = _
  rw [R.out_td]
  unfold sIf
  congr 1
  funext k
  cases k <;> rfl
theorem td_asg {f : Rho → R D} {g : D → Rho → Option Rho} : toTD (rAsg f g) = sAsg f g := by
  funext De ρ
  show ((f ρ).out ρ _).td De = _
  rw [R.out_td]
  unfold sAsg
  congr 1
  funext d
  rw [when_td]
  congr 1
  cases g d ρ with
  | none => simp [Out.some, Out.td]
  | some ρ' => simp [Out.some, Out.td]
theorem td_set {i : Nat} {f : Rho → R D} : toTD (rSet i f) = sSet i f := by
  funext De ρ
  show ((f ρ).out ρ _).td De = _
  rw [R.out_td]; simp only [when_td]; rfl
theorem td_setO {i : Nat} {f : Rho → R (List D)} : toTD (rSetO i f) = sSetO i f := by
  funext De ρ; exact R.out_td
theorem td_frz {i : Nat} {t : SR} : toTD (rFrz i t) = sFrz i (toTD t) := by
  funext De ρ
  show (rFrz i t ρ).td De = _
  unfold rFrz sFrz
  cases ρ[i]? with
  | none => rfl
  | some s => cases s <;> rfl
theorem td_app {i : Nat} {f : Rho → R D} : toTD (rApp i f) = sApp i f := by
  funext De ρ
  show (rApp i f ρ).td De = _
  unfold rApp sApp
  cases ρ[i]? with
  | none => rfl
  | some s =>
    cases s with
    | own xs => simp only [R.out_td, when_td, and_assoc]; rfl
    | _ => rfl
theorem td_put {i : Nat} {fi f : Rho → R D} : toTD (rPut i fi f) = sPut i fi f := by
  funext De ρ
  show (rPut i fi f ρ).td De = _
  unfold rPut sPut
  cases ρ[i]? with
  | none => rfl
  | some s =>
    cases s with
    | own xs =>
      simp only [R.out_td, when_td]
      congr 1
      funext d
      congr 1
      funext j
      congr 1
      apply propext
      constructor
      · intro h
        cases hp : putD xs d j with
        | none => rw [hp] at h; exact h.elim
        | some ys =>
          rw [hp] at h
          cases j with
          | int kk =>
            obtain ⟨n, hn, rfl⟩ := Option.map_eq_some_iff.mp (show (ixN xs.length kk).map (fun n => xs.set n d) = some ys from hp)
            exact ⟨kk, n, rfl, hn, h⟩
          | _ => cases hp
      · rintro ⟨k, n, rfl, hn, h⟩
        have hp : putD xs d (.int k) = some (xs.set n d) := by
          show (ixN xs.length k).map (fun n => xs.set n d) = _
          rw [hn]; rfl
        rw [hp]; exact h
    | _ => rfl
theorem td_aug {i : Nat} {g : D → D → R D} {f : Rho → R D} : toTD (rAug i g f) = sAug i g f := by
  funext De ρ
  show (rAug i g f ρ).td De = _
  unfold rAug sAug
  cases ρ[i]? with
  | none => rfl
  | some s =>
    cases s with
    | d x => simp only [R.out_td, when_td]; rfl
    | _ => rfl
theorem forR_td_eq {g : D → Rho → Option Rho} {t : SR} {De : EndsD} : ∀ (ds : List D) (ρ : Rho), (forR g t ds ρ).td De = loopD g (toTD t) De ds ρ
  | [], ρ => rfl
  | d :: ds, ρ => by
    unfold forR loopD
    cases e : g d ρ with
    | none => simp [Out.td]
    | some ρ' =>
      have : (∃ ρ'_1, some ρ' = some ρ'_1 ∧ toTD t { De with nx := loopD g (toTD t) De ds, ct := loopD g (toTD t) De ds, bk := De.nx } ρ'_1) = (t ρ').td { De with nx := loopD g (toTD t) De ds, ct := loopD g (toTD t) De ds, bk := De.nx } := by
        apply propext
        constructor
        · rintro ⟨_, h, z⟩; cases h; exact z
        · intro z; exact ⟨_, rfl, z⟩
      rw [this]
      show (match t ρ' with
        | .nx ρ2 => forR g t ds ρ2
        | .ct ρ2 => forR g t ds ρ2
        | .bk ρ2 => .nx ρ2
        | o => o).td De = _
      cases et : t ρ' with
      | nx ρ2 => exact forR_td_eq ds ρ2
      | ct ρ2 => exact forR_td_eq ds ρ2
      | _ => rfl
theorem td_for {f : Rho → R (List D)} {g : D → Rho → Option Rho} {t : SR} : toTD (rFor f g t) = sFor f g (toTD t) := by
  funext De ρ
  show ((f ρ).out ρ _).td De = _
  rw [R.out_td]
  simp only [forR_td_eq]
  rfl
theorem whileR_td' {c : Rho → R Bool} {t : SR} {De : EndsD} : ∀ (n : Nat) (ρ : Rho), whileD c (toTD t) De n ρ → (whileR c t n ρ).td De
  | 0, ρ, h => h
  | n + 1, ρ, h => by
    unfold whileD at h
    unfold whileR
    rw [R.out_td]
    cases ec : c ρ with
    | exc e => rw [ec] at h; exact h
    | stuck => rw [ec] at h; exact h
    | ok b =>
      rw [ec] at h
      cases b with
      | false => exact h
      | true =>
        have h : (t ρ).td { De with nx := whileD c (toTD t) De n, ct := whileD c (toTD t) De n, bk := De.nx } := h
        show (match t ρ with
          | .nx ρ2 => whileR c t n ρ2
          | .ct ρ2 => whileR c t n ρ2
          | .bk ρ2 => .nx ρ2
          | o => o).td De
        cases et : t ρ with
        | nx ρ2 => rw [et] at h; exact whileR_td' n ρ2 h
        | ct ρ2 => rw [et] at h; exact whileR_td' n ρ2 h
        | bk ρ2 => rw [et] at h; exact h
        | rt v => rw [et] at h; exact h
        | ex x ρ2 => rw [et] at h; exact h
        | stuck => rw [et] at h; exact h
theorem td_while {c : Rho → R Bool} {t : SR} : toTD (rWhile c t) = sWhile c (toTD t) := by
  funext De ρ
  apply propext
  constructor
  · intro z
    have z : (rWhile c t ρ).td De := z
    unfold rWhile at z
    split at z
    · exact ⟨_, whileR_td _ _ z⟩
    · exact z.elim
  · rintro ⟨n, h⟩
    have h2 := whileR_td' n ρ h
    show (rWhile c t ρ).td De
    rw [rWhile_of n rfl (fun e => by rw [e] at h2; exact h2)]
    exact h2
theorem td_thru {t : SR} : toTD (rThru t) = fun De ρ => toTD t { De with ex := fun _ _ => False } ρ := by
  funext De ρ
  show (rThru t ρ).td De = (t ρ).td _
  unfold rThru
  cases t ρ <;> rfl
theorem sRetO_i {f : Rho → R (List D)} {De : EndsD} {ρ : Rho} {xs : List D} (h : f ρ = .ok xs) (n : De.rt (.own xs)) : sRetO f De ρ := by
  unfold sRetO; rw [h]; exact n
theorem sRetV_d {i : Nat} {De : EndsD} {ρ : Rho} {d : D} (h : ρ[i]? = some (.d d)) (n : De.rt (.d d)) : sRetV i De ρ := by
  unfold sRetV; rw [h]; exact n
theorem sRetV_o {i : Nat} {De : EndsD} {ρ : Rho} {xs : List D} (h : ρ[i]? = some (.own xs)) (n : De.rt (.own xs)) : sRetV i De ρ := by
  unfold sRetV; rw [h]; exact n
theorem seq_frz_set {i j : Nat} {De : EndsD} {ρ : Rho} {xs : List D} (h : ρ[i]? = some (.own xs)) (n : De.nx ((ρ.set i (.d (.lst xs))).set j (.d (.lst xs)))) : sFrz i (sSet j (eV i)) De ρ := by
  unfold sFrz
  simp only [h]
  have hi : i < ρ.length := (List.getElem?_eq_some_iff.mp h).1
  unfold sSet eV
  rw [List.getElem?_set_self hi]
  exact ⟨rfl, n⟩
theorem seq_frz_app {i : Nat} {t : TD} {De : EndsD} {ρ : Rho} {xs : List D} (h : ρ[i]? = some (.own xs)) (n : t De (ρ.set i (.d (.lst xs)))) : sFrz i t De ρ := by
  unfold sFrz
  simp only [h]
  exact n
/-! ### models -/
theorem res_of {r : SR} {ρ : Rho} {res : R RV} (h : toTD r (endsOf res) ρ) : (r ρ).res = res := by
  have h : (r ρ).td (endsOf res) := h
  cases e : r ρ <;> rw [e] at h <;> first | exact Eq.symm h | exact h.elim
theorem run_of {np n : Nat} {t : SR} {ds : List D} {res : R RV} (hl : ds.length = np) (h : toTD t (endsOf res) (startD n ds)) : runF np n t ds = res := by
  unfold runF
  rw [if_pos hl]
  exact res_of h
section
variable {α β γ δ ε : Type} [Enc α] [Enc β] [Enc γ] [Enc δ] [Enc ε] {m : List D → R RV} {t : SR} {n : Nat}
theorem mo1 {f : α → R RV} (hm : m = runF 1 n t) (h : ∀ a, f a ≠ .stuck → toTD t (endsOf (f a)) (startD n [Enc.enc a])) : ∀ a, f a ≠ .stuck → m [Enc.enc a] = f a := fun a z => by
  rw [hm]; exact run_of rfl (h a z)
theorem mo2 {f : α → β → R RV} (hm : m = runF 2 n t) (h : ∀ a b, f a b ≠ .stuck → toTD t (endsOf (f a b)) (startD n [Enc.enc a, Enc.enc b])) : ∀ a b, f a b ≠ .stuck → m [Enc.enc a, Enc.enc b] = f a b := fun a b z => by
  rw [hm]; exact run_of rfl (h a b z)
theorem mo3 {f : α → β → γ → R RV} (hm : m = runF 3 n t) (h : ∀ a b c, f a b c ≠ .stuck → toTD t (endsOf (f a b c)) (startD n [Enc.enc a, Enc.enc b, Enc.enc c])) : ∀ a b c, f a b c ≠ .stuck → m [Enc.enc a, Enc.enc b, Enc.enc c] = f a b c := fun a b c z => by
  rw [hm]; exact run_of rfl (h a b c z)
theorem mo4 {f : α → β → γ → δ → R RV} (hm : m = runF 4 n t) (h : ∀ a b c d, f a b c d ≠ .stuck → toTD t (endsOf (f a b c d)) (startD n [Enc.enc a, Enc.enc b, Enc.enc c, Enc.enc d])) : ∀ a b c d, f a b c d ≠ .stuck → m [Enc.enc a, Enc.enc b, Enc.enc c, Enc.enc d] = f a b c d := fun a b c d z => by
  rw [hm]; exact run_of rfl (h a b c d z)
theorem callR_of {ds : List D} {rv : RV} (h : m ds = .ok rv) (k : ds.all kept = true) : callR m ds = .ok (rvD rv) := by
  unfold callR
  rw [if_pos k, h]; rfl
theorem callR_ex {ds : List D} {e : Exn} (h : m ds = .exc e) (k : ds.all kept = true) : callR m ds = .exc e := by
  unfold callR
  rw [if_pos k, h]; rfl
theorem callO_of {ds xs : List D} (h : m ds = .ok (.own xs)) (k : ds.all kept = true) : callO m ds = .ok xs := by
  unfold callO
  rw [if_pos k, h]; rfl
theorem callR_m1 {f : α → R RV} (mo : ∀ a, f a ≠ .stuck → m [Enc.enc a] = f a) (a : α) {rv : RV} (h : f a = .ok rv) (k : kept (Enc.enc a) = true) : callR m [Enc.enc a] = .ok (rvD rv) :=
  callR_of ((mo a (by rw [h]; intro z; cases z)).trans h) (by simp [k])
theorem callR_m2 {f : α → β → R RV} (mo : ∀ a b, f a b ≠ .stuck → m [Enc.enc a, Enc.enc b] = f a b) (a : α) (b : β) {rv : RV} (h : f a b = .ok rv) (k : kept (Enc.enc a) = true) (k2 : kept (Enc.enc b) = true) : callR m [Enc.enc a, Enc.enc b] = .ok (rvD rv) :=
  callR_of ((mo a b (by rw [h]; intro z; cases z)).trans h) (by simp [k, k2])
theorem callR_m3 {f : α → β → γ → R RV} (mo : ∀ a b c, f a b c ≠ .stuck → m [Enc.enc a, Enc.enc b, Enc.enc c] = f a b c) (a : α) (b : β) (c : γ) {rv : RV} (h : f a b c = .ok rv) (k : kept (Enc.enc a) = true) (k2 : kept (Enc.enc b) = true) (k3 : kept (Enc.enc c) = true) : callR m [Enc.enc a, Enc.enc b, Enc.enc c] = .ok (rvD rv) :=
  callR_of ((mo a b c (by rw [h]; intro z; cases z)).trans h) (by simp [k, k2, k3])
theorem callR_m4 {f : α → β → γ → δ → R RV} (mo : ∀ a b c d, f a b c d ≠ .stuck → m [Enc.enc a, Enc.enc b, Enc.enc c, Enc.enc d] = f a b c d) (a : α) (b : β) (c : γ) (d : δ) {rv : RV} (h : f a b c d = .ok rv) (k : kept (Enc.enc a) = true) (k2 : kept (Enc.enc b) = true) (k3 : kept (Enc.enc c) = true) (k4 : kept (Enc.enc d) = true) : callR m [Enc.enc a, Enc.enc b, Enc.enc c, Enc.enc d] = .ok (rvD rv) :=
  callR_of ((mo a b c d (by rw [h]; intro z; cases z)).trans h) (by simp [k, k2, k3, k4])
end
end DL
set_option maxRecDepth 100000
set_option maxHeartbeats 4000000
/-! DSa: trees of ints, ordered as Python orders ints and tuples. -/
namespace DL
open PySem PySem.Spec PyProof.Rows L2
inductive IT where
  | i (n : Int)
  | t (xs : List IT)
noncomputable instance : DecidableEq IT := fun _ _ => Classical.propDecidable _
mutual
noncomputable def ltI : IT → IT → Bool
  | .i a, .i b => decide (a < b)
  | .i _, .t _ => true
  | .t _, .i _ => false
  | .t xs, .t ys => ltL xs ys
noncomputable def ltL : List IT → List IT → Bool
  | [], [] => false
  | [], _ :: _ => true
  | _ :: _, [] => false
  | x :: xs, y :: ys => if x = y then ltL xs ys else ltI x y
end
/-! comparable at every place -/
mutual
def cmpI : IT → IT → Bool
  | .i _, .i _ => true
  | .t xs, .t ys => cmpL xs ys
  | _, _ => false
def cmpL : List IT → List IT → Bool
  | x :: xs, y :: ys => cmpI x y && cmpL xs ys
  | _, _ => true
end
mutual
theorem ltI_irr : ∀ a : IT, ltI a a = false
  | .i a => by simp [ltI]
  | .t xs => by rw [ltI]; exact ltL_irr xs
theorem ltL_irr : ∀ xs : List IT, ltL xs xs = false
  | [] => by simp [ltL]
  | x :: xs => by rw [ltL, if_pos rfl]; exact ltL_irr xs
end
mutual
theorem ltI_tot : ∀ a b : IT, a ≠ b → ltI a b = false → ltI b a = true
  | .i a, .i b, hn, h => by
    simp only [ltI, decide_eq_false_iff_not, decide_eq_true_eq] at h ⊢
    have : a ≠ b := fun e => hn (by rw [e])
    omega
  | .i _, .t _, _, h => by simp [ltI] at h
  | .t _, .i _, _, _ => by simp [ltI]
  | .t xs, .t ys, hn, h => by
    rw [ltI] at h ⊢
    exact ltL_tot xs ys (fun e => hn (by rw [e])) h
theorem ltL_tot : ∀ xs ys : List IT, xs ≠ ys → ltL xs ys = false → ltL ys xs = true
  | [], [], hn, _ => absurd rfl hn
  | [], _ :: _, _, h => by simp [ltL] at h
  | _ :: _, [], _, _ => by simp [ltL]
  | x :: xs, y :: ys, hn, h => by
    rw [ltL] at h ⊢
    by_cases e : x = y
    · subst e
      rw [if_pos rfl] at h ⊢
      exact ltL_tot xs ys (fun e => hn (by rw [e])) h
    · rw [if_neg e] at h
      rw [if_neg (Ne.symm e)]
      exact ltI_tot x y e h
end
mutual
theorem ltI_asym : ∀ a b : IT, ltI a b = true → ltI b a = false
  | .i a, .i b, h => by
    simp only [ltI, decide_eq_false_iff_not, decide_eq_true_eq] at h ⊢
    omega
  | .i _, .t _, _ => by simp [ltI]
  | .t _, .i _, h => by simp [ltI] at h
  | .t xs, .t ys, h => by
    rw [ltI] at h ⊢
    exact ltL_asym xs ys h
theorem ltL_asym : ∀ xs ys : List IT, ltL xs ys = true → ltL ys xs = false
  | [], [], h => by simp [ltL] at h
  | [], _ :: _, _ => by simp [ltL]
  | _ :: _, [], h => by simp [ltL] at h
  | x :: xs, y :: ys, h => by
    rw [ltL] at h ⊢
    by_cases e : x = y
    · subst e
      rw [if_pos rfl] at h ⊢
      exact ltL_asym xs ys h
    · rw [if_neg e] at h
      rw [if_neg (Ne.symm e)]
      exact ltI_asym x y h
end
mutual
theorem ltI_trans : ∀ a b c : IT, ltI a b = true → ltI b c = true → ltI a c = true
  | .i a, .i b, .i c, h, h' => by
    simp only [ltI, decide_eq_true_eq] at h h' ⊢
    omega
  | .i _, .i _, .t _, _, _ => by simp [ltI]
  | .i _, .t _, .i _, _, h' => by simp [ltI] at h'
  | .i _, .t _, .t _, _, _ => by simp [ltI]
  | .t _, .i _, _, h, _ => by simp [ltI] at h
  | .t _, .t _, .i _, _, h' => by simp [ltI] at h'
  | .t xs, .t ys, .t zs, h, h' => by
    rw [ltI] at h h' ⊢
    exact ltL_trans xs ys zs h h'
theorem ltL_trans : ∀ xs ys zs : List IT, ltL xs ys = true → ltL ys zs = true → ltL xs zs = true
  | [], [], _, h, _ => by simp [ltL] at h
  | [], _ :: _, [], _, h' => by simp [ltL] at h'
  | [], _ :: _, _ :: _, _, _ => by simp [ltL]
  | _ :: _, [], _, h, _ => by simp [ltL] at h
  | _ :: _, _ :: _, [], _, h' => by simp [ltL] at h'
  | x :: xs, y :: ys, z :: zs, h, h' => by
    rw [ltL] at h h' ⊢
    by_cases e : x = y
    · subst e
      rw [if_pos rfl] at h
      by_cases e2 : x = z
      · subst e2
        rw [if_pos rfl] at h' ⊢
        exact ltL_trans xs ys zs h h'
      · rw [if_neg e2] at h' ⊢
        exact h'
    · rw [if_neg e] at h
      by_cases e2 : y = z
      · subst e2
        rw [if_neg e]; exact h
      · rw [if_neg e2] at h'
        have t := ltI_trans x y z h h'
        have : x ≠ z := fun q => by
          subst q
          rw [ltI_irr] at t; cases t
        rw [if_neg this]; exact t
end
theorem swo_it : SrtO.Swo ltI := ⟨fun a b h => ltI_asym a b h, fun x y z h1 h2 => by
  -- y is not below x, z is not below y
  by_cases e : x = y
  · subst e; exact h2
  · by_cases e2 : y = z
    · subst e2; exact h1
    · have a := ltI_tot y x (Ne.symm e) h1
      have b := ltI_tot z y (Ne.symm e2) h2
      exact ltI_asym _ _ (ltI_trans x y z a b)⟩
/-! ### as data -/
mutual
def pdI : IT → PyData
  | .i n => .int n
  | .t xs => .tuple (pdL xs)
def pdL : List IT → List PyData
  | [] => []
  | x :: xs => pdI x :: pdL xs
end
mutual
def dI : IT → D
  | .i n => .int n
  | .t xs => .tup (dL xs)
def dL : List IT → List D
  | [] => []
  | x :: xs => dI x :: dL xs
end
theorem dL_map : ∀ xs, dL xs = xs.map dI
  | [] => rfl
  | x :: xs => by rw [dL, dL_map xs]; rfl
theorem pdL_map : ∀ xs, pdL xs = xs.map pdI
  | [] => rfl
  | x :: xs => by rw [pdL, pdL_map xs]; rfl
mutual
def toI : D → Option IT
  | .int n => some (.i n)
  | .tup xs => (toIL xs).map .t
  | _ => none
def toIL : List D → Option (List IT)
  | [] => some []
  | x :: xs => (toI x).bind fun a => (toIL xs).map (a :: ·)
end
mutual
theorem toI_dI : ∀ a : IT, toI (dI a) = some a
  | .i n => rfl
  | .t xs => by
    show (toIL (dL xs)).map IT.t = _
    rw [toIL_dL xs]; rfl
theorem toIL_dL : ∀ xs : List IT, toIL (dL xs) = some xs
  | [] => rfl
  | x :: xs => by
    show (toI (dI x)).bind (fun a => (toIL (dL xs)).map (a :: ·)) = _
    rw [toI_dI x, toIL_dL xs]; rfl
end
mutual
theorem dI_toI : ∀ (d : D) (a : IT), toI d = some a → d = dI a
  | .int n, a, h => by cases h; rfl
  | .tup xs, a, h => by
    obtain ⟨l, e, rfl⟩ := Option.map_eq_some_iff.mp (show (toIL xs).map IT.t = some a from h)
    rw [dI, dL_toIL xs l e]
  | .non, a, h => by cases h
  | .bl _, a, h => by cases h
  | .str _, a, h => by cases h
  | .lst _, a, h => by cases h
  | .bor _, a, h => by cases h
  | .obj _, a, h => by cases h
  | .ins _ _ _, a, h => by cases h
  | .ty _, a, h => by cases h
  | .scr _, a, h => by cases h
theorem dL_toIL : ∀ (ds : List D) (l : List IT), toIL ds = some l → ds = dL l
  | [], l, h => by cases h; rfl
  | d :: ds, l, h => by
    obtain ⟨a, e1, e2⟩ := Option.bind_eq_some_iff.mp (show (toI d).bind (fun a => (toIL ds).map (a :: ·)) = some l from h)
    obtain ⟨r, e3, rfl⟩ := Option.map_eq_some_iff.mp e2
    rw [dL, ← dI_toI d a e1, ← dL_toIL ds r e3]
end
mutual
theorem toP_dI : ∀ a : IT, toP (dI a) = some (pdI a)
  | .i n => rfl
  | .t xs => by
    show (toPs (dL xs)).map PyData.tuple = _
    rw [toPs_dL xs]; rfl
theorem toPs_dL : ∀ xs : List IT, toPs (dL xs) = some (pdL xs)
  | [] => rfl
  | x :: xs => by
    show (toP (dI x)).bind (fun p => (toPs (dL xs)).map (p :: ·)) = _
    rw [toP_dI x, toPs_dL xs]; rfl
end
mutual
theorem eqv_pdI : ∀ a b : IT, PyData.eqv (pdI a) (pdI b) = decide (a = b)
  | .i a, .i b => by
    simp only [pdI, PyData.eqv]
    by_cases h : a = b
    · subst h; simp
    · have : ¬ IT.i a = IT.i b := fun e => h (by injection e)
      simp [h, this]
  | .i a, .t ys => by simp [pdI, PyData.eqv]
  | .t xs, .i b => by simp [pdI, PyData.eqv]
  | .t xs, .t ys => by
    simp only [pdI, PyData.eqv]
    rw [eqv_pdL xs ys]
    by_cases h : xs = ys
    · subst h; simp
    · have : ¬ IT.t xs = IT.t ys := fun e => h (by injection e)
      simp [h, this]
theorem eqv_pdL : ∀ xs ys : List IT, PyData.eqvAll (pdL xs) (pdL ys) = decide (xs = ys)
  | [], [] => by simp [pdL, PyData.eqvAll]
  | [], _ :: _ => by simp [pdL, PyData.eqvAll]
  | _ :: _, [] => by simp [pdL, PyData.eqvAll]
  | x :: xs, y :: ys => by
    simp only [pdL, PyData.eqvAll]
    rw [eqv_pdI x y, eqv_pdL xs ys]
    by_cases h : x = y <;> by_cases h2 : xs = ys <;> simp [h, h2]
end
mutual
def depI : IT → Nat
  | .i _ => 0
  | .t xs => depL xs + 1
def depL : List IT → Nat
  | [] => 0
  | x :: xs => max (depI x) (depL xs)
end
mutual
theorem dep_pdI : ∀ a : IT, (pdI a).depth ≤ depI a
  | .i n => Nat.zero_le _
  | .t xs => by
    have := dep_pdL xs
    show PyData.depthAll (pdL xs) + 1 ≤ depL xs + 1
    omega
theorem dep_pdL : ∀ xs : List IT, PyData.depthAll (pdL xs) ≤ depL xs
  | [] => Nat.zero_le _
  | x :: xs => by
    have h1 := dep_pdI x
    have h2 := dep_pdL xs
    show max (pdI x).depth (PyData.depthAll (pdL xs)) ≤ max (depI x) (depL xs)
    omega
end
mutual
theorem lay_pdI : ∀ a : IT, (pdI a).canLay0 = true
  | .i n => rfl
  | .t xs => by
    show PyData.canLayAll0 (pdL xs) = true
    exact lay_pdL xs
theorem lay_pdL : ∀ xs : List IT, PyData.canLayAll0 (pdL xs) = true
  | [] => rfl
  | x :: xs => by
    show ((pdI x).canLay0 && PyData.canLayAll0 (pdL xs)) = true
    rw [lay_pdI x, lay_pdL xs]; rfl
end
end DL
set_option maxRecDepth 100000
set_option maxHeartbeats 4000000
/-! DSb: the machine compares such trees as they are ordered; sorted of a list of them. -/
namespace DL
open PySem PySem.Spec PyProof.Rows L2
mutual
/-- the value is the tree -/
def RdI (h : Heap) : IT → Value → Prop
  | .i n, u => ∃ t, u = .int n t
  | .t xs, u => ∃ (p : Addr) (o : Obj) (vs : Array Value) (n : Nat), u = .ref p ∧ h.get? p = some o ∧ o.cls = .type "tuple" ∧ o.data = .seq vs n ∧ RdL h xs vs.toList
def RdL (h : Heap) : List IT → List Value → Prop
  | [], us => us = []
  | x :: xs, us => ∃ u r, us = u :: r ∧ RdI h x u ∧ RdL h xs r
end
theorem RdL.length {h : Heap} : ∀ {xs : List IT} {us : List Value}, RdL h xs us → us.length = xs.length
  | [], _, q => by
    have q : _ = [] := q
    rw [q]; rfl
  | _ :: _, _, q => by
    obtain ⟨u, r, rfl, _, t⟩ := q
    rw [List.length_cons, List.length_cons, RdL.length t]
theorem RdL.get {h : Heap} : ∀ {xs : List IT} {us : List Value} {i : Nat} {u : Value}, RdL h xs us → us[i]? = some u → ∃ x, xs[i]? = some x ∧ RdI h x u
  | [], _, i, u, q, e => by
    have q : _ = [] := q
    rw [q] at e; simp at e
  | x :: xs, _, 0, u, q, e => by
    obtain ⟨v, r, rfl, a, t⟩ := q
    simp at e; subst e
    exact ⟨x, rfl, a⟩
  | x :: xs, _, i + 1, u, q, e => by
    obtain ⟨v, r, rfl, a, t⟩ := q
    obtain ⟨y, e1, e2⟩ := RdL.get (i := i) t (by simpa using e)
    exact ⟨y, by simpa using e1, e2⟩
mutual
theorem RdI.keep {h h' : Heap} (k : ∀ b o, h.get? b = some o → o.cls = .type "tuple" → h'.get? b = some o) : ∀ (a : IT) (u : Value), RdI h a u → RdI h' a u
  | .i n, u, q => q
  | .t xs, u, ⟨p, o, vs, n, e, g, c, d, r⟩ => ⟨p, o, vs, n, e, k p o g c, c, d, RdL.keep k xs _ r⟩
theorem RdL.keep {h h' : Heap} (k : ∀ b o, h.get? b = some o → o.cls = .type "tuple" → h'.get? b = some o) : ∀ (xs : List IT) (us : List Value), RdL h xs us → RdL h' xs us
  | [], us, q => q
  | x :: xs, us, ⟨u, r, e, a, t⟩ => ⟨u, r, e, RdI.keep k x u a, RdL.keep k xs r t⟩
end
mutual
theorem RdI.uniq {h : Heap} : ∀ (a b : IT) (u : Value), RdI h a u → RdI h b u → a = b
  | .i n, .i m, u, ⟨t, e⟩, ⟨t', e'⟩ => by
    subst e
    injection e' with e1
    rw [e1]
  | .i n, .t ys, u, ⟨t, e⟩, ⟨p, _, _, _, e', _⟩ => by subst e; cases e'
  | .t xs, .i m, u, ⟨p, _, _, _, e, _⟩, ⟨t, e'⟩ => by subst e; cases e'
  | .t xs, .t ys, u, ⟨p, o, vs, n, e, g, c, d, r⟩, ⟨p', o', vs', n', e', g', c', d', r'⟩ => by
    subst e
    cases e'
    rw [g] at g'; cases g'
    rw [d] at d'; cases d'
    rw [RdL.uniq xs ys _ r r']
theorem RdL.uniq {h : Heap} : ∀ (xs ys : List IT) (us : List Value), RdL h xs us → RdL h ys us → xs = ys
  | [], [], us, _, _ => rfl
  | [], y :: ys, us, q, q' => by
    have q : us = [] := q
    obtain ⟨_, _, e, _⟩ := q'
    rw [q] at e; cases e
  | x :: xs, [], us, q, q' => by
    have q' : us = [] := q'
    obtain ⟨_, _, e, _⟩ := q
    rw [q'] at e; cases e
  | x :: xs, y :: ys, us, ⟨u, r, e, a, t⟩, ⟨u', r', e', a', t'⟩ => by
    subst e
    cases e'
    rw [RdI.uniq x y u a a', RdL.uniq xs ys r t t']
end
mutual
theorem RdI.reads {h : Heap} : ∀ (a : IT) (u : Value), RdI h a u → ∃ as, Reads h u (pdI a) as
  | .i n, u, ⟨t, e⟩ => by subst e; exact ⟨_, Reads.int n t⟩
  | .t xs, u, ⟨p, o, vs, n, e, g, c, d, r⟩ => by
    obtain ⟨as, q⟩ := RdL.reads xs _ r
    subst e
    exact ⟨_, Reads.tuple g c d q⟩
theorem RdL.reads {h : Heap} : ∀ (xs : List IT) (us : List Value), RdL h xs us → ∃ as, ReadsAll h us (pdL xs) as
  | [], us, q => by
    have q : us = [] := q
    rw [q]; exact ⟨_, ReadsAll.nil⟩
  | x :: xs, us, ⟨u, r, e, a, t⟩ => by
    obtain ⟨as, q1⟩ := RdI.reads x u a
    obtain ⟨bs, q2⟩ := RdL.reads xs r t
    subst e
    exact ⟨_, ReadsAll.cons q1 q2⟩
end
theorem eqAt_it {A : Around} {s : Shared} {a b : IT} {u v : Value} (ha : RdI s.heap a u) (hb : RdI s.heap b v) (hu : A.units + depI a < cLine) : SeqAt.EqAt A s u v (decide (a = b)) := by
  obtain ⟨as, r1⟩ := ha.reads
  obtain ⟨bs, r2⟩ := hb.reads
  rw [← eqv_pdI]
  have := dep_pdI a
  exact SeqAt.eqAt_reads _ _ A s u v as bs r1 r2 (lay_pdI a) (lay_pdI b) (by omega)
theorem lex_it {X Y : List IT} {e r : Nat → Bool} (he : ∀ j (x y : IT), X[j]? = some x → Y[j]? = some y → e j = decide (x = y)) (hr : ∀ j (x y : IT), X[j]? = some x → Y[j]? = some y → r j = ltI x y) :
    ∀ (k i : Nat), k = min (X.length - i) (Y.length - i) → i ≤ X.length → i ≤ Y.length → Ob.lexAt e r (decide (X.length < Y.length)) i k = ltL (X.drop i) (Y.drop i)
  | 0, i, hk, h1, h2 => by
    rw [Ob.lexAt_zero]
    by_cases hx : i = X.length
    · rw [List.drop_eq_nil_of_le (by omega)]
      by_cases hy : i = Y.length
      · rw [List.drop_eq_nil_of_le (by omega), ltL]
        exact decide_eq_false (by omega)
      · rw [List.drop_eq_getElem_cons (show i < Y.length by omega), ltL]
        exact decide_eq_true (by omega)
    · have hy : i = Y.length := by omega
      rw [List.drop_eq_nil_of_le (as := Y) (by omega), List.drop_eq_getElem_cons (show i < X.length by omega), ltL]
      exact decide_eq_false (by omega)
  | k + 1, i, hk, h1, h2 => by
    have hx : i < X.length := by omega
    have hy : i < Y.length := by omega
    rw [Ob.lexAt_succ, List.drop_eq_getElem_cons hx, List.drop_eq_getElem_cons hy, ltL, he i X[i] Y[i] (by simp [hx]) (by simp [hy]), hr i X[i] Y[i] (by simp [hx]) (by simp [hy])]
    by_cases q : X[i] = Y[i]
    · rw [if_pos (decide_eq_true q), if_pos q]
      exact lex_it he hr k (i + 1) (by omega) (by omega) (by omega)
    · rw [if_neg (by simpa using q), if_neg q]
theorem cmpL_get : ∀ {xs ys : List IT} {j : Nat} {x y : IT}, cmpL xs ys = true → xs[j]? = some x → ys[j]? = some y → cmpI x y = true
  | [], _, j, _, _, _, e, _ => by simp at e
  | _ :: _, [], j, _, _, _, _, e => by simp at e
  | a :: xs, b :: ys, 0, x, y, h, e, e' => by
    simp at e e'
    subst e e'
    rw [cmpL, Bool.and_eq_true] at h
    exact h.1
  | a :: xs, b :: ys, j + 1, x, y, h, e, e' => by
    rw [cmpL, Bool.and_eq_true] at h
    exact cmpL_get h.2 (by simpa using e) (by simpa using e')
theorem depL_get : ∀ {xs : List IT} {j : Nat} {x : IT}, xs[j]? = some x → depI x ≤ depL xs
  | [], j, x, e => by simp at e
  | a :: xs, 0, x, e => by
    simp at e
    subst e
    rw [depL]; omega
  | a :: xs, j + 1, x, e => by
    have := depL_get (xs := xs) (j := j) (x := x) (by simpa using e)
    rw [depL]; omega
def LtP (a : IT) : Prop := ∀ (b : IT) (A : Around) (s : Shared) (u v : Value), RdI s.heap a u → RdI s.heap b v → cmpI a b = true → A.units + depI a < cLine → Ob.RcOp .Lt A s u v (ltI a b)
mutual
theorem ltP_all : ∀ a : IT, LtP a
  | .i n => fun b A s u v ha hb hc hu => by
    cases b with
    | t ys => simp [cmpI] at hc
    | i m =>
      obtain ⟨t, rfl⟩ := ha
      obtain ⟨t', rfl⟩ := hb
      rw [ltI]
      exact Ob.RcOp.lt_int n m t t'
  | .t xs => fun b A s u v ha hb hc hu => by
    have ih := ltP_list xs
    cases b with
    | i m => simp [cmpI] at hc
    | t ys =>
      rw [cmpI] at hc
      obtain ⟨p, o, vs, n, rfl, g, c, d, r⟩ := ha
      obtain ⟨p', o', vs', n', rfl, g', c', d', r'⟩ := hb
      have l1 : vs.size = xs.length := by have := r.length; simpa using this
      have l2 : vs'.size = ys.length := by have := r'.length; simpa using this
      have hu0 : A.units < cLine := by omega
      have hu' : A.in1.units + depL xs < cLine := by
        have : A.in1.units = A.units + 1 := rfl
        rw [depI] at hu; omega
      have K := Ob.RcOp.tuples_lt (A := A) (s := s) (l := p) (b := p') (items := vs) (items2 := vs') (e := fun j => decide (xs[j]? = ys[j]?)) (r := fun j => match xs[j]?, ys[j]? with
        | some x, some y => ltI x y
        | _, _ => false) ⟨o, g, c, n, d⟩ ⟨o', g', c', n', d'⟩ hu0 (fun j h1 h2 => ?_) (fun j h1 h2 _ => ?_)
      · rw [l1, l2] at K
        have E := lex_it (X := xs) (Y := ys) (e := fun j => decide (xs[j]? = ys[j]?)) (r := fun j => match xs[j]?, ys[j]? with
          | some x, some y => ltI x y
          | _, _ => false) (fun j x y e1 e2 => by simp only [e1, e2, Option.some.injEq]) (fun j x y e1 e2 => by simp only [e1, e2]) (min xs.length ys.length) 0 (by simp) (Nat.zero_le _) (Nat.zero_le _)
        rw [E, List.drop_zero, List.drop_zero] at K
        rw [ltI]; exact K
      · obtain ⟨x, e1, rx⟩ := r.get (i := j) (u := vs[j]) (by simp [h1])
        obtain ⟨y, e2, ry⟩ := r'.get (i := j) (u := vs'[j]) (by simp [h2])
        have := depL_get e1
        have q := eqAt_it (A := A.in1) rx ry (by omega)
        simp only [e1, e2, Option.some.injEq]
        exact q
      · obtain ⟨x, e1, rx⟩ := r.get (i := j) (u := vs[j]) (by simp [h1])
        obtain ⟨y, e2, ry⟩ := r'.get (i := j) (u := vs'[j]) (by simp [h2])
        have := depL_get e1
        have q := ih x (List.mem_of_getElem? e1) y A.in1 s vs[j] vs'[j] rx ry (cmpL_get hc e1 e2) (by omega)
        simp only [e1, e2]
        exact q
theorem ltP_list : ∀ xs : List IT, ∀ x ∈ xs, LtP x
  | [], _, h => absurd h (by simp)
  | y :: ys, x, h => by
    rcases List.mem_cons.mp h with e | h
    · rw [e]; exact ltP_all y
    · exact ltP_list ys x h
end
end DL
set_option maxRecDepth 100000
set_option maxHeartbeats 4000000
/-! DSc: sorted(..) of a list of such trees. -/
namespace DL
open PySem PySem.Spec PyProof.Rows L2
section
variable {prog : Program} {w : World} {A : Around} {s : Shared}
theorem kat_it {b fin : Bool} {Q : Bool → Shared → Prop} : ∀ (xs ys : List IT) (ps qs : List Value) (i : Nat), RdL s.heap xs ps → RdL s.heap ys qs → cmpL xs ys = true →
    (b = true → i = 0 → ∀ x, xs[0]? = some x → ∃ n, x = .i n) → fin = decide (xs.length < ys.length) → A.units + depL xs + 1 < cLine → Q (ltL xs ys) s → PySem.W.KatLex prog w A b fin Q (ps.zip qs) i s
  | [], ys, ps, qs, i, rp, rq, _, _, hf, _, hQ => by
    have rp : ps = [] := rp
    subst rp
    rw [List.zip_nil_left]
    refine PySem.W.kat_nil ?_
    rw [hf]
    cases ys with
    | nil => simpa [ltL] using hQ
    | cons y ys => simpa [ltL] using hQ
  | x :: xs, [], ps, qs, i, rp, rq, _, _, hf, _, hQ => by
    have rq : qs = [] := rq
    subst rq
    rw [List.zip_nil_right]
    refine PySem.W.kat_nil ?_
    rw [hf]
    simpa [ltL] using hQ
  | x :: xs, y :: ys, ps, qs, i, rp, rq, hc, hb, hf, hu, hQ => by
    obtain ⟨u, r, rfl, ru, rr⟩ := rp
    obtain ⟨v, q, rfl, rv, rq⟩ := rq
    rw [cmpL, Bool.and_eq_true] at hc
    rw [depL] at hu
    rw [List.zip_cons_cons]
    refine PySem.W.kat_cons (eqAt_it (A := A) ru rv (by omega) prog w _ _ ?_)
    rw [ltL] at hQ
    refine PySem.W.kat_go (fun e => ?_) (fun e => ?_)
    · have e := of_decide_eq_true e
      rw [if_pos e] at hQ
      refine PySem.W.kat_yes (kat_it xs ys r q (i + 1) rr rq hc.2 (fun _ z => by omega) (by rw [hf]; simp) (by omega) hQ)
    · have e := of_decide_eq_false e
      rw [if_neg e] at hQ
      refine PySem.W.kat_no ?_
      cases hbi : (b && i == 0) with
      | true =>
        rw [Bool.and_eq_true, beq_iff_eq] at hbi
        obtain ⟨n, rfl⟩ := hb hbi.1 hbi.2 x rfl
        obtain ⟨t, rfl⟩ := ru
        cases y with
        | t ys' => simp [cmpI] at hc
        | i m =>
          obtain ⟨t', rfl⟩ := rv
          rw [ltI] at hQ
          exact PyProof.Rows.oneLt_any_int hQ
      | false => exact PySem.W.kat_one _ _ (ltP_all x y A s u v ru rv hc.1 (by omega) prog w _ _ hQ)
/-- the trees' first items are all ints, or all tuples -/
def Firsts (ts : List IT) : Bool := ts.all (fun a => match a with | .t (.i _ :: _) => true | _ => false) || ts.all fun a => match a with | .t (.t _ :: _) => true | _ => false
def AllCmp (ts : List IT) : Bool := ts.all fun a => ts.all fun b => cmpI a b
noncomputable def keyOf (h : Heap) (v : Value) : IT := open Classical in if q : ∃ a, RdI h a v then Classical.choose q else .i 0
theorem keyOf_is {h : Heap} {a : IT} {v : Value} (r : RdI h a v) : keyOf h v = a := by
  have q : ∃ a, RdI h a v := ⟨a, r⟩
  unfold keyOf
  rw [dif_pos q]
  exact RdI.uniq _ _ v (Classical.choose_spec q) r
theorem RdL.mem {h : Heap} {ts : List IT} {us : List Value} (r : RdL h ts us) {u : Value} (m : u ∈ us) : ∃ a ∈ ts, RdI h a u := by
  obtain ⟨i, hi, rfl⟩ := List.mem_iff_getElem.mp m
  obtain ⟨a, e, q⟩ := r.get (i := i) (u := us[i]) (by simp [hi])
  exact ⟨a, List.mem_of_getElem? e, q⟩
theorem firsts_tups {h : Heap} : ∀ {ts : List IT} {vs : List Value}, RdL h ts vs → (∀ a ∈ ts, ∃ f r, a = .t (f :: r)) → ∃ fs, PySem.W.KatTups h vs fs ∧ fs.length = ts.length ∧ ∀ f ∈ fs, ∃ a ∈ ts, ∃ x r, a = .t (x :: r) ∧ RdI h x f
  | [], vs, r, _ => by
    have r : vs = [] := r
    subst r
    exact ⟨[], PySem.W.KatTups.nil, rfl, fun f hf => by cases hf⟩
  | a :: ts, vs, ⟨u, q, e, ru, rq⟩, hf => by
    subst e
    obtain ⟨fs, k, l, m⟩ := firsts_tups rq fun b hb => hf b (List.mem_cons_of_mem _ hb)
    obtain ⟨x, r, rfl⟩ := hf a List.mem_cons_self
    obtain ⟨p, o, its, n, rfl, g, c, d, ra⟩ := ru
    obtain ⟨v, r', e, rv, _⟩ := ra
    refine ⟨v :: fs, PySem.W.KatTups.cons g c d ?_ k, by rw [List.length_cons, List.length_cons, l], fun f hf => ?_⟩
    · have : its.toList[0]? = some v := by rw [e]; rfl
      simpa using this
    · rcases List.mem_cons.mp hf with rfl | hf
      · exact ⟨_, List.mem_cons_self, x, r, rfl, rv⟩
      · obtain ⟨b, hb, z⟩ := m f hf
        exact ⟨b, List.mem_cons_of_mem _ hb, z⟩
theorem cmp_it {vs : List Value} {ts : List IT} {b : Bool} (hr : RdL s.heap ts vs) (hf : ∀ a ∈ ts, ∃ f r, a = .t (f :: r) ∧ (b = true → ∃ n, f = .i n)) (hc : AllCmp ts = true) (hu : ∀ a ∈ ts, A.units + depI a + 1 < cLine) :
    SrtO.Cmp prog w A s (PyProof.Rows.tuples' b) (fun p => p.1 ∈ vs) (SrtO.lt2 fun u v => ltI (keyOf s.heap u) (keyOf s.heap v)) := by
  intro p q hp hq
  obtain ⟨a, ma, ra⟩ := hr.mem hp
  obtain ⟨c, mc, rc⟩ := hr.mem hq
  show wpAny (model prog w) A (PyProof.Rows.keyLt' (PyProof.Rows.tuples' b) p.1 q.1) (fun r s' => s' = s ∧ r = ltI (keyOf s.heap p.1) (keyOf s.heap q.1)) (fun _ _ => False) s
  rw [keyOf_is ra, keyOf_is rc]
  have hac : cmpI a c = true := by
    unfold AllCmp at hc
    exact List.all_eq_true.mp (List.all_eq_true.mp hc a ma) c mc
  have hua := hu a ma
  obtain ⟨f, r, rfl, hb⟩ := hf a ma
  obtain ⟨g, r', rfl, _⟩ := hf c mc
  obtain ⟨pa, o, its, n, e, go, cl, d, rl⟩ := ra
  obtain ⟨pc, o', its', n', e', go', cl', d', rl'⟩ := rc
  rw [e, e']
  rw [cmpI] at hac
  rw [depI] at hua
  refine PySem.W.kat_lt go d go' d' (kat_it (f :: r) (g :: r') its.toList its'.toList 0 rl rl' hac (fun hb1 _ x hx => ?_) ?_ (by omega) ?_)
  · simp at hx
    rw [← hx]; exact hb hb1
  · have l1 := rl.length
    have l2 := rl'.length
    simp only [Array.length_toList] at l1 l2
    rw [l1, l2]
  · exact ⟨rfl, by rw [ltI]⟩
theorem sortable_it {a : Addr} {vs : List Value} {ts : List IT} (hr : RdL s.heap ts vs) (h0 : 0 < vs.length) (hf : Firsts ts = true) (hc : AllCmp ts = true) (hu : ∀ a ∈ ts, A.units + depI a + 1 < cLine) (ha : ∀ o, s.heap.get? a = some o → o.cls ≠ .type "tuple") :
    SrtO.SortableO prog w A s a vs fun u v => ltI (keyOf s.heap u) (keyOf s.heap v) := by
  intro h' keep
  have hr' : RdL h' ts vs := hr.keep fun b o e c => keep b o (fun z => by subst z; exact ha o e c) e
  have same : ∀ v ∈ vs, keyOf h' v = keyOf s.heap v := fun v hv => by
    obtain ⟨x, _, r⟩ := hr.mem hv
    rw [keyOf_is r, keyOf_is (r.keep fun b o e c => keep b o (fun z => by subst z; exact ha o e c) e)]
  have fin : ∀ b : Bool, (∀ a ∈ ts, ∃ f r, a = .t (f :: r) ∧ (b = true → ∃ n, f = .i n)) → SrtO.Cmp prog w A { s with heap := h' } (PyProof.Rows.tuples' b) (fun p => p.1 ∈ vs) (SrtO.lt2 fun u v => ltI (keyOf s.heap u) (keyOf s.heap v)) := fun b hb p q hp hq => by
    have := cmp_it (prog := prog) (w := w) (A := A) (s := { s with heap := h' }) hr' hb hc hu p q hp hq
    have e : SrtO.lt2 (fun u v => ltI (keyOf h' u) (keyOf h' v)) p q = SrtO.lt2 (fun u v => ltI (keyOf s.heap u) (keyOf s.heap v)) p q := by
      show ltI (keyOf h' p.1) (keyOf h' q.1) = ltI (keyOf s.heap p.1) (keyOf s.heap q.1)
      rw [same _ hp, same _ hq]
    rw [← e]; exact this
  have hl := hr.length
  unfold Firsts at hf
  rw [Bool.or_eq_true] at hf
  rcases hf with hf | hf
  · have hf1 : ∀ a ∈ ts, ∃ n r, a = .t (.i n :: r) := fun a m => by
      have := List.all_eq_true.mp hf a m
      split at this
      · exact ⟨_, _, rfl⟩
      · cases this
    obtain ⟨fs, k1, k2, k3⟩ := firsts_tups hr' fun a m => let ⟨n, r, e⟩ := hf1 a m; ⟨_, r, e⟩
    refine ⟨PyProof.Rows.tuples' true, fun Q E hq => ?_, fin true fun a m => let ⟨n, r, e⟩ := hf1 a m; ⟨_, r, e, fun _ => ⟨n, rfl⟩⟩⟩
    refine PySem.W.kat_kind (T := .type "int") k1 (by omega) (fun f hm => ?_) (by rfl) ?_
    · obtain ⟨a, m, x, r, e, rx⟩ := k3 f hm
      obtain ⟨n, r', e'⟩ := hf1 a m
      rw [e] at e'
      injection e' with e'; injection e' with e1 _
      rw [e1] at rx
      obtain ⟨t, rfl⟩ := rx
      exact PySem.W.Looks.now
    · have e : (Value.type "int" != Value.type "tuple") = true := by first | decide +kernel | rfl | decide
      rw [e]
      exact hq
  · have hf1 : ∀ a ∈ ts, ∃ n r, a = .t (.t n :: r) := fun a m => by
      have := List.all_eq_true.mp hf a m
      split at this
      · exact ⟨_, _, rfl⟩
      · cases this
    obtain ⟨fs, k1, k2, k3⟩ := firsts_tups hr' fun a m => let ⟨n, r, e⟩ := hf1 a m; ⟨_, r, e⟩
    refine ⟨PyProof.Rows.tuples' false, fun Q E hq => ?_, fin false fun a m => let ⟨n, r, e⟩ := hf1 a m; ⟨_, r, e, fun z => by cases z⟩⟩
    refine PySem.W.kat_kind (T := .type "tuple") k1 (by omega) (fun f hm => ?_) (by rfl) ?_
    · obtain ⟨a, m, x, r, e, rx⟩ := k3 f hm
      obtain ⟨n, r', e'⟩ := hf1 a m
      rw [e] at e'
      injection e' with e'; injection e' with e1 _
      rw [e1] at rx
      obtain ⟨p, o, its, nn, rfl, g, c, d, _⟩ := rx
      exact fun A' Q' E' s' k q => wpAny_typeOf_ref (k _ _ g) (by rw [c]; exact q)
    · have e : (Value.type "tuple" != Value.type "tuple") = false := by first | decide +kernel | rfl | decide
      rw [e]
      exact hq
end
/-! ### the sorted list -/
noncomputable def sortT (ts : List IT) : List IT := ts.mergeSort fun a b => !ltI b a
theorem sortT_perm (ts : List IT) : (sortT ts).Perm ts := List.mergeSort_perm _ _
theorem sortT_srtd (ts : List IT) : (sortT ts).Pairwise fun a b => ltI b a = false := by
  have h := List.pairwise_mergeSort (le := fun a b => !ltI b a) (fun a b c h1 h2 => by
    simp only [Bool.not_eq_true'] at h1 h2 ⊢
    exact swo_it.tr a b c h1 h2) (fun a b => by
    cases h : ltI b a with
    | false => simp
    | true => simp [ltI_asym _ _ h]) ts
  exact h.imp fun h => by simpa using h
theorem srt_uniq : ∀ {l m : List IT}, l.Pairwise (fun a b => ltI b a = false) → m.Pairwise (fun a b => ltI b a = false) → l.Perm m → l = m := by
  intro l m hl hm p
  exact p.eq_of_pairwise (le := fun a b => ltI b a = false) (fun a b _ _ h1 h2 => by
    by_cases e : a = b
    · exact e
    · have := ltI_tot b a (Ne.symm e) h1
      rw [this] at h2; cases h2) hl hm
end DL
set_option maxRecDepth 100000
set_option maxHeartbeats 4000000
/-! DSd: sorted over the data layer. -/
namespace DL
open PySem PySem.Spec PyProof.Rows L2
variable [Tb]
section
variable {K : PySem.W.Frag} {F H : Hp} {X : Cx} {pins : List (Addr × Obj)} {σ : St} {s : Shared}
mutual
theorem rdI_of (I : Inv X pins σ H s) : ∀ (a : IT) (v : V) (u : Value), Rep X.K H (dI a) v → RelV v u → RdI s.heap a u
  | .i n, v, u, r, q => by
    have r : v = .int n := r
    subst r
    exact q
  | .t xs, v, u, ⟨p, vs, e, ta, rs⟩, q => by
    subst e
    obtain rfl : u = Value.ref p := q
    obtain ⟨its, rv, ⟨o, ho, hc, n, hd⟩, _⟩ := I.tuple (ta.sq (Same.refl H))
    exact ⟨p, o, its.toArray, n, rfl, ho, hc, hd, by simpa using rdL_of I xs vs its rs rv⟩
theorem rdL_of (I : Inv X pins σ H s) : ∀ (xs : List IT) (vs : List V) (us : List Value), Reps X.K H (dL xs) vs → Vals vs us → RdL s.heap xs us
  | [], vs, us, r, q => by
    have r : vs = [] := r
    subst r
    cases q
    rfl
  | x :: xs, vs, us, ⟨v, r, e, a, t⟩, q => by
    subst e
    cases q with
    | cons q1 q2 => exact ⟨_, _, rfl, rdI_of I x v _ a q1, rdL_of I xs r _ t q2⟩
end
/-- rearranged values are the rearranged trees -/
theorem reps_perm {h : Heap} {ts : List IT} {xs : List V} {its out : List Value} (r : RdL h ts its) (rp : Reps K H (dL ts) xs) (rv : Vals xs its) (tup : ∀ v ∈ its, ∃ a, v = Value.ref a) (p : out.Perm its) :
    Reps K H (dL (out.map (keyOf h))) (out.map backV) ∧ (out.map (keyOf h)).Perm ts := by
  have hx : xs = its.map backV := (refs_back rv fun x m => by
    obtain ⟨i, hi, rfl⟩ := List.mem_iff_getElem.mp m
    obtain ⟨u, hu, ru⟩ := rv.get (i := i) (x := xs[i]) (by simp [hi])
    obtain ⟨a, rfl⟩ := tup u (List.mem_of_getElem? hu)
    generalize xs[i] = w at ru ⊢
    cases w with
    | ref b => exact ⟨b, rfl⟩
    | _ => first | (cases ru; done) | (obtain ⟨_, e⟩ := ru; cases e)).1
  have hk : its.map (keyOf h) = ts := by
    apply List.ext_getElem?
    intro i
    rw [List.getElem?_map]
    cases e : its[i]? with
    | none =>
      have := r.length
      rw [List.getElem?_eq_none_iff] at e
      rw [List.getElem?_eq_none (by omega)]; rfl
    | some u =>
      obtain ⟨x, e1, q⟩ := r.get e
      rw [e1]
      show some (keyOf h u) = some x
      rw [keyOf_is q]
  refine ⟨?_, by rw [← hk]; exact p.map _⟩
  have each : ∀ u ∈ its, Rep K H (dI (keyOf h u)) (backV u) := fun u m => by
    obtain ⟨i, hi, rfl⟩ := List.mem_iff_getElem.mp m
    obtain ⟨x, e1, q⟩ := r.get (i := i) (u := its[i]) (by simp [hi])
    rw [keyOf_is q]
    have e2 : xs[i]? = some (backV its[i]) := by rw [hx, List.getElem?_map]; simp [hi]
    obtain ⟨d, e3, rd⟩ := rp.get' e2
    rw [dL_map, List.getElem?_map, e1] at e3
    cases e3
    exact rd
  have : ∀ l : List Value, (∀ u ∈ l, u ∈ its) → Reps K H (dL (l.map (keyOf h))) (l.map backV) := by
    intro l
    induction l with
    | nil => intro _; rfl
    | cons u l ih =>
      intro hl
      exact ⟨_, _, rfl, each u (hl u List.mem_cons_self), ih fun v hv => hl v (List.mem_cons_of_mem _ hv)⟩
  exact this out fun u hu => p.mem_iff.mp hu
end
section
variable {X : Cx}
def rSortTr (K : PySem.W.Frag) : List V → Hp → VK → Prop := fun vs H Q => ∃ (a : Addr) (xs : List V) (ts : List IT), vs = [.ref a] ∧ SqL K H a xs ∧ ∃ F, Same F H ∧ Reps K F (dL ts) xs ∧ Firsts ts = true ∧ AllCmp ts = true ∧ (∀ a ∈ ts, depI a ≤ 40) ∧
  ∀ ys p, Reps K F (dL (sortT ts)) ys → H p = none → Q (.ref p) (upd H p (.lst ys))
theorem cr_sortTr (hu : X.A.units + 64 < cLine) : CallR X (.builtin "sorted") (rSortTr X.K) := by
  intro pins s σ H vs us Q I r h
  obtain ⟨a, xs, ts, rfl, hs, F, sF, rp, hf, hc, hd, q⟩ := h
  obtain ⟨its, rv, hl, hz⟩ := I.list hs
  rw [Vals.ref1 r]
  have rd := rdL_of I ts xs its (rp.mono sF) rv
  have ne : ∀ x ∈ ts, ∃ l, x = .t l := fun x m => by
    unfold Firsts at hf
    rw [Bool.or_eq_true] at hf
    rcases hf with hf | hf <;> (have := List.all_eq_true.mp hf x m; split at this; exact ⟨_, rfl⟩; cases this)
  have tup : ∀ v ∈ its, ∃ a, v = Value.ref a := fun v m => by
    obtain ⟨x, mx, rx⟩ := rd.mem m
    obtain ⟨l, rfl⟩ := ne x mx
    obtain ⟨p, _, _, _, e, _⟩ := rx
    exact ⟨p, e⟩
  refine SrtO.sorted_ord (ltv := fun u v => ltI (keyOf s.heap u) (keyOf s.heap v)) ⟨fun x y => swo_it.asym _ _, fun x y z => swo_it.tr _ _ _⟩ hl.isList (by rw [← rv.length]; exact hz) (fun h2 h₁ a' ha' keep => ?_) fun out h1 h2 => ?_
  · have rd1 : RdL h₁ ts its := rd.keep fun b o e _ => (keep b o e).2
    have ks : (fun u v => ltI (keyOf h₁ u) (keyOf h₁ v)) = fun u v => ltI (keyOf h₁ u) (keyOf h₁ v) := rfl
    have so := sortable_it (prog := X.prog) (w := X.w) (A := X.A.in1.in1) (s := { s with heap := h₁ }) (a := a') rd1 (by omega) hf hc (fun x m => by
      have := hd x m
      have e1 : X.A.in1.in1.units = X.A.units + 2 := rfl
      omega) (fun o e => by
      have e' : some o = some (seqObj "list" its.toArray 0) := e.symm.trans ha'
      cases e'
      intro c
      exact absurd (Value.type.inj c) (by decide))
    intro h' k'
    obtain ⟨κ, g1, g2⟩ := so h' k'
    refine ⟨κ, g1, fun p q hp hq => ?_⟩
    have z := g2 p q hp hq
    have same : ∀ v ∈ its, keyOf h₁ v = keyOf s.heap v := fun v hv => by
      obtain ⟨x, _, rx⟩ := rd.mem hv
      rw [keyOf_is rx, keyOf_is (rx.keep fun b o e _ => (keep b o e).2)]
    have e : SrtO.lt2 (fun u v => ltI (keyOf h₁ u) (keyOf h₁ v)) p q = SrtO.lt2 (fun u v => ltI (keyOf s.heap u) (keyOf s.heap v)) p q := by
      show ltI (keyOf h₁ p.1) (keyOf h₁ q.1) = ltI (keyOf s.heap p.1) (keyOf s.heap q.1)
      rw [same _ hp, same _ hq]
    rw [← e]; exact z
  · obtain ⟨z1, z2⟩ := reps_perm (K := X.K) (H := F) rd rp rv tup h2.perm
    have hs : out.map (keyOf s.heap) = sortT ts := srt_uniq (List.pairwise_map.mpr h1) (sortT_srtd ts) (z2.trans (sortT_perm ts).symm)
    rw [hs] at z1
    have h3 : ∀ u ∈ out, ∃ a, u = Value.ref a := fun u hu => tup u (h2.perm.mem_iff.mp hu)
    obtain ⟨ep, he'⟩ := PyProof.Rows.sortedAll_at s.heap its out.toArray
    have hlen : (out.map backV).length ≤ sizeLine := by
      rw [List.length_map, h2.perm.length_eq, ← rv.length]
      exact hz
    exact ⟨.ref _, upd H (s.heap.objs.size + 1) (.lst (out.map backV)), I.laid (t' := s.toks) (fun _ _ => PyProof.Rows.sortedAll_old) (Nat.le_succ _) ⟨hlen, out, ep, vals_back h3, he'⟩, rfl, q _ _ z1 (I.hok.fresh (Nat.le_succ _))⟩
end
/-! over data -/
def AllInt (ts : List IT) : Bool := ts.all fun a => match a with | .i _ => true | _ => false
def OkSort (ts : List IT) : Prop := (Firsts ts = true ∧ AllCmp ts = true ∧ ∀ a ∈ ts, depI a ≤ 40) ∨ AllInt ts = true
noncomputable instance (ts : List IT) : Decidable (OkSort ts) := Classical.propDecidable _
noncomputable def sortedL (xs : List D) : R (List D) := match toIL xs with
  | some ts => if OkSort ts then .ok (dL (sortT ts)) else .stuck
  | none => .stuck
noncomputable def sortedO : List D → R (List D)
  | [.lst xs] => sortedL xs
  | [.bor xs] => sortedL xs
  | _ => .stuck
theorem allInt_map : ∀ {ts : List IT}, AllInt ts = true → ∃ ns : List Int, ts = ns.map IT.i
  | [], _ => ⟨[], rfl⟩
  | .i n :: ts, h => by
    unfold AllInt at h
    rw [List.all_cons, Bool.and_eq_true] at h
    obtain ⟨ns, rfl⟩ := allInt_map (ts := ts) h.2
    exact ⟨n :: ns, rfl⟩
  | .t _ :: ts, h => by
    unfold AllInt at h
    rw [List.all_cons, Bool.and_eq_true] at h
    cases h.1
theorem reps_is {K : PySem.W.Frag} {F : Hp} : ∀ {ns : List Int} {vs : List V}, Reps K F (dL (ns.map IT.i)) vs → vs = ns.map V.int
  | [], vs, r => r
  | n :: ns, vs, ⟨v, r, e, a, t⟩ => by
    subst e
    have a : v = .int n := a
    rw [a, reps_is t]; rfl
theorem reps_si {K : PySem.W.Frag} {F : Hp} : ∀ (ns : List Int), Reps K F (dL (ns.map IT.i)) (ns.map V.int)
  | [] => rfl
  | n :: ns => ⟨_, _, rfl, rfl, reps_si ns⟩
theorem co_sorted {X : Cx} (hu : X.A.units + 64 < cLine) : CallO X (.builtin "sorted") sortedO := by
  refine ⟨_, (cr_sortTr hu).or cr_sortedI, fun F H ds vs Q s r q => ?_⟩
  have main : ∀ d xs, ds = [d] → lsD d = some xs → Post X.K X.mg W0 (RepO X.K H) F H [] (sortedL xs) Q → (rSortTr X.K vs H Q ∨ rSortedI X.K vs H Q) := fun d xs ed el qs => by
    subst ed
    obtain ⟨v, rfl, rv⟩ := reps_1 r
    obtain ⟨a, us, rfl, h1, h2⟩ := rv.list s el
    unfold sortedL at qs
    cases e : toIL xs with
    | none => rw [e] at qs; exact qs.elim
    | some ts =>
      rw [e] at qs
      obtain ⟨hz, qs⟩ := post_if qs
      have ex := dL_toIL xs ts e
      subst ex
      rcases hz with ⟨z1, z2, z3⟩ | z
      · exact .inl ⟨a, us, ts, rfl, .inl h1, F, s, h2, z1, z2, z3, fun ys p ry hp => qs _ _ _ (Ext.laid s hp) (RepO.new s hp ry)⟩
      · obtain ⟨ns, rfl⟩ := allInt_map z
        have eu := reps_is h2
        subst eu
        refine .inr ⟨a, ns, rfl, .inl h1, fun ns' p hp hs hn => ?_⟩
        have es : ns'.map IT.i = sortT (ns.map IT.i) := srt_uniq (List.pairwise_map.mpr (hs.imp fun h => by simp only [ltI, decide_eq_false_iff_not]; omega)) (sortT_srtd _) ((hp.map _).trans (sortT_perm _).symm)
        rw [← es] at qs
        exact qs _ _ _ (Ext.laid s hn) (RepO.new s hn (reps_si ns'))
  unfold sortedO at q
  split at q
  · exact main _ _ rfl rfl q
  · exact main _ _ rfl rfl q
  · exact q.elim
theorem calm_sortedO : CalmN sortedO := fun ds => by
  unfold sortedO sortedL
  split <;> first | exact trivial | (split <;> first | exact trivial | exact calm_if)
end DL
namespace Lw
open PySem L2 DL
/-! the program's constants -/
def labs : List Str := ["a", "ax", "ay", "axy", "b", "bx", "by", "bxy", "c", "cx", "cy", "cxy"]
abbrev d_KINDS : D := .str "abc"
abbrev d_ANY : D := .str "*"
abbrev d_JOINTS : D := .str " >+~"
abbrev d_MOST_STEPS : D := .int 3
abbrev d_MOST_PARTS : D := .int 60
abbrev d_MOST_RULES : D := .int 8
abbrev d_MOST_VALUE : D := .int 9
abbrev d_MOST_STANDS : D := .int 1500
abbrev d_MOST_SIGNS : D := .int 8
abbrev d_MOST_KEPT : D := .int 6
abbrev d_MOST_FIGURES : D := .int 9
abbrev d_FIGURES : D := .str "0123456789"
abbrev d_LETTERS : D := .str "abcdefghijklmnopqrstuvwxyz"
abbrev d_MARKS : D := .tup ((["", "x", "y", "xy"] : List Str).map D.str)
abbrev d_LABELS : D := .tup (labs.map D.str)
abbrev d_NAMES : D := .tup ((["p", "q", "r"] : List Str).map D.str)
abbrev d_PASSED : D := .tup ((["p", "q"] : List Str).map D.str)
abbrev d_WORDS : D := .tup ((["up", "start"] : List Str).map D.str)
abbrev d_WAYS : D := .tup ((["child", "next"] : List Str).map D.str)
abbrev d_START : D := .tup ([0, 5, 0].map D.int)
end Lw
set_option maxRecDepth 100000
set_option maxHeartbeats 4000000
namespace DL
open PySem PySem.Spec PyProof.Rows L2
variable [Tb]
section
variable {P : Program} {w : World} {K : PySem.W.Frag} {mg : Str → Option Value} {base : Heap}
/-! ### defs called with keywords, or with keyword-only parameters left out -/
structure DefK (P : Program) (w : World) (K : PySem.W.Frag) (mg : Str → Option Value) (base : Heap) (k : Nat) (name : Str) (ps : List Str) (m : List D → R RV) (n : Nat) (ks : List Str) (gD : List D → List D → List D) : Prop where
  ex : ∃ fa fd g gV, FnD P w K mg base k fa fd ps m ∧ mg name = some (.ref fa) ∧ PySem.W.keepIn K (.ref fa) = true ∧ KBn K fd ps n ks g gV ∧
    ∀ F H ds zs vs ws, RepsX K F H ds vs → RepsX K F H zs ws → RepsX K F H (gD ds zs) (gV vs ws)
end
section
variable {X : Cx} {CX : CXT} {k n : Nat} {f : Addr} {fd : FuncData} {ps ks : List Str} {sp : Sp} {E : St → XK} {x : Str} {p pos : Pos} {e : Expr} {es : List Expr} {kws : List Keyword} {t tk : TA} {g : List Value → List Value → List Value} {gV : List V → List V → List V}
/-- the call, what is raised being wished for at the caller's slots -/
theorem pe_callKS (F : FnOk X.prog X.w X.K X.mg X.base CX k f fd ps sp) (hr : Room k X.A) (hg : Gl X x) (hm : X.mg x = some (.ref f)) (hk : PySem.W.keepIn X.K (.ref f) = true) (hb : KBn X.K fd ps n ks g gV) (hx : ∀ σ, PassesAt CX X σ (E σ))
    (ha : PA X (e :: es) t) (hkw : PK X kws tk) (hall : (backToKw pos (keywordEach kws X.env)).all (·.1.isSome) = true) (hks : (backToKw pos (keywordEach kws X.env)).filterMap (·.1) = ks)
    (hdb : (x == ("__debug__" : Str)) = false) (he : starEach (e :: es) X.env = (false, eval e X.env) :: starEach es X.env)
    (hpl : ((backTo pos (starEach (e :: es) X.env)).any (·.1) || (backToKw pos (keywordEach kws X.env)).any (·.1.isNone)) = false) :
    PE X (.Call (.Name x p) (e :: es) kws pos) (fun σ H Q => t σ H fun vs H1 => tk σ H1 fun zs H2 => vs.length = n ∧ zs.length = ks.length ∧ sp (gV vs zs) H2 Q (E σ)) := by
  refine ⟨fun pins s σ H Q I h => wpAny_Call_Name_kw (ld_glob I hg hm ?_ hdb)⟩
  refine PySem.W.callWith_KW (h₀ := X.base) I.ok.mod.kin hk hall (thn (ha.run pos pins s σ H _ I h) fun us s1 ⟨vs, H1, I1, r, q⟩ => ?_) hpl he
  refine thn (hkw.run pos pins s1 σ H1 _ I1 q) fun ws s2 ⟨zs, H2, I2, rz, l1, l2, q2⟩ => ⟨I2.kIn, ?_⟩
  rw [hks]
  have bt := hb.to s2 us ws I2.kIn (by rw [← r.length]; exact l1) (by rw [← rz.length]; exact l2)
  refine wpAny_call (codeAny_mono (F.run X.A X.stack s2 H2 _ (g us ws) (gV vs zs) Q (E σ) hr I2.env0 bt (hb.rel r rz) q2) fun r s' hq => ?_)
  match r, hq with
  | .error e, hq => exact hx σ pins H2 s2 e s' I2 hq
  | .ok (.ret u), hq => exact I2.after hq
  | .ok .next, hq => exact hq.elim
  | .ok .brk, hq => exact hq.elim
  | .ok .cont, hq => exact hq.elim
end
section
variable {X : Cx} {W : WX} {k n nk : Nat} {ps ks : List Str} {m : List D → R RV} {gD : List D → List D → List D} {x : Str} {p pos : Pos} {e : Expr} {es : List Expr} {kws : List Keyword} {ft fk : Rho → R (List D)}
/-- keywords' values -/
abbrev DK (X : Cx) (W : WX) (kws : List Keyword) (f : Rho → R (List D)) : Prop := PK X kws (tA X.K X.mg W f)
theorem PK.imp {t t' : TA} (h : PK X kws t) (i : ∀ σ H Q, t' σ H Q → t σ H Q) : PK X kws t' := ⟨fun pos pins s σ H Q I q => h.run pos pins s σ H Q I (i σ H Q q)⟩
theorem dk_nil : DK X W [] aNil := PK.imp pk_nil fun σ H Q ⟨_, _, F, ρ, S, p⟩ => p.ok S.sub rfl
theorem dk_cons {fa : Rho → R D} {nm : Option Str} {kpos : Pos} (ha : DE X W e fa) (hr : DK X W kws ft) : DK X W (⟨nm, e, kpos⟩ :: kws) (aCons fa ft) := by
  refine PK.imp (pk_cons ha hr) fun σ H Q ⟨F0, H0, F, ρ, S, p⟩ => ?_
  refine ⟨F0, H0, F, ρ, S, Post.bind p fun x u F1 H1 _ e1 r1 p1 => ?_⟩
  refine ⟨F0, H0, F1, ρ, S.mono e1, Post.bind p1 fun xs vs F2 H2 _ e2 r2 p2 => ?_⟩
  exact p2.ok e2.sub ⟨u, vs, rfl, r1.mono e2, r2⟩
def callK (m : List D → R RV) (n nk : Nat) (gD : List D → List D → List D) (ds zs : List D) : R D := if ds.length = n ∧ zs.length = nk then callR m (gD ds zs) else .stuck
def callKO (m : List D → R RV) (n nk : Nat) (gD : List D → List D → List D) (ds zs : List D) : R (List D) := if ds.length = n ∧ zs.length = nk then callO m (gD ds zs) else .stuck
def eCallK (m : List D → R RV) (n nk : Nat) (gD : List D → List D → List D) (ft fk : Rho → R (List D)) : Rho → R D := fun ρ => (ft ρ).bind fun ds => (fk ρ).bind fun zs => callK m n nk gD ds zs
def oCallK (m : List D → R RV) (n nk : Nat) (gD : List D → List D → List D) (ft fk : Rho → R (List D)) : Rho → R (List D) := fun ρ => (ft ρ).bind fun ds => (fk ρ).bind fun zs => callKO m n nk gD ds zs
theorem RepsX.monoL {K : PySem.W.Frag} {F H F' H' : Hp} (e : Ext F H F' H') {ds : List D} {vs : List V} (h : RepsX K F H ds vs) : RepsX K F' H' ds vs := RepsX.mono e h
theorem de_callK (g : DefK X.prog X.w X.K X.mg X.base k x ps m n ks gD) (hr : Room k X.A) (tk : Takes X W) (hg : Gl X x)
    (ha : DA X W (e :: es) ft) (hkw : DK X W kws fk) (hn : ks.length = nk := by rfl) (hall : (backToKw pos (keywordEach kws X.env)).all (·.1.isSome) = true := by rfl) (hks : (backToKw pos (keywordEach kws X.env)).filterMap (·.1) = ks := by rfl)
    (hdb : (x == ("__debug__" : Str)) = false := by decide) (he : starEach (e :: es) X.env = (false, eval e X.env) :: starEach es X.env := by rfl)
    (hpl : ((backTo pos (starEach (e :: es) X.env)).any (·.1) || (backToKw pos (keywordEach kws X.env)).any (·.1.isNone)) = false := by rfl) :
    DE X W (.Call (.Name x p) (e :: es) kws pos) (eCallK m n nk gD ft fk) := by
  obtain ⟨fa, fd, g, gV, F, hm, hk, hb, hR⟩ := g.ex
  subst hn
  refine PE.imp (pe_callKS (E := WE W) F hr hg hm hk hb (fun σ => passAt tk σ) ha hkw hall hks hdb he hpl) fun σ H Q ⟨F0, H0, F, ρ, S, q⟩ => ?_
  refine ⟨F0, H0, F, ρ, S, Post.bind q fun ds vs F1 H1 _ e1 r1 p1 => ?_⟩
  refine ⟨F0, H0, F1, ρ, S.mono e1, Post.bind p1 fun zs ws F2 H2 _ e2 r2 p2 => ?_⟩
  unfold callK at p2
  obtain ⟨hz, p2⟩ := post_if p2
  have r3 := RepsX.mono e2 r1
  exact ⟨r3.length.symm.trans hz.1, r2.length.symm.trans hz.2, call_sp e2.sub (e2.fr.tabs (e1.fr.tabs S.tabs)) (hR _ _ _ _ _ _ r3 r2) p2⟩
theorem do_callK (g : DefK X.prog X.w X.K X.mg X.base k x ps m n ks gD) (hr : Room k X.A) (tk : Takes X W) (hg : Gl X x)
    (ha : DA X W (e :: es) ft) (hkw : DK X W kws fk) (hn : ks.length = nk := by rfl) (hall : (backToKw pos (keywordEach kws X.env)).all (·.1.isSome) = true := by rfl) (hks : (backToKw pos (keywordEach kws X.env)).filterMap (·.1) = ks := by rfl)
    (hdb : (x == ("__debug__" : Str)) = false := by decide) (he : starEach (e :: es) X.env = (false, eval e X.env) :: starEach es X.env := by rfl)
    (hpl : ((backTo pos (starEach (e :: es) X.env)).any (·.1) || (backToKw pos (keywordEach kws X.env)).any (·.1.isNone)) = false := by rfl) :
    DO X W (.Call (.Name x p) (e :: es) kws pos) (oCallK m n nk gD ft fk) := by
  obtain ⟨fa, fd, g, gV, F, hm, hk, hb, hR⟩ := g.ex
  subst hn
  refine PE.imp (pe_callKS (E := WE W) F hr hg hm hk hb (fun σ => passAt tk σ) ha hkw hall hks hdb he hpl) fun σ H Q ⟨F0, H0, F, ρ, S, q⟩ => ?_
  refine ⟨F0, H0, F, ρ, S, Post.bind q fun ds vs F1 H1 _ e1 r1 p1 => ?_⟩
  refine ⟨F0, H0, F1, ρ, S.mono e1, Post.bind p1 fun zs ws F2 H2 x2 e2 r2 p2 => ?_⟩
  unfold callKO at p2
  obtain ⟨hz, p2⟩ := post_if p2
  have r3 := RepsX.mono e2 r1
  refine ⟨r3.length.symm.trans hz.1, r2.length.symm.trans hz.2, ?_⟩
  unfold callO at p2
  obtain ⟨kk, p2⟩ := post_if p2
  refine ⟨F2, _, ⟨e2.sub, e2.fr.tabs (e1.fr.tabs S.tabs)⟩, (hR _ _ _ _ _ _ r3 r2).kept kk, ?_⟩
  cases e : m (gD ds zs) with
  | ok a =>
    rw [e] at p2
    cases a with
    | d y => exact p2.elim
    | own xs =>
      intro v F3 H3 xx rr
      obtain ⟨q, us, rfl, n0, n1, h1, r1⟩ := rr
      exact p2 _ F3 H3 xx ⟨q, us, rfl, e1.hp.free (e2.hp.free n0), n1, h1, r1⟩
  | exc x => rw [e] at p2; exact p2
  | stuck => rw [e] at p2; exact p2.elim
end
end DL
set_option maxRecDepth 100000
set_option maxHeartbeats 4000000
namespace DL
open PySem PySem.Spec PyProof.Rows L2
/-! ### sum(xs, start=0) -/
section
variable {prog : Program} {w : World} {A : Around} {E : Value → Shared → Prop} {s : Shared}
theorem kwBuiltin {id : String} {b : Builtin} {pos : List Value} {kw : List (Str × Value)} {Q : Value → Shared → Prop} (nk : builtinKind id = none) (pl : plainId id = true) (en : entryFor table id = some b) (ok : argsOk id ⟨pos, kw⟩)
    (body : wpAny (model prog w) A.in1 (b ⟨pos, kw⟩) (fun fin s' => match fin with
      | .done f => (match (Except.ok f : Result) with
        | .ok (.ret v) => Q v s'
        | .ok _ => False
        | .error e => E e s')
      | .again c' => c'.quiet = true ∧ codeAny (model prog w) A c' (fun r s' => match r with
        | .ok (.ret v) => Q v s'
        | .ok _ => False
        | .error e => E e s') s') E s) : wpAny (model prog w) A (call (.builtin id) pos kw) Q E s := by
  refine wpAny_call (codeAny_call_builtin pl en ?_)
  unfold checkBuiltinCall
  rw [nk]
  unfold argsOk at ok
  cases sg : Manifest.signature? id with
  | none => exact wpAny_pure body
  | some g =>
    rw [sg] at ok
    have ok' : Bind.checkArgs id g ⟨pos, kw⟩ = pure () := ok
    show wpAny _ A.in1 (Bind.checkArgs id g ⟨pos, kw⟩) _ _ s
    rw [ok']
    exact wpAny_pure body
theorem args_sumK (a v : Value) : argsOk "sum" ⟨[a], [(Str.ofString "start", v)]⟩ := by unfold argsOk; kernel_rfl
theorem bind_sumK (v : Value) : Builtin.Builtins.bindParams "sum" ["start"] 0 ⟨[], [(Str.ofString "start", v)]⟩ = pure [some v] := by
  first | rfl | kernel_rfl
theorem sum0_walk {x : Value} {t0 : Tok} {Q : Value → Shared → Prop}
    (h : wpAny (model prog w) A.in1 (pyIter x) (fun it s₂ => ∃ I fp wr n P St val, it = .ref I ∧ Walks prog w A.in1 I fp wr n P St ∧ St 0 s₂.heap ∧ (∀ b ∈ fp, b < s₂.heap.objs.size) ∧
      (∀ i v, P i v → ∃ t, v = .int (val i) t) ∧ ∀ h' tk t', (∀ b o, b ∉ wr → s₂.heap.get? b = some o → h'.get? b = some o) → Q (.int (preSum val n) t') { s₂ with heap := h', toks := tk }) E s) :
    wpAny (model prog w) A (call (.builtin "sum") [x] [(Str.ofString "start", .int 0 t0)]) Q E s := by
  refine kwBuiltin F.kind_sum F.plain_sum F.entry_sum (args_sumK _ _) ?_
  unfold Builtin.«sum»
  simp only [List.length_cons, List.length_nil]
  rw [if_neg (by decide)]
  refine wpAny_bind (wpAny_of_eq (bind_sumK _) ?_)
  refine wpAny_bind (wpAny_mono h (fun it s₂ k => ?_) fun _ _ e => e)
  obtain ⟨I, fp, wr, n, P, St, val, rfl, W, hst, hfp, hval, hQ⟩ := k
  have fresh : s₂.heap.objs.size ∉ fp := fun z => Nat.lt_irrefl _ (hfp _ z)
  show wpAny _ _ (ite _ _ _) _ _ _
  split
  all_goals first
    | refine wpAny_bind (wpAny_rule ?_)
    | skip
  all_goals first
    | refine wpAny_bind (wpAny_mkInt ?_)
    | skip
  all_goals refine wpAny_bind (wpAny_pure ?_)
  all_goals simp only [List.forIn_cons, List.forIn_nil]
  all_goals
    refine wpAny_bind (wpAny_bind (wpAny_bind (wpAny_isInstance (b := false) (typeIs_int _ _ _) PySem.sub_int_str ?_)))
    rw [if_neg Bool.false_ne_true]
    refine wpAny_pure (wpAny_bind (wpAny_bind (wpAny_isInstance (b := false) (typeIs_int _ _ _) PySem.sub_int_bytes ?_)))
    rw [if_neg Bool.false_ne_true]
    refine wpAny_pure (wpAny_bind (wpAny_bind (wpAny_isInstance (b := false) (typeIs_int _ _ _) PySem.sub_int_bytearray ?_)))
    rw [if_neg Bool.false_ne_true]
    refine wpAny_pure (wpAny_pure (wpAny_bind (wpAny_newObj_type ?_)))
    refine wpAny_pure ⟨plainId_quiet F.plain_sum_loop _, ?_⟩
    refine codeAny_sum_loopG W val hval s₂.heap.objs.size fresh n 0 _ _ 0 _ (by first | exact Or.inl rfl | exact Or.inr rfl) rfl (Nat.zero_le _) (W.frame _ _ _ hst fun b _ o e => Heap.get?_push_of_some _ e) (Heap.get?_push_size _ rfl) ?_
    intro h' tk2 t' kk
    exact hQ h' tk2 t' fun b o nb e => kk b o nb (Nat.ne_of_lt (Heap.lt_size e)) (Heap.get?_push_of_some _ e)
theorem sum0_raw {l : Addr} {its : List Value} {ns : List Int} {t0 : Tok} {Q : Value → Shared → Prop} (hh : A.handled = none) (hl : s.heap.IsList l its.toArray) (hi : IntsAre its ns)
    (h : ∀ h' tk t', (∀ b o, s.heap.get? b = some o → h'.get? b = some o) → Q (.int ns.sum t') { s with heap := h', toks := tk }) : wpAny (model prog w) A (call (.builtin "sum") [.ref l] [(Str.ofString "start", .int 0 t0)]) Q E s := by
  obtain ⟨xs, e⟩ := hi.allInts.items
  have e2 : numsOf (intItems xs).toList = ns := by rw [← e]; exact hi.numsOf
  rw [nums_intItems] at e2
  rw [e] at hl
  refine sum0_walk (iter_intList hl fun s₂ q st hfp ne => ?_)
  subst q
  refine ⟨_, _, _, _, _, _, numAt xs, rfl, Walks.list (A := A.in1) hh _ l ne (intItems xs), st, hfp, (fun _ _ => intItems_at), fun h' tk t' kk => ?_⟩
  have z := h h' tk t' (old_kept kk)
  rw [show (intItems xs).size = xs.size by simp [intItems], preSum_eq, List.take_of_length_le (by simp), e2]
  exact z
end
section
variable [Tb] {X : Cx} {W : WX} {x : Str} {p pos : Pos} {e : Expr} {es : List Expr} {ft fk : Rho → R (List D)} {kws : List Keyword} {mid : String} {ks : List Str}
def CallKD (X : Cx) (f : Value) (ks : List Str) (g : List D → List D → R D) : Prop := ∃ r, CallRK X f ks r ∧ ∀ F H ds zs vs ws Q, Same F H → RepsX X.K F H ds vs → RepsX X.K F H zs ws → Post X.K X.mg W0 (RepX X.K) F H [] (g ds zs) Q → r vs ws H Q
def eFnK {α : Type} (g : List D → List D → R α) (ft fk : Rho → R (List D)) : Rho → R α := fun ρ => (ft ρ).bind fun ds => (fk ρ).bind fun zs => g ds zs
theorem de_callBK {g : List D → List D → R D} (hc : CallKD X (.builtin mid) ks g) (hq : ∀ ds zs, (g ds zs).calm) (hg : Gl X x) (hm : X.mg x = none) (hv : bootBuiltins x = some (.builtin mid)) (ha : DA X W (e :: es) ft) (hkw : DK X W kws fk)
    (hn : x ≠ "__name__" := by decide) (hdb : (x == ("__debug__" : Str)) = false := by decide)
    (he : backTo pos (starEach (e :: es) X.env) = (false, eval e X.env) :: backTo pos (starEach es X.env) := by rfl) (hpl : (backTo pos (starEach (e :: es) X.env)).any (·.1) = false := by rfl)
    (hall : (backToKw pos (keywordEach kws X.env)).all (·.1.isSome) = true := by rfl) (hnone : (backToKw pos (keywordEach kws X.env)).any (·.1.isNone) = false := by rfl) (hks : (backToKw pos (keywordEach kws X.env)).filterMap (·.1) = ks := by rfl) :
    DE X W (.Call (.Name x p) (e :: es) kws pos) (eFnK g ft fk) := by
  obtain ⟨r, hr, k⟩ := hc
  refine PE.imp (pe_callBK hr hg hm hv ha hkw hn hdb he hpl hall hnone hks) fun σ H Q ⟨F0, H0, F, ρ, S, q⟩ => ?_
  refine ⟨F0, H0, F, ρ, S, Post.bind q fun ds vs F1 H1 _ e1 r1 p1 => ?_⟩
  refine ⟨F0, H0, F1, ρ, S.mono e1, Post.bind p1 fun zs ws F2 H2 _ e2 r2 p2 => ?_⟩
  exact k F2 H2 ds zs vs ws Q e2.sub (RepsX.mono e2 r1) r2 (p2.calm (hq ds zs))
def sum0D : List D → List D → R D
  | [.lst xs], [.int 0] => (optR (intsOf xs)).map fun ns => .int ns.sum
  | _, _ => .stuck
theorem cd_sum0 (hcalm : X.calm = true) : CallKD X (.builtin "sum") [Str.ofString "start"] sum0D := by
  refine ⟨fun vs zs H Q => ∃ (a : Addr) (ns : List Int), vs = [V.ref a] ∧ zs = [V.int 0] ∧ SqL X.K H a (ns.map V.int) ∧ Q (.int ns.sum) H, fun pins s σ H vs zs us ws Q I r rz h => ?_, fun F H ds zs vs ws Q s r rz q => ?_⟩
  · obtain ⟨a, ns, rfl, rfl, hs, q⟩ := h
    obtain ⟨its, rv, hl, _⟩ := I.list hs
    rw [Vals.ref1 r]
    obtain ⟨u, rfl, e1⟩ := vals1 rz
    obtain ⟨t, rfl⟩ := e1
    exact sum0_raw (I.ok.hd hcalm) hl.isList rv.ints fun h' tk t' hk => ⟨.int _, H, I.kept hk, ⟨_, rfl⟩, q⟩
  · unfold sum0D at q
    split at q
    · rename_i xs
      obtain ⟨v, rfl, rv⟩ := reps_1 r
      obtain ⟨a, us, rfl, h1, h2⟩ := rv.list s rfl
      obtain ⟨z, rfl, rz'⟩ := reps_1 rz
      cases (show z = _ from rz')
      cases e : intsOf xs with
      | none => rw [e] at q; exact q.elim
      | some ns =>
        rw [e] at q
        cases intsOf_reps e h2
        exact ⟨a, ns, rfl, rfl, .inl h1, Post.ok q s rfl⟩
    · exact q.elim
theorem calm_sum0 (ds zs : List D) : (sum0D ds zs).calm := by
  unfold sum0D
  split <;> first | exact calm_map _ _ (calm_opt _) | exact trivial
/-! ### a builtin that hands out a new list -/
theorem do_callB {g : List D → R (List D)} (hc : CallO X (.builtin mid) g) (hq : CalmN g) (hg : Gl X x) (hm : X.mg x = none) (hv : bootBuiltins x = some (.builtin mid)) (ha : DA X W (e :: es) ft) (hn : x ≠ "__name__" := by decide) (hdb : (x == ("__debug__" : Str)) = false := by decide)
    (he : starEach (e :: es) X.env = (false, eval e X.env) :: starEach es X.env := by rfl) (hpl : (backTo pos (starEach es X.env)).any (·.1) = false := by rfl) : DO X W (.Call (.Name x p) (e :: es) [] pos) (eFn g ft) := by
  obtain ⟨r, hr, k⟩ := hc
  refine PE.imp (pe_callB hr hg hm hv ha hn hdb he hpl) fun σ H Q ⟨F0, H0, F, ρ, S, q⟩ => ?_
  exact ⟨F0, H0, F, ρ, S, Post.bind q fun ds vs F1 H1 _ e1 r1 p1 => k F1 H1 ds vs Q e1.sub r1 ((Post.up e1.hp p1).calm (hq ds))⟩
/-! ### xs[::-1] of a list -/
def revO (d : D) : R (List D) := match lsD d with
  | some xs => .ok xs.reverse
  | none => .stuck
theorem Reps.rev {K : PySem.W.Frag} {F : Hp} : ∀ {xs : List D} {vs : List V}, Reps K F xs vs → Reps K F xs.reverse vs.reverse
  | [], vs, r => by cases (show vs = [] from r); exact rfl
  | x :: xs, vs, r => by
    obtain ⟨v, us, rfl, a, t⟩ := r
    rw [List.reverse_cons, List.reverse_cons]
    exact Reps.append (Reps.rev t) ⟨v, [], rfl, a, rfl⟩
def oRev (f : Rho → R D) : Rho → R (List D) := fun ρ => (f ρ).bind revO
theorem do_rev {k : Nat} {f : Rho → R D} {p1 p2 p3 : Pos} (he : DE X W e f) : DO X W (.Subscript e (.Slice none none (some (.UnaryOp .USub (.Constant (.int 1) k p1) p2)) p3) pos) (oRev f) := by
  refine PE.imp (pe_revL he) fun σ H Q ⟨F0, H0, F, ρ, S, q⟩ => ?_
  refine ⟨F0, H0, F, ρ, S, Post.bind q fun d v F1 H1 _ e1 r1 p1 => ?_⟩
  unfold revO at p1
  split at p1
  · rename_i xs el
    obtain ⟨a, us, rfl, h1, h2⟩ := r1.list e1.sub el
    have p1 := Post.up e1.hp p1
    exact ⟨a, us, rfl, .inl h1, fun l hl => p1 _ _ _ (Ext.laid e1.sub hl) (RepO.new e1.sub hl (Reps.rev h2))⟩
  · exact p1.elim
end
end DL
set_option maxRecDepth 100000
set_option maxHeartbeats 4000000
namespace DL
open PySem PySem.Spec PyProof.Rows L2
variable [Tb]
section
variable {K : PySem.W.Frag} {mg : Str → Option Value} {F H : Hp}
theorem fun_ofK {x qual : Str} {st : Stmt} {f : Addr} {fd : FuncData} {kws : List (Str × V)} (F : FunD K x qual (defArgs st) (defBody st) (defScope st) [] kws f fd) : Fun K x qual st f fd := by
  obtain ⟨oc, od, dV, kV, doc, pm, an, cdv, ct, osl, h1, lk, hcd, hD, hK⟩ := F.ex
  rcases hD with ⟨_, rfl⟩ | ⟨e, _⟩
  · exact ⟨⟨oc, od, kV, doc, pm, an, cdv, ct, osl, h1, lk, hcd⟩, F.kp⟩
  · exact absurd rfl e
theorem RepsX.app : ∀ {ds es : List D} {vs ws : List V}, RepsX K F H ds vs → RepsX K F H es ws → RepsX K F H (ds ++ es) (vs ++ ws)
  | [], _, vs, _, h, k => by cases (show vs = [] from h); exact k
  | d :: ds, _, vs, _, ⟨v, r, e, a, t⟩, k => by
    subst e
    exact ⟨v, _, rfl, a, RepsX.app t k⟩
theorem repsX_fill {zs : List D} {ws : List V} {d : D} {v : V} (r : RepsX K F H zs ws) (h : RepX K F H d v) : RepsX K F H [d] ([v] ++ ws) ∨ True := .inr trivial
theorem repsX_one {d : D} {v : V} (h : RepX K F H d v) : RepsX K F H [d] [v] := ⟨v, [], rfl, h, rfl⟩
end
section
variable {X : Cx} {W : WX} {pos : Pos} {st : Stmt} {e a b : Expr} {f fa fb : Rho → R D}
/-! ### x = y = e -/
def rSet2 (i j : Nat) (f : Rho → R D) : SR := fun ρ => (f ρ).out ρ fun d => .when (kept d = true) (.nx ((ρ.set i (.d d)).set j (.d d)))
theorem fs_set2 {i j : Nat} {x y : Str} {p1 p2 : Pos} (hN : X.N.Nodup) (hi : X.N[i]? = some x) (hj : X.N[j]? = some y) (hx : Loc X.env.scope x) (hy : Loc X.env.scope y) (he : DE X W e f)
    (fx : X.fn x = true ∨ X.env.scope.names.lookup x = some .local := by first | exact .inl rfl | exact .inr rfl | assumption) (fy : X.fn y = true ∨ X.env.scope.names.lookup y = some .local := by first | exact .inl rfl | exact .inr rfl | assumption)
    (ha : (assignEach [.Name x p1, .Name y p2] X.env).map (·.2) = [assign (.Name x p1) X.env, assign (.Name y p2) X.env] := by rfl) (hw : swappedStores [.Name x p1, .Name y p2] e X.env = pure none := by rfl) :
    FS X W (.Assign [.Name x p1, .Name y p2] e pos) (rSet2 i j f) := by
  refine PS.imp (ps_asg2 he (pg_name hN hi hx fx) (pg_name hN hj hy fy) ha hw) fun D σ H ⟨F0, H0, F, ρ, De, S, c, z⟩ => ?_
  refine ⟨F0, H0, F, ρ, S, post_go S c (R.out_go (De := De) (k' := fun d => kept d = true ∧ De.nx ((ρ.set i (.d d)).set j (.d d))) z fun d h => Out.when_td h) fun d v F1 H1 x r k => ?_⟩
  exact c.nx F1 H1 _ _ x.fr (((S.mono x).setD (r.kept k.1)).setD (r.kept k.1)) k.2
def sSet2 (i j : Nat) (f : Rho → R D) : TD := fun De ρ => go De ρ (f ρ) fun d => kept d = true ∧ De.nx ((ρ.set i (.d d)).set j (.d d))
theorem td_set2 {i j : Nat} {f : Rho → R D} : toTD (rSet2 i j f) = sSet2 i j f := by
  funext De ρ
  show ((f ρ).out ρ _).td De = _
  rw [R.out_td]; simp only [when_td]; rfl
theorem sSet2_i {i j : Nat} {f : Rho → R D} {De : EndsD} {ρ : Rho} {d : D} (h : f ρ = .ok d) (k : kept d = true) (n : De.nx ((ρ.set i (.d d)).set j (.d d))) : sSet2 i j f De ρ := by
  unfold sSet2; rw [h]; exact ⟨k, n⟩
theorem seq_set2 {i j : Nat} {f : Rho → R D} {v : TD} {De : EndsD} {ρ : Rho} {d : D} (h : f ρ = .ok d) (k : kept d = true) (n : v De ((ρ.set i (.d d)).set j (.d d))) : sSeq (sSet2 i j f) v De ρ := sSet2_i (De := { De with nx := v De }) h k n
/-! ### x, y = e, e' -/
def rPar (i j : Nat) (fa fb : Rho → R D) : SR := fun ρ => (fa ρ).out ρ fun a => (fb ρ).out ρ fun b => .when (kept a = true ∧ kept b = true) (.nx ((ρ.set i (.d a)).set j (.d b)))
theorem fs_par {i j : Nat} {x y : Str} {px py pt : Pos} {kt k2 pt2} (hc : X.calm = true) (hN : X.N.Nodup) (hi : X.N[i]? = some x) (hj : X.N[j]? = some y) (hij : i ≠ j)
    (hx : X.env.scope.names.lookup x = some .local) (hy : X.env.scope.names.lookup y = some .local) (ha : DE X W a fa) (hb : DE X W b fb)
    (hw : swappedStores [.Tuple [.Name x px, .Name y py] kt pt] (.Tuple [a, b] k2 pt2) X.env = pure (some [x, y]))
    (hs : swapsWithSole [.Tuple [.Name x px, .Name y py] kt pt] (.Tuple [a, b] k2 pt2) pos.line X.env = pure false := by rfl)
    (h1 : starEach [a, b] X.env = (false, eval a X.env) :: starEach [b] X.env := by rfl) (h2 : starEach [b] X.env = (false, eval b X.env) :: starEach [] X.env := by rfl) :
    FS X W (.Assign [.Tuple [.Name x px, .Name y py] kt pt] (.Tuple [a, b] k2 pt2) pos) (rPar i j fa fb) := by
  refine PS.imp (ps_par hc hN hi hj hij hx hy (da_cons ha (da_cons hb da_nil h2) h1) hw hs) fun D σ H ⟨F0, H0, F, ρ, De, S, c, z⟩ => ?_
  refine ⟨F0, H0, F, ρ, S, ?_⟩
  have z : (rPar i j fa fb ρ).td De := z
  unfold rPar at z
  have g : go De ρ (aCons fa (aCons fb aNil) ρ) fun xs => ∃ a b, xs = [a, b] ∧ (kept a = true ∧ kept b = true) ∧ De.nx ((ρ.set i (.d a)).set j (.d b)) := by
    unfold aCons aNil
    cases h : fa ρ with
    | ok x =>
      rw [h] at z
      cases h' : fb ρ with
      | ok y =>
        have z : ((fb ρ).out ρ _).td De := z
        rw [h'] at z
        have w := Out.when_td z
        exact ⟨x, y, rfl, w⟩
      | exc _ => have z : ((fb ρ).out ρ _).td De := z; rw [h'] at z; exact z
      | stuck => have z : ((fb ρ).out ρ _).td De := z; rw [h'] at z; exact z
    | exc _ => rw [h] at z; exact z
    | stuck => rw [h] at z; exact z
  refine post_go S c g fun ds vs F1 H1 x r ⟨a, b, e, k, n⟩ => ?_
  subst e
  obtain ⟨v, _, rfl, r1, w, _, rfl, r2, r3⟩ := r
  cases (show _ = [] from r3)
  exact ⟨v, w, rfl, c.nx F1 H1 _ _ x.fr (((S.mono x).setD (r1.kept k.1)).setD (r2.kept k.2)) n⟩
def sPar (i j : Nat) (fa fb : Rho → R D) : TD := fun De ρ => go De ρ (fa ρ) fun a => go De ρ (fb ρ) fun b => (kept a = true ∧ kept b = true) ∧ De.nx ((ρ.set i (.d a)).set j (.d b))
theorem td_par {i j : Nat} {fa fb : Rho → R D} : toTD (rPar i j fa fb) = sPar i j fa fb := by
  funext De ρ
  show ((fa ρ).out ρ _).td De = _
  rw [R.out_td]
  simp only [R.out_td, when_td]
  rfl
theorem sPar_i {i j : Nat} {fa fb : Rho → R D} {De : EndsD} {ρ : Rho} {a b : D} (ha : fa ρ = .ok a) (hb : fb ρ = .ok b) (ka : kept a = true) (kb : kept b = true) (n : De.nx ((ρ.set i (.d a)).set j (.d b))) : sPar i j fa fb De ρ := by
  unfold sPar; rw [ha]
  show go De ρ (fb ρ) _
  rw [hb]; exact ⟨⟨ka, kb⟩, n⟩
theorem sAug_i {i : Nat} {g : D → D → R D} {f : Rho → R D} {De : EndsD} {ρ : Rho} {x y z : D} (e : ρ[i]? = some (.d x)) (h : f ρ = .ok y) (hg : g x y = .ok z) (k : kept z = true) (n : De.nx (ρ.set i (.d z))) : sAug i g f De ρ := by
  unfold sAug; rw [e]
  show go De ρ (f ρ) _
  rw [h]
  show go De ρ (g x y) _
  rw [hg]; exact ⟨k, n⟩
/-! ### {'..': '..'}[e], {..}.get(e, e') -/
def tabD (t : List (Str × Str)) : D → R D
  | .str z => match t.lookup z with
    | some y => .ok (.str y)
    | none => .stuck
  | _ => .stuck
def tabG (t : List (Str × Str)) : D → D → R D
  | .str z, d => match t.lookup z with
    | some y => .ok (.str y)
    | none => .ok d
  | _, _ => .stuck
def kvT (t : List (Str × Str)) : List (Key × V) := t.map fun q => (Sum.inr q.1, V.str q.2)
theorem valV_kvT (z : Str) : ∀ t : List (Str × Str), valV (kvT t) (Sum.inr z) = (t.lookup z).map V.str
  | [] => rfl
  | (a, y) :: t => by
    show valV ((Sum.inr a, V.str y) :: kvT t) (Sum.inr z) = _
    by_cases h : z = a
    · subst h
      rw [valV_pos rfl, List.lookup_cons_self]; rfl
    · rw [valV_neg (fun e => h (Sum.inr.inj e).symm), valV_kvT z t, List.lookup_cons, beq_false_of_ne h]
theorem merge_new : ∀ (more acc : List (Key × V)), (acc ++ more).map (·.1) |>.Nodup → mergeK acc more = acc ++ more
  | [], acc, _ => (List.append_nil acc).symm
  | p :: more, acc, h => by
    have n : valV acc p.1 = none := by
      rw [List.map_append, List.map_cons, List.nodup_append] at h
      have g : ∀ q ∈ acc, q.1 ≠ p.1 := fun q hq e => h.2.2 q.1 (List.mem_map_of_mem hq) p.1 (List.mem_cons_self ..) e
      unfold valV
      rw [List.find?_eq_none.mpr fun q hq => by simpa using g q hq]; rfl
    show mergeK (putK acc p.1 p.2) more = _
    rw [putK_new _ n, merge_new more (acc ++ [p]) (by rw [List.append_assoc]; exact h), List.append_assoc]; rfl
theorem merge_tab {t : List (Str × Str)} (h : (t.map (·.1)).Nodup) : mergeK [] (kvT t) = kvT t := merge_new _ [] (by
  have e : (kvT t).map (·.1) = (t.map (·.1)).map Sum.inr := by
    unfold kvT
    rw [List.map_map, List.map_map]; rfl
  rw [List.nil_append, e]
  exact h.map _ fun a b n c => n (Sum.inr.inj c))
def trT (t : List (Str × Str)) : List (TE × TE) := t.map fun q => (tC (.str q.1), tC (.str q.2))
theorem pairs_tab {σ : St} : ∀ {t : List (Str × Str)} {H : Hp} {Q : List (V × V) → Hp → Prop}, Q ((kvT t).map fun kv => (kV kv.1, kv.2)) H → tPairs (trT t) σ H Q
  | [], H, Q, h => h
  | (a, y) :: t, H, Q, h => pairs_tab (t := t) (Q := fun ps H3 => Q ((V.str a, V.str y) :: ps) H3) h
/-- the display stands at a fresh place; the frame is as ahead -/
theorem disp_tab {t : List (Str × Str)} (nd : (t.map (·.1)).Nodup) (hl : t.length ≤ 15) {σ : St} {H : Hp} {Q : VK} (k : ∀ p, H p = none → Q (.ref p) (upd H p (.dK (kvT t)))) : tDisp (trT t) σ H Q := by
  intro p hp
  refine pairs_tab ⟨upd_same, kvT t, rfl, ?_, ?_⟩
  · unfold kvT
    rw [List.length_map]; exact hl
  · rw [merge_tab nd, upd_upd]
    exact k p hp
theorem DGet.tab {t : List (Str × Str)} {H : Hp} {a : Addr} {z : Str} (e : H a = some (.dK (kvT t))) : DGet H a (.str z) ((t.lookup z).map V.str) := by
  rw [← valV_kvT]
  exact DGet.k (k := Sum.inr z) e
def eTab (t : List (Str × Str)) (f : Rho → R D) : Rho → R D := fun ρ => (f ρ).bind (tabD t)
def eTabG (t : List (Str × Str)) (f g : Rho → R D) : Rho → R D := fun ρ => (f ρ).bind fun x => (g ρ).bind fun y => tabG t x y
theorem de_tab {t : List (Str × Str)} {keys : List (Option Expr)} {values : List Expr} {dpos : Pos} (hp : PPs X dpos keys values (trT t)) (he : DE X W e f) (hu : X.A.units + 64 < cLine) (nd : (t.map (·.1)).Nodup) (hl : t.length ≤ 15)
    (hall : keys.all (·.isSome) = true) (hkl : keys.length = values.length) (h0 : keys ≠ []) (h15 : keys.length ≤ 15) (hs : NoSl e := by exact fun _ _ => rfl) : DE X W (.Subscript (.Dict keys values dpos) e pos) (eTab t f) := by
  refine PE.imp (pe_dget (by omega) (pe_disp hp hall hkl h0 h15) he hs) fun σ H Q ⟨F0, H0, F, ρ, S, q⟩ => ?_
  refine disp_tab nd hl fun p hp => ?_
  have e0 := Ext.laid S.sub hp (o := .dK (kvT t))
  refine ⟨F0, H0, F, ρ, S.mono e0, Post.bind (Post.mono q e0) fun d v F1 H1 _ e1 r1 p1 => ?_⟩
  have g := e1.hp.g (upd_same (H := H) (a := p) (o := .dK (kvT t)))
  cases d with
  | str z =>
    unfold tabD at p1
    dsimp only at p1
    have dg := DGet.tab (z := z) g
    cases h : t.lookup z with
    | none => rw [h] at p1; exact p1.elim
    | some y =>
      rw [h] at p1 dg
      cases (show v = V.str z from r1)
      exact ⟨p, _, rfl, dg, Post.ok p1 e1.sub rfl⟩
  | _ => exact p1.elim
theorem de_tabG {t : List (Str × Str)} {keys : List (Option Expr)} {values : List Expr} {dpos apos cpos : Pos} {g : Rho → R D} (hp : PPs X dpos keys values (trT t)) (he : DE X W e f) (hg : DE X W b g) (hu : X.A.units + 64 < cLine) (nd : (t.map (·.1)).Nodup) (hl : t.length ≤ 15)
    (hall : keys.all (·.isSome) = true) (hkl : keys.length = values.length) (h0 : keys ≠ []) (h15 : keys.length ≤ 15) (m : M2 X (.Dict keys values dpos) "get" apos e b cpos) : DE X W (.Call (.Attribute (.Dict keys values dpos) "get" apos) [e, b] [] cpos) (eTabG t f g) := by
  refine PE.imp (pe_dget2 (by omega) (pe_disp hp hall hkl h0 h15) he hg m) fun σ H Q ⟨F0, H0, F, ρ, S, q⟩ => ?_
  refine disp_tab nd hl fun p hp => ?_
  have e0 := Ext.laid S.sub hp (o := .dK (kvT t))
  refine ⟨p, rfl, .inl ⟨_, .inl upd_same⟩, F0, H0, F, ρ, S.mono e0, Post.bind (Post.mono q e0) fun d v F1 H1 _ e1 r1 p1 => ?_⟩
  refine ⟨F0, H0, F1, ρ, (S.mono e0).mono e1, Post.bind p1 fun d2 v2 F2 H2 _ e2 r2 p2 => ?_⟩
  have g := e2.hp.g (e1.hp.g (upd_same (H := H) (a := p) (o := .dK (kvT t))))
  cases d with
  | str z =>
    unfold tabG at p2
    dsimp only at p2
    have dg := DGet.tab (z := z) g
    cases (show v = V.str z from r1)
    refine ⟨_, dg, ?_⟩
    cases h : t.lookup z with
    | none => rw [h] at p2; exact Post.ok p2 e2.sub r2
    | some y => rw [h] at p2; exact Post.ok p2 e2.sub rfl
  | _ => exact p2.elim
theorem pps_tcons {pos : Pos} {a y : Str} {k v : Expr} {ks : List (Option Expr)} {vs : List Expr} {t : List (Str × Str)} (hk : PE X k (tC (.str a))) (hv : PE X v (tC (.str y))) (hr : PPs X pos ks vs (trT t)) : PPs X pos (some k :: ks) (v :: vs) (trT ((a, y) :: t)) := pps_cons hk hv hr
theorem pps_tnil {pos : Pos} : PPs X pos [] [] (trT []) := pps_nil
end
end DL
set_option maxRecDepth 100000
set_option maxHeartbeats 4000000
/-! DSh: list.sort with a key, any order of keys, any walk of the key's calls. -/
namespace DL
open PySem PySem.Spec PyProof.Rows L2 SrtO
section
variable {prog : Program} {w : World} {A : Around} {E : Value → Shared → Prop} {s : Shared} {a kS : Addr} {b : Bool} {vs : List Value} {R : PySem.Fin → Shared → Prop}
/-- the pairs as they go into the sort -/
def startP (b : Bool) (ks vs : List Value) : List Keyed := if b = true then (ks.zip vs).reverse else ks.zip vs
def outP (b : Bool) (arr : List Keyed) : List Value := if b = true then (arr.map (·.2)).reverse else arr.map (·.2)
theorem tail_O {e1 e : Nat} {ks : Array Value} {st : SortSt} (hA : s.heap.get? a = some (seqObj "list" #[] e1)) (hK : s.heap.get? kS = some (seqObj "list" ks e)) (ne : kS ≠ a) (hk : ks.size ≤ sizeLine) (hs : (arrOf st).size ≤ sizeLine) (hf : failedOf st = none)
    (h : R (.done (.ret .none)) { s with heap := (s.heap.update kS (Obj.mapSeq fun _ => #[])).update a (Obj.mapSeq fun _ => (outP b (arrOf st).toList).toArray) }) : wpAny (model prog w) A (ksk_tail a b e1 (.ref kS) st) R E s := by
  unfold ksk_tail
  refine wpAny_bind (listUpdate_at hK rfl ?_ hk (Nat.zero_le _))
  have hA' : (s.heap.update kS (Obj.mapSeq fun _ => (#[] : Array Value))).get? a = some (seqObj "list" #[] e1) := by
    rw [Heap.get?_update_ne _ _ _ _ (Ne.symm ne)]; exact hA
  refine wpAny_bind (wpAny_letGo (wpAny_bind (seqEpoch_at hA' rfl ?_)))
  have ho : (outP b (arrOf st).toList).toArray = if b = true then ((arrOf st).map (·.2)).reverse else (arrOf st).map (·.2) := by
    unfold outP
    cases b with
    | true => rw [if_pos rfl, if_pos rfl, ← Array.toList_map, ← Array.toList_reverse, Array.toArray_toList]
    | false => rw [if_neg Bool.false_ne_true, if_neg Bool.false_ne_true, ← Array.toList_map, Array.toArray_toList]
  rw [ho] at h
  refine wpAny_bind (listUpdate_at hA' rfl ?_ (Nat.zero_le _) ?_)
  · rw [hf]
    simp only [bne_self_eq_false, Bool.false_eq_true, if_false]
    exact wpAny_pure h
  · cases b with
    | true => rw [if_pos rfl, Array.size_reverse, Array.size_map]; omega
    | false => rw [if_neg Bool.false_ne_true, Array.size_map]; omega
theorem end_O {e1 e : Nat} {ks : List Value} {ltv : Value → Value → Bool} (O : Swo ltv) (hA : s.heap.get? a = some (seqObj "list" #[] e1)) (hK : s.heap.get? kS = some (seqObj "list" ks.toArray e)) (ne : kS ≠ a) (hl : ks.length = vs.length) (hz : vs.length ≤ sizeLine)
    (hS : 2 ≤ vs.length → ∃ κ, (∀ (Q : SortKind → Shared → Prop) (E : Value → Shared → Prop), Q κ s → wpAny (model prog w) A (keyKind' ks.toArray) Q E s) ∧ Cmp prog w A s κ (fun p => p.1 ∈ ks) (lt2 ltv))
    (h : ∀ arr : List Keyed, Srtd (lt2 ltv) arr → Stb (lt2 ltv) arr (startP b ks vs) → R (.done (.ret .none)) { s with heap := (s.heap.update kS (Obj.mapSeq fun _ => #[])).update a (Obj.mapSeq fun _ => (outP b arr).toArray) }) :
    wpAny (model prog w) A (ksk_end a b vs.toArray e1 (.ref kS) ks.toArray) R E s := by
  have est : (if b = true then (ks.toArray.zip vs.toArray).reverse else ks.toArray.zip vs.toArray).toList = startP b ks vs := by
    unfold startP
    cases b with
    | true => rw [if_pos rfl, if_pos rfl, Array.toList_reverse, ksk_zip]
    | false => rw [if_neg Bool.false_ne_true, if_neg Bool.false_ne_true, ksk_zip]
  have lst : (startP b ks vs).length = vs.length := by
    unfold startP
    cases b with
    | true => rw [if_pos rfl, List.length_reverse, List.length_zip, hl, Nat.min_self]
    | false => rw [if_neg Bool.false_ne_true, List.length_zip, hl, Nat.min_self]
  have go : ∀ t : Sem PySem.Fin, wpAny (model prog w) A t R E s → wpAny (model prog w) A (if b = true then (do let _ ← rule "list.sort.reverse"; t) else t) R E s := by
    intro t ht
    split
    · exact wpAny_bind (wpAny_rule ht)
    · exact ht
  have tl : ∀ st : SortSt, Srtd (lt2 ltv) (arrOf st).toList → Stb (lt2 ltv) (arrOf st).toList (startP b ks vs) → failedOf st = none → wpAny (model prog w) A (ksk_tail a b e1 (.ref kS) st) R E s := fun st h1 h2 h3 => by
    refine tail_O hA hK ne (by rw [List.size_toArray]; omega) ?_ h3 (h _ h1 h2)
    have := h2.len
    rw [Array.length_toList, lst] at this
    omega
  unfold ksk_end
  try dsimp only
  refine go _ ?_
  have hsz : vs.toArray.size = vs.length := by simp
  by_cases h2 : vs.toArray.size < 2
  · rw [if_pos h2, if_pos h2]
    refine wpAny_bind (wpAny_pure ?_)
    rw [StateT.run_pure]
    refine wpAny_bind (wpAny_pure ?_)
    try dsimp only
    refine tl (SortSt.mk' general' (if b = true then (ks.toArray.zip vs.toArray).reverse else ks.toArray.zip vs.toArray) #[] 7 none) ?_ ?_ rfl
    · show Srtd (lt2 ltv) (if b = true then (ks.toArray.zip vs.toArray).reverse else ks.toArray.zip vs.toArray).toList
      rw [est]
      have : (startP b ks vs).length < 2 := by omega
      generalize startP b ks vs = l at this
      match l, this with
      | [], _ => exact List.Pairwise.nil
      | [v], _ => exact List.pairwise_singleton _ _
      | _ :: _ :: l, h => exact absurd h (by simp)
    · show Stb (lt2 ltv) (if b = true then (ks.toArray.zip vs.toArray).reverse else ks.toArray.zip vs.toArray).toList _
      rw [est]
      exact Stb.refl _
  · rw [if_neg h2, if_neg h2]
    obtain ⟨κ, hkind, hT⟩ := hS (by omega)
    refine wpAny_bind (hkind _ _ ?_)
    have hall : AllL (fun p : Keyed => p.1 ∈ ks) (if b = true then (ks.toArray.zip vs.toArray).reverse else ks.toArray.zip vs.toArray).toList := fun p hm => by
      rw [est] at hm
      unfold startP at hm
      have : p ∈ ks.zip vs := by
        cases b with
        | true => rw [if_pos rfl] at hm; exact List.mem_reverse.mp hm
        | false => exact hm
      exact (List.of_mem_zip (a := p.1) (b := p.2) this).1
    refine wpAny_bind (wpAny_mono (wpS_sortO (st0 := SortSt.mk' κ (if b = true then (ks.toArray.zip vs.toArray).reverse else ks.toArray.zip vs.toArray) #[] 7 none)
      (Q := fun _ st' => Srtd (lt2 ltv) (arrOf st').toList ∧ Stb (lt2 ltv) (arrOf st').toList (if b = true then (ks.toArray.zip vs.toArray).reverse else ks.toArray.zip vs.toArray).toList ∧ failedOf st' = none) (swo2 O) hT rfl hall rfl rfl fun st' a1 a2 a3 => ⟨a1, a2, a3⟩) ?_ fun _ _ e => e)
    rintro ⟨⟨⟩, st'⟩ s' ⟨rfl, hp1, hp2, hf⟩
    rw [est] at hp2
    exact tl st' hp1 hp2 hf
theorem rest_O {f : Value} {e1 : Nat} (St : List Value → Shared → Prop) (hz : vs.length ≤ sizeLine) (h0 : St [] s) (hK : ∀ ks s', St ks s' → ∃ e, s'.heap.get? kS = some (seqObj "list" ks.toArray e))
    (turn : ∀ ks s' x, vs[ks.length]? = some x → St ks s' → wpAny (model prog w) A (call f [x]) (fun r s'' => ∃ ks2, ks2.length = ks.length ∧ (∃ e, s''.heap.get? kS = some (seqObj "list" ks2.toArray e)) ∧ St (ks2 ++ [r]) { s'' with heap := s''.heap.update kS (Obj.mapSeq (·.push r)) }) (fun _ _ => False) s')
    (done : ∀ ks s', ks.length = vs.length → St ks s' → wpAny (model prog w) A (ksk_end a b vs.toArray e1 (.ref kS) ks.toArray) R E s') : wpAny (model prog w) A (ksk_rest a f b vs.toArray e1 (.ref kS)) R E s := by
  unfold ksk_rest
  refine wpAny_bind (wpAny_rule ?_)
  first
    | rw [List.forIn_toArray]
    | (rw [← Array.forIn_toList]; simp only [List.toList_toArray])
    | rw [← Array.forIn_toList]
  refine wpAny_bind (ksk_fold (fun i s' => ∃ ks, ks.length = i ∧ St ks s') vs 0 s ⟨[], rfl, h0⟩ ?_ ?_)
  · rintro j x s' hx ⟨ks, hl, hst⟩
    rw [Nat.zero_add] at hl
    subst hl
    have hlt : ks.length < vs.length := (List.getElem?_eq_some_iff.mp hx).1
    refine wpAny_bind (wpAny_attempt (wpAny_mono (turn ks s' x hx hst) (fun r s'' hq => ?_) fun _ _ z => z.elim))
    obtain ⟨ks2, l2, ⟨e, hk⟩, hn⟩ := hq
    refine wpAny_bind (listUpdate_at hk rfl ?_ (by rw [List.size_toArray]; omega) (by show (ks2.toArray.push r).size ≤ _; rw [Array.size_push, List.size_toArray]; omega))
    exact wpAny_pure ⟨rfl, ks2 ++ [r], by rw [List.length_append, l2]; simp, hn⟩
  · rintro s' ⟨ks, hl, hst⟩
    rw [Nat.zero_add] at hl
    obtain ⟨e, hk⟩ := hK ks s' hst
    exact wpAny_bind (listItems_at hk rfl (done ks s' hl hst))
end
end DL
set_option maxRecDepth 100000
set_option maxHeartbeats 4000000
/-! DSi: sorted with a key, over tracked heaps. -/
namespace DL
open PySem PySem.Spec PyProof.Rows L2 SrtO
section
variable {X : Cx} {pins : List (Addr × Obj)} {σ : St} {H : Hp} {s : Shared}
/-- an object that nobody knows of becomes a list that is known -/
theorem Inv_adopt {a : Addr} {ys : List V} {its : List Value} {g : Obj → Obj} {n : Nat} {t' : Nat} (I : Inv X pins σ H s) (hH : H a = none) (big : X.s_0.heap.objs.size ≤ a) (nl : a ≠ X.env.locals) (nc : ∀ x c, X.env.cells.lookup x = some c → c ≠ a) (np : ∀ p ∈ X.pn ++ pins, p.1 ≠ a)
    (hv : Vals ys its) (hz : ys.length ≤ sizeLine) (he : (s.heap.update a g).get? a = some (seqObj "list" its.toArray n)) : Inv X pins σ (upd H a (.lst ys)) { s with heap := s.heap.update a g, toks := t' } := by
  have other : ∀ b, b ≠ a → (s.heap.update a g).get? b = s.heap.get? b := fun b hb => Heap.get?_update_ne _ _ _ _ hb
  have at_ : ∀ b, b ≠ a → upd H a (.lst ys) b = H b := fun b hb => upd_ne hb
  have sm : ∀ b u, H b = some u → b ≠ a := fun b u e => ne_of_none e hH
  refine I.step (g' := s.gens) (d' := s.drawn) (ch := [a]) (fun b hb => ?_) (fun b o _ _ hn e _ => ?_) (fun b o _ _ hn e _ => ?_) (fun b o hn _ e => ?_) (fun b o hn e => ?_) (fun b xs e => ?_) (fun b o u e => ?_) (fun b ps e => ⟨#[], ?_⟩) (fun m hm => ?_) (fun b u e => ?_) I.bare
  · rw [List.mem_singleton.mp hb]
    exact ⟨.inr big, nl, nc, np⟩
  · rw [other b (fun z => hn (List.mem_singleton.mpr z))]; exact e
  · exact ⟨o.slots, by rw [other b (fun z => hn (List.mem_singleton.mpr z))]; exact e⟩
  · rw [at_ b (fun z => hn (List.mem_singleton.mpr z))]; exact e
  · exact ⟨o, by rw [other b (fun z => hn (List.mem_singleton.mpr z))]; exact e⟩
  · rw [at_ b (sm b _ e)]; exact e
  · rw [at_ b (sm b _ e)]; exact e
  · rw [at_ b (sm b _ e), e]; simp
  · exact hm.sameBut (Heap.SameBut.update s.heap a g) (Ne.symm nl)
  · by_cases hb : b = a
    · subst hb
      rw [upd_same] at e
      cases e
      exact ⟨hz, its, n, hv, he⟩
    · rw [at_ b hb] at e
      refine (I.hok b u e).stay (fun d v hd q => ?_) (fun d q => by rw [at_ d (sm d _ q)]; exact q) fun d xs q => by rw [at_ d (sm d _ q)]; exact q
      rw [other d ?_]
      · exact q
      · rcases hd with z | z
        · rw [z]; exact hb
        · exact sm d _ z
/-- what stays of the sort's helpers while the keys are made -/
theorem lt_ne {b a : Addr} {n : Nat} (h : @LT.lt Nat instLTNat b n) (k : @LE.le Nat instLENat n a) : b ≠ a := Nat.ne_of_lt (Nat.lt_of_lt_of_le h k)
structure KeySt (X : Cx) (pins : List (Addr × Obj)) (σ : St) (a kS q : Addr) (qo : Obj) (e1 : Nat) (J : Addr → List V → Hp → Prop) (ksV : List V) (H : Hp) (s : Shared) : Prop where
  inv : Inv X pins σ H s
  ks : H kS = some (.lst ksV)
  ha : s.heap.get? a = some (seqObj "list" #[] e1)
  na : H a = none
  hq : s.heap.get? q = some qo
  nq : H q = none
  j : J kS ksV H
theorem sorted_keyI {l q : Addr} {qo : Obj} {xs : List V} {b : Bool} {kw : List (Str × Value)} {Q : VK} {J : Addr → List V → Hp → Prop} (I : Inv X pins σ H s) (hs : SqL X.K H l xs) (hq : s.heap.get? q = some qo) (nq : H q = none) (fq : q ∉ frs X.stack)
    (ha1 : argsOk "sorted" ⟨[.ref l], kw⟩) (ha2 : ∀ x, argsOk "list.sort" ⟨[.ref x], kw⟩) (ht : ∀ x, Builtin.«list.sort» ⟨[.ref x], kw⟩ = ksk_tree x (.ref q) b)
    (h0 : ∀ kS, H kS = none → J kS [] (upd H kS (.lst [])))
    (turn : ∀ (a kS : Addr) (e1 : Nat) (ksV : List V) (H' : Hp) (s' : Shared) (x : V) (u : Value), H kS = none → xs[ksV.length]? = some x → RelV x u → KeySt X pins σ a kS q qo e1 J ksV H' s' →
      wpAny (model X.prog X.w) X.A.in1.in1 (call (.ref q) [u]) (fun r s'' => ∃ k H'', Inv X pins σ H'' s'' ∧ RelV k r ∧ Un (frs X.stack) [] H' H'' s'.heap s''.heap ∧ H'' kS = some (.lst ksV) ∧ J kS (ksV ++ [k]) (upd H'' kS (.lst (ksV ++ [k])))) (fun _ _ => False) s')
    (done : ∀ (a kS : Addr) (e1 : Nat) (ksV : List V) (H' : Hp) (s' : Shared) (us its : List Value), H a = none → H kS = none → a ≠ kS → ksV.length = xs.length → KeySt X pins σ a kS q qo e1 J ksV H' s' → Vals xs us → Vals ksV its → ∃ ltv : Value → Value → Bool, Swo ltv ∧
      (2 ≤ us.length → ∃ κ, (∀ (Q : SortKind → Shared → Prop) (E : Value → Shared → Prop), Q κ s' → wpAny (model X.prog X.w) X.A.in1.in1 (keyKind' its.toArray) Q E s') ∧ Cmp X.prog X.w X.A.in1.in1 s' κ (fun p => p.1 ∈ its) (lt2 ltv)) ∧
      ∀ arr : List Keyed, Srtd (lt2 ltv) arr → Stb (lt2 ltv) arr (startP b its us) → ∃ ysV, Vals ysV (outP b arr) ∧ ysV.length ≤ sizeLine ∧ Q (.ref a) (upd (upd H' kS (.lst [])) a (.lst ysV))) :
    wpAny (model X.prog X.w) X.A (call (.builtin "sorted") [.ref l] kw) (EP X pins σ Q) X.xe s := by
  obtain ⟨us, rv, hl, hz⟩ := I.list hs
  have hz' : us.length ≤ sizeLine := by rw [← rv.length]; exact hz
  refine call_function_entry_kw kind_sorted plain_sorted entry_sorted ha1 ?_
  unfold Builtin.«sorted»
  refine wpAny_bind (m := checkCount "sorted" 1 1 _) (wpAny_pure ?_)
  refine wpAny_bind (collect_list hl.isList ?_ hz')
  refine wpAny_bind (wpAny_newList ?_ hz')
  have sz1 : ((s.heap.push (seqObj "list" #[] 0)).update s.heap.objs.size (Obj.mapSeq (· ++ us.toArray))).objs.size = s.heap.objs.size + 1 := by
    rw [Heap.size_update, size_push']
  have hoL : (((s.heap.push (seqObj "list" #[] 0)).update s.heap.objs.size (Obj.mapSeq (· ++ us.toArray))).push (seqObj "list" us.toArray 0)).get? (s.heap.objs.size + 1) = some (seqObj "list" us.toArray 0) := by
    rw [← sz1]; exact Heap.get?_push_size _ rfl
  have old1 : ∀ b o, s.heap.get? b = some o → (((s.heap.push (seqObj "list" #[] 0)).update s.heap.objs.size (Obj.mapSeq (· ++ us.toArray))).push (seqObj "list" us.toArray 0)).get? b = some o := fun b o e => by
    have lt : (b : Nat) < s.heap.objs.size := Heap.lt_size e
    refine Heap.get?_push_of_some _ ?_
    rw [Heap.get?_update_ne _ _ _ _ (Nat.ne_of_lt lt)]
    exact Heap.get?_push_of_some _ e
  show wpAny _ _ _ _ _ { s with heap := ((s.heap.push (seqObj "list" #[] 0)).update s.heap.objs.size (Obj.mapSeq (· ++ us.toArray))).push (seqObj "list" us.toArray 0) }
  rw [sz1]
  generalize hg : ((s.heap.push (seqObj "list" #[] 0)).update s.heap.objs.size (Obj.mapSeq (· ++ us.toArray))).push (seqObj "list" us.toArray 0) = h1 at hoL old1 ⊢
  have sz2 : h1.objs.size = s.heap.objs.size + 2 := by rw [← hg, size_push', sz1]
  clear hg
  generalize ea : s.heap.objs.size + 1 = a at hoL ⊢
  refine wpAny_bind (wpAny_holding (wpAny_call_entry_kw slot_list_sort ⟨_, hoL, rfl⟩ entry_list_sort ?_ (ha2 _)))
  rw [ht]
  unfold ksk_tree
  refine wpAny_bind (listItems_at hoL rfl ?_)
  refine wpAny_bind (listUpdate_at hoL rfl ?_ (by rw [List.size_toArray]; omega) (Nat.zero_le _))
  obtain ⟨e1, ho1⟩ : ∃ e1, (h1.update a (Obj.mapSeq fun _ => (#[] : Array Value))).get? a = some (seqObj "list" #[] e1) := ⟨_, get?_update_seq hoL fun _ => #[]⟩
  have old2 : ∀ b o, s.heap.get? b = some o → (h1.update a (Obj.mapSeq fun _ => (#[] : Array Value))).get? b = some o := fun b o e => by
    have lt : (b : Nat) < s.heap.objs.size := Heap.lt_size e
    rw [Heap.get?_update_ne _ _ _ _ (lt_ne lt (by omega))]
    exact old1 b o e
  have sz3 : (h1.update a (Obj.mapSeq fun _ => (#[] : Array Value))).objs.size = s.heap.objs.size + 2 := by rw [Heap.size_update, sz2]
  refine wpAny_bind (seqEpoch_at ho1 rfl ?_)
  generalize h1.update a (Obj.mapSeq fun _ => (#[] : Array Value)) = h2 at ho1 old2 sz3 ⊢
  refine wpAny_bind (wpAny_newTuple ?_ (by show us.length ≤ _; exact hz'))
  refine wpAny_bind (wpAny_newList ?_ (Nat.zero_le _))
  refine wpAny_holding ?_
  have sz4 : (h2.push (seqObj "tuple" us.toArray 0)).objs.size = s.heap.objs.size + 3 := by rw [size_push', sz3]
  have nA : H a = none := I.hok.fresh (by omega)
  have nK : H (s.heap.objs.size + 3) = none := I.hok.fresh (by omega)
  have nAK : a ≠ s.heap.objs.size + 3 := by omega
  have nofr : ∀ f, s.heap.objs.size ≤ f → f ∉ frs X.stack := fun f hf z => by
    rcases List.mem_cons.mp (I.stkSub _ z) with e | e
    · have h1 := I.lt
      rw [← e] at h1
      have h1 : (f : Nat) < s.heap.objs.size := h1
      have hf : s.heap.objs.size ≤ (f : Nat) := hf
      omega
    · exact I.nofs hf e
  have I3 : Inv X pins σ (upd H (s.heap.objs.size + 3) (.lst [])) { s with heap := (h2.push (seqObj "tuple" us.toArray 0)).push (seqObj "list" #[] 0) } :=
    I.laid (t' := s.toks) (fun b o e => Heap.get?_push_of_some _ (Heap.get?_push_of_some _ (old2 b o e))) (by omega) ⟨Nat.zero_le _, [], 0, .nil, by rw [← sz4]; exact Heap.get?_push_size _ rfl⟩
  show wpAny _ _ _ _ _ { s with heap := (h2.push (seqObj "tuple" us.toArray 0)).push (seqObj "list" #[] 0) }
  rw [sz4]
  have gk : ∀ {H' : Hp} {s' : Shared} {ksV : List V}, KeySt X pins σ a (s.heap.objs.size + 3) q qo e1 J ksV H' s' → ∃ its e, Vals ksV its ∧ s'.heap.get? (s.heap.objs.size + 3) = some (seqObj "list" its.toArray e) := fun k => by
    obtain ⟨_, its, n, r, _, e⟩ := k.inv.lstM k.ks
    exact ⟨its, n, r, e⟩
  refine rest_O (St := fun kv s' => ∃ ksV H', Vals ksV kv ∧ KeySt X pins σ a (s.heap.objs.size + 3) q qo e1 J ksV H' s' ∧ ∃ e, s'.heap.get? (s.heap.objs.size + 3) = some (seqObj "list" kv.toArray e)) hz' ?_ (fun kv s' ⟨_, _, _, _, e⟩ => e) ?_ ?_
  · refine ⟨[], _, .nil, ⟨I3, upd_same, ?_, by rw [upd_ne nAK]; exact nA, ?_, ?_, h0 _ nK⟩, 0, by rw [← sz4]; exact Heap.get?_push_size _ rfl⟩
    · exact Heap.get?_push_of_some _ (Heap.get?_push_of_some _ ho1)
    · exact Heap.get?_push_of_some _ (Heap.get?_push_of_some _ (old2 q _ hq))
    · have lt : (q : Nat) < s.heap.objs.size := Heap.lt_size hq
      rw [upd_ne (lt_ne lt (by omega))]; exact nq
  · rintro kv s' u hu ⟨ksV, H', r, k, e, hk⟩
    have lk := r.length
    have lx := rv.length
    obtain ⟨x, hx, rx⟩ : ∃ x, xs[ksV.length]? = some x ∧ RelV x u := by
      have lt := (List.getElem?_eq_some_iff.mp hu).1
      have : xs[ksV.length]? = some xs[ksV.length] := List.getElem?_eq_getElem (by omega)
      obtain ⟨u', hu', ru⟩ := rv.get this
      rw [lk, hu] at hu'
      cases hu'
      exact ⟨_, this, ru⟩
    refine wpAny_mono (turn a _ e1 ksV H' s' x u nK hx rx k) (fun r' s'' hq' => ?_) fun _ _ z => z
    obtain ⟨kk, H'', I'', rk, un, ek, jj⟩ := hq'
    obtain ⟨zz, its', n', r2, _, g2⟩ := I''.lstM ek
    have ll := r2.length
    have xl : ksV.length < xs.length := (List.getElem?_eq_some_iff.mp hx).1
    have ha'' : s''.heap.get? a = some (seqObj "list" #[] e1) := un.keep _ _ k.ha k.na (nofr a (by omega)) (by simp)
    have na'' : H'' a = none := un.free _ _ k.ha k.na (by simp)
    have hq'' : s''.heap.get? q = some qo := un.keep _ _ k.hq k.nq fq (by simp)
    have nq'' : H'' q = none := un.free _ _ k.hq k.nq (by simp)
    have nqK : q ≠ s.heap.objs.size + 3 := lt_ne (Heap.lt_size hq) (by omega)
    obtain ⟨n6, g6⟩ : ∃ n6, (s''.heap.update (s.heap.objs.size + 3) (Obj.mapSeq (·.push r'))).get? (s.heap.objs.size + 3) = some (seqObj "list" (its'.toArray.push r') n6) := ⟨_, get?_update_seq g2 (·.push r')⟩
    have ev : its'.toArray.push r' = (its' ++ [r']).toArray := by simp
    refine ⟨its', by omega, ⟨n', g2⟩, ksV ++ [kk], _, r2.append (.cons rk .nil), ⟨I''.lset (its' := its' ++ [r']) (t' := s''.toks) (f := (·.push r')) ek g2 ev (r2.append (.cons rk .nil)) (by rw [List.length_append]; show ksV.length + 1 ≤ _; omega), upd_same, ?_, ?_, ?_, ?_, jj⟩, n6, by rw [← ev]; exact g6⟩
    · rw [Heap.get?_update_ne _ _ _ _ nAK]; exact ha''
    · rw [upd_ne nAK]; exact na''
    · rw [Heap.get?_update_ne _ _ _ _ nqK]; exact hq''
    · rw [upd_ne nqK]; exact nq''
  · rintro kv s' hlen ⟨ksV, H', r, k, e, hk⟩
    obtain ⟨ltv, O, hS, fin⟩ := done a _ e1 ksV H' s' us kv nA nK (by omega) (by rw [r.length, hlen, rv.length]) k rv r
    refine end_O O k.ha hk (Ne.symm nAK) hlen hz' hS fun arr a1 a2 => ⟨_, rfl, ?_⟩
    obtain ⟨ysV, v1, v2, v3⟩ := fin arr a1 a2
    refine wpAny_pure ⟨_, rfl, .ref a, _, ?_, rfl, v3⟩
    have I4 := k.inv.lset (its' := []) (t' := s'.toks) (f := fun _ => #[]) k.ks hk rfl .nil (Nat.zero_le _)
    have g4 : (s'.heap.update (s.heap.objs.size + 3) (Obj.mapSeq fun _ => (#[] : Array Value))).get? a = some (seqObj "list" #[] e1) := by
      rw [Heap.get?_update_ne _ _ _ _ nAK]; exact k.ha
    obtain ⟨n5, g5⟩ : ∃ n5, ((s'.heap.update (s.heap.objs.size + 3) (Obj.mapSeq fun _ => (#[] : Array Value))).update a (Obj.mapSeq fun _ => (outP b arr).toArray)).get? a = some (seqObj "list" (outP b arr).toArray n5) := ⟨_, get?_update_seq g4 fun _ => (outP b arr).toArray⟩
    refine Inv_adopt (t' := s'.toks) I4 (by rw [upd_ne nAK]; exact k.na) (Nat.le_trans I.sz (by omega)) ?_ ?_ ?_ v1 v2 g5
    · have z : (X.env.locals : Nat) < s.heap.objs.size := I.lt
      exact Ne.symm (lt_ne z (by omega))
    · intro x c hc z
      obtain ⟨_, o, ho, _⟩ := I.cell x c hc
      have z2 : (c : Nat) < s.heap.objs.size := Heap.lt_size ho
      exact lt_ne z2 (by omega) z
    · intro p hp z
      have z2 : (p.1 : Nat) < s.heap.objs.size := Heap.lt_size (I.pin p hp).1
      exact lt_ne z2 (by omega) z
end
end DL
set_option maxRecDepth 100000
set_option maxHeartbeats 4000000
/-! DSj: a lambda with one parameter. -/
namespace DL
open PySem PySem.Spec PyProof.Rows L2 LamX
section
variable {X : Cx} {pins : List (Addr × Obj)} {σ : L2.St} {H : Hp} {s : Shared}
/-- what the making of a lambda does to the tracked heap: nothing, or one more row of the table at P and one more code object -/
def MadeL (H H1 : Hp) (P c' : Addr) (q : Str) : Prop := H1 = H ∨ ∃ ps more, H P = some (.tbl ps) ∧ H c' = none ∧ P ≠ c' ∧ H1 = upd (upd H P (.tbl (ps ++ more))) c' (CodeO c' q)
theorem lam_make3 {c P : Addr} {params : Arguments} {body : Expr} {scope : Scope} {pos : Pos} {E Q : Value → Shared → Prop} (I : Inv X pins σ H s) (TB : TabB X.base X.mg c P) (hcode : X.env.code = .ref c) (tS : TabS H P (X.env.qual ++ "<lambda>")) (hdef : defaultsOf params X.env = ([], []))
    (hfree : ∀ y ∈ scope.names, y.2 = .free → ∃ c, X.env.cells.lookup y.1 = some c)
    (h : ∀ (f c' : Addr) (pm ctv : Value) (H1 : Hp) (s' : Shared), Inv X pins σ H1 s' → MadeL H H1 P c' (X.env.qual ++ "<lambda>") → TabS H1 P (X.env.qual ++ "<lambda>") → s'.heap.get? f = some (PySem.W.kla_obj "<lambda>" (X.env.qual ++ "<lambda>") params body scope (cloFrom X.env.cells scope.names []) pm c' ctv) →
      H1 f = none → f ∉ frs X.stack → H1 c' = some (CodeO c' (X.env.qual ++ "<lambda>")) → Q (.ref f) s') : wpAny (model X.prog X.w) X.A (eval (.Lambda params body scope pos) X.env) Q E s := by
  generalize eq : X.env.qual ++ "<lambda>" = nm at tS h
  obtain ⟨rows, atP, trip, told⟩ := tS
  have tableHere : s.heap.get? P = some { cls := .none, data := .fields rows } := I.hok P _ atP
  have builtinsHere : s.heap.BuiltinsAt X.mg P := TB.bm.keeps I.bk
  have away : ∀ g, s.heap.objs.size ≤ g → g ∉ frs X.stack := fun g hg z => by
    rcases List.mem_cons.mp (I.stkSub _ z) with e | e
    · subst e
      exact absurd (Nat.lt_of_lt_of_le I.lt hg) (Nat.lt_irrefl _)
    · exact I.nofs hg e
  refine PySem.W.kla_eval hdef ?_
  cases hrow : codeAmong pos rows.toList with
  | some cv =>
    obtain ⟨c', ec, known⟩ := told pos cv hrow
    subst ec
    refine PySem.W.kla_makeFunctionHit (mg := X.mg) (c := c) (P := P) (ps := rows) (closure_ok hfree) I.ok.glob (I.mod.glob.keeps I.bk) hcode (TB.code.keeps I.bk) tableHere trip hrow builtinsHere fun ctv g tk gx gsz => ?_
    rw [eq]
    refine h g.objs.size c' ((X.mg "__name__").getD .none) ctv H _ (I.kept fun b o e => Heap.get?_push_of_some _ (gx b o e)) (.inl rfl) ⟨rows, atP, trip, told⟩ (Heap.get?_push_size _ rfl) (I.hok.fresh gsz) (away _ gsz) known
  | none =>
    refine PySem.W.kla_makeFunction (mg := X.mg) (c := c) (P := P) (ps := rows) (closure_ok hfree) I.ok.glob (I.mod.glob.keeps I.bk) hcode (TB.code.keeps I.bk) tableHere trip hrow TB.gP builtinsHere fun c' ctv g tk gx gge glt grec gtab => ?_
    rw [eq] at grec ⊢
    obtain ⟨c2, oc, fs, tq, ec, oc1, oc2, oc3⟩ := grec
    cases ec
    have newC : H c' = none := I.hok.fresh gge
    have PC : P ≠ c' := ne_of_none atP newC
    have grown : s.heap.objs.size ≤ g.objs.size := Nat.le_trans gge (Nat.le_of_lt glt)
    have J := inv_table (q := nm) (t' := tk) (more := #[rawInt pos.line, rawInt pos.col, .ref c']) (h' := g.push (PySem.W.kla_obj "<lambda>" nm params body scope (cloFrom X.env.cells scope.names []) ((X.mg "__name__").getD .none) c' ctv)) I atP
      (fun b o hb e => Heap.get?_push_of_some _ (gx b o hb e)) (Heap.get?_push_of_some _ gtab) gge ⟨oc, fs, tq, Heap.get?_push_of_some _ oc1, oc2, oc3⟩
    have rowsL : (rows ++ #[rawInt pos.line, rawInt pos.col, Value.ref c']).toList = rows.toList ++ [rawInt pos.line, rawInt pos.col, .ref c'] := by simp
    refine h g.objs.size c' ((X.mg "__name__").getD .none) ctv _ _ J (.inr ⟨rows, _, atP, newC, PC, rfl⟩) ⟨_, by rw [upd_ne PC, upd_same], by rw [rowsL]; exact PySem.TriplesOk_snoc _ _ _ _ trip, fun p' cv' hcv => ?_⟩ (Heap.get?_push_size _ rfl) ?_ (away _ grown) upd_same
    · rw [rowsL] at hcv
      rcases among_app _ trip hcv with z | z
      · obtain ⟨d, e1, e2⟩ := told p' cv' z
        refine ⟨d, e1, ?_⟩
        rw [upd_ne (ne_of_none e2 newC), upd_ne (fun z => codeO_ne rows (Option.some.inj (e2.symm.trans (by rw [z]; exact atP))))]
        exact e2
      · exact ⟨c', z, upd_same⟩
    · have n1 : g.objs.size ≠ c' := Nat.ne_of_gt glt
      have n2 : g.objs.size ≠ P := Nat.ne_of_gt (Nat.lt_of_lt_of_le (Heap.lt_size tableHere) grown)
      rw [upd_ne n1, upd_ne n2]
      exact I.hok.fresh grown
theorem MadeL.at_ {H H1 : Hp} {P c' : Addr} {q : Str} (m : MadeL H H1 P c' q) {b : Addr} {o : HO} (e : H b = some o) (n : ∀ ps, o ≠ .tbl ps) : H1 b = some o := by
  rcases m with rfl | ⟨ps, more, a1, a2, a3, rfl⟩
  · exact e
  · rw [upd_ne (ne_of_none e a2), upd_ne (fun z => n ps (Option.some.inj (e.symm.trans (by rw [z]; exact a1))))]
    exact e
theorem MadeL.same [Tb] {H H1 : Hp} {P c' : Addr} {q : Str} (m : MadeL H H1 P c' q) (tS : TabS H1 P q) (hu : ∀ x ∈ Tb.T, x.1 = P → x.2 = q) : Same H H1 := by
  refine ⟨fun b o e n => m.at_ e n, fun b ps e => ?_, fun t x hx => ?_⟩
  · rcases m with rfl | ⟨ps', more, a1, a2, a3, rfl⟩
    · exact ⟨ps, e⟩
    · rw [upd_ne (ne_of_none e a2)]
      by_cases h : b = P
      · subst h
        rw [upd_same]
        exact ⟨_, rfl⟩
      · rw [upd_ne h]
        exact ⟨ps, e⟩
  · by_cases h : x.1 = P
    · rw [hu x hx h, h]; exact tS
    · obtain ⟨ps, e1, e2, e3⟩ := t x hx
      refine ⟨ps, ?_, e2, fun pos cv hc => ?_⟩
      · rcases m with rfl | ⟨ps', more, a1, a2, a3, rfl⟩
        · exact e1
        · rw [upd_ne (ne_of_none e1 a2), upd_ne h]; exact e1
      · obtain ⟨d, f1, f2⟩ := e3 pos cv hc
        exact ⟨d, f1, m.at_ f2 codeO_ne⟩
end
/-- its names: the parameter p, captured names, globals -/
structure LamP (sc scope : Scope) (p : Str) : Prop where
  fnK : scope.kind = .function
  nco : scope.isCoroutine = false
  nge : scope.isGenerator = false
  cel : ∀ y ∈ scope.names, y.2 ≠ .cell
  loc : ∀ y ∈ scope.names, y.2 = .local → y.1 = p
  par : scope.names.lookup p = some .local
  fre : ∀ y ∈ scope.names, y.2 = .free → sc.names.lookup y.1 = some .cell ∨ sc.names.lookup y.1 = some .free
def lamPB (sc scope : Scope) (p : Str) : Bool :=
  (decide (scope.kind = .function) && (!scope.isCoroutine && !scope.isGenerator)) && (decide (scope.names.lookup p = some .local) &&
    scope.names.all fun y => !decide (y.2 = .cell) && ((!decide (y.2 = .local) || decide (y.1 = p)) && (!decide (y.2 = .free) || (decide (sc.names.lookup y.1 = some .cell) || decide (sc.names.lookup y.1 = some .free)))))
theorem lamP_by {sc scope : Scope} {p : Str} (h : lamPB sc scope p = true) : LamP sc scope p := by
  unfold lamPB at h
  simp only [Bool.and_eq_true, Bool.or_eq_true, Bool.not_eq_true', decide_eq_true_eq, decide_eq_false_iff_not, List.all_eq_true] at h
  obtain ⟨⟨a, b, c⟩, d, e⟩ := h
  refine ⟨a, b, c, fun y hy => (e y hy).1, fun y hy q => ?_, d, fun y hy q => ?_⟩
  · rcases (e y hy).2.1 with z | z
    · exact absurd q z
    · exact z
  · rcases (e y hy).2.2 with z | z
    · exact absurd q z
    · exact z
theorem LamP.caps {X : Cx} {scope : Scope} {p : Str} (L : LamP X.env.scope scope p) (ok : X.Ok) : ∀ y ∈ scope.names, y.2 = .free → ∃ c, X.env.cells.lookup y.1 = some c := fun y hy e =>
  ok.has y.1 ((L.fre y hy e).imp id id)
section
variable {X : Cx} {pins : List (Addr × Obj)} {σ : L2.St} {H : Hp} {s : Shared} {scope : Scope} {p : Str} {f c' : Addr}
theorem lamP_start {A : Around} {E : XK} {h₁ : Heap} {tk : Nat} {j : Nat} {v : V} {u : Value} (I : Inv X pins σ H s) (L : LamP X.env.scope scope p) (hj : X.N[j]? = some p) (nd : X.N.Nodup) (rv : RelV v u) (e0 : Env0 X.prog X.w X.K X.mg X.base A X.stack s H) (hd : A.handled = none)
    (hns : h₁.Ns s.heap.objs.size fun y => ([(p, u)] : List (Str × Value)).reverse.lookup y) (kp : ∀ b o, s.heap.get? b = some o → h₁.get? b = some o) :
    Inv (lamCx X A X.stack s H E scope f c') [] (σ.set j (some v)) H { s with heap := h₁, toks := tk } := by
  have caps := L.caps I.ok
  have back : ∀ {y c}, (cloFrom X.env.cells scope.names []).lookup y = some c → X.env.cells.lookup y = some c := fun {y c} e => NdefX.clo_cm caps e
  have fore : ∀ {y c}, scope.names.lookup y = some .free → X.env.cells.lookup y = some c → (cloFrom X.env.cells scope.names []).lookup y = some c := fun {y c} e q => NdefX.clo_has caps (PySem.mem_of_lookup e) q
  have cellK : ∀ {c : Addr} {w : Option Value}, s.heap.IsCell c w → h₁.IsCell c w := fun {c w} ⟨o, ho, hd⟩ => ⟨o, kp _ _ ho, hd⟩
  have noA : ∀ b : Addr, b ∉ (lamCx X A X.stack s H E scope f c').ex := fun b z => absurd (show b ∈ ([] : List Addr) from z) (by simp)
  have ok : (lamCx X A X.stack s H E scope f c').Ok := {
    mod := e0.mod
    kind := L.fnK
    glob := rfl
    blt := rfl
    above := Nat.le_refl _
    inj := fun y z c e1 e2 => I.ok.inj y z c (back e1) (back e2)
    has := fun y hy => by
      have hy : scope.names.lookup y = some .cell ∨ scope.names.lookup y = some .free := hy
      rcases hy with hy | hy
      · exact absurd rfl (L.cel _ (PySem.mem_of_lookup hy))
      · obtain ⟨c, hc⟩ := caps _ (PySem.mem_of_lookup hy) rfl
        exact ⟨c, fore hy hc⟩
    cab := fun y c z _ => by
      have z : false = true := z
      cases z
    hd := fun _ => hd
    frames := Around.frames_deeper e0.frames
    stk := .inr ⟨rfl, rfl⟩
    exf := fun b z => absurd z (noA b)
    bs := e0.bs
    bsz := e0.bsz
    noex := fun b _ _ => noA b
    exfs := fun b z => absurd z (noA b)
    funs := e0.funs
    frf := e0.frf }
  refine { ok := ok, os := rfl, bare := e0.bare, base := Un.kept kp, loc := ⟨_, hns, fun i y w e1 e2 e3 => ?_⟩, cell := fun y c e => ?_, free := e0.hok.fresh (Nat.le_refl _), freeC := fun y c e => I.freeC y c (back e), pin := fun q hq => absurd (show q ∈ ([] : List (Addr × Obj)) ++ [] from hq) (by simp), hok := e0.hok.kept kp, len := by rw [List.length_set]; exact I.len }
  · have e3 : Vis scope y := e3
    have e1 : X.N[i]? = some y := e1
    rcases e3 with k | k | k
    · have ey := L.loc _ (PySem.mem_of_lookup k) rfl
      have ey : y = p := ey
      subst ey
      have ij := nodup_ix nd e1 hj
      subst ij
      have lt : i < σ.length := by
        rw [I.len]
        exact (List.getElem?_eq_some_iff.mp e1).1
      rw [List.getElem?_set_self lt] at e2
      cases e2
      refine ⟨u, rv, .inl ⟨k, ?_⟩⟩
      show ([(y, u)] : List (Str × Value)).reverse.lookup y = some u
      simp
    · exact absurd rfl (L.cel _ (PySem.mem_of_lookup k))
    · have ne : j ≠ i := fun z => by
        subst z
        rw [hj] at e1
        cases e1
        rw [L.par] at k
        cases k
      rw [List.getElem?_set_ne ne] at e2
      obtain ⟨m, hn, hl⟩ := I.loc
      have hvis : Vis X.env.scope y := .inr (L.fre _ (PySem.mem_of_lookup k) rfl)
      obtain ⟨w', r, q⟩ := hl i y w e1 e2 hvis
      refine ⟨w', r, .inr ⟨.inr k, ?_⟩⟩
      rcases q with ⟨k', _⟩ | ⟨_, c3, e', z⟩
      · have k' : X.env.scope.names.lookup y = some .local := k'
        rcases L.fre _ (PySem.mem_of_lookup k) rfl with k2 | k2 <;> rw [show X.env.scope.names.lookup y = _ from k2] at k' <;> cases k'
      · exact ⟨c3, fore k e', cellK z⟩
  · obtain ⟨w', z⟩ := I.cell y c (back e)
    exact ⟨w', cellK z⟩
/-- the lambda is called with one value -/
theorem lamP_call {A : Around} {params : Arguments} {body : Expr} {pm ctv : Value} {k j : Nat} {v : V} {u : Value} {Q : VK} {tb : TE} (I : Inv X pins σ H s) (L : LamP X.env.scope scope p) (hj : X.N[j]? = some p) (nd : X.N.Nodup) (rv : RelV v u) (hfr : A.frames = X.A.frames)
    (hf : s.heap.get? f = some (PySem.W.kla_obj "<lambda>" (X.env.qual ++ "<lambda>") params body scope (cloFrom X.env.cells scope.names []) pm c' ctv)) (hc : H c' = some (CodeO c' (X.env.qual ++ "<lambda>")))
    (hbind : bindArgs (PySem.W.kla_fn "<lambda>" (X.env.qual ++ "<lambda>") params body scope (cloFrom X.env.cells scope.names []) pm (.ref c') ctv) ⟨[u], []⟩ = pure [(p, u)]) (hr : Room (k + 1) A)
    (hbody : Room k (A.deeper (lamEnv X scope s.heap.objs.size f c')) → PE (lamCx X A X.stack s H (fun _ _ _ => False) scope f c') body tb) (ht : tb (σ.set j (some v)) H Q) :
    wpAny (model X.prog X.w) A (call (.ref f) [u]) (fun r s'' => CE X.stack X.prog X.w H s Q r s'') (fun _ _ => False) s := by
  have e1 := I.env0
  have e0 : Env0 X.prog X.w X.K X.mg X.base A X.stack s H := ⟨by rw [hfr]; exact e1.frames, e1.mod, e1.bs, e1.bsz, e1.funs, e1.frf, e1.hok, e1.bare⟩
  obtain ⟨⟨oc, vs, t, hoc, hdc, hvc⟩, _, _⟩ := I.hok c' _ hc
  have rc : codeAny (model X.prog X.w) A (.call (.ref f) ⟨[u], []⟩) (CR (L2.CX X.prog X.w) X.stack X.prog X.w H s Q fun _ _ _ => False) s := by
    refine PySem.W.kla_callFunE hr.depth hf rfl L.nco L.nge rfl ⟨c', oc, vs, t, rfl, hoc, hdc, hvc⟩ ?_
    rw [hbind]
    refine wpAny_pure (wpAny_newFunctionEnv L.cel (fun y hy => by rw [List.mem_singleton.mp hy]; exact L.par) (fun h₁ hns hsb => ⟨I.nolimit.fresh _ hsb, ?_⟩) L.fnK)
    show codeAny _ _ (.expr body (lamEnv X scope s.heap.objs.size f c')) _ _
    have kp : ∀ b o, s.heap.get? b = some o → h₁.get? b = some o := fun b o e => hsb.extBut b o (Nat.ne_of_lt (Heap.lt_size e)) (Heap.get?_push_of_some _ e)
    have J := lamP_start (E := fun _ _ _ => False) (f := f) (c' := c') (tk := s.toks + ([(p, u)] : List (Str × Value)).length) I L hj nd rv e0 hr.hd hns kp
    refine PySem.W.kla_codeExpr (wpAny_mono ((hbody (hr.deeper _)).run [] _ _ H Q J ht) (fun v s' hq => ?_) fun e s' hq => hq)
    obtain ⟨w', H', J', r2, q⟩ := hq
    exact ⟨w', H', J'.os, J'.bare, J'.base, J'.hok, r2, q⟩
  refine wpAny_call (codeAny_mono rc fun r s' hq => ?_)
  match r, hq with
  | .error e, hq =>
    obtain ⟨_, _, _, _, _, _, _, _, _, _, _, _, z⟩ := hq
    exact z
  | .ok (.ret u), hq => exact hq
  | .ok .next, hq => exact hq.elim
  | .ok .brk, hq => exact hq.elim
  | .ok .cont, hq => exact hq.elim
end
end DL
set_option maxRecDepth 100000
set_option maxHeartbeats 4000000
/-! DSk: sorted(xs, key=lambda p: .., reverse=True) over the data layer. -/
namespace DL
open PySem PySem.Spec PyProof.Rows L2 LamX SrtO
variable [Tb]
theorem perm_pull {α β : Type} {g : α → β} {arr m : List β} (h : arr.Perm m) : ∀ l : List α, m = l.map g → ∃ zs : List α, zs.Perm l ∧ arr = zs.map g := by
  induction h with
  | nil =>
    intro l e
    cases l with
    | nil => exact ⟨[], .nil, rfl⟩
    | cons a l => cases e
  | cons x _ ih =>
    intro l e
    cases l with
    | nil => cases e
    | cons a l =>
      injection e with e1 e2
      obtain ⟨zs, p, q⟩ := ih l e2
      exact ⟨a :: zs, p.cons a, by rw [q, e1]; rfl⟩
  | swap x y r =>
    intro l e
    match l, e with
    | a :: b :: l, e =>
      injection e with e1 e2
      injection e2 with e2 e3
      exact ⟨b :: a :: l, List.Perm.swap a b l, by rw [e1, e2, e3]; rfl⟩
  | trans _ _ i1 i2 =>
    intro l e
    obtain ⟨zs, p, q⟩ := i2 l e
    obtain ⟨ws, p2, q2⟩ := i1 zs q
    exact ⟨ws, p2.trans p, q2⟩
/-! the reading -/
open Classical in
noncomputable def valAt (ts : List IT) (xs : List D) (t : IT) : D := (((ts.zip xs).find? fun p => decide (p.1 = t)).map (·.2)).getD .non
open Classical in
noncomputable def sortK (b : Bool) (xs : List D) (ts : List IT) : R (List D) := if (Firsts ts = true ∧ AllCmp ts = true ∧ ∀ a ∈ ts, depI a ≤ 40) ∧ ts.Nodup ∧ xs.length = ts.length then .ok (if b = true then ((sortT ts).map (valAt ts xs)).reverse else (sortT ts).map (valAt ts xs)) else .stuck
def keysD (ρ : Rho) (j : Nat) (fb : Rho → R D) : List D → Option (List D)
  | [] => some []
  | x :: xs => match fb (ρ.set j (.d x)) with
    | .ok k => if kept k = true then (keysD ρ j fb xs).map (k :: ·) else none
    | _ => none
noncomputable def oSortK (b : Bool) (j : Nat) (f fb : Rho → R D) : Rho → R (List D) := fun ρ => (f ρ).bind fun d => match lsD d with
  | some xs => match keysD ρ j fb xs with
    | some ks => match toIL ks with
      | some ts => if xs.all kept = true then sortK b xs ts else .stuck
      | none => .stuck
    | none => .stuck
  | none => .stuck
theorem keys_at {ρ : Rho} {j : Nat} {fb : Rho → R D} : ∀ {xs ks : List D}, keysD ρ j fb xs = some ks → ks.length = xs.length ∧ ∀ (i : Nat) (x : D), xs[i]? = some x → ∃ k, ks[i]? = some k ∧ fb (ρ.set j (.d x)) = .ok k ∧ kept k = true
  | [], ks, h => by cases h; exact ⟨rfl, fun i x e => by simp at e⟩
  | x :: xs, ks, h => by
    unfold keysD at h
    split at h
    · rename_i k e
      split at h
      · rename_i kk
        obtain ⟨ks', e2, rfl⟩ := Option.map_eq_some_iff.mp h
        obtain ⟨l, a⟩ := keys_at e2
        refine ⟨by simp [l], fun i y hy => ?_⟩
        cases i with
        | zero => cases hy; exact ⟨k, rfl, e, kk⟩
        | succ i => exact a i y hy
      · cases h
    · cases h
theorem valAt_is {ts : List IT} {xs : List D} (nd : ts.Nodup) {t : IT} {x : D} (h : (t, x) ∈ ts.zip xs) : valAt ts xs t = x := by
  unfold valAt
  induction ts generalizing xs with
  | nil => simp at h
  | cons a ts ih =>
    cases xs with
    | nil => simp at h
    | cons y xs =>
      rw [List.zip_cons_cons] at h ⊢
      rw [List.nodup_cons] at nd
      rcases List.mem_cons.mp h with e | h
      · cases e
        simp
      · have ne : a ≠ t := fun z => nd.1 (by rw [z]; exact (List.of_mem_zip h).1)
        rw [List.find?_cons_of_neg (by simpa using ne)]
        exact ih nd.2 h
/-- a tracked list is written -/
theorem Ext.poke {F H F' H' : Hp} {p : Addr} {ys : List V} (e : Ext F H F' H') (n : H p = Option.none) (n' : F' p = Option.none) (h : ∀ ps, H' p ≠ some (.tbl ps)) (h2 : ∀ φ, H' p ≠ some (.ext φ)) : Ext F H F' (upd H' p (.lst ys)) :=
  ⟨e.fr, e.hp.upd n h h2, e.sub.upd n' h h2, e.new⟩
section
variable {X : Cx} {W : WX} {x : Str} {p pos : Pos} {e body : Expr} {f fb : Rho → R D}
theorem Reps.snoc {K : PySem.W.Frag} {F : Hp} {ks : List D} {vs : List V} {k : D} {v : V} (h : Reps K F ks vs) (r : Rep K F k v) : Reps K F (ks ++ [k]) (vs ++ [v]) := Reps.append h ⟨v, [], rfl, r, rfl⟩
/-- sorted(e, key=lambda a: body, reverse=b) -/
theorem do_sortK {c P : Addr} {params : Arguments} {scope : Scope} {b : Bool} {a : Str} {j k : Nat} {lpos kp1 kp2 bpos : Pos} {bk : Nat} (hg : Gl X x) (hm : X.mg x = none) (hv : bootBuiltins x = some (.builtin "sorted")) (he : DE X W e f) (hr : Room (k + 4) X.A)
    (TB : TabB X.base X.mg c P) (hcode : X.env.code = .ref c) (hmT : (P, X.env.qual ++ "<lambda>") ∈ Tb.T) (hu : ∀ q ∈ Tb.T, q.1 = P → q.2 = X.env.qual ++ "<lambda>") (L : LamP X.env.scope scope a) (hj : X.N[j]? = some a) (nd : X.N.Nodup) (hdef : defaultsOf params X.env = ([], []))
    (hbind : ∀ (q : Str) (cl : List (Str × Addr)) (pm cv ctv u : Value), bindArgs (PySem.W.kla_fn "<lambda>" q params body scope cl pm cv ctv) ⟨[u], []⟩ = pure [(a, u)])
    (hbody : ∀ (A : Around) (s : Shared) (H : Hp) (g c' : Addr), Room k (A.deeper (lamEnv X scope s.heap.objs.size g c')) → DE (lamCx X A X.stack s H (fun _ _ _ => False) scope g c') W0 body fb)
    (hn : x ≠ "__name__" := by decide) (hdb : (x == ("__debug__" : Str)) = false := by decide)
    (hse : starEach [e] X.env = (false, eval e X.env) :: starEach [] X.env := by rfl) (hst : backTo pos (starEach [e] X.env) = (false, eval e X.env) :: backTo pos (starEach [] X.env) := by rfl) (hpl : (backTo pos (starEach [e] X.env)).any (·.1) = false := by rfl)
    (hall : (backToKw pos (keywordEach [⟨some "key", .Lambda params body scope lpos, kp1⟩, ⟨some "reverse", .Constant (.bool b) bk bpos, kp2⟩] X.env)).all (·.1.isSome) = true := by rfl) (hnone : (backToKw pos (keywordEach [⟨some "key", .Lambda params body scope lpos, kp1⟩, ⟨some "reverse", .Constant (.bool b) bk bpos, kp2⟩] X.env)).any (·.1.isNone) = false := by rfl)
    (hks : (backToKw pos (keywordEach [⟨some "key", .Lambda params body scope lpos, kp1⟩, ⟨some "reverse", .Constant (.bool b) bk bpos, kp2⟩] X.env)).filterMap (·.1) = [Str.ofString "key", Str.ofString "reverse"] := by rfl) :
    DO X W (.Call (.Name x p) [e] [⟨some "key", .Lambda params body scope lpos, kp1⟩, ⟨some "reverse", .Constant (.bool b) bk bpos, kp2⟩] pos) (oSortK b j f fb) := by
  refine ⟨fun pins s σ H Q I ⟨F0, H0, F, ρ, S, q⟩ => ?_⟩
  refine wpAny_Call_Name_kw (ld_blt I hg hm hv ?_ hn hdb)
  have pa : PA X [e] (tA X.K X.mg W (aCons f aNil)) := da_cons he da_nil hse
  refine PyProof.Rows.callWith_kw (thn (pa.run pos pins s σ H (fun vs H1 => ∃ d v F1, vs = [v] ∧ f ρ = .ok d ∧ Ext F H F1 H1 ∧ RepX X.K F1 H1 d v) I ⟨F0, H0, F, ρ, S, ?_⟩) fun us s1 ⟨vs, H1, I1, r1, ⟨d, v, F1, ev, ed, e1, rd⟩⟩ => ?_) hst hpl hall hnone
  · unfold oSortK at q
    unfold aCons aNil
    cases h : f ρ with
    | ok d =>
      intro vs F1 H1 e1 ⟨v, r, q1, q2, q3⟩
      cases (show r = [] from q3)
      exact ⟨d, v, F1, q1, rfl, e1, q2⟩
    | exc ex => rw [h] at q; exact q
    | stuck => rw [h] at q; exact q
  subst ev
  unfold oSortK at q
  rw [ed, R.bind_ok] at q
  cases el : lsD d with
  | none => rw [el] at q; exact q.elim
  | some xs =>
  rw [el] at q
  dsimp only at q
  cases ek : keysD ρ j fb xs with
  | none => rw [ek] at q; exact q.elim
  | some ks =>
  rw [ek] at q
  dsimp only at q
  cases et : toIL ks with
  | none => rw [et] at q; exact q.elim
  | some ts =>
  rw [et] at q
  dsimp only at q
  obtain ⟨hkx, q⟩ := post_if q
  obtain ⟨⟨⟨hs1, hs2, hs3⟩, nodup, hxl⟩, q⟩ := post_if (show Post X.K X.mg W (RepO X.K H) F H σ (if _ then R.ok _ else .stuck) Q from q)
  have ekd := dL_toIL ks ts et
  obtain ⟨kl, kat⟩ := keys_at ek
  have S1 := S.mono e1
  obtain ⟨l, lv, rfl, hl, hlr⟩ := rd.list e1.sub el
  obtain ⟨u, rfl, ru⟩ := vals1 r1
  obtain rfl : u = Value.ref l := ru
  have T1 : LamX.Tabs Tb.T H1 := e1.sub.tabs (e1.fr.tabs S.tabs)
  show wpAny _ _ (evalAll ((do let v ← eval (.Lambda params body scope lpos) X.env; standAt pos; pure v) :: (do let v ← eval (.Constant (.bool b) bk bpos) X.env; standAt pos; pure v) :: [])) _ _ s1
  refine wpAny_evalAll_cons (wpAny_bind (lam_make3 I1 TB hcode (T1 _ hmT) hdef (L.caps I1.ok) fun g c' pm ctv H2 s2 I2 mL tS hf hfn hfr hco => ?_))
  refine wpAny_bind (wpAny_standAt (wpAny_pure ?_))
  refine wpAny_evalAll_cons (wpAny_bind (Constant_bool (wpAny_bind (wpAny_standAt (wpAny_pure (wpAny_evalAll_nil ?_))))))
  rw [hks]
  show wpAny _ _ (call (.builtin "sorted") [Value.ref l] [(Str.ofString "key", Value.ref g), (Str.ofString "reverse", Value.bool b)]) _ _ s2
  -- the heap behind the lambda's making
  have sm := mL.same tS hu
  have e2 : Ext F1 H1 F1 H2 := ⟨Same.refl _, sm, e1.sub.trans sm, fun p o h n => by rw [n] at h; cases h⟩
  have S2 := S1.mono e2
  have hl2 : SqL X.K H2 l lv := .inl (same_rd sm hl)
  refine sorted_keyI (b := b) (J := fun kS ksV H' => ∃ F', Ext F1 H2 F' H' ∧ F' kS = none ∧ Reps X.K F' (ks.take ksV.length) ksV) I2 hl2 hf hfn hfr (PyProof.Rows.ksk_s2 _ _ _) (fun _ => PyProof.Rows.ksk_l2 _ _ _) (fun _ => ksk_t2 _ _ _) ?_ ?_ ?_
  · intro kS nK
    exact ⟨F1, Ext.poke (Ext.refl S2.sub) nK (S2.sub.free nK) (by rw [nK]; intro _ z; cases z) (by rw [nK]; intro _ z; cases z), S2.sub.free nK, rfl⟩
  · intro a0 kS e0 ksV H' s' x0 u0 nK hx0 rx0 st
    obtain ⟨F', eF, nF, rk⟩ := st.j
    have lt : ksV.length < lv.length := (List.getElem?_eq_some_iff.mp hx0).1
    obtain ⟨xd, hxd, rxd⟩ := hlr.get' hx0
    obtain ⟨kd, hkd, efb, kkd⟩ := kat _ _ hxd
    have hc' : H' c' = some (CodeO c' (X.env.qual ++ "<lambda>")) := eF.hp.g hco codeO_ne
    refine wpAny_mono (lamP_call (j := j) (v := x0) (Q := fun v H'' => ∃ F'', Ext F' H' F'' H'' ∧ RepX X.K F'' H'' kd v) st.inv L hj nd rx0 (by rfl) st.hq hc' (hbind _ _ _ _ _ _) (hr.mono (by omega)).in1.in1 (fun hr' => hbody _ _ _ _ _ hr') ?_) (fun r s'' hce => ?_) fun _ _ z => z
    · refine ⟨F0, H0, F', ρ.set j (.d xd), ((S2.mono eF).setD (rxd.mono eF.fr)), ?_⟩
      rw [efb]
      intro kv F'' H'' ex rr
      exact ⟨F'', ex, rr⟩
    · obtain ⟨kv, H'', os, bare, un, hok, rv, F'', ex, rr⟩ := hce
      have nF'' : F'' kS = none := ex.none st.ks nF
      have ek'' : H'' kS = some (.lst ksV) := ex.hp.g st.ks
      refine ⟨kv, H'', ?_, rv, un, ek'', F'', ?_, nF'', ?_⟩
      · obtain ⟨hh, gg, dd, tt, os'⟩ := s''
        obtain rfl : os' = s'.os := os
        exact st.inv.call (h' := hh) (g' := gg) (d' := dd) (t' := tt) (ch := []) un hok bare (fun b z => absurd z (by simp))
      · exact Ext.poke (eF.trans ex) nK nF'' (by rw [ek'']; intro _ z; cases z) (by rw [ek'']; intro _ z; cases z)
      · have rk' := Reps.snoc (rk.mono ex.fr) (rr.kept kkd)
        rw [List.length_append]
        have : ks.take (ksV.length + 1) = ks.take ksV.length ++ [kd] := by rw [List.take_add_one, hkd]; rfl
        rw [show ksV.length + [kv].length = ksV.length + 1 from rfl, this]
        exact rk'
  · intro a0 kS e0 ksV H' s' us its nA nK neK hlen st rus rits
    obtain ⟨F', eF, nF, rk⟩ := st.j
    have lk : ks.length = lv.length := kl.trans hlr.length
    rw [hlen, ← lk, List.take_length, ekd] at rk
    have rd := rdL_of st.inv ts ksV its (rk.mono eF.sub) rits
    have lits : its.length = us.length := by rw [← rits.length, hlen, rus.length]
    have same : ∀ p : Keyed, True := fun _ => trivial
    refine ⟨fun u v => ltI (keyOf s'.heap u) (keyOf s'.heap v), ⟨fun x y => swo_it.asym _ _, fun x y z => swo_it.tr _ _ _⟩, fun h2 => ?_, fun arr h1 hstb => ?_⟩
    · have so := sortable_it (prog := X.prog) (w := X.w) (A := X.A.in1.in1) (s := s') (a := kS) rd (by omega) (by exact hs1) hs2 (fun x m => by
        have := hs3 x m
        have e1 : X.A.in1.in1.units = X.A.units + 2 := rfl
        have := hr.units
        omega) (fun o e => by
        obtain ⟨_, _, _, _, _, g⟩ := st.inv.lstM st.ks
        rw [g] at e
        cases e
        intro c
        exact absurd (Value.type.inj c) (by decide))
      exact so s'.heap fun _ _ _ e => e
    · obtain ⟨_, _, _, hz⟩ := I2.list hl2
      have lx : xs.length = lv.length := hlr.length
      have lt : ts.length = xs.length := hxl.symm
      have lu : lv.length = us.length := rus.length
      have zt : its.zip us = (its.zip (us.zip (ts.zip (xs.zip lv)))).map fun z => (z.1, z.2.1) := List.ext_getElem (by simp; omega) fun i h1 h2 => by simp
      have pm : arr.Perm (its.zip us) := by
        refine hstb.perm.trans ?_
        unfold startP
        cases b with
        | true => exact List.reverse_perm _
        | false => exact List.Perm.refl _
      obtain ⟨zs, zp, ea⟩ := perm_pull pm _ zt
      have facts : ∀ z ∈ zs, RdI s'.heap z.2.2.1 z.1 ∧ Rep X.K F' z.2.2.2.1 z.2.2.2.2 ∧ RelV z.2.2.2.2 z.2.1 ∧ (z.2.2.1, z.2.2.2.1) ∈ ts.zip xs := fun z hz' => by
        obtain ⟨i, hi, rfl⟩ := List.mem_iff_getElem.mp (zp.mem_iff.mp hz')
        simp only [List.length_zip] at hi
        have i1 : i < its.length := by omega
        have i2 : i < us.length := by omega
        have i3 : i < ts.length := by omega
        have i4 : i < xs.length := by omega
        have i5 : i < lv.length := by omega
        simp only [List.getElem_zip]
        obtain ⟨t0, f1, f2⟩ := rd.get (i := i) (u := its[i]) (List.getElem?_eq_getElem i1)
        rw [List.getElem?_eq_getElem i3] at f1
        cases f1
        obtain ⟨v0, f3, f4⟩ := hlr.get (i := i) (d := xs[i]) (List.getElem?_eq_getElem i4)
        rw [List.getElem?_eq_getElem i5] at f3
        cases f3
        obtain ⟨u0, f5, f6⟩ := rus.get (i := i) (x := lv[i]) (List.getElem?_eq_getElem i5)
        rw [List.getElem?_eq_getElem i2] at f5
        cases f5
        refine ⟨f2, f4.mono eF.fr, f6, ?_⟩
        exact List.mem_iff_getElem.mpr ⟨i, by simp; omega, by simp⟩
      have tk : (its.zip (us.zip (ts.zip (xs.zip lv)))).map (fun z => z.2.2.1) = ts := List.ext_getElem (by simp; omega) fun i h1 h2 => by simp
      have keys : zs.map (fun z => z.2.2.1) = sortT ts := by
        refine srt_uniq (List.pairwise_map.mpr ?_) (sortT_srtd ts) ?_
        · rw [ea] at h1
          have h1 := List.pairwise_map.mp h1
          refine h1.imp_of_mem fun {z w'} hz1 hw1 hlt => ?_
          have hlt : ltI (keyOf s'.heap w'.1) (keyOf s'.heap z.1) = false := hlt
          rw [keyOf_is (facts z hz1).1, keyOf_is (facts w' hw1).1] at hlt
          exact hlt
        · have := zp.map (fun z => z.2.2.1)
          rw [tk] at this
          exact this.trans (sortT_perm ts).symm
      have vals : zs.map (fun z => z.2.2.2.1) = (sortT ts).map (valAt ts xs) := by
        rw [← keys, List.map_map]
        exact List.map_congr_left fun z hz1 => (valAt_is nodup (facts z hz1).2.2.2).symm
      have reps : ∀ l0 : List _, (∀ z ∈ l0, z ∈ zs) → Reps X.K F' (l0.map fun z => z.2.2.2.1) (l0.map fun z => z.2.2.2.2) ∧ Vals (l0.map fun z => z.2.2.2.2) (l0.map fun z => z.2.1) := by
        intro l0
        induction l0 with
        | nil => intro _; exact ⟨rfl, .nil⟩
        | cons z l0 ih =>
          intro hm
          obtain ⟨i1, i2⟩ := ih fun y hy => hm y (List.mem_cons_of_mem _ hy)
          have f := facts z (hm z List.mem_cons_self)
          exact ⟨⟨_, _, rfl, f.2.1, i1⟩, .cons f.2.2.1 i2⟩
      obtain ⟨rr, vv⟩ := reps zs fun z hz1 => hz1
      have fA : F' a0 = Option.none := eF.sub.free st.na
      have hA : H a0 = Option.none := (e1.hp.trans sm).free nA
      have na' : (upd H' kS (.lst [])) a0 = Option.none := by rw [upd_ne neK]; exact st.na
      have eZ : ∀ ys : List V, Ext F H F' (upd (upd H' kS (.lst [])) a0 (.lst ys)) := fun ys =>
        (e1.trans e2).trans (Ext.poke (Ext.poke eF nK nF (by rw [st.ks]; intro _ z; cases z) (by rw [st.ks]; intro _ z; cases z)) nA fA (by rw [na']; intro _ z; cases z) (by rw [na']; intro _ z; cases z))
      have zl : zs.length ≤ sizeLine := by
        rw [zp.length_eq]
        simp only [List.length_zip]
        omega
      have oa : arr.map (·.2) = zs.map fun z => z.2.1 := by rw [ea, List.map_map]; rfl
      cases b with
      | true =>
        rw [if_pos rfl, ← vals] at q
        refine ⟨(zs.map fun z => z.2.2.2.2).reverse, ?_, by simpa using zl, q _ _ _ (eZ _) ⟨a0, _, rfl, hA, fA, upd_same, Reps.rev rr⟩⟩
        show Vals _ ((arr.map (·.2)).reverse)
        rw [oa]
        exact vv.reverse
      | false =>
        rw [if_neg Bool.false_ne_true, ← vals] at q
        refine ⟨zs.map fun z => z.2.2.2.2, ?_, by simpa using zl, q _ _ _ (eZ _) ⟨a0, _, rfl, hA, fA, upd_same, rr⟩⟩
        show Vals _ (arr.map (·.2))
        rw [oa]
        exact vv
end
end DL
namespace DL
open PySem PySem.Spec PyProof.Rows L2
theorem code_of {K : PySem.W.Frag} {x qual : Str} {params : Arguments} {body : List Stmt} {scope : Scope} {dvs : List V} {kws : List (Str × V)} {p : Str × Option Str} {fd : FuncData} (F : FunD K x qual params body scope dvs kws (He.fAd K p) fd) : fd.code = .ref (He.codeOf K p) := by
  obtain ⟨oc, od, dV, kV, doc, pm, an, cdv, ct, osl, rfl, lk, hcd, hD, hK⟩ := F.ex
  obtain ⟨c, e⟩ := He.codeIn_ref hcd
  have e' : (PySem.W.fnOf x qual params body scope dV kV doc pm an cdv ct).code = .ref c := e
  rw [He.codeOf_eq lk e']
  exact e'
end DL
set_option maxRecDepth 100000
set_option maxHeartbeats 4000000
namespace Lw
open PySem L2 DL
/-! the draws -/
def digs : Nat → Int → List Int
  | 0, _ => []
  | n + 1, r => if 0 < r then r % 1013 :: digs n (r / 1013) else digs n r
def cellD (cell : Int) : List Int := if cell - 1000000000000000000 < 0 then [cell % 9967] ++ digs 60 (cell - 1000000000000000000) else digs 60 (cell - 1000000000000000000)
def seedD (seed cell : Int) : Int := (seed * 40014 + cell % 999979 + 37) % 2147483563
def cellsD : Int → List Int → List Int → Int × List Int
  | seed, dr, [] => (seed, dr)
  | seed, dr, c :: cs => cellsD (seedD seed c) (dr ++ cellD c) cs
def nextD (seed : Int) (n : Nat) : Int := (seed * seed + 52774 * seed + 19 * (n : Int) + 3) % 2147483629
def fillD : Nat → Int → List Int → List Int
  | 0, _, dr => dr
  | n + 1, seed, dr => fillD n (nextD seed dr.length) (dr ++ [nextD seed dr.length / 1019 % 9967])
def numbersD (ns : List Int) (many : Nat) : List Int := (fillD (many - (cellsD 83 [] (ns.take 63)).2.length) (cellsD 83 [] (ns.take 63)).1 (cellsD 83 [] (ns.take 63)).2).take many
theorem digs_len : ∀ n r, (digs n r).length ≤ n
  | 0, r => Nat.le_refl _
  | n + 1, r => by
    unfold digs
    split
    · have := digs_len n (r / 1013); simp; omega
    · have := digs_len n r; omega
theorem digs_nn : ∀ n r, ∀ x ∈ digs n r, 0 ≤ x
  | 0, r => by simp [digs]
  | n + 1, r => by
    unfold digs
    split
    · intro x hx
      rcases List.mem_cons.mp hx with rfl | hx
      · omega
      · exact digs_nn n _ x hx
    · exact digs_nn n r
theorem digs_stop : ∀ n r, ¬ 0 < r → digs n r = []
  | 0, r, _ => rfl
  | n + 1, r, h => by unfold digs; rw [if_neg h]; exact digs_stop n r h
theorem cellD_len (c : Int) : (cellD c).length ≤ 61 := by
  unfold cellD
  split
  · have := digs_len 60 (c - 1000000000000000000); simp; omega
  · have := digs_len 60 (c - 1000000000000000000); omega
theorem cellD_nn (c : Int) : ∀ x ∈ cellD c, 0 ≤ x := by
  unfold cellD
  split
  · intro x hx
    rcases List.mem_append.mp hx with h | h
    · rw [List.mem_singleton.mp h]; omega
    · exact digs_nn _ _ x h
  · exact digs_nn _ _
theorem cellsD_len : ∀ cs seed dr, (cellsD seed dr cs).2.length ≤ dr.length + 61 * cs.length
  | [], seed, dr => by simp [cellsD]
  | c :: cs, seed, dr => by
    unfold cellsD
    have := cellsD_len cs (seedD seed c) (dr ++ cellD c)
    have := cellD_len c
    simp at *; omega
theorem cellsD_nn : ∀ cs seed dr, (∀ x ∈ dr, (0 : Int) ≤ x) → ∀ x ∈ (cellsD seed dr cs).2, 0 ≤ x
  | [], seed, dr, h => h
  | c :: cs, seed, dr, h => by
    unfold cellsD
    refine cellsD_nn cs _ _ fun x hx => ?_
    rcases List.mem_append.mp hx with hx | hx
    · exact h x hx
    · exact cellD_nn c x hx
theorem fillD_len : ∀ n seed dr, (fillD n seed dr).length = dr.length + n
  | 0, _, _ => rfl
  | n + 1, seed, dr => by unfold fillD; rw [fillD_len]; simp; omega
theorem fillD_nn : ∀ n seed dr, (∀ x ∈ dr, (0 : Int) ≤ x) → ∀ x ∈ fillD n seed dr, 0 ≤ x
  | 0, _, _, h => h
  | n + 1, seed, dr, h => by
    unfold fillD
    refine fillD_nn n _ _ fun x hx => ?_
    rcases List.mem_append.mp hx with hx | hx
    · exact h x hx
    · rw [List.mem_singleton.mp hx]; omega
theorem numbersD_len (ns : List Int) (many : Nat) : (numbersD ns many).length = many := by
  unfold numbersD
  rw [List.length_take, fillD_len]; omega
theorem numbersD_nn (ns : List Int) (many : Nat) : ∀ x ∈ numbersD ns many, 0 ≤ x := fun x hx =>
  fillD_nn _ _ _ (cellsD_nn _ _ _ (by simp)) x (List.mem_of_mem_take hx)
theorem inner_ok {a b k : Sl} {dr : List Int} {seed x r : Int} {De : EndsD} (hl : dr.length ≤ 100000)
    (h : ∀ r' k', De.nx [a, b, .own ((dr ++ digs 60 r).map D.int), .d (.int seed), .d (.int x), .d (.int r'), k']) :
    sFor (iR1 (aCons (eC (.int 60)) aNil)) (gV 6) (sIf (eT (eOp gtD (eV 5) (eC (.int 0)))) (sSeq (sApp 2 (eOp modD (eV 5) (eC (.int 1013)))) (sSet 5 (eOp fdivD (eV 5) (eC (.int 1013))))) sNil) De [a, b, .own (dr.map D.int), .d (.int seed), .d (.int x), .d (.int r), k] := by
  simp only [sFor, iR1, aCons, aNil, eC, R.bind_ok, if_pos (big62_of (i := 60) (by decide) (by decide)), kept, go_ok, List.cons_append, List.nil_append, R.map_ok]
  refine loop_rng (lo := 0) (n := 60) (fun i ρ => ∃ dr' r' k', ρ = [a, b, .own (dr'.map D.int), .d (.int seed), .d (.int x), .d (.int r'), k'] ∧ dr'.length ≤ dr.length + i ∧ dr' ++ digs (60 - i) r' = dr ++ digs 60 r) ?_ ?_ ⟨dr, r, k, rfl, by omega, rfl⟩
  · rintro _ ⟨dr', r', k', rfl, hl', e⟩
    rw [show 60 - 60 = 0 from rfl, digs, List.append_nil] at e
    rw [e]
    exact h r' k'
  · rintro i _ nx hi ⟨dr', r', k', rfl, hl', e⟩ hnx
    refine ⟨_, rfl, ?_⟩
    rw [show 60 - i = (60 - (i + 1)) + 1 by omega, digs] at e
    by_cases hr : 0 < r'
    · rw [if_pos hr] at e
      simp (disch := first | omega | decide) only [sIf, eT, eOp, eC, eV_s, eV_d0, eV_o0, R.bind_ok, gtD_int, asB_bl, go_ok, decide_eq_true hr, if_true, sSeq, sApp, sSet, modD_int, fdivD_int, kept, true_and, List.set_cons_succ, List.set_cons_zero, List.getElem?_cons_succ, List.getElem?_cons_zero]
      refine ⟨by have : sizeLine = 16777216 := rfl; simp; omega, ?_⟩
      exact hnx _ ⟨dr' ++ [r' % 1013], r' / 1013, .d (.int (0 + (i : Nat))), by simp, by simp; omega, by simpa using e⟩
    · rw [if_neg hr] at e
      simp (disch := first | omega | decide) only [sIf, eT, eOp, eC, eV_s, eV_d0, eV_o0, R.bind_ok, gtD_int, asB_bl, go_ok, decide_eq_false hr, sNil, Bool.false_eq_true, if_false, List.set_cons_succ, List.set_cons_zero]
      exact hnx _ ⟨dr', r', .d (.int (0 + (i : Nat))), rfl, by omega, e⟩
def f__law_numbers (s : Scr) (many : Int) : R RV := if s.ns.length ≤ 63 ∧ 0 ≤ many ∧ many ≤ 100000 then .ok (.d (.lst ((numbersD s.ns many.toNat).map D.int))) else .stuck
noncomputable def m__law_numbers : List D → R RV := runF 2 7 (rSeq (rSetO 2 (oLst aNil)) (rSeq (rSet 3 (eC (.int 83))) (rSeq (rFor (iE (eSl cutD (eV 0) pNo (pYes (eC (.int 63))))) (gV 4) (rSeq (rSet 3 (eOp modD (eOp addD (eOp addD (eOp mulD (eV 3) (eC (.int 40014))) (eOp modD (eV 4) (eC (.int 999979)))) (eC (.int 37))) (eC (.int 2147483563)))) (rSeq (rSet 5 (eOp subD (eV 4) (eOp powD (eC (.int 10)) (eC (.int 18))))) (rSeq (rIf (eT (eOp ltD (eV 5) (eC (.int 0)))) (rApp 2 (eOp modD (eV 4) (eC (.int 9967)))) rNil) (rFor (iR1 (aCons (eC (.int 60)) aNil)) (gV 6) (rIf (eT (eOp gtD (eV 5) (eC (.int 0)))) (rSeq (rApp 2 (eOp modD (eV 5) (eC (.int 1013)))) (rSet 5 (eOp fdivD (eV 5) (eC (.int 1013))))) rNil)))))) (rSeq (rWhile (eT (eOp ltD (eFn lenD (aCons (eV 2) aNil)) (eV 1))) (rSeq (rSet 3 (eOp modD (eOp addD (eOp addD (eOp addD (eOp mulD (eV 3) (eV 3)) (eOp mulD (eC (.int 52774)) (eV 3))) (eOp mulD (eC (.int 19)) (eFn lenD (aCons (eV 2) aNil)))) (eC (.int 3))) (eC (.int 2147483629)))) (rApp 2 (eOp modD (eOp fdivD (eV 3) (eC (.int 1019))) (eC (.int 9967)))))) (rFrz 2 (rRet (eSl cutD (eV 2) pNo (pYes (eV 1)))))))))
theorem mo__law_numbers : ∀ a b, f__law_numbers a b ≠ .stuck → m__law_numbers [Enc.enc a, Enc.enc b] = f__law_numbers a b := by
  refine mo2 rfl ?_
  simp only [td_nil, td_seq, td_brk, td_cnt, td_dead, td_retN, td_drop, td_ret, td_retO, td_retV, td_if, td_asg, td_set, td_setO, td_frz, td_app, td_put, td_aug, td_for, td_while, td_thru, td_set2, td_par]
  rintro ⟨ns⟩ many hf
  unfold f__law_numbers at hf ⊢
  by_cases hc : ns.length ≤ 63 ∧ 0 ≤ many ∧ many ≤ 100000
  · rw [if_pos hc]
    obtain ⟨hn, hm0, hm⟩ := hc
    show sSeq _ _ (endsOf _) [Sl.d (.scr (ns.map D.int)), .d (.int many), .un, .un, .un, .un, .un]
    have cut : cutG (ns.map D.int) none (some 63) = (ns.take 63).map D.int := by
      unfold cutG
      rw [HT.sIx_none, List.drop_zero, Nat.sub_zero, List.map_take, List.length_map]
      rw [show HT.sIx ns.length ns.length (some 63) = min 63 ns.length from HT.sIx_nat _ _ 63]
      rw [← List.map_take, ← List.map_take, ← List.take_take, List.take_length]
    simp (disch := first | omega | decide) only [sSeq, sSetO, sSet, oLst, aNil, R.bind_ok, okLen_of, if_true, go_ok, List.set_cons_succ, List.set_cons_zero, eC, kept, true_and, sFor, iE, eSl, eV_d0, pNo, pYes, asI, cutD, itD, cut]
    refine loop_map (f := D.int) (fun cs ρ => ∃ seed dr c r k, ρ = [.d (.scr (ns.map D.int)), .d (.int many), .own (dr.map D.int), .d (.int seed), c, r, k] ∧ 0 ≤ seed ∧ seed < 2147483629 ∧ dr.length + 61 * cs.length ≤ 3843 ∧ cellsD seed dr cs = cellsD 83 [] (ns.take 63)) ?_ ?_ ⟨83, [], .un, .un, .un, rfl, by omega, by omega, by simp; omega, rfl⟩
    · rintro _ ⟨seed, dr, c, r, k, rfl, h1, h2, h3, h4⟩
      simp only
      refine while_ind (fun m ρ => ∃ seed dr c r k, ρ = [.d (.scr (ns.map D.int)), .d (.int many), .own (dr.map D.int), .d (.int seed), c, r, k] ∧ 0 ≤ seed ∧ seed < 2147483629 ∧ dr.length ≤ 200000 ∧ m = many.toNat - dr.length ∧ (fillD m seed dr).take many.toNat = numbersD ns many.toNat) ?_ ⟨seed, dr, c, r, k, rfl, h1, h2, by simp at h3; omega, rfl, ?_⟩
      · rintro m _ nx ⟨seed, dr, c, r, k, rfl, h1, h2, h3, h4, h5⟩ hnx
        simp (disch := first | omega | decide) only [eT, eOp, eFn, aCons, aNil, eV_s, eV_d0, eV_o0, R.bind_ok, lenD_bor, ltD_int, asB_bl, go_ok, List.length_map]
        by_cases hl : (dr.length : Int) < many
        · rw [if_pos (decide_eq_true hl)]
          simp (disch := first | omega | decide) only [sSeq, sSet, eOp, eFn, aCons, aNil, eC, eV_s, eV_d0, eV_o0, R.bind_ok, lenD_bor, mulD_intL, mulD_intR, addD_int, modD_int, fdivD_int, go_ok, kept, true_and, List.set_cons_succ, List.set_cons_zero, List.length_map, sApp, List.getElem?_cons_succ, List.getElem?_cons_zero]
          refine ⟨by have : sizeLine = 16777216 := rfl; omega, ?_⟩
          obtain ⟨m', rfl⟩ : ∃ m', m = m' + 1 := ⟨m - 1, by omega⟩
          refine hnx m' _ rfl ⟨nextD seed dr.length, dr ++ [nextD seed dr.length / 1019 % 9967], c, r, k, by simp [nextD], by unfold nextD; omega, by unfold nextD; omega, by simp; omega, by simp; omega, h5⟩
        · rw [if_neg (by simpa using hl)]
          have hm0 : m = 0 := by omega
          subst hm0
          have cut2 : cutG (dr.map D.int) none (some many) = (dr.take many.toNat).map D.int := by
            obtain ⟨q, rfl⟩ : ∃ q : Nat, many = q := ⟨many.toNat, by omega⟩
            unfold cutG
            rw [HT.sIx_none, List.drop_zero, Nat.sub_zero, List.length_map]
            rw [show HT.sIx dr.length dr.length (some (q : Int)) = min q dr.length from HT.sIx_nat _ _ q]
            rw [← List.map_take, ← List.take_take, List.take_length, Int.toNat_natCast]
          simp only [sFrz, List.set_cons_succ, List.set_cons_zero, List.getElem?_cons_succ, List.getElem?_cons_zero, sRet, eSl, eV_s, eV_o0, eV_d0, R.bind_ok, pNo, pYes, asI, cutD, cut2, go_ok, kept, true_and, endsOf]
          rw [show (dr.take many.toNat) = numbersD ns many.toNat from h5]
      · unfold numbersD
        rw [← h4]
        rfl
    · rintro x xs _ ⟨seed, dr, c, r, k, rfl, h1, h2, h3, h4⟩ ih
      refine ⟨_, rfl, ?_⟩
      simp (disch := first | omega | decide) only [sSeq, sSet, eOp, eC, eV_s, eV_d0, eV_o0, R.bind_ok, mulD_intL, addD_int, subD_int, modD_int, fdivD_int, go_ok, kept, true_and, List.set_cons_succ, List.set_cons_zero, powD_1018]
      have fin : ∀ dr', dr' = dr ++ cellD x → ∀ c r k, _ := fun dr' e c r k => ih [.d (.scr (ns.map D.int)), .d (.int many), .own (dr'.map D.int), .d (.int (seedD seed x)), c, r, k] ⟨seedD seed x, dr', c, r, k, rfl, by unfold seedD; omega, by unfold seedD; omega, by rw [e]; have := cellD_len x; simp at h3 ⊢; omega, by rw [e]; exact h4⟩
      have h3' : dr.length + 61 * (xs.length + 1) ≤ 3843 := h3
      by_cases hx : x - 1000000000000000000 < 0
      · simp (disch := first | omega | decide) only [sIf, eT, eOp, eC, eV_s, eV_d0, eV_o0, R.bind_ok, ltD_int, asB_bl, go_ok, decide_eq_true hx, if_true, sApp, modD_int, List.set_cons_succ, List.set_cons_zero, List.getElem?_cons_succ, List.getElem?_cons_zero]
        refine ⟨rfl, by have : sizeLine = 16777216 := rfl; rw [List.length_map]; omega, ?_⟩
        rw [show dr.map D.int ++ [D.int (x % 9967)] = (dr ++ [x % 9967]).map D.int by simp]
        exact inner_ok (by simp; omega) fun r' k' => fin _ (by unfold cellD; rw [if_pos hx]; simp) _ _ k'
      · simp (disch := first | omega | decide) only [sIf, eT, eOp, eC, eV_s, eV_d0, eV_o0, R.bind_ok, ltD_int, asB_bl, go_ok, decide_eq_false hx, sNil, Bool.false_eq_true, if_false]
        exact inner_ok (by omega) fun r' k' => fin _ (by unfold cellD; rw [if_neg hx]) _ _ k'
  · rw [if_neg hc] at hf
    exact absurd rfl hf

end Lw
set_option maxRecDepth 100000
set_option maxHeartbeats 4000000
namespace Lw
open PySem L2 DL
def labelOf (n : Int) : Str := (⟨#[[97, 98, 99].getD (n % 3).toNat 0]⟩ : Str) ++ ([("" : Str), ("x" : Str), ("y" : Str), ("xy" : Str)].getD (n / 3 % 4).toNat "")
theorem labelOf_len (n : Int) : ([("" : Str), ("x" : Str), ("y" : Str), ("xy" : Str)].getD (n / 3 % 4).toNat "").length ≤ 2 := by
  have h1 : 0 ≤ n / 3 % 4 := by omega
  have h2 : n / 3 % 4 < 4 := by omega
  generalize n / 3 % 4 = k at *
  obtain rfl | rfl | rfl | rfl : k = 0 ∨ k = 1 ∨ k = 2 ∨ k = 3 := by omega
  all_goals decide +kernel
theorem abc_str : ("abc" : Str).cps.toList = [97, 98, 99] := by decide +kernel
def f__law_label (n : Int) : R RV := .ok (.d (.str (labelOf n)))
noncomputable def m__law_label : List D → R RV := runF 1 1 (rRet (eOp addD (eOp ixD (eC (.str "abc")) (eOp modD (eV 0) (eC (.int 3)))) (eOp ixD (eL (oLst (aCons (eC (.str "")) (aCons (eC (.str "x")) (aCons (eC (.str "y")) (aCons (eC (.str "xy")) aNil)))))) (eOp modD (eOp fdivD (eV 0) (eC (.int 3))) (eC (.int 4))))))
theorem mo__law_label : ∀ a, f__law_label a ≠ .stuck → m__law_label [Enc.enc a] = f__law_label a := by
  refine mo1 rfl ?_
  simp only [td_nil, td_seq, td_brk, td_cnt, td_dead, td_retN, td_drop, td_ret, td_retO, td_retV, td_if, td_asg, td_set, td_setO, td_frz, td_app, td_put, td_aug, td_for, td_while, td_thru, td_set2, td_par]
  intro n _
  have e1 : ixD (.lst [.str "", .str "x", .str "y", .str "xy"]) (.int (n / 3 % 4)) = .ok (.str ([("" : Str), ("x" : Str), ("y" : Str), ("xy" : Str)].getD (n / 3 % 4).toNat "")) := by
    rw [show ([D.str "", .str "x", .str "y", .str "xy"] : List D) = [("" : Str), ("x" : Str), ("y" : Str), ("xy" : Str)].map D.str from rfl, ixD_lst (by omega) (by simp; omega), getD_map (by simp; omega) ("" : Str)]
  have e2 : ixD (.str "abc") (.int (n % 3)) = .ok (.str ⟨#[[97, 98, 99].getD (n % 3).toNat 0]⟩) := by
    rw [ixD_str (by rw [abc_str]; decide) (by omega) (by rw [abc_str]; simp; omega), abc_str]
  have l1 := labelOf_len n
  have l2 : (⟨#[[97, 98, 99].getD (n % 3).toNat 0]⟩ : Str).length = 1 := rfl
  show sRet _ (endsOf _) [Sl.d (.int n)]
  simp (disch := first | omega | decide) only [sRet, eOp, eL, oLst, aCons, aNil, eC, eV_d0, R.bind_ok, R.map_ok, modD_int, fdivD_int, if_pos (okLen_of (ds := [D.str "", .str "x", .str "y", .str "xy"]) rfl (by decide)), e1, e2, addD_str, go_ok, kept, endsOf, f__law_label, labelOf, true_and]

end Lw
set_option maxRecDepth 100000
set_option maxHeartbeats 4000000
namespace Lw
open PySem L2 DL
/-! labels, trees, steps -/
abbrev Tree := List (Int × Str)
structure Step where
  j : Str
  k : Str
  m : Str
  f : Bool
  deriving DecidableEq
instance : Enc Step := ⟨fun s => .tup [.str s.j, .str s.k, .str s.m, .bl s.f], fun d => match d with | .tup [.str a, .str b, .str c, .bl e] => some ⟨a, b, c, e⟩ | _ => none, fun _ => rfl, fun d s h => by
  split at h
  · cases h; rfl
  · cases h⟩
instance : EncP Step := ⟨fun s => .tuple [.str s.j, .str s.k, .str s.m, .bool s.f], fun s => PyData.strOk s.j = true ∧ PyData.strOk s.k = true ∧ PyData.strOk s.m = true, 1, fun _ => rfl, fun s h => by
    show (PyData.strOk s.j && (PyData.strOk s.k && (PyData.strOk s.m && (true && true)))) = true
    rw [h.1, h.2.1, h.2.2]; rfl, fun s => Nat.le_refl _, fun a b => by
    obtain ⟨a1, a2, a3, a4⟩ := a
    obtain ⟨b1, b2, b3, b4⟩ := b
    show ((a1 == b1) && ((a2 == b2) && ((a3 == b3) && ((a4 == b4) && true)))) = _
    by_cases h1 : a1 = b1 <;> by_cases h2 : a2 = b2 <;> by_cases h3 : a3 = b3 <;> by_cases h4 : a4 = b4 <;> simp [h1, h2, h3, h4], fun _ => rfl⟩
def depT (t : Tree) (i : Nat) : Int := (t.getD i (0, "")).1
def labT (t : Tree) (i : Nat) : Str := (t.getD i (0, "")).2
structure OkTree (t : Tree) : Prop where
  ne : 0 < t.length
  le : t.length ≤ 60
  lab : ∀ i, i < t.length → labT t i ∈ labs
  root : depT t 0 = 0
  pos : ∀ i, 0 < i → i < t.length → 1 ≤ depT t i ∧ depT t i ≤ depT t (i - 1) + 1
theorem labelOf_mem (n : Int) : labelOf n ∈ labs := by
  unfold labelOf
  have h1 : 0 ≤ n / 3 % 4 := by omega
  have h2 : n / 3 % 4 < 4 := by omega
  have h3 : 0 ≤ n % 3 := by omega
  have h4 : n % 3 < 3 := by omega
  generalize n / 3 % 4 = k at *
  generalize n % 3 = j at *
  obtain rfl | rfl | rfl | rfl : k = 0 ∨ k = 1 ∨ k = 2 ∨ k = 3 := by omega
  all_goals (obtain rfl | rfl | rfl : j = 0 ∨ j = 1 ∨ j = 2 := by omega)
  all_goals decide +kernel
theorem labs_ok : ∀ z ∈ labs, PyData.strOk z = true := by decide +kernel
theorem labs_len : ∀ z ∈ labs, 1 ≤ z.cps.toList.length ∧ z.cps.toList.length ≤ 3 := by decide +kernel
theorem labs_len2 : ∀ z ∈ labs, z.length ≤ 3 := by decide +kernel
theorem tree_ix (t : Tree) {i : Int} (h1 : 0 ≤ i) (h2 : i < (t.length : Int)) : ixD (.lst (t.map Enc.enc)) (.int i) = .ok (.tup [.int (depT t i.toNat), .str (labT t i.toNat)]) := by
  rw [ixD_lst h1 (by simpa using h2), getD_map (by omega) ((0, "") : Int × Str)]; rfl
theorem tree_ixB (t : Tree) {i : Int} (h1 : 0 ≤ i) (h2 : i < (t.length : Int)) : ixD (.bor (t.map Enc.enc)) (.int i) = .ok (.tup [.int (depT t i.toNat), .str (labT t i.toNat)]) := tree_ix t h1 h2
theorem pair_0 {a : Int} {b : Str} : ixD (.tup [.int a, .str b]) (.int 0) = .ok (.int a) := rfl
theorem pair_1 {a : Int} {b : Str} : ixD (.tup [.int a, .str b]) (.int 1) = .ok (.str b) := rfl
theorem depT_app {t : Tree} {p : Int × Str} {i : Nat} (h : i < t.length) : depT (t ++ [p]) i = depT t i := by
  unfold depT
  rw [List.getD_eq_getElem?_getD, List.getD_eq_getElem?_getD, List.getElem?_append_left h]
theorem labT_app {t : Tree} {p : Int × Str} {i : Nat} (h : i < t.length) : labT (t ++ [p]) i = labT t i := by
  unfold labT
  rw [List.getD_eq_getElem?_getD, List.getD_eq_getElem?_getD, List.getElem?_append_left h]
theorem depT_new {t : Tree} {p : Int × Str} : depT (t ++ [p]) t.length = p.1 := by
  unfold depT
  rw [List.getD_eq_getElem?_getD, List.getElem?_append_right (Nat.le_refl _), Nat.sub_self]; rfl
theorem labT_new {t : Tree} {p : Int × Str} : labT (t ++ [p]) t.length = p.2 := by
  unfold labT
  rw [List.getD_eq_getElem?_getD, List.getElem?_append_right (Nat.le_refl _), Nat.sub_self]; rfl

end Lw
set_option maxRecDepth 100000
set_option maxHeartbeats 4000000
namespace Lw
open PySem L2 DL
/-! the drawn tree -/
def deepD (l n : Int) : Int := 1 + [l, n / 12 % (l + 1), if l - 1 > 0 then l - 1 else 0].getD (n / 60 % 3).toNat 0
def growD (t : Tree) (n : Int) : Tree := t ++ [(deepD (depT t (t.length - 1)) n, labelOf n)]
def treeN (d : List Int) : Nat → Tree
  | 0 => [(0, labelOf (d.getD 1 0))]
  | i + 1 => growD (treeN d i) (d.getD (2 + i) 0)
theorem treeN_len (d : List Int) : ∀ i, (treeN d i).length = i + 1
  | 0 => rfl
  | i + 1 => by unfold treeN growD; rw [List.length_append, treeN_len d i]; rfl
theorem deepD_pos {l n : Int} (h : 0 ≤ l) : 1 ≤ deepD l n ∧ deepD l n ≤ l + 1 := by
  unfold deepD
  have h1 : 0 ≤ n / 60 % 3 := by omega
  have h2 : n / 60 % 3 < 3 := by omega
  have h3 : 0 ≤ n / 12 % (l + 1) := Int.emod_nonneg _ (by omega)
  have h4 : n / 12 % (l + 1) < l + 1 := Int.emod_lt_of_pos _ (by omega)
  generalize n / 60 % 3 = k at *
  obtain rfl | rfl | rfl : k = 0 ∨ k = 1 ∨ k = 2 := by omega
  · show 1 ≤ 1 + l ∧ 1 + l ≤ l + 1; omega
  · show 1 ≤ 1 + n / 12 % (l + 1) ∧ 1 + n / 12 % (l + 1) ≤ l + 1; omega
  · show 1 ≤ 1 + (if l - 1 > 0 then l - 1 else 0) ∧ 1 + (if l - 1 > 0 then l - 1 else 0) ≤ l + 1
    split <;> omega
theorem treeN_ok (d : List Int) : ∀ i, i + 1 ≤ 60 → OkTree (treeN d i)
  | 0, h => by
    refine ⟨by rw [treeN_len]; omega, by rw [treeN_len]; omega, fun i hi => ?_, rfl, fun i hi h2 => absurd h2 (by rw [treeN_len]; omega)⟩
    have : i = 0 := by rw [treeN_len] at hi; omega
    subst this
    exact labelOf_mem _
  | i + 1, h => by
    have ih := treeN_ok d i (by omega)
    have hl := treeN_len d i
    have hl' := treeN_len d (i + 1)
    unfold treeN growD at hl' ⊢
    have h0 : 0 ≤ depT (treeN d i) ((treeN d i).length - 1) := by
      by_cases h0 : i = 0
      · rw [hl, h0]; rw [h0] at ih; exact Int.le_of_eq ih.root.symm
      · have := (ih.pos ((treeN d i).length - 1) (by omega) (by omega)).1; omega
    have hd := deepD_pos (n := d.getD (2 + i) 0) h0
    refine ⟨by omega, by omega, fun j hj => ?_, ?_, fun j hj h2 => ?_⟩
    · by_cases hj2 : j < (treeN d i).length
      · rw [labT_app hj2]; exact ih.lab j hj2
      · have : j = (treeN d i).length := by omega
        subst this
        rw [labT_new]; exact labelOf_mem _
    · rw [depT_app (by omega)]; exact ih.root
    · by_cases hj2 : j < (treeN d i).length
      · rw [depT_app hj2, depT_app (by omega)]; exact ih.pos j hj hj2
      · have : j = (treeN d i).length := by omega
        subst this
        rw [depT_new, depT_app (by omega)]
        exact hd
def treeD (d : List Int) (upto : Int) : Tree := treeN d (d.getD 0 0 % upto).toNat
def f__law_tree (d : List Int) (upto : Int) : R RV := if 0 < upto ∧ upto ≤ 60 ∧ upto.toNat + 2 ≤ d.length then .ok (.own ((treeD d upto).map Enc.enc)) else .stuck
theorem lab_call {n : Int} : callR m__law_label [.int n] = .ok (.str (labelOf n)) := callR_m1 mo__law_label n (rv := .d (.str (labelOf n))) rfl rfl
noncomputable def m__law_tree : List D → R RV := runF 2 6 (rSeq (rSetO 2 (oLst (aCons (eTup (aCons (eC (.int 0)) (aCons (eCall m__law_label (aCons (eOp ixD (eV 0) (eC (.int 1))) aNil)) aNil))) aNil))) (rSeq (rFor (iR1 (aCons (eOp modD (eOp ixD (eV 0) (eC (.int 0))) (eV 1)) aNil)) (gV 3) (rSeq (rSet 4 (eOp ixD (eV 0) (eOp addD (eC (.int 2)) (eV 3)))) (rSeq (rSet 5 (eOp addD (eC (.int 1)) (eOp ixD (eL (oLst (aCons (eOp ixD (eOp ixD (eV 2) (eUn negD (eC (.int 1)))) (eC (.int 0))) (aCons (eOp modD (eOp fdivD (eV 4) (eC (.int 12))) (eOp addD (eOp ixD (eOp ixD (eV 2) (eUn negD (eC (.int 1)))) (eC (.int 0))) (eC (.int 1)))) (aCons (eFn maxD (aCons (eC (.int 0)) (aCons (eOp subD (eOp ixD (eOp ixD (eV 2) (eUn negD (eC (.int 1)))) (eC (.int 0))) (eC (.int 1))) aNil))) aNil))))) (eOp modD (eOp fdivD (eV 4) (eC (.int 60))) (eC (.int 3)))))) (rApp 2 (eTup (aCons (eV 5) (aCons (eCall m__law_label (aCons (eV 4) aNil)) aNil))))))) (rRetV 2)))
theorem mo__law_tree : ∀ a b, f__law_tree a b ≠ .stuck → m__law_tree [Enc.enc a, Enc.enc b] = f__law_tree a b := by
  refine mo2 rfl ?_
  simp only [td_nil, td_seq, td_brk, td_cnt, td_dead, td_retN, td_drop, td_ret, td_retO, td_retV, td_if, td_asg, td_set, td_setO, td_frz, td_app, td_put, td_aug, td_for, td_while, td_thru, td_set2, td_par]
  intro d upto hf
  unfold f__law_tree at hf ⊢
  by_cases hc : 0 < upto ∧ upto ≤ 60 ∧ upto.toNat + 2 ≤ d.length
  · rw [if_pos hc]
    obtain ⟨h1, h2, h3⟩ := hc
    show sSeq _ _ (endsOf _) [Sl.d (.lst (d.map D.int)), .d (.int upto), .un, .un, .un, .un]
    have ix : ∀ i : Int, 0 ≤ i → i < (d.length : Int) → ixD (.lst (d.map D.int)) (.int i) = .ok (.int (d.getD i.toNat 0)) := fun i a b => by
      rw [ixD_lst a (by simpa using b), getD_map (by omega) (0 : Int)]
    have k1 : 0 ≤ d.getD 0 0 % upto := Int.emod_nonneg _ (by omega)
    have k2 : d.getD 0 0 % upto < upto := Int.emod_lt_of_pos _ (by omega)
    simp (disch := first | omega | exact kk_int | exact kk_str | exact kk_tup | exact kk_lst | exact kk_bl | exact kk_non | assumption | decide) only [sFrz, sSeq, sSet, sSetO, sIf, sRet, sRetO, sRetN, sFor, sApp, sNil, sDrop, sAsg, eT, eOp, eC, eL, oLst, eTup, eUn, aCons, aNil, eFn, iE, eSl, pNo, pYes, asI, eV_d0, eV_o0, eV_s, R.bind_ok, R.map_ok, go_ok, asB_bl, kk_int, kk_str, kk_bl, kk_non, kk_tup, kk_lst, true_and, and_true, List.set_cons_succ, List.set_cons_zero, List.getElem?_cons_succ, List.getElem?_cons_zero, addD_int, subD_int, mulD_intL, mulD_intR, fdivD_int, modD_int, ltD_int, leD_int, gtD_int, geD_int, eqD_int, neD_int, eqD_bl, neD_bl, isD_non, notIsD_non, intD_int, negD_int, maxD_int, minD_int, lenD_lst, lenD_bor, lenD_tup, List.length_map, okLen0, okLen1, okLen2, okLen3, okLen4, okLen5, okLen6, okLen7, if_true, eAnd, eOr, eNot, eIf, eAndV, eOrV, eNotV, eChain, ifBl_bl, isN_non, isN_int, isN_bl, isN_str, isN_tup, isN_lst, Bool.not_true, Bool.not_false, Bool.false_eq_true, if_false, rvD, notInD_bls, map_snd1, map_snd2, eCall, ix, ixD_lst, lab_call, Int.toNat_zero, Int.toNat_one, iR1, if_pos (big62_of (i := d.getD 0 0 % upto) (by omega) (by omega))]
    refine loop_rng (lo := 0) (n := (d.getD 0 0 % upto).toNat) (fun i ρ => ∃ a b c, ρ = [.d (.lst (d.map D.int)), .d (.int upto), .own ((treeN d i).map Enc.enc), a, b, c]) ?_ ?_ ⟨.un, .un, .un, rfl⟩
    · rintro _ ⟨a, b, c, rfl⟩
      rfl
    · rintro i _ nx hi ⟨a, b, c, rfl⟩ hnx
      refine ⟨_, rfl, ?_⟩
      have hl := treeN_len d i
      have ok := treeN_ok d i (by omega)
      have h0 : 0 ≤ depT (treeN d i) i := by
        by_cases h0 : i = 0
        · subst h0; exact Int.le_of_eq ok.root.symm
        · exact Int.le_trans (by decide) (ok.pos i (by omega) (by omega)).1
      have e1 : ixD (.bor ((treeN d i).map Enc.enc)) (.int (-1)) = .ok (.tup [.int (depT (treeN d i) i), .str (labT (treeN d i) i)]) := by
        rw [ixD_borN (by rw [List.length_map]; omega), getD_map (by rw [List.length_map]; omega) ((0, "") : Int × Str), List.length_map, hl]; rfl
      have e2 : (2 + (0 + (i : Int))).toNat = 2 + i := by omega
      have m0 : 0 < depT (treeN d i) i + 1 := by omega
      have e3 : ∀ n l : Int, ixD (.lst [.int l, .int (n / 12 % (l + 1)), .int (if l - 1 > 0 then l - 1 else 0)]) (.int (n / 60 % 3)) = .ok (.int ([l, n / 12 % (l + 1), if l - 1 > 0 then l - 1 else 0].getD (n / 60 % 3).toNat 0)) := fun n l => by
        rw [show ([D.int l, .int (n / 12 % (l + 1)), .int (if l - 1 > 0 then l - 1 else 0)] : List D) = [l, n / 12 % (l + 1), if l - 1 > 0 then l - 1 else 0].map D.int from rfl, ixD_lst (by omega) (by simp; omega), getD_map (by simp; omega) (0 : Int)]
      simp (disch := first | omega | exact kk_int | exact kk_str | exact kk_tup | exact kk_lst | exact kk_bl | exact kk_non | assumption | decide) only [sFrz, sSeq, sSet, sSetO, sIf, sRet, sRetO, sRetN, sFor, sApp, sNil, sDrop, sAsg, eT, eOp, eC, eL, oLst, eTup, eUn, aCons, aNil, eFn, iE, eSl, pNo, pYes, asI, eV_d0, eV_o0, eV_s, R.bind_ok, R.map_ok, go_ok, asB_bl, kk_int, kk_str, kk_bl, kk_non, kk_tup, kk_lst, true_and, and_true, List.set_cons_succ, List.set_cons_zero, List.getElem?_cons_succ, List.getElem?_cons_zero, addD_int, subD_int, mulD_intL, mulD_intR, fdivD_int, modD_int, ltD_int, leD_int, gtD_int, geD_int, eqD_int, neD_int, eqD_bl, neD_bl, isD_non, notIsD_non, intD_int, negD_int, maxD_int, minD_int, lenD_lst, lenD_bor, lenD_tup, List.length_map, okLen0, okLen1, okLen2, okLen3, okLen4, okLen5, okLen6, okLen7, if_true, eAnd, eOr, eNot, eIf, eAndV, eOrV, eNotV, eChain, ifBl_bl, isN_non, isN_int, isN_bl, isN_str, isN_tup, isN_lst, Bool.not_true, Bool.not_false, Bool.false_eq_true, if_false, rvD, notInD_bls, map_snd1, map_snd2, eCall, ix, lab_call, e1, e2, e3, m0, pair_0]
      refine ⟨by have : sizeLine = 16777216 := rfl; omega, ?_⟩
      have e : (treeN d (i + 1)).map Enc.enc = (treeN d i).map Enc.enc ++ [D.tup [D.int (1 + [depT (treeN d i) i, d.getD (2 + i) 0 / 12 % (depT (treeN d i) i + 1), if depT (treeN d i) i - 1 > 0 then depT (treeN d i) i - 1 else 0].getD (d.getD (2 + i) 0 / 60 % 3).toNat 0), D.str (labelOf (d.getD (2 + i) 0))]] := by
        simp only [treeN, growD, deepD, List.map_append, hl, Nat.add_sub_cancel]
        rfl
      rw [← e]
      exact hnx _ ⟨_, _, _, rfl⟩
  · rw [if_neg hc] at hf
    exact absurd rfl hf

end Lw
set_option maxRecDepth 100000
set_option maxHeartbeats 4000000
namespace Lw
open PySem L2 DL
/-! labels' kinds and marks; the constants -/
def kindS (z : Str) : Str := ⟨#[z.cps.toList.getD 0 0]⟩
def marksS (z : Str) : Str := cutS z (some 1) none
theorem labs_kind : ∀ z ∈ labs, kindS z ∈ (["a", "b", "c"] : List Str) := by decide +kernel
theorem labs_marks : ∀ z ∈ labs, marksS z ∈ (["", "x", "y", "xy"] : List Str) := by decide +kernel
def f_kind_of (z : Str) : R RV := if z ∈ labs then .ok (.d (.str (kindS z))) else .stuck
def f_marks_of (z : Str) : R RV := if z ∈ labs then .ok (.d (.str (marksS z))) else .stuck
theorem lab_0 {z : Str} (h : z ∈ labs) : ixD (.str z) (.int 0) = .ok (.str (kindS z)) := by
  have := labs_len z h
  rw [ixD_str (by omega) (by decide) (by omega)]; rfl
theorem lab_1 {z : Str} (h : z ∈ labs) : cutD (.str z) (some 1) none = .ok (.str (marksS z)) := by
  have := labs_len2 z h
  show (if z.length ≤ 16777216 then R.ok (D.str (cutS z (some 1) none)) else .stuck) = _
  rw [if_pos (by omega)]; rfl
noncomputable def m_kind_of : List D → R RV := runF 1 1 (rRet (eOp ixD (eV 0) (eC (.int 0))))
theorem mo_kind_of : ∀ a, f_kind_of a ≠ .stuck → m_kind_of [Enc.enc a] = f_kind_of a := by
  refine mo1 rfl ?_
  simp only [td_nil, td_seq, td_brk, td_cnt, td_dead, td_retN, td_drop, td_ret, td_retO, td_retV, td_if, td_asg, td_set, td_setO, td_frz, td_app, td_put, td_aug, td_for, td_while, td_thru, td_set2, td_par]
  intro z hf
  unfold f_kind_of at hf ⊢
  by_cases hc : z ∈ labs
  · rw [if_pos hc]
    show sRet _ (endsOf _) [Sl.d (.str z)]
    simp (disch := first | omega | exact kk_int | exact kk_str | exact kk_tup | exact kk_lst | exact kk_bl | exact kk_non | assumption | decide) only [sFrz, sSeq, sSet, sSetO, sIf, sRet, sRetO, sRetN, sFor, sApp, sNil, sDrop, sAsg, eT, eOp, eC, eL, oLst, eTup, eUn, aCons, aNil, eFn, iE, eSl, pNo, pYes, asI, eV_d0, eV_o0, eV_s, R.bind_ok, R.map_ok, go_ok, asB_bl, kk_int, kk_str, kk_bl, kk_non, kk_tup, kk_lst, true_and, and_true, List.set_cons_succ, List.set_cons_zero, List.getElem?_cons_succ, List.getElem?_cons_zero, addD_int, subD_int, mulD_intL, mulD_intR, fdivD_int, modD_int, ltD_int, leD_int, gtD_int, geD_int, eqD_int, neD_int, eqD_bl, neD_bl, isD_non, notIsD_non, intD_int, negD_int, maxD_int, minD_int, lenD_lst, lenD_bor, lenD_tup, List.length_map, okLen0, okLen1, okLen2, okLen3, okLen4, okLen5, okLen6, okLen7, if_true, eAnd, eOr, eNot, eIf, eAndV, eOrV, eNotV, eChain, ifBl_bl, isN_non, isN_int, isN_bl, isN_str, isN_tup, isN_lst, Bool.not_true, Bool.not_false, Bool.false_eq_true, if_false, rvD, notInD_bls, map_snd1, map_snd2, lab_0 hc, endsOf]
  · rw [if_neg hc] at hf
    exact absurd rfl hf
noncomputable def m_marks_of : List D → R RV := runF 1 1 (rRet (eSl cutD (eV 0) (pYes (eC (.int 1))) pNo))
theorem mo_marks_of : ∀ a, f_marks_of a ≠ .stuck → m_marks_of [Enc.enc a] = f_marks_of a := by
  refine mo1 rfl ?_
  simp only [td_nil, td_seq, td_brk, td_cnt, td_dead, td_retN, td_drop, td_ret, td_retO, td_retV, td_if, td_asg, td_set, td_setO, td_frz, td_app, td_put, td_aug, td_for, td_while, td_thru, td_set2, td_par]
  intro z hf
  unfold f_marks_of at hf ⊢
  by_cases hc : z ∈ labs
  · rw [if_pos hc]
    show sRet _ (endsOf _) [Sl.d (.str z)]
    simp (disch := first | omega | exact kk_int | exact kk_str | exact kk_tup | exact kk_lst | exact kk_bl | exact kk_non | assumption | decide) only [sFrz, sSeq, sSet, sSetO, sIf, sRet, sRetO, sRetN, sFor, sApp, sNil, sDrop, sAsg, eT, eOp, eC, eL, oLst, eTup, eUn, aCons, aNil, eFn, iE, eSl, pNo, pYes, asI, eV_d0, eV_o0, eV_s, R.bind_ok, R.map_ok, go_ok, asB_bl, kk_int, kk_str, kk_bl, kk_non, kk_tup, kk_lst, true_and, and_true, List.set_cons_succ, List.set_cons_zero, List.getElem?_cons_succ, List.getElem?_cons_zero, addD_int, subD_int, mulD_intL, mulD_intR, fdivD_int, modD_int, ltD_int, leD_int, gtD_int, geD_int, eqD_int, neD_int, eqD_bl, neD_bl, isD_non, notIsD_non, intD_int, negD_int, maxD_int, minD_int, lenD_lst, lenD_bor, lenD_tup, List.length_map, okLen0, okLen1, okLen2, okLen3, okLen4, okLen5, okLen6, okLen7, if_true, eAnd, eOr, eNot, eIf, eAndV, eOrV, eNotV, eChain, ifBl_bl, isN_non, isN_int, isN_bl, isN_str, isN_tup, isN_lst, Bool.not_true, Bool.not_false, Bool.false_eq_true, if_false, rvD, notInD_bls, map_snd1, map_snd2, lab_1 hc, endsOf]
  · rw [if_neg hc] at hf
    exact absurd rfl hf
theorem call_kind {z : Str} (h : z ∈ labs) : callR m_kind_of [.str z] = .ok (.str (kindS z)) := callR_m1 mo_kind_of z (rv := .d (.str (kindS z))) (if_pos h) rfl
theorem call_marks {z : Str} (h : z ∈ labs) : callR m_marks_of [.str z] = .ok (.str (marksS z)) := callR_m1 mo_marks_of z (rv := .d (.str (marksS z))) (if_pos h) rfl

end Lw
set_option maxRecDepth 100000
set_option maxHeartbeats 4000000
namespace Lw
open PySem L2 DL
/-! good steps, selectors, trees -/
structure OkStep (js : List Str) (s : Step) : Prop where
  j : s.j ∈ js
  k : s.k ∈ (["a", "b", "c", "*"] : List Str)
  m : s.m ∈ (["", "x", "y", "xy"] : List Str)
instance (js : List Str) (s : Step) : Decidable (OkStep js s) := decidable_of_iff (s.j ∈ js ∧ s.k ∈ (["a", "b", "c", "*"] : List Str) ∧ s.m ∈ (["", "x", "y", "xy"] : List Str)) ⟨fun h => ⟨h.1, h.2.1, h.2.2⟩, fun h => ⟨h.j, h.k, h.m⟩⟩
def f_look_step (s : Step) (js : Tup Str) : R RV := if OkStep js.l s then .ok (.d .non) else .stuck
theorem signs_of {z : Str} {cs : List Nat} {zs : List Str} (h : z.cps.toList = cs) (h2 : (cs.map fun c => (⟨#[c]⟩ : Str)) = zs) : signs z = zs.map D.str := by
  rw [signs_map, h, ← h2, List.map_map]; rfl
theorem signs_abc : signs "abc" = (["a", "b", "c"] : List Str).map D.str := signs_of (cs := [97, 98, 99]) (by decide +kernel) (by decide +kernel)
theorem signs_joints : signs " >+~" = ([" ", ">", "+", "~"] : List Str).map D.str := signs_of (cs := [32, 62, 43, 126]) (by decide +kernel) (by decide +kernel)
theorem abcS_size : ("abc" : Str).cps.size ≤ 16777216 := by decide +kernel
theorem jointsS_size : (" >+~" : Str).cps.size ≤ 16777216 := by decide +kernel
theorem add_kinds : addD (.lst ((["a", "b", "c"] : List Str).map D.str)) (.lst [.str "*"]) = .ok (.lst ((["a", "b", "c", "*"] : List Str).map D.str)) := addD_lst (by simp)
theorem cont {z : Str} {zs : List Str} (h : z ∈ zs) : zs.contains z = true := List.contains_iff_mem.mpr h
noncomputable def m_look_step : List D → R RV := runF 2 6 (rSeq (rAsg (eV 0) (gT 4 (gC (gV 2) (gC (gV 3) (gC (gV 4) (gC (gV 5) gN)))))) (rIf (eOr (eT (eOp notInD (eV 2) (eV 1))) (eOr (eT (eOp notInD (eV 3) (eOp addD (eL (eFn listO (aCons (eC d_KINDS) aNil))) (eL (oLst (aCons (eC d_ANY) aNil)))))) (eOr (eT (eOp notInD (eV 4) (eC d_MARKS))) (eT (eOp notInD (eV 5) (eTup (aCons (eC (.bl true)) (aCons (eC (.bl false)) aNil)))))))) rDead rNil))
theorem mo_look_step : ∀ a b, f_look_step a b ≠ .stuck → m_look_step [Enc.enc a, Enc.enc b] = f_look_step a b := by
  refine mo2 rfl ?_
  simp only [td_nil, td_seq, td_brk, td_cnt, td_dead, td_retN, td_drop, td_ret, td_retO, td_retV, td_if, td_asg, td_set, td_setO, td_frz, td_app, td_put, td_aug, td_for, td_while, td_thru, td_set2, td_par]
  rintro ⟨j, k, m, f⟩ ⟨js⟩ hf
  unfold f_look_step at hf ⊢
  by_cases hc : OkStep js ⟨j, k, m, f⟩
  · rw [if_pos hc]
    show sSeq _ _ (endsOf _) [Sl.d (.tup [.str j, .str k, .str m, .bl f]), .d (.tup (js.map D.str)), .un, .un, .un, .un]
    refine ⟨rfl, _, rfl, ?_⟩
    simp (disch := first | omega | exact kk_int | exact kk_str | exact kk_tup | exact kk_lst | exact kk_bl | exact kk_non | assumption | decide) only [sFrz, sSeq, sSet, sSetO, sIf, sRet, sRetO, sRetN, sFor, sApp, sNil, sDrop, sAsg, eT, eOp, eC, eL, oLst, eTup, eUn, aCons, aNil, eFn, iE, eSl, pNo, pYes, asI, eV_d0, eV_o0, eV_s, R.bind_ok, R.map_ok, go_ok, asB_bl, kk_int, kk_str, kk_bl, kk_non, kk_tup, kk_lst, true_and, and_true, List.set_cons_succ, List.set_cons_zero, List.getElem?_cons_succ, List.getElem?_cons_zero, addD_int, subD_int, mulD_intL, mulD_intR, fdivD_int, modD_int, ltD_int, leD_int, gtD_int, geD_int, eqD_int, neD_int, eqD_bl, neD_bl, isD_non, notIsD_non, intD_int, negD_int, maxD_int, minD_int, lenD_lst, lenD_bor, lenD_tup, List.length_map, okLen0, okLen1, okLen2, okLen3, okLen4, okLen5, okLen6, okLen7, if_true, eAnd, eOr, eNot, eIf, eAndV, eOrV, eNotV, eChain, ifBl_bl, isN_non, isN_int, isN_bl, isN_str, isN_tup, isN_lst, Bool.not_true, Bool.not_false, Bool.false_eq_true, if_false, rvD, notInD_bls, map_snd1, map_snd2, listO_str abcS_size, signs_abc, add_kinds, notInD_tupS, notInD_lstS, cont hc.j, cont hc.k, cont hc.m]
    rfl
  · rw [if_neg hc] at hf
    exact absurd rfl hf
theorem call_look_step {s : Step} {js : List Str} (h : OkStep js s) : callR m_look_step [Enc.enc s, .tup (js.map D.str)] = .ok .non := callR_m2 mo_look_step s (⟨js⟩ : Tup Str) (rv := .d .non) (if_pos h) rfl rfl
/-- a good selector -/
structure OkSel (ss : List Step) : Prop where
  ne : 1 ≤ ss.length
  le : ss.length ≤ 3
  hd : ∀ s, ss[0]? = some s → OkStep [""] s
  tl : ∀ s ∈ ss.tail, OkStep [" ", ">", "+", "~"] s
instance (ss : List Step) : Decidable (OkSel ss) := decidable_of_iff (1 ≤ ss.length ∧ ss.length ≤ 3 ∧ (∀ s ∈ ss.head?, OkStep [""] s) ∧ ∀ s ∈ ss.tail, OkStep [" ", ">", "+", "~"] s) ⟨fun h => ⟨h.1, h.2.1, fun s e => h.2.2.1 s (by rw [List.head?_eq_getElem?]; exact e), h.2.2.2⟩, fun h => ⟨h.ne, h.le, fun s e => h.hd s (by rw [← List.head?_eq_getElem?]; exact e), h.tl⟩⟩
def f_look_selector (ss : Tup Step) : R RV := if OkSel ss.l then .ok (.d .non) else .stuck
noncomputable def m_look_selector : List D → R RV := runF 1 4 (rSeq (rIf (eNot (eT (eChain leD leD (eC (.int 1)) (eFn lenD (aCons (eV 0) aNil)) (eC d_MOST_STEPS)))) rDead rNil) (rSeq (rAsg (eV 0) (gS 1 2 (gC (gV 1) (gC (gV 2) gN)))) (rSeq (rDrop (eCall m_look_step (aCons (eV 1) (aCons (eTup (aCons (eC (.str "")) aNil)) aNil)))) (rFor (iE (eV 2)) (gV 3) (rDrop (eCall m_look_step (aCons (eV 3) (aCons (eFn tupleD (aCons (eC d_JOINTS) aNil)) aNil))))))))
theorem mo_look_selector : ∀ a, f_look_selector a ≠ .stuck → m_look_selector [Enc.enc a] = f_look_selector a := by
  refine mo1 rfl ?_
  simp only [td_nil, td_seq, td_brk, td_cnt, td_dead, td_retN, td_drop, td_ret, td_retO, td_retV, td_if, td_asg, td_set, td_setO, td_frz, td_app, td_put, td_aug, td_for, td_while, td_thru, td_set2, td_par]
  rintro ⟨ss⟩ hf
  unfold f_look_selector at hf ⊢
  by_cases hc : OkSel ss
  · rw [if_pos hc]
    have h1 := hc.ne
    have h2 := hc.le
    show sSeq _ _ (endsOf _) [Sl.d (.tup (ss.map Enc.enc)), .un, .un, .un]
    simp (disch := first | omega | exact kk_int | exact kk_str | exact kk_tup | exact kk_lst | exact kk_bl | exact kk_non | assumption | decide) only [sFrz, sSeq, sSet, sSetO, sIf, sRet, sRetO, sRetN, sFor, sApp, sNil, sDrop, sAsg, eT, eOp, eC, eL, oLst, eTup, eUn, aCons, aNil, eFn, iE, eSl, pNo, pYes, asI, eV_d0, eV_o0, eV_s, R.bind_ok, R.map_ok, go_ok, asB_bl, kk_int, kk_str, kk_bl, kk_non, kk_tup, kk_lst, true_and, and_true, List.set_cons_succ, List.set_cons_zero, List.getElem?_cons_succ, List.getElem?_cons_zero, addD_int, subD_int, mulD_intL, mulD_intR, fdivD_int, modD_int, ltD_int, leD_int, gtD_int, geD_int, eqD_int, neD_int, eqD_bl, neD_bl, isD_non, notIsD_non, intD_int, negD_int, maxD_int, minD_int, lenD_lst, lenD_bor, lenD_tup, List.length_map, okLen0, okLen1, okLen2, okLen3, okLen4, okLen5, okLen6, okLen7, if_true, eAnd, eOr, eNot, eIf, eAndV, eOrV, eNotV, eChain, ifBl_bl, isN_non, isN_int, isN_bl, isN_str, isN_tup, isN_lst, Bool.not_true, Bool.not_false, Bool.false_eq_true, if_false, rvD, notInD_bls, map_snd1, map_snd2, decide_eq_true (show (1 : Int) ≤ ss.length by omega), decide_eq_true (show (ss.length : Int) ≤ 3 by omega)]
    cases ss with
    | nil => simp at h1
    | cons s0 ss =>
      refine ⟨[.d (.tup ((s0 :: ss).map Enc.enc)), .d (Enc.enc s0), .d (.lst (ss.map Enc.enc)), .un], ?_, ?_⟩
      · simp only [List.length_cons] at h2
        simp [gS, starV, starM, gC, gN, gV, show ss.length ≤ 16383 by omega]
        rw [List.drop_of_length_le (by simp), List.take_of_length_le (by simp)]
      have l0 := call_look_step (hc.hd s0 rfl)
      simp (disch := first | omega | exact kk_int | exact kk_str | exact kk_tup | exact kk_lst | exact kk_bl | exact kk_non | assumption | decide) only [sFrz, sSeq, sSet, sSetO, sIf, sRet, sRetO, sRetN, sFor, sApp, sNil, sDrop, sAsg, eT, eOp, eC, eL, oLst, eTup, eUn, aCons, aNil, eFn, iE, eSl, pNo, pYes, asI, eV_d0, eV_o0, eV_s, R.bind_ok, R.map_ok, go_ok, asB_bl, kk_int, kk_str, kk_bl, kk_non, kk_tup, kk_lst, true_and, and_true, List.set_cons_succ, List.set_cons_zero, List.getElem?_cons_succ, List.getElem?_cons_zero, addD_int, subD_int, mulD_intL, mulD_intR, fdivD_int, modD_int, ltD_int, leD_int, gtD_int, geD_int, eqD_int, neD_int, eqD_bl, neD_bl, isD_non, notIsD_non, intD_int, negD_int, maxD_int, minD_int, lenD_lst, lenD_bor, lenD_tup, List.length_map, okLen0, okLen1, okLen2, okLen3, okLen4, okLen5, okLen6, okLen7, if_true, eAnd, eOr, eNot, eIf, eAndV, eOrV, eNotV, eChain, ifBl_bl, isN_non, isN_int, isN_bl, isN_str, isN_tup, isN_lst, Bool.not_true, Bool.not_false, Bool.false_eq_true, if_false, rvD, notInD_bls, map_snd1, map_snd2, eCall, show callR m_look_step [Enc.enc s0, .tup [.str ""]] = _ from l0, itD]
      refine loop_map (f := Enc.enc) (fun xs ρ => (∀ x ∈ xs, OkStep [" ", ">", "+", "~"] x) ∧ ∃ a, ρ = [.d (.tup ((s0 :: ss).map Enc.enc)), .d (Enc.enc s0), .d (.lst (ss.map Enc.enc)), a]) ?_ ?_ ⟨hc.tl, .un, rfl⟩
      · rintro _ ⟨_, a, rfl⟩; rfl
      · rintro x xs _ ⟨hx, a, rfl⟩ ih
        refine ⟨_, rfl, ?_⟩
        have l1 := call_look_step (hx x (List.mem_cons_self))
        simp (disch := first | omega | exact kk_int | exact kk_str | exact kk_tup | exact kk_lst | exact kk_bl | exact kk_non | assumption | decide) only [sFrz, sSeq, sSet, sSetO, sIf, sRet, sRetO, sRetN, sFor, sApp, sNil, sDrop, sAsg, eT, eOp, eC, eL, oLst, eTup, eUn, aCons, aNil, eFn, iE, eSl, pNo, pYes, asI, eV_d0, eV_o0, eV_s, R.bind_ok, R.map_ok, go_ok, asB_bl, kk_int, kk_str, kk_bl, kk_non, kk_tup, kk_lst, true_and, and_true, List.set_cons_succ, List.set_cons_zero, List.getElem?_cons_succ, List.getElem?_cons_zero, addD_int, subD_int, mulD_intL, mulD_intR, fdivD_int, modD_int, ltD_int, leD_int, gtD_int, geD_int, eqD_int, neD_int, eqD_bl, neD_bl, isD_non, notIsD_non, intD_int, negD_int, maxD_int, minD_int, lenD_lst, lenD_bor, lenD_tup, List.length_map, okLen0, okLen1, okLen2, okLen3, okLen4, okLen5, okLen6, okLen7, if_true, eAnd, eOr, eNot, eIf, eAndV, eOrV, eNotV, eChain, ifBl_bl, isN_non, isN_int, isN_bl, isN_str, isN_tup, isN_lst, Bool.not_true, Bool.not_false, Bool.false_eq_true, if_false, rvD, notInD_bls, map_snd1, map_snd2, eCall, tupleD_str jointsS_size, signs_joints, l1]
        exact ih _ ⟨fun y hy => hx y (List.mem_cons_of_mem _ hy), _, rfl⟩
  · rw [if_neg hc] at hf
    exact absurd rfl hf
instance (t : Tree) : Decidable (OkTree t) := decidable_of_iff (0 < t.length ∧ t.length ≤ 60 ∧ (∀ i, i < t.length → labT t i ∈ labs) ∧ depT t 0 = 0 ∧ ∀ i, i < t.length → 0 < i → 1 ≤ depT t i ∧ depT t i ≤ depT t (i - 1) + 1) ⟨fun h => ⟨h.1, h.2.1, h.2.2.1, h.2.2.2.1, fun i a b => h.2.2.2.2 i b a⟩, fun h => ⟨h.ne, h.le, h.lab, h.root, fun i a b => h.pos i b a⟩⟩
def f_look_tree (t : Tree) : R RV := if OkTree t then .ok (.d .non) else .stuck
noncomputable def m_look_tree : List D → R RV := runF 1 5 (rSeq (rSet 1 (eUn negD (eC (.int 1)))) (rSeq (rFor (iEn (aCons (eV 0) aNil)) (gT 2 (gC (gV 2) (gC (gT 2 (gC (gV 3) (gC (gV 4) gN))) gN))) (rSeq (rIf (eOr (eT (eOp notInD (eV 4) (eC d_LABELS))) (eOr (eT (eOp gtD (eV 3) (eOp addD (eV 1) (eC (.int 1))))) (eOr (eT (eOp neD (eOp eqD (eV 3) (eC (.int 0))) (eOp eqD (eV 2) (eC (.int 0))))) (eT (eOp ltD (eV 3) (eC (.int 0))))))) rDead rNil) (rSet 1 (eV 3)))) (rSeq (rIf (eT (eOp eqD (eFn lenD (aCons (eV 0) aNil)) (eC (.int 0)))) rDead rNil) (rIf (eT (eOp gtD (eFn lenD (aCons (eV 0) aNil)) (eC d_MOST_PARTS))) rDead rNil))))
theorem mo_look_tree : ∀ a, f_look_tree a ≠ .stuck → m_look_tree [Enc.enc a] = f_look_tree a := by
  refine mo1 rfl ?_
  simp only [td_nil, td_seq, td_brk, td_cnt, td_dead, td_retN, td_drop, td_ret, td_retO, td_retV, td_if, td_asg, td_set, td_setO, td_frz, td_app, td_put, td_aug, td_for, td_while, td_thru, td_set2, td_par]
  intro t hf
  unfold f_look_tree at hf ⊢
  by_cases hc : OkTree t
  · rw [if_pos hc]
    have h1 := hc.ne
    have h2 := hc.le
    show sSeq _ _ (endsOf _) [Sl.d (.lst (t.map Enc.enc)), .un, .un, .un, .un]
    simp (disch := first | omega | exact kk_int | exact kk_str | exact kk_tup | exact kk_lst | exact kk_bl | exact kk_non | assumption | decide) only [sFrz, sSeq, sSet, sSetO, sIf, sRet, sRetO, sRetN, sFor, sApp, sNil, sDrop, sAsg, eT, eOp, eC, eL, oLst, eTup, eUn, aCons, aNil, eFn, iE, eSl, pNo, pYes, asI, eV_d0, eV_o0, eV_s, R.bind_ok, R.map_ok, go_ok, asB_bl, kk_int, kk_str, kk_bl, kk_non, kk_tup, kk_lst, true_and, and_true, List.set_cons_succ, List.set_cons_zero, List.getElem?_cons_succ, List.getElem?_cons_zero, addD_int, subD_int, mulD_intL, mulD_intR, fdivD_int, modD_int, ltD_int, leD_int, gtD_int, geD_int, eqD_int, neD_int, eqD_bl, neD_bl, isD_non, notIsD_non, intD_int, negD_int, maxD_int, minD_int, lenD_lst, lenD_bor, lenD_tup, List.length_map, okLen0, okLen1, okLen2, okLen3, okLen4, okLen5, okLen6, okLen7, if_true, eAnd, eOr, eNot, eIf, eAndV, eOrV, eNotV, eChain, ifBl_bl, isN_non, isN_int, isN_bl, isN_str, isN_tup, isN_lst, Bool.not_true, Bool.not_false, Bool.false_eq_true, if_false, rvD, notInD_bls, map_snd1, map_snd2, iEn]
    refine loop_ix (fun i ρ => ∃ a b c, ρ = [.d (.lst (t.map Enc.enc)), .d (.int (if i = 0 then -1 else depT t (i - 1))), a, b, c]) ?_ ?_ ⟨.un, .un, .un, rfl⟩
    · rintro _ ⟨a, b, c, rfl⟩
      have n0 : ¬ ((t.length : Int) == 0) = true := by simp; intro e; rw [e] at h1; exact absurd h1 (by decide)
      simp (disch := first | omega | exact kk_int | exact kk_str | exact kk_tup | exact kk_lst | exact kk_bl | exact kk_non | assumption | decide) only [sFrz, sSeq, sSet, sSetO, sIf, sRet, sRetO, sRetN, sFor, sApp, sNil, sDrop, sAsg, eT, eOp, eC, eL, oLst, eTup, eUn, aCons, aNil, eFn, iE, eSl, pNo, pYes, asI, eV_d0, eV_o0, eV_s, R.bind_ok, R.map_ok, go_ok, asB_bl, kk_int, kk_str, kk_bl, kk_non, kk_tup, kk_lst, true_and, and_true, List.set_cons_succ, List.set_cons_zero, List.getElem?_cons_succ, List.getElem?_cons_zero, addD_int, subD_int, mulD_intL, mulD_intR, fdivD_int, modD_int, ltD_int, leD_int, gtD_int, geD_int, eqD_int, neD_int, eqD_bl, neD_bl, isD_non, notIsD_non, intD_int, negD_int, maxD_int, minD_int, lenD_lst, lenD_bor, lenD_tup, List.length_map, okLen0, okLen1, okLen2, okLen3, okLen4, okLen5, okLen6, okLen7, if_true, eAnd, eOr, eNot, eIf, eAndV, eOrV, eNotV, eChain, ifBl_bl, isN_non, isN_int, isN_bl, isN_str, isN_tup, isN_lst, Bool.not_true, Bool.not_false, Bool.false_eq_true, if_false, rvD, notInD_bls, map_snd1, map_snd2, n0, decide_eq_false (show ¬ (60 : Int) < t.length by omega)]
      rfl
    · intro i d ρ hd ⟨a, b, c, e⟩ hnx
      subst e
      have hi : i < t.length := by
        have := (List.getElem?_eq_some_iff.mp hd).1
        simpa [enumL] using this
      have ed : d = .tup [.int (i : Nat), .tup [.int (depT t i), .str (labT t i)]] := by
        unfold enumL at hd
        rw [List.getElem?_map, List.getElem?_zipIdx, List.getElem?_map, List.getElem?_eq_getElem hi] at hd
        cases hd
        unfold depT labT
        rw [List.getD_eq_getElem?_getD, List.getElem?_eq_getElem hi]
        simp; rfl
      subst ed
      refine ⟨_, rfl, ?_⟩
      have hl := hc.lab i hi
      have c2 : ¬ (if i = 0 then (-1 : Int) else depT t (i - 1)) + 1 < depT t i := by
        by_cases h0 : i = 0
        · subst h0; rw [hc.root]; decide
        · rw [if_neg h0]; have := (hc.pos i (by omega) hi).2; omega
      have c3 : ((depT t i == 0) == ((i : Int) == 0)) = true := by
        by_cases h0 : i = 0
        · subst h0; rw [hc.root]; decide
        · have := (hc.pos i (by omega) hi).1
          have e1 : (depT t i == 0) = false := by simp; omega
          have e2 : ((i : Int) == 0) = false := by simp; omega
          rw [e1, e2]; rfl
      have c4 : ¬ depT t i < 0 := by
        by_cases h0 : i = 0
        · subst h0; rw [hc.root]; decide
        · have := (hc.pos i (by omega) hi).1; omega
      simp (disch := first | omega | exact kk_int | exact kk_str | exact kk_tup | exact kk_lst | exact kk_bl | exact kk_non | assumption | decide) only [sFrz, sSeq, sSet, sSetO, sIf, sRet, sRetO, sRetN, sFor, sApp, sNil, sDrop, sAsg, eT, eOp, eC, eL, oLst, eTup, eUn, aCons, aNil, eFn, iE, eSl, pNo, pYes, asI, eV_d0, eV_o0, eV_s, R.bind_ok, R.map_ok, go_ok, asB_bl, kk_int, kk_str, kk_bl, kk_non, kk_tup, kk_lst, true_and, and_true, List.set_cons_succ, List.set_cons_zero, List.getElem?_cons_succ, List.getElem?_cons_zero, addD_int, subD_int, mulD_intL, mulD_intR, fdivD_int, modD_int, ltD_int, leD_int, gtD_int, geD_int, eqD_int, neD_int, eqD_bl, neD_bl, isD_non, notIsD_non, intD_int, negD_int, maxD_int, minD_int, lenD_lst, lenD_bor, lenD_tup, List.length_map, okLen0, okLen1, okLen2, okLen3, okLen4, okLen5, okLen6, okLen7, if_true, eAnd, eOr, eNot, eIf, eAndV, eOrV, eNotV, eChain, ifBl_bl, isN_non, isN_int, isN_bl, isN_str, isN_tup, isN_lst, Bool.not_true, Bool.not_false, Bool.false_eq_true, if_false, rvD, notInD_bls, map_snd1, map_snd2, notInD_tupS, cont hl, decide_eq_false c2, decide_eq_false c4, c3]
      refine hnx _ ⟨.d (.int (i : Nat)), .d (.int (depT t i)), .d (.str (labT t i)), ?_⟩
      rw [if_neg (by omega), Nat.add_sub_cancel]
  · rw [if_neg hc] at hf
    exact absurd rfl hf
theorem call_look_tree {t : Tree} (h : OkTree t) : callR m_look_tree [.lst (t.map Enc.enc)] = .ok .non := callR_m1 mo_look_tree t (rv := .d .non) (if_pos h) rfl
def f_look_part (t : Tree) (i : Int) : R RV := if OkTree t ∧ 0 ≤ i ∧ i < t.length then .ok (.d .non) else .stuck
noncomputable def m_look_part : List D → R RV := runF 2 2 (rSeq (rDrop (eCall m_look_tree (aCons (eV 0) aNil))) (rIf (eNot (eT (eChain leD ltD (eC (.int 0)) (eV 1) (eFn lenD (aCons (eV 0) aNil))))) rDead rNil))
theorem mo_look_part : ∀ a b, f_look_part a b ≠ .stuck → m_look_part [Enc.enc a, Enc.enc b] = f_look_part a b := by
  refine mo2 rfl ?_
  simp only [td_nil, td_seq, td_brk, td_cnt, td_dead, td_retN, td_drop, td_ret, td_retO, td_retV, td_if, td_asg, td_set, td_setO, td_frz, td_app, td_put, td_aug, td_for, td_while, td_thru, td_set2, td_par]
  intro t i hf
  unfold f_look_part at hf ⊢
  by_cases hc : OkTree t ∧ 0 ≤ i ∧ i < t.length
  · rw [if_pos hc]
    show sSeq _ _ (endsOf _) [Sl.d (.lst (t.map Enc.enc)), .d (.int i)]
    simp (disch := first | omega | exact kk_int | exact kk_str | exact kk_tup | exact kk_lst | exact kk_bl | exact kk_non | assumption | decide) only [sFrz, sSeq, sSet, sSetO, sIf, sRet, sRetO, sRetN, sFor, sApp, sNil, sDrop, sAsg, eT, eOp, eC, eL, oLst, eTup, eUn, aCons, aNil, eFn, iE, eSl, pNo, pYes, asI, eV_d0, eV_o0, eV_s, R.bind_ok, R.map_ok, go_ok, asB_bl, kk_int, kk_str, kk_bl, kk_non, kk_tup, kk_lst, true_and, and_true, List.set_cons_succ, List.set_cons_zero, List.getElem?_cons_succ, List.getElem?_cons_zero, addD_int, subD_int, mulD_intL, mulD_intR, fdivD_int, modD_int, ltD_int, leD_int, gtD_int, geD_int, eqD_int, neD_int, eqD_bl, neD_bl, isD_non, notIsD_non, intD_int, negD_int, maxD_int, minD_int, lenD_lst, lenD_bor, lenD_tup, List.length_map, okLen0, okLen1, okLen2, okLen3, okLen4, okLen5, okLen6, okLen7, if_true, eAnd, eOr, eNot, eIf, eAndV, eOrV, eNotV, eChain, ifBl_bl, isN_non, isN_int, isN_bl, isN_str, isN_tup, isN_lst, Bool.not_true, Bool.not_false, Bool.false_eq_true, if_false, rvD, notInD_bls, map_snd1, map_snd2, eCall, call_look_tree hc.1, decide_eq_true hc.2.1, decide_eq_true hc.2.2]
    rfl
  · rw [if_neg hc] at hf
    exact absurd rfl hf

end Lw
set_option maxRecDepth 100000
set_option maxHeartbeats 4000000
namespace Lw
open PySem L2 DL
/-! parents, elders, by walking up -/
def parentW (t : Tree) (d : Int) : Nat → Option Nat
  | 0 => none
  | n + 1 => if depT t n < d then some n else parentW t d n
def elderW (t : Tree) (d : Int) : Nat → Option Nat
  | 0 => none
  | n + 1 => if depT t n < d then none else if depT t n = d then some n else elderW t d n
theorem parentW_s {t : Tree} {d : Int} {n : Nat} : parentW t d (n + 1) = if depT t n < d then some n else parentW t d n := rfl
theorem elderW_s {t : Tree} {d : Int} {n : Nat} : elderW t d (n + 1) = if depT t n < d then none else if depT t n = d then some n else elderW t d n := rfl
def optI : Option Nat → D
  | none => .non
  | some n => .int (n : Nat)
theorem parentW_lt {t : Tree} {d : Int} : ∀ {n k}, parentW t d n = some k → k < n
  | 0, k, h => by cases h
  | n + 1, k, h => by
    unfold parentW at h
    split at h
    · cases h; omega
    · have := parentW_lt h; omega
theorem elderW_lt {t : Tree} {d : Int} : ∀ {n k}, elderW t d n = some k → k < n
  | 0, k, h => by cases h
  | n + 1, k, h => by
    unfold elderW at h
    split at h
    · cases h
    · split at h
      · cases h; omega
      · have := elderW_lt h; omega
def f_parent_in (t : Tree) (i : Int) : R RV := if 0 ≤ i ∧ i < t.length ∧ t.length ≤ 1000000 then .ok (.d (optI (parentW t (depT t i.toNat) i.toNat))) else .stuck
def f_elder_in (t : Tree) (i : Int) : R RV := if 0 ≤ i ∧ i < t.length ∧ t.length ≤ 1000000 then .ok (.d (optI (elderW t (depT t i.toNat) i.toNat))) else .stuck
noncomputable def m_parent_in : List D → R RV := runF 2 3 (rSeq (rFor (iR3 (aCons (eOp subD (eV 1) (eC (.int 1))) (aCons (eUn negD (eC (.int 1))) (aCons (eUn negD (eC (.int 1))) aNil)))) (gV 2) (rIf (eT (eOp ltD (eOp ixD (eOp ixD (eV 0) (eV 2)) (eC (.int 0))) (eOp ixD (eOp ixD (eV 0) (eV 1)) (eC (.int 0))))) (rRet (eV 2)) rNil)) (rRet (eC .non)))
theorem mo_parent_in : ∀ a b, f_parent_in a b ≠ .stuck → m_parent_in [Enc.enc a, Enc.enc b] = f_parent_in a b := by
  refine mo2 rfl ?_
  simp only [td_nil, td_seq, td_brk, td_cnt, td_dead, td_retN, td_drop, td_ret, td_retO, td_retV, td_if, td_asg, td_set, td_setO, td_frz, td_app, td_put, td_aug, td_for, td_while, td_thru, td_set2, td_par]
  intro t i hf
  unfold f_parent_in at hf ⊢
  by_cases hc : 0 ≤ i ∧ i < t.length ∧ t.length ≤ 1000000
  · rw [if_pos hc]
    obtain ⟨h1, h2, h3⟩ := hc
    show sSeq _ _ (endsOf _) [Sl.d (.lst (t.map Enc.enc)), .d (.int i), .un]
    have e : (i - 1 - -1).toNat = i.toNat := by omega
    simp (disch := first | omega | exact kk_int | exact kk_str | exact kk_tup | exact kk_lst | exact kk_bl | exact kk_non | assumption | decide) only [sFrz, sSeq, sSet, sSetO, sIf, sRet, sRetO, sRetN, sFor, sApp, sNil, sDrop, sAsg, eT, eOp, eC, eL, oLst, eTup, eUn, aCons, aNil, eFn, iE, eSl, pNo, pYes, asI, eV_d0, eV_o0, eV_s, R.bind_ok, R.map_ok, go_ok, asB_bl, kk_int, kk_str, kk_bl, kk_non, kk_tup, kk_lst, true_and, and_true, List.set_cons_succ, List.set_cons_zero, List.getElem?_cons_succ, List.getElem?_cons_zero, addD_int, subD_int, mulD_intL, mulD_intR, fdivD_int, modD_int, ltD_int, leD_int, gtD_int, geD_int, eqD_int, neD_int, eqD_bl, neD_bl, isD_non, notIsD_non, intD_int, negD_int, maxD_int, minD_int, lenD_lst, lenD_bor, lenD_tup, List.length_map, okLen0, okLen1, okLen2, okLen3, okLen4, okLen5, okLen6, okLen7, if_true, eAnd, eOr, eNot, eIf, eAndV, eOrV, eNotV, eChain, ifBl_bl, isN_non, isN_int, isN_bl, isN_str, isN_tup, isN_lst, Bool.not_true, Bool.not_false, Bool.false_eq_true, if_false, rvD, notInD_bls, map_snd1, map_snd2, iR3, (big62_of (i := i - 1) (by omega) (by omega)), (show big62 (-1) from big62_of (by decide) (by decide)), and_self, e]
    refine loop_down (lo := i - 1) (n := i.toNat) (fun m ρ => ∃ a, ρ = [.d (.lst (t.map Enc.enc)), .d (.int i), a] ∧ parentW t (depT t i.toNat) i.toNat = parentW t (depT t i.toNat) (i.toNat - m)) ?_ ?_ ⟨.un, rfl, rfl⟩
    · rintro _ ⟨a, rfl, h⟩
      rw [Nat.sub_self] at h
      rw [h]
      simp (disch := first | omega | exact kk_int | exact kk_str | exact kk_tup | exact kk_lst | exact kk_bl | exact kk_non | assumption | decide) only [sFrz, sSeq, sSet, sSetO, sIf, sRet, sRetO, sRetN, sFor, sApp, sNil, sDrop, sAsg, eT, eOp, eC, eL, oLst, eTup, eUn, aCons, aNil, eFn, iE, eSl, pNo, pYes, asI, eV_d0, eV_o0, eV_s, R.bind_ok, R.map_ok, go_ok, asB_bl, kk_int, kk_str, kk_bl, kk_non, kk_tup, kk_lst, true_and, and_true, List.set_cons_succ, List.set_cons_zero, List.getElem?_cons_succ, List.getElem?_cons_zero, addD_int, subD_int, mulD_intL, mulD_intR, fdivD_int, modD_int, ltD_int, leD_int, gtD_int, geD_int, eqD_int, neD_int, eqD_bl, neD_bl, isD_non, notIsD_non, intD_int, negD_int, maxD_int, minD_int, lenD_lst, lenD_bor, lenD_tup, List.length_map, okLen0, okLen1, okLen2, okLen3, okLen4, okLen5, okLen6, okLen7, if_true, eAnd, eOr, eNot, eIf, eAndV, eOrV, eNotV, eChain, ifBl_bl, isN_non, isN_int, isN_bl, isN_str, isN_tup, isN_lst, Bool.not_true, Bool.not_false, Bool.false_eq_true, if_false, rvD, notInD_bls, map_snd1, map_snd2, endsOf, parentW, optI]
    · rintro m _ nx hm ⟨a, rfl, h⟩ hnx
      refine ⟨_, rfl, ?_⟩
      obtain ⟨q, hq⟩ : ∃ q, i.toNat - m = q + 1 := ⟨i.toNat - m - 1, by omega⟩
      have eq : i - 1 - (m : Int) = (q : Nat) := by omega
      rw [hq] at h
      rw [eq]
      simp (disch := first | omega | exact kk_int | exact kk_str | exact kk_tup | exact kk_lst | exact kk_bl | exact kk_non | assumption | decide) only [sFrz, sSeq, sSet, sSetO, sIf, sRet, sRetO, sRetN, sFor, sApp, sNil, sDrop, sAsg, eT, eOp, eC, eL, oLst, eTup, eUn, aCons, aNil, eFn, iE, eSl, pNo, pYes, asI, eV_d0, eV_o0, eV_s, R.bind_ok, R.map_ok, go_ok, asB_bl, kk_int, kk_str, kk_bl, kk_non, kk_tup, kk_lst, true_and, and_true, List.set_cons_succ, List.set_cons_zero, List.getElem?_cons_succ, List.getElem?_cons_zero, addD_int, subD_int, mulD_intL, mulD_intR, fdivD_int, modD_int, ltD_int, leD_int, gtD_int, geD_int, eqD_int, neD_int, eqD_bl, neD_bl, isD_non, notIsD_non, intD_int, negD_int, maxD_int, minD_int, lenD_lst, lenD_bor, lenD_tup, List.length_map, okLen0, okLen1, okLen2, okLen3, okLen4, okLen5, okLen6, okLen7, if_true, eAnd, eOr, eNot, eIf, eAndV, eOrV, eNotV, eChain, ifBl_bl, isN_non, isN_int, isN_bl, isN_str, isN_tup, isN_lst, Bool.not_true, Bool.not_false, Bool.false_eq_true, if_false, rvD, notInD_bls, map_snd1, map_snd2, tree_ix t, Int.toNat_natCast, pair_0]
      by_cases hl : depT t q < depT t i.toNat
      · rw [if_pos (decide_eq_true hl)]
        rw [parentW_s, if_pos hl] at h
        simp (disch := first | omega | exact kk_int | exact kk_str | exact kk_tup | exact kk_lst | exact kk_bl | exact kk_non | assumption | decide) only [endsOf, h, optI]
      · rw [if_neg (by simpa using hl)]
        refine hnx _ ⟨_, rfl, ?_⟩
        rw [h, parentW_s, if_neg hl]
        congr 1; omega
  · rw [if_neg hc] at hf
    exact absurd rfl hf
noncomputable def m_elder_in : List D → R RV := runF 2 3 (rSeq (rFor (iR3 (aCons (eOp subD (eV 1) (eC (.int 1))) (aCons (eUn negD (eC (.int 1))) (aCons (eUn negD (eC (.int 1))) aNil)))) (gV 2) (rSeq (rIf (eT (eOp ltD (eOp ixD (eOp ixD (eV 0) (eV 2)) (eC (.int 0))) (eOp ixD (eOp ixD (eV 0) (eV 1)) (eC (.int 0))))) (rRet (eC .non)) rNil) (rIf (eT (eOp eqD (eOp ixD (eOp ixD (eV 0) (eV 2)) (eC (.int 0))) (eOp ixD (eOp ixD (eV 0) (eV 1)) (eC (.int 0))))) (rRet (eV 2)) rNil))) (rRet (eC .non)))
theorem mo_elder_in : ∀ a b, f_elder_in a b ≠ .stuck → m_elder_in [Enc.enc a, Enc.enc b] = f_elder_in a b := by
  refine mo2 rfl ?_
  simp only [td_nil, td_seq, td_brk, td_cnt, td_dead, td_retN, td_drop, td_ret, td_retO, td_retV, td_if, td_asg, td_set, td_setO, td_frz, td_app, td_put, td_aug, td_for, td_while, td_thru, td_set2, td_par]
  intro t i hf
  unfold f_elder_in at hf ⊢
  by_cases hc : 0 ≤ i ∧ i < t.length ∧ t.length ≤ 1000000
  · rw [if_pos hc]
    obtain ⟨h1, h2, h3⟩ := hc
    show sSeq _ _ (endsOf _) [Sl.d (.lst (t.map Enc.enc)), .d (.int i), .un]
    have e : (i - 1 - -1).toNat = i.toNat := by omega
    simp (disch := first | omega | exact kk_int | exact kk_str | exact kk_tup | exact kk_lst | exact kk_bl | exact kk_non | assumption | decide) only [sFrz, sSeq, sSet, sSetO, sIf, sRet, sRetO, sRetN, sFor, sApp, sNil, sDrop, sAsg, eT, eOp, eC, eL, oLst, eTup, eUn, aCons, aNil, eFn, iE, eSl, pNo, pYes, asI, eV_d0, eV_o0, eV_s, R.bind_ok, R.map_ok, go_ok, asB_bl, kk_int, kk_str, kk_bl, kk_non, kk_tup, kk_lst, true_and, and_true, List.set_cons_succ, List.set_cons_zero, List.getElem?_cons_succ, List.getElem?_cons_zero, addD_int, subD_int, mulD_intL, mulD_intR, fdivD_int, modD_int, ltD_int, leD_int, gtD_int, geD_int, eqD_int, neD_int, eqD_bl, neD_bl, isD_non, notIsD_non, intD_int, negD_int, maxD_int, minD_int, lenD_lst, lenD_bor, lenD_tup, List.length_map, okLen0, okLen1, okLen2, okLen3, okLen4, okLen5, okLen6, okLen7, if_true, eAnd, eOr, eNot, eIf, eAndV, eOrV, eNotV, eChain, ifBl_bl, isN_non, isN_int, isN_bl, isN_str, isN_tup, isN_lst, Bool.not_true, Bool.not_false, Bool.false_eq_true, if_false, rvD, notInD_bls, map_snd1, map_snd2, iR3, (big62_of (i := i - 1) (by omega) (by omega)), (show big62 (-1) from big62_of (by decide) (by decide)), and_self, e]
    refine loop_down (lo := i - 1) (n := i.toNat) (fun m ρ => ∃ a, ρ = [.d (.lst (t.map Enc.enc)), .d (.int i), a] ∧ elderW t (depT t i.toNat) i.toNat = elderW t (depT t i.toNat) (i.toNat - m)) ?_ ?_ ⟨.un, rfl, rfl⟩
    · rintro _ ⟨a, rfl, h⟩
      rw [Nat.sub_self] at h
      rw [h]
      simp (disch := first | omega | exact kk_int | exact kk_str | exact kk_tup | exact kk_lst | exact kk_bl | exact kk_non | assumption | decide) only [sFrz, sSeq, sSet, sSetO, sIf, sRet, sRetO, sRetN, sFor, sApp, sNil, sDrop, sAsg, eT, eOp, eC, eL, oLst, eTup, eUn, aCons, aNil, eFn, iE, eSl, pNo, pYes, asI, eV_d0, eV_o0, eV_s, R.bind_ok, R.map_ok, go_ok, asB_bl, kk_int, kk_str, kk_bl, kk_non, kk_tup, kk_lst, true_and, and_true, List.set_cons_succ, List.set_cons_zero, List.getElem?_cons_succ, List.getElem?_cons_zero, addD_int, subD_int, mulD_intL, mulD_intR, fdivD_int, modD_int, ltD_int, leD_int, gtD_int, geD_int, eqD_int, neD_int, eqD_bl, neD_bl, isD_non, notIsD_non, intD_int, negD_int, maxD_int, minD_int, lenD_lst, lenD_bor, lenD_tup, List.length_map, okLen0, okLen1, okLen2, okLen3, okLen4, okLen5, okLen6, okLen7, if_true, eAnd, eOr, eNot, eIf, eAndV, eOrV, eNotV, eChain, ifBl_bl, isN_non, isN_int, isN_bl, isN_str, isN_tup, isN_lst, Bool.not_true, Bool.not_false, Bool.false_eq_true, if_false, rvD, notInD_bls, map_snd1, map_snd2, endsOf, elderW, optI]
    · rintro m _ nx hm ⟨a, rfl, h⟩ hnx
      refine ⟨_, rfl, ?_⟩
      obtain ⟨q, hq⟩ : ∃ q, i.toNat - m = q + 1 := ⟨i.toNat - m - 1, by omega⟩
      have eq : i - 1 - (m : Int) = (q : Nat) := by omega
      rw [hq] at h
      rw [eq]
      simp (disch := first | omega | exact kk_int | exact kk_str | exact kk_tup | exact kk_lst | exact kk_bl | exact kk_non | assumption | decide) only [sFrz, sSeq, sSet, sSetO, sIf, sRet, sRetO, sRetN, sFor, sApp, sNil, sDrop, sAsg, eT, eOp, eC, eL, oLst, eTup, eUn, aCons, aNil, eFn, iE, eSl, pNo, pYes, asI, eV_d0, eV_o0, eV_s, R.bind_ok, R.map_ok, go_ok, asB_bl, kk_int, kk_str, kk_bl, kk_non, kk_tup, kk_lst, true_and, and_true, List.set_cons_succ, List.set_cons_zero, List.getElem?_cons_succ, List.getElem?_cons_zero, addD_int, subD_int, mulD_intL, mulD_intR, fdivD_int, modD_int, ltD_int, leD_int, gtD_int, geD_int, eqD_int, neD_int, eqD_bl, neD_bl, isD_non, notIsD_non, intD_int, negD_int, maxD_int, minD_int, lenD_lst, lenD_bor, lenD_tup, List.length_map, okLen0, okLen1, okLen2, okLen3, okLen4, okLen5, okLen6, okLen7, if_true, eAnd, eOr, eNot, eIf, eAndV, eOrV, eNotV, eChain, ifBl_bl, isN_non, isN_int, isN_bl, isN_str, isN_tup, isN_lst, Bool.not_true, Bool.not_false, Bool.false_eq_true, if_false, rvD, notInD_bls, map_snd1, map_snd2, tree_ix t, Int.toNat_natCast, pair_0]
      rw [elderW_s] at h
      by_cases hl : depT t q < depT t i.toNat
      · rw [if_pos (decide_eq_true hl)]
        rw [if_pos hl] at h
        simp (disch := first | omega | exact kk_int | exact kk_str | exact kk_tup | exact kk_lst | exact kk_bl | exact kk_non | assumption | decide) only [endsOf, h, optI]
      · rw [if_neg (by simpa using hl)]
        rw [if_neg hl] at h
        by_cases hl2 : depT t q = depT t i.toNat
        · rw [if_pos (by simpa using hl2)]
          rw [if_pos hl2] at h
          simp (disch := first | omega | exact kk_int | exact kk_str | exact kk_tup | exact kk_lst | exact kk_bl | exact kk_non | assumption | decide) only [endsOf, h, optI]
        · rw [if_neg (by simpa using hl2)]
          rw [if_neg hl2] at h
          refine hnx _ ⟨_, rfl, ?_⟩
          rw [h]
          congr 1; omega
  · rw [if_neg hc] at hf
    exact absurd rfl hf
theorem call_parent {t : Tree} {i : Int} (h : 0 ≤ i ∧ i < t.length ∧ t.length ≤ 1000000) : callR m_parent_in [.lst (t.map Enc.enc), .int i] = .ok (optI (parentW t (depT t i.toNat) i.toNat)) := callR_m2 mo_parent_in t i (rv := .d (optI (parentW t (depT t i.toNat) i.toNat))) (if_pos h) rfl rfl
theorem call_elder {t : Tree} {i : Int} (h : 0 ≤ i ∧ i < t.length ∧ t.length ≤ 1000000) : callR m_elder_in [.lst (t.map Enc.enc), .int i] = .ok (optI (elderW t (depT t i.toNat) i.toNat)) := callR_m2 mo_elder_in t i (rv := .d (optI (elderW t (depT t i.toNat) i.toNat))) (if_pos h) rfl rfl
theorem isN_optI {o : Option Nat} : isN (optI o) = o.isNone := by cases o <;> rfl
theorem kept_optI {o : Option Nat} : kept (optI o) = true := by cases o <;> rfl

end Lw
set_option maxRecDepth 100000
set_option maxHeartbeats 4000000
namespace Lw
open PySem L2 DL
/-! a step at a part -/
def fitsD (s : Step) (z : Str) (first : Bool) : Bool := (decide (s.k = "*") || decide (s.k = kindS z)) && (!s.f || first) && s.m.cps.toList.all fun c => inS ⟨#[c]⟩ (marksS z)
theorem fitsD_mk {j k m : Str} {f : Bool} {z : Str} {first : Bool} : fitsD ⟨j, k, m, f⟩ z first = ((decide (k = "*") || decide (k = kindS z)) && (!f || first) && m.cps.toList.all fun c => inS ⟨#[c]⟩ (marksS z)) := rfl
def f_fits (s : Step) (z : Str) (first : Bool) : R RV := if z ∈ labs ∧ s.k ∈ (["a", "b", "c", "*"] : List Str) ∧ s.m ∈ (["", "x", "y", "xy"] : List Str) then .ok (.d (.bl (fitsD s z first))) else .stuck
theorem kinds_ok : ∀ z ∈ (["a", "b", "c", "*"] : List Str), PyData.strOk z = true := by decide +kernel
theorem kinds_ok3 : ∀ z ∈ (["a", "b", "c"] : List Str), PyData.strOk z = true := by decide +kernel
theorem any_ok : PyData.strOk ("*" : Str) = true := by decide +kernel
theorem marks_len : ∀ z ∈ (["", "x", "y", "xy"] : List Str), z.cps.toList.length ≤ 2 := by decide +kernel
noncomputable def m_fits : List D → R RV := runF 3 8 (rSeq (rAsg (eV 0) (gT 4 (gC (gV 3) (gC (gV 4) (gC (gV 5) (gC (gV 6) gN)))))) (rSeq (rIf (eOr (eAnd (eT (eOp neD (eV 4) (eC d_ANY))) (eT (eOp neD (eV 4) (eCall m_kind_of (aCons (eV 1) aNil))))) (eAnd (eT (eV 6)) (eNot (eT (eV 2))))) (rRet (eC (.bl false))) rNil) (rRet (eFn allD (aCons (eL (oComp [7] (iEC (eV 5)) (gV 7) eYes (eOp inD (eV 7) (eCall m_marks_of (aCons (eV 1) aNil))))) aNil)))))
theorem mo_fits : ∀ a b c, f_fits a b c ≠ .stuck → m_fits [Enc.enc a, Enc.enc b, Enc.enc c] = f_fits a b c := by
  refine mo3 rfl ?_
  simp only [td_nil, td_seq, td_brk, td_cnt, td_dead, td_retN, td_drop, td_ret, td_retO, td_retV, td_if, td_asg, td_set, td_setO, td_frz, td_app, td_put, td_aug, td_for, td_while, td_thru, td_set2, td_par]
  rintro ⟨j, k, m, f⟩ z first hf
  unfold f_fits at hf ⊢
  by_cases hc : z ∈ labs ∧ k ∈ (["a", "b", "c", "*"] : List Str) ∧ m ∈ (["", "x", "y", "xy"] : List Str)
  · rw [if_pos hc]
    obtain ⟨h1, h2, h3⟩ := hc
    show sSeq _ _ (endsOf _) [Sl.d (.tup [.str j, .str k, .str m, .bl f]), .d (.str z), .d (.bl first), .un, .un, .un, .un, .un]
    refine ⟨rfl, _, rfl, ?_⟩
    have last : sRet (eFn allD (aCons (eL (oComp [7] (iEC (eV 5)) (gV 7) eYes (eOp inD (eV 7) (eCall m_marks_of (aCons (eV 1) aNil))))) aNil)) (endsOf (.ok (.d (.bl (m.cps.toList.all fun c => inS ⟨#[c]⟩ (marksS z)))))) [.d (.tup [.str j, .str k, .str m, .bl f]), .d (.str z), .d (.bl first), .d (.str j), .d (.str k), .d (.str m), .d (.bl f), .un] := by
      have e : oComp [7] (iEC (eV 5)) (gV 7) eYes (eOp inD (eV 7) (eCall m_marks_of (aCons (eV 1) aNil))) [.d (.tup [.str j, .str k, .str m, .bl f]), .d (.str z), .d (.bl first), .d (.str j), .d (.str k), .d (.str m), .d (.bl f), .un] = .ok (m.cps.toList.map fun c => D.bl (inS ⟨#[c]⟩ (marksS z))) := by
        have hl := marks_len m h3
        refine oComp_ok (ds := signs m) rfl (by rw [signs_map, List.length_map]; omega) ?_
        rw [signs_map]
        refine compD_all (fun c => D.bl (inS ⟨#[c]⟩ (marksS z))) fun c _ => ⟨_, rfl, ?_, rfl⟩
        simp (disch := first | omega | exact kk_int | exact kk_str | exact kk_tup | exact kk_lst | exact kk_bl | exact kk_non | assumption | decide) only [sFrz, sSeq, sSet, sSetO, sIf, sRet, sRetO, sRetN, sFor, sApp, sNil, sDrop, sAsg, eT, eOp, eC, eL, oLst, eTup, eUn, aCons, aNil, eFn, iE, eSl, pNo, pYes, asI, eV_d0, eV_o0, eV_s, R.bind_ok, R.map_ok, go_ok, asB_bl, kk_int, kk_str, kk_bl, kk_non, kk_tup, kk_lst, true_and, and_true, List.set_cons_succ, List.set_cons_zero, List.getElem?_cons_succ, List.getElem?_cons_zero, addD_int, subD_int, mulD_intL, mulD_intR, fdivD_int, modD_int, ltD_int, leD_int, gtD_int, geD_int, eqD_int, neD_int, eqD_bl, neD_bl, isD_non, notIsD_non, intD_int, negD_int, maxD_int, minD_int, lenD_lst, lenD_bor, lenD_tup, List.length_map, okLen0, okLen1, okLen2, okLen3, okLen4, okLen5, okLen6, okLen7, if_true, eAnd, eOr, eNot, eIf, eAndV, eOrV, eNotV, eChain, ifBl_bl, isN_non, isN_int, isN_bl, isN_str, isN_tup, isN_lst, Bool.not_true, Bool.not_false, Bool.false_eq_true, if_false, rvD, notInD_bls, map_snd1, map_snd2, wipeD, eCall, call_marks h1, inD_str]
      simp (disch := first | omega | exact kk_int | exact kk_str | exact kk_tup | exact kk_lst | exact kk_bl | exact kk_non | assumption | decide) only [sFrz, sSeq, sSet, sSetO, sIf, sRet, sRetO, sRetN, sFor, sApp, sNil, sDrop, sAsg, eT, eOp, eC, eL, oLst, eTup, eUn, aCons, aNil, eFn, iE, eSl, pNo, pYes, asI, eV_d0, eV_o0, eV_s, R.bind_ok, R.map_ok, go_ok, asB_bl, kk_int, kk_str, kk_bl, kk_non, kk_tup, kk_lst, true_and, and_true, List.set_cons_succ, List.set_cons_zero, List.getElem?_cons_succ, List.getElem?_cons_zero, addD_int, subD_int, mulD_intL, mulD_intR, fdivD_int, modD_int, ltD_int, leD_int, gtD_int, geD_int, eqD_int, neD_int, eqD_bl, neD_bl, isD_non, notIsD_non, intD_int, negD_int, maxD_int, minD_int, lenD_lst, lenD_bor, lenD_tup, List.length_map, okLen0, okLen1, okLen2, okLen3, okLen4, okLen5, okLen6, okLen7, if_true, eAnd, eOr, eNot, eIf, eAndV, eOrV, eNotV, eChain, ifBl_bl, isN_non, isN_int, isN_bl, isN_str, isN_tup, isN_lst, Bool.not_true, Bool.not_false, Bool.false_eq_true, if_false, rvD, notInD_bls, map_snd1, map_snd2, e, allD_map, endsOf]
    have w := labs_kind z h1
    simp (disch := first | omega | exact kk_int | exact kk_str | exact kk_tup | exact kk_lst | exact kk_bl | exact kk_non | assumption | decide) only [sFrz, sSeq, sSet, sSetO, sIf, sRet, sRetO, sRetN, sFor, sApp, sNil, sDrop, sAsg, eT, eOp, eC, eL, oLst, eTup, eUn, aCons, aNil, eFn, iE, eSl, pNo, pYes, asI, eV_d0, eV_o0, eV_s, R.bind_ok, R.map_ok, go_ok, asB_bl, kk_int, kk_str, kk_bl, kk_non, kk_tup, kk_lst, true_and, and_true, List.set_cons_succ, List.set_cons_zero, List.getElem?_cons_succ, List.getElem?_cons_zero, addD_int, subD_int, mulD_intL, mulD_intR, fdivD_int, modD_int, ltD_int, leD_int, gtD_int, geD_int, eqD_int, neD_int, eqD_bl, neD_bl, isD_non, notIsD_non, intD_int, negD_int, maxD_int, minD_int, lenD_lst, lenD_bor, lenD_tup, List.length_map, okLen0, okLen1, okLen2, okLen3, okLen4, okLen5, okLen6, okLen7, if_true, eAnd, eOr, eNot, eIf, eAndV, eOrV, eNotV, eChain, ifBl_bl, isN_non, isN_int, isN_bl, isN_str, isN_tup, isN_lst, Bool.not_true, Bool.not_false, Bool.false_eq_true, if_false, rvD, notInD_bls, map_snd1, map_snd2, eCall, call_kind h1, neD_str (kinds_ok k h2) any_ok, neD_str (kinds_ok k h2) (kinds_ok3 _ w)]
    rw [fitsD_mk]
    generalize decide (k = "*") = b1
    generalize decide (k = kindS z) = b2
    cases b1 <;> cases b2 <;> cases f <;> cases first <;> first | exact last | exact ⟨rfl, rfl⟩ | rfl
  · rw [if_neg hc] at hf
    exact absurd rfl hf
theorem call_fits {s : Step} {z : Str} {first : Bool} (h1 : z ∈ labs) (h2 : s.k ∈ (["a", "b", "c", "*"] : List Str)) (h3 : s.m ∈ (["", "x", "y", "xy"] : List Str)) : callR m_fits [Enc.enc s, .str z, .bl first] = .ok (.bl (fitsD s z first)) := callR_m3 mo_fits s z first (rv := .d (.bl (fitsD s z first))) (if_pos ⟨h1, h2, h3⟩) rfl rfl rfl

end Lw
set_option maxRecDepth 100000
set_option maxHeartbeats 4000000
namespace Lw
open PySem L2 DL
/-! a whole selector at a part -/
def nearD (t : Tree) (j : Str) (i : Nat) : Option Nat := if j = " " ∨ j = ">" then parentW t (depT t i) i else elderW t (depT t i) i
theorem nearD_lt {t : Tree} {j : Str} {i k : Nat} (h : nearD t j i = some k) : k < i := by
  unfold nearD at h
  split at h
  · exact parentW_lt h
  · exact elderW_lt h
def f_nearest (t : Tree) (i : Int) (j : Str) : R RV := if 0 ≤ i ∧ i < t.length ∧ t.length ≤ 1000000 then .ok (.d (optI (nearD t j i.toNat))) else .stuck
theorem pair_contains {j a b : Str} : ([a, b] : List Str).contains j = decide (j = a ∨ j = b) := by
  by_cases h : j = a <;> by_cases h' : j = b <;> simp [h, h']
noncomputable def m_nearest : List D → R RV := runF 3 3 (rSeq (rIf (eT (eOp inD (eV 2) (eTup (aCons (eC (.str " ")) (aCons (eC (.str ">")) aNil))))) (rRet (eCall m_parent_in (aCons (eV 0) (aCons (eV 1) aNil)))) rNil) (rRet (eCall m_elder_in (aCons (eV 0) (aCons (eV 1) aNil)))))
theorem mo_nearest : ∀ a b c, f_nearest a b c ≠ .stuck → m_nearest [Enc.enc a, Enc.enc b, Enc.enc c] = f_nearest a b c := by
  refine mo3 rfl ?_
  simp only [td_nil, td_seq, td_brk, td_cnt, td_dead, td_retN, td_drop, td_ret, td_retO, td_retV, td_if, td_asg, td_set, td_setO, td_frz, td_app, td_put, td_aug, td_for, td_while, td_thru, td_set2, td_par]
  intro t i j hf
  unfold f_nearest at hf ⊢
  by_cases hc : 0 ≤ i ∧ i < t.length ∧ t.length ≤ 1000000
  · rw [if_pos hc]
    show sSeq _ _ (endsOf _) [Sl.d (.lst (t.map Enc.enc)), .d (.int i), .d (.str j)]
    have e : inD (.str j) (.tup [.str " ", .str ">"]) = .ok (.bl (decide (j = " " ∨ j = ">"))) := by
      rw [← pair_contains]; exact inD_tupS (zs := [" ", ">"])
    simp (disch := first | omega | exact kk_int | exact kk_str | exact kk_tup | exact kk_lst | exact kk_bl | exact kk_non | assumption | decide) only [sFrz, sSeq, sSet, sSetO, sIf, sRet, sRetO, sRetN, sFor, sApp, sNil, sDrop, sAsg, eT, eOp, eC, eL, oLst, eTup, eUn, aCons, aNil, eFn, iE, eSl, pNo, pYes, asI, eV_d0, eV_o0, eV_s, R.bind_ok, R.map_ok, go_ok, asB_bl, kk_int, kk_str, kk_bl, kk_non, kk_tup, kk_lst, true_and, and_true, List.set_cons_succ, List.set_cons_zero, List.getElem?_cons_succ, List.getElem?_cons_zero, addD_int, subD_int, mulD_intL, mulD_intR, fdivD_int, modD_int, ltD_int, leD_int, gtD_int, geD_int, eqD_int, neD_int, eqD_bl, neD_bl, isD_non, notIsD_non, intD_int, negD_int, maxD_int, minD_int, lenD_lst, lenD_bor, lenD_tup, List.length_map, okLen0, okLen1, okLen2, okLen3, okLen4, okLen5, okLen6, okLen7, if_true, eAnd, eOr, eNot, eIf, eAndV, eOrV, eNotV, eChain, ifBl_bl, isN_non, isN_int, isN_bl, isN_str, isN_tup, isN_lst, Bool.not_true, Bool.not_false, Bool.false_eq_true, if_false, rvD, notInD_bls, map_snd1, map_snd2, e, eCall, call_parent hc, call_elder hc, decide_eq_true_eq]
    unfold nearD
    by_cases hj : j = " " ∨ j = ">"
    · rw [if_pos hj, if_pos hj]; exact ⟨kept_optI, rfl⟩
    · rw [if_neg hj, if_neg hj]; exact ⟨kept_optI, rfl⟩
  · rw [if_neg hc] at hf
    exact absurd rfl hf
theorem call_near {t : Tree} {i : Int} {j : Str} (h : 0 ≤ i ∧ i < t.length ∧ t.length ≤ 1000000) : callR m_nearest [.lst (t.map Enc.enc), .int i, .str j] = .ok (optI (nearD t j i.toNat)) := callR_m3 mo_nearest t i j (rv := .d (optI (nearD t j i.toNat))) (if_pos h) rfl rfl rfl
/-- all places that a joint leads to -/
def candsF (t : Tree) (j : Str) : Nat → Option Nat → List Nat
  | 0, _ => []
  | _ + 1, none => []
  | n + 1, some h => h :: (if j = " " ∨ j = "~" then candsF t j n (nearD t j h) else [])
def metN : Nat → List Step → Tree → Nat → Bool
  | 0, _, _, _ => false
  | n + 1, ss, t, i => match ss.getLast? with
    | none => false
    | some s => fitsD s (labT t i) (elderW t (depT t i) i).isNone && (ss.dropLast.isEmpty || (candsF t s.j i (nearD t s.j i)).any fun h => metN n ss.dropLast t h)
theorem joint_ok : ∀ z ∈ (["", " ", ">", "+", "~"] : List Str), PyData.strOk z = true := by decide +kernel
theorem mark_ok : ∀ z ∈ (["", "x", "y", "xy"] : List Str), PyData.strOk z = true := by decide +kernel
def GoodSel (ss : List Step) : Prop := (ss ≠ [] ∧ ss.length ≤ 1000) ∧ ∀ s ∈ ss, s.k ∈ (["a", "b", "c", "*"] : List Str) ∧ s.m ∈ (["", "x", "y", "xy"] : List Str) ∧ PyData.strOk s.j = true
instance (ss : List Step) : Decidable (GoodSel ss) := inferInstanceAs (Decidable (_ ∧ _))
theorem OkSel.good {ss : List Step} (h : OkSel ss) : GoodSel ss := by
  cases ss with
  | nil => exact absurd h.ne (by decide)
  | cons s ss =>
    refine ⟨⟨by simp, Nat.le_trans h.le (by decide)⟩, fun x hx => ?_⟩
    rcases List.mem_cons.mp hx with rfl | hx
    · exact ⟨(h.hd _ rfl).k, (h.hd _ rfl).m, by rw [List.mem_singleton.mp (h.hd _ rfl).j]; decide +kernel⟩
    · exact ⟨(h.tl x hx).k, (h.tl x hx).m, joint_ok _ (List.mem_cons_of_mem _ (h.tl x hx).j)⟩
def f_met_in (n : Nat) (ss : Tup Step) (t : Tree) (i : Int) : R RV := if GoodSel ss.l ∧ ss.l.length ≤ n ∧ OkTree t ∧ 0 ≤ i ∧ i < t.length then .ok (.d (.bl (metN n ss.l t i.toNat))) else .stuck
noncomputable def m_met_in_b (m : List D → R RV) : List D → R RV := runF 3 9 (rSeq (rAsg (eV 0) (gS 0 2 (gC (gV 3) (gC (gT 4 (gC (gV 4) (gC (gV 5) (gC (gV 6) (gC (gV 7) gN))))) gN)))) (rSeq (rIf (eNot (eT (eCall m_fits (aCons (eOp ixD (eV 0) (eUn negD (eC (.int 1)))) (aCons (eOp ixD (eOp ixD (eV 1) (eV 2)) (eC (.int 1))) (aCons (eOp isD (eCall m_elder_in (aCons (eV 1) (aCons (eV 2) aNil))) (eC .non)) aNil)))))) (rRet (eC (.bl false))) rNil) (rSeq (rIf (eT (eOp eqD (eV 3) (eL (oLst aNil)))) (rRet (eC (.bl true))) rNil) (rSeq (rSet 8 (eCall m_nearest (aCons (eV 1) (aCons (eV 2) (aCons (eV 4) aNil))))) (rSeq (rWhile (eT (eOp notIsD (eV 8) (eC .non))) (rSeq (rIf (eT (eCall m (aCons (eFn tupleD (aCons (eV 3) aNil)) (aCons (eV 1) (aCons (eV 8) aNil))))) (rRet (eC (.bl true))) rNil) (rSet 8 (eIf (eT (eOp inD (eV 4) (eTup (aCons (eC (.str " ")) (aCons (eC (.str "~")) aNil))))) (eCall m_nearest (aCons (eV 1) (aCons (eV 8) (aCons (eV 4) aNil)))) (eC .non))))) (rRet (eC (.bl false))))))))
noncomputable def m_met_in : Nat → List D → R RV
  | 0 => fun _ => .stuck
  | n + 1 => m_met_in_b (m_met_in n)
theorem call_met_of {n : Nat} (mo : ∀ ss t i, f_met_in n ss t i ≠ .stuck → m_met_in n [Enc.enc ss, Enc.enc t, Enc.enc i] = f_met_in n ss t i) {ss : List Step} {t : Tree} {i : Int} (h : GoodSel ss ∧ ss.length ≤ n ∧ OkTree t ∧ 0 ≤ i ∧ i < t.length) : callR (m_met_in n) [.tup (ss.map Enc.enc), .lst (t.map Enc.enc), .int i] = .ok (.bl (metN n ss t i.toNat)) := callR_m3 mo (⟨ss⟩ : Tup Step) t i (rv := .d (.bl (metN n ss t i.toNat))) (if_pos h) rfl rfl rfl
theorem mo_met_in : ∀ n ss t i, f_met_in n ss t i ≠ .stuck → m_met_in n [Enc.enc ss, Enc.enc t, Enc.enc i] = f_met_in n ss t i
 | 0, ss, t, i => fun h => absurd (if_neg fun q => q.1.1.1 (List.length_eq_zero_iff.mp (Nat.le_zero.mp q.2.1))) h
 | n + 1, ss, t, i => by
  have mo := mo_met_in n
  revert ss t i
  refine mo3 (m := m_met_in (n + 1)) rfl ?_
  simp only [td_nil, td_seq, td_brk, td_cnt, td_dead, td_retN, td_drop, td_ret, td_retO, td_retV, td_if, td_asg, td_set, td_setO, td_frz, td_app, td_put, td_aug, td_for, td_while, td_thru, td_set2, td_par]
  rintro ⟨ss⟩ t i hf
  have ef : f_met_in (n + 1) ⟨ss⟩ t i = if GoodSel ss ∧ ss.length ≤ n + 1 ∧ OkTree t ∧ 0 ≤ i ∧ i < t.length then .ok (.d (.bl (metN (n + 1) ss t i.toNat))) else .stuck := rfl
  rw [ef] at hf ⊢
  by_cases hc : GoodSel ss ∧ ss.length ≤ n + 1 ∧ OkTree t ∧ 0 ≤ i ∧ i < t.length
  · rw [if_pos hc]
    obtain ⟨g, hn, ok, h1, h2⟩ := hc
    have h60 := ok.le
    obtain ⟨ah, s, rfl⟩ : ∃ ah s, ss = ah ++ [s] := ⟨ss.dropLast, ss.getLast g.1.1, (List.dropLast_concat_getLast g.1.1).symm⟩
    obtain ⟨q, rfl⟩ : ∃ q : Nat, i = q := ⟨i.toNat, by omega⟩
    have gs := g.2 s (by simp)
    have hl : ah.length ≤ n := by rw [List.length_append] at hn; exact Nat.le_of_succ_le_succ hn
    show sSeq _ _ (endsOf _) [Sl.d (.tup ((ah ++ [s]).map Enc.enc)), .d (.lst (t.map Enc.enc)), .d (.int q), .un, .un, .un, .un, .un, .un]
    refine ⟨rfl, [.d (.tup ((ah ++ [s]).map Enc.enc)), .d (.lst (t.map Enc.enc)), .d (.int q), .d (.lst (ah.map Enc.enc)), .d (.str s.j), .d (.str s.k), .d (.str s.m), .d (.bl s.f), .un], ?_, ?_⟩
    · have hl60 : ah.length ≤ 16383 := by have := g.1.2; rw [List.length_append] at this; omega
      simp only [gS, starV, starM, List.length_map, List.length_append, List.length_cons, List.length_nil, List.map_append, List.map_cons, List.map_nil, List.take_zero, List.drop_zero, List.nil_append]
      rw [if_pos (by omega), show ah.length + (0 + 1) + 1 - 2 = (ah.map Enc.enc).length by rw [List.length_map]; omega, List.take_left, List.drop_left]
      rfl
    · have last : ixD (.tup ((ah ++ [s]).map Enc.enc)) (.int (-1)) = .ok (Enc.enc s) := by
        rw [ixD_tupN (by simp), List.getD_eq_getElem?_getD]; simp
      have ga : ∀ x ∈ ah, EncP.good x := fun x hx => by
        have := g.2 x (List.mem_append_left _ hx)
        exact ⟨this.2.2, kinds_ok _ this.1, mark_ok _ this.2.1⟩
      have nil : eqD (.lst (ah.map Enc.enc)) (.lst []) = .ok (.bl (decide (ah = []))) := eqD_enc (a := ah) (b := []) ga (by intro x hx; cases hx)
      have hel : 0 ≤ (q : Int) ∧ (q : Int) < t.length ∧ t.length ≤ 1000000 := ⟨h1, h2, by omega⟩
      have em : metN (n + 1) (ah ++ [s]) t q = (fitsD s (labT t q) (elderW t (depT t q) q).isNone && (ah.isEmpty || (candsF t s.j q (nearD t s.j q)).any fun h => metN n ah t h)) := by
        rw [metN, List.getLast?_concat, List.dropLast_concat]
      simp (disch := first | omega | exact kk_int | exact kk_str | exact kk_tup | exact kk_lst | exact kk_bl | exact kk_non | assumption | decide) only [sFrz, sSeq, sSet, sSetO, sIf, sRet, sRetO, sRetN, sFor, sApp, sNil, sDrop, sAsg, eT, eOp, eC, eL, oLst, eTup, eUn, aCons, aNil, eFn, iE, eSl, pNo, pYes, asI, eV_d0, eV_o0, eV_s, R.bind_ok, R.map_ok, go_ok, asB_bl, kk_int, kk_str, kk_bl, kk_non, kk_tup, kk_lst, true_and, and_true, List.set_cons_succ, List.set_cons_zero, List.getElem?_cons_succ, List.getElem?_cons_zero, addD_int, subD_int, mulD_intL, mulD_intR, fdivD_int, modD_int, ltD_int, leD_int, gtD_int, geD_int, eqD_int, neD_int, eqD_bl, neD_bl, isD_non, notIsD_non, intD_int, negD_int, maxD_int, minD_int, lenD_lst, lenD_bor, lenD_tup, List.length_map, okLen0, okLen1, okLen2, okLen3, okLen4, okLen5, okLen6, okLen7, if_true, eAnd, eOr, eNot, eIf, eAndV, eOrV, eNotV, eChain, ifBl_bl, isN_non, isN_int, isN_bl, isN_str, isN_tup, isN_lst, Bool.not_true, Bool.not_false, Bool.false_eq_true, if_false, rvD, notInD_bls, map_snd1, map_snd2, last, tree_ix t, Int.toNat_natCast, pair_1, eCall, call_elder hel, isN_optI, call_fits (ok.lab q (by omega)) gs.1 gs.2.1, nil, call_near hel]
      rw [em]
      generalize fitsD s (labT t q) (elderW t (depT t q) q).isNone = b1
      cases b1 with
      | false => exact rfl
      | true =>
        by_cases ha : ah = []
        · subst ha; exact rfl
        · have hae : ah.isEmpty = false := by simpa using ha
          rw [hae]
          simp only [Bool.not_true, Bool.false_eq_true, if_false, decide_eq_false ha, kept_optI, true_and, Bool.true_and, Bool.false_or]
          have inn : inD (.str s.j) (.tup [.str " ", .str "~"]) = .ok (.bl (decide (s.j = " " ∨ s.j = "~"))) := by
            rw [← pair_contains]; exact inD_tupS (zs := [" ", "~"])
          refine while_ind (fun m ρ => ∃ o : Option Nat, ρ = [.d (.tup ((ah ++ [s]).map Enc.enc)), .d (.lst (t.map Enc.enc)), .d (.int q), .d (.lst (ah.map Enc.enc)), .d (.str s.j), .d (.str s.k), .d (.str s.m), .d (.bl s.f), .d (optI o)] ∧ (∀ k, o = some k → k < m ∧ k < q) ∧ (candsF t s.j m o).any (fun h => metN n ah t h) = (candsF t s.j q (nearD t s.j q)).any fun h => metN n ah t h) ?_ (m := q) ⟨_, rfl, fun k e => ⟨nearD_lt e, nearD_lt e⟩, rfl⟩
          rintro m _ nx ⟨o, rfl, hb, hany⟩ hnx
          cases o with
          | none =>
            have h0 : candsF t s.j m none = [] := by cases m <;> rfl
            rw [h0] at hany
            simp (disch := first | omega | exact kk_int | exact kk_str | exact kk_tup | exact kk_lst | exact kk_bl | exact kk_non | assumption | decide) only [sFrz, sSeq, sSet, sSetO, sIf, sRet, sRetO, sRetN, sFor, sApp, sNil, sDrop, sAsg, eT, eOp, eC, eL, oLst, eTup, eUn, aCons, aNil, eFn, iE, eSl, pNo, pYes, asI, eV_d0, eV_o0, eV_s, R.bind_ok, R.map_ok, go_ok, asB_bl, kk_int, kk_str, kk_bl, kk_non, kk_tup, kk_lst, true_and, and_true, List.set_cons_succ, List.set_cons_zero, List.getElem?_cons_succ, List.getElem?_cons_zero, addD_int, subD_int, mulD_intL, mulD_intR, fdivD_int, modD_int, ltD_int, leD_int, gtD_int, geD_int, eqD_int, neD_int, eqD_bl, neD_bl, isD_non, notIsD_non, intD_int, negD_int, maxD_int, minD_int, lenD_lst, lenD_bor, lenD_tup, List.length_map, okLen0, okLen1, okLen2, okLen3, okLen4, okLen5, okLen6, okLen7, if_true, eAnd, eOr, eNot, eIf, eAndV, eOrV, eNotV, eChain, ifBl_bl, isN_non, isN_int, isN_bl, isN_str, isN_tup, isN_lst, Bool.not_true, Bool.not_false, Bool.false_eq_true, if_false, rvD, notInD_bls, map_snd1, map_snd2, isN_optI, Option.isNone, endsOf, ← hany, List.any_nil]
          | some k =>
            obtain ⟨hk, hkq⟩ := hb k rfl
            obtain ⟨m', rfl⟩ : ∃ m', m = m' + 1 := ⟨m - 1, by omega⟩
            have hck : 0 ≤ (k : Int) ∧ (k : Int) < t.length ∧ t.length ≤ 1000000 := ⟨by omega, by omega, by omega⟩
            have ga2 : GoodSel ah := ⟨⟨ha, by have := g.1.2; rw [List.length_append] at this; omega⟩, fun x hx => g.2 x (List.mem_append_left _ hx)⟩
            have cm := call_met_of mo (ss := ah) (t := t) (i := (k : Int)) ⟨ga2, hl, ok, hck.1, hck.2.1⟩
            rw [candsF, List.any_cons] at hany
            have tp : tupleD [.lst (ah.map Enc.enc)] = .ok (.tup (ah.map Enc.enc)) := rfl
            simp (disch := first | omega | exact kk_int | exact kk_str | exact kk_tup | exact kk_lst | exact kk_bl | exact kk_non | assumption | decide) only [sFrz, sSeq, sSet, sSetO, sIf, sRet, sRetO, sRetN, sFor, sApp, sNil, sDrop, sAsg, eT, eOp, eC, eL, oLst, eTup, eUn, aCons, aNil, eFn, iE, eSl, pNo, pYes, asI, eV_d0, eV_o0, eV_s, R.bind_ok, R.map_ok, go_ok, asB_bl, kk_int, kk_str, kk_bl, kk_non, kk_tup, kk_lst, true_and, and_true, List.set_cons_succ, List.set_cons_zero, List.getElem?_cons_succ, List.getElem?_cons_zero, addD_int, subD_int, mulD_intL, mulD_intR, fdivD_int, modD_int, ltD_int, leD_int, gtD_int, geD_int, eqD_int, neD_int, eqD_bl, neD_bl, isD_non, notIsD_non, intD_int, negD_int, maxD_int, minD_int, lenD_lst, lenD_bor, lenD_tup, List.length_map, okLen0, okLen1, okLen2, okLen3, okLen4, okLen5, okLen6, okLen7, if_true, eAnd, eOr, eNot, eIf, eAndV, eOrV, eNotV, eChain, ifBl_bl, isN_non, isN_int, isN_bl, isN_str, isN_tup, isN_lst, Bool.not_true, Bool.not_false, Bool.false_eq_true, if_false, rvD, notInD_bls, map_snd1, map_snd2, isN_optI, Option.isNone, endsOf, optI, eCall, tp, cm, Int.toNat_natCast]
            cases hm : metN n ah t k with
            | true =>
              rw [hm] at hany
              simp only [if_true, ← hany, Bool.true_or]
            | false =>
              rw [hm, Bool.false_or] at hany
              simp (disch := first | omega | exact kk_int | exact kk_str | exact kk_tup | exact kk_lst | exact kk_bl | exact kk_non | assumption | decide) only [sFrz, sSeq, sSet, sSetO, sIf, sRet, sRetO, sRetN, sFor, sApp, sNil, sDrop, sAsg, eT, eOp, eC, eL, oLst, eTup, eUn, aCons, aNil, eFn, iE, eSl, pNo, pYes, asI, eV_d0, eV_o0, eV_s, R.bind_ok, R.map_ok, go_ok, asB_bl, kk_int, kk_str, kk_bl, kk_non, kk_tup, kk_lst, true_and, and_true, List.set_cons_succ, List.set_cons_zero, List.getElem?_cons_succ, List.getElem?_cons_zero, addD_int, subD_int, mulD_intL, mulD_intR, fdivD_int, modD_int, ltD_int, leD_int, gtD_int, geD_int, eqD_int, neD_int, eqD_bl, neD_bl, isD_non, notIsD_non, intD_int, negD_int, maxD_int, minD_int, lenD_lst, lenD_bor, lenD_tup, List.length_map, okLen0, okLen1, okLen2, okLen3, okLen4, okLen5, okLen6, okLen7, if_true, eAnd, eOr, eNot, eIf, eAndV, eOrV, eNotV, eChain, ifBl_bl, isN_non, isN_int, isN_bl, isN_str, isN_tup, isN_lst, Bool.not_true, Bool.not_false, Bool.false_eq_true, if_false, rvD, notInD_bls, map_snd1, map_snd2, inn, decide_eq_true_eq, call_near hck, Int.toNat_natCast]
              by_cases hj : s.j = " " ∨ s.j = "~"
              · rw [if_pos hj]
                rw [if_pos hj] at hany
                refine ⟨kept_optI, hnx m' _ rfl ⟨nearD t s.j k, rfl, fun k' e => ?_, hany⟩⟩
                have := nearD_lt e
                omega
              · rw [if_neg hj]
                rw [if_neg hj] at hany
                refine ⟨rfl, hnx m' _ rfl ⟨none, rfl, fun k' e => (by cases e), ?_⟩⟩
                rw [← hany, show candsF t s.j m' none = [] from by cases m' <;> rfl]
  · rw [if_neg hc] at hf
    exact absurd rfl hf
theorem call_met {n : Nat} {ss : List Step} {t : Tree} {i : Int} (h : GoodSel ss ∧ ss.length ≤ n ∧ OkTree t ∧ 0 ≤ i ∧ i < t.length) : callR (m_met_in n) [.tup (ss.map Enc.enc), .lst (t.map Enc.enc), .int i] = .ok (.bl (metN n ss t i.toNat)) := call_met_of (mo_met_in n) h
def f_meets (ss : Tup Step) (t : Tree) (i : Int) : R RV := if OkSel ss.l ∧ OkTree t ∧ 0 ≤ i ∧ i < t.length then .ok (.d (.bl (metN 3 ss.l t i.toNat))) else .stuck
theorem call_look_sel {ss : List Step} (h : OkSel ss) : callR m_look_selector [.tup (ss.map Enc.enc)] = .ok .non := callR_m1 mo_look_selector (⟨ss⟩ : Tup Step) (rv := .d .non) (if_pos h) rfl
theorem call_look_part {t : Tree} {i : Int} (h : OkTree t ∧ 0 ≤ i ∧ i < t.length) : callR m_look_part [.lst (t.map Enc.enc), .int i] = .ok .non := callR_m2 mo_look_part t i (rv := .d .non) (if_pos h) rfl rfl
noncomputable def m_meets : List D → R RV := runF 3 3 (rSeq (rDrop (eCall m_look_selector (aCons (eV 0) aNil))) (rSeq (rDrop (eCall m_look_part (aCons (eV 1) (aCons (eV 2) aNil)))) (rRet (eCall (m_met_in 3) (aCons (eV 0) (aCons (eV 1) (aCons (eV 2) aNil)))))))
theorem mo_meets : ∀ a b c, f_meets a b c ≠ .stuck → m_meets [Enc.enc a, Enc.enc b, Enc.enc c] = f_meets a b c := by
  refine mo3 rfl ?_
  simp only [td_nil, td_seq, td_brk, td_cnt, td_dead, td_retN, td_drop, td_ret, td_retO, td_retV, td_if, td_asg, td_set, td_setO, td_frz, td_app, td_put, td_aug, td_for, td_while, td_thru, td_set2, td_par]
  rintro ⟨ss⟩ t i hf
  unfold f_meets at hf ⊢
  by_cases hc : OkSel ss ∧ OkTree t ∧ 0 ≤ i ∧ i < t.length
  · rw [if_pos hc]
    show sSeq _ _ (endsOf _) [Sl.d (.tup (ss.map Enc.enc)), .d (.lst (t.map Enc.enc)), .d (.int i)]
    simp (disch := first | omega | exact kk_int | exact kk_str | exact kk_tup | exact kk_lst | exact kk_bl | exact kk_non | assumption | decide) only [sFrz, sSeq, sSet, sSetO, sIf, sRet, sRetO, sRetN, sFor, sApp, sNil, sDrop, sAsg, eT, eOp, eC, eL, oLst, eTup, eUn, aCons, aNil, eFn, iE, eSl, pNo, pYes, asI, eV_d0, eV_o0, eV_s, R.bind_ok, R.map_ok, go_ok, asB_bl, kk_int, kk_str, kk_bl, kk_non, kk_tup, kk_lst, true_and, and_true, List.set_cons_succ, List.set_cons_zero, List.getElem?_cons_succ, List.getElem?_cons_zero, addD_int, subD_int, mulD_intL, mulD_intR, fdivD_int, modD_int, ltD_int, leD_int, gtD_int, geD_int, eqD_int, neD_int, eqD_bl, neD_bl, isD_non, notIsD_non, intD_int, negD_int, maxD_int, minD_int, lenD_lst, lenD_bor, lenD_tup, List.length_map, okLen0, okLen1, okLen2, okLen3, okLen4, okLen5, okLen6, okLen7, if_true, eAnd, eOr, eNot, eIf, eAndV, eOrV, eNotV, eChain, ifBl_bl, isN_non, isN_int, isN_bl, isN_str, isN_tup, isN_lst, Bool.not_true, Bool.not_false, Bool.false_eq_true, if_false, rvD, notInD_bls, map_snd1, map_snd2, eCall, call_look_sel hc.1, call_look_part hc.2, call_met ⟨hc.1.good, hc.1.le, hc.2⟩, endsOf]
  · rw [if_neg hc] at hf
    exact absurd rfl hf
theorem call_meets {ss : List Step} {t : Tree} {i : Int} (h : OkSel ss ∧ OkTree t ∧ 0 ≤ i ∧ i < t.length) : callR m_meets [.tup (ss.map Enc.enc), .lst (t.map Enc.enc), .int i] = .ok (.bl (metN 3 ss t i.toNat)) := callR_m3 mo_meets (⟨ss⟩ : Tup Step) t i (rv := .d (.bl (metN 3 ss t i.toNat))) (if_pos h) rfl rfl rfl

end Lw
set_option maxRecDepth 100000
set_option maxHeartbeats 4000000
namespace Lw
open PySem L2 DL
/-! alike in all kinds -/
inductive SameOk : Nat → D → Prop where
  | non {n : Nat} : SameOk (n + 1) .non
  | bl {n : Nat} (b : Bool) : SameOk (n + 1) (.bl b)
  | int {n : Nat} (i : Int) : SameOk (n + 1) (.int i)
  | str {n : Nat} (z : Str) (h : PyData.strOk z = true) : SameOk (n + 1) (.str z)
  | tup {n : Nat} (xs : List D) (h : xs.length ≤ 1000000) (g : ∀ x ∈ xs, SameOk n x) : SameOk (n + 1) (.tup xs)
  | lst {n : Nat} (xs : List D) (h : xs.length ≤ 1000000) (g : ∀ x ∈ xs, SameOk n x) : SameOk (n + 1) (.lst xs)
open Classical in
noncomputable def f__law_same (n : Nat) (a b : D) : R RV := if a = b ∧ SameOk n b then .ok (.d (.bl true)) else .stuck
theorem isi_t {d : D} {n : BT} (h : (tyB d).isSome = true) : isiD [d, .ty n] = .ok (.bl (isB d n)) := if_pos h
theorem isi_lt {d : D} (h : (tyB d).isSome = true) : isiD [d, .tup [.ty .list, .ty .tuple]] = .ok (.bl (isB d .list || (isB d .tuple || false))) := by
  show (if (tyB d).isSome = true then (optR (isL d [.ty .list, .ty .tuple])).map D.bl else .stuck) = _
  rw [if_pos h]; rfl
theorem same_kept {n : Nat} {d : D} (h : SameOk n d) : kept d = true := by
  cases h <;> rfl
noncomputable def m__law_same_b (m : List D → R RV) : List D → R RV := runF 2 3 (rSeq (rIf (eT (eOp isD (eV 1) (eC .non))) (rRet (eOp isD (eV 0) (eC .non))) rNil) (rSeq (rIf (eT (eFn isiD (aCons (eV 1) (aCons (eTup (aCons (eC (.ty .list)) (aCons (eC (.ty .tuple)) aNil))) aNil)))) (rSeq (rIf (eOr (eT (eOp neD (eFn isiD (aCons (eV 0) (aCons (eC (.ty .list)) aNil))) (eFn isiD (aCons (eV 1) (aCons (eC (.ty .list)) aNil))))) (eT (eOp neD (eFn isiD (aCons (eV 0) (aCons (eC (.ty .tuple)) aNil))) (eFn isiD (aCons (eV 1) (aCons (eC (.ty .tuple)) aNil)))))) (rRet (eC (.bl false))) rNil) (rRet (eAndV (eOp eqD (eFn lenD (aCons (eV 0) aNil)) (eFn lenD (aCons (eV 1) aNil))) (eFn allD (aCons (eL (oComp [2] (iR1 (aCons (eFn lenD (aCons (eV 1) aNil)) aNil)) (gV 2) eYes (eCall m (aCons (eOp ixD (eV 0) (eV 2)) (aCons (eOp ixD (eV 1) (eV 2)) aNil))))) aNil))))) rNil) (rSeq (rIf (eOr (eT (eOp neD (eFn isiD (aCons (eV 0) (aCons (eC (.ty .bool)) aNil))) (eFn isiD (aCons (eV 1) (aCons (eC (.ty .bool)) aNil))))) (eT (eOp neD (eFn isiD (aCons (eV 0) (aCons (eC (.ty .str)) aNil))) (eFn isiD (aCons (eV 1) (aCons (eC (.ty .str)) aNil)))))) (rRet (eC (.bl false))) rNil) (rRet (eAndV (eOp eqD (eFn isiD (aCons (eV 0) (aCons (eC (.ty .int)) aNil))) (eFn isiD (aCons (eV 1) (aCons (eC (.ty .int)) aNil)))) (eOp eqD (eV 0) (eV 1)))))))
noncomputable def m__law_same : Nat → List D → R RV
  | 0 => fun _ => .stuck
  | n + 1 => m__law_same_b (m__law_same n)
theorem call_same_of {n : Nat} (mo : ∀ a b, f__law_same n a b ≠ .stuck → m__law_same n [Enc.enc a, Enc.enc b] = f__law_same n a b) {a b : D} (h : a = b) (g : SameOk n b) : callR (m__law_same n) [a, b] = .ok (.bl true) := by
  subst h
  exact callR_m2 mo a a (rv := .d (.bl true)) (if_pos ⟨rfl, g⟩) (same_kept g) (same_kept g)
theorem eqD_int' {a b : Int} : eqD (.int a) (.int b) = .ok (.bl (a == b)) := rfl
theorem same_seq {n : Nat} (mo : ∀ a b, f__law_same n a b ≠ .stuck → m__law_same n [Enc.enc a, Enc.enc b] = f__law_same n a b) {xs : List D} (h : xs.length ≤ 1000000 ∧ ∀ x ∈ xs, SameOk n x) {ρ : Rho} {q : D} (h0 : ρ[0]? = some (.d q)) (h1 : ρ[1]? = some (.d q)) (h3 : ρ.length = 3) (hq : lenD [q] = .ok (.int xs.length)) (hx : ∀ i : Int, 0 ≤ i → i < (xs.length : Int) → ixD q (.int i) = .ok (xs.getD i.toNat .non)) :
    oComp [2] (iR1 (aCons (eFn lenD (aCons (eV 1) aNil)) aNil)) (gV 2) eYes (eCall (m__law_same n) (aCons (eOp ixD (eV 0) (eV 2)) (aCons (eOp ixD (eV 1) (eV 2)) aNil))) ρ = .ok (xs.map fun _ => D.bl true) := by
  match ρ, h0, h1, h3 with
  | [_, _, s], h0, h1, _ =>
    cases h0; cases h1
    refine oComp_ok (ds := rngL 0 1 xs.length) ?_ (by simp [rngL]; omega) ?_
    · refine iR1_ok (j := (xs.length : Int)) ?_ (big62_of (by omega) (by omega))
      simp only [aCons, aNil, eFn, eV_d0, eV_s, R.bind_ok, hq]
    · rw [rngL_0, compD_all (fun _ => D.bl true)]
      · congr 1
        apply List.ext_getElem <;> simp
      · intro i hi
        have hi := List.mem_range.mp hi
        refine ⟨_, rfl, ?_, rfl⟩
        have hm : SameOk n (xs.getD i .non) := by
          rw [List.getD_eq_getElem?_getD, List.getElem?_eq_getElem hi]
          exact h.2 _ (List.getElem_mem hi)
        simp (disch := first | omega | exact kk_int | exact kk_str | exact kk_tup | exact kk_lst | exact kk_bl | exact kk_non | assumption | decide) only [sFrz, sSeq, sSet, sSetO, sIf, sRet, sRetO, sRetN, sFor, sApp, sNil, sDrop, sAsg, eT, eOp, eC, eL, oLst, eTup, eUn, aCons, aNil, eFn, iE, eSl, pNo, pYes, asI, eV_d0, eV_o0, eV_s, R.bind_ok, R.map_ok, go_ok, asB_bl, kk_int, kk_str, kk_bl, kk_non, kk_tup, kk_lst, true_and, and_true, List.set_cons_succ, List.set_cons_zero, List.getElem?_cons_succ, List.getElem?_cons_zero, addD_int, subD_int, mulD_intL, mulD_intR, fdivD_int, modD_int, ltD_int, leD_int, gtD_int, geD_int, eqD_int, neD_int, eqD_bl, neD_bl, isD_non, notIsD_non, intD_int, negD_int, maxD_int, minD_int, lenD_lst, lenD_bor, lenD_tup, List.length_map, okLen0, okLen1, okLen2, okLen3, okLen4, okLen5, okLen6, okLen7, if_true, eAnd, eOr, eNot, eIf, eAndV, eOrV, eNotV, eChain, ifBl_bl, isN_non, isN_int, isN_bl, isN_str, isN_tup, isN_lst, Bool.not_true, Bool.not_false, Bool.false_eq_true, if_false, rvD, notInD_bls, map_snd1, map_snd2, wipeD, eCall, hx, Int.toNat_natCast, call_same_of mo rfl hm]
theorem ret_all {fa : Rho → R D} {fc : Rho → R (List D)} {De : EndsD} {ρ : Rho} {bs : List D} (ha : fa ρ = .ok (.bl true)) (hc : fc ρ = .ok bs) (hb : allD [.lst bs] = .ok (.bl true)) (h : De.rt (.d (.bl true))) : sRet (eAndV fa (eFn allD (aCons (eL fc) aNil))) De ρ := by
  simp only [sRet, eAndV, eFn, eL, aCons, aNil, eT, ha, R.bind_ok, asB_bl, if_true, hc, R.map_ok, hb, go_ok]
  exact ⟨rfl, h⟩
theorem all_true {xs : List D} : allD [.lst (xs.map fun _ => D.bl true)] = .ok (.bl true) := by
  have al : allD [.lst (xs.map fun _ => D.bl true)] = .ok (.bl (xs.all fun _ => true)) := allD_map
  rw [al, show (xs.all fun _ => true) = true by simp]
theorem isi_tup {xs : List D} : (tyB (.tup xs)).isSome = true := rfl
theorem mo__law_same : ∀ n a b, f__law_same n a b ≠ .stuck → m__law_same n [Enc.enc a, Enc.enc b] = f__law_same n a b
 | 0, a, b => fun h => absurd (if_neg fun q => by cases q.2) h
 | n + 1, a, b => by
  have mo := mo__law_same n
  revert a b
  refine mo2 (m := m__law_same (n + 1)) rfl ?_
  simp only [td_nil, td_seq, td_brk, td_cnt, td_dead, td_retN, td_drop, td_ret, td_retO, td_retV, td_if, td_asg, td_set, td_setO, td_frz, td_app, td_put, td_aug, td_for, td_while, td_thru, td_set2, td_par]
  intro a b hf
  by_cases hc : a = b ∧ SameOk (n + 1) b
  · rw [show f__law_same (n + 1) a b = .ok (.d (.bl true)) from if_pos hc]
    obtain ⟨rfl, g⟩ := hc
    show sSeq _ _ (endsOf _) [Sl.d a, .d a, .un]
    cases g with
    | non => simp (disch := first | omega | exact kk_int | exact kk_str | exact kk_tup | exact kk_lst | exact kk_bl | exact kk_non | assumption | decide) only [sFrz, sSeq, sSet, sSetO, sIf, sRet, sRetO, sRetN, sFor, sApp, sNil, sDrop, sAsg, eT, eOp, eC, eL, oLst, eTup, eUn, aCons, aNil, eFn, iE, eSl, pNo, pYes, asI, eV_d0, eV_o0, eV_s, R.bind_ok, R.map_ok, go_ok, asB_bl, kk_int, kk_str, kk_bl, kk_non, kk_tup, kk_lst, true_and, and_true, List.set_cons_succ, List.set_cons_zero, List.getElem?_cons_succ, List.getElem?_cons_zero, addD_int, subD_int, mulD_intL, mulD_intR, fdivD_int, modD_int, ltD_int, leD_int, gtD_int, geD_int, eqD_int, neD_int, eqD_bl, neD_bl, isD_non, notIsD_non, intD_int, negD_int, maxD_int, minD_int, lenD_lst, lenD_bor, lenD_tup, List.length_map, okLen0, okLen1, okLen2, okLen3, okLen4, okLen5, okLen6, okLen7, if_true, eAnd, eOr, eNot, eIf, eAndV, eOrV, eNotV, eChain, ifBl_bl, isN_non, isN_int, isN_bl, isN_str, isN_tup, isN_lst, Bool.not_true, Bool.not_false, Bool.false_eq_true, if_false, rvD, notInD_bls, map_snd1, map_snd2, endsOf]
    | bl b => simp (disch := first | omega | exact kk_int | exact kk_str | exact kk_tup | exact kk_lst | exact kk_bl | exact kk_non | assumption | decide) only [sFrz, sSeq, sSet, sSetO, sIf, sRet, sRetO, sRetN, sFor, sApp, sNil, sDrop, sAsg, eT, eOp, eC, eL, oLst, eTup, eUn, aCons, aNil, eFn, iE, eSl, pNo, pYes, asI, eV_d0, eV_o0, eV_s, R.bind_ok, R.map_ok, go_ok, asB_bl, kk_int, kk_str, kk_bl, kk_non, kk_tup, kk_lst, true_and, and_true, List.set_cons_succ, List.set_cons_zero, List.getElem?_cons_succ, List.getElem?_cons_zero, addD_int, subD_int, mulD_intL, mulD_intR, fdivD_int, modD_int, ltD_int, leD_int, gtD_int, geD_int, eqD_int, neD_int, eqD_bl, neD_bl, isD_non, notIsD_non, intD_int, negD_int, maxD_int, minD_int, lenD_lst, lenD_bor, lenD_tup, List.length_map, okLen0, okLen1, okLen2, okLen3, okLen4, okLen5, okLen6, okLen7, if_true, eAnd, eOr, eNot, eIf, eAndV, eOrV, eNotV, eChain, ifBl_bl, isN_non, isN_int, isN_bl, isN_str, isN_tup, isN_lst, Bool.not_true, Bool.not_false, Bool.false_eq_true, if_false, rvD, notInD_bls, map_snd1, map_snd2, endsOf, isi_lt (d := .bl b) rfl, isi_t (d := .bl b) rfl, isB, Bool.or_self, BEq.rfl]
    | int b => simp (disch := first | omega | exact kk_int | exact kk_str | exact kk_tup | exact kk_lst | exact kk_bl | exact kk_non | assumption | decide) only [sFrz, sSeq, sSet, sSetO, sIf, sRet, sRetO, sRetN, sFor, sApp, sNil, sDrop, sAsg, eT, eOp, eC, eL, oLst, eTup, eUn, aCons, aNil, eFn, iE, eSl, pNo, pYes, asI, eV_d0, eV_o0, eV_s, R.bind_ok, R.map_ok, go_ok, asB_bl, kk_int, kk_str, kk_bl, kk_non, kk_tup, kk_lst, true_and, and_true, List.set_cons_succ, List.set_cons_zero, List.getElem?_cons_succ, List.getElem?_cons_zero, addD_int, subD_int, mulD_intL, mulD_intR, fdivD_int, modD_int, ltD_int, leD_int, gtD_int, geD_int, eqD_int, neD_int, eqD_bl, neD_bl, isD_non, notIsD_non, intD_int, negD_int, maxD_int, minD_int, lenD_lst, lenD_bor, lenD_tup, List.length_map, okLen0, okLen1, okLen2, okLen3, okLen4, okLen5, okLen6, okLen7, if_true, eAnd, eOr, eNot, eIf, eAndV, eOrV, eNotV, eChain, ifBl_bl, isN_non, isN_int, isN_bl, isN_str, isN_tup, isN_lst, Bool.not_true, Bool.not_false, Bool.false_eq_true, if_false, rvD, notInD_bls, map_snd1, map_snd2, endsOf, isi_lt (d := .int b) rfl, isi_t (d := .int b) rfl, isB, Bool.or_self, BEq.rfl]
    | str b g =>
      simp (disch := first | omega | exact kk_int | exact kk_str | exact kk_tup | exact kk_lst | exact kk_bl | exact kk_non | assumption | decide) only [sFrz, sSeq, sSet, sSetO, sIf, sRet, sRetO, sRetN, sFor, sApp, sNil, sDrop, sAsg, eT, eOp, eC, eL, oLst, eTup, eUn, aCons, aNil, eFn, iE, eSl, pNo, pYes, asI, eV_d0, eV_o0, eV_s, R.bind_ok, R.map_ok, go_ok, asB_bl, kk_int, kk_str, kk_bl, kk_non, kk_tup, kk_lst, true_and, and_true, List.set_cons_succ, List.set_cons_zero, List.getElem?_cons_succ, List.getElem?_cons_zero, addD_int, subD_int, mulD_intL, mulD_intR, fdivD_int, modD_int, ltD_int, leD_int, gtD_int, geD_int, eqD_int, neD_int, eqD_bl, neD_bl, isD_non, notIsD_non, intD_int, negD_int, maxD_int, minD_int, lenD_lst, lenD_bor, lenD_tup, List.length_map, okLen0, okLen1, okLen2, okLen3, okLen4, okLen5, okLen6, okLen7, if_true, eAnd, eOr, eNot, eIf, eAndV, eOrV, eNotV, eChain, ifBl_bl, isN_non, isN_int, isN_bl, isN_str, isN_tup, isN_lst, Bool.not_true, Bool.not_false, Bool.false_eq_true, if_false, rvD, notInD_bls, map_snd1, map_snd2, endsOf, isi_lt (d := .str b) rfl, isi_t (d := .str b) rfl, isB, Bool.or_self, BEq.rfl, eqD_str g g, decide_true]
    | tup xs g1 g2 =>
      have e := same_seq (n := n) mo (xs := xs) ⟨g1, g2⟩ (ρ := [.d (.tup xs), .d (.tup xs), .un]) (q := .tup xs) rfl rfl rfl rfl fun i h1 h2 => ixD_tup h1 h2
      refine seq_skip ?_ (seq_yes ?_ (seq_skip ?_ (ret_all ?_ e all_true rfl)))
      · simp (disch := first | omega | exact kk_int | exact kk_str | exact kk_tup | exact kk_lst | exact kk_bl | exact kk_non | assumption | decide) only [sFrz, sSeq, sSet, sSetO, sIf, sRet, sRetO, sRetN, sFor, sApp, sNil, sDrop, sAsg, eT, eOp, eC, eL, oLst, eTup, eUn, aCons, aNil, eFn, iE, eSl, pNo, pYes, asI, eV_d0, eV_o0, eV_s, R.bind_ok, R.map_ok, go_ok, asB_bl, kk_int, kk_str, kk_bl, kk_non, kk_tup, kk_lst, true_and, and_true, List.set_cons_succ, List.set_cons_zero, List.getElem?_cons_succ, List.getElem?_cons_zero, addD_int, subD_int, mulD_intL, mulD_intR, fdivD_int, modD_int, ltD_int, leD_int, gtD_int, geD_int, eqD_int, neD_int, eqD_bl, neD_bl, isD_non, notIsD_non, intD_int, negD_int, maxD_int, minD_int, lenD_lst, lenD_bor, lenD_tup, List.length_map, okLen0, okLen1, okLen2, okLen3, okLen4, okLen5, okLen6, okLen7, if_true, eAnd, eOr, eNot, eIf, eAndV, eOrV, eNotV, eChain, ifBl_bl, isN_non, isN_int, isN_bl, isN_str, isN_tup, isN_lst, Bool.not_true, Bool.not_false, Bool.false_eq_true, if_false, rvD, notInD_bls, map_snd1, map_snd2]
      · simp (disch := first | omega | exact kk_int | exact kk_str | exact kk_tup | exact kk_lst | exact kk_bl | exact kk_non | assumption | decide) only [sFrz, sSeq, sSet, sSetO, sIf, sRet, sRetO, sRetN, sFor, sApp, sNil, sDrop, sAsg, eT, eOp, eC, eL, oLst, eTup, eUn, aCons, aNil, eFn, iE, eSl, pNo, pYes, asI, eV_d0, eV_o0, eV_s, R.bind_ok, R.map_ok, go_ok, asB_bl, kk_int, kk_str, kk_bl, kk_non, kk_tup, kk_lst, true_and, and_true, List.set_cons_succ, List.set_cons_zero, List.getElem?_cons_succ, List.getElem?_cons_zero, addD_int, subD_int, mulD_intL, mulD_intR, fdivD_int, modD_int, ltD_int, leD_int, gtD_int, geD_int, eqD_int, neD_int, eqD_bl, neD_bl, isD_non, notIsD_non, intD_int, negD_int, maxD_int, minD_int, lenD_lst, lenD_bor, lenD_tup, List.length_map, okLen0, okLen1, okLen2, okLen3, okLen4, okLen5, okLen6, okLen7, if_true, eAnd, eOr, eNot, eIf, eAndV, eOrV, eNotV, eChain, ifBl_bl, isN_non, isN_int, isN_bl, isN_str, isN_tup, isN_lst, Bool.not_true, Bool.not_false, Bool.false_eq_true, if_false, rvD, notInD_bls, map_snd1, map_snd2, isi_lt (d := .tup xs) rfl, isB, Bool.or_true, Bool.true_or]
      · simp (disch := first | omega | exact kk_int | exact kk_str | exact kk_tup | exact kk_lst | exact kk_bl | exact kk_non | assumption | decide) only [sFrz, sSeq, sSet, sSetO, sIf, sRet, sRetO, sRetN, sFor, sApp, sNil, sDrop, sAsg, eT, eOp, eC, eL, oLst, eTup, eUn, aCons, aNil, eFn, iE, eSl, pNo, pYes, asI, eV_d0, eV_o0, eV_s, R.bind_ok, R.map_ok, go_ok, asB_bl, kk_int, kk_str, kk_bl, kk_non, kk_tup, kk_lst, true_and, and_true, List.set_cons_succ, List.set_cons_zero, List.getElem?_cons_succ, List.getElem?_cons_zero, addD_int, subD_int, mulD_intL, mulD_intR, fdivD_int, modD_int, ltD_int, leD_int, gtD_int, geD_int, eqD_int, neD_int, eqD_bl, neD_bl, isD_non, notIsD_non, intD_int, negD_int, maxD_int, minD_int, lenD_lst, lenD_bor, lenD_tup, List.length_map, okLen0, okLen1, okLen2, okLen3, okLen4, okLen5, okLen6, okLen7, if_true, eAnd, eOr, eNot, eIf, eAndV, eOrV, eNotV, eChain, ifBl_bl, isN_non, isN_int, isN_bl, isN_str, isN_tup, isN_lst, Bool.not_true, Bool.not_false, Bool.false_eq_true, if_false, rvD, notInD_bls, map_snd1, map_snd2, isi_t (d := .tup xs) rfl, isB, BEq.rfl]
      · simp (disch := first | omega | exact kk_int | exact kk_str | exact kk_tup | exact kk_lst | exact kk_bl | exact kk_non | assumption | decide) only [sFrz, sSeq, sSet, sSetO, sIf, sRet, sRetO, sRetN, sFor, sApp, sNil, sDrop, sAsg, eT, eOp, eC, eL, oLst, eTup, eUn, aCons, aNil, eFn, iE, eSl, pNo, pYes, asI, eV_d0, eV_o0, eV_s, R.bind_ok, R.map_ok, go_ok, asB_bl, kk_int, kk_str, kk_bl, kk_non, kk_tup, kk_lst, true_and, and_true, List.set_cons_succ, List.set_cons_zero, List.getElem?_cons_succ, List.getElem?_cons_zero, addD_int, subD_int, mulD_intL, mulD_intR, fdivD_int, modD_int, ltD_int, leD_int, gtD_int, geD_int, eqD_int, neD_int, eqD_bl, neD_bl, isD_non, notIsD_non, intD_int, negD_int, maxD_int, minD_int, lenD_lst, lenD_bor, lenD_tup, List.length_map, okLen0, okLen1, okLen2, okLen3, okLen4, okLen5, okLen6, okLen7, if_true, eAnd, eOr, eNot, eIf, eAndV, eOrV, eNotV, eChain, ifBl_bl, isN_non, isN_int, isN_bl, isN_str, isN_tup, isN_lst, Bool.not_true, Bool.not_false, Bool.false_eq_true, if_false, rvD, notInD_bls, map_snd1, map_snd2, BEq.rfl]
    | lst xs g1 g2 =>
      have e := same_seq (n := n) mo (xs := xs) ⟨g1, g2⟩ (ρ := [.d (.lst xs), .d (.lst xs), .un]) (q := .lst xs) rfl rfl rfl rfl fun i h1 h2 => ixD_lst h1 h2
      refine seq_skip ?_ (seq_yes ?_ (seq_skip ?_ (ret_all ?_ e all_true rfl)))
      · simp (disch := first | omega | exact kk_int | exact kk_str | exact kk_tup | exact kk_lst | exact kk_bl | exact kk_non | assumption | decide) only [sFrz, sSeq, sSet, sSetO, sIf, sRet, sRetO, sRetN, sFor, sApp, sNil, sDrop, sAsg, eT, eOp, eC, eL, oLst, eTup, eUn, aCons, aNil, eFn, iE, eSl, pNo, pYes, asI, eV_d0, eV_o0, eV_s, R.bind_ok, R.map_ok, go_ok, asB_bl, kk_int, kk_str, kk_bl, kk_non, kk_tup, kk_lst, true_and, and_true, List.set_cons_succ, List.set_cons_zero, List.getElem?_cons_succ, List.getElem?_cons_zero, addD_int, subD_int, mulD_intL, mulD_intR, fdivD_int, modD_int, ltD_int, leD_int, gtD_int, geD_int, eqD_int, neD_int, eqD_bl, neD_bl, isD_non, notIsD_non, intD_int, negD_int, maxD_int, minD_int, lenD_lst, lenD_bor, lenD_tup, List.length_map, okLen0, okLen1, okLen2, okLen3, okLen4, okLen5, okLen6, okLen7, if_true, eAnd, eOr, eNot, eIf, eAndV, eOrV, eNotV, eChain, ifBl_bl, isN_non, isN_int, isN_bl, isN_str, isN_tup, isN_lst, Bool.not_true, Bool.not_false, Bool.false_eq_true, if_false, rvD, notInD_bls, map_snd1, map_snd2]
      · simp (disch := first | omega | exact kk_int | exact kk_str | exact kk_tup | exact kk_lst | exact kk_bl | exact kk_non | assumption | decide) only [sFrz, sSeq, sSet, sSetO, sIf, sRet, sRetO, sRetN, sFor, sApp, sNil, sDrop, sAsg, eT, eOp, eC, eL, oLst, eTup, eUn, aCons, aNil, eFn, iE, eSl, pNo, pYes, asI, eV_d0, eV_o0, eV_s, R.bind_ok, R.map_ok, go_ok, asB_bl, kk_int, kk_str, kk_bl, kk_non, kk_tup, kk_lst, true_and, and_true, List.set_cons_succ, List.set_cons_zero, List.getElem?_cons_succ, List.getElem?_cons_zero, addD_int, subD_int, mulD_intL, mulD_intR, fdivD_int, modD_int, ltD_int, leD_int, gtD_int, geD_int, eqD_int, neD_int, eqD_bl, neD_bl, isD_non, notIsD_non, intD_int, negD_int, maxD_int, minD_int, lenD_lst, lenD_bor, lenD_tup, List.length_map, okLen0, okLen1, okLen2, okLen3, okLen4, okLen5, okLen6, okLen7, if_true, eAnd, eOr, eNot, eIf, eAndV, eOrV, eNotV, eChain, ifBl_bl, isN_non, isN_int, isN_bl, isN_str, isN_tup, isN_lst, Bool.not_true, Bool.not_false, Bool.false_eq_true, if_false, rvD, notInD_bls, map_snd1, map_snd2, isi_lt (d := .lst xs) rfl, isB, Bool.or_true, Bool.true_or]
      · simp (disch := first | omega | exact kk_int | exact kk_str | exact kk_tup | exact kk_lst | exact kk_bl | exact kk_non | assumption | decide) only [sFrz, sSeq, sSet, sSetO, sIf, sRet, sRetO, sRetN, sFor, sApp, sNil, sDrop, sAsg, eT, eOp, eC, eL, oLst, eTup, eUn, aCons, aNil, eFn, iE, eSl, pNo, pYes, asI, eV_d0, eV_o0, eV_s, R.bind_ok, R.map_ok, go_ok, asB_bl, kk_int, kk_str, kk_bl, kk_non, kk_tup, kk_lst, true_and, and_true, List.set_cons_succ, List.set_cons_zero, List.getElem?_cons_succ, List.getElem?_cons_zero, addD_int, subD_int, mulD_intL, mulD_intR, fdivD_int, modD_int, ltD_int, leD_int, gtD_int, geD_int, eqD_int, neD_int, eqD_bl, neD_bl, isD_non, notIsD_non, intD_int, negD_int, maxD_int, minD_int, lenD_lst, lenD_bor, lenD_tup, List.length_map, okLen0, okLen1, okLen2, okLen3, okLen4, okLen5, okLen6, okLen7, if_true, eAnd, eOr, eNot, eIf, eAndV, eOrV, eNotV, eChain, ifBl_bl, isN_non, isN_int, isN_bl, isN_str, isN_tup, isN_lst, Bool.not_true, Bool.not_false, Bool.false_eq_true, if_false, rvD, notInD_bls, map_snd1, map_snd2, isi_t (d := .lst xs) rfl, isB, BEq.rfl]
      · simp (disch := first | omega | exact kk_int | exact kk_str | exact kk_tup | exact kk_lst | exact kk_bl | exact kk_non | assumption | decide) only [sFrz, sSeq, sSet, sSetO, sIf, sRet, sRetO, sRetN, sFor, sApp, sNil, sDrop, sAsg, eT, eOp, eC, eL, oLst, eTup, eUn, aCons, aNil, eFn, iE, eSl, pNo, pYes, asI, eV_d0, eV_o0, eV_s, R.bind_ok, R.map_ok, go_ok, asB_bl, kk_int, kk_str, kk_bl, kk_non, kk_tup, kk_lst, true_and, and_true, List.set_cons_succ, List.set_cons_zero, List.getElem?_cons_succ, List.getElem?_cons_zero, addD_int, subD_int, mulD_intL, mulD_intR, fdivD_int, modD_int, ltD_int, leD_int, gtD_int, geD_int, eqD_int, neD_int, eqD_bl, neD_bl, isD_non, notIsD_non, intD_int, negD_int, maxD_int, minD_int, lenD_lst, lenD_bor, lenD_tup, List.length_map, okLen0, okLen1, okLen2, okLen3, okLen4, okLen5, okLen6, okLen7, if_true, eAnd, eOr, eNot, eIf, eAndV, eOrV, eNotV, eChain, ifBl_bl, isN_non, isN_int, isN_bl, isN_str, isN_tup, isN_lst, Bool.not_true, Bool.not_false, Bool.false_eq_true, if_false, rvD, notInD_bls, map_snd1, map_snd2, BEq.rfl]
  · exact absurd (show f__law_same (n + 1) a b = .stuck from if_neg hc) hf
theorem call_same {n : Nat} {a b : D} (h : a = b) (g : SameOk n b) : callR (m__law_same n) [a, b] = .ok (.bl true) := call_same_of (mo__law_same n) h g

end Lw
set_option maxRecDepth 100000
set_option maxHeartbeats 4000000
namespace Lw
open PySem L2 DL
/-! the drawn step -/
def kindL (n : Int) : Str := (["*", "*", "a", "b", "c", "a", "b"] : List Str).getD (n % 7).toNat ""
def markL (n : Int) : Str := (["", "", "x", "y", "xy", "x"] : List Str).getD (n % 6).toNat ""
def stepD (d : List Int) (j : Str) : Step := ⟨j, kindL (d.getD 0 0), markL (d.getD 1 0), d.getD 1 0 / 6 % 5 == 4⟩
theorem kindL_mem (n : Int) : kindL n ∈ (["a", "b", "c", "*"] : List Str) := by
  unfold kindL
  have h1 : 0 ≤ n % 7 := by omega
  have h2 : n % 7 < 7 := by omega
  generalize n % 7 = k at *
  obtain rfl | rfl | rfl | rfl | rfl | rfl | rfl : k = 0 ∨ k = 1 ∨ k = 2 ∨ k = 3 ∨ k = 4 ∨ k = 5 ∨ k = 6 := by omega
  all_goals decide +kernel
theorem markL_mem (n : Int) : markL n ∈ (["", "x", "y", "xy"] : List Str) := by
  unfold markL
  have h1 : 0 ≤ n % 6 := by omega
  have h2 : n % 6 < 6 := by omega
  generalize n % 6 = k at *
  obtain rfl | rfl | rfl | rfl | rfl | rfl : k = 0 ∨ k = 1 ∨ k = 2 ∨ k = 3 ∨ k = 4 ∨ k = 5 := by omega
  all_goals decide +kernel
def f__law_step (d : List Int) (j : Str) : R RV := if 2 ≤ d.length then .ok (.d (Enc.enc (stepD d j))) else .stuck
noncomputable def m__law_step : List D → R RV := runF 2 3 (rSeq (rSet 2 (eOp ixD (eL (oLst (aCons (eC (.str "*")) (aCons (eC (.str "*")) (aCons (eC (.str "a")) (aCons (eC (.str "b")) (aCons (eC (.str "c")) (aCons (eC (.str "a")) (aCons (eC (.str "b")) aNil))))))))) (eOp modD (eOp ixD (eV 0) (eC (.int 0))) (eC (.int 7))))) (rRet (eTup (aCons (eV 1) (aCons (eV 2) (aCons (eOp ixD (eL (oLst (aCons (eC (.str "")) (aCons (eC (.str "")) (aCons (eC (.str "x")) (aCons (eC (.str "y")) (aCons (eC (.str "xy")) (aCons (eC (.str "x")) aNil)))))))) (eOp modD (eOp ixD (eV 0) (eC (.int 1))) (eC (.int 6)))) (aCons (eOp eqD (eOp modD (eOp fdivD (eOp ixD (eV 0) (eC (.int 1))) (eC (.int 6))) (eC (.int 5))) (eC (.int 4))) aNil)))))))
theorem mo__law_step : ∀ a b, f__law_step a b ≠ .stuck → m__law_step [Enc.enc a, Enc.enc b] = f__law_step a b := by
  refine mo2 rfl ?_
  simp only [td_nil, td_seq, td_brk, td_cnt, td_dead, td_retN, td_drop, td_ret, td_retO, td_retV, td_if, td_asg, td_set, td_setO, td_frz, td_app, td_put, td_aug, td_for, td_while, td_thru, td_set2, td_par]
  intro d j hf
  unfold f__law_step at hf ⊢
  by_cases hc : 2 ≤ d.length
  · rw [if_pos hc]
    have ix : ∀ i : Int, 0 ≤ i → i < (d.length : Int) → ixD (.lst (d.map D.int)) (.int i) = .ok (.int (d.getD i.toNat 0)) := fun i a b => by
      rw [ixD_lst a (by simpa using b), getD_map (by omega) (0 : Int)]
    have e1 : ∀ n : Int, ixD (.lst [.str "*", .str "*", .str "a", .str "b", .str "c", .str "a", .str "b"]) (.int (n % 7)) = .ok (.str (kindL n)) := fun n => by
      rw [show ([D.str "*", .str "*", .str "a", .str "b", .str "c", .str "a", .str "b"] : List D) = (["*", "*", "a", "b", "c", "a", "b"] : List Str).map D.str from rfl, ixD_lst (by omega) (by simp; omega), getD_map (by simp; omega) ("" : Str)]; rfl
    have e2 : ∀ n : Int, ixD (.lst [.str "", .str "", .str "x", .str "y", .str "xy", .str "x"]) (.int (n % 6)) = .ok (.str (markL n)) := fun n => by
      rw [show ([D.str "", .str "", .str "x", .str "y", .str "xy", .str "x"] : List D) = (["", "", "x", "y", "xy", "x"] : List Str).map D.str from rfl, ixD_lst (by omega) (by simp; omega), getD_map (by simp; omega) ("" : Str)]; rfl
    show sSeq _ _ (endsOf _) [Sl.d (.lst (d.map D.int)), .d (.str j), .un]
    simp (disch := first | omega | exact kk_int | exact kk_str | exact kk_tup | exact kk_lst | exact kk_bl | exact kk_non | assumption | decide) only [sFrz, sSeq, sSet, sSetO, sIf, sRet, sRetO, sRetN, sFor, sApp, sNil, sDrop, sAsg, eT, eOp, eC, eL, oLst, eTup, eUn, aCons, aNil, eFn, iE, eSl, pNo, pYes, asI, eV_d0, eV_o0, eV_s, R.bind_ok, R.map_ok, go_ok, asB_bl, kk_int, kk_str, kk_bl, kk_non, kk_tup, kk_lst, true_and, and_true, List.set_cons_succ, List.set_cons_zero, List.getElem?_cons_succ, List.getElem?_cons_zero, addD_int, subD_int, mulD_intL, mulD_intR, fdivD_int, modD_int, ltD_int, leD_int, gtD_int, geD_int, eqD_int, neD_int, eqD_bl, neD_bl, isD_non, notIsD_non, intD_int, negD_int, maxD_int, minD_int, lenD_lst, lenD_bor, lenD_tup, List.length_map, okLen0, okLen1, okLen2, okLen3, okLen4, okLen5, okLen6, okLen7, if_true, eAnd, eOr, eNot, eIf, eAndV, eOrV, eNotV, eChain, ifBl_bl, isN_non, isN_int, isN_bl, isN_str, isN_tup, isN_lst, Bool.not_true, Bool.not_false, Bool.false_eq_true, if_false, rvD, notInD_bls, map_snd1, map_snd2, ix, e1, e2, endsOf, Int.toNat_zero, Int.toNat_one]
    rfl
  · rw [if_neg hc] at hf
    exact absurd rfl hf

end Lw
set_option maxRecDepth 100000
set_option maxHeartbeats 4000000
namespace Lw
open PySem L2 DL
/-! parents and elders by a look at all -/
def abvL (t : Tree) (i : Nat) : List Nat := (List.range i).filter fun k => depT t k == depT t i - 1
def parL (t : Tree) (i : Nat) : Option Nat := (abvL t i).getLast?
def eldL (t : Tree) (i : Nat) : List Nat := match parL t i with
  | none => []
  | some a => ((List.range (i - (a + 1))).filter fun m => depT t (a + 1 + m) == depT t i).map (a + 1 + ·)
theorem abvL_mem {t : Tree} {i k : Nat} : k ∈ abvL t i ↔ k < i ∧ depT t k = depT t i - 1 := by
  unfold abvL
  rw [List.mem_filter, List.mem_range, beq_iff_eq]
theorem abvL_sorted (t : Tree) (i : Nat) : (abvL t i).Pairwise (· < ·) := List.Pairwise.filter _ List.pairwise_lt_range
theorem last_max : ∀ {l : List Nat} {a : Nat}, l.Pairwise (· < ·) → l.getLast? = some a → a ∈ l ∧ ∀ x ∈ l, x ≤ a
  | [], _, _, h => by cases h
  | [b], _, _, h => by cases h; exact ⟨by simp, by simp⟩
  | b :: c :: l, a, hp, h => by
    rw [List.getLast?_cons_cons] at h
    have ih := last_max (List.Pairwise.of_cons hp) h
    refine ⟨List.mem_cons_of_mem _ ih.1, fun x hx => ?_⟩
    rcases List.mem_cons.mp hx with rfl | hx
    · exact Nat.le_of_lt ((List.pairwise_cons.mp hp).1 a ih.1)
    · exact ih.2 x hx
theorem parL_some {t : Tree} {i a : Nat} (h : parL t i = some a) : (a < i ∧ depT t a = depT t i - 1) ∧ ∀ k, k < i → depT t k = depT t i - 1 → k ≤ a := by
  have := last_max (abvL_sorted t i) h
  exact ⟨abvL_mem.mp this.1, fun k h1 h2 => this.2 k (abvL_mem.mpr ⟨h1, h2⟩)⟩
theorem parL_none {t : Tree} {i : Nat} (h : parL t i = none) : ∀ k, k < i → depT t k ≠ depT t i - 1 := by
  intro k h1 h2
  unfold parL at h
  rw [List.getLast?_eq_none_iff] at h
  have := abvL_mem.mpr ⟨h1, h2⟩
  rw [h] at this
  cases this
theorem eldL_mem {t : Tree} {i m : Nat} : m ∈ eldL t i ↔ ∃ a, parL t i = some a ∧ a < m ∧ m < i ∧ depT t m = depT t i := by
  unfold eldL
  split
  · rename_i h; rw [h]; simp
  · rename_i a h
    rw [List.mem_map]
    constructor
    · rintro ⟨x, hx, rfl⟩
      rw [List.mem_filter, List.mem_range, beq_iff_eq] at hx
      exact ⟨a, h, by omega, by omega, hx.2⟩
    · rintro ⟨a', h', h1, h2, h3⟩
      rw [h] at h'; cases h'
      refine ⟨m - (a + 1), ?_, by omega⟩
      rw [List.mem_filter, List.mem_range, beq_iff_eq]
      exact ⟨by omega, by rw [show a + 1 + (m - (a + 1)) = m by omega]; exact h3⟩
theorem elderW_some {t : Tree} {d : Int} : ∀ {n k}, elderW t d n = some k → k < n ∧ depT t k = d ∧ ∀ m, k < m → m < n → d < depT t m
  | 0, _, h => by cases h
  | n + 1, k, h => by
    rw [elderW_s] at h
    split at h
    · cases h
    · split at h
      · cases h; rename_i e; exact ⟨by omega, e, fun m a b => by omega⟩
      · have ⟨h1, h2, h3⟩ := elderW_some h
        refine ⟨by omega, h2, fun m a b => ?_⟩
        by_cases e : m = n
        · subst e; omega
        · exact h3 m a (by omega)
theorem elderW_none {t : Tree} {d : Int} : ∀ {n}, elderW t d n = none → (∀ m, m < n → d < depT t m) ∨ ∃ k, k < n ∧ depT t k < d ∧ ∀ m, k < m → m < n → d < depT t m
  | 0, _ => .inl fun m h => by omega
  | n + 1, h => by
    rw [elderW_s] at h
    split at h
    · rename_i e; exact .inr ⟨n, by omega, e, fun m a b => by omega⟩
    · split at h
      · cases h
      · rcases elderW_none h with h1 | ⟨k, h1, h2, h3⟩
        · refine .inl fun m a => ?_
          by_cases e : m = n
          · subst e; omega
          · exact h1 m (by omega)
        · refine .inr ⟨k, by omega, h2, fun m a b => ?_⟩
          by_cases e : m = n
          · subst e; omega
          · exact h3 m a (by omega)
theorem OkTree.nn {t : Tree} (h : OkTree t) {i : Nat} (hi : i < t.length) : 0 ≤ depT t i ∧ (depT t i = 0 → i = 0) := by
  by_cases h0 : i = 0
  · subst h0; exact ⟨Int.le_of_eq h.root.symm, fun _ => rfl⟩
  · have := (h.pos i (by omega) hi).1
    exact ⟨by omega, fun e => by omega⟩
theorem OkTree.step {t : Tree} (h : OkTree t) {d : Int} (hd : 1 ≤ d) : ∀ j, j < t.length → d ≤ depT t j → ∃ a, a < j ∧ depT t a = d - 1
  | 0, hj, he => by have := h.root; omega
  | j + 1, hj, he => by
    have hp := (h.pos (j + 1) (by omega) hj).2
    rw [Nat.add_sub_cancel] at hp
    by_cases e : depT t j = d - 1
    · exact ⟨j, by omega, e⟩
    · obtain ⟨a, h1, h2⟩ := OkTree.step h hd j (by omega) (by omega)
      exact ⟨a, by omega, h2⟩
/-- the first one among its parent's children, both ways -/
theorem elder_iff {t : Tree} (h : OkTree t) {i : Nat} (hi : i < t.length) : (elderW t (depT t i) i).isNone = (eldL t i).isEmpty := by
  cases e : elderW t (depT t i) i with
  | some k =>
    obtain ⟨h1, h2, h3⟩ := elderW_some e
    have hd : 1 ≤ depT t i := (h.pos i (by omega) hi).1
    obtain ⟨b, hb1, hb2⟩ := h.step hd k (by omega) (by omega)
    cases ep : parL t i with
    | none => exact absurd hb2 (parL_none ep b (by omega))
    | some a =>
      obtain ⟨⟨p1, p2⟩, p3⟩ := parL_some ep
      have hak : a < k := by
        rcases Nat.lt_trichotomy a k with q | q | q
        · exact q
        · subst q; omega
        · have := h3 a q p1; omega
      have hm : k ∈ eldL t i := eldL_mem.mpr ⟨a, ep, hak, h1, h2⟩
      cases el : eldL t i with
      | nil => rw [el] at hm; cases hm
      | cons _ _ => rfl
  | none =>
    cases el : eldL t i with
    | nil => rfl
    | cons m ms =>
      have hm : m ∈ eldL t i := by rw [el]; simp
      obtain ⟨a, ep, h1, h2, h3⟩ := eldL_mem.mp hm
      obtain ⟨⟨p1, p2⟩, p3⟩ := parL_some ep
      rcases elderW_none e with q | ⟨k, k1, k2, k3⟩
      · have := q m h2; omega
      · by_cases hk : depT t k = depT t i - 1
        · have := p3 k k1 hk
          have := k3 m (by omega) h2
          omega
        · by_cases hk1 : k + 1 = i
          · have := (h.pos i (by omega) hi).2
            rw [show i - 1 = k by omega] at this
            omega
          · have := k3 (k + 1) (by omega) (by omega)
            have h5 := (h.pos (k + 1) (by omega) (by omega)).2
            rw [Nat.add_sub_cancel] at h5
            omega
def f__law_parent (t : Tree) (i : Int) : R RV := if 0 ≤ i ∧ i < t.length ∧ t.length ≤ 1000000 then .ok (.d (optI (parL t i.toNat))) else .stuck
def natD (n : Nat) : D := .int (n : Nat)
theorem nats_nil (l : List Nat) : neD (.lst (l.map natD)) (.lst []) = .ok (.bl (!l.isEmpty)) := by
  have h := neD_enc (a := l.map fun n : Nat => (n : Int)) (b := []) (fun _ _ => trivial) (fun _ _ => trivial)
  have e : (Enc.enc (l.map fun n : Nat => (n : Int)) : D) = .lst (l.map natD) := by
    show D.lst ((l.map fun n : Nat => (n : Int)).map Enc.enc) = _
    rw [List.map_map]; rfl
  rw [e] at h
  rw [show (D.lst [] : D) = Enc.enc ([] : List Int) from rfl, h]
  cases l <;> simp
noncomputable def m__law_parent : List D → R RV := runF 2 4 (rSeq (rSetO 2 (oComp [3] (iR1 (aCons (eV 1) aNil)) (gV 3) (eT (eOp eqD (eOp ixD (eOp ixD (eV 0) (eV 3)) (eC (.int 0))) (eOp subD (eOp ixD (eOp ixD (eV 0) (eV 1)) (eC (.int 0))) (eC (.int 1))))) (eV 3))) (rFrz 2 (rRet (eIf (eT (eOp neD (eV 2) (eL (oLst aNil)))) (eOp ixD (eV 2) (eUn negD (eC (.int 1)))) (eC .non)))))
theorem mo__law_parent : ∀ a b, f__law_parent a b ≠ .stuck → m__law_parent [Enc.enc a, Enc.enc b] = f__law_parent a b := by
  refine mo2 rfl ?_
  simp only [td_nil, td_seq, td_brk, td_cnt, td_dead, td_retN, td_drop, td_ret, td_retO, td_retV, td_if, td_asg, td_set, td_setO, td_frz, td_app, td_put, td_aug, td_for, td_while, td_thru, td_set2, td_par]
  intro t i hf
  unfold f__law_parent at hf ⊢
  by_cases hc : 0 ≤ i ∧ i < t.length ∧ t.length ≤ 1000000
  · rw [if_pos hc]
    obtain ⟨h1, h2, h3⟩ := hc
    have e : oComp [3] (iR1 (aCons (eV 1) aNil)) (gV 3) (eT (eOp eqD (eOp ixD (eOp ixD (eV 0) (eV 3)) (eC (.int 0))) (eOp subD (eOp ixD (eOp ixD (eV 0) (eV 1)) (eC (.int 0))) (eC (.int 1))))) (eV 3) [Sl.d (.lst (t.map Enc.enc)), .d (.int i), .un, .un] = .ok ((abvL t i.toNat).map natD) := by
      refine oComp_ok (ds := rngL 0 1 i.toNat) (iR1_ok (j := i) rfl (big62_of (by omega) (by omega))) (by simp [rngL]; omega) ?_
      rw [rngL_0]
      refine compD_ok (fun k => depT t k == depT t i.toNat - 1) natD fun k hk => ⟨_, rfl, ?_, fun _ => ⟨rfl, rfl⟩⟩
      have hk := List.mem_range.mp hk
      simp (disch := first | omega | exact kk_int | exact kk_str | exact kk_tup | exact kk_lst | exact kk_bl | exact kk_non | assumption | decide) only [sFrz, sSeq, sSet, sSetO, sIf, sRet, sRetO, sRetN, sFor, sApp, sNil, sDrop, sAsg, eT, eOp, eC, eL, oLst, eTup, eUn, aCons, aNil, eFn, iE, eSl, pNo, pYes, asI, eV_d0, eV_o0, eV_s, R.bind_ok, R.map_ok, go_ok, asB_bl, kk_int, kk_str, kk_bl, kk_non, kk_tup, kk_lst, true_and, and_true, List.set_cons_succ, List.set_cons_zero, List.getElem?_cons_succ, List.getElem?_cons_zero, addD_int, subD_int, mulD_intL, mulD_intR, fdivD_int, modD_int, ltD_int, leD_int, gtD_int, geD_int, eqD_int, neD_int, eqD_bl, neD_bl, isD_non, notIsD_non, intD_int, negD_int, maxD_int, minD_int, lenD_lst, lenD_bor, lenD_tup, List.length_map, okLen0, okLen1, okLen2, okLen3, okLen4, okLen5, okLen6, okLen7, if_true, eAnd, eOr, eNot, eIf, eAndV, eOrV, eNotV, eChain, ifBl_bl, isN_non, isN_int, isN_bl, isN_str, isN_tup, isN_lst, Bool.not_true, Bool.not_false, Bool.false_eq_true, if_false, rvD, notInD_bls, map_snd1, map_snd2, wipeD, tree_ix t, pair_0, Int.toNat_natCast]
    show sSeq _ _ (endsOf _) [Sl.d (.lst (t.map Enc.enc)), .d (.int i), .un, .un]
    refine seq_setO (xs := (abvL t i.toNat).map natD) ?_ ?_
    · exact e
    refine seq_frz (xs := (abvL t i.toNat).map natD) rfl ?_
    refine sRet_i (d := optI (parL t i.toNat)) ?_ kept_optI rfl
    simp (disch := first | omega | exact kk_int | exact kk_str | exact kk_tup | exact kk_lst | exact kk_bl | exact kk_non | assumption | decide) only [sFrz, sSeq, sSet, sSetO, sIf, sRet, sRetO, sRetN, sFor, sApp, sNil, sDrop, sAsg, eT, eOp, eC, eL, oLst, eTup, eUn, aCons, aNil, eFn, iE, eSl, pNo, pYes, asI, eV_d0, eV_o0, eV_s, R.bind_ok, R.map_ok, go_ok, asB_bl, kk_int, kk_str, kk_bl, kk_non, kk_tup, kk_lst, true_and, and_true, List.set_cons_succ, List.set_cons_zero, List.getElem?_cons_succ, List.getElem?_cons_zero, addD_int, subD_int, mulD_intL, mulD_intR, fdivD_int, modD_int, ltD_int, leD_int, gtD_int, geD_int, eqD_int, neD_int, eqD_bl, neD_bl, isD_non, notIsD_non, intD_int, negD_int, maxD_int, minD_int, lenD_lst, lenD_bor, lenD_tup, List.length_map, okLen0, okLen1, okLen2, okLen3, okLen4, okLen5, okLen6, okLen7, if_true, eAnd, eOr, eNot, eIf, eAndV, eOrV, eNotV, eChain, ifBl_bl, isN_non, isN_int, isN_bl, isN_str, isN_tup, isN_lst, Bool.not_true, Bool.not_false, Bool.false_eq_true, if_false, rvD, notInD_bls, map_snd1, map_snd2, nats_nil]
    unfold parL
    cases hl : abvL t i.toNat with
    | nil => rfl
    | cons a l =>
      rw [List.isEmpty_cons, Bool.not_false, if_pos rfl, ixD_lstN (by simp), getD_map (by simp) 0, List.getLast?_eq_getElem?, List.getD_eq_getElem?_getD, List.length_map, List.getElem?_eq_getElem (by simp)]
      rfl
  · rw [if_neg hc] at hf
    exact absurd rfl hf
theorem call_par {t : Tree} {i : Int} (h : 0 ≤ i ∧ i < t.length ∧ t.length ≤ 1000000) : callR m__law_parent [.lst (t.map Enc.enc), .int i] = .ok (optI (parL t i.toNat)) := callR_m2 mo__law_parent t i (rv := .d (optI (parL t i.toNat))) (if_pos h) rfl rfl
def f__law_elders (t : Tree) (i : Int) : R RV := if 0 ≤ i ∧ i < t.length ∧ t.length ≤ 1000000 then .ok (.own ((eldL t i.toNat).map natD)) else .stuck
theorem iR2_ok {f : Rho → R (List D)} {ρ : Rho} {i j : Int} (h : f ρ = .ok [.int i, .int j]) (hi : big62 i) (hj : big62 j) : iR2 f ρ = .ok (rngL i 1 (j - i).toNat) := by
  unfold iR2
  rw [h, R.bind_ok]; exact if_pos ⟨hi, hj⟩
noncomputable def m__law_elders : List D → R RV := runF 2 4 (rSeq (rSet 2 (eCall m__law_parent (aCons (eV 0) (aCons (eV 1) aNil)))) (rSeq (rIf (eT (eOp isD (eV 2) (eC .non))) (rRetO (oLst aNil)) rNil) (rRetO (oComp [3] (iR2 (aCons (eOp addD (eV 2) (eC (.int 1))) (aCons (eV 1) aNil))) (gV 3) (eT (eOp eqD (eOp ixD (eOp ixD (eV 0) (eV 3)) (eC (.int 0))) (eOp ixD (eOp ixD (eV 0) (eV 1)) (eC (.int 0))))) (eV 3)))))
theorem mo__law_elders : ∀ a b, f__law_elders a b ≠ .stuck → m__law_elders [Enc.enc a, Enc.enc b] = f__law_elders a b := by
  refine mo2 rfl ?_
  simp only [td_nil, td_seq, td_brk, td_cnt, td_dead, td_retN, td_drop, td_ret, td_retO, td_retV, td_if, td_asg, td_set, td_setO, td_frz, td_app, td_put, td_aug, td_for, td_while, td_thru, td_set2, td_par]
  intro t i hf
  unfold f__law_elders at hf ⊢
  by_cases hc : 0 ≤ i ∧ i < t.length ∧ t.length ≤ 1000000
  · rw [if_pos hc]
    have hc' := hc
    obtain ⟨h1, h2, h3⟩ := hc
    have cp := call_par hc'
    show sSeq _ _ (endsOf _) [Sl.d (.lst (t.map Enc.enc)), .d (.int i), .un, .un]
    refine seq_set (d := optI (parL t i.toNat)) ?_ kept_optI ?_
    · simp (disch := first | omega | exact kk_int | exact kk_str | exact kk_tup | exact kk_lst | exact kk_bl | exact kk_non | assumption | decide) only [sFrz, sSeq, sSet, sSetO, sIf, sRet, sRetO, sRetN, sFor, sApp, sNil, sDrop, sAsg, eT, eOp, eC, eL, oLst, eTup, eUn, aCons, aNil, eFn, iE, eSl, pNo, pYes, asI, eV_d0, eV_o0, eV_s, R.bind_ok, R.map_ok, go_ok, asB_bl, kk_int, kk_str, kk_bl, kk_non, kk_tup, kk_lst, true_and, and_true, List.set_cons_succ, List.set_cons_zero, List.getElem?_cons_succ, List.getElem?_cons_zero, addD_int, subD_int, mulD_intL, mulD_intR, fdivD_int, modD_int, ltD_int, leD_int, gtD_int, geD_int, eqD_int, neD_int, eqD_bl, neD_bl, isD_non, notIsD_non, intD_int, negD_int, maxD_int, minD_int, lenD_lst, lenD_bor, lenD_tup, List.length_map, okLen0, okLen1, okLen2, okLen3, okLen4, okLen5, okLen6, okLen7, if_true, eAnd, eOr, eNot, eIf, eAndV, eOrV, eNotV, eChain, ifBl_bl, isN_non, isN_int, isN_bl, isN_str, isN_tup, isN_lst, Bool.not_true, Bool.not_false, Bool.false_eq_true, if_false, rvD, notInD_bls, map_snd1, map_snd2, eCall, cp]
    rcases Option.eq_none_or_eq_some (parL t i.toNat) with hp | ⟨a, hp⟩
    · have he : eldL t i.toNat = [] := by unfold eldL; rw [hp]
      refine seq_yes ?_ (sRetO_i (xs := []) ?_ ?_)
      · simp (disch := first | omega | exact kk_int | exact kk_str | exact kk_tup | exact kk_lst | exact kk_bl | exact kk_non | assumption | decide) only [sFrz, sSeq, sSet, sSetO, sIf, sRet, sRetO, sRetN, sFor, sApp, sNil, sDrop, sAsg, eT, eOp, eC, eL, oLst, eTup, eUn, aCons, aNil, eFn, iE, eSl, pNo, pYes, asI, eV_d0, eV_o0, eV_s, R.bind_ok, R.map_ok, go_ok, asB_bl, kk_int, kk_str, kk_bl, kk_non, kk_tup, kk_lst, true_and, and_true, List.set_cons_succ, List.set_cons_zero, List.getElem?_cons_succ, List.getElem?_cons_zero, addD_int, subD_int, mulD_intL, mulD_intR, fdivD_int, modD_int, ltD_int, leD_int, gtD_int, geD_int, eqD_int, neD_int, eqD_bl, neD_bl, isD_non, notIsD_non, intD_int, negD_int, maxD_int, minD_int, lenD_lst, lenD_bor, lenD_tup, List.length_map, okLen0, okLen1, okLen2, okLen3, okLen4, okLen5, okLen6, okLen7, if_true, eAnd, eOr, eNot, eIf, eAndV, eOrV, eNotV, eChain, ifBl_bl, isN_non, isN_int, isN_bl, isN_str, isN_tup, isN_lst, Bool.not_true, Bool.not_false, Bool.false_eq_true, if_false, rvD, notInD_bls, map_snd1, map_snd2, isN_optI, hp, Option.isNone]
      · simp (disch := first | omega | exact kk_int | exact kk_str | exact kk_tup | exact kk_lst | exact kk_bl | exact kk_non | assumption | decide) only [sFrz, sSeq, sSet, sSetO, sIf, sRet, sRetO, sRetN, sFor, sApp, sNil, sDrop, sAsg, eT, eOp, eC, eL, oLst, eTup, eUn, aCons, aNil, eFn, iE, eSl, pNo, pYes, asI, eV_d0, eV_o0, eV_s, R.bind_ok, R.map_ok, go_ok, asB_bl, kk_int, kk_str, kk_bl, kk_non, kk_tup, kk_lst, true_and, and_true, List.set_cons_succ, List.set_cons_zero, List.getElem?_cons_succ, List.getElem?_cons_zero, addD_int, subD_int, mulD_intL, mulD_intR, fdivD_int, modD_int, ltD_int, leD_int, gtD_int, geD_int, eqD_int, neD_int, eqD_bl, neD_bl, isD_non, notIsD_non, intD_int, negD_int, maxD_int, minD_int, lenD_lst, lenD_bor, lenD_tup, List.length_map, okLen0, okLen1, okLen2, okLen3, okLen4, okLen5, okLen6, okLen7, if_true, eAnd, eOr, eNot, eIf, eAndV, eOrV, eNotV, eChain, ifBl_bl, isN_non, isN_int, isN_bl, isN_str, isN_tup, isN_lst, Bool.not_true, Bool.not_false, Bool.false_eq_true, if_false, rvD, notInD_bls, map_snd1, map_snd2]
      · show R.ok _ = R.ok _
        rw [he]; rfl
    · have ha := (parL_some hp).1.1
      have he : eldL t i.toNat = ((List.range (i.toNat - (a + 1))).filter fun m => depT t (a + 1 + m) == depT t i.toNat).map (a + 1 + ·) := by unfold eldL; rw [hp]
      have e : oComp [3] (iR2 (aCons (eOp addD (eV 2) (eC (.int 1))) (aCons (eV 1) aNil))) (gV 3) (eT (eOp eqD (eOp ixD (eOp ixD (eV 0) (eV 3)) (eC (.int 0))) (eOp ixD (eOp ixD (eV 0) (eV 1)) (eC (.int 0))))) (eV 3) [Sl.d (.lst (t.map Enc.enc)), .d (.int i), .d (optI (parL t i.toNat)), .un] = .ok ((eldL t i.toNat).map natD) := by
        rw [hp, he, List.map_map]
        refine oComp_ok (ds := rngL ((a : Int) + 1) 1 (i.toNat - (a + 1))) ?_ (by simp [rngL]; omega) ?_
        · rw [iR2_ok (i := (a : Int) + 1) (j := i) rfl (big62_of (by omega) (by omega)) (big62_of (by omega) (by omega)), show (i - ((a : Int) + 1)).toNat = i.toNat - (a + 1) by omega]
        · rw [rngL_map]
          refine compD_ok (fun m => depT t (a + 1 + m) == depT t i.toNat) (fun m => natD (a + 1 + m)) fun m hm => ⟨_, rfl, ?_, fun _ => ⟨?_, rfl⟩⟩
          · have hm := List.mem_range.mp hm
            have em : ((a : Int) + 1 + (m : Nat)).toNat = a + 1 + m := by omega
            simp (disch := first | omega | exact kk_int | exact kk_str | exact kk_tup | exact kk_lst | exact kk_bl | exact kk_non | assumption | decide) only [sFrz, sSeq, sSet, sSetO, sIf, sRet, sRetO, sRetN, sFor, sApp, sNil, sDrop, sAsg, eT, eOp, eC, eL, oLst, eTup, eUn, aCons, aNil, eFn, iE, eSl, pNo, pYes, asI, eV_d0, eV_o0, eV_s, R.bind_ok, R.map_ok, go_ok, asB_bl, kk_int, kk_str, kk_bl, kk_non, kk_tup, kk_lst, true_and, and_true, List.set_cons_succ, List.set_cons_zero, List.getElem?_cons_succ, List.getElem?_cons_zero, addD_int, subD_int, mulD_intL, mulD_intR, fdivD_int, modD_int, ltD_int, leD_int, gtD_int, geD_int, eqD_int, neD_int, eqD_bl, neD_bl, isD_non, notIsD_non, intD_int, negD_int, maxD_int, minD_int, lenD_lst, lenD_bor, lenD_tup, List.length_map, okLen0, okLen1, okLen2, okLen3, okLen4, okLen5, okLen6, okLen7, if_true, eAnd, eOr, eNot, eIf, eAndV, eOrV, eNotV, eChain, ifBl_bl, isN_non, isN_int, isN_bl, isN_str, isN_tup, isN_lst, Bool.not_true, Bool.not_false, Bool.false_eq_true, if_false, rvD, notInD_bls, map_snd1, map_snd2, wipeD, tree_ix t, pair_0, em, Int.toNat_natCast]
          · show R.ok (D.int ((a : Int) + 1 + (m : Nat))) = .ok (D.int ((a + 1 + m : Nat) : Int))
            congr 2
      refine seq_skip ?_ (sRetO_i (xs := (eldL t i.toNat).map natD) ?_ rfl)
      · simp (disch := first | omega | exact kk_int | exact kk_str | exact kk_tup | exact kk_lst | exact kk_bl | exact kk_non | assumption | decide) only [sFrz, sSeq, sSet, sSetO, sIf, sRet, sRetO, sRetN, sFor, sApp, sNil, sDrop, sAsg, eT, eOp, eC, eL, oLst, eTup, eUn, aCons, aNil, eFn, iE, eSl, pNo, pYes, asI, eV_d0, eV_o0, eV_s, R.bind_ok, R.map_ok, go_ok, asB_bl, kk_int, kk_str, kk_bl, kk_non, kk_tup, kk_lst, true_and, and_true, List.set_cons_succ, List.set_cons_zero, List.getElem?_cons_succ, List.getElem?_cons_zero, addD_int, subD_int, mulD_intL, mulD_intR, fdivD_int, modD_int, ltD_int, leD_int, gtD_int, geD_int, eqD_int, neD_int, eqD_bl, neD_bl, isD_non, notIsD_non, intD_int, negD_int, maxD_int, minD_int, lenD_lst, lenD_bor, lenD_tup, List.length_map, okLen0, okLen1, okLen2, okLen3, okLen4, okLen5, okLen6, okLen7, if_true, eAnd, eOr, eNot, eIf, eAndV, eOrV, eNotV, eChain, ifBl_bl, isN_non, isN_int, isN_bl, isN_str, isN_tup, isN_lst, Bool.not_true, Bool.not_false, Bool.false_eq_true, if_false, rvD, notInD_bls, map_snd1, map_snd2, isN_optI, hp, Option.isNone]
      · simp only [List.set_cons_succ, List.set_cons_zero]
        rw [e]
  · rw [if_neg hc] at hf
    exact absurd rfl hf
theorem call_elders {t : Tree} {i : Int} (h : 0 ≤ i ∧ i < t.length ∧ t.length ≤ 1000000) : callR m__law_elders [.lst (t.map Enc.enc), .int i] = .ok (.lst ((eldL t i.toNat).map natD)) := callR_m2 mo__law_elders t i (rv := .own ((eldL t i.toNat).map natD)) (if_pos h) rfl rfl
def f__law_asked (s : Step) (t : Tree) (i : Int) : R RV := if (s.k ∈ (["a", "b", "c", "*"] : List Str) ∧ s.m ∈ (["", "x", "y", "xy"] : List Str)) ∧ OkTree t ∧ 0 ≤ i ∧ i < t.length then .ok (.d (.bl (fitsD s (labT t i.toNat) (eldL t i.toNat).isEmpty))) else .stuck
theorem not_any {α : Type} {p : α → Bool} {xs : List α} : (!xs.any fun x => !p x) = xs.all p := by
  induction xs with
  | nil => rfl
  | cons x xs ih => rw [List.any_cons, List.all_cons, Bool.not_or, ih, Bool.not_not]
noncomputable def m__law_asked : List D → R RV := runF 3 9 (rSeq (rAsg (eV 0) (gT 4 (gC (gV 3) (gC (gV 4) (gC (gV 5) (gC (gV 6) gN)))))) (rSeq (rSet 7 (eOp ixD (eOp ixD (eV 1) (eV 2)) (eC (.int 1)))) (rSeq (rIf (eOr (eAnd (eT (eOp neD (eV 4) (eC (.str "*")))) (eT (eOp neD (eOp ixD (eV 7) (eC (.int 0))) (eV 4)))) (eAnd (eT (eV 6)) (eT (eOp neD (eCall m__law_elders (aCons (eV 1) (aCons (eV 2) aNil))) (eL (oLst aNil)))))) (rRet (eC (.bl false))) rNil) (rRet (eNotV (eFn anyD (aCons (eL (oComp [8] (iEC (eV 5)) (gV 8) eYes (eOp notInD (eV 8) (eSl cutD (eV 7) (pYes (eC (.int 1))) pNo)))) aNil)))))))
theorem mo__law_asked : ∀ a b c, f__law_asked a b c ≠ .stuck → m__law_asked [Enc.enc a, Enc.enc b, Enc.enc c] = f__law_asked a b c := by
  refine mo3 rfl ?_
  simp only [td_nil, td_seq, td_brk, td_cnt, td_dead, td_retN, td_drop, td_ret, td_retO, td_retV, td_if, td_asg, td_set, td_setO, td_frz, td_app, td_put, td_aug, td_for, td_while, td_thru, td_set2, td_par]
  rintro ⟨j, k, m, f⟩ t i hf
  unfold f__law_asked at hf ⊢
  by_cases hc : (k ∈ (["a", "b", "c", "*"] : List Str) ∧ m ∈ (["", "x", "y", "xy"] : List Str)) ∧ OkTree t ∧ 0 ≤ i ∧ i < t.length
  · rw [if_pos hc]
    have hk := hc.1.1
    have hm := hc.1.2
    have ok := hc.2.1
    have hi0 := hc.2.2.1
    have hi := hc.2.2.2
    have hz := ok.lab i.toNat (by omega)
    have h60 := ok.le
    have hel : 0 ≤ i ∧ i < t.length ∧ t.length ≤ 1000000 := ⟨hi0, hi, by omega⟩
    show sSeq _ _ (endsOf _) [Sl.d (.tup [.str j, .str k, .str m, .bl f]), .d (.lst (t.map Enc.enc)), .d (.int i), .un, .un, .un, .un, .un, .un]
    refine seq_asg (d := .tup [.str j, .str k, .str m, .bl f]) rfl rfl rfl ?_
    refine seq_set (d := .str (labT t i.toNat)) ?_ rfl ?_
    · simp (disch := first | omega | exact kk_int | exact kk_str | exact kk_tup | exact kk_lst | exact kk_bl | exact kk_non | assumption | decide) only [sFrz, sSeq, sSet, sSetO, sIf, sRet, sRetO, sRetN, sFor, sApp, sNil, sDrop, sAsg, eT, eOp, eC, eL, oLst, eTup, eUn, aCons, aNil, eFn, iE, eSl, pNo, pYes, asI, eV_d0, eV_o0, eV_s, R.bind_ok, R.map_ok, go_ok, asB_bl, kk_int, kk_str, kk_bl, kk_non, kk_tup, kk_lst, true_and, and_true, List.set_cons_succ, List.set_cons_zero, List.getElem?_cons_succ, List.getElem?_cons_zero, addD_int, subD_int, mulD_intL, mulD_intR, fdivD_int, modD_int, ltD_int, leD_int, gtD_int, geD_int, eqD_int, neD_int, eqD_bl, neD_bl, isD_non, notIsD_non, intD_int, negD_int, maxD_int, minD_int, lenD_lst, lenD_bor, lenD_tup, List.length_map, okLen0, okLen1, okLen2, okLen3, okLen4, okLen5, okLen6, okLen7, if_true, eAnd, eOr, eNot, eIf, eAndV, eOrV, eNotV, eChain, ifBl_bl, isN_non, isN_int, isN_bl, isN_str, isN_tup, isN_lst, Bool.not_true, Bool.not_false, Bool.false_eq_true, if_false, rvD, notInD_bls, map_snd1, map_snd2, tree_ix t, pair_1]
    have w := labs_kind _ hz
    have e : oComp [8] (iEC (eV 5)) (gV 8) eYes (eOp notInD (eV 8) (eSl cutD (eV 7) (pYes (eC (.int 1))) pNo)) [Sl.d (.tup [.str j, .str k, .str m, .bl f]), .d (.lst (t.map Enc.enc)), .d (.int i), .d (.str j), .d (.str k), .d (.str m), .d (.bl f), .d (.str (labT t i.toNat)), .un] = .ok (m.cps.toList.map fun c => D.bl (!inS ⟨#[c]⟩ (marksS (labT t i.toNat)))) := by
      have hl := marks_len m hm
      refine oComp_ok (ds := signs m) rfl (by rw [signs_map, List.length_map]; omega) ?_
      rw [signs_map]
      refine compD_all (fun c => D.bl (!inS ⟨#[c]⟩ (marksS (labT t i.toNat)))) fun c _ => ⟨_, rfl, ?_, rfl⟩
      simp (disch := first | omega | exact kk_int | exact kk_str | exact kk_tup | exact kk_lst | exact kk_bl | exact kk_non | assumption | decide) only [sFrz, sSeq, sSet, sSetO, sIf, sRet, sRetO, sRetN, sFor, sApp, sNil, sDrop, sAsg, eT, eOp, eC, eL, oLst, eTup, eUn, aCons, aNil, eFn, iE, eSl, pNo, pYes, asI, eV_d0, eV_o0, eV_s, R.bind_ok, R.map_ok, go_ok, asB_bl, kk_int, kk_str, kk_bl, kk_non, kk_tup, kk_lst, true_and, and_true, List.set_cons_succ, List.set_cons_zero, List.getElem?_cons_succ, List.getElem?_cons_zero, addD_int, subD_int, mulD_intL, mulD_intR, fdivD_int, modD_int, ltD_int, leD_int, gtD_int, geD_int, eqD_int, neD_int, eqD_bl, neD_bl, isD_non, notIsD_non, intD_int, negD_int, maxD_int, minD_int, lenD_lst, lenD_bor, lenD_tup, List.length_map, okLen0, okLen1, okLen2, okLen3, okLen4, okLen5, okLen6, okLen7, if_true, eAnd, eOr, eNot, eIf, eAndV, eOrV, eNotV, eChain, ifBl_bl, isN_non, isN_int, isN_bl, isN_str, isN_tup, isN_lst, Bool.not_true, Bool.not_false, Bool.false_eq_true, if_false, rvD, notInD_bls, map_snd1, map_snd2, wipeD, lab_1 hz, notInD_str]
    have cnd : (eOr (eAnd (eT (eOp neD (eV 4) (eC (.str "*")))) (eT (eOp neD (eOp ixD (eV 7) (eC (.int 0))) (eV 4)))) (eAnd (eT (eV 6)) (eT (eOp neD (eCall m__law_elders (aCons (eV 1) (aCons (eV 2) aNil))) (eL (oLst aNil)))))) [Sl.d (.tup [.str j, .str k, .str m, .bl f]), .d (.lst (t.map Enc.enc)), .d (.int i), .d (.str j), .d (.str k), .d (.str m), .d (.bl f), .d (.str (labT t i.toNat)), .un] = .ok (!((decide (k = "*") || decide (k = kindS (labT t i.toNat))) && (!f || (eldL t i.toNat).isEmpty))) := by
      simp (disch := first | omega | exact kk_int | exact kk_str | exact kk_tup | exact kk_lst | exact kk_bl | exact kk_non | assumption | decide) only [sFrz, sSeq, sSet, sSetO, sIf, sRet, sRetO, sRetN, sFor, sApp, sNil, sDrop, sAsg, eT, eOp, eC, eL, oLst, eTup, eUn, aCons, aNil, eFn, iE, eSl, pNo, pYes, asI, eV_d0, eV_o0, eV_s, R.bind_ok, R.map_ok, go_ok, asB_bl, kk_int, kk_str, kk_bl, kk_non, kk_tup, kk_lst, true_and, and_true, List.set_cons_succ, List.set_cons_zero, List.getElem?_cons_succ, List.getElem?_cons_zero, addD_int, subD_int, mulD_intL, mulD_intR, fdivD_int, modD_int, ltD_int, leD_int, gtD_int, geD_int, eqD_int, neD_int, eqD_bl, neD_bl, isD_non, notIsD_non, intD_int, negD_int, maxD_int, minD_int, lenD_lst, lenD_bor, lenD_tup, List.length_map, okLen0, okLen1, okLen2, okLen3, okLen4, okLen5, okLen6, okLen7, if_true, eAnd, eOr, eNot, eIf, eAndV, eOrV, eNotV, eChain, ifBl_bl, isN_non, isN_int, isN_bl, isN_str, isN_tup, isN_lst, Bool.not_true, Bool.not_false, Bool.false_eq_true, if_false, rvD, notInD_bls, map_snd1, map_snd2, eCall, call_elders hel, nats_nil, lab_0 hz, neD_str (kinds_ok k hk) any_ok, neD_str (kinds_ok3 _ w) (kinds_ok k hk)]
      rw [show decide (k = kindS (labT t i.toNat)) = decide (kindS (labT t i.toNat) = k) from decide_eq_decide.mpr ⟨Eq.symm, Eq.symm⟩]
      generalize decide (k = "*") = b1
      generalize decide (kindS (labT t i.toNat) = k) = b2
      generalize (eldL t i.toNat).isEmpty = b3
      cases b1 <;> cases b2 <;> cases f <;> cases b3 <;> rfl
    rw [fitsD_mk]
    rcases Bool.eq_false_or_eq_true ((decide (k = "*") || decide (k = kindS (labT t i.toNat))) && (!f || (eldL t i.toNat).isEmpty)) with hb | hb
    · rw [hb] at cnd ⊢
      refine seq_skip cnd (sRet_i (d := .bl (m.cps.toList.all fun c => inS ⟨#[c]⟩ (marksS (labT t i.toNat)))) ?_ rfl (by rw [Bool.true_and]; rfl))
      simp only [eNotV, eT, eFn, aCons, aNil, eL, List.set_cons_succ, List.set_cons_zero]
      rw [e]
      simp only [R.map_ok, R.bind_ok, anyD_map, asB_bl, not_any]
    · rw [hb] at cnd ⊢
      exact seq_yes cnd (sRet_i (d := .bl false) rfl rfl rfl)
  · rw [if_neg hc] at hf
    exact absurd rfl hf
theorem call_asked {s : Step} {t : Tree} {i : Int} (h : (s.k ∈ (["a", "b", "c", "*"] : List Str) ∧ s.m ∈ (["", "x", "y", "xy"] : List Str)) ∧ OkTree t ∧ 0 ≤ i ∧ i < t.length) : callR m__law_asked [Enc.enc s, .lst (t.map Enc.enc), .int i] = .ok (.bl (fitsD s (labT t i.toNat) (eldL t i.toNat).isEmpty)) := callR_m3 mo__law_asked s t i (rv := .d (.bl (fitsD s (labT t i.toNat) (eldL t i.toNat).isEmpty))) (if_pos h) rfl rfl rfl

end Lw
set_option maxRecDepth 100000
set_option maxHeartbeats 4000000
namespace Lw
open PySem L2 DL
/-! what is drawn -/
theorem call_numbers {ns : List Int} {many : Int} (h : ns.length ≤ 63 ∧ 0 ≤ many ∧ many ≤ 100000) : callR m__law_numbers [.scr (ns.map D.int), .int many] = .ok (.lst ((numbersD ns many.toNat).map D.int)) := callR_m2 mo__law_numbers (⟨ns⟩ : Scr) many (rv := .d (.lst ((numbersD ns many.toNat).map D.int))) (if_pos h) rfl rfl
theorem call_tree {d : List Int} {upto : Int} (h : 0 < upto ∧ upto ≤ 60 ∧ upto.toNat + 2 ≤ d.length) : callR m__law_tree [.lst (d.map D.int), .int upto] = .ok (.lst ((treeD d upto).map Enc.enc)) := callR_m2 mo__law_tree d upto (rv := .own ((treeD d upto).map Enc.enc)) (if_pos h) rfl rfl
theorem call_step {d : List Int} {j : Str} (h : 2 ≤ d.length) : callR m__law_step [.lst (d.map D.int), .str j] = .ok (Enc.enc (stepD d j)) := callR_m2 mo__law_step d j (rv := .d (Enc.enc (stepD d j))) (if_pos h) rfl rfl
theorem treeD_ok (d : List Int) {upto : Int} (h1 : 0 < upto) (h2 : upto ≤ 60) : OkTree (treeD d upto) := by
  have k1 : 0 ≤ d.getD 0 0 % upto := Int.emod_nonneg _ (by omega)
  have k2 : d.getD 0 0 % upto < upto := Int.emod_lt_of_pos _ (by omega)
  exact treeN_ok d _ (by omega)
theorem stepD_ok (d : List Int) {j : Str} {js : List Str} (h : j ∈ js) : OkStep js (stepD d j) := ⟨h, kindL_mem _, markL_mem _⟩
theorem sel1_ok {s : Step} (h : OkStep [""] s) : OkSel [s] := ⟨Nat.le_refl 1, show 1 ≤ 3 by decide, fun x e => by cases e; exact h, fun x hx => by cases hx⟩
theorem OkTree.good {t : Tree} (h : OkTree t) : EncP.good t := fun x hx => by
  obtain ⟨i, hi, rfl⟩ := List.mem_iff_getElem.mp hx
  have := h.lab i hi
  refine ⟨trivial, ?_⟩
  unfold labT at this
  rw [List.getD_eq_getElem?_getD, List.getElem?_eq_getElem hi] at this
  exact labs_ok _ this
theorem met1 {s : Step} {t : Tree} {i : Nat} (ok : OkTree t) (hi : i < t.length) : metN 3 [s] t i = fitsD s (labT t i) (eldL t i).isEmpty := by
  show (fitsD s (labT t i) (elderW t (depT t i) i).isNone && (true || _)) = _
  rw [Bool.true_or, Bool.and_true, elder_iff ok hi]
/-- one of four joints by a number -/
def jointL (n : Int) : Str := ([" ", ">", "+", "~"] : List Str).getD (n % 4).toNat " "
theorem jointL_mem (n : Int) : jointL n ∈ ([" ", ">", "+", "~"] : List Str) := by
  unfold jointL
  have h1 : 0 ≤ n % 4 := by omega
  have h2 : n % 4 < 4 := by omega
  generalize n % 4 = k at *
  obtain rfl | rfl | rfl | rfl : k = 0 ∨ k = 1 ∨ k = 2 ∨ k = 3 := by omega
  all_goals decide +kernel
theorem joints_list : (" >+~" : Str).cps.toList = [32, 62, 43, 126] := by decide +kernel
theorem joint_ix (n : Int) : ixD (.str " >+~") (.int (n % 4)) = .ok (.str (jointL n)) := by
  have h1 : 0 ≤ n % 4 := by omega
  have h2 : n % 4 < 4 := by omega
  rw [ixD_str (by rw [joints_list]; decide) h1 (by rw [joints_list]; simp; omega), joints_list]
  unfold jointL
  generalize n % 4 = k at *
  obtain rfl | rfl | rfl | rfl : k = 0 ∨ k = 1 ∨ k = 2 ∨ k = 3 := by omega
  all_goals rfl
/-- a slice of drawn numbers -/
theorem cut_from {ns : List Int} {q : Int} (h : 0 ≤ q) : cutG (ns.map D.int) (some q) none = (ns.drop q.toNat).map D.int := by
  obtain ⟨k, rfl⟩ : ∃ k : Nat, q = k := ⟨q.toNat, by omega⟩
  rw [cutG_drop, List.map_drop, Int.toNat_natCast]
theorem cutG_mid {α : Type} {xs : List α} {p q : Nat} : cutG xs (some (p : Int)) (some (q : Int)) = (xs.take q).drop p := by
  unfold cutG
  rw [show HT.sIx xs.length 0 (some (p : Int)) = min p xs.length from HT.sIx_nat _ _ p, show HT.sIx xs.length xs.length (some (q : Int)) = min q xs.length from HT.sIx_nat _ _ q]
  rw [List.drop_take]
  apply List.ext_getElem?
  intro i
  rw [List.getElem?_take, List.getElem?_take, List.getElem?_drop, List.getElem?_drop]
  by_cases h : p ≤ xs.length
  · rw [Nat.min_eq_left h]
    by_cases h1 : i < q - p
    · rw [if_pos h1]
      by_cases h2 : i < min q xs.length - p
      · rw [if_pos h2]
      · rw [if_neg h2, List.getElem?_eq_none (by omega)]
    · rw [if_neg h1, if_neg (by omega)]
  · rw [show min p xs.length = xs.length by omega, if_neg (by omega)]
    split
    · rw [List.getElem?_eq_none (by omega)]
    · rfl
theorem cut_mid {ns : List Int} {p q : Int} (h : 0 ≤ p) (h2 : 0 ≤ q) : cutG (ns.map D.int) (some p) (some q) = ((ns.take q.toNat).drop p.toNat).map D.int := by
  obtain ⟨k, rfl⟩ : ∃ k : Nat, p = k := ⟨p.toNat, by omega⟩
  obtain ⟨l, rfl⟩ : ∃ l : Nat, q = l := ⟨q.toNat, by omega⟩
  rw [cutG_mid, ← List.map_take, ← List.map_drop, Int.toNat_natCast, Int.toNat_natCast]
/-- an item of drawn numbers -/
theorem int_ix {ns : List Int} {q : Int} (h : 0 ≤ q) (h2 : q < ns.length) : ixD (.lst (ns.map D.int)) (.int q) = .ok (.int (ns.getD q.toNat 0)) := by
  rw [ixD_lst h (by simpa using h2), getD_map (by omega) (0 : Int)]

end Lw
set_option maxRecDepth 100000
set_option maxHeartbeats 4000000
namespace Lw
open PySem L2 DL
/-! trees as texts -/
abbrev SS (l : List Nat) : Str := SX.S l
theorem join_none : ∀ ys : List (List Nat), TL.joinL [] ys = ys.flatten
  | [] => rfl
  | [p] => by simp [TL.joinL]
  | p :: q :: r => by
    show p ++ ([] ++ TL.joinL [] (q :: r)) = _
    rw [List.nil_append, join_none (q :: r), List.flatten_cons, List.flatten_cons, List.flatten_cons]
theorem join_end (c : Nat) : ∀ ys : List (List Nat), TL.joinL [c] (ys ++ [[]]) = (ys.map fun y => y ++ [c]).flatten
  | [] => rfl
  | p :: r => by
    have ih := join_end c r
    cases r with
    | nil => show p ++ ([c] ++ []) = _; simp
    | cons q r =>
      show p ++ ([c] ++ TL.joinL [c] (q :: r ++ [[]])) = _
      rw [ih]; simp
theorem strs_map : ∀ ys : List (List Nat), strsOf (ys.map fun l => D.str (SS l)) = some (ys.map SS)
  | [] => rfl
  | y :: ys => by
    show (strsOf (ys.map fun l => D.str (SS l))).map (SS y :: ·) = _
    rw [strs_map ys]; rfl
theorem len_sum : ∀ ys : List (List Nat), ((ys.map SS).map (·.length)).sum = ys.flatten.length
  | [] => rfl
  | y :: ys => by
    rw [List.map_cons, List.map_cons, List.sum_cons, len_sum ys, List.flatten_cons, List.length_append, SX.S_len]
theorem nil_str : ("" : Str) = SS [] := by decide +kernel
theorem nl_str : ("\n" : Str) = SS [10] := by decide +kernel
theorem joinD_ls {ys : List (List Nat)} (h : ys.flatten.length ≤ 16777216) : joinD "" (.lst (ys.map fun l => D.str (SS l))) = .ok (.str (SS ys.flatten)) := by
  unfold joinD
  dsimp only
  rw [strs_map]
  dsimp only
  rw [len_sum, show ("" : Str).length = 0 from rfl, Nat.mul_zero, Nat.add_zero, if_pos h, nil_str, SX.join_S, join_none]
theorem rep_S (c k : Nat) : repS (SS [c]) k = SS (List.replicate k c) := by
  unfold repS
  congr 1
  rw [show (SS [c]).cps.toList = [c] from rfl]
  congr 1
  induction k with
  | zero => rfl
  | succ k ih => rw [List.replicate_succ, List.replicate_succ, List.flatten_cons, ih]; rfl
/-- the signs that may stand ahead -/
def leads : List Nat := [95, 45, 46]
def rowL (c : Nat) (p : Int × Str) : List Nat := List.replicate p.1.toNat c ++ p.2.cps.toList
def linesL (c : Nat) (t : Tree) : List (List Nat) := t.map fun p => rowL c p ++ [10]
def textL (c : Nat) (t : Tree) : List Nat := (linesL c t).flatten
theorem OkTree.dep {t : Tree} (h : OkTree t) : ∀ i, i < t.length → 0 ≤ depT t i ∧ depT t i ≤ (i : Int)
  | 0, _ => by rw [h.root]; decide
  | i + 1, hi => by
    have := h.pos (i + 1) (by omega) hi
    have ih := OkTree.dep h i (by omega)
    rw [Nat.add_sub_cancel] at this
    omega
theorem OkTree.mem {t : Tree} (h : OkTree t) {p : Int × Str} (hp : p ∈ t) : 0 ≤ p.1 ∧ p.1 ≤ 60 ∧ p.2 ∈ labs := by
  obtain ⟨i, hi, rfl⟩ := List.mem_iff_getElem.mp hp
  have a := h.dep i hi
  have b := h.lab i hi
  have c := h.le
  unfold depT at a
  unfold labT at b
  rw [List.getD_eq_getElem?_getD, List.getElem?_eq_getElem hi] at a b
  exact ⟨a.1, by have := a.2; simp only [Option.getD_some] at this; omega, b⟩
theorem labs_lead : ∀ c ∈ leads, ∀ z ∈ labs, z.cps.toList.head? ≠ some c ∧ 10 ∉ z.cps.toList := by decide +kernel
theorem leads_nl : ∀ c ∈ leads, c ≠ 10 := by decide +kernel
theorem row_len {c : Nat} {p : Int × Str} (h : 0 ≤ p.1 ∧ p.1 ≤ 60 ∧ p.2 ∈ labs) : (rowL c p).length ≤ 63 := by
  unfold rowL
  rw [List.length_append, List.length_replicate]
  have := (labs_len _ h.2.2).2
  omega
theorem lines_len {c : Nat} : ∀ {t : Tree}, (∀ p ∈ t, 0 ≤ p.1 ∧ p.1 ≤ 60 ∧ p.2 ∈ labs) → (linesL c t).flatten.length ≤ 64 * t.length
  | [], _ => Nat.le_refl _
  | p :: t, h => by
    have ih := lines_len (c := c) (t := t) fun q hq => h q (List.mem_cons_of_mem _ hq)
    have := row_len (c := c) (h p (List.mem_cons_self))
    show ((rowL c p ++ [10]) ++ (linesL c t).flatten).length ≤ _
    rw [List.length_append, List.length_append, List.length_cons]
    simp only [List.length_cons, List.length_nil]
    omega
theorem text_len {c : Nat} {t : Tree} (h : OkTree t) : (textL c t).length ≤ 3840 := by
  have := lines_len (c := c) (t := t) fun p hp => h.mem hp
  have := h.le
  unfold textL
  omega
theorem text_split {c : Nat} {t : Tree} (h : OkTree t) (hc : c ∈ leads) : Txt.split (SS (textL c t)) "\n" = t.map (fun p => SS (rowL c p)) ++ ([""] : List Str) := by
  have e : textL c t = TL.joinL [10] (t.map (rowL c) ++ [[]]) := by
    rw [join_end, List.map_map]; rfl
  rw [nl_str, SX.split_S (by simp) (by decide), e, SX.spl_join (by simp), List.map_append, List.map_map]
  · rfl
  · intro p hp
    rcases List.mem_append.mp hp with hp | hp
    · obtain ⟨q, hq, rfl⟩ := List.mem_map.mp hp
      have l := labs_lead c hc q.2 (h.mem hq).2.2
      unfold rowL
      intro z
      rcases List.mem_append.mp z with z | z
      · exact leads_nl c hc (List.eq_of_mem_replicate z).symm
      · exact l.2 z
    · rw [List.mem_singleton.mp hp]; simp
theorem row_lstrip {c : Nat} {p : Int × Str} (hc : c ∈ leads) (h : p.2 ∈ labs) : Txt.lstripChars (SS (rowL c p)) (SS [c]) = p.2 := by
  have l := (labs_lead c hc p.2 h).1
  unfold Txt.lstripChars
  rw [PyProof.Rows.stripBy_eq]
  refine TL.ext_tl ?_
  show TL.tl (PySem.Builtin.Str.strSub (SS (rowL c p)) (PySem.stripLo _ true _) (SS (rowL c p)).length) = _
  rw [TL.tl_strSub_end]
  have e : PySem.stripLo (SS [c]).cps.contains true (SS (rowL c p)) = p.1.toNat := by
    show ((rowL c p).takeWhile _).length = _
    unfold rowL
    have e2 : ∀ k : Nat, ((List.replicate k c ++ p.2.cps.toList).takeWhile (SS [c]).cps.contains).length = k := by
      intro k
      induction k with
      | zero =>
        cases hl : p.2.cps.toList with
        | nil => rfl
        | cons a r =>
          rw [hl] at l
          have ne : a ≠ c := fun z => l (by rw [z]; rfl)
          show ((a :: r).takeWhile _).length = 0
          rw [List.takeWhile_cons, if_neg (by simp [SS, SX.S]; exact ne)]; rfl
      | succ k ih =>
        show ((c :: (List.replicate k c ++ p.2.cps.toList)).takeWhile _).length = _
        rw [List.takeWhile_cons, if_pos (by simp [SS, SX.S]), List.length_cons, ih]
    exact e2 _
  rw [e]
  show (rowL c p).drop _ = _
  unfold rowL
  rw [List.drop_left' (by simp)]
theorem row_D {c : Nat} {p : Int × Str} (h : 0 ≤ p.1 ∧ p.1 ≤ 60 ∧ p.2 ∈ labs) : ((mulD (.str (SS [c])) (.int p.1)).bind fun x => (addD x (.str p.2))).bind (fun x => addD x (.str "\n")) = .ok (.str (SS (rowL c p ++ [10]))) := by
  have l := labs_len2 _ h.2.2
  rw [mulD_str h.1 (by rw [SX.S_len]; simp; omega) (by omega), R.bind_ok, rep_S, addD_str (by rw [SX.S_len, List.length_replicate]; omega), R.bind_ok]
  have e : SS (List.replicate p.1.toNat c) ++ p.2 = SS (rowL c p) := by
    have : p.2 = SS p.2.cps.toList := (SX.S_tl p.2).symm
    rw [this, SX.S_cat]; rfl
  have := row_len (c := c) h
  rw [e, nl_str, addD_str (by rw [SX.S_len, SX.S_len]; simp; omega), SX.S_cat]
theorem rows_comp {c : Nat} {t : Tree} (h : OkTree t) (a b : Sl) : oComp [2, 3] (iEC (eV 0)) (gT 2 (gC (gV 2) (gC (gV 3) gN))) eYes (eOp addD (eOp addD (eOp mulD (eV 1) (eV 2)) (eV 3)) (eC (.str "\n"))) [.d (.lst (t.map Enc.enc)), .d (.str (SS [c])), a, b] = .ok ((linesL c t).map fun l => D.str (SS l)) := by
  have hl := h.le
  refine oComp_ok (ds := t.map Enc.enc) rfl (by simp; omega) ?_
  have e : ((linesL c t).map fun l => D.str (SS l)) = t.map fun p => D.str (SS (rowL c p ++ [10])) := by unfold linesL; rw [List.map_map]; rfl
  rw [e]
  refine compD_all (fun p => D.str (SS (rowL c p ++ [10]))) fun p hp => ?_
  have d := row_D (c := c) (h.mem hp)
  refine ⟨_, rfl, ?_, rfl⟩
  simp only [eOp, eC, eV_s, eV_d0, R.bind_ok]
  exact d

end Lw
set_option maxRecDepth 100000
set_option maxHeartbeats 4000000
namespace Lw
open PySem L2 DL
/-! forebears, reach, marking -/
theorem optI_some {k : Nat} : optI (some k) = .int (k : Int) := rfl
def fbF (t : Tree) : Nat → Option Nat → List Nat
  | _, none => []
  | 0, some _ => []
  | n + 1, some a => a :: fbF t n (parL t a)
def fbL (t : Tree) (i : Nat) : List Nat := fbF t i (parL t i)
theorem fbF_len (t : Tree) : ∀ n o, (fbF t n o).length ≤ n
  | _, none => by simp [fbF]
  | 0, some _ => by simp [fbF]
  | n + 1, some a => by have := fbF_len t n (parL t a); simp [fbF]; omega
theorem fbF_none (t : Tree) : ∀ n, fbF t n none = []
  | 0 => rfl
  | _ + 1 => rfl
def f__law_forebears (t : Tree) (i : Int) : R RV := if 0 ≤ i ∧ i < t.length ∧ t.length ≤ 1000000 then .ok (.own ((fbL t i.toNat).map natD)) else .stuck
noncomputable def m__law_forebears : List D → R RV := runF 2 4 (rSeq (rSetO 2 (oLst aNil)) (rSeq (rSet 3 (eCall m__law_parent (aCons (eV 0) (aCons (eV 1) aNil)))) (rSeq (rWhile (eT (eOp notIsD (eV 3) (eC .non))) (rSeq (rApp 2 (eV 3)) (rSet 3 (eCall m__law_parent (aCons (eV 0) (aCons (eV 3) aNil)))))) (rRetV 2))))
theorem mo__law_forebears : ∀ a b, f__law_forebears a b ≠ .stuck → m__law_forebears [Enc.enc a, Enc.enc b] = f__law_forebears a b := by
  refine mo2 rfl ?_
  simp only [td_nil, td_seq, td_brk, td_cnt, td_dead, td_retN, td_drop, td_ret, td_retO, td_retV, td_if, td_asg, td_set, td_setO, td_frz, td_app, td_put, td_aug, td_for, td_while, td_thru, td_set2, td_par]
  intro t i hf
  unfold f__law_forebears at hf ⊢
  by_cases hc : 0 ≤ i ∧ i < t.length ∧ t.length ≤ 1000000
  · rw [if_pos hc]
    obtain ⟨q, rfl⟩ : ∃ q : Nat, i = q := ⟨i.toNat, by omega⟩
    obtain ⟨h1, h2, h3⟩ := hc
    have cp := call_par (t := t) (i := (q : Int)) ⟨h1, h2, h3⟩
    show sSeq _ _ (endsOf _) [Sl.d (.lst (t.map Enc.enc)), .d (.int q), .un, .un]
    simp (disch := first | omega | exact kk_int | exact kk_str | exact kk_tup | exact kk_lst | exact kk_bl | exact kk_non | assumption | decide) only [sFrz, sSeq, sSet, sSetO, sIf, sRet, sRetO, sRetN, sFor, sApp, sNil, sDrop, sAsg, eT, eOp, eC, eL, oLst, eTup, eUn, aCons, aNil, eFn, iE, eSl, pNo, pYes, asI, eV_d0, eV_o0, eV_s, R.bind_ok, R.map_ok, go_ok, asB_bl, kk_int, kk_str, kk_bl, kk_non, kk_tup, kk_lst, true_and, and_true, List.set_cons_succ, List.set_cons_zero, List.getElem?_cons_succ, List.getElem?_cons_zero, addD_int, subD_int, mulD_intL, mulD_intR, fdivD_int, modD_int, ltD_int, leD_int, gtD_int, geD_int, eqD_int, neD_int, eqD_bl, neD_bl, isD_non, notIsD_non, intD_int, negD_int, maxD_int, minD_int, lenD_lst, lenD_bor, lenD_tup, List.length_map, okLen0, okLen1, okLen2, okLen3, okLen4, okLen5, okLen6, okLen7, if_true, eAnd, eOr, eNot, eIf, eAndV, eOrV, eNotV, eChain, ifBl_bl, isN_non, isN_int, isN_bl, isN_str, isN_tup, isN_lst, Bool.not_true, Bool.not_false, Bool.false_eq_true, if_false, rvD, notInD_bls, map_snd1, map_snd2, eCall, cp, Int.toNat_natCast, kept_optI]
    refine while_ind (m := q) (fun m ρ => ∃ (acc : List Nat) (o : Option Nat), ρ = [.d (.lst (t.map Enc.enc)), .d (.int q), .own (acc.map natD), .d (optI o)] ∧ (∀ k, o = some k → k < m ∧ k < q) ∧ acc.length + m ≤ q ∧ acc ++ fbF t m o = fbL t q) ?_ ⟨[], parL t q, rfl, fun k e => ⟨(parL_some e).1.1, (parL_some e).1.1⟩, by simp, rfl⟩
    rintro m _ nx ⟨acc, o, rfl, hb, hl, he⟩ hnx
    cases o with
    | none =>
      rw [fbF_none, List.append_nil] at he
      simp (disch := first | omega | exact kk_int | exact kk_str | exact kk_tup | exact kk_lst | exact kk_bl | exact kk_non | assumption | decide) only [sFrz, sSeq, sSet, sSetO, sIf, sRet, sRetO, sRetN, sFor, sApp, sNil, sDrop, sAsg, eT, eOp, eC, eL, oLst, eTup, eUn, aCons, aNil, eFn, iE, eSl, pNo, pYes, asI, eV_d0, eV_o0, eV_s, R.bind_ok, R.map_ok, go_ok, asB_bl, kk_int, kk_str, kk_bl, kk_non, kk_tup, kk_lst, true_and, and_true, List.set_cons_succ, List.set_cons_zero, List.getElem?_cons_succ, List.getElem?_cons_zero, addD_int, subD_int, mulD_intL, mulD_intR, fdivD_int, modD_int, ltD_int, leD_int, gtD_int, geD_int, eqD_int, neD_int, eqD_bl, neD_bl, isD_non, notIsD_non, intD_int, negD_int, maxD_int, minD_int, lenD_lst, lenD_bor, lenD_tup, List.length_map, okLen0, okLen1, okLen2, okLen3, okLen4, okLen5, okLen6, okLen7, if_true, eAnd, eOr, eNot, eIf, eAndV, eOrV, eNotV, eChain, ifBl_bl, isN_non, isN_int, isN_bl, isN_str, isN_tup, isN_lst, Bool.not_true, Bool.not_false, Bool.false_eq_true, if_false, rvD, notInD_bls, map_snd1, map_snd2, isN_optI, Option.isNone, endsOf, ← he]
      exact sRetV_o rfl rfl
    | some k =>
      obtain ⟨hk, hkq⟩ := hb k rfl
      obtain ⟨m', rfl⟩ : ∃ m', m = m' + 1 := ⟨m - 1, by omega⟩
      have c2 := call_par (t := t) (i := (k : Int)) ⟨by omega, by omega, h3⟩
      simp (disch := first | omega | exact kk_int | exact kk_str | exact kk_tup | exact kk_lst | exact kk_bl | exact kk_non | assumption | decide) only [sFrz, sSeq, sSet, sSetO, sIf, sRet, sRetO, sRetN, sFor, sApp, sNil, sDrop, sAsg, eT, eOp, eC, eL, oLst, eTup, eUn, aCons, aNil, eFn, iE, eSl, pNo, pYes, asI, eV_d0, eV_o0, eV_s, R.bind_ok, R.map_ok, go_ok, asB_bl, kk_int, kk_str, kk_bl, kk_non, kk_tup, kk_lst, true_and, and_true, List.set_cons_succ, List.set_cons_zero, List.getElem?_cons_succ, List.getElem?_cons_zero, addD_int, subD_int, mulD_intL, mulD_intR, fdivD_int, modD_int, ltD_int, leD_int, gtD_int, geD_int, eqD_int, neD_int, eqD_bl, neD_bl, isD_non, notIsD_non, intD_int, negD_int, maxD_int, minD_int, lenD_lst, lenD_bor, lenD_tup, List.length_map, okLen0, okLen1, okLen2, okLen3, okLen4, okLen5, okLen6, okLen7, if_true, eAnd, eOr, eNot, eIf, eAndV, eOrV, eNotV, eChain, ifBl_bl, isN_non, isN_int, isN_bl, isN_str, isN_tup, isN_lst, Bool.not_true, Bool.not_false, Bool.false_eq_true, if_false, rvD, notInD_bls, map_snd1, map_snd2, eCall, isN_optI, Option.isNone, optI_some, c2, Int.toNat_natCast]
      refine ⟨by have : sizeLine = 16777216 := rfl; omega, kept_optI, hnx m' _ rfl ⟨acc ++ [k], parL t k, by simp [natD], fun k' e => ?_, by simp; omega, by rw [← he]; simp [fbF]⟩⟩
      have := (parL_some e).1.1
      omega
  · rw [if_neg hc] at hf
    exact absurd rfl hf
theorem call_fb {t : Tree} {i : Int} (h : 0 ≤ i ∧ i < t.length ∧ t.length ≤ 1000000) : callR m__law_forebears [.lst (t.map Enc.enc), .int i] = .ok (.lst ((fbL t i.toNat).map natD)) := callR_m2 mo__law_forebears t i (rv := .own ((fbL t i.toNat).map natD)) (if_pos h) rfl rfl
def lastL {α : Type} (l : List α) : List α := l.drop (l.length - 1)
def reachL (t : Tree) (j : Str) (i : Nat) : List Nat := if j = " " then fbL t i else if j = ">" then (fbL t i).take 1 else if j = "~" then eldL t i else lastL (eldL t i)
theorem cutG_to {α : Type} {xs : List α} {q : Nat} : cutG xs none (some (q : Int)) = xs.take q := by
  unfold cutG
  rw [HT.sIx_none, List.drop_zero, Nat.sub_zero]
  rw [show HT.sIx xs.length xs.length (some (q : Int)) = min q xs.length from HT.sIx_nat _ _ q]
  rw [← List.take_take, List.take_length]
theorem cutG_neg1 {α : Type} {xs : List α} : cutG xs (some (-1)) none = lastL xs := by
  unfold cutG lastL
  rw [HT.sIx_none]
  have e : HT.sIx xs.length 0 (some (-1)) = xs.length - 1 := by
    unfold HT.sIx
    simp
    omega
  rw [e, List.take_of_length_le (by simp)]
def f__law_reach (j : Str) (t : Tree) (i : Int) : R RV := if (j ∈ (["", " ", ">", "+", "~"] : List Str)) ∧ 0 ≤ i ∧ i < t.length ∧ t.length ≤ 1000000 then .ok (.d (.lst ((reachL t j i.toNat).map natD))) else .stuck
noncomputable def m__law_reach : List D → R RV := runF 3 4 (rSeq (rIf (eT (eOp eqD (eV 0) (eC (.str " ")))) (rRet (eCall m__law_forebears (aCons (eV 1) (aCons (eV 2) aNil)))) rNil) (rSeq (rIf (eT (eOp eqD (eV 0) (eC (.str ">")))) (rRet (eSl cutD (eCall m__law_forebears (aCons (eV 1) (aCons (eV 2) aNil))) pNo (pYes (eC (.int 1))))) rNil) (rSeq (rSet 3 (eCall m__law_elders (aCons (eV 1) (aCons (eV 2) aNil)))) (rRet (eIf (eT (eOp eqD (eV 0) (eC (.str "~")))) (eV 3) (eSl cutD (eV 3) (pYes (eUn negD (eC (.int 1)))) pNo))))))
theorem mo__law_reach : ∀ a b c, f__law_reach a b c ≠ .stuck → m__law_reach [Enc.enc a, Enc.enc b, Enc.enc c] = f__law_reach a b c := by
  refine mo3 rfl ?_
  simp only [td_nil, td_seq, td_brk, td_cnt, td_dead, td_retN, td_drop, td_ret, td_retO, td_retV, td_if, td_asg, td_set, td_setO, td_frz, td_app, td_put, td_aug, td_for, td_while, td_thru, td_set2, td_par]
  intro j t i hf
  unfold f__law_reach at hf ⊢
  by_cases hc : (j ∈ (["", " ", ">", "+", "~"] : List Str)) ∧ 0 ≤ i ∧ i < t.length ∧ t.length ≤ 1000000
  · rw [if_pos hc]
    obtain ⟨hj, h⟩ := hc
    have ok : ∀ z ∈ (["", " ", ">", "+", "~"] : List Str), PyData.strOk z = true := joint_ok
    have e1 : eqD (.str j) (.str " ") = .ok (.bl (decide (j = " "))) := eqD_str (ok j hj) (ok _ (by decide +kernel))
    have e2 : eqD (.str j) (.str ">") = .ok (.bl (decide (j = ">"))) := eqD_str (ok j hj) (ok _ (by decide +kernel))
    have e3 : eqD (.str j) (.str "~") = .ok (.bl (decide (j = "~"))) := eqD_str (ok j hj) (ok _ (by decide +kernel))
    show sSeq _ _ (endsOf _) [Sl.d (.str j), .d (.lst (t.map Enc.enc)), .d (.int i), .un]
    have c1 : cutG ((fbL t i.toNat).map natD) none (some 1) = ((fbL t i.toNat).take 1).map natD := by rw [show (1 : Int) = ((1 : Nat) : Int) from rfl, cutG_to, List.map_take]
    have c2 : cutG ((eldL t i.toNat).map natD) (some (-1)) none = (lastL (eldL t i.toNat)).map natD := by rw [cutG_neg1]; simp [lastL, List.map_drop]
    simp (disch := first | omega | exact kk_int | exact kk_str | exact kk_tup | exact kk_lst | exact kk_bl | exact kk_non | assumption | decide) only [sFrz, sSeq, sSet, sSetO, sIf, sRet, sRetO, sRetN, sFor, sApp, sNil, sDrop, sAsg, eT, eOp, eC, eL, oLst, eTup, eUn, aCons, aNil, eFn, iE, eSl, pNo, pYes, asI, eV_d0, eV_o0, eV_s, R.bind_ok, R.map_ok, go_ok, asB_bl, kk_int, kk_str, kk_bl, kk_non, kk_tup, kk_lst, true_and, and_true, List.set_cons_succ, List.set_cons_zero, List.getElem?_cons_succ, List.getElem?_cons_zero, addD_int, subD_int, mulD_intL, mulD_intR, fdivD_int, modD_int, ltD_int, leD_int, gtD_int, geD_int, eqD_int, neD_int, eqD_bl, neD_bl, isD_non, notIsD_non, intD_int, negD_int, maxD_int, minD_int, lenD_lst, lenD_bor, lenD_tup, List.length_map, okLen0, okLen1, okLen2, okLen3, okLen4, okLen5, okLen6, okLen7, if_true, eAnd, eOr, eNot, eIf, eAndV, eOrV, eNotV, eChain, ifBl_bl, isN_non, isN_int, isN_bl, isN_str, isN_tup, isN_lst, Bool.not_true, Bool.not_false, Bool.false_eq_true, if_false, rvD, notInD_bls, map_snd1, map_snd2, eCall, e1, e2, e3, call_fb h, call_elders h, cutD, c1, c2, endsOf]
    unfold reachL
    by_cases p1 : j = " "
    · rw [if_pos p1, decide_eq_true p1]; exact rfl
    · rw [if_neg p1, decide_eq_false p1]
      by_cases p2 : j = ">"
      · rw [if_pos p2, decide_eq_true p2]; exact rfl
      · rw [if_neg p2, decide_eq_false p2]
        by_cases p3 : j = "~"
        · rw [if_pos p3, decide_eq_true p3]; exact ⟨rfl, rfl⟩
        · rw [if_neg p3, decide_eq_false p3]; exact ⟨rfl, rfl⟩
  · rw [if_neg hc] at hf
    exact absurd rfl hf
theorem call_reach {j : Str} {t : Tree} {i : Int} (h : (j ∈ (["", " ", ">", "+", "~"] : List Str)) ∧ 0 ≤ i ∧ i < t.length ∧ t.length ≤ 1000000) : callR m__law_reach [.str j, .lst (t.map Enc.enc), .int i] = .ok (.lst ((reachL t j i.toNat).map natD)) := callR_m3 mo__law_reach j t i (rv := .d (.lst ((reachL t j i.toNat).map natD))) (if_pos h) rfl rfl rfl
/-! the two ways agree -/
theorem parentW_some {t : Tree} {d : Int} : ∀ {n k}, parentW t d n = some k → k < n ∧ depT t k < d ∧ ∀ m, k < m → m < n → d ≤ depT t m
  | 0, _, h => by cases h
  | n + 1, k, h => by
    rw [parentW_s] at h
    split at h
    · cases h; rename_i e; exact ⟨by omega, e, fun m a b => by omega⟩
    · have ⟨h1, h2, h3⟩ := parentW_some h
      refine ⟨by omega, h2, fun m a b => ?_⟩
      by_cases e : m = n
      · subst e; omega
      · exact h3 m a (by omega)
theorem parentW_none {t : Tree} {d : Int} : ∀ {n}, parentW t d n = none → ∀ m, m < n → d ≤ depT t m
  | 0, _ => fun m h => by omega
  | n + 1, h => by
    rw [parentW_s] at h
    split at h
    · cases h
    · intro m a
      by_cases e : m = n
      · subst e; omega
      · exact parentW_none h m (by omega)
theorem parL_is {t : Tree} {i a : Nat} (h1 : a < i) (h2 : depT t a = depT t i - 1) (h3 : ∀ m, a < m → m < i → depT t m ≠ depT t i - 1) : parL t i = some a := by
  cases e : parL t i with
  | none => exact absurd h2 (parL_none e a h1)
  | some b =>
    obtain ⟨⟨p1, p2⟩, p3⟩ := parL_some e
    have := p3 a h1 h2
    by_cases ab : a = b
    · rw [ab]
    · exact absurd p2 (h3 b (by omega) p1)
theorem parent_eq {t : Tree} (ok : OkTree t) {i : Nat} (hi : i < t.length) : parentW t (depT t i) i = parL t i := by
  cases e : parentW t (depT t i) i with
  | some k =>
    obtain ⟨h1, h2, h3⟩ := parentW_some e
    have hk : depT t k = depT t i - 1 := by
      by_cases hk1 : k + 1 = i
      · have := (ok.pos i (by omega) hi).2
        rw [show i - 1 = k by omega] at this
        omega
      · have := h3 (k + 1) (by omega) (by omega)
        have h5 := (ok.pos (k + 1) (by omega) (by omega)).2
        rw [Nat.add_sub_cancel] at h5
        omega
    exact (parL_is h1 hk fun m a b => by have := h3 m a b; omega).symm
  | none =>
    cases ep : parL t i with
    | none => rfl
    | some a =>
      obtain ⟨⟨p1, p2⟩, p3⟩ := parL_some ep
      have := parentW_none e a p1
      omega
theorem eldL_sorted (t : Tree) (i : Nat) : (eldL t i).Pairwise (· < ·) := by
  unfold eldL
  split
  · exact List.Pairwise.nil
  · refine List.Pairwise.map _ (fun a b h => by omega) (List.Pairwise.filter _ List.pairwise_lt_range)
theorem elder_eq {t : Tree} (ok : OkTree t) {i : Nat} (hi : i < t.length) : elderW t (depT t i) i = (eldL t i).getLast? := by
  cases e : elderW t (depT t i) i with
  | none =>
    have := elder_iff ok hi
    rw [e] at this
    have : (eldL t i).isEmpty = true := this.symm
    rw [List.isEmpty_iff.mp this]; rfl
  | some k =>
    obtain ⟨h1, h2, h3⟩ := elderW_some e
    have hne : (eldL t i).isEmpty = false := by rw [← elder_iff ok hi, e]; rfl
    cases el : (eldL t i).getLast? with
    | none =>
      rw [List.getLast?_eq_none_iff] at el
      rw [el] at hne; cases hne
    | some x =>
      obtain ⟨m1, m2⟩ := last_max (eldL_sorted t i) el
      obtain ⟨a, ep, q1, q2, q3⟩ := eldL_mem.mp m1
      obtain ⟨⟨p1, p2⟩, p3⟩ := parL_some ep
      have hxk : x ≤ k := Nat.le_of_not_lt fun hlt => by have := h3 x hlt q2; omega
      have hk : k ∈ eldL t i := eldL_mem.mpr ⟨a, ep, by omega, h1, h2⟩
      have := m2 k hk
      rw [show k = x by omega]
/-- the elders are the last one and its elders -/
theorem eldL_step {t : Tree} (ok : OkTree t) {i k : Nat} (hi : i < t.length) (h : (eldL t i).getLast? = some k) (m : Nat) : m ∈ eldL t i ↔ m = k ∨ m ∈ eldL t k := by
  obtain ⟨m1, m2⟩ := last_max (eldL_sorted t i) h
  obtain ⟨a, ep, q1, q2, q3⟩ := eldL_mem.mp m1
  obtain ⟨⟨p1, p2⟩, p3⟩ := parL_some ep
  have epk : parL t k = some a := parL_is q1 (by rw [q3]; exact p2) fun m ha hb z => by
    have := p3 m (by omega) (by rw [q3] at z; exact z)
    omega
  constructor
  · intro hm
    have hle := m2 m hm
    by_cases e : m = k
    · exact .inl e
    · obtain ⟨a', ep', r1, r2, r3⟩ := eldL_mem.mp hm
      rw [ep] at ep'; cases ep'
      exact .inr (eldL_mem.mpr ⟨a, epk, r1, by omega, by rw [q3]; exact r3⟩)
  · rintro (rfl | hm)
    · exact m1
    · obtain ⟨a', ep', r1, r2, r3⟩ := eldL_mem.mp hm
      rw [epk] at ep'; cases ep'
      exact eldL_mem.mpr ⟨a, ep, r1, by omega, by rw [← q3]; exact r3⟩
theorem nearD_s {t : Tree} (ok : OkTree t) {i : Nat} (hi : i < t.length) {j : Str} : nearD t j i = if j = " " ∨ j = ">" then parL t i else (eldL t i).getLast? := by
  unfold nearD
  rw [parent_eq ok hi, elder_eq ok hi]
theorem cands_none {t : Tree} {j : Str} : ∀ n, candsF t j n none = []
  | 0 => rfl
  | _ + 1 => rfl
theorem cands_up {t : Tree} (ok : OkTree t) : ∀ (n : Nat) (o : Option Nat), (∀ k, o = some k → k < n ∧ k < t.length) → candsF t " " n o = fbF t n o
  | n, none, _ => by rw [cands_none, fbF_none]
  | 0, some k, h => by have := h k rfl; omega
  | n + 1, some k, h => by
    rw [candsF, if_pos (.inl rfl), fbF, nearD_s ok (h k rfl).2, if_pos (.inl rfl)]
    rw [cands_up ok n _ fun k' e => ?_]
    have := (parL_some e).1.1
    have := h k rfl
    omega
theorem cands_side {t : Tree} (ok : OkTree t) : ∀ (n i : Nat), i ≤ n → i < t.length → ∀ x, x ∈ candsF t "~" n (eldL t i).getLast? ↔ x ∈ eldL t i
  | n, i, hn, hi => by
    intro x
    cases e : (eldL t i).getLast? with
    | none =>
      rw [cands_none, List.getLast?_eq_none_iff.mp e]
    | some k =>
      obtain ⟨m1, _⟩ := last_max (eldL_sorted t i) e
      obtain ⟨_, _, _, q2, _⟩ := eldL_mem.mp m1
      obtain ⟨n', rfl⟩ : ∃ n', n = n' + 1 := ⟨n - 1, by omega⟩
      rw [candsF, if_pos (.inr rfl), nearD_s ok (by omega), if_neg (by decide +kernel), List.mem_cons, cands_side ok n' k (by omega) (by omega), eldL_step ok hi e]
theorem fbF_head {t : Tree} : ∀ {n : Nat} {o : Option Nat}, (∀ k, o = some k → k < n) → (fbF t n o).take 1 = o.toList
  | n, none, _ => by rw [fbF_none]; rfl
  | 0, some k, h => by have := h k rfl; omega
  | n + 1, some k, _ => by rw [fbF]; rfl
theorem any_same {l m : List Nat} (h : ∀ x, x ∈ l ↔ x ∈ m) (p : Nat → Bool) : l.any p = m.any p := by
  rw [Bool.eq_iff_iff, List.any_eq_true, List.any_eq_true]
  exact ⟨fun ⟨x, a, b⟩ => ⟨x, (h x).mp a, b⟩, fun ⟨x, a, b⟩ => ⟨x, (h x).mpr a, b⟩⟩
theorem lastL_toList {l : List Nat} : lastL l = l.getLast?.toList := by
  unfold lastL
  rcases List.eq_nil_or_concat l with rfl | ⟨l', x, rfl⟩
  · rfl
  · simp
theorem reach_any {t : Tree} (ok : OkTree t) {i : Nat} (hi : i < t.length) {j : Str} (hj : j ∈ ([" ", ">", "+", "~"] : List Str)) (p : Nat → Bool) : (candsF t j i (nearD t j i)).any p = (reachL t j i).any p := by
  have one : ∀ o : Option Nat, (∀ k, o = some k → k < i) → ¬ (j = " " ∨ j = "~") → candsF t j i o = o.toList := fun o h hn => by
    cases o with
    | none => rw [cands_none]; rfl
    | some k =>
      obtain ⟨n', e⟩ : ∃ n', i = n' + 1 := ⟨i - 1, by have := h k rfl; omega⟩
      rw [e, candsF, if_neg hn]; rfl
  have hp : ∀ k, parL t i = some k → k < i := fun k e => (parL_some e).1.1
  have he : ∀ k, (eldL t i).getLast? = some k → k < i := fun k e => by
    obtain ⟨_, _, _, q2, _⟩ := eldL_mem.mp (last_max (eldL_sorted t i) e).1
    exact q2
  rw [nearD_s ok hi]
  unfold reachL
  simp only [List.mem_cons, List.not_mem_nil, or_false] at hj
  rcases hj with rfl | rfl | rfl | rfl
  · rw [if_pos (.inl rfl), if_pos rfl, cands_up ok _ _ fun k e => ⟨hp k e, by have := hp k e; omega⟩]; rfl
  · rw [if_pos (.inr rfl), if_neg (by decide +kernel), if_pos rfl, one _ hp (by decide +kernel)]
    unfold fbL
    rw [fbF_head hp]
  · rw [if_neg (by decide +kernel), if_neg (by decide +kernel), if_neg (by decide +kernel), if_neg (by decide +kernel), one _ he (by decide +kernel), lastL_toList]
  · rw [if_neg (by decide +kernel), if_neg (by decide +kernel), if_neg (by decide +kernel), if_pos rfl]
    exact any_same (cands_side ok i i (Nat.le_refl _) hi) p
/-! reach: bounds -/
theorem fbF_lt {t : Tree} : ∀ (n : Nat) (o : Option Nat) (b : Nat), (∀ k, o = some k → k < b) → ∀ x ∈ fbF t n o, x < b
  | _, none, b, _ => fun x hx => by rw [fbF_none] at hx; cases hx
  | 0, some k, b, _ => fun x hx => by cases hx
  | n + 1, some k, b, h => fun x hx => by
    have hk := h k rfl
    rw [fbF] at hx
    rcases List.mem_cons.mp hx with rfl | hx
    · exact hk
    · have := fbF_lt n (parL t k) k (fun k' e => (parL_some e).1.1) x hx
      omega
theorem reach_lt {t : Tree} (ok : OkTree t) {i : Nat} (hi : i < t.length) {j : Str} : ∀ k ∈ reachL t j i, k < i := by
  have hb : ∀ k ∈ fbL t i, k < i := fbF_lt i (parL t i) i fun k e => (parL_some e).1.1
  have he : ∀ k ∈ eldL t i, k < i := fun k hk => by
    obtain ⟨_, _, _, q2, _⟩ := eldL_mem.mp hk
    exact q2
  intro k hk
  unfold reachL at hk
  split at hk
  · exact hb k hk
  · split at hk
    · exact hb k (List.mem_of_mem_take hk)
    · split at hk
      · exact he k hk
      · exact he k (List.mem_of_mem_drop hk)
theorem eldL_len {t : Tree} {i : Nat} : (eldL t i).length ≤ i := by
  unfold eldL
  split
  · simp
  · rename_i a _
    have := List.length_filter_le (fun m => depT t (a + 1 + m) == depT t i) (List.range (i - (a + 1)))
    rw [List.length_range] at this
    rw [List.length_map]; omega
theorem reach_len' {t : Tree} {j : Str} {i : Nat} : (reachL t j i).length ≤ i := by
  unfold reachL
  have h1 : (fbL t i).length ≤ i := fbF_len t i _
  have h2 := eldL_len (t := t) (i := i)
  split
  · exact h1
  · split
    · rw [List.length_take]; omega
    · split
      · exact h2
      · unfold lastL; rw [List.length_drop]; omega
/-! the marking -/
theorem metN_succ {t : Tree} : ∀ (n : Nat) (ss : List Step) (i : Nat), ss.length ≤ n → metN n ss t i = metN (n + 1) ss t i
  | 0, ss, i, h => by
    have : ss = [] := List.length_eq_zero_iff.mp (Nat.le_zero.mp h)
    subst this; rfl
  | n + 1, ss, i, h => by
    rw [metN, metN]
    cases e : ss.getLast? with
    | none => rfl
    | some s =>
      simp only
      have hl : ss.dropLast.length ≤ n := by rw [List.length_dropLast]; omega
      congr 2
      congr 1
      funext k
      exact metN_succ n ss.dropLast k hl
theorem metN_app {t : Tree} {n : Nat} {pre : List Step} {s : Step} {i : Nat} (ok : OkTree t) (hi : i < t.length) (hs : s.j ∈ ([" ", ">", "+", "~"] : List Str)) (hp : pre ≠ []) (hl : pre.length ≤ n) :
    metN (n + 1) (pre ++ [s]) t i = (fitsD s (labT t i) (eldL t i).isEmpty && (reachL t s.j i).any fun k => metN (n + 1) pre t k) := by
  rw [metN, List.getLast?_concat, List.dropLast_concat]
  simp only
  rw [elder_iff ok hi, reach_any ok hi hs]
  have : pre.isEmpty = false := by cases pre with
    | nil => exact absurd rfl hp
    | cons _ _ => rfl
  rw [this, Bool.false_or]
  congr 2
  funext k
  exact metN_succ n pre k hl
def mkL (ss : List Step) (t : Tree) : List Bool := (List.range t.length).map fun i => metN 3 ss t i
theorem inD_bls (bs : List Bool) : inD (.bl true) (.lst (bs.map D.bl)) = .ok (.bl (bs.any id)) := by
  have h : (bs.map D.bl).all flatD = true := by simp [flatD]
  show (if flatD (.bl true) = true ∧ (bs.map D.bl).all flatD = true then R.ok (D.bl (memF (.bl true) (bs.map D.bl))) else .stuck) = _
  rw [if_pos ⟨rfl, h⟩]
  unfold memF
  rw [List.any_map]
  congr 3
  funext b
  cases b <;> rfl
def f__law_met (ss : Tup Step) (t : Tree) : R RV := if OkSel ss.l ∧ OkTree t then .ok (.d (.lst ((mkL ss.l t).map D.bl))) else .stuck
theorem tup_drop1 {xs : List D} : cutD (.tup xs) (some 1) none = .ok (.tup (xs.drop 1)) := by
  show R.ok (D.tup (cutG xs (some ((1 : Nat) : Int)) none)) = _
  rw [cutG_drop]
noncomputable def m__law_met : List D → R RV := runF 2 8 (rSeq (rSet 2 (eL (oComp [5] (iR1 (aCons (eFn lenD (aCons (eV 1) aNil)) aNil)) (gV 5) eYes (eCall m__law_asked (aCons (eOp ixD (eV 0) (eC (.int 0))) (aCons (eV 1) (aCons (eV 5) aNil))))))) (rSeq (rFor (iE (eSl cutD (eV 0) (pYes (eC (.int 1))) pNo)) (gV 3) (rSeq (rSetO 4 (oLst aNil)) (rSeq (rFor (iR1 (aCons (eFn lenD (aCons (eV 1) aNil)) aNil)) (gV 5) (rSeq (rSetO 6 (oComp [7] (iEC (eCall m__law_reach (aCons (eOp ixD (eV 3) (eC (.int 0))) (aCons (eV 1) (aCons (eV 5) aNil))))) (gV 7) eYes (eOp ixD (eV 2) (eV 7)))) (rFrz 6 (rApp 4 (eAndV (eCall m__law_asked (aCons (eV 3) (aCons (eV 1) (aCons (eV 5) aNil)))) (eOp inD (eC (.bl true)) (eV 6))))))) (rFrz 4 (rSet 2 (eV 4)))))) (rRet (eV 2))))
theorem mo__law_met : ∀ a b, f__law_met a b ≠ .stuck → m__law_met [Enc.enc a, Enc.enc b] = f__law_met a b := by
  refine mo2 rfl ?_
  simp only [td_nil, td_seq, td_brk, td_cnt, td_dead, td_retN, td_drop, td_ret, td_retO, td_retV, td_if, td_asg, td_set, td_setO, td_frz, td_app, td_put, td_aug, td_for, td_while, td_thru, td_set2, td_par]
  rintro ⟨ss⟩ t hf
  unfold f__law_met at hf ⊢
  by_cases hc : OkSel ss ∧ OkTree t
  · rw [if_pos hc]
    obtain ⟨os, ok⟩ := hc
    have h60 := ok.le
    obtain ⟨s0, rest, rfl⟩ : ∃ s0 rest, ss = s0 :: rest := by
      cases ss with
      | nil => exact absurd os.ne (by decide)
      | cons a b => exact ⟨a, b, rfl⟩
    have g0 := os.hd s0 rfl
    have e0 : oComp [5] (iR1 (aCons (eFn lenD (aCons (eV 1) aNil)) aNil)) (gV 5) eYes (eCall m__law_asked (aCons (eOp ixD (eV 0) (eC (.int 0))) (aCons (eV 1) (aCons (eV 5) aNil)))) [Sl.d (.tup ((s0 :: rest).map Enc.enc)), .d (.lst (t.map Enc.enc)), .un, .un, .un, .un, .un, .un] = .ok ((mkL [s0] t).map D.bl) := by
      refine oComp_ok (ds := rngL 0 1 t.length) (iR1_ok (j := (t.length : Int)) ?_ (big62_of (by omega) (by omega))) (by simp [rngL]; omega) ?_
      · simp (disch := first | omega | exact kk_int | exact kk_str | exact kk_tup | exact kk_lst | exact kk_bl | exact kk_non | assumption | decide) only [sFrz, sSeq, sSet, sSetO, sIf, sRet, sRetO, sRetN, sFor, sApp, sNil, sDrop, sAsg, eT, eOp, eC, eL, oLst, eTup, eUn, aCons, aNil, eFn, iE, eSl, pNo, pYes, asI, eV_d0, eV_o0, eV_s, R.bind_ok, R.map_ok, go_ok, asB_bl, kk_int, kk_str, kk_bl, kk_non, kk_tup, kk_lst, true_and, and_true, List.set_cons_succ, List.set_cons_zero, List.getElem?_cons_succ, List.getElem?_cons_zero, addD_int, subD_int, mulD_intL, mulD_intR, fdivD_int, modD_int, ltD_int, leD_int, gtD_int, geD_int, eqD_int, neD_int, eqD_bl, neD_bl, isD_non, notIsD_non, intD_int, negD_int, maxD_int, minD_int, lenD_lst, lenD_bor, lenD_tup, List.length_map, okLen0, okLen1, okLen2, okLen3, okLen4, okLen5, okLen6, okLen7, if_true, eAnd, eOr, eNot, eIf, eAndV, eOrV, eNotV, eChain, ifBl_bl, isN_non, isN_int, isN_bl, isN_str, isN_tup, isN_lst, Bool.not_true, Bool.not_false, Bool.false_eq_true, if_false, rvD, notInD_bls, map_snd1, map_snd2]
      rw [rngL_0]
      unfold mkL
      rw [List.map_map]
      refine compD_all (fun i => D.bl (metN 3 [s0] t i)) fun i hi => ⟨_, rfl, ?_, rfl⟩
      have hi := List.mem_range.mp hi
      have ca := call_asked (s := s0) (t := t) (i := (i : Int)) ⟨⟨g0.k, g0.m⟩, ok, by omega, by omega⟩
      have e1 : ixD (.tup ((s0 :: rest).map Enc.enc)) (.int 0) = .ok (Enc.enc s0) := by rw [ixD_tup (by decide) (by simp)]; rfl
      rw [Int.toNat_natCast, ← met1 ok hi] at ca
      simp (disch := first | omega | exact kk_int | exact kk_str | exact kk_tup | exact kk_lst | exact kk_bl | exact kk_non | assumption | decide) only [sFrz, sSeq, sSet, sSetO, sIf, sRet, sRetO, sRetN, sFor, sApp, sNil, sDrop, sAsg, eT, eOp, eC, eL, oLst, eTup, eUn, aCons, aNil, eFn, iE, eSl, pNo, pYes, asI, eV_d0, eV_o0, eV_s, R.bind_ok, R.map_ok, go_ok, asB_bl, kk_int, kk_str, kk_bl, kk_non, kk_tup, kk_lst, true_and, and_true, List.set_cons_succ, List.set_cons_zero, List.getElem?_cons_succ, List.getElem?_cons_zero, addD_int, subD_int, mulD_intL, mulD_intR, fdivD_int, modD_int, ltD_int, leD_int, gtD_int, geD_int, eqD_int, neD_int, eqD_bl, neD_bl, isD_non, notIsD_non, intD_int, negD_int, maxD_int, minD_int, lenD_lst, lenD_bor, lenD_tup, List.length_map, okLen0, okLen1, okLen2, okLen3, okLen4, okLen5, okLen6, okLen7, if_true, eAnd, eOr, eNot, eIf, eAndV, eOrV, eNotV, eChain, ifBl_bl, isN_non, isN_int, isN_bl, isN_str, isN_tup, isN_lst, Bool.not_true, Bool.not_false, Bool.false_eq_true, if_false, rvD, notInD_bls, map_snd1, map_snd2, wipeD, eCall, e1, ca]
    show sSeq _ _ (endsOf _) [Sl.d (.tup ((s0 :: rest).map Enc.enc)), .d (.lst (t.map Enc.enc)), .un, .un, .un, .un, .un, .un]
    refine seq_set (d := .lst ((mkL [s0] t).map D.bl)) ?_ rfl ?_
    · simp only [eL]
      rw [e0]; rfl
    refine seq_for (ds := rest.map Enc.enc) ?_ ?_
    · simp only [iE, eSl, eV_d0, R.bind_ok, pYes, pNo, eC, asI, List.set_cons_succ, List.set_cons_zero, tup_drop1]; rfl
    refine loop_map (f := Enc.enc) (fun rem ρ => ∃ pre a b c d e, s0 :: rest = pre ++ rem ∧ pre ≠ [] ∧ ρ = [.d (.tup ((s0 :: rest).map Enc.enc)), .d (.lst (t.map Enc.enc)), .d (.lst ((mkL pre t).map D.bl)), a, b, c, d, e]) ?_ ?_ ⟨[s0], _, _, _, _, _, rfl, by simp, rfl⟩
    · rintro _ ⟨pre, a, b, c, d, e, hp, _, rfl⟩
      rw [List.append_nil] at hp
      rw [← hp]
      show sRet (eV 2) (endsOf _) [.d (.tup ((s0 :: rest).map Enc.enc)), .d (.lst (t.map Enc.enc)), .d (.lst ((mkL (s0 :: rest) t).map D.bl)), a, b, c, d, e]
      exact sRet_i (d := .lst ((mkL (s0 :: rest) t).map D.bl)) rfl rfl rfl
    · rintro s rem _ ⟨pre, a, b, c, d, e, hp, hne, rfl⟩ ih
      refine ⟨_, rfl, ?_⟩
      have hs : OkStep [" ", ">", "+", "~"] s := os.tl s (by
        cases pre with
        | nil => exact absurd rfl hne
        | cons p pre' =>
          rw [List.cons_append] at hp
          injection hp with _ hp
          rw [List.tail_cons, hp]; simp)
      have hl3 : pre.length ≤ 2 := by
        have := os.le
        rw [hp] at this
        simp at this; omega
      refine seq_setO (xs := []) rfl ?_
      refine seq_for (ds := rngL 0 1 t.length) (iR1_ok (j := (t.length : Int)) ?_ (big62_of (by omega) (by omega))) ?_
      · simp (disch := first | omega | exact kk_int | exact kk_str | exact kk_tup | exact kk_lst | exact kk_bl | exact kk_non | assumption | decide) only [sFrz, sSeq, sSet, sSetO, sIf, sRet, sRetO, sRetN, sFor, sApp, sNil, sDrop, sAsg, eT, eOp, eC, eL, oLst, eTup, eUn, aCons, aNil, eFn, iE, eSl, pNo, pYes, asI, eV_d0, eV_o0, eV_s, R.bind_ok, R.map_ok, go_ok, asB_bl, kk_int, kk_str, kk_bl, kk_non, kk_tup, kk_lst, true_and, and_true, List.set_cons_succ, List.set_cons_zero, List.getElem?_cons_succ, List.getElem?_cons_zero, addD_int, subD_int, mulD_intL, mulD_intR, fdivD_int, modD_int, ltD_int, leD_int, gtD_int, geD_int, eqD_int, neD_int, eqD_bl, neD_bl, isD_non, notIsD_non, intD_int, negD_int, maxD_int, minD_int, lenD_lst, lenD_bor, lenD_tup, List.length_map, okLen0, okLen1, okLen2, okLen3, okLen4, okLen5, okLen6, okLen7, if_true, eAnd, eOr, eNot, eIf, eAndV, eOrV, eNotV, eChain, ifBl_bl, isN_non, isN_int, isN_bl, isN_str, isN_tup, isN_lst, Bool.not_true, Bool.not_false, Bool.false_eq_true, if_false, rvD, notInD_bls, map_snd1, map_snd2]
      refine loop_rng (lo := 0) (n := t.length) (fun i ρ => ∃ c d e, ρ = [.d (.tup ((s0 :: rest).map Enc.enc)), .d (.lst (t.map Enc.enc)), .d (.lst ((mkL pre t).map D.bl)), .d (Enc.enc s), .own (((List.range i).map fun q => metN 3 (pre ++ [s]) t q).map D.bl), c, d, e]) ?_ ?_ ⟨c, d, e, rfl⟩
      · rintro _ ⟨c, d, e, rfl⟩
        show sFrz 4 (sSet 2 (eV 4)) _ [.d (.tup ((s0 :: rest).map Enc.enc)), .d (.lst (t.map Enc.enc)), .d (.lst ((mkL pre t).map D.bl)), .d (Enc.enc s), .own ((mkL (pre ++ [s]) t).map D.bl), c, d, e]
        refine seq_frz_set (i := 4) (xs := (mkL (pre ++ [s]) t).map D.bl) rfl ?_
        exact ih _ ⟨pre ++ [s], _, _, _, _, _, by rw [hp]; simp, by simp, rfl⟩
      · rintro i _ nx hi ⟨c, d, e, rfl⟩ hnx
        refine ⟨_, rfl, ?_⟩
        have h3 : 0 ≤ (i : Int) ∧ (i : Int) < t.length ∧ t.length ≤ 1000000 := ⟨by omega, by omega, by omega⟩
        have cr := call_reach (j := s.j) (t := t) (i := (i : Int)) ⟨List.mem_cons_of_mem _ hs.j, h3⟩
        rw [Int.toNat_natCast] at cr
        have hr : ∀ k ∈ reachL t s.j i, k < t.length := fun k hk => by
          have := reach_lt ok hi k hk; omega
        have hlen : (reachL t s.j i).length ≤ 16777216 := by have := reach_len' (t := t) (j := s.j) (i := i); omega
        have en : oComp [7] (iEC (eCall m__law_reach (aCons (eOp ixD (eV 3) (eC (.int 0))) (aCons (eV 1) (aCons (eV 5) aNil))))) (gV 7) eYes (eOp ixD (eV 2) (eV 7)) [.d (.tup ((s0 :: rest).map Enc.enc)), .d (.lst (t.map Enc.enc)), .d (.lst ((mkL pre t).map D.bl)), .d (Enc.enc s), .own (((List.range i).map fun q => metN 3 (pre ++ [s]) t q).map D.bl), .d (.int (0 + (i : Int))), d, e] = .ok (((reachL t s.j i).map fun k => metN 3 pre t k).map D.bl) := by
          refine oComp_ok (ds := (reachL t s.j i).map natD) ?_ (by rw [List.length_map]; exact hlen) ?_
          · have e1 : ixD (Enc.enc s) (.int 0) = .ok (.str s.j) := rfl
            rw [Int.zero_add]
            simp (disch := first | omega | exact kk_int | exact kk_str | exact kk_tup | exact kk_lst | exact kk_bl | exact kk_non | assumption | decide) only [sFrz, sSeq, sSet, sSetO, sIf, sRet, sRetO, sRetN, sFor, sApp, sNil, sDrop, sAsg, eT, eOp, eC, eL, oLst, eTup, eUn, aCons, aNil, eFn, iE, eSl, pNo, pYes, asI, eV_d0, eV_o0, eV_s, R.bind_ok, R.map_ok, go_ok, asB_bl, kk_int, kk_str, kk_bl, kk_non, kk_tup, kk_lst, true_and, and_true, List.set_cons_succ, List.set_cons_zero, List.getElem?_cons_succ, List.getElem?_cons_zero, addD_int, subD_int, mulD_intL, mulD_intR, fdivD_int, modD_int, ltD_int, leD_int, gtD_int, geD_int, eqD_int, neD_int, eqD_bl, neD_bl, isD_non, notIsD_non, intD_int, negD_int, maxD_int, minD_int, lenD_lst, lenD_bor, lenD_tup, List.length_map, okLen0, okLen1, okLen2, okLen3, okLen4, okLen5, okLen6, okLen7, if_true, eAnd, eOr, eNot, eIf, eAndV, eOrV, eNotV, eChain, ifBl_bl, isN_non, isN_int, isN_bl, isN_str, isN_tup, isN_lst, Bool.not_true, Bool.not_false, Bool.false_eq_true, if_false, rvD, notInD_bls, map_snd1, map_snd2, iEC, itDC, itD, eCall, e1, cr]
          have em : ((reachL t s.j i).map fun k => metN 3 pre t k).map D.bl = (reachL t s.j i).map fun k => D.bl (metN 3 pre t k) := by rw [List.map_map]; rfl
          rw [em]
          refine compD_all (en := natD) (fun k => D.bl (metN 3 pre t k)) fun k hk => ⟨_, rfl, ?_, rfl⟩
          have := hr k hk
          have e2 : ixD (.lst ((mkL pre t).map D.bl)) (natD k) = .ok (.bl (metN 3 pre t k)) := by
            show ixD _ (.int (k : Int)) = _
            rw [ixD_lst (by omega) (by simp [mkL]; omega), getD_map (by simp [mkL]; omega) false]
            unfold mkL
            rw [List.getD_eq_getElem?_getD, List.getElem?_map, Int.toNat_natCast, List.getElem?_range this]; rfl
          simp (disch := first | omega | exact kk_int | exact kk_str | exact kk_tup | exact kk_lst | exact kk_bl | exact kk_non | assumption | decide) only [sFrz, sSeq, sSet, sSetO, sIf, sRet, sRetO, sRetN, sFor, sApp, sNil, sDrop, sAsg, eT, eOp, eC, eL, oLst, eTup, eUn, aCons, aNil, eFn, iE, eSl, pNo, pYes, asI, eV_d0, eV_o0, eV_s, R.bind_ok, R.map_ok, go_ok, asB_bl, kk_int, kk_str, kk_bl, kk_non, kk_tup, kk_lst, true_and, and_true, List.set_cons_succ, List.set_cons_zero, List.getElem?_cons_succ, List.getElem?_cons_zero, addD_int, subD_int, mulD_intL, mulD_intR, fdivD_int, modD_int, ltD_int, leD_int, gtD_int, geD_int, eqD_int, neD_int, eqD_bl, neD_bl, isD_non, notIsD_non, intD_int, negD_int, maxD_int, minD_int, lenD_lst, lenD_bor, lenD_tup, List.length_map, okLen0, okLen1, okLen2, okLen3, okLen4, okLen5, okLen6, okLen7, if_true, eAnd, eOr, eNot, eIf, eAndV, eOrV, eNotV, eChain, ifBl_bl, isN_non, isN_int, isN_bl, isN_str, isN_tup, isN_lst, Bool.not_true, Bool.not_false, Bool.false_eq_true, if_false, rvD, notInD_bls, map_snd1, map_snd2, wipeD, e2]
        refine seq_setO en ?_
        refine seq_frz_app (i := 6) (xs := ((reachL t s.j i).map fun k => metN 3 pre t k).map D.bl) rfl ?_
        refine sApp_i (d := .bl (metN 3 (pre ++ [s]) t i)) rfl ?_ rfl (by simp; omega) ?_
        · have ca := call_asked (s := s) (t := t) (i := (i : Int)) ⟨⟨hs.k, hs.m⟩, ok, by omega, by omega⟩
          rw [Int.toNat_natCast] at ca
          rw [metN_app ok hi hs.j hne hl3, Int.zero_add]
          simp (disch := first | omega | exact kk_int | exact kk_str | exact kk_tup | exact kk_lst | exact kk_bl | exact kk_non | assumption | decide) only [sFrz, sSeq, sSet, sSetO, sIf, sRet, sRetO, sRetN, sFor, sApp, sNil, sDrop, sAsg, eT, eOp, eC, eL, oLst, eTup, eUn, aCons, aNil, eFn, iE, eSl, pNo, pYes, asI, eV_d0, eV_o0, eV_s, R.bind_ok, R.map_ok, go_ok, asB_bl, kk_int, kk_str, kk_bl, kk_non, kk_tup, kk_lst, true_and, and_true, List.set_cons_succ, List.set_cons_zero, List.getElem?_cons_succ, List.getElem?_cons_zero, addD_int, subD_int, mulD_intL, mulD_intR, fdivD_int, modD_int, ltD_int, leD_int, gtD_int, geD_int, eqD_int, neD_int, eqD_bl, neD_bl, isD_non, notIsD_non, intD_int, negD_int, maxD_int, minD_int, lenD_lst, lenD_bor, lenD_tup, List.length_map, okLen0, okLen1, okLen2, okLen3, okLen4, okLen5, okLen6, okLen7, if_true, eAnd, eOr, eNot, eIf, eAndV, eOrV, eNotV, eChain, ifBl_bl, isN_non, isN_int, isN_bl, isN_str, isN_tup, isN_lst, Bool.not_true, Bool.not_false, Bool.false_eq_true, if_false, rvD, notInD_bls, map_snd1, map_snd2, eCall, ca, inD_bls]
          rw [List.any_map]
          generalize fitsD s (labT t i) (eldL t i).isEmpty = b1
          cases b1 <;> rfl
        · have ea : ((List.range (i + 1)).map fun q => metN 3 (pre ++ [s]) t q).map D.bl = ((List.range i).map fun q => metN 3 (pre ++ [s]) t q).map D.bl ++ [D.bl (metN 3 (pre ++ [s]) t i)] := by
            rw [List.range_succ, List.map_append, List.map_append]; rfl
          rw [← ea]
          exact hnx _ ⟨_, _, _, rfl⟩
  · rw [if_neg hc] at hf
    exact absurd rfl hf
theorem call_lmet {ss : List Step} {t : Tree} (h : OkSel ss ∧ OkTree t) : callR m__law_met [.tup (ss.map Enc.enc), .lst (t.map Enc.enc)] = .ok (.lst ((mkL ss t).map D.bl)) := callR_m2 mo__law_met (⟨ss⟩ : Tup Step) t (rv := .d (.lst ((mkL ss t).map D.bl))) (if_pos h) rfl rfl

end Lw
set_option maxRecDepth 100000
set_option maxHeartbeats 4000000
namespace Lw
open PySem L2 DL
/-! the functions that write and read trees -/
def signN (z : Str) : Nat := z.cps.toList.getD 0 0
def leadS : List Str := ["_", "-", "."]
theorem lead_sign : ∀ z ∈ leadS, z = SS [signN z] ∧ signN z ∈ leads := by decide +kernel
def f__law_tree_text (t : Tree) (z : Str) : R RV := if OkTree t ∧ z ∈ leadS then .ok (.d (.str (SS (textL (signN z) t)))) else .stuck
noncomputable def m__law_tree_text : List D → R RV := runF 2 4 (rRet (eM1 joinD (eC (.str "")) (eL (oComp [2, 3] (iEC (eV 0)) (gT 2 (gC (gV 2) (gC (gV 3) gN))) eYes (eOp addD (eOp addD (eOp mulD (eV 1) (eV 2)) (eV 3)) (eC (.str "\n")))))))
theorem mo__law_tree_text : ∀ a b, f__law_tree_text a b ≠ .stuck → m__law_tree_text [Enc.enc a, Enc.enc b] = f__law_tree_text a b := by
  refine mo2 rfl ?_
  simp only [td_nil, td_seq, td_brk, td_cnt, td_dead, td_retN, td_drop, td_ret, td_retO, td_retV, td_if, td_asg, td_set, td_setO, td_frz, td_app, td_put, td_aug, td_for, td_while, td_thru, td_set2, td_par]
  intro t z hf
  unfold f__law_tree_text at hf ⊢
  by_cases hc : OkTree t ∧ z ∈ leadS
  · rw [if_pos hc]
    obtain ⟨ok, hz⟩ := hc
    obtain ⟨e, hl⟩ := lead_sign z hz
    generalize signN z = c at e hl ⊢
    subst e
    have l := text_len (c := c) ok
    have j := joinD_ls (ys := linesL c t) (by show (textL c t).length ≤ _; omega)
    have rc := rows_comp (c := c) ok .un .un
    show sRet _ (endsOf _) [Sl.d (.lst (t.map Enc.enc)), .d (.str (SS [c])), .un, .un]
    refine sRet_i (d := .str (SS (textL c t))) ?_ rfl rfl
    simp only [eM1, eC, eL, R.bind_ok, R.map_ok, rc]
    exact j
  · rw [if_neg hc] at hf
    exact absurd rfl hf
def f_tree_text (t : Tree) (z : Str) : R RV := if OkTree t ∧ z ∈ leadS then .ok (.d (.str (SS (textL (signN z) t)))) else .stuck
noncomputable def m_tree_text : List D → R RV := runF 2 4 (rSeq (rDrop (eCall m_look_tree (aCons (eV 0) aNil))) (rRet (eM1 joinD (eC (.str "")) (eL (oComp [2, 3] (iEC (eV 0)) (gT 2 (gC (gV 2) (gC (gV 3) gN))) eYes (eOp addD (eOp addD (eOp mulD (eV 1) (eV 2)) (eV 3)) (eC (.str "\n"))))))))
theorem mo_tree_text : ∀ a b, f_tree_text a b ≠ .stuck → m_tree_text [Enc.enc a, Enc.enc b] = f_tree_text a b := by
  refine mo2 rfl ?_
  simp only [td_nil, td_seq, td_brk, td_cnt, td_dead, td_retN, td_drop, td_ret, td_retO, td_retV, td_if, td_asg, td_set, td_setO, td_frz, td_app, td_put, td_aug, td_for, td_while, td_thru, td_set2, td_par]
  intro t z hf
  unfold f_tree_text at hf ⊢
  by_cases hc : OkTree t ∧ z ∈ leadS
  · rw [if_pos hc]
    obtain ⟨ok, hz⟩ := hc
    obtain ⟨e, hl⟩ := lead_sign z hz
    generalize signN z = c at e hl ⊢
    subst e
    have l := text_len (c := c) ok
    have j := joinD_ls (ys := linesL c t) (by show (textL c t).length ≤ _; omega)
    have rc := rows_comp (c := c) ok .un .un
    have lt : callR m_look_tree [.lst (t.map Enc.enc)] = .ok .non := callR_m1 mo_look_tree t (rv := .d .non) (if_pos ok) rfl
    show sSeq _ _ (endsOf _) [Sl.d (.lst (t.map Enc.enc)), .d (.str (SS [c])), .un, .un]
    refine seq_drop (d := .non) ?_ ?_
    · simp (disch := first | omega | exact kk_int | exact kk_str | exact kk_tup | exact kk_lst | exact kk_bl | exact kk_non | assumption | decide) only [sFrz, sSeq, sSet, sSetO, sIf, sRet, sRetO, sRetN, sFor, sApp, sNil, sDrop, sAsg, eT, eOp, eC, eL, oLst, eTup, eUn, aCons, aNil, eFn, iE, eSl, pNo, pYes, asI, eV_d0, eV_o0, eV_s, R.bind_ok, R.map_ok, go_ok, asB_bl, kk_int, kk_str, kk_bl, kk_non, kk_tup, kk_lst, true_and, and_true, List.set_cons_succ, List.set_cons_zero, List.getElem?_cons_succ, List.getElem?_cons_zero, addD_int, subD_int, mulD_intL, mulD_intR, fdivD_int, modD_int, ltD_int, leD_int, gtD_int, geD_int, eqD_int, neD_int, eqD_bl, neD_bl, isD_non, notIsD_non, intD_int, negD_int, maxD_int, minD_int, lenD_lst, lenD_bor, lenD_tup, List.length_map, okLen0, okLen1, okLen2, okLen3, okLen4, okLen5, okLen6, okLen7, if_true, eAnd, eOr, eNot, eIf, eAndV, eOrV, eNotV, eChain, ifBl_bl, isN_non, isN_int, isN_bl, isN_str, isN_tup, isN_lst, Bool.not_true, Bool.not_false, Bool.false_eq_true, if_false, rvD, notInD_bls, map_snd1, map_snd2, eCall, lt]
    refine sRet_i (d := .str (SS (textL c t))) ?_ rfl rfl
    simp only [eM1, eC, eL, R.bind_ok, R.map_ok, rc]
    exact j
  · rw [if_neg hc] at hf
    exact absurd rfl hf
noncomputable def m_tree_of : List D → R RV := runF 2 8 (rSeq (rAsg (eL (eM1 splitO (eV 0) (eC (.str "\n")))) (gS 0 2 (gC (gV 2) (gC (gV 3) gN)))) (rSeq (rSetO 4 (oLst aNil)) (rSeq (rFor (iE (eV 2)) (gV 5) (rSeq (rSet 6 (eM1 lstripD (eV 5) (eV 1))) (rApp 4 (eTup (aCons (eOp subD (eFn lenD (aCons (eV 5) aNil)) (eFn lenD (aCons (eV 6) aNil))) (aCons (eV 6) aNil)))))) (rSeq (rThru (rFrz 4 (rDrop (eCall m_look_tree (aCons (eSl cutD (eV 4) pNo (pYes (eC d_MOST_PARTS))) aNil))))) (rFrz 4 (rSeq (rIf (eOr (eT (eOp gtD (eFn lenD (aCons (eV 4) aNil)) (eC d_MOST_PARTS))) (eT (eOp neD (eV 3) (eC (.str ""))))) (rFrz 4 rDead) rNil) (rRetV 4)))))))
theorem frz_d {i : Nat} {t : TD} {De : EndsD} {ρ : Rho} {d : D} (h : ρ[i]? = some (.d d)) (n : t De ρ) : sFrz i t De ρ := by
  unfold sFrz; rw [h]; exact n
theorem seq_thru {t u : TD} {De : EndsD} {ρ : Rho} (h : t { De with nx := u De, ex := fun _ _ => False } ρ) : sSeq (fun De ρ => t { De with ex := fun _ _ => False } ρ) u De ρ := h
theorem tree_of_run {t : Tree} {c : Nat} (ok : OkTree t) (hc : c ∈ leads) : m_tree_of [.str (SS (textL c t)), .str (SS [c])] = .ok (.d (.lst (t.map Enc.enc))) := by
  refine run_of rfl ?_
  simp only [td_nil, td_seq, td_brk, td_cnt, td_dead, td_retN, td_drop, td_ret, td_retO, td_retV, td_if, td_asg, td_set, td_setO, td_frz, td_app, td_put, td_aug, td_for, td_while, td_thru, td_set2, td_par]
  have hl := ok.le
  have l := text_len (c := c) ok
  have sp := text_split ok hc
  have lt : callR m_look_tree [.lst (t.map Enc.enc)] = .ok .non := callR_m1 mo_look_tree t (rv := .d .non) (if_pos ok) rfl
  show sSeq _ _ (endsOf _) [Sl.d (.str (SS (textL c t))), .d (.str (SS [c])), .un, .un, .un, .un, .un, .un]
  refine seq_asg (d := .lst ((t.map (fun p => D.str (SS (rowL c p)))) ++ [.str ""])) (ρ' := [Sl.d (.str (SS (textL c t))), .d (.str (SS [c])), .d (.lst (t.map fun p => D.str (SS (rowL c p)))), .d (.str ""), .un, .un, .un, .un]) ?_ rfl ?_ ?_
  · simp only [eL, eM1, eC, eV_d0, R.bind_ok, splitO]
    rw [if_pos ⟨rfl, by rw [SX.S_len]; show (textL c t).length + 2 ≤ 16777216; omega⟩, sp, R.map_ok, List.map_append, List.map_map]; rfl
  · simp [gS, starV, starM, gC, gN, gV, show t.length ≤ 16383 by omega]
  refine seq_setO (xs := []) rfl ?_
  refine seq_for (ds := t.map fun p => D.str (SS (rowL c p))) rfl ?_
  refine loop_map (f := fun p => D.str (SS (rowL c p))) (fun rest ρ => ∃ done, t = done ++ rest ∧ ∃ a b e, ρ = [Sl.d (.str (SS (textL c t))), .d (.str (SS [c])), .d (.lst (t.map fun p => D.str (SS (rowL c p)))), .d (.str ""), .own (done.map Enc.enc), a, b, e]) ?_ ?_ ⟨[], rfl, _, _, _, rfl⟩
  · rintro _ ⟨done, e, a, b, e', rfl⟩
    rw [List.append_nil] at e
    subst e
    have n0 : ¬ (60 : Int) < t.length := by omega
    have c60 : cutG (t.map Enc.enc) none (some 60) = t.map Enc.enc := by
      unfold cutG
      rw [HT.sIx_none, List.drop_zero, Nat.sub_zero, List.length_map, show HT.sIx t.length t.length (some (60 : Int)) = min 60 t.length from HT.sIx_nat _ _ 60, List.take_of_length_le (by simp; omega)]
    dsimp only
    refine seq_thru ?_
    refine seq_frz (xs := t.map Enc.enc) rfl ?_
    refine sDrop_i (d := .non) ?_ ?_
    · simp (disch := first | omega | exact kk_int | exact kk_str | exact kk_tup | exact kk_lst | exact kk_bl | exact kk_non | assumption | decide) only [sFrz, sSeq, sSet, sSetO, sIf, sRet, sRetO, sRetN, sFor, sApp, sNil, sDrop, sAsg, eT, eOp, eC, eL, oLst, eTup, eUn, aCons, aNil, eFn, iE, eSl, pNo, pYes, asI, eV_d0, eV_o0, eV_s, R.bind_ok, R.map_ok, go_ok, asB_bl, kk_int, kk_str, kk_bl, kk_non, kk_tup, kk_lst, true_and, and_true, List.set_cons_succ, List.set_cons_zero, List.getElem?_cons_succ, List.getElem?_cons_zero, addD_int, subD_int, mulD_intL, mulD_intR, fdivD_int, modD_int, ltD_int, leD_int, gtD_int, geD_int, eqD_int, neD_int, eqD_bl, neD_bl, isD_non, notIsD_non, intD_int, negD_int, maxD_int, minD_int, lenD_lst, lenD_bor, lenD_tup, List.length_map, okLen0, okLen1, okLen2, okLen3, okLen4, okLen5, okLen6, okLen7, if_true, eAnd, eOr, eNot, eIf, eAndV, eOrV, eNotV, eChain, ifBl_bl, isN_non, isN_int, isN_bl, isN_str, isN_tup, isN_lst, Bool.not_true, Bool.not_false, Bool.false_eq_true, if_false, rvD, notInD_bls, map_snd1, map_snd2, eCall, cutD, c60, lt]
    simp only [List.set_cons_succ, List.set_cons_zero]
    refine frz_d (d := .lst (t.map Enc.enc)) rfl ?_
    refine seq_skip ?_ (sRetV_d rfl rfl)
    have ne : neD (.str "") (.str "") = .ok (.bl (!decide (("" : Str) = ""))) := neD_str (by decide +kernel) (by decide +kernel)
    simp (disch := first | omega | exact kk_int | exact kk_str | exact kk_tup | exact kk_lst | exact kk_bl | exact kk_non | assumption | decide) only [sFrz, sSeq, sSet, sSetO, sIf, sRet, sRetO, sRetN, sFor, sApp, sNil, sDrop, sAsg, eT, eOp, eC, eL, oLst, eTup, eUn, aCons, aNil, eFn, iE, eSl, pNo, pYes, asI, eV_d0, eV_o0, eV_s, R.bind_ok, R.map_ok, go_ok, asB_bl, kk_int, kk_str, kk_bl, kk_non, kk_tup, kk_lst, true_and, and_true, List.set_cons_succ, List.set_cons_zero, List.getElem?_cons_succ, List.getElem?_cons_zero, addD_int, subD_int, mulD_intL, mulD_intR, fdivD_int, modD_int, ltD_int, leD_int, gtD_int, geD_int, eqD_int, neD_int, eqD_bl, neD_bl, isD_non, notIsD_non, intD_int, negD_int, maxD_int, minD_int, lenD_lst, lenD_bor, lenD_tup, List.length_map, okLen0, okLen1, okLen2, okLen3, okLen4, okLen5, okLen6, okLen7, if_true, eAnd, eOr, eNot, eIf, eAndV, eOrV, eNotV, eChain, ifBl_bl, isN_non, isN_int, isN_bl, isN_str, isN_tup, isN_lst, Bool.not_true, Bool.not_false, Bool.false_eq_true, if_false, rvD, notInD_bls, map_snd1, map_snd2, decide_eq_false n0, ne]
    rfl
  · rintro p rest _ ⟨done, e, a, b, e', rfl⟩ ih
    refine ⟨_, rfl, ?_⟩
    have hp : p ∈ t := by rw [e]; exact List.mem_append_right _ (List.mem_cons_self)
    have m := ok.mem hp
    have rl := row_lstrip (c := c) (p := p) hc m.2.2
    have l1 := row_len (c := c) m
    have l2 := labs_len2 _ m.2.2
    have hd : done.length < 60 := by have := congrArg List.length e; simp at this; omega
    refine seq_set (d := .str p.2) ?_ rfl ?_
    · simp only [eM1, eV_s, eV_d0, List.set_cons_succ, List.set_cons_zero, R.bind_ok, lstripD]
      rw [if_pos (by rw [SX.S_len]; show (rowL c p).length ≤ 16777216; omega), rl]
    have ln : ((rowL c p).length : Int) - (p.2.length : Int) = p.1 := by
      unfold rowL
      rw [List.length_append, List.length_replicate]
      show ((p.1.toNat + p.2.cps.toList.length : Nat) : Int) - (p.2.cps.size : Int) = _
      rw [Array.length_toList]
      have := m.1
      omega
    have lr : lenD [.str (SS (rowL c p))] = .ok (.int (rowL c p).length) := by rw [lenD_str (by rw [SX.S_len]; omega), SX.S_len]
    refine sApp_i (xs := done.map Enc.enc) (d := .tup [.int p.1, .str p.2]) rfl ?_ rfl (by simp; omega) ?_
    · simp (disch := first | omega | exact okLen2 rfl rfl) only [eTup, aCons, aNil, eOp, eFn, eV_s, eV_d0, List.set_cons_succ, List.set_cons_zero, R.bind_ok, lr, lenD_str, subD_int, ln, if_pos (okLen2 (a := D.int p.1) (b := D.str p.2) rfl rfl)]
    refine ih _ ⟨done ++ [p], by rw [e]; simp, .d (.str (SS (rowL c p))), .d (.str p.2), e', ?_⟩
    simp only [List.map_append]
    rfl
theorem call_tree_of {t : Tree} {c : Nat} (ok : OkTree t) (hc : c ∈ leads) : callR m_tree_of [.str (SS (textL c t)), .str (SS [c])] = .ok (.lst (t.map Enc.enc)) := callR_of (rv := .d (.lst (t.map Enc.enc))) (tree_of_run ok hc) rfl
theorem call_ltree_text {t : Tree} {c : Nat} (ok : OkTree t) (hc : c ∈ leads) : callR m__law_tree_text [.lst (t.map Enc.enc), .str (SS [c])] = .ok (.str (SS (textL c t))) := by
  have h : SS [c] ∈ leadS ∧ signN (SS [c]) = c := by
    revert hc
    revert c
    decide +kernel
  have := callR_m2 mo__law_tree_text t (SS [c]) (rv := .d (.str (SS (textL c t)))) (by unfold f__law_tree_text; rw [if_pos ⟨ok, h.1⟩, h.2]) rfl rfl
  exact this
theorem call_tree_text {t : Tree} {c : Nat} (ok : OkTree t) (hc : c ∈ leads) : callR m_tree_text [.lst (t.map Enc.enc), .str (SS [c])] = .ok (.str (SS (textL c t))) := by
  have h : SS [c] ∈ leadS ∧ signN (SS [c]) = c := by
    revert hc
    revert c
    decide +kernel
  have := callR_m2 mo_tree_text t (SS [c]) (rv := .d (.str (SS (textL c t)))) (by unfold f_tree_text; rw [if_pos ⟨ok, h.1⟩, h.2]) rfl rfl
  exact this
theorem leads_lt : ∀ c ∈ leads, c < 1114112 := by decide +kernel
theorem textL_ok {t : Tree} {c : Nat} (ok : OkTree t) (hc : c ∈ leads) : PyData.strOk (SS (textL c t)) = true := by
  unfold PyData.strOk
  rw [← Array.all_toList, List.all_eq_true]
  intro x hx
  have hx : x ∈ textL c t := hx
  unfold textL linesL at hx
  obtain ⟨l, hl, hx⟩ := List.mem_flatten.mp hx
  obtain ⟨p, hp, rfl⟩ := List.mem_map.mp hl
  have m := ok.mem hp
  have hc2 : c < 1114112 := leads_lt c hc
  rcases List.mem_append.mp hx with hx | hx
  · unfold rowL at hx
    rcases List.mem_append.mp hx with hx | hx
    · rw [List.eq_of_mem_replicate hx]; exact decide_eq_true hc2
    · have := labs_ok p.2 m.2.2
      unfold PyData.strOk at this
      rw [← Array.all_toList, List.all_eq_true] at this
      exact this x hx
  · rw [List.mem_singleton.mp hx]; rfl

end Lw
set_option maxRecDepth 100000
set_option maxHeartbeats 4000000
namespace Lw
open PySem L2 DL
/-! the drawn selector -/
def selN (d : List Int) : Nat → List Step
  | 0 => [stepD d ""]
  | i + 1 => selN d i ++ [stepD (d.drop (2 + 2 * i)) (jointL (d.getD (3 + 2 * i) 0 / 30))]
def selR (d : List Int) : List Step := selN d (d.getD 0 0 / 7 % 3).toNat
theorem selN_len (d : List Int) : ∀ i, (selN d i).length = i + 1
  | 0 => rfl
  | i + 1 => by unfold selN; rw [List.length_append, selN_len d i]; rfl
theorem selN_ok (d : List Int) : ∀ i, i ≤ 2 → OkSel (selN d i)
  | 0, _ => sel1_ok (stepD_ok d (List.mem_singleton.mpr rfl))
  | i + 1, h => by
    have ih := selN_ok d i (by omega)
    have hl := selN_len d i
    unfold selN
    refine ⟨by simp, by simp; omega, fun s e => ?_, fun s hs => ?_⟩
    · rw [List.getElem?_append_left (by omega)] at e
      exact ih.hd s e
    · rw [List.tail_append_of_ne_nil (by intro z; rw [z] at hl; simp at hl)] at hs
      rcases List.mem_append.mp hs with hs | hs
      · exact ih.tl s hs
      · rw [List.mem_singleton.mp hs]
        exact stepD_ok _ (jointL_mem _)
theorem selR_ok (d : List Int) : OkSel (selR d) := selN_ok d _ (by omega)
def f__law_selector (d : List Int) : R RV := if 6 ≤ d.length then .ok (.d (.tup ((selR d).map Enc.enc))) else .stuck
noncomputable def m__law_selector : List D → R RV := runF 1 3 (rSeq (rSetO 1 (oLst (aCons (eCall m__law_step (aCons (eV 0) (aCons (eC (.str "")) aNil))) aNil))) (rSeq (rFor (iR1 (aCons (eOp modD (eOp fdivD (eOp ixD (eV 0) (eC (.int 0))) (eC (.int 7))) (eC (.int 3))) aNil)) (gV 2) (rApp 1 (eCall m__law_step (aCons (eSl cutD (eV 0) (pYes (eOp addD (eC (.int 2)) (eOp mulD (eC (.int 2)) (eV 2)))) pNo) (aCons (eOp ixD (eC (.str " >+~")) (eOp modD (eOp fdivD (eOp ixD (eV 0) (eOp addD (eC (.int 3)) (eOp mulD (eC (.int 2)) (eV 2)))) (eC (.int 30))) (eC (.int 4)))) aNil))))) (rFrz 1 (rRet (eFn tupleD (aCons (eV 1) aNil))))))
theorem mo__law_selector : ∀ a, f__law_selector a ≠ .stuck → m__law_selector [Enc.enc a] = f__law_selector a := by
  refine mo1 rfl ?_
  simp only [td_nil, td_seq, td_brk, td_cnt, td_dead, td_retN, td_drop, td_ret, td_retO, td_retV, td_if, td_asg, td_set, td_setO, td_frz, td_app, td_put, td_aug, td_for, td_while, td_thru, td_set2, td_par]
  intro d hf
  unfold f__law_selector at hf ⊢
  by_cases hc : 6 ≤ d.length
  · rw [if_pos hc]
    have ix : ∀ i : Int, 0 ≤ i → i < (d.length : Int) → ixD (.lst (d.map D.int)) (.int i) = .ok (.int (d.getD i.toNat 0)) := fun i a b => int_ix a b
    have s0 := call_step (d := d) (j := "") (by omega)
    show sSeq _ _ (endsOf _) [Sl.d (.lst (d.map D.int)), .un, .un]
    refine seq_setO (xs := [Enc.enc (stepD d "")]) ?_ ?_
    · have o1 : okLen [Enc.enc (stepD d "")] := okLen1 rfl
      simp (disch := first | omega | exact kk_int | exact kk_str | exact kk_tup | exact kk_lst | exact kk_bl | exact kk_non | assumption | decide) only [oLst, eCall, aCons, aNil, eC, eV_d0, R.bind_ok, s0, if_pos o1]
    have q0 : 0 ≤ d.getD 0 0 / 7 % 3 := by omega
    have q3 : d.getD 0 0 / 7 % 3 < 3 := by omega
    refine seq_for (ds := rngL 0 1 (d.getD 0 0 / 7 % 3).toNat) ?_ ?_
    · have := iR1_ok (f := aCons (eOp modD (eOp fdivD (eOp ixD (eV 0) (eC (.int 0))) (eC (.int 7))) (eC (.int 3))) aNil) (ρ := [Sl.d (.lst (d.map D.int)), .own [Enc.enc (stepD d "")], .un]) (j := d.getD 0 0 / 7 % 3) (by simp (disch := first | omega | exact kk_int | exact kk_str | exact kk_tup | exact kk_lst | exact kk_bl | exact kk_non | assumption | decide) only [sFrz, sSeq, sSet, sSetO, sIf, sRet, sRetO, sRetN, sFor, sApp, sNil, sDrop, sAsg, eT, eOp, eC, eL, oLst, eTup, eUn, aCons, aNil, eFn, iE, eSl, pNo, pYes, asI, eV_d0, eV_o0, eV_s, R.bind_ok, R.map_ok, go_ok, asB_bl, kk_int, kk_str, kk_bl, kk_non, kk_tup, kk_lst, true_and, and_true, List.set_cons_succ, List.set_cons_zero, List.getElem?_cons_succ, List.getElem?_cons_zero, addD_int, subD_int, mulD_intL, mulD_intR, fdivD_int, modD_int, ltD_int, leD_int, gtD_int, geD_int, eqD_int, neD_int, eqD_bl, neD_bl, isD_non, notIsD_non, intD_int, negD_int, maxD_int, minD_int, lenD_lst, lenD_bor, lenD_tup, List.length_map, okLen0, okLen1, okLen2, okLen3, okLen4, okLen5, okLen6, okLen7, if_true, eAnd, eOr, eNot, eIf, eAndV, eOrV, eNotV, eChain, ifBl_bl, isN_non, isN_int, isN_bl, isN_str, isN_tup, isN_lst, Bool.not_true, Bool.not_false, Bool.false_eq_true, if_false, rvD, notInD_bls, map_snd1, map_snd2, ix, Int.toNat_zero]) (big62_of (by omega) (by omega))
      exact this
    refine loop_rng (lo := 0) (n := (d.getD 0 0 / 7 % 3).toNat) (fun i ρ => ∃ a, ρ = [.d (.lst (d.map D.int)), .own ((selN d i).map Enc.enc), a]) ?_ ?_ ⟨.un, rfl⟩
    · rintro _ ⟨a, rfl⟩
      dsimp only
      refine seq_frz (xs := (selR d).map Enc.enc) rfl ?_
      refine sRet_i (d := .tup ((selR d).map Enc.enc)) ?_ rfl rfl
      have l := (selR_ok d).le
      show tupleD [.lst ((selR d).map Enc.enc)] = _
      rfl
    · rintro i _ nx hi ⟨a, rfl⟩ hnx
      refine ⟨_, rfl, ?_⟩
      have hl := selN_len d i
      have i2 : i < 2 := by omega
      have cj := cut_from (ns := d) (q := 2 + 2 * (i : Int)) (by omega)
      have st := call_step (d := d.drop (2 + 2 * i)) (j := jointL (d.getD (3 + 2 * i) 0 / 30)) (by rw [List.length_drop]; omega)
      have e3 : (3 + 2 * (i : Int)).toNat = 3 + 2 * i := by omega
      have e2 : (2 + 2 * (i : Int)).toNat = 2 + 2 * i := by omega
      have ix3 := ix (3 + 2 * (i : Int)) (by omega) (by omega)
      rw [e3] at ix3
      rw [e2] at cj
      refine sApp_i (xs := (selN d i).map Enc.enc) (d := Enc.enc (stepD (d.drop (2 + 2 * i)) (jointL (d.getD (3 + 2 * i) 0 / 30)))) rfl ?_ rfl (by rw [List.length_map]; omega) ?_
      · simp only [List.set_cons_succ, List.set_cons_zero]
        simp (disch := first | omega | exact kk_int | exact kk_str | exact kk_tup | exact kk_lst | exact kk_bl | exact kk_non | assumption | decide) only [sFrz, sSeq, sSet, sSetO, sIf, sRet, sRetO, sRetN, sFor, sApp, sNil, sDrop, sAsg, eT, eOp, eC, eL, oLst, eTup, eUn, aCons, aNil, eFn, iE, eSl, pNo, pYes, asI, eV_d0, eV_o0, eV_s, R.bind_ok, R.map_ok, go_ok, asB_bl, kk_int, kk_str, kk_bl, kk_non, kk_tup, kk_lst, true_and, and_true, List.set_cons_succ, List.set_cons_zero, List.getElem?_cons_succ, List.getElem?_cons_zero, addD_int, subD_int, mulD_intL, mulD_intR, fdivD_int, modD_int, ltD_int, leD_int, gtD_int, geD_int, eqD_int, neD_int, eqD_bl, neD_bl, isD_non, notIsD_non, intD_int, negD_int, maxD_int, minD_int, lenD_lst, lenD_bor, lenD_tup, List.length_map, okLen0, okLen1, okLen2, okLen3, okLen4, okLen5, okLen6, okLen7, if_true, eAnd, eOr, eNot, eIf, eAndV, eOrV, eNotV, eChain, ifBl_bl, isN_non, isN_int, isN_bl, isN_str, isN_tup, isN_lst, Bool.not_true, Bool.not_false, Bool.false_eq_true, if_false, rvD, notInD_bls, map_snd1, map_snd2, eCall, cutD, Int.zero_add, cj, ix3, joint_ix, st]
      refine hnx _ ⟨.d (.int (0 + (i : Int))), ?_⟩
      rw [show selN d (i + 1) = selN d i ++ [stepD (d.drop (2 + 2 * i)) (jointL (d.getD (3 + 2 * i) 0 / 30))] from rfl, List.map_append]; rfl
  · rw [if_neg hc] at hf
    exact absurd rfl hf
theorem call_selector {d : List Int} (h : 6 ≤ d.length) : callR m__law_selector [.lst (d.map D.int)] = .ok (.tup ((selR d).map Enc.enc)) := callR_m1 mo__law_selector d (rv := .d (.tup ((selR d).map Enc.enc))) (if_pos h) rfl

end Lw
set_option maxRecDepth 100000
set_option maxHeartbeats 4000000
namespace Lw
open PySem L2 DL
/-! ranks of selectors -/
theorem ints_map : ∀ ns : List Int, intsOf (ns.map D.int) = some ns
  | [] => rfl
  | n :: ns => by
    show (intsOf (ns.map D.int)).map (n :: ·) = _
    rw [ints_map ns]; rfl
theorem sumD_ints {ns : List Int} : sumD [.lst (ns.map D.int)] = .ok (.int ns.sum) := by
  show (optR (intsOf (ns.map D.int))).map _ = _
  rw [ints_map]; rfl
theorem sum0D_ints {ns : List Int} : sum0D [.lst (ns.map D.int)] [.int 0] = .ok (.int ns.sum) := by
  show (optR (intsOf (ns.map D.int))).map _ = _
  rw [ints_map]; rfl
def narS (s : Step) : Int := (s.m.length : Int) + if s.f = true then 1 else 0
def rankA (ss : List Step) : Int := (ss.map narS).sum
def rankB (ss : List Step) : Int := ((ss.filter fun s => !decide (s.k = ("*" : Str))).length : Int)
theorem marks_len2 : ∀ z ∈ (["", "x", "y", "xy"] : List Str), z.length ≤ 2 := by decide +kernel
theorem joints_ok : ∀ z ∈ (["", " ", ">", "+", "~"] : List Str), PyData.strOk z = true := by decide +kernel
theorem marks_ok : ∀ z ∈ (["", "x", "y", "xy"] : List Str), PyData.strOk z = true := by decide +kernel
theorem star_ok : PyData.strOk "*" = true := by decide +kernel
theorem OkSel.mem {ss : List Step} (h : OkSel ss) {s : Step} (hs : s ∈ ss) : OkStep ["", " ", ">", "+", "~"] s := by
  cases ss with
  | nil => cases hs
  | cons a r =>
    rcases List.mem_cons.mp hs with rfl | hs
    · have := h.hd s rfl
      exact ⟨by rw [List.mem_singleton.mp this.j]; decide, this.k, this.m⟩
    · have := h.tl s hs
      exact ⟨List.mem_cons_of_mem _ this.j, this.k, this.m⟩
theorem OkSel.goodE {ss : List Step} (h : OkSel ss) : EncP.good ss := fun s hs => by
  have := h.mem hs
  exact ⟨joints_ok _ this.j, kinds_ok _ this.k, marks_ok _ this.m⟩
theorem step_ix1 {s : Step} : ixD (Enc.enc s) (.int 1) = .ok (.str s.k) := rfl
theorem step_ix2 {s : Step} : ixD (Enc.enc s) (.int 2) = .ok (.str s.m) := rfl
theorem step_ix3 {s : Step} : ixD (Enc.enc s) (.int 3) = .ok (.bl s.f) := rfl
theorem step_ix0 {s : Step} : ixD (Enc.enc s) (.int 0) = .ok (.str s.j) := rfl
theorem ne_star {z : Str} (h : z ∈ (["a", "b", "c", "*"] : List Str)) : neD (.str z) (.str "*") = .ok (.bl (!decide (z = ("*" : Str)))) := neD_str (kinds_ok z h) star_ok
theorem rank_sum1 {ss : List Step} (ok : OkSel ss) (a b c d e : Sl) : oComp [2, 3, 4, 5] (iEC (eV 0)) (gT 4 (gC (gV 2) (gC (gV 3) (gC (gV 4) (gC (gV 5) gN))))) eYes (eOp addD (eFn lenD (aCons (eV 4) aNil)) (eFn intD (aCons (eV 5) aNil))) [.d (.tup (ss.map Enc.enc)), a, b, c, d, e] = .ok ((ss.map narS).map D.int) := by
  have h2 := ok.le
  rw [List.map_map]
  refine oComp_ok (ds := ss.map Enc.enc) rfl (by simp; omega) ?_
  refine compD_all (D.int ∘ narS) fun s hs => ⟨_, rfl, ?_, rfl⟩
  have m := marks_len2 _ (ok.mem hs).m
  have lm : lenD [.str s.m] = .ok (.int s.m.length) := lenD_str (by omega)
  simp only [wipeD, List.set_cons_succ, List.set_cons_zero]
  simp (disch := first | omega | exact kk_int | exact kk_str | exact kk_tup | exact kk_lst | exact kk_bl | exact kk_non | assumption | decide) only [sFrz, sSeq, sSet, sSetO, sIf, sRet, sRetO, sRetN, sFor, sApp, sNil, sDrop, sAsg, eT, eOp, eC, eL, oLst, eTup, eUn, aCons, aNil, eFn, iE, eSl, pNo, pYes, asI, eV_d0, eV_o0, eV_s, R.bind_ok, R.map_ok, go_ok, asB_bl, kk_int, kk_str, kk_bl, kk_non, kk_tup, kk_lst, true_and, and_true, List.set_cons_succ, List.set_cons_zero, List.getElem?_cons_succ, List.getElem?_cons_zero, addD_int, subD_int, mulD_intL, mulD_intR, fdivD_int, modD_int, ltD_int, leD_int, gtD_int, geD_int, eqD_int, neD_int, eqD_bl, neD_bl, isD_non, notIsD_non, intD_int, negD_int, maxD_int, minD_int, lenD_lst, lenD_bor, lenD_tup, List.length_map, okLen0, okLen1, okLen2, okLen3, okLen4, okLen5, okLen6, okLen7, if_true, eAnd, eOr, eNot, eIf, eAndV, eOrV, eNotV, eChain, ifBl_bl, isN_non, isN_int, isN_bl, isN_str, isN_tup, isN_lst, Bool.not_true, Bool.not_false, Bool.false_eq_true, if_false, rvD, notInD_bls, map_snd1, map_snd2, lm, intD_bl]
  rfl
theorem rank_cnt1 {ss : List Step} (ok : OkSel ss) (a b c d e : Sl) : oComp [2, 3, 4, 5] (iEC (eV 0)) (gT 4 (gC (gV 2) (gC (gV 3) (gC (gV 4) (gC (gV 5) gN))))) (eT (eOp neD (eV 3) (eC d_ANY))) (eV 3) [.d (.tup (ss.map Enc.enc)), a, b, c, d, e] = .ok ((ss.filter fun s => !decide (s.k = ("*" : Str))).map fun s => D.str s.k) := by
  have h2 := ok.le
  refine oComp_ok (ds := ss.map Enc.enc) rfl (by simp; omega) ?_
  refine compD_ok (fun s : Step => !decide (s.k = ("*" : Str))) (fun s : Step => D.str s.k) fun s hs => ⟨_, rfl, ?_, fun _ => ⟨?_, rfl⟩⟩
  · have ne := ne_star (ok.mem hs).k
    simp only [wipeD, List.set_cons_succ, List.set_cons_zero]
    simp (disch := first | omega | exact kk_int | exact kk_str | exact kk_tup | exact kk_lst | exact kk_bl | exact kk_non | assumption | decide) only [sFrz, sSeq, sSet, sSetO, sIf, sRet, sRetO, sRetN, sFor, sApp, sNil, sDrop, sAsg, eT, eOp, eC, eL, oLst, eTup, eUn, aCons, aNil, eFn, iE, eSl, pNo, pYes, asI, eV_d0, eV_o0, eV_s, R.bind_ok, R.map_ok, go_ok, asB_bl, kk_int, kk_str, kk_bl, kk_non, kk_tup, kk_lst, true_and, and_true, List.set_cons_succ, List.set_cons_zero, List.getElem?_cons_succ, List.getElem?_cons_zero, addD_int, subD_int, mulD_intL, mulD_intR, fdivD_int, modD_int, ltD_int, leD_int, gtD_int, geD_int, eqD_int, neD_int, eqD_bl, neD_bl, isD_non, notIsD_non, intD_int, negD_int, maxD_int, minD_int, lenD_lst, lenD_bor, lenD_tup, List.length_map, okLen0, okLen1, okLen2, okLen3, okLen4, okLen5, okLen6, okLen7, if_true, eAnd, eOr, eNot, eIf, eAndV, eOrV, eNotV, eChain, ifBl_bl, isN_non, isN_int, isN_bl, isN_str, isN_tup, isN_lst, Bool.not_true, Bool.not_false, Bool.false_eq_true, if_false, rvD, notInD_bls, map_snd1, map_snd2, ne]
  · simp only [wipeD, List.set_cons_succ, List.set_cons_zero]
    simp (disch := first | omega | exact kk_int | exact kk_str | exact kk_tup | exact kk_lst | exact kk_bl | exact kk_non | assumption | decide) only [sFrz, sSeq, sSet, sSetO, sIf, sRet, sRetO, sRetN, sFor, sApp, sNil, sDrop, sAsg, eT, eOp, eC, eL, oLst, eTup, eUn, aCons, aNil, eFn, iE, eSl, pNo, pYes, asI, eV_d0, eV_o0, eV_s, R.bind_ok, R.map_ok, go_ok, asB_bl, kk_int, kk_str, kk_bl, kk_non, kk_tup, kk_lst, true_and, and_true, List.set_cons_succ, List.set_cons_zero, List.getElem?_cons_succ, List.getElem?_cons_zero, addD_int, subD_int, mulD_intL, mulD_intR, fdivD_int, modD_int, ltD_int, leD_int, gtD_int, geD_int, eqD_int, neD_int, eqD_bl, neD_bl, isD_non, notIsD_non, intD_int, negD_int, maxD_int, minD_int, lenD_lst, lenD_bor, lenD_tup, List.length_map, okLen0, okLen1, okLen2, okLen3, okLen4, okLen5, okLen6, okLen7, if_true, eAnd, eOr, eNot, eIf, eAndV, eOrV, eNotV, eChain, ifBl_bl, isN_non, isN_int, isN_bl, isN_str, isN_tup, isN_lst, Bool.not_true, Bool.not_false, Bool.false_eq_true, if_false, rvD, notInD_bls, map_snd1, map_snd2]
def f_rank (ss : Tup Step) : R RV := if OkSel ss.l then .ok (.d (.tup [.int (rankA ss.l), .int (rankB ss.l)])) else .stuck
noncomputable def m_rank : List D → R RV := runF 1 6 (rSeq (rDrop (eCall m_look_selector (aCons (eV 0) aNil))) (rSeq (rSet 1 (eFnK sum0D (aCons (eL (oComp [2, 3, 4, 5] (iEC (eV 0)) (gT 4 (gC (gV 2) (gC (gV 3) (gC (gV 4) (gC (gV 5) gN))))) eYes (eOp addD (eFn lenD (aCons (eV 4) aNil)) (eFn intD (aCons (eV 5) aNil))))) aNil) (aCons (eC (.int 0)) aNil))) (rRet (eTup (aCons (eV 1) (aCons (eFn lenD (aCons (eL (oComp [2, 3, 4, 5] (iEC (eV 0)) (gT 4 (gC (gV 2) (gC (gV 3) (gC (gV 4) (gC (gV 5) gN))))) (eT (eOp neD (eV 3) (eC d_ANY))) (eV 3))) aNil)) aNil))))))
theorem mo_rank : ∀ a, f_rank a ≠ .stuck → m_rank [Enc.enc a] = f_rank a := by
  refine mo1 rfl ?_
  simp only [td_nil, td_seq, td_brk, td_cnt, td_dead, td_retN, td_drop, td_ret, td_retO, td_retV, td_if, td_asg, td_set, td_setO, td_frz, td_app, td_put, td_aug, td_for, td_while, td_thru, td_set2, td_par]
  rintro ⟨ss⟩ hf
  unfold f_rank at hf ⊢
  by_cases hc : OkSel ss
  · rw [if_pos hc]
    have lk : callR m_look_selector [.tup (ss.map Enc.enc)] = .ok .non := callR_m1 mo_look_selector (⟨ss⟩ : Tup Step) (rv := .d .non) (if_pos hc) rfl
    show sSeq _ _ (endsOf _) [Sl.d (.tup (ss.map Enc.enc)), .un, .un, .un, .un, .un]
    refine seq_drop (d := .non) ?_ ?_
    · simp (disch := first | omega | exact kk_int | exact kk_str | exact kk_tup | exact kk_lst | exact kk_bl | exact kk_non | assumption | decide) only [sFrz, sSeq, sSet, sSetO, sIf, sRet, sRetO, sRetN, sFor, sApp, sNil, sDrop, sAsg, eT, eOp, eC, eL, oLst, eTup, eUn, aCons, aNil, eFn, iE, eSl, pNo, pYes, asI, eV_d0, eV_o0, eV_s, R.bind_ok, R.map_ok, go_ok, asB_bl, kk_int, kk_str, kk_bl, kk_non, kk_tup, kk_lst, true_and, and_true, List.set_cons_succ, List.set_cons_zero, List.getElem?_cons_succ, List.getElem?_cons_zero, addD_int, subD_int, mulD_intL, mulD_intR, fdivD_int, modD_int, ltD_int, leD_int, gtD_int, geD_int, eqD_int, neD_int, eqD_bl, neD_bl, isD_non, notIsD_non, intD_int, negD_int, maxD_int, minD_int, lenD_lst, lenD_bor, lenD_tup, List.length_map, okLen0, okLen1, okLen2, okLen3, okLen4, okLen5, okLen6, okLen7, if_true, eAnd, eOr, eNot, eIf, eAndV, eOrV, eNotV, eChain, ifBl_bl, isN_non, isN_int, isN_bl, isN_str, isN_tup, isN_lst, Bool.not_true, Bool.not_false, Bool.false_eq_true, if_false, rvD, notInD_bls, map_snd1, map_snd2, eCall, lk]
    refine seq_set (d := .int (rankA ss)) ?_ rfl ?_
    · simp only [eFnK, aCons, aNil, eL, eC, rank_sum1 hc, R.bind_ok, R.map_ok, sum0D_ints]
      rfl
    refine sRet_i (d := .tup [.int (rankA ss), .int (rankB ss)]) ?_ rfl rfl
    simp only [List.set_cons_succ, List.set_cons_zero]
    have o : okLen [D.int (rankA ss), .int (rankB ss)] := okLen2 rfl rfl
    simp only [eTup, aCons, aNil, eFn, eL, eV_s, eV_d0, R.bind_ok, R.map_ok, rank_cnt1 hc, lenD_lst, List.length_map]
    exact if_pos o
  · rw [if_neg hc] at hf
    exact absurd rfl hf
theorem call_rank {ss : List Step} (h : OkSel ss) : callR m_rank [.tup (ss.map Enc.enc)] = .ok (.tup [.int (rankA ss), .int (rankB ss)]) := callR_m1 mo_rank (⟨ss⟩ : Tup Step) (rv := .d (.tup [.int (rankA ss), .int (rankB ss)])) (if_pos h) rfl
theorem rank_sum2 {ss : List Step} (ok : OkSel ss) (a b : Sl) : oComp [2] (iEC (eV 0)) (gV 2) eYes (eOp addD (eFn lenD (aCons (eOp ixD (eV 2) (eC (.int 2))) aNil)) (eFn intD (aCons (eOp ixD (eV 2) (eC (.int 3))) aNil))) [.d (.tup (ss.map Enc.enc)), a, b] = .ok ((ss.map narS).map D.int) := by
  have h2 := ok.le
  rw [List.map_map]
  refine oComp_ok (ds := ss.map Enc.enc) rfl (by simp; omega) ?_
  refine compD_all (D.int ∘ narS) fun s hs => ⟨_, rfl, ?_, rfl⟩
  have m := marks_len2 _ (ok.mem hs).m
  have lm : lenD [.str s.m] = .ok (.int s.m.length) := lenD_str (by omega)
  simp only [wipeD, List.set_cons_succ, List.set_cons_zero]
  simp (disch := first | omega | exact kk_int | exact kk_str | exact kk_tup | exact kk_lst | exact kk_bl | exact kk_non | assumption | decide) only [sFrz, sSeq, sSet, sSetO, sIf, sRet, sRetO, sRetN, sFor, sApp, sNil, sDrop, sAsg, eT, eOp, eC, eL, oLst, eTup, eUn, aCons, aNil, eFn, iE, eSl, pNo, pYes, asI, eV_d0, eV_o0, eV_s, R.bind_ok, R.map_ok, go_ok, asB_bl, kk_int, kk_str, kk_bl, kk_non, kk_tup, kk_lst, true_and, and_true, List.set_cons_succ, List.set_cons_zero, List.getElem?_cons_succ, List.getElem?_cons_zero, addD_int, subD_int, mulD_intL, mulD_intR, fdivD_int, modD_int, ltD_int, leD_int, gtD_int, geD_int, eqD_int, neD_int, eqD_bl, neD_bl, isD_non, notIsD_non, intD_int, negD_int, maxD_int, minD_int, lenD_lst, lenD_bor, lenD_tup, List.length_map, okLen0, okLen1, okLen2, okLen3, okLen4, okLen5, okLen6, okLen7, if_true, eAnd, eOr, eNot, eIf, eAndV, eOrV, eNotV, eChain, ifBl_bl, isN_non, isN_int, isN_bl, isN_str, isN_tup, isN_lst, Bool.not_true, Bool.not_false, Bool.false_eq_true, if_false, rvD, notInD_bls, map_snd1, map_snd2, step_ix2, step_ix3, lm, intD_bl]
  rfl
theorem rank_cnt2 {ss : List Step} (ok : OkSel ss) (a b : Sl) : oComp [2] (iEC (eV 0)) (gV 2) (eT (eOp neD (eOp ixD (eV 2) (eC (.int 1))) (eC (.str "*")))) (eV 2) [.d (.tup (ss.map Enc.enc)), a, b] = .ok ((ss.filter fun s => !decide (s.k = ("*" : Str))).map Enc.enc) := by
  have h2 := ok.le
  refine oComp_ok (ds := ss.map Enc.enc) rfl (by simp; omega) ?_
  refine compD_ok (fun s : Step => !decide (s.k = ("*" : Str))) (fun s : Step => Enc.enc s) fun s hs => ⟨_, rfl, ?_, fun _ => ⟨?_, rfl⟩⟩
  · have ne := ne_star (ok.mem hs).k
    simp only [wipeD, List.set_cons_succ, List.set_cons_zero]
    simp (disch := first | omega | exact kk_int | exact kk_str | exact kk_tup | exact kk_lst | exact kk_bl | exact kk_non | assumption | decide) only [sFrz, sSeq, sSet, sSetO, sIf, sRet, sRetO, sRetN, sFor, sApp, sNil, sDrop, sAsg, eT, eOp, eC, eL, oLst, eTup, eUn, aCons, aNil, eFn, iE, eSl, pNo, pYes, asI, eV_d0, eV_o0, eV_s, R.bind_ok, R.map_ok, go_ok, asB_bl, kk_int, kk_str, kk_bl, kk_non, kk_tup, kk_lst, true_and, and_true, List.set_cons_succ, List.set_cons_zero, List.getElem?_cons_succ, List.getElem?_cons_zero, addD_int, subD_int, mulD_intL, mulD_intR, fdivD_int, modD_int, ltD_int, leD_int, gtD_int, geD_int, eqD_int, neD_int, eqD_bl, neD_bl, isD_non, notIsD_non, intD_int, negD_int, maxD_int, minD_int, lenD_lst, lenD_bor, lenD_tup, List.length_map, okLen0, okLen1, okLen2, okLen3, okLen4, okLen5, okLen6, okLen7, if_true, eAnd, eOr, eNot, eIf, eAndV, eOrV, eNotV, eChain, ifBl_bl, isN_non, isN_int, isN_bl, isN_str, isN_tup, isN_lst, Bool.not_true, Bool.not_false, Bool.false_eq_true, if_false, rvD, notInD_bls, map_snd1, map_snd2, step_ix1, ne]
  · simp only [wipeD, List.set_cons_succ, List.set_cons_zero]
    simp (disch := first | omega | exact kk_int | exact kk_str | exact kk_tup | exact kk_lst | exact kk_bl | exact kk_non | assumption | decide) only [sFrz, sSeq, sSet, sSetO, sIf, sRet, sRetO, sRetN, sFor, sApp, sNil, sDrop, sAsg, eT, eOp, eC, eL, oLst, eTup, eUn, aCons, aNil, eFn, iE, eSl, pNo, pYes, asI, eV_d0, eV_o0, eV_s, R.bind_ok, R.map_ok, go_ok, asB_bl, kk_int, kk_str, kk_bl, kk_non, kk_tup, kk_lst, true_and, and_true, List.set_cons_succ, List.set_cons_zero, List.getElem?_cons_succ, List.getElem?_cons_zero, addD_int, subD_int, mulD_intL, mulD_intR, fdivD_int, modD_int, ltD_int, leD_int, gtD_int, geD_int, eqD_int, neD_int, eqD_bl, neD_bl, isD_non, notIsD_non, intD_int, negD_int, maxD_int, minD_int, lenD_lst, lenD_bor, lenD_tup, List.length_map, okLen0, okLen1, okLen2, okLen3, okLen4, okLen5, okLen6, okLen7, if_true, eAnd, eOr, eNot, eIf, eAndV, eOrV, eNotV, eChain, ifBl_bl, isN_non, isN_int, isN_bl, isN_str, isN_tup, isN_lst, Bool.not_true, Bool.not_false, Bool.false_eq_true, if_false, rvD, notInD_bls, map_snd1, map_snd2]
def f__law_rank (ss : Tup Step) : R RV := if OkSel ss.l then .ok (.d (.tup [.int (rankA ss.l), .int (rankB ss.l)])) else .stuck
noncomputable def m__law_rank : List D → R RV := runF 1 3 (rSeq (rSet 1 (eFn sumD (aCons (eL (oComp [2] (iEC (eV 0)) (gV 2) eYes (eOp addD (eFn lenD (aCons (eOp ixD (eV 2) (eC (.int 2))) aNil)) (eFn intD (aCons (eOp ixD (eV 2) (eC (.int 3))) aNil))))) aNil))) (rRet (eTup (aCons (eV 1) (aCons (eFn lenD (aCons (eL (oComp [2] (iEC (eV 0)) (gV 2) (eT (eOp neD (eOp ixD (eV 2) (eC (.int 1))) (eC (.str "*")))) (eV 2))) aNil)) aNil)))))
theorem mo__law_rank : ∀ a, f__law_rank a ≠ .stuck → m__law_rank [Enc.enc a] = f__law_rank a := by
  refine mo1 rfl ?_
  simp only [td_nil, td_seq, td_brk, td_cnt, td_dead, td_retN, td_drop, td_ret, td_retO, td_retV, td_if, td_asg, td_set, td_setO, td_frz, td_app, td_put, td_aug, td_for, td_while, td_thru, td_set2, td_par]
  rintro ⟨ss⟩ hf
  unfold f__law_rank at hf ⊢
  by_cases hc : OkSel ss
  · rw [if_pos hc]
    show sSeq _ _ (endsOf _) [Sl.d (.tup (ss.map Enc.enc)), .un, .un]
    refine seq_set (d := .int (rankA ss)) ?_ rfl ?_
    · simp only [eFn, aCons, aNil, eL, rank_sum2 hc, R.bind_ok, R.map_ok, sumD_ints]
      rfl
    refine sRet_i (d := .tup [.int (rankA ss), .int (rankB ss)]) ?_ rfl rfl
    simp only [List.set_cons_succ, List.set_cons_zero]
    have o : okLen [D.int (rankA ss), .int (rankB ss)] := okLen2 rfl rfl
    simp only [eTup, aCons, aNil, eFn, eL, eV_s, eV_d0, R.bind_ok, R.map_ok, rank_cnt2 hc, lenD_lst, List.length_map]
    exact if_pos o
  · rw [if_neg hc] at hf
    exact absurd rfl hf
theorem call_lrank {ss : List Step} (h : OkSel ss) : callR m__law_rank [.tup (ss.map Enc.enc)] = .ok (.tup [.int (rankA ss), .int (rankB ss)]) := callR_m1 mo__law_rank (⟨ss⟩ : Tup Step) (rv := .d (.tup [.int (rankA ss), .int (rankB ss)])) (if_pos h) rfl

end Lw
set_option maxRecDepth 100000
set_option maxHeartbeats 4000000
namespace Lw
open PySem L2 DL
/-! selectors as texts -/
abbrev marksL : List Str := ["", "x", "y", "xy"]
abbrev kindsL : List Str := ["a", "b", "c", "*"]
abbrev jointsL : List Str := ["", " ", ">", "+", "~"]
def dotT : List (Str × Str) := [("", ""), ("x", ".x"), ("y", ".y"), ("xy", ".x.y")]
def dotS (m : Str) : Str := (dotT.lookup m).getD ""
def bangS (f : Bool) : Str := if f then "!" else ""
def partsM (m : Str) : List Str := m.cps.toList.map fun c => ⟨#[c]⟩
def ownS (s : Step) : Str := s.k ++ dotS s.m ++ bangS s.f
def stepS (s : Step) : Str := s.j ++ s.k ++ dotS s.m ++ bangS s.f
theorem dot_tab : ∀ m ∈ marksL, dotT.lookup m = some (dotS m) := by decide +kernel
theorem dot_len : ∀ m ∈ marksL, (dotS m).length ≤ 4 := by decide +kernel
theorem kind_len : ∀ k ∈ kindsL, k.length = 1 := by decide +kernel
theorem joint_len : ∀ j ∈ jointsL, j.length ≤ 1 := by decide +kernel
theorem bang_len : ∀ f, (bangS f).length ≤ 1 := by decide +kernel
theorem own_cut : ∀ k ∈ kindsL, ∀ m ∈ marksL, ∀ f : Bool, decide (cutS (ownS ⟨"", k, m, f⟩) (some (-1)) none = "!") = f := by decide +kernel
theorem own_last_ok : ∀ k ∈ kindsL, ∀ m ∈ marksL, ∀ f : Bool, PyData.strOk (cutS (ownS ⟨"", k, m, f⟩) (some (-1)) none) = true := by decide +kernel
theorem own_split : ∀ k ∈ kindsL, ∀ m ∈ marksL, ∀ f : Bool, Txt.split (if f = true then cutS (ownS ⟨"", k, m, f⟩) none (some (-1)) else ownS ⟨"", k, m, f⟩) "." = k :: partsM m := by decide +kernel
theorem own_join : ∀ m ∈ marksL, Txt.join "" (partsM m) = m := by decide +kernel
theorem own_len2 : ∀ k ∈ kindsL, ∀ m ∈ marksL, ∀ f : Bool, (ownS ⟨"", k, m, f⟩).length ≤ 6 := by decide +kernel
theorem parts_len : ∀ m ∈ marksL, (partsM m).length ≤ 2 ∧ (((partsM m).map (·.length)).sum ≤ 2) := by decide +kernel
theorem dots_join : ∀ m ∈ marksL, Txt.join "" ((partsM m).map fun z => "." ++ z) = dotS m ∧ (((partsM m).map fun z => ("." : Str) ++ z).map (·.length)).sum ≤ 4 := by decide +kernel
theorem strs_of : ∀ ys : List Str, strsOf (ys.map D.str) = some ys
  | [] => rfl
  | y :: ys => by
    show (strsOf (ys.map D.str)).map (y :: ·) = _
    rw [strs_of ys]; rfl
theorem joinD_strs {ys : List Str} (h : (ys.map (·.length)).sum ≤ 16777216) : joinD "" (.lst (ys.map D.str)) = .ok (.str (Txt.join "" ys)) := by
  unfold joinD
  dsimp only
  rw [strs_of]
  dsimp only
  rw [show ("" : Str).length = 0 from rfl, Nat.mul_zero, Nat.add_zero, if_pos h]
theorem cat_assoc (a b c : Str) : a ++ b ++ c = a ++ (b ++ c) := TL.ext_tl (by rw [TL.tl_append, TL.tl_append, TL.tl_append, TL.tl_append, List.append_assoc])
theorem cat_len (a b : Str) : (a ++ b).length = a.length + b.length := by
  show (a ++ b).cps.size = a.cps.size + b.cps.size
  rw [Str.cps_append, Array.size_append]
theorem stepS_own (s : Step) : stepS s = s.j ++ ownS s := by
  unfold stepS ownS
  rw [cat_assoc, cat_assoc, cat_assoc]
theorem own_len {s : Step} (h : OkStep jointsL s) : (ownS s).length ≤ 6 := own_len2 _ h.k _ h.m s.f
theorem step_len {s : Step} (h : OkStep jointsL s) : (stepS s).length ≤ 7 := by
  rw [stepS_own, cat_len]
  have := own_len h
  have := joint_len _ h.j
  omega
theorem signs_parts (m : Str) : signs m = (partsM m).map D.str := by
  rw [signs_map]
  unfold partsM
  rw [List.map_map]; rfl
theorem strOk_cat {a b : Str} (h : PyData.strOk a = true) (k : PyData.strOk b = true) : PyData.strOk (a ++ b) = true := by
  unfold PyData.strOk at *
  rw [Str.cps_append, Array.all_append, h, k]; rfl
theorem dot_ok : ∀ m ∈ marksL, PyData.strOk (dotS m) = true := by decide +kernel
theorem bang_ok : ∀ f, PyData.strOk (bangS f) = true := by decide +kernel
theorem stepS_ok {s : Step} (h : OkStep jointsL s) : PyData.strOk (stepS s) = true := strOk_cat (strOk_cat (strOk_cat (joints_ok _ h.j) (kinds_ok _ h.k)) (dot_ok _ h.m)) (bang_ok _)
theorem bang_mul (f : Bool) : mulD (.str "!") (.int (if f = true then 1 else 0)) = .ok (.str (bangS f)) := by
  cases f
  · rw [mulD_str (by decide) (by decide) (by decide)]; exact congrArg (fun z => R.ok (D.str z)) (by decide +kernel)
  · rw [mulD_str (by decide) (by decide) (by decide)]; exact congrArg (fun z => R.ok (D.str z)) (by decide +kernel)
theorem bang_ix (f : Bool) : ixD (.lst [.str "", .str "!"]) (.int (if f = true then 1 else 0)) = .ok (.str (bangS f)) := by
  cases f <;> rfl
def f_step_text (s : Step) : R RV := if OkStep jointsL s then .ok (.d (.str (stepS s))) else .stuck
noncomputable def m_step_text : List D → R RV := runF 1 6 (rSeq (rAsg (eV 0) (gT 4 (gC (gV 1) (gC (gV 2) (gC (gV 3) (gC (gV 4) gN)))))) (rRet (eOp addD (eOp addD (eOp addD (eV 1) (eV 2)) (eM1 joinD (eC (.str "")) (eL (oComp [5] (iEC (eV 3)) (gV 5) eYes (eOp addD (eC (.str ".")) (eV 5)))))) (eOp mulD (eC (.str "!")) (eFn intD (aCons (eV 4) aNil))))))
theorem mo_step_text : ∀ a, f_step_text a ≠ .stuck → m_step_text [Enc.enc a] = f_step_text a := by
  refine mo1 rfl ?_
  simp only [td_nil, td_seq, td_brk, td_cnt, td_dead, td_retN, td_drop, td_ret, td_retO, td_retV, td_if, td_asg, td_set, td_setO, td_frz, td_app, td_put, td_aug, td_for, td_while, td_thru, td_set2, td_par]
  rintro ⟨j, k, m, f⟩ hf
  unfold f_step_text at hf ⊢
  by_cases hc : OkStep jointsL ⟨j, k, m, f⟩
  · rw [if_pos hc]
    show sSeq _ _ (endsOf _) [Sl.d (.tup [.str j, .str k, .str m, .bl f]), .un, .un, .un, .un, .un]
    refine seq_asg (d := .tup [.str j, .str k, .str m, .bl f]) (ρ' := [Sl.d (.tup [.str j, .str k, .str m, .bl f]), .d (.str j), .d (.str k), .d (.str m), .d (.bl f), .un]) rfl rfl rfl ?_
    have pl := parts_len m hc.m
    have dj := dots_join m hc.m
    have lj := joint_len j hc.j
    have lk := kind_len k hc.k
    have ld := dot_len m hc.m
    have lb := bang_len f
    have ec : oComp [5] (iEC (eV 3)) (gV 5) eYes (eOp addD (eC (.str ".")) (eV 5)) [Sl.d (.tup [.str j, .str k, .str m, .bl f]), .d (.str j), .d (.str k), .d (.str m), .d (.bl f), .un] = .ok (((partsM m).map fun z => ("." : Str) ++ z).map D.str) := by
      have ms := marks_len2 m hc.m
      refine oComp_ok (ds := (partsM m).map D.str) ?_ (by rw [List.length_map]; omega) ?_
      · have : m.length ≤ 16777216 := by omega
        show itDC (.str m) = _
        rw [← signs_parts]
        rfl
      · rw [List.map_map]
        refine compD_all (D.str ∘ fun z => ("." : Str) ++ z) fun z hz => ⟨_, rfl, ?_, rfl⟩
        have l1 : z.length = 1 := by
          unfold partsM at hz
          obtain ⟨c, _, rfl⟩ := List.mem_map.mp hz
          rfl
        simp only [wipeD, List.set_cons_succ, List.set_cons_zero]
        simp (disch := first | omega | exact kk_int | exact kk_str | exact kk_tup | exact kk_lst | exact kk_bl | exact kk_non | assumption | decide) only [eOp, eC, eV_s, eV_d0, R.bind_ok]
        exact addD_str (by rw [l1, show ("." : Str).length = 1 from rfl]; omega)
    have jd := joinD_strs (ys := (partsM m).map fun z => ("." : Str) ++ z) (by omega)
    rw [dj.1] at jd
    refine sRet_i (d := .str (stepS ⟨j, k, m, f⟩)) ?_ rfl rfl
    have a1 : addD (.str j) (.str k) = .ok (.str (j ++ k)) := addD_str (by omega)
    have a2 : addD (.str (j ++ k)) (.str (dotS m)) = .ok (.str (j ++ k ++ dotS m)) := addD_str (by rw [cat_len]; omega)
    have a3 : addD (.str (j ++ k ++ dotS m)) (.str (bangS f)) = .ok (.str (stepS ⟨j, k, m, f⟩)) := addD_str (by rw [cat_len, cat_len]; omega)
    simp only [eOp, eM1, eC, eFn, aCons, aNil, eL, ec, eV_s, eV_d0, R.bind_ok, R.map_ok, jd, intD_bl, bang_mul, a1, a2, a3]
  · rw [if_neg hc] at hf
    exact absurd rfl hf
theorem call_step_text {s : Step} (h : OkStep jointsL s) : callR m_step_text [Enc.enc s] = .ok (.str (stepS s)) := callR_m1 mo_step_text s (rv := .d (.str (stepS s))) (if_pos h) rfl
def f__law_step_text (s : Step) : R RV := if OkStep jointsL s then .ok (.d (.str (stepS s))) else .stuck
noncomputable def m__law_step_text : List D → R RV := runF 1 5 (rSeq (rAsg (eV 0) (gT 4 (gC (gV 1) (gC (gV 2) (gC (gV 3) (gC (gV 4) gN)))))) (rRet (eOp addD (eOp addD (eOp addD (eV 1) (eV 2)) (eTab [("", ""), ("x", ".x"), ("y", ".y"), ("xy", ".x.y")] (eV 3))) (eOp ixD (eL (oLst (aCons (eC (.str "")) (aCons (eC (.str "!")) aNil)))) (eFn intD (aCons (eV 4) aNil))))))
theorem mo__law_step_text : ∀ a, f__law_step_text a ≠ .stuck → m__law_step_text [Enc.enc a] = f__law_step_text a := by
  refine mo1 rfl ?_
  simp only [td_nil, td_seq, td_brk, td_cnt, td_dead, td_retN, td_drop, td_ret, td_retO, td_retV, td_if, td_asg, td_set, td_setO, td_frz, td_app, td_put, td_aug, td_for, td_while, td_thru, td_set2, td_par]
  rintro ⟨j, k, m, f⟩ hf
  unfold f__law_step_text at hf ⊢
  by_cases hc : OkStep jointsL ⟨j, k, m, f⟩
  · rw [if_pos hc]
    show sSeq _ _ (endsOf _) [Sl.d (.tup [.str j, .str k, .str m, .bl f]), .un, .un, .un, .un]
    refine seq_asg (d := .tup [.str j, .str k, .str m, .bl f]) (ρ' := [Sl.d (.tup [.str j, .str k, .str m, .bl f]), .d (.str j), .d (.str k), .d (.str m), .d (.bl f)]) rfl rfl rfl ?_
    have lj := joint_len j hc.j
    have lk := kind_len k hc.k
    have ld := dot_len m hc.m
    have lb := bang_len f
    have tb : tabD [("", ""), ("x", ".x"), ("y", ".y"), ("xy", ".x.y")] (.str m) = .ok (.str (dotS m)) := by
      have := dot_tab m hc.m
      unfold dotT at this
      unfold tabD
      dsimp only
      rw [this]
    refine sRet_i (d := .str (stepS ⟨j, k, m, f⟩)) ?_ rfl rfl
    have a1 : addD (.str j) (.str k) = .ok (.str (j ++ k)) := addD_str (by omega)
    have a2 : addD (.str (j ++ k)) (.str (dotS m)) = .ok (.str (j ++ k ++ dotS m)) := addD_str (by rw [cat_len]; omega)
    have a3 : addD (.str (j ++ k ++ dotS m)) (.str (bangS f)) = .ok (.str (stepS ⟨j, k, m, f⟩)) := addD_str (by rw [cat_len, cat_len]; omega)
    have o : okLen [D.str "", .str "!"] := okLen2 rfl rfl
    simp only [eOp, eTab, eC, eFn, aCons, aNil, eL, oLst, eV_s, eV_d0, R.bind_ok, R.map_ok, if_pos o, intD_bl, bang_ix, tb, a1, a2, a3]
  · rw [if_neg hc] at hf
    exact absurd rfl hf
theorem call_lstep_text {s : Step} (h : OkStep jointsL s) : callR m__law_step_text [Enc.enc s] = .ok (.str (stepS s)) := callR_m1 mo__law_step_text s (rv := .d (.str (stepS s))) (if_pos h) rfl
theorem sel_text_comp {g : Step → D} {m : List D → R RV} {ss : List Step} (ok : OkSel ss) (h : ∀ s ∈ ss, callR m [Enc.enc s] = .ok (.str (stepS s))) (a : Sl) : oComp [1] (iEC (eV 0)) (gV 1) eYes (eCall m (aCons (eV 1) aNil)) [.d (.tup (ss.map Enc.enc)), a] = .ok ((ss.map stepS).map D.str) := by
  have h2 := ok.le
  rw [List.map_map]
  refine oComp_ok (ds := ss.map Enc.enc) rfl (by simp; omega) ?_
  refine compD_all (D.str ∘ stepS) fun s hs => ⟨_, rfl, ?_, rfl⟩
  have c := h s hs
  simp only [wipeD, List.set_cons_succ, List.set_cons_zero]
  simp (disch := first | omega | exact kk_int | exact kk_str | exact kk_tup | exact kk_lst | exact kk_bl | exact kk_non | assumption | decide) only [eCall, aCons, aNil, eV_s, eV_d0, R.bind_ok, c]
  rfl
def selS (ss : List Step) : Str := Txt.join "" (ss.map stepS)
theorem sel_sum {ss : List Step} (ok : OkSel ss) : ((ss.map stepS).map (·.length)).sum ≤ 21 := by
  have key : ∀ l : List Step, (∀ s ∈ l, OkStep jointsL s) → ((l.map stepS).map (·.length)).sum ≤ 7 * l.length := by
    intro l
    induction l with
    | nil => intro _; exact Nat.le_refl _
    | cons s l ih =>
      intro h
      have := ih fun x hx => h x (List.mem_cons_of_mem _ hx)
      have := step_len (h s (List.mem_cons_self))
      rw [List.map_cons, List.map_cons, List.sum_cons, List.length_cons]
      omega
  have := key ss fun s hs => ok.mem hs
  have := ok.le
  omega
def f_selector_text (ss : Tup Step) : R RV := if OkSel ss.l then .ok (.d (.str (selS ss.l))) else .stuck
noncomputable def m_selector_text : List D → R RV := runF 1 2 (rSeq (rDrop (eCall m_look_selector (aCons (eV 0) aNil))) (rRet (eM1 joinD (eC (.str "")) (eL (oComp [1] (iEC (eV 0)) (gV 1) eYes (eCall m_step_text (aCons (eV 1) aNil)))))))
theorem mo_selector_text : ∀ a, f_selector_text a ≠ .stuck → m_selector_text [Enc.enc a] = f_selector_text a := by
  refine mo1 rfl ?_
  simp only [td_nil, td_seq, td_brk, td_cnt, td_dead, td_retN, td_drop, td_ret, td_retO, td_retV, td_if, td_asg, td_set, td_setO, td_frz, td_app, td_put, td_aug, td_for, td_while, td_thru, td_set2, td_par]
  rintro ⟨ss⟩ hf
  unfold f_selector_text at hf ⊢
  by_cases hc : OkSel ss
  · rw [if_pos hc]
    have lk : callR m_look_selector [.tup (ss.map Enc.enc)] = .ok .non := callR_m1 mo_look_selector (⟨ss⟩ : Tup Step) (rv := .d .non) (if_pos hc) rfl
    have sm := sel_sum hc
    have jd := joinD_strs (ys := ss.map stepS) (by omega)
    show sSeq _ _ (endsOf _) [Sl.d (.tup (ss.map Enc.enc)), .un]
    refine seq_drop (d := .non) ?_ ?_
    · simp (disch := first | omega | exact kk_int | exact kk_str | exact kk_tup | exact kk_lst | exact kk_bl | exact kk_non | assumption | decide) only [sFrz, sSeq, sSet, sSetO, sIf, sRet, sRetO, sRetN, sFor, sApp, sNil, sDrop, sAsg, eT, eOp, eC, eL, oLst, eTup, eUn, aCons, aNil, eFn, iE, eSl, pNo, pYes, asI, eV_d0, eV_o0, eV_s, R.bind_ok, R.map_ok, go_ok, asB_bl, kk_int, kk_str, kk_bl, kk_non, kk_tup, kk_lst, true_and, and_true, List.set_cons_succ, List.set_cons_zero, List.getElem?_cons_succ, List.getElem?_cons_zero, addD_int, subD_int, mulD_intL, mulD_intR, fdivD_int, modD_int, ltD_int, leD_int, gtD_int, geD_int, eqD_int, neD_int, eqD_bl, neD_bl, isD_non, notIsD_non, intD_int, negD_int, maxD_int, minD_int, lenD_lst, lenD_bor, lenD_tup, List.length_map, okLen0, okLen1, okLen2, okLen3, okLen4, okLen5, okLen6, okLen7, if_true, eAnd, eOr, eNot, eIf, eAndV, eOrV, eNotV, eChain, ifBl_bl, isN_non, isN_int, isN_bl, isN_str, isN_tup, isN_lst, Bool.not_true, Bool.not_false, Bool.false_eq_true, if_false, rvD, notInD_bls, map_snd1, map_snd2, eCall, lk]
    refine sRet_i (d := .str (selS ss)) ?_ rfl rfl
    simp only [eM1, eC, eL, R.bind_ok, R.map_ok, sel_text_comp (g := Enc.enc) hc (fun s hs => call_step_text (hc.mem hs)), jd]
    rfl
  · rw [if_neg hc] at hf
    exact absurd rfl hf
theorem call_selector_text {ss : List Step} (h : OkSel ss) : callR m_selector_text [.tup (ss.map Enc.enc)] = .ok (.str (selS ss)) := callR_m1 mo_selector_text (⟨ss⟩ : Tup Step) (rv := .d (.str (selS ss))) (if_pos h) rfl
def f__law_selector_text (ss : Tup Step) : R RV := if OkSel ss.l then .ok (.d (.str (selS ss.l))) else .stuck
noncomputable def m__law_selector_text : List D → R RV := runF 1 2 (rRet (eM1 joinD (eC (.str "")) (eL (oComp [1] (iEC (eV 0)) (gV 1) eYes (eCall m__law_step_text (aCons (eV 1) aNil))))))
theorem mo__law_selector_text : ∀ a, f__law_selector_text a ≠ .stuck → m__law_selector_text [Enc.enc a] = f__law_selector_text a := by
  refine mo1 rfl ?_
  simp only [td_nil, td_seq, td_brk, td_cnt, td_dead, td_retN, td_drop, td_ret, td_retO, td_retV, td_if, td_asg, td_set, td_setO, td_frz, td_app, td_put, td_aug, td_for, td_while, td_thru, td_set2, td_par]
  rintro ⟨ss⟩ hf
  unfold f__law_selector_text at hf ⊢
  by_cases hc : OkSel ss
  · rw [if_pos hc]
    have sm := sel_sum hc
    have jd := joinD_strs (ys := ss.map stepS) (by omega)
    show sRet _ (endsOf _) [Sl.d (.tup (ss.map Enc.enc)), .un]
    refine sRet_i (d := .str (selS ss)) ?_ rfl rfl
    simp only [eM1, eC, eL, R.bind_ok, R.map_ok, sel_text_comp (g := Enc.enc) hc (fun s hs => call_lstep_text (hc.mem hs)), jd]
    rfl
  · rw [if_neg hc] at hf
    exact absurd rfl hf
theorem call_lselector_text {ss : List Step} (h : OkSel ss) : callR m__law_selector_text [.tup (ss.map Enc.enc)] = .ok (.str (selS ss)) := callR_m1 mo__law_selector_text (⟨ss⟩ : Tup Step) (rv := .d (.str (selS ss))) (if_pos h) rfl
/-! read back -/
noncomputable def m_step_of : List D → R RV := runF 2 6 (rSeq (rSet 2 (eOp eqD (eSl cutD (eV 0) (pYes (eUn negD (eC (.int 1)))) pNo) (eC (.str "!")))) (rSeq (rAsg (eL (eM1 splitO (eIf (eT (eV 2)) (eSl cutD (eV 0) pNo (pYes (eUn negD (eC (.int 1))))) (eV 0)) (eC (.str ".")))) (gS 1 2 (gC (gV 3) (gC (gV 4) gN)))) (rSeq (rSet 5 (eTup (aCons (eV 1) (aCons (eV 3) (aCons (eM1 joinD (eC (.str "")) (eV 4)) (aCons (eV 2) aNil)))))) (rSeq (rIf (eOr (eT (eOp notInD (eM1 joinD (eC (.str "")) (eV 4)) (eC d_MARKS))) (eT (eOp neD (eCall m_step_text (aCons (eV 5) aNil)) (eOp addD (eV 1) (eV 0))))) rDead rNil) (rRet (eV 5))))))
theorem own_eq (s : Step) : ownS s = ownS ⟨"", s.k, s.m, s.f⟩ := rfl
theorem own_ok {s : Step} (h : OkStep jointsL s) : PyData.strOk (ownS s) = true := strOk_cat (strOk_cat (kinds_ok _ h.k) (dot_ok _ h.m)) (bang_ok _)
theorem bang_str_ok : PyData.strOk "!" = true := by decide +kernel
theorem step_of_run {s : Step} (h : OkStep jointsL s) : m_step_of [.str (ownS s), .str s.j] = .ok (.d (Enc.enc s)) := by
  refine run_of rfl ?_
  simp only [td_nil, td_seq, td_brk, td_cnt, td_dead, td_retN, td_drop, td_ret, td_retO, td_retV, td_if, td_asg, td_set, td_setO, td_frz, td_app, td_put, td_aug, td_for, td_while, td_thru, td_set2, td_par]
  have ol := own_len h
  have lj := joint_len _ h.j
  have ct := call_step_text h
  have sp := own_split _ h.k _ h.m s.f
  have jn := own_join _ h.m
  have oc := own_cut _ h.k _ h.m s.f
  have lo := own_last_ok _ h.k _ h.m s.f
  rw [← own_eq] at sp oc lo
  have pl := parts_len _ h.m
  obtain ⟨j, k, m, f⟩ := s
  show sSeq _ _ (endsOf _) [Sl.d (.str (ownS ⟨j, k, m, f⟩)), .d (.str j), .un, .un, .un, .un]
  generalize ew : ownS ⟨j, k, m, f⟩ = w at *
  have c1 : cutD (.str w) (some (-1)) none = .ok (.str (cutS w (some (-1)) none)) := if_pos (show w.length ≤ 16777216 by omega)
  have c2 : cutD (.str w) none (some (-1)) = .ok (.str (cutS w none (some (-1)))) := if_pos (show w.length ≤ 16777216 by omega)
  have e1 : eqD (.str (cutS w (some (-1)) none)) (.str "!") = .ok (.bl f) := by rw [eqD_str lo bang_str_ok, oc]
  refine seq_set (d := .bl f) ?_ rfl ?_
  · simp (disch := first | omega | exact kk_int | exact kk_str | exact kk_tup | exact kk_lst | exact kk_bl | exact kk_non | assumption | decide) only [sFrz, sSeq, sSet, sSetO, sIf, sRet, sRetO, sRetN, sFor, sApp, sNil, sDrop, sAsg, eT, eOp, eC, eL, oLst, eTup, eUn, aCons, aNil, eFn, iE, eSl, pNo, pYes, asI, eV_d0, eV_o0, eV_s, R.bind_ok, R.map_ok, go_ok, asB_bl, kk_int, kk_str, kk_bl, kk_non, kk_tup, kk_lst, true_and, and_true, List.set_cons_succ, List.set_cons_zero, List.getElem?_cons_succ, List.getElem?_cons_zero, addD_int, subD_int, mulD_intL, mulD_intR, fdivD_int, modD_int, ltD_int, leD_int, gtD_int, geD_int, eqD_int, neD_int, eqD_bl, neD_bl, isD_non, notIsD_non, intD_int, negD_int, maxD_int, minD_int, lenD_lst, lenD_bor, lenD_tup, List.length_map, okLen0, okLen1, okLen2, okLen3, okLen4, okLen5, okLen6, okLen7, if_true, eAnd, eOr, eNot, eIf, eAndV, eOrV, eNotV, eChain, ifBl_bl, isN_non, isN_int, isN_bl, isN_str, isN_tup, isN_lst, Bool.not_true, Bool.not_false, Bool.false_eq_true, if_false, rvD, notInD_bls, map_snd1, map_snd2, c1, e1]
  simp only [List.set_cons_succ, List.set_cons_zero]
  have so : ∀ z : Str, z.length ≤ 6 → splitO z (.str ".") = .ok ((Txt.split z ".").map D.str) := fun z hz => if_pos ⟨rfl, show z.length + 2 ≤ 16777216 by omega⟩
  have cl : (cutS w none (some (-1))).length ≤ w.length := by
    unfold cutS
    show ((cutG w.cps.toList none (some (-1))).toArray).size ≤ w.cps.size
    unfold cutG
    simp
    omega
  refine seq_asg (d := .lst ((k :: partsM m).map D.str)) (ρ' := [Sl.d (.str w), .d (.str j), .d (.bl f), .d (.str k), .d (.lst ((partsM m).map D.str)), .un]) ?_ rfl ?_ ?_
  · simp only [eL, eM1, eIf, eT, eC, eSl, pNo, pYes, eUn, eV_s, eV_d0, R.bind_ok, asB_bl, negD_int, asI, c2]
    cases f
    · rw [if_neg Bool.false_ne_true] at sp
      simp only [Bool.false_eq_true, if_false, R.bind_ok, R.map_ok, so w (by omega), sp]
    · rw [if_pos rfl] at sp
      simp only [if_true, R.bind_ok, R.map_ok, so _ (Nat.le_trans cl (by omega)), sp]
  · have hq : (partsM m).length ≤ 16383 := Nat.le_trans pl.1 (by decide : 2 ≤ 16383)
    simp [gS, starV, starM, gC, gN, gV, hq]
    rw [List.drop_of_length_le (by simp), List.take_of_length_le (by simp)]
  have jd := joinD_strs (ys := partsM m) (Nat.le_trans (show _ ≤ 2 from pl.2) (by decide))
  rw [jn] at jd
  have o4 : okLen [D.str j, .str k, .str m, .bl f] := okLen4 rfl rfl rfl rfl
  refine seq_set (d := Enc.enc (⟨j, k, m, f⟩ : Step)) ?_ rfl ?_
  · simp only [eTup, aCons, aNil, eM1, eC, eV_s, eV_d0, R.bind_ok, jd, if_pos o4]
    rfl
  simp only [List.set_cons_succ, List.set_cons_zero]
  have nm : notInD (.str m) d_MARKS = .ok (.bl false) := by
    rw [show notInD (.str m) d_MARKS = .ok (.bl (!marksL.contains m)) from notInD_tupS, cont h.m]; rfl
  have ad : addD (.str j) (.str w) = .ok (.str (stepS ⟨j, k, m, f⟩)) := by
    rw [addD_str (Nat.le_trans (Nat.add_le_add (show j.length ≤ 1 from lj) ol) (by decide)), stepS_own, ew]
  have ne : neD (.str (stepS ⟨j, k, m, f⟩)) (.str (stepS ⟨j, k, m, f⟩)) = .ok (.bl (!decide (stepS ⟨j, k, m, f⟩ = stepS ⟨j, k, m, f⟩))) := neD_str (stepS_ok h) (stepS_ok h)
  refine seq_skip ?_ (sRet_i (d := Enc.enc (⟨j, k, m, f⟩ : Step)) rfl rfl rfl)
  simp only [eOr, eT, eOp, eM1, eC, eCall, aCons, aNil, eV_s, eV_d0, R.bind_ok, jd, nm, asB_bl, Bool.false_eq_true, if_false, ct, ad, ne, decide_true, Bool.not_true]
theorem call_step_of {s : Step} (h : OkStep jointsL s) : callR m_step_of [.str (ownS s), .str s.j] = .ok (Enc.enc s) := callR_of (rv := .d (Enc.enc s)) (step_of_run h) rfl
/-! a whole selector read back, sign by sign -/
noncomputable def m_selector_of : List D → R RV := runF 1 6 (rSeq (rSetO 1 (oLst aNil)) (rSeq (rSet2 2 3 (eC (.str ""))) (rSeq (rFor (iE (eV 0)) (gV 4) (rIf (eT (eOp inD (eV 4) (eC d_JOINTS))) (rSeq (rApp 1 (eCall m_step_of (aCons (eV 3) (aCons (eV 2) aNil)))) (rPar 2 3 (eV 4) (eC (.str "")))) (rAug 3 iaddD (eV 4)))) (rSeq (rApp 1 (eCall m_step_of (aCons (eV 3) (aCons (eV 2) aNil)))) (rSeq (rThru (rFrz 1 (rDrop (eCall m_look_selector (aCons (eFn tupleD (aCons (eV 1) aNil)) aNil))))) (rFrz 1 (rRet (eFn tupleD (aCons (eV 1) aNil)))))))))
def plainC : List Nat := [97, 98, 99, 42, 46, 120, 121, 33]
theorem signs_own : ∀ k ∈ kindsL, ∀ m ∈ marksL, ∀ f : Bool, ∀ c ∈ (ownS ⟨"", k, m, f⟩).cps.toList, c ∈ plainC := by decide +kernel
theorem joint_sign : ∀ j ∈ ([" ", ">", "+", "~"] : List Str), ∃ c ∈ ([32, 62, 43, 126] : List Nat), j.cps.toList = [c] := by decide +kernel
theorem joint_in : ∀ c ∈ ([32, 62, 43, 126] : List Nat), ([32, 62, 43, 126] : List Nat).contains c = true := by decide
def restL (ss : List Step) : List Nat := (ss.map fun s => (stepS s).cps.toList).flatten
theorem selS_list (ss : List Step) : (selS ss).cps.toList = restL ss := by
  have e := SX.join_S [] (ss.map fun s => (stepS s).cps.toList)
  rw [List.map_map] at e
  have e2 : (SX.S ∘ fun s => (stepS s).cps.toList) = stepS := by
    funext s
    exact SX.S_tl (stepS s)
  rw [e2, join_none] at e
  unfold selS
  rw [show ("" : Str) = SX.S [] from nil_str, e]
  rfl
theorem tl_step (s : Step) : (stepS s).cps.toList = s.j.cps.toList ++ (ownS s).cps.toList := by
  rw [stepS_own]
  exact TL.tl_append _ _
theorem signs_list (z : Str) : signs z = z.cps.toList.map fun c => D.str (SX.S [c]) := by
  rw [signs_map]
theorem in_plain : ∀ c ∈ plainC, inS (SX.S [c]) " >+~" = false := by decide +kernel
theorem in_joint : ∀ c ∈ ([32, 62, 43, 126] : List Nat), inS (SX.S [c]) " >+~" = true := by decide +kernel
theorem selector_of_run {ss : List Step} (ok : OkSel ss) : m_selector_of [.str (selS ss)] = .ok (.d (.tup (ss.map Enc.enc))) := by
  refine run_of rfl ?_
  simp only [td_nil, td_seq, td_brk, td_cnt, td_dead, td_retN, td_drop, td_ret, td_retO, td_retV, td_if, td_asg, td_set, td_setO, td_frz, td_app, td_put, td_aug, td_for, td_while, td_thru, td_set2, td_par]
  cases ss with
  | nil => exact absurd ok.ne (by decide)
  | cons s0 r =>
  have h3 := ok.le
  show sSeq _ _ (endsOf _) [Sl.d (.str (selS (s0 :: r))), .un, .un, .un, .un, .un]
  refine seq_setO (xs := []) rfl ?_
  refine seq_set2 (d := .str "") rfl rfl ?_
  simp only [List.set_cons_succ, List.set_cons_zero]
  have j0 : s0.j = "" := List.mem_singleton.mp (ok.hd s0 rfl).j
  refine seq_for (ds := (restL (s0 :: r)).map fun c => D.str (SX.S [c])) ?_ ?_
  · show R.ok (signs (selS (s0 :: r))) = _
    rw [signs_list, selS_list]
  have sub : ∀ done s more, s0 :: r = done ++ s :: more → OkStep jointsL s ∧ done.length ≤ 2 ∧ (∀ x ∈ more, x.j ∈ ([" ", ">", "+", "~"] : List Str)) := by
    intro done s more e
    refine ⟨ok.mem (by rw [e]; simp), ?_, fun x hx => ?_⟩
    · have := congrArg List.length e
      simp at this h3
      omega
    · refine (ok.tl x ?_).j
      have : (s0 :: r).tail = (done ++ s :: more).tail := by rw [e]
      rw [this]
      cases done with
      | nil => exact hx
      | cons a d => simp [hx]
  refine loop_map (f := fun c => D.str (SX.S [c])) (fun rest ρ => ∃ done s p q more a b, s0 :: r = done ++ s :: more ∧ (ownS s).cps.toList = p ++ q ∧ rest = q ++ restL more ∧ ρ = [.d (.str (selS (s0 :: r))), .own (done.map Enc.enc), .d (.str s.j), .d (.str (SX.S p)), a, b]) ?_ ?_ ⟨[], s0, [], (ownS s0).cps.toList, r, .un, .un, rfl, rfl, ?_, ?_⟩
  · rintro _ ⟨done, s, p, q, more, a, b, e, eo, er, rfl⟩
    obtain ⟨os, dl, hm⟩ := sub done s more e
    have eq : q = [] := (List.append_eq_nil_iff.mp er.symm).1
    have em : more = [] := by
      have z := (List.append_eq_nil_iff.mp er.symm).2
      cases more with
      | nil => rfl
      | cons x m =>
        obtain ⟨c, _, hc⟩ := joint_sign _ (hm x (List.mem_cons_self))
        unfold restL at z
        rw [List.map_cons, List.flatten_cons, tl_step, hc] at z
        cases z
    subst eq em
    rw [List.append_nil] at eo
    have ep : SX.S p = ownS s := by rw [← eo]
    have cs := call_step_of os
    dsimp only
    refine seq_app (xs := done.map Enc.enc) (d := Enc.enc s) rfl ?_ rfl (by rw [List.length_map]; omega) ?_
    · simp only [eCall, aCons, aNil, eV_s, eV_d0, R.bind_ok, ep, cs]
    simp only [List.set_cons_succ, List.set_cons_zero]
    have e5 : done.map Enc.enc ++ [Enc.enc s] = (s0 :: r).map Enc.enc := by rw [e, List.map_append]; rfl
    rw [e5]
    have lk : callR m_look_selector [.tup ((s0 :: r).map Enc.enc)] = .ok .non := callR_m1 mo_look_selector (⟨s0 :: r⟩ : Tup Step) (rv := .d .non) (if_pos ok) rfl
    refine seq_thru ?_
    refine seq_frz (xs := (s0 :: r).map Enc.enc) rfl ?_
    refine sDrop_i (d := .non) ?_ ?_
    · simp only [List.set_cons_succ, List.set_cons_zero, eCall, eFn, aCons, aNil, eV_s, eV_d0, R.bind_ok, show tupleD [.lst ((s0 :: r).map Enc.enc)] = .ok (.tup ((s0 :: r).map Enc.enc)) from rfl, lk]
    simp only [List.set_cons_succ, List.set_cons_zero]
    refine frz_d (d := .lst ((s0 :: r).map Enc.enc)) rfl ?_
    exact sRet_i (d := .tup ((s0 :: r).map Enc.enc)) rfl rfl rfl
  · rintro x xs _ ⟨done, s, p, q, more, a, b, e, eo, er, rfl⟩ ih
    obtain ⟨os, dl, hm⟩ := sub done s more e
    have ol := own_len os
    refine ⟨_, rfl, ?_⟩
    have pl : p.length ≤ 6 := by
      have := congrArg List.length eo
      rw [List.length_append] at this
      have z : (ownS s).length = (ownS s).cps.toList.length := (Array.length_toList).symm
      omega
    cases q with
    | cons c q' =>
      rw [List.cons_append] at er
      cases er
      have hp : x ∈ plainC := by
        have := signs_own _ os.k _ os.m s.f
        rw [← own_eq] at this
        exact this x (by rw [eo]; simp)
      refine sIf_no ?_ (sAug_i (x := .str (SX.S p)) (y := .str (SX.S [x])) (z := .str (SX.S (p ++ [x]))) rfl rfl ?_ rfl ?_)
      · simp only [List.set_cons_succ, List.set_cons_zero]
        simp (disch := first | omega | exact kk_int | exact kk_str | exact kk_tup | exact kk_lst | exact kk_bl | exact kk_non | assumption | decide) only [sFrz, sSeq, sSet, sSetO, sIf, sRet, sRetO, sRetN, sFor, sApp, sNil, sDrop, sAsg, eT, eOp, eC, eL, oLst, eTup, eUn, aCons, aNil, eFn, iE, eSl, pNo, pYes, asI, eV_d0, eV_o0, eV_s, R.bind_ok, R.map_ok, go_ok, asB_bl, kk_int, kk_str, kk_bl, kk_non, kk_tup, kk_lst, true_and, and_true, List.set_cons_succ, List.set_cons_zero, List.getElem?_cons_succ, List.getElem?_cons_zero, addD_int, subD_int, mulD_intL, mulD_intR, fdivD_int, modD_int, ltD_int, leD_int, gtD_int, geD_int, eqD_int, neD_int, eqD_bl, neD_bl, isD_non, notIsD_non, intD_int, negD_int, maxD_int, minD_int, lenD_lst, lenD_bor, lenD_tup, List.length_map, okLen0, okLen1, okLen2, okLen3, okLen4, okLen5, okLen6, okLen7, if_true, eAnd, eOr, eNot, eIf, eAndV, eOrV, eNotV, eChain, ifBl_bl, isN_non, isN_int, isN_bl, isN_str, isN_tup, isN_lst, Bool.not_true, Bool.not_false, Bool.false_eq_true, if_false, rvD, notInD_bls, map_snd1, map_snd2, inD_str, in_plain x hp]
      · show (if (SX.S p).length + (SX.S [x]).length ≤ sizeLine then R.ok (D.str (SX.S p ++ SX.S [x])) else .stuck) = _
        rw [if_pos (by rw [SX.S_len, SX.S_len]; show p.length + 1 ≤ 16777216; omega), SX.S_cat]
      · exact ih _ ⟨done, s, p ++ [x], q', more, .d (.str (SX.S [x])), b, e, by rw [eo]; simp, rfl, rfl⟩
    | nil =>
      rw [List.nil_append] at er
      rw [List.append_nil] at eo
      have ep : SX.S p = ownS s := by rw [← eo]
      have cs := call_step_of os
      cases more with
      | nil => cases er
      | cons s' more' =>
        obtain ⟨c, hc, jc⟩ := joint_sign _ (hm s' (List.mem_cons_self))
        have er2 : x :: xs = c :: ((ownS s').cps.toList ++ restL more') := by
          rw [er]
          unfold restL
          rw [List.map_cons, List.flatten_cons, tl_step, jc]; simp
        cases er2
        have ej : s'.j = SX.S [x] := by rw [← jc]
        refine sIf_yes ?_ (seq_app (xs := done.map Enc.enc) (d := Enc.enc s) rfl ?_ rfl (by rw [List.length_map]; omega) (sPar_i (a := .str (SX.S [x])) (b := .str "") rfl rfl rfl rfl ?_))
        · simp only [List.set_cons_succ, List.set_cons_zero]
          simp (disch := first | omega | exact kk_int | exact kk_str | exact kk_tup | exact kk_lst | exact kk_bl | exact kk_non | assumption | decide) only [sFrz, sSeq, sSet, sSetO, sIf, sRet, sRetO, sRetN, sFor, sApp, sNil, sDrop, sAsg, eT, eOp, eC, eL, oLst, eTup, eUn, aCons, aNil, eFn, iE, eSl, pNo, pYes, asI, eV_d0, eV_o0, eV_s, R.bind_ok, R.map_ok, go_ok, asB_bl, kk_int, kk_str, kk_bl, kk_non, kk_tup, kk_lst, true_and, and_true, List.set_cons_succ, List.set_cons_zero, List.getElem?_cons_succ, List.getElem?_cons_zero, addD_int, subD_int, mulD_intL, mulD_intR, fdivD_int, modD_int, ltD_int, leD_int, gtD_int, geD_int, eqD_int, neD_int, eqD_bl, neD_bl, isD_non, notIsD_non, intD_int, negD_int, maxD_int, minD_int, lenD_lst, lenD_bor, lenD_tup, List.length_map, okLen0, okLen1, okLen2, okLen3, okLen4, okLen5, okLen6, okLen7, if_true, eAnd, eOr, eNot, eIf, eAndV, eOrV, eNotV, eChain, ifBl_bl, isN_non, isN_int, isN_bl, isN_str, isN_tup, isN_lst, Bool.not_true, Bool.not_false, Bool.false_eq_true, if_false, rvD, notInD_bls, map_snd1, map_snd2, inD_str, in_joint x hc]
        · simp only [List.set_cons_succ, List.set_cons_zero, eCall, aCons, aNil, eV_s, eV_d0, R.bind_ok, ep, cs]
        · refine ih _ ⟨done ++ [s], s', [], (ownS s').cps.toList, more', .d (.str (SX.S [x])), b, by rw [e]; simp, rfl, rfl, ?_⟩
          rw [ej, List.map_append]
          rfl
  · unfold restL
    rw [List.map_cons, List.flatten_cons, tl_step, j0]; rfl
  · rw [j0]; rfl
theorem call_selector_of {ss : List Step} (h : OkSel ss) : callR m_selector_of [.str (selS ss)] = .ok (.tup (ss.map Enc.enc)) := callR_of (rv := .d (.tup (ss.map Enc.enc))) (selector_of_run h) rfl
theorem selS_ok {ss : List Step} (h : OkSel ss) : PyData.strOk (selS ss) = true := by
  unfold PyData.strOk
  rw [← Array.all_toList, selS_list, List.all_eq_true]
  intro x hx
  unfold restL at hx
  obtain ⟨l, hl, hx⟩ := List.mem_flatten.mp hx
  obtain ⟨s, hs, rfl⟩ := List.mem_map.mp hl
  have := stepS_ok (h.mem hs)
  unfold PyData.strOk at this
  rw [← Array.all_toList, List.all_eq_true] at this
  exact this x hx
theorem same_step {n : Nat} {s : Step} (h : OkStep jointsL s) : SameOk (n + 2) (Enc.enc s) := by
  refine .tup _ (by simp) fun x hx => ?_
  rcases List.mem_cons.mp hx with rfl | hx
  · exact .str _ (joints_ok _ h.j)
  rcases List.mem_cons.mp hx with rfl | hx
  · exact .str _ (kinds_ok _ h.k)
  rcases List.mem_cons.mp hx with rfl | hx
  · exact .str _ (marks_ok _ h.m)
  rcases List.mem_cons.mp hx with rfl | hx
  · exact .bl _
  · cases hx
theorem same_sel {n : Nat} {ss : List Step} (h : OkSel ss) : SameOk (n + 3) (.tup (ss.map Enc.enc)) := by
  have := h.le
  refine .tup _ (by simp; omega) fun x hx => ?_
  obtain ⟨s, hs, rfl⟩ := List.mem_map.mp hx
  exact same_step (h.mem hs)

end Lw
set_option maxRecDepth 100000
set_option maxHeartbeats 4000000
namespace Lw
open PySem L2 DL
/-! rules and sheets -/
inductive Val where
  | n (i : Int) | w (z : Str)
def valD : Val → D
  | .n i => .int i
  | .w z => .str z
structure Rule where
  s : List Step
  nm : Str
  v : Val
  st : Bool
def ruleD (r : Rule) : D := .tup [.tup (r.s.map Enc.enc), .str r.nm, valD r.v, .bl r.st]
def OkVal : Val → Prop
  | .n i => 0 ≤ i ∧ i ≤ 9
  | .w z => z ∈ (["up", "start"] : List Str)
structure OkRule (r : Rule) : Prop where
  s : OkSel r.s
  nm : r.nm ∈ (["p", "q", "r"] : List Str)
  v : OkVal r.v
theorem names_ok : ∀ z ∈ (["p", "q", "r"] : List Str), PyData.strOk z = true := by decide +kernel
theorem words_ok : ∀ z ∈ (["up", "start"] : List Str), PyData.strOk z = true := by decide +kernel
theorem rule_ix0 {r : Rule} : ixD (ruleD r) (.int 0) = .ok (.tup (r.s.map Enc.enc)) := rfl
theorem rule_ix1 {r : Rule} : ixD (ruleD r) (.int 1) = .ok (.str r.nm) := rfl
theorem rule_ix3 {r : Rule} : ixD (ruleD r) (.int 3) = .ok (.bl r.st) := rfl
theorem same_rule {n : Nat} {r : Rule} (h : OkRule r) : SameOk (n + 4) (ruleD r) := by
  refine .tup _ (by simp) fun x hx => ?_
  rcases List.mem_cons.mp hx with rfl | hx
  · exact same_sel h.s
  rcases List.mem_cons.mp hx with rfl | hx
  · exact .str _ (names_ok _ h.nm)
  rcases List.mem_cons.mp hx with rfl | hx
  · have hv := h.v
    cases e : r.v with
    | n i => exact .int _
    | w z => rw [e] at hv; exact .str _ (words_ok _ hv)
  rcases List.mem_cons.mp hx with rfl | hx
  · exact .bl _
  · cases hx
/-! the drawn rule -/
theorem pqr_str : ("pqr" : Str).cps.toList = [112, 113, 114] := by decide +kernel
def nameL (n : Int) : Str := (["p", "q", "r"] : List Str).getD (n % 3).toNat ""
theorem nameL_mem (n : Int) : nameL n ∈ (["p", "q", "r"] : List Str) := by
  unfold nameL
  have h1 : 0 ≤ n % 3 := by omega
  have h2 : n % 3 < 3 := by omega
  generalize n % 3 = k at *
  obtain rfl | rfl | rfl : k = 0 ∨ k = 1 ∨ k = 2 := by omega
  all_goals decide +kernel
theorem name_ix (n : Int) : ixD (.str "pqr") (.int (n % 3)) = .ok (.str (nameL n)) := by
  have h1 : 0 ≤ n % 3 := by omega
  have h2 : n % 3 < 3 := by omega
  rw [ixD_str (by rw [pqr_str]; decide) h1 (by rw [pqr_str]; simp; omega), pqr_str]
  unfold nameL
  generalize n % 3 = k at *
  obtain rfl | rfl | rfl : k = 0 ∨ k = 1 ∨ k = 2 := by omega
  all_goals rfl
def valL (n : Int) : Val := if n / 10 % 4 = 2 then .w "up" else if n / 10 % 4 = 3 then .w "start" else .n (n % 10)
theorem valL_ok (n : Int) : OkVal (valL n) := by
  unfold valL
  split
  · exact List.mem_cons_self
  · split
    · exact List.mem_cons_of_mem _ List.mem_cons_self
    · exact ⟨by omega, by omega⟩
theorem val_ix (n : Int) : ixD (.lst [.int (n % 10), .int (n % 10), .str "up", .str "start"]) (.int (n / 10 % 4)) = .ok (valD (valL n)) := by
  have h1 : 0 ≤ n / 10 % 4 := by omega
  have h2 : n / 10 % 4 < 4 := by omega
  unfold valL
  generalize n / 10 % 4 = k at *
  obtain rfl | rfl | rfl | rfl : k = 0 ∨ k = 1 ∨ k = 2 ∨ k = 3 := by omega
  all_goals rfl
def ruleR (d : List Int) : Rule := ⟨selR d, nameL (d.getD 7 0), valL (d.getD 6 0), d.getD 7 0 / 3 % 4 == 3⟩
theorem ruleR_ok (d : List Int) : OkRule (ruleR d) := ⟨selR_ok d, nameL_mem _, valL_ok _⟩
noncomputable def m__law_rule : List D → R RV := runF 1 2 (rSeq (rSet 1 (eOp ixD (eL (oLst (aCons (eOp modD (eOp ixD (eV 0) (eC (.int 6))) (eC (.int 10))) (aCons (eOp modD (eOp ixD (eV 0) (eC (.int 6))) (eC (.int 10))) (aCons (eC (.str "up")) (aCons (eC (.str "start")) aNil)))))) (eOp modD (eOp fdivD (eOp ixD (eV 0) (eC (.int 6))) (eC (.int 10))) (eC (.int 4))))) (rRet (eTup (aCons (eCall m__law_selector (aCons (eV 0) aNil)) (aCons (eOp ixD (eC (.str "pqr")) (eOp modD (eOp ixD (eV 0) (eC (.int 7))) (eC (.int 3)))) (aCons (eV 1) (aCons (eOp eqD (eOp modD (eOp fdivD (eOp ixD (eV 0) (eC (.int 7))) (eC (.int 3))) (eC (.int 4))) (eC (.int 3))) aNil)))))))
theorem val_kept (v : Val) : kept (valD v) = true := by cases v <;> rfl
theorem call_lrule {d : List Int} (h : 8 ≤ d.length) : callR m__law_rule [.lst (d.map D.int)] = .ok (ruleD (ruleR d)) := by
  refine callR_of (rv := .d (ruleD (ruleR d))) (run_of rfl ?_) rfl
  simp only [td_nil, td_seq, td_brk, td_cnt, td_dead, td_retN, td_drop, td_ret, td_retO, td_retV, td_if, td_asg, td_set, td_setO, td_frz, td_app, td_put, td_aug, td_for, td_while, td_thru, td_set2, td_par]
  show sSeq _ _ (endsOf _) [Sl.d (.lst (d.map D.int)), .un]
  have i6 : ixD (.lst (d.map D.int)) (.int 6) = .ok (.int (d.getD 6 0)) := int_ix (by decide) (by omega)
  have i7 : ixD (.lst (d.map D.int)) (.int 7) = .ok (.int (d.getD 7 0)) := int_ix (by decide) (by omega)
  have cs := call_selector (d := d) (by omega)
  have o4 : okLen [D.int (d.getD 6 0 % 10), .int (d.getD 6 0 % 10), .str "up", .str "start"] := okLen4 rfl rfl rfl rfl
  refine seq_set (d := valD (valL (d.getD 6 0))) ?_ (val_kept _) ?_
  · simp (disch := first | omega | exact kk_int | exact kk_str | exact kk_tup | exact kk_lst | exact kk_bl | exact kk_non | assumption | decide) only [eOp, eL, oLst, aCons, aNil, eC, eV_d0, R.bind_ok, R.map_ok, i6, modD_int, fdivD_int, if_pos o4, val_ix]
  simp only [List.set_cons_succ, List.set_cons_zero]
  have o : okLen [D.tup ((selR d).map Enc.enc), .str (nameL (d.getD 7 0)), valD (valL (d.getD 6 0)), .bl (d.getD 7 0 / 3 % 4 == 3)] := okLen4 rfl rfl (val_kept _) rfl
  refine sRet_i (d := ruleD (ruleR d)) ?_ rfl rfl
  simp (disch := first | omega | exact kk_int | exact kk_str | exact kk_tup | exact kk_lst | exact kk_bl | exact kk_non | assumption | decide) only [eTup, eOp, eCall, aCons, aNil, eC, eV_d0, eV_s, R.bind_ok, cs, i7, modD_int, fdivD_int, eqD_int, name_ix, if_pos o]
  rfl
def sheetR (d : List Int) (upto : Int) : List Rule := (List.range (d.getD 0 0 % (upto + 1)).toNat).map fun k => ruleR (d.drop (1 + 8 * k))
theorem sheetR_ok (d : List Int) (upto : Int) : ∀ r ∈ sheetR d upto, OkRule r := fun r hr => by
  obtain ⟨k, _, rfl⟩ := List.mem_map.mp hr
  exact ruleR_ok _
theorem sheetR_len (d : List Int) {upto : Int} (h : 0 ≤ upto) : ((sheetR d upto).length : Int) ≤ upto := by
  unfold sheetR
  rw [List.length_map, List.length_range]
  have h1 : 0 ≤ d.getD 0 0 % (upto + 1) := Int.emod_nonneg _ (by omega)
  have h2 : d.getD 0 0 % (upto + 1) < upto + 1 := Int.emod_lt_of_pos _ (by omega)
  omega
noncomputable def m__law_sheet : List D → R RV := runF 2 3 (rRetO (oComp [2] (iR1 (aCons (eOp modD (eOp ixD (eV 0) (eC (.int 0))) (eOp addD (eV 1) (eC (.int 1)))) aNil)) (gV 2) eYes (eCall m__law_rule (aCons (eSl cutD (eV 0) (pYes (eOp addD (eC (.int 1)) (eOp mulD (eC (.int 8)) (eV 2)))) pNo) aNil))))
theorem call_lsheet {d : List Int} {upto : Int} (h0 : 0 ≤ upto) (h1 : upto ≤ 100) (h : 1 + 8 * upto.toNat ≤ d.length) (h2 : 1 ≤ d.length) : callR m__law_sheet [.lst (d.map D.int), .int upto] = .ok (.lst ((sheetR d upto).map ruleD)) := by
  refine callR_of (rv := .own ((sheetR d upto).map ruleD)) (run_of rfl ?_) rfl
  simp only [td_nil, td_seq, td_brk, td_cnt, td_dead, td_retN, td_drop, td_ret, td_retO, td_retV, td_if, td_asg, td_set, td_setO, td_frz, td_app, td_put, td_aug, td_for, td_while, td_thru, td_set2, td_par]
  show sRetO _ (endsOf _) [Sl.d (.lst (d.map D.int)), .d (.int upto), .un]
  refine sRetO_i ?_ rfl
  have k1 : 0 ≤ d.getD 0 0 % (upto + 1) := Int.emod_nonneg _ (by omega)
  have k2 : d.getD 0 0 % (upto + 1) < upto + 1 := Int.emod_lt_of_pos _ (by omega)
  have i0 : ixD (.lst (d.map D.int)) (.int 0) = .ok (.int (d.getD 0 0)) := int_ix (by decide) (by omega)
  have m0 : 0 < upto + 1 := by omega
  refine oComp_ok (ds := rngL 0 1 (d.getD 0 0 % (upto + 1)).toNat) (iR1_ok (j := d.getD 0 0 % (upto + 1)) ?_ (big62_of (by omega) (by omega))) (by unfold rngL; rw [List.length_map, List.length_range]; omega) ?_
  · simp (disch := first | omega | exact kk_int | exact kk_str | exact kk_tup | exact kk_lst | exact kk_bl | exact kk_non | assumption | decide) only [sFrz, sSeq, sSet, sSetO, sIf, sRet, sRetO, sRetN, sFor, sApp, sNil, sDrop, sAsg, eT, eOp, eC, eL, oLst, eTup, eUn, aCons, aNil, eFn, iE, eSl, pNo, pYes, asI, eV_d0, eV_o0, eV_s, R.bind_ok, R.map_ok, go_ok, asB_bl, kk_int, kk_str, kk_bl, kk_non, kk_tup, kk_lst, true_and, and_true, List.set_cons_succ, List.set_cons_zero, List.getElem?_cons_succ, List.getElem?_cons_zero, addD_int, subD_int, mulD_intL, mulD_intR, fdivD_int, modD_int, ltD_int, leD_int, gtD_int, geD_int, eqD_int, neD_int, eqD_bl, neD_bl, isD_non, notIsD_non, intD_int, negD_int, maxD_int, minD_int, lenD_lst, lenD_bor, lenD_tup, List.length_map, okLen0, okLen1, okLen2, okLen3, okLen4, okLen5, okLen6, okLen7, if_true, eAnd, eOr, eNot, eIf, eAndV, eOrV, eNotV, eChain, ifBl_bl, isN_non, isN_int, isN_bl, isN_str, isN_tup, isN_lst, Bool.not_true, Bool.not_false, Bool.false_eq_true, if_false, rvD, notInD_bls, map_snd1, map_snd2, i0, m0]
  · rw [rngL_0]
    unfold sheetR
    rw [List.map_map]
    refine compD_all (ruleD ∘ fun k => ruleR (d.drop (1 + 8 * k))) fun k hk => ⟨_, rfl, ?_, rfl⟩
    have hk := List.mem_range.mp hk
    have cf := cut_from (ns := d) (q := 1 + 8 * (k : Int)) (by omega)
    have e1 : (1 + 8 * (k : Int)).toNat = 1 + 8 * k := by omega
    rw [e1] at cf
    have cr := call_lrule (d := d.drop (1 + 8 * k)) (by rw [List.length_drop]; omega)
    simp only [wipeD, List.set_cons_succ, List.set_cons_zero]
    simp (disch := first | omega | exact kk_int | exact kk_str | exact kk_tup | exact kk_lst | exact kk_bl | exact kk_non | assumption | decide) only [sFrz, sSeq, sSet, sSetO, sIf, sRet, sRetO, sRetN, sFor, sApp, sNil, sDrop, sAsg, eT, eOp, eC, eL, oLst, eTup, eUn, aCons, aNil, eFn, iE, eSl, pNo, pYes, asI, eV_d0, eV_o0, eV_s, R.bind_ok, R.map_ok, go_ok, asB_bl, kk_int, kk_str, kk_bl, kk_non, kk_tup, kk_lst, true_and, and_true, List.set_cons_succ, List.set_cons_zero, List.getElem?_cons_succ, List.getElem?_cons_zero, addD_int, subD_int, mulD_intL, mulD_intR, fdivD_int, modD_int, ltD_int, leD_int, gtD_int, geD_int, eqD_int, neD_int, eqD_bl, neD_bl, isD_non, notIsD_non, intD_int, negD_int, maxD_int, minD_int, lenD_lst, lenD_bor, lenD_tup, List.length_map, okLen0, okLen1, okLen2, okLen3, okLen4, okLen5, okLen6, okLen7, if_true, eAnd, eOr, eNot, eIf, eAndV, eOrV, eNotV, eChain, ifBl_bl, isN_non, isN_int, isN_bl, isN_str, isN_tup, isN_lst, Bool.not_true, Bool.not_false, Bool.false_eq_true, if_false, rvD, notInD_bls, map_snd1, map_snd2, eCall, cutD, cf, cr]
    rfl

end Lw
set_option maxRecDepth 100000
set_option maxHeartbeats 4000000
namespace Lw
open PySem L2 DL
/-! looking at rules; ranks of places -/
theorem shd_ix {sh : List Rule} {i : Int} (h1 : 0 ≤ i) (h2 : i < sh.length) : ∃ r ∈ sh, sh[i.toNat]? = some r ∧ ixD (.lst (sh.map ruleD)) (.int i) = .ok (ruleD r) := by
  have hi : i.toNat < sh.length := by omega
  refine ⟨sh[i.toNat], List.getElem_mem hi, List.getElem?_eq_getElem hi, ?_⟩
  rw [ixD_lst h1 (by simpa using h2), getD_map hi ⟨[], "", .n 0, false⟩, List.getD_eq_getElem?_getD, List.getElem?_eq_getElem hi]; rfl
theorem look_sel_call {ss : List Step} (h : OkSel ss) : callR m_look_selector [.tup (ss.map Enc.enc)] = .ok .non := callR_m1 mo_look_selector (⟨ss⟩ : Tup Step) (rv := .d .non) (if_pos h) rfl
noncomputable def m_look_rule : List D → R RV := runF 1 6 (rSeq (rAsg (eV 0) (gT 4 (gC (gV 1) (gC (gV 2) (gC (gV 3) (gC (gV 4) gN)))))) (rSeq (rDrop (eCall m_look_selector (aCons (eV 1) aNil))) (rSeq (rSet 5 (eIf (eT (eFn isiD (aCons (eV 3) (aCons (eC (.ty .str)) aNil)))) (eOp inD (eV 3) (eC d_WORDS)) (eChain leD leD (eC (.int 0)) (eV 3) (eC d_MOST_VALUE)))) (rIf (eOr (eT (eOp notInD (eV 2) (eC d_NAMES))) (eOr (eNot (eT (eV 5))) (eT (eOp notInD (eV 4) (eTup (aCons (eC (.bl true)) (aCons (eC (.bl false)) aNil))))))) rDead rNil))))
theorem call_look_rule {r : Rule} (h : OkRule r) : callR m_look_rule [ruleD r] = .ok .non := by
  refine callR_of (rv := .d .non) (run_of rfl ?_) rfl
  simp only [td_nil, td_seq, td_brk, td_cnt, td_dead, td_retN, td_drop, td_ret, td_retO, td_retV, td_if, td_asg, td_set, td_setO, td_frz, td_app, td_put, td_aug, td_for, td_while, td_thru, td_set2, td_par]
  have lk := look_sel_call h.s
  have hn := h.nm
  have hv := h.v
  obtain ⟨ss, nm, v, st⟩ := r
  show sSeq _ _ (endsOf _) [Sl.d (.tup [.tup (ss.map Enc.enc), .str nm, valD v, .bl st]), .un, .un, .un, .un, .un]
  refine seq_asg (d := .tup [.tup (ss.map Enc.enc), .str nm, valD v, .bl st]) (ρ' := [Sl.d (.tup [.tup (ss.map Enc.enc), .str nm, valD v, .bl st]), .d (.tup (ss.map Enc.enc)), .d (.str nm), .d (valD v), .d (.bl st), .un]) rfl rfl rfl ?_
  refine seq_drop (d := .non) ?_ ?_
  · simp (disch := first | omega | exact kk_int | exact kk_str | exact kk_tup | exact kk_lst | exact kk_bl | exact kk_non | assumption | decide) only [sFrz, sSeq, sSet, sSetO, sIf, sRet, sRetO, sRetN, sFor, sApp, sNil, sDrop, sAsg, eT, eOp, eC, eL, oLst, eTup, eUn, aCons, aNil, eFn, iE, eSl, pNo, pYes, asI, eV_d0, eV_o0, eV_s, R.bind_ok, R.map_ok, go_ok, asB_bl, kk_int, kk_str, kk_bl, kk_non, kk_tup, kk_lst, true_and, and_true, List.set_cons_succ, List.set_cons_zero, List.getElem?_cons_succ, List.getElem?_cons_zero, addD_int, subD_int, mulD_intL, mulD_intR, fdivD_int, modD_int, ltD_int, leD_int, gtD_int, geD_int, eqD_int, neD_int, eqD_bl, neD_bl, isD_non, notIsD_non, intD_int, negD_int, maxD_int, minD_int, lenD_lst, lenD_bor, lenD_tup, List.length_map, okLen0, okLen1, okLen2, okLen3, okLen4, okLen5, okLen6, okLen7, if_true, eAnd, eOr, eNot, eIf, eAndV, eOrV, eNotV, eChain, ifBl_bl, isN_non, isN_int, isN_bl, isN_str, isN_tup, isN_lst, Bool.not_true, Bool.not_false, Bool.false_eq_true, if_false, rvD, notInD_bls, map_snd1, map_snd2, eCall, lk]
  refine seq_set (d := .bl true) ?_ rfl ?_
  · cases v with
    | n i =>
      have a : decide ((0 : Int) ≤ i) = true := decide_eq_true hv.1
      have b : decide (i ≤ (9 : Int)) = true := decide_eq_true hv.2
      have e1 : isiD [.int i, .ty .str] = .ok (.bl false) := isi_t (d := .int i) rfl
      simp only [valD, eIf, eFn, eT, aCons, aNil, eC, eV_s, eV_d0, R.bind_ok, e1, asB_bl, Bool.false_eq_true, if_false]
      simp (disch := first | omega | exact kk_int | exact kk_str | exact kk_tup | exact kk_lst | exact kk_bl | exact kk_non | assumption | decide) only [sFrz, sSeq, sSet, sSetO, sIf, sRet, sRetO, sRetN, sFor, sApp, sNil, sDrop, sAsg, eT, eOp, eC, eL, oLst, eTup, eUn, aCons, aNil, eFn, iE, eSl, pNo, pYes, asI, eV_d0, eV_o0, eV_s, R.bind_ok, R.map_ok, go_ok, asB_bl, kk_int, kk_str, kk_bl, kk_non, kk_tup, kk_lst, true_and, and_true, List.set_cons_succ, List.set_cons_zero, List.getElem?_cons_succ, List.getElem?_cons_zero, addD_int, subD_int, mulD_intL, mulD_intR, fdivD_int, modD_int, ltD_int, leD_int, gtD_int, geD_int, eqD_int, neD_int, eqD_bl, neD_bl, isD_non, notIsD_non, intD_int, negD_int, maxD_int, minD_int, lenD_lst, lenD_bor, lenD_tup, List.length_map, okLen0, okLen1, okLen2, okLen3, okLen4, okLen5, okLen6, okLen7, if_true, eAnd, eOr, eNot, eIf, eAndV, eOrV, eNotV, eChain, ifBl_bl, isN_non, isN_int, isN_bl, isN_str, isN_tup, isN_lst, Bool.not_true, Bool.not_false, Bool.false_eq_true, if_false, rvD, notInD_bls, map_snd1, map_snd2, a, b]
    | w z =>
      have e1 : isiD [.str z, .ty .str] = .ok (.bl true) := isi_t (d := .str z) rfl
      have e2 : inD (.str z) d_WORDS = .ok (.bl true) := by
        have hz : z = "up" ∨ z = "start" := by
          rcases List.mem_cons.mp hv with e | e
          · exact .inl e
          · exact .inr (List.mem_singleton.mp e)
        rcases hz with rfl | rfl <;> rfl
      simp only [valD, eIf, eFn, eT, aCons, aNil, eC, eV_s, eV_d0, R.bind_ok, e1, asB_bl, if_true, eOp, e2]
  simp only [List.set_cons_succ, List.set_cons_zero]
  have nn : notInD (.str nm) d_NAMES = .ok (.bl false) := by
    rw [show notInD (.str nm) d_NAMES = .ok (.bl (!(["p", "q", "r"] : List Str).contains nm)) from notInD_tupS, cont hn]; rfl
  have o2 : okLen [D.bl true, .bl false] := okLen2 rfl rfl
  refine sIf_skip ?_ rfl
  simp (disch := first | omega | exact kk_int | exact kk_str | exact kk_tup | exact kk_lst | exact kk_bl | exact kk_non | assumption | decide) only [eOr, eNot, eT, eOp, eTup, aCons, aNil, eC, eV_s, eV_d0, R.bind_ok, R.map_ok, nn, asB_bl, Bool.false_eq_true, if_false, Bool.not_true, if_pos o2, notInD_bls]
noncomputable def m_look_sheet : List D → R RV := runF 1 2 (rSeq (rFor (iE (eV 0)) (gV 1) (rDrop (eCall m_look_rule (aCons (eV 1) aNil)))) (rIf (eT (eOp gtD (eFn lenD (aCons (eV 0) aNil)) (eC d_MOST_RULES))) rDead rNil))
theorem call_look_sheet {sh : List Rule} (h : ∀ r ∈ sh, OkRule r) (hl : sh.length ≤ 8) : callR m_look_sheet [.lst (sh.map ruleD)] = .ok .non := by
  refine callR_of (rv := .d .non) (run_of rfl ?_) rfl
  simp only [td_nil, td_seq, td_brk, td_cnt, td_dead, td_retN, td_drop, td_ret, td_retO, td_retV, td_if, td_asg, td_set, td_setO, td_frz, td_app, td_put, td_aug, td_for, td_while, td_thru, td_set2, td_par]
  show sSeq _ _ (endsOf _) [Sl.d (.lst (sh.map ruleD)), .un]
  refine seq_for (ds := sh.map ruleD) rfl ?_
  refine loop_map (f := ruleD) (fun rest ρ => (∀ r ∈ rest, OkRule r) ∧ ∃ a, ρ = [Sl.d (.lst (sh.map ruleD)), a]) ?_ ?_ ⟨h, _, rfl⟩
  · rintro _ ⟨_, a, rfl⟩
    dsimp only
    show sIf _ _ sNil (endsOf (.ok (.d .non))) [Sl.d (.lst (sh.map ruleD)), a]
    refine sIf_skip ?_ rfl
    simp (disch := first | omega | exact kk_int | exact kk_str | exact kk_tup | exact kk_lst | exact kk_bl | exact kk_non | assumption | decide) only [sFrz, sSeq, sSet, sSetO, sIf, sRet, sRetO, sRetN, sFor, sApp, sNil, sDrop, sAsg, eT, eOp, eC, eL, oLst, eTup, eUn, aCons, aNil, eFn, iE, eSl, pNo, pYes, asI, eV_d0, eV_o0, eV_s, R.bind_ok, R.map_ok, go_ok, asB_bl, kk_int, kk_str, kk_bl, kk_non, kk_tup, kk_lst, true_and, and_true, List.set_cons_succ, List.set_cons_zero, List.getElem?_cons_succ, List.getElem?_cons_zero, addD_int, subD_int, mulD_intL, mulD_intR, fdivD_int, modD_int, ltD_int, leD_int, gtD_int, geD_int, eqD_int, neD_int, eqD_bl, neD_bl, isD_non, notIsD_non, intD_int, negD_int, maxD_int, minD_int, lenD_lst, lenD_bor, lenD_tup, List.length_map, okLen0, okLen1, okLen2, okLen3, okLen4, okLen5, okLen6, okLen7, if_true, eAnd, eOr, eNot, eIf, eAndV, eOrV, eNotV, eChain, ifBl_bl, isN_non, isN_int, isN_bl, isN_str, isN_tup, isN_lst, Bool.not_true, Bool.not_false, Bool.false_eq_true, if_false, rvD, notInD_bls, map_snd1, map_snd2, decide_eq_false (show ¬ (8 : Int) < sh.length by omega)]
  · rintro r rest _ ⟨hr, a, rfl⟩ ih
    refine ⟨_, rfl, ?_⟩
    have lr := call_look_rule (hr r List.mem_cons_self)
    refine sDrop_i (d := .non) ?_ (ih _ ⟨fun y hy => hr y (List.mem_cons_of_mem _ hy), _, rfl⟩)
    simp only [List.set_cons_succ, List.set_cons_zero]
    simp (disch := first | omega | exact kk_int | exact kk_str | exact kk_tup | exact kk_lst | exact kk_bl | exact kk_non | assumption | decide) only [sFrz, sSeq, sSet, sSetO, sIf, sRet, sRetO, sRetN, sFor, sApp, sNil, sDrop, sAsg, eT, eOp, eC, eL, oLst, eTup, eUn, aCons, aNil, eFn, iE, eSl, pNo, pYes, asI, eV_d0, eV_o0, eV_s, R.bind_ok, R.map_ok, go_ok, asB_bl, kk_int, kk_str, kk_bl, kk_non, kk_tup, kk_lst, true_and, and_true, List.set_cons_succ, List.set_cons_zero, List.getElem?_cons_succ, List.getElem?_cons_zero, addD_int, subD_int, mulD_intL, mulD_intR, fdivD_int, modD_int, ltD_int, leD_int, gtD_int, geD_int, eqD_int, neD_int, eqD_bl, neD_bl, isD_non, notIsD_non, intD_int, negD_int, maxD_int, minD_int, lenD_lst, lenD_bor, lenD_tup, List.length_map, okLen0, okLen1, okLen2, okLen3, okLen4, okLen5, okLen6, okLen7, if_true, eAnd, eOr, eNot, eIf, eAndV, eOrV, eNotV, eChain, ifBl_bl, isN_non, isN_int, isN_bl, isN_str, isN_tup, isN_lst, Bool.not_true, Bool.not_false, Bool.false_eq_true, if_false, rvD, notInD_bls, map_snd1, map_snd2, eCall, lr]
def keyT (r : Rule) (p : Nat) : IT := .t [.i (if r.st = true then 1 else 0), .t [.i (rankA r.s), .i (rankB r.s)], .i p]
noncomputable def m_strength : List D → R RV := runF 2 6 (rSeq (rAsg (eOp ixD (eV 0) (eV 1)) (gT 4 (gC (gV 2) (gC (gV 3) (gC (gV 4) (gC (gV 5) gN)))))) (rRet (eTup (aCons (eFn intD (aCons (eV 5) aNil)) (aCons (eCall m_rank (aCons (eV 2) aNil)) (aCons (eV 1) aNil))))))
theorem call_strength {sh : List Rule} (h : ∀ r ∈ sh, OkRule r) {p : Nat} {r : Rule} (hp : sh[p]? = some r) : callR m_strength [.lst (sh.map ruleD), .int p] = .ok (dI (keyT r p)) := by
  refine callR_of (rv := .d (dI (keyT r p))) (run_of rfl ?_) rfl
  simp only [td_nil, td_seq, td_brk, td_cnt, td_dead, td_retN, td_drop, td_ret, td_retO, td_retV, td_if, td_asg, td_set, td_setO, td_frz, td_app, td_put, td_aug, td_for, td_while, td_thru, td_set2, td_par]
  have lt := (List.getElem?_eq_some_iff.mp hp).1
  obtain ⟨r', hm, e1, ix⟩ := shd_ix (sh := sh) (i := (p : Int)) (by omega) (by omega)
  rw [Int.toNat_natCast, hp] at e1
  cases e1
  have ok := h r hm
  have ck := call_rank ok.s
  obtain ⟨ss, nm, v, st⟩ := r
  show sSeq _ _ (endsOf _) [Sl.d (.lst (sh.map ruleD)), .d (.int p), .un, .un, .un, .un]
  refine seq_asg (d := .tup [.tup (ss.map Enc.enc), .str nm, valD v, .bl st]) (ρ' := [Sl.d (.lst (sh.map ruleD)), .d (.int p), .d (.tup (ss.map Enc.enc)), .d (.str nm), .d (valD v), .d (.bl st)]) ?_ rfl rfl ?_
  · simp (disch := first | omega | exact kk_int | exact kk_str | exact kk_tup | exact kk_lst | exact kk_bl | exact kk_non | assumption | decide) only [sFrz, sSeq, sSet, sSetO, sIf, sRet, sRetO, sRetN, sFor, sApp, sNil, sDrop, sAsg, eT, eOp, eC, eL, oLst, eTup, eUn, aCons, aNil, eFn, iE, eSl, pNo, pYes, asI, eV_d0, eV_o0, eV_s, R.bind_ok, R.map_ok, go_ok, asB_bl, kk_int, kk_str, kk_bl, kk_non, kk_tup, kk_lst, true_and, and_true, List.set_cons_succ, List.set_cons_zero, List.getElem?_cons_succ, List.getElem?_cons_zero, addD_int, subD_int, mulD_intL, mulD_intR, fdivD_int, modD_int, ltD_int, leD_int, gtD_int, geD_int, eqD_int, neD_int, eqD_bl, neD_bl, isD_non, notIsD_non, intD_int, negD_int, maxD_int, minD_int, lenD_lst, lenD_bor, lenD_tup, List.length_map, okLen0, okLen1, okLen2, okLen3, okLen4, okLen5, okLen6, okLen7, if_true, eAnd, eOr, eNot, eIf, eAndV, eOrV, eNotV, eChain, ifBl_bl, isN_non, isN_int, isN_bl, isN_str, isN_tup, isN_lst, Bool.not_true, Bool.not_false, Bool.false_eq_true, if_false, rvD, notInD_bls, map_snd1, map_snd2, ix]
    rfl
  refine sRet_i (d := dI (keyT ⟨ss, nm, v, st⟩ p)) ?_ rfl rfl
  have o3 : okLen [D.int (if st = true then 1 else 0), .tup [.int (rankA ss), .int (rankB ss)], .int p] := okLen3 rfl rfl rfl
  simp (disch := first | omega | exact kk_int | exact kk_str | exact kk_tup | exact kk_lst | exact kk_bl | exact kk_non | assumption | decide) only [eTup, eFn, eCall, aCons, aNil, eV_s, eV_d0, R.bind_ok, intD_bl, ck, if_pos o3]
  rfl
/-- the places of the rules of a name whose selectors are met -/
def hitsP (sh : List Rule) (t : Tree) (i : Nat) (nm : Str) : List Nat := (List.range sh.length).filter fun p => match sh[p]? with
  | some r => decide (r.nm = nm) && metN 3 r.s t i
  | none => false
def keyAt (sh : List Rule) (p : Nat) : IT := match sh[p]? with
  | some r => keyT r p
  | none => .i 0
theorem keyAt_of {sh : List Rule} {p : Nat} {r : Rule} (h : sh[p]? = some r) : keyAt sh p = keyT r p := by
  unfold keyAt
  rw [h]
def keysP (sh : List Rule) (ps : List Nat) : List IT := ps.map (keyAt sh)
def thirdI : IT → D
  | .t [_, _, c] => dI c
  | _ => .non
noncomputable def orderD (sh : List Rule) (ps : List Nat) : List D := ((sortT (keysP sh ps)).map thirdI).reverse
theorem keysP_facts {sh : List Rule} {ps : List Nat} (hp : ∀ p ∈ ps, p < sh.length) (nd : ps.Nodup) : (Firsts (keysP sh ps) = true ∧ AllCmp (keysP sh ps) = true ∧ ∀ a ∈ keysP sh ps, depI a ≤ 40) ∧ (keysP sh ps).Nodup := by
  have each : ∀ a ∈ keysP sh ps, ∃ p ∈ ps, ∃ r, sh[p]? = some r ∧ a = keyT r p := fun a ha => by
    obtain ⟨p, h1, rfl⟩ := List.mem_map.mp ha
    have := List.getElem?_eq_getElem (hp p h1)
    exact ⟨p, h1, _, this, keyAt_of this⟩
  refine ⟨⟨?_, ?_, fun a ha => ?_⟩, ?_⟩
  · unfold Firsts
    rw [Bool.or_eq_true]
    refine .inl (List.all_eq_true.mpr fun a ha => ?_)
    obtain ⟨p, _, r, _, rfl⟩ := each a ha
    rfl
  · unfold AllCmp
    refine List.all_eq_true.mpr fun a ha => List.all_eq_true.mpr fun b hb => ?_
    obtain ⟨p, _, r, _, rfl⟩ := each a ha
    obtain ⟨q, _, r', _, rfl⟩ := each b hb
    rfl
  · obtain ⟨p, _, r, _, rfl⟩ := each a ha
    show depI (.t [.i _, .t [.i _, .i _], .i _]) ≤ 40
    simp [depI, depL]
  · unfold keysP
    refine List.pairwise_map.mpr (nd.imp_of_mem fun {p q} hpm hqm hne e => ?_)
    have e1 := List.getElem?_eq_getElem (hp p hpm)
    have e2 := List.getElem?_eq_getElem (hp q hqm)
    rw [keyAt_of e1, keyAt_of e2] at e
    unfold keyT at e
    injection e with e
    simp at e
    exact hne (by have := e.2.2; omega)
theorem keys_third {sh : List Rule} {ps : List Nat} (hp : ∀ p ∈ ps, p < sh.length) (nd : ps.Nodup) : ∀ t ∈ sortT (keysP sh ps), valAt (keysP sh ps) (ps.map fun p : Nat => D.int p) t = thirdI t := fun t ht => by
  have ht := (sortT_perm _).mem_iff.mp ht
  obtain ⟨p, h1, rfl⟩ := List.mem_map.mp ht
  have e := keyAt_of (List.getElem?_eq_getElem (hp p h1))
  refine valAt_is (keysP_facts hp nd).2 ?_
  unfold keysP
  rw [List.zip_map']
  refine List.mem_map.mpr ⟨p, h1, ?_⟩
  rw [e]
  rfl
theorem keysD_of {ρ : Rho} {j : Nat} {fb : Rho → R D} {sh : List Rule} : ∀ {ps : List Nat}, (∀ p ∈ ps, p < sh.length) → (∀ (p : Nat) (r : Rule), sh[p]? = some r → fb (ρ.set j (.d (.int p))) = .ok (dI (keyT r p))) → keysD ρ j fb (ps.map fun p : Nat => D.int p) = some (dL (keysP sh ps))
  | [], _, _ => rfl
  | p :: ps, hp, hf => by
    have e := List.getElem?_eq_getElem (hp p List.mem_cons_self)
    have ih := keysD_of (ρ := ρ) (j := j) (fb := fb) (sh := sh) (ps := ps) (fun q hq => hp q (List.mem_cons_of_mem _ hq)) hf
    have ek : keysP sh (p :: ps) = keyT (sh[p]'(hp p List.mem_cons_self)) p :: keysP sh ps := by
      unfold keysP
      rw [List.map_cons, keyAt_of e]
    rw [List.map_cons, keysD, hf p _ e]
    dsimp only
    rw [if_pos (show kept (dI (keyT (sh[p]'(hp p List.mem_cons_self)) p)) = true from rfl), ih, ek]
    rfl
theorem hitsP_lt {sh : List Rule} {t : Tree} {i : Nat} {nm : Str} : (∀ p ∈ hitsP sh t i nm, p < sh.length) ∧ (hitsP sh t i nm).Nodup :=
  ⟨fun p hp => List.mem_range.mp (List.mem_filter.mp hp).1, List.Nodup.sublist List.filter_sublist List.nodup_range⟩
noncomputable def m_ranked_in : List D → R RV := runF 4 6 (rSeq (rSetO 4 (oComp [5] (iR1 (aCons (eFn lenD (aCons (eV 0) aNil)) aNil)) (gV 5) (eAnd (eT (eOp eqD (eOp ixD (eOp ixD (eV 0) (eV 5)) (eC (.int 1))) (eV 3))) (eT (eCall (m_met_in 3) (aCons (eOp ixD (eOp ixD (eV 0) (eV 5)) (eC (.int 0))) (aCons (eV 1) (aCons (eV 2) aNil)))))) (eV 5))) (rFrz 4 (rRetO (oSortK true 5 (eV 4) (eCall m_strength (aCons (eV 0) (aCons (eV 5) aNil)))))))
theorem call_ranked_in {sh : List Rule} {t : Tree} {i : Nat} {nm : Str} (h : ∀ r ∈ sh, OkRule r) (hl : sh.length ≤ 8) (ok : OkTree t) (hi : i < t.length) (hn : nm ∈ (["p", "q", "r"] : List Str)) :
    callR m_ranked_in [.lst (sh.map ruleD), .lst (t.map Enc.enc), .int i, .str nm] = .ok (.lst (orderD sh (hitsP sh t i nm))) := by
  refine callR_of (rv := .own (orderD sh (hitsP sh t i nm))) (run_of rfl ?_) rfl
  simp only [td_nil, td_seq, td_brk, td_cnt, td_dead, td_retN, td_drop, td_ret, td_retO, td_retV, td_if, td_asg, td_set, td_setO, td_frz, td_app, td_put, td_aug, td_for, td_while, td_thru, td_set2, td_par]
  show sSeq _ _ (endsOf _) [Sl.d (.lst (sh.map ruleD)), .d (.lst (t.map Enc.enc)), .d (.int i), .d (.str nm), .un, .un]
  obtain ⟨hlt, nd⟩ := hitsP_lt (sh := sh) (t := t) (i := i) (nm := nm)
  refine seq_setO (xs := (hitsP sh t i nm).map fun p : Nat => D.int p) ?_ ?_
  · refine oComp_ok (ds := rngL 0 1 sh.length) (iR1_ok (j := (sh.length : Int)) ?_ (big62_of (by omega) (by omega))) (by unfold rngL; rw [List.length_map, List.length_range]; omega) ?_
    · simp (disch := first | omega | exact kk_int | exact kk_str | exact kk_tup | exact kk_lst | exact kk_bl | exact kk_non | assumption | decide) only [sFrz, sSeq, sSet, sSetO, sIf, sRet, sRetO, sRetN, sFor, sApp, sNil, sDrop, sAsg, eT, eOp, eC, eL, oLst, eTup, eUn, aCons, aNil, eFn, iE, eSl, pNo, pYes, asI, eV_d0, eV_o0, eV_s, R.bind_ok, R.map_ok, go_ok, asB_bl, kk_int, kk_str, kk_bl, kk_non, kk_tup, kk_lst, true_and, and_true, List.set_cons_succ, List.set_cons_zero, List.getElem?_cons_succ, List.getElem?_cons_zero, addD_int, subD_int, mulD_intL, mulD_intR, fdivD_int, modD_int, ltD_int, leD_int, gtD_int, geD_int, eqD_int, neD_int, eqD_bl, neD_bl, isD_non, notIsD_non, intD_int, negD_int, maxD_int, minD_int, lenD_lst, lenD_bor, lenD_tup, List.length_map, okLen0, okLen1, okLen2, okLen3, okLen4, okLen5, okLen6, okLen7, if_true, eAnd, eOr, eNot, eIf, eAndV, eOrV, eNotV, eChain, ifBl_bl, isN_non, isN_int, isN_bl, isN_str, isN_tup, isN_lst, Bool.not_true, Bool.not_false, Bool.false_eq_true, if_false, rvD, notInD_bls, map_snd1, map_snd2]
    rw [rngL_0]
    refine compD_ok (fun p : Nat => match sh[p]? with
      | some r => decide (r.nm = nm) && metN 3 r.s t i
      | none => false) (fun p : Nat => D.int p) fun p hp => ⟨_, rfl, ?_, fun _ => ⟨?_, rfl⟩⟩
    · have hp := List.mem_range.mp hp
      obtain ⟨r, hm, er, ix⟩ := shd_ix (sh := sh) (i := (p : Int)) (by omega) (by omega)
      rw [Int.toNat_natCast] at er
      have okr := h r hm
      have eq : eqD (.str r.nm) (.str nm) = .ok (.bl (decide (r.nm = nm))) := eqD_str (names_ok _ okr.nm) (names_ok _ hn)
      have cm := call_met (n := 3) (ss := r.s) (t := t) (i := (i : Int)) ⟨okr.s.good, okr.s.le, ok, by omega, by omega⟩
      rw [Int.toNat_natCast] at cm
      simp only [wipeD, List.set_cons_succ, List.set_cons_zero]
      rw [er]
      cases hq : decide (r.nm = nm) with
      | true => simp (disch := first | omega | exact kk_int | exact kk_str | exact kk_tup | exact kk_lst | exact kk_bl | exact kk_non | assumption | decide) only [sFrz, sSeq, sSet, sSetO, sIf, sRet, sRetO, sRetN, sFor, sApp, sNil, sDrop, sAsg, eT, eOp, eC, eL, oLst, eTup, eUn, aCons, aNil, eFn, iE, eSl, pNo, pYes, asI, eV_d0, eV_o0, eV_s, R.bind_ok, R.map_ok, go_ok, asB_bl, kk_int, kk_str, kk_bl, kk_non, kk_tup, kk_lst, true_and, and_true, List.set_cons_succ, List.set_cons_zero, List.getElem?_cons_succ, List.getElem?_cons_zero, addD_int, subD_int, mulD_intL, mulD_intR, fdivD_int, modD_int, ltD_int, leD_int, gtD_int, geD_int, eqD_int, neD_int, eqD_bl, neD_bl, isD_non, notIsD_non, intD_int, negD_int, maxD_int, minD_int, lenD_lst, lenD_bor, lenD_tup, List.length_map, okLen0, okLen1, okLen2, okLen3, okLen4, okLen5, okLen6, okLen7, if_true, eAnd, eOr, eNot, eIf, eAndV, eOrV, eNotV, eChain, ifBl_bl, isN_non, isN_int, isN_bl, isN_str, isN_tup, isN_lst, Bool.not_true, Bool.not_false, Bool.false_eq_true, if_false, rvD, notInD_bls, map_snd1, map_snd2, eCall, ix, rule_ix0, rule_ix1, eq, hq, cm, Bool.true_and]
      | false => simp (disch := first | omega | exact kk_int | exact kk_str | exact kk_tup | exact kk_lst | exact kk_bl | exact kk_non | assumption | decide) only [sFrz, sSeq, sSet, sSetO, sIf, sRet, sRetO, sRetN, sFor, sApp, sNil, sDrop, sAsg, eT, eOp, eC, eL, oLst, eTup, eUn, aCons, aNil, eFn, iE, eSl, pNo, pYes, asI, eV_d0, eV_o0, eV_s, R.bind_ok, R.map_ok, go_ok, asB_bl, kk_int, kk_str, kk_bl, kk_non, kk_tup, kk_lst, true_and, and_true, List.set_cons_succ, List.set_cons_zero, List.getElem?_cons_succ, List.getElem?_cons_zero, addD_int, subD_int, mulD_intL, mulD_intR, fdivD_int, modD_int, ltD_int, leD_int, gtD_int, geD_int, eqD_int, neD_int, eqD_bl, neD_bl, isD_non, notIsD_non, intD_int, negD_int, maxD_int, minD_int, lenD_lst, lenD_bor, lenD_tup, List.length_map, okLen0, okLen1, okLen2, okLen3, okLen4, okLen5, okLen6, okLen7, if_true, eAnd, eOr, eNot, eIf, eAndV, eOrV, eNotV, eChain, ifBl_bl, isN_non, isN_int, isN_bl, isN_str, isN_tup, isN_lst, Bool.not_true, Bool.not_false, Bool.false_eq_true, if_false, rvD, notInD_bls, map_snd1, map_snd2, eCall, ix, rule_ix0, rule_ix1, eq, hq, cm, Bool.false_and]
    · simp only [wipeD, List.set_cons_succ, List.set_cons_zero]
      simp (disch := first | omega | exact kk_int | exact kk_str | exact kk_tup | exact kk_lst | exact kk_bl | exact kk_non | assumption | decide) only [sFrz, sSeq, sSet, sSetO, sIf, sRet, sRetO, sRetN, sFor, sApp, sNil, sDrop, sAsg, eT, eOp, eC, eL, oLst, eTup, eUn, aCons, aNil, eFn, iE, eSl, pNo, pYes, asI, eV_d0, eV_o0, eV_s, R.bind_ok, R.map_ok, go_ok, asB_bl, kk_int, kk_str, kk_bl, kk_non, kk_tup, kk_lst, true_and, and_true, List.set_cons_succ, List.set_cons_zero, List.getElem?_cons_succ, List.getElem?_cons_zero, addD_int, subD_int, mulD_intL, mulD_intR, fdivD_int, modD_int, ltD_int, leD_int, gtD_int, geD_int, eqD_int, neD_int, eqD_bl, neD_bl, isD_non, notIsD_non, intD_int, negD_int, maxD_int, minD_int, lenD_lst, lenD_bor, lenD_tup, List.length_map, okLen0, okLen1, okLen2, okLen3, okLen4, okLen5, okLen6, okLen7, if_true, eAnd, eOr, eNot, eIf, eAndV, eOrV, eNotV, eChain, ifBl_bl, isN_non, isN_int, isN_bl, isN_str, isN_tup, isN_lst, Bool.not_true, Bool.not_false, Bool.false_eq_true, if_false, rvD, notInD_bls, map_snd1, map_snd2]
  simp only [List.set_cons_succ, List.set_cons_zero]
  generalize hits : hitsP sh t i nm = ps at hlt nd ⊢
  refine seq_frz (xs := ps.map fun p : Nat => D.int p) rfl ?_
  refine sRetO_i ?_ rfl
  simp only [List.set_cons_succ, List.set_cons_zero]
  have kd := keysD_of (ρ := [Sl.d (.lst (sh.map ruleD)), .d (.lst (t.map Enc.enc)), .d (.int i), .d (.str nm), .d (.lst (ps.map fun p : Nat => D.int p)), .un]) (j := 5) (fb := eCall m_strength (aCons (eV 0) (aCons (eV 5) aNil))) (sh := sh) (ps := ps) hlt fun p r e => by
    have cs := call_strength h e
    simp only [List.set_cons_succ, List.set_cons_zero]
    simp (disch := first | omega | exact kk_int | exact kk_str | exact kk_tup | exact kk_lst | exact kk_bl | exact kk_non | assumption | decide) only [eCall, aCons, aNil, eV_s, eV_d0, R.bind_ok, cs]
  have f := keysP_facts hlt nd
  have kk : (ps.map fun p : Nat => D.int p).all kept = true := by simp [kept]
  have so : sortK true (ps.map fun p : Nat => D.int p) (keysP sh ps) = .ok (orderD sh ps) := by
    unfold sortK
    rw [if_pos ⟨f.1, f.2, by simp [keysP]⟩, if_pos rfl]
    unfold orderD
    rw [List.map_congr_left (keys_third hlt nd)]
  unfold oSortK
  simp only [eV_s, eV_d0, R.bind_ok, lsD]
  rw [kd]
  dsimp only
  rw [toIL_dL]
  dsimp only
  rw [if_pos kk, so]
theorem call_look_part' {t : Tree} {i : Int} (h : OkTree t) (h1 : 0 ≤ i) (h2 : i < t.length) : callR m_look_part [.lst (t.map Enc.enc), .int i] = .ok .non := callR_m2 mo_look_part t i (rv := .d .non) (if_pos ⟨h, h1, h2⟩) rfl rfl
noncomputable def m_ranked : List D → R RV := runF 4 4 (rSeq (rDrop (eCall m_look_sheet (aCons (eV 0) aNil))) (rSeq (rDrop (eCall m_look_part (aCons (eV 1) (aCons (eV 2) aNil)))) (rSeq (rIf (eT (eOp notInD (eV 3) (eC d_NAMES))) rDead rNil) (rRet (eCall m_ranked_in (aCons (eV 0) (aCons (eV 1) (aCons (eV 2) (aCons (eV 3) aNil)))))))))
theorem call_ranked {sh : List Rule} {t : Tree} {i : Nat} {nm : Str} (h : ∀ r ∈ sh, OkRule r) (hl : sh.length ≤ 8) (ok : OkTree t) (hi : i < t.length) (hn : nm ∈ (["p", "q", "r"] : List Str)) :
    callR m_ranked [.lst (sh.map ruleD), .lst (t.map Enc.enc), .int i, .str nm] = .ok (.lst (orderD sh (hitsP sh t i nm))) := by
  refine callR_of (rv := .d (.lst (orderD sh (hitsP sh t i nm)))) (run_of rfl ?_) rfl
  simp only [td_nil, td_seq, td_brk, td_cnt, td_dead, td_retN, td_drop, td_ret, td_retO, td_retV, td_if, td_asg, td_set, td_setO, td_frz, td_app, td_put, td_aug, td_for, td_while, td_thru, td_set2, td_par]
  have ls := call_look_sheet h hl
  have lp := call_look_part' (i := (i : Int)) ok (by omega) (by omega)
  have cr := call_ranked_in h hl ok hi hn
  have nn : notInD (.str nm) d_NAMES = .ok (.bl false) := by
    rw [show notInD (.str nm) d_NAMES = .ok (.bl (!(["p", "q", "r"] : List Str).contains nm)) from notInD_tupS, cont hn]; rfl
  show sSeq _ _ (endsOf _) [Sl.d (.lst (sh.map ruleD)), .d (.lst (t.map Enc.enc)), .d (.int i), .d (.str nm)]
  refine seq_drop (d := .non) ?_ (seq_drop (d := .non) ?_ (seq_skip ?_ (sRet_i (d := .lst (orderD sh (hitsP sh t i nm))) ?_ rfl rfl)))
  · simp (disch := first | omega | exact kk_int | exact kk_str | exact kk_tup | exact kk_lst | exact kk_bl | exact kk_non | assumption | decide) only [eCall, aCons, aNil, eV_s, eV_d0, R.bind_ok, ls]
  · simp (disch := first | omega | exact kk_int | exact kk_str | exact kk_tup | exact kk_lst | exact kk_bl | exact kk_non | assumption | decide) only [eCall, aCons, aNil, eV_s, eV_d0, R.bind_ok, lp]
  · simp (disch := first | omega | exact kk_int | exact kk_str | exact kk_tup | exact kk_lst | exact kk_bl | exact kk_non | assumption | decide) only [sFrz, sSeq, sSet, sSetO, sIf, sRet, sRetO, sRetN, sFor, sApp, sNil, sDrop, sAsg, eT, eOp, eC, eL, oLst, eTup, eUn, aCons, aNil, eFn, iE, eSl, pNo, pYes, asI, eV_d0, eV_o0, eV_s, R.bind_ok, R.map_ok, go_ok, asB_bl, kk_int, kk_str, kk_bl, kk_non, kk_tup, kk_lst, true_and, and_true, List.set_cons_succ, List.set_cons_zero, List.getElem?_cons_succ, List.getElem?_cons_zero, addD_int, subD_int, mulD_intL, mulD_intR, fdivD_int, modD_int, ltD_int, leD_int, gtD_int, geD_int, eqD_int, neD_int, eqD_bl, neD_bl, isD_non, notIsD_non, intD_int, negD_int, maxD_int, minD_int, lenD_lst, lenD_bor, lenD_tup, List.length_map, okLen0, okLen1, okLen2, okLen3, okLen4, okLen5, okLen6, okLen7, if_true, eAnd, eOr, eNot, eIf, eAndV, eOrV, eNotV, eChain, ifBl_bl, isN_non, isN_int, isN_bl, isN_str, isN_tup, isN_lst, Bool.not_true, Bool.not_false, Bool.false_eq_true, if_false, rvD, notInD_bls, map_snd1, map_snd2, nn]
  · simp (disch := first | omega | exact kk_int | exact kk_str | exact kk_tup | exact kk_lst | exact kk_bl | exact kk_non | assumption | decide) only [eCall, aCons, aNil, eV_s, eV_d0, R.bind_ok, cr]
/-! the law's own order -/
theorem all_third {sh : List Rule} {ps : List Nat} (hp : ∀ p ∈ ps, p < sh.length) : ∀ t ∈ sortT (keysP sh ps), ∃ r p, t = keyT r p := fun t ht => by
  have ht := (sortT_perm _).mem_iff.mp ht
  obtain ⟨p, h1, rfl⟩ := List.mem_map.mp ht
  have := List.getElem?_eq_getElem (hp p h1)
  exact ⟨_, p, keyAt_of this⟩
noncomputable def m__law_order : List D → R RV := runF 2 5 (rSeq (rSetO 2 (oComp [3] (iEC (eV 1)) (gV 3) eYes (eTup (aCons (eFn intD (aCons (eOp ixD (eOp ixD (eV 0) (eV 3)) (eC (.int 3))) aNil)) (aCons (eCall m__law_rank (aCons (eOp ixD (eOp ixD (eV 0) (eV 3)) (eC (.int 0))) aNil)) (aCons (eV 3) aNil)))))) (rFrz 2 (rRetO (oComp [4] (iEC (eL (oRev (eL (eFn sortedO (aCons (eV 2) aNil)))))) (gV 4) eYes (eOp ixD (eV 4) (eC (.int 2)))))))
theorem call_order {sh : List Rule} {ps : List Nat} (h : ∀ r ∈ sh, OkRule r) (hl : sh.length ≤ 8) (hlt : ∀ p ∈ ps, p < sh.length) (nd : ps.Nodup) (pl : ps.length ≤ 100) :
    callR m__law_order [.lst (sh.map ruleD), .lst (ps.map fun p : Nat => D.int p)] = .ok (.lst (orderD sh ps)) := by
  refine callR_of (rv := .own (orderD sh ps)) (run_of rfl ?_) rfl
  simp only [td_nil, td_seq, td_brk, td_cnt, td_dead, td_retN, td_drop, td_ret, td_retO, td_retV, td_if, td_asg, td_set, td_setO, td_frz, td_app, td_put, td_aug, td_for, td_while, td_thru, td_set2, td_par]
  have f := keysP_facts hlt nd
  have kl : (keysP sh ps).length = ps.length := by simp [keysP]
  show sSeq _ _ (endsOf _) [Sl.d (.lst (sh.map ruleD)), .d (.lst (ps.map fun p : Nat => D.int p)), .un, .un, .un]
  refine seq_setO (xs := dL (keysP sh ps)) ?_ ?_
  · rw [dL_map]
    have ekeys : (keysP sh ps).map dI = ps.map fun p => dI (keyAt sh p) := by unfold keysP; rw [List.map_map]; rfl
    rw [ekeys]
    refine oComp_ok (ds := ps.map fun p : Nat => D.int p) rfl (by simp; omega) ?_
    refine compD_all (fun p => dI (keyAt sh p)) fun p hp => ?_
    have lt := hlt p hp
    obtain ⟨r, hm, er, ix⟩ := shd_ix (sh := sh) (i := (p : Int)) (by omega) (by omega)
    rw [Int.toNat_natCast] at er
    have lr := call_lrank (h r hm).s
    have o3 : okLen [D.int (if r.st = true then 1 else 0), .tup [.int (rankA r.s), .int (rankB r.s)], .int p] := okLen3 rfl rfl rfl
    rw [keyAt_of er]
    refine ⟨_, rfl, ?_, rfl⟩
    simp only [wipeD, List.set_cons_succ, List.set_cons_zero]
    simp (disch := first | omega | exact kk_int | exact kk_str | exact kk_tup | exact kk_lst | exact kk_bl | exact kk_non | assumption | decide) only [eTup, eOp, eFn, eC, eCall, aCons, aNil, eV_s, eV_d0, R.bind_ok, ix, rule_ix0, rule_ix3, intD_bl, lr, if_pos o3]
    rfl
  simp only [List.set_cons_succ, List.set_cons_zero]
  refine seq_frz (xs := dL (keysP sh ps)) rfl ?_
  refine sRetO_i ?_ rfl
  simp only [List.set_cons_succ, List.set_cons_zero]
  have so : sortedO [.lst (dL (keysP sh ps))] = .ok (dL (sortT (keysP sh ps))) := by
    show sortedL (dL (keysP sh ps)) = _
    unfold sortedL
    rw [toIL_dL]
    exact if_pos (.inl f.1)
  have eo : orderD sh ps = (sortT (keysP sh ps)).reverse.map thirdI := by unfold orderD; rw [List.map_reverse]
  rw [eo]
  refine oComp_ok (ds := (sortT (keysP sh ps)).reverse.map dI) ?_ (by rw [List.length_map, List.length_reverse, (sortT_perm _).length_eq]; omega) ?_
  · simp only [iEC, eL, oRev, eFn, aCons, aNil, eV_s, eV_d0, R.bind_ok, R.map_ok, so, revO, lsD]
    rw [dL_map, List.map_reverse]; rfl
  · refine compD_all thirdI fun t ht => ?_
    obtain ⟨r, p, rfl⟩ := all_third hlt t (List.mem_reverse.mp ht)
    exact ⟨_, rfl, rfl, rfl⟩

end Lw
set_option maxRecDepth 100000
set_option maxHeartbeats 4000000
namespace Lw
open PySem L2 DL
/-! a value equals itself -/
theorem toPs_of {n : Nat} (h : ∀ d, SameOk n d → ∃ p, toP d = some p ∧ p.canLay0 = true ∧ p.depth ≤ n) : ∀ xs : List D, (∀ x ∈ xs, SameOk n x) → ∃ ps, toPs xs = some ps ∧ PyData.canLayAll0 ps = true ∧ PyData.depthAll ps ≤ n
  | [], _ => ⟨[], rfl, rfl, Nat.zero_le _⟩
  | x :: xs, g => by
    obtain ⟨p, a1, a2, a3⟩ := h x (g x List.mem_cons_self)
    obtain ⟨ps, b1, b2, b3⟩ := toPs_of h xs fun y hy => g y (List.mem_cons_of_mem _ hy)
    refine ⟨p :: ps, ?_, ?_, by show max p.depth (PyData.depthAll ps) ≤ n; omega⟩
    · show (toP x).bind (fun q => (toPs xs).map (q :: ·)) = _
      rw [a1, b1]; rfl
    · show (p.canLay0 && PyData.canLayAll0 ps) = true
      rw [a2, b2]; rfl
theorem toP_of : ∀ (n : Nat) (d : D), SameOk n d → ∃ p, toP d = some p ∧ p.canLay0 = true ∧ p.depth ≤ n
  | 0, d, h => by cases h
  | n + 1, d, h => by
    have ih := toP_of n
    cases h with
    | non => exact ⟨_, rfl, rfl, Nat.zero_le _⟩
    | bl b => exact ⟨_, rfl, rfl, Nat.zero_le _⟩
    | int i => exact ⟨_, rfl, rfl, Nat.zero_le _⟩
    | str z g => exact ⟨_, rfl, g, Nat.zero_le _⟩
    | tup xs g1 g2 =>
      obtain ⟨ps, a, b, c⟩ := toPs_of ih xs g2
      exact ⟨.tuple ps, by show (toPs xs).map PyData.tuple = _; rw [a]; rfl, b, by show PyData.depthAll ps + 1 ≤ _; omega⟩
    | lst xs g1 g2 =>
      obtain ⟨ps, a, b, c⟩ := toPs_of ih xs g2
      exact ⟨.list ps, by show (toPs xs).map PyData.list = _; rw [a]; rfl, b, by show PyData.depthAll ps + 1 ≤ _; omega⟩
theorem deb_same {n : Nat} {d : D} (h : SameOk n d) : deb d = d := by cases h <;> rfl
theorem eqD_self {n : Nat} {d : D} (h : SameOk n d) (hn : n ≤ 64) : eqD d d = .ok (.bl true) := by
  obtain ⟨p, a, b, c⟩ := toP_of n d h
  unfold eqD
  rw [deb_same h, a]
  have sh : SeqAt.shaped p = true := by
    unfold SeqAt.shaped
    rw [b, decide_eq_true (by omega)]; rfl
  show (if SeqAt.shaped p = true ∧ SeqAt.shaped p = true then R.ok (D.bl (PyData.eqv p p)) else .stuck) = _
  rw [if_pos ⟨sh, sh⟩, SeqAt.eqv_refl p b]
theorem same_ints {n : Nat} {xs : List D} (h : xs.length ≤ 1000000) (g : ∀ x ∈ xs, ∃ i, x = .int i) : SameOk (n + 2) (.lst xs) := .lst _ h fun x hx => by
  obtain ⟨i, rfl⟩ := g x hx
  exact .int i
theorem same_tree {n : Nat} {t : Tree} (ok : OkTree t) : SameOk (n + 3) (.lst (t.map Enc.enc)) := by
  have hl := ok.le
  refine .lst _ (by simp; omega) fun x hx => ?_
  obtain ⟨p, hp, rfl⟩ := List.mem_map.mp hx
  refine .tup _ (by simp) fun x hx => ?_
  rcases List.mem_cons.mp hx with rfl | hx
  · exact .int _
  rcases List.mem_cons.mp hx with rfl | hx
  · exact .str _ (labs_ok _ (ok.mem hp).2.2)
  · cases hx
theorem same_sheet {n : Nat} {sh : List Rule} (h : ∀ r ∈ sh, OkRule r) (hl : sh.length ≤ 8) : SameOk (n + 5) (.lst (sh.map ruleD)) := by
  refine .lst _ (by simp; omega) fun x hx => ?_
  obtain ⟨r, hr, rfl⟩ := List.mem_map.mp hx
  exact same_rule (h r hr)

end Lw
set_option maxRecDepth 100000
set_option maxHeartbeats 4000000
namespace Lw
open PySem L2 DL
/-! the law k14 -/
theorem lmet_call {ss : List Step} {t : Tree} (h : OkSel ss) (ok : OkTree t) : callR m__law_met [.tup (ss.map Enc.enc), .lst (t.map Enc.enc)] = .ok (.lst ((mkL ss t).map D.bl)) := call_lmet ⟨h, ok⟩
/-- the sheet of k14 -/
def sheet14 (nums : List Int) : List Rule :=
  if nums.getD 15 0 % 2 = 0 then (List.range (sheetR (nums.drop 20) 8).length).map fun p => ⟨((sheetR (nums.drop 20) 8).getD (p % 3) ⟨[], "", .n 0, false⟩).s, "p", .n p, ((sheetR (nums.drop 20) 8).getD p ⟨[], "", .n 0, false⟩).st⟩
  else sheetR (nums.drop 20) 8
theorem getD_mem {α : Type} {l : List α} {i : Nat} {d : α} (h : i < l.length) : l.getD i d ∈ l := by
  rw [List.getD_eq_getElem?_getD, List.getElem?_eq_getElem h]; exact List.getElem_mem h
theorem shd_ixD {sh : List Rule} {i : Int} (h1 : 0 ≤ i) (h2 : i < sh.length) : ixD (.lst (sh.map ruleD)) (.int i) = .ok (ruleD (sh.getD i.toNat ⟨[], "", .n 0, false⟩)) := by
  have hi : i.toNat < sh.length := by omega
  rw [ixD_lst h1 (by simpa using h2), getD_map hi ⟨[], "", .n 0, false⟩]
theorem hits_flip {sh : List Rule} {t : Tree} {i : Nat} {nm : Str} : ((List.range sh.length).filter fun p => metN 3 (sh.getD p ⟨[], "", .n 0, false⟩).s t i && decide ((sh.getD p ⟨[], "", .n 0, false⟩).nm = nm)) = hitsP sh t i nm := by
  unfold hitsP
  refine List.filter_congr fun p hp => ?_
  have hp := List.mem_range.mp hp
  rw [List.getD_eq_getElem?_getD, List.getElem?_eq_getElem hp]
  simp only [Option.getD_some]
  rw [Bool.and_comm]
noncomputable def m_law_k14 : List D → R RV := runF 1 11 (rSeq (rSet 1 (eCall m__law_numbers (aCons (eV 0) (aCons (eC (.int 120)) aNil)))) (rSeq (rSet 2 (eCall m__law_tree (aCons (eV 1) (aCons (eC (.int 10)) aNil)))) (rSeq (rSet 3 (eCall m__law_sheet (aCons (eSl cutD (eV 1) (pYes (eC (.int 20))) pNo) (aCons (eC (.int 8)) aNil)))) (rSeq (rIf (eT (eOp eqD (eOp modD (eOp ixD (eV 1) (eC (.int 15))) (eC (.int 2))) (eC (.int 0)))) (rSet 3 (eL (oComp [9] (iR1 (aCons (eFn lenD (aCons (eV 3) aNil)) aNil)) (gV 9) eYes (eTup (aCons (eOp ixD (eOp ixD (eV 3) (eOp modD (eV 9) (eC (.int 3)))) (eC (.int 0))) (aCons (eC (.str "p")) (aCons (eV 9) (aCons (eOp ixD (eOp ixD (eV 3) (eV 9)) (eC (.int 3))) aNil)))))))) rNil) (rSeq (rSet 4 (eL (oComp [10] (iEC (eV 3)) (gV 10) eYes (eCall m__law_met (aCons (eOp ixD (eV 10) (eC (.int 0))) (aCons (eV 2) aNil)))))) (rSeq (rSet 5 (eL (oLst (aCons (eL (eFn listO (aCons (eV 3) aNil))) (aCons (eL (eFn listO (aCons (eV 2) aNil))) aNil))))) (rSeq (rFor (iR1 (aCons (eFn lenD (aCons (eV 2) aNil)) aNil)) (gV 6) (rFor (iE (eC (.str "pqr"))) (gV 7) (rSeq (rSetO 8 (oComp [9] (iR1 (aCons (eFn lenD (aCons (eV 3) aNil)) aNil)) (gV 9) (eAnd (eT (eOp ixD (eOp ixD (eV 4) (eV 9)) (eV 6))) (eT (eOp eqD (eOp ixD (eOp ixD (eV 3) (eV 9)) (eC (.int 1))) (eV 7)))) (eV 9))) (rFrz 8 (rIf (eNot (eT (eCall (m__law_same 9) (aCons (eCall m_ranked (aCons (eOp ixD (eV 5) (eC (.int 0))) (aCons (eOp ixD (eV 5) (eC (.int 1))) (aCons (eV 6) (aCons (eV 7) aNil))))) (aCons (eCall m__law_order (aCons (eV 3) (aCons (eV 8) aNil))) aNil))))) (rRet (eC (.bl false))) rNil))))) (rRet (eOp eqD (eV 5) (eL (oLst (aCons (eV 3) (aCons (eV 2) aNil)))))))))))))
theorem law_k14_holds {ns : List Int} (hc : ns.length ≤ 63) : m_law_k14 [.scr (ns.map D.int)] = .ok (.d (.bl true)) := by
  refine run_of rfl ?_
  simp only [td_nil, td_seq, td_brk, td_cnt, td_dead, td_retN, td_drop, td_ret, td_retO, td_retV, td_if, td_asg, td_set, td_setO, td_frz, td_app, td_put, td_aug, td_for, td_while, td_thru, td_set2, td_par]
  have nl := numbersD_len ns 120
  show sSeq _ _ (endsOf _) [Sl.d (.scr (ns.map D.int)), .un, .un, .un, .un, .un, .un, .un, .un, .un, .un]
  refine seq_set (d := .lst ((numbersD ns 120).map D.int)) ?_ rfl ?_
  · simp (disch := first | omega | exact kk_int | exact kk_str | exact kk_tup | exact kk_lst | exact kk_bl | exact kk_non | assumption | decide) only [sFrz, sSeq, sSet, sSetO, sIf, sRet, sRetO, sRetN, sFor, sApp, sNil, sDrop, sAsg, eT, eOp, eC, eL, oLst, eTup, eUn, aCons, aNil, eFn, iE, eSl, pNo, pYes, asI, eV_d0, eV_o0, eV_s, R.bind_ok, R.map_ok, go_ok, asB_bl, kk_int, kk_str, kk_bl, kk_non, kk_tup, kk_lst, true_and, and_true, List.set_cons_succ, List.set_cons_zero, List.getElem?_cons_succ, List.getElem?_cons_zero, addD_int, subD_int, mulD_intL, mulD_intR, fdivD_int, modD_int, ltD_int, leD_int, gtD_int, geD_int, eqD_int, neD_int, eqD_bl, neD_bl, isD_non, notIsD_non, intD_int, negD_int, maxD_int, minD_int, lenD_lst, lenD_bor, lenD_tup, List.length_map, okLen0, okLen1, okLen2, okLen3, okLen4, okLen5, okLen6, okLen7, if_true, eAnd, eOr, eNot, eIf, eAndV, eOrV, eNotV, eChain, ifBl_bl, isN_non, isN_int, isN_bl, isN_str, isN_tup, isN_lst, Bool.not_true, Bool.not_false, Bool.false_eq_true, if_false, rvD, notInD_bls, map_snd1, map_snd2, eCall]
    exact call_numbers ⟨hc, by decide, by decide⟩
  generalize numbersD ns 120 = nums at nl ⊢
  have ok := treeD_ok nums (upto := 10) (by decide) (by decide)
  refine seq_set (d := .lst ((treeD nums 10).map Enc.enc)) ?_ rfl ?_
  · simp (disch := first | omega | exact kk_int | exact kk_str | exact kk_tup | exact kk_lst | exact kk_bl | exact kk_non | assumption | decide) only [sFrz, sSeq, sSet, sSetO, sIf, sRet, sRetO, sRetN, sFor, sApp, sNil, sDrop, sAsg, eT, eOp, eC, eL, oLst, eTup, eUn, aCons, aNil, eFn, iE, eSl, pNo, pYes, asI, eV_d0, eV_o0, eV_s, R.bind_ok, R.map_ok, go_ok, asB_bl, kk_int, kk_str, kk_bl, kk_non, kk_tup, kk_lst, true_and, and_true, List.set_cons_succ, List.set_cons_zero, List.getElem?_cons_succ, List.getElem?_cons_zero, addD_int, subD_int, mulD_intL, mulD_intR, fdivD_int, modD_int, ltD_int, leD_int, gtD_int, geD_int, eqD_int, neD_int, eqD_bl, neD_bl, isD_non, notIsD_non, intD_int, negD_int, maxD_int, minD_int, lenD_lst, lenD_bor, lenD_tup, List.length_map, okLen0, okLen1, okLen2, okLen3, okLen4, okLen5, okLen6, okLen7, if_true, eAnd, eOr, eNot, eIf, eAndV, eOrV, eNotV, eChain, ifBl_bl, isN_non, isN_int, isN_bl, isN_str, isN_tup, isN_lst, Bool.not_true, Bool.not_false, Bool.false_eq_true, if_false, rvD, notInD_bls, map_snd1, map_snd2, eCall]
    exact call_tree ⟨by decide, by decide, by omega⟩
  generalize treeD nums 10 = t at ok ⊢
  have h60 := ok.le
  have okR := sheetR_ok (nums.drop 20) 8
  have lenR := sheetR_len (nums.drop 20) (upto := 8) (by decide)
  have cf := cut_from (ns := nums) (q := 20) (by decide)
  have cs := call_lsheet (d := nums.drop 20) (upto := 8) (by decide) (by decide) (by rw [List.length_drop]; omega) (by rw [List.length_drop]; omega)
  refine seq_set (d := .lst ((sheetR (nums.drop 20) 8).map ruleD)) ?_ rfl ?_
  · simp (disch := first | omega | exact kk_int | exact kk_str | exact kk_tup | exact kk_lst | exact kk_bl | exact kk_non | assumption | decide) only [sFrz, sSeq, sSet, sSetO, sIf, sRet, sRetO, sRetN, sFor, sApp, sNil, sDrop, sAsg, eT, eOp, eC, eL, oLst, eTup, eUn, aCons, aNil, eFn, iE, eSl, pNo, pYes, asI, eV_d0, eV_o0, eV_s, R.bind_ok, R.map_ok, go_ok, asB_bl, kk_int, kk_str, kk_bl, kk_non, kk_tup, kk_lst, true_and, and_true, List.set_cons_succ, List.set_cons_zero, List.getElem?_cons_succ, List.getElem?_cons_zero, addD_int, subD_int, mulD_intL, mulD_intR, fdivD_int, modD_int, ltD_int, leD_int, gtD_int, geD_int, eqD_int, neD_int, eqD_bl, neD_bl, isD_non, notIsD_non, intD_int, negD_int, maxD_int, minD_int, lenD_lst, lenD_bor, lenD_tup, List.length_map, okLen0, okLen1, okLen2, okLen3, okLen4, okLen5, okLen6, okLen7, if_true, eAnd, eOr, eNot, eIf, eAndV, eOrV, eNotV, eChain, ifBl_bl, isN_non, isN_int, isN_bl, isN_str, isN_tup, isN_lst, Bool.not_true, Bool.not_false, Bool.false_eq_true, if_false, rvD, notInD_bls, map_snd1, map_snd2, eCall, cutD]
    rw [cf]
    exact cs
  simp only [List.set_cons_succ, List.set_cons_zero]
  have i15 : ixD (.lst (nums.map D.int)) (.int 15) = .ok (.int (nums.getD 15 0)) := int_ix (by decide) (by omega)
  have ok14 : ∀ r ∈ sheet14 nums, OkRule r := by
    unfold sheet14
    split
    · intro r hr
      obtain ⟨p, hp, rfl⟩ := List.mem_map.mp hr
      have hp := List.mem_range.mp hp
      have m3 : p % 3 < (sheetR (nums.drop 20) 8).length := Nat.lt_of_le_of_lt (Nat.mod_le _ _) hp
      exact ⟨(okR _ (getD_mem m3)).s, List.mem_cons_self, ⟨by omega, by omega⟩⟩
    · exact okR
  have len14 : (sheet14 nums).length ≤ 8 := by
    unfold sheet14
    split
    · rw [List.length_map, List.length_range]; omega
    · omega
  have step : ∀ De : EndsD, ∀ ρ, (∀ ρ', ρ' = ρ.set 3 (.d (.lst ((sheet14 nums).map ruleD))) → De.nx ρ') → ρ = [Sl.d (.scr (ns.map D.int)), .d (.lst (nums.map D.int)), .d (.lst (t.map Enc.enc)), .d (.lst ((sheetR (nums.drop 20) 8).map ruleD)), .un, .un, .un, .un, .un, .un, .un] →
      sIf (eT (eOp eqD (eOp modD (eOp ixD (eV 1) (eC (.int 15))) (eC (.int 2))) (eC (.int 0)))) (sSet 3 (eL (oComp [9] (iR1 (aCons (eFn lenD (aCons (eV 3) aNil)) aNil)) (gV 9) eYes (eTup (aCons (eOp ixD (eOp ixD (eV 3) (eOp modD (eV 9) (eC (.int 3)))) (eC (.int 0))) (aCons (eC (.str "p")) (aCons (eV 9) (aCons (eOp ixD (eOp ixD (eV 3) (eV 9)) (eC (.int 3))) aNil)))))))) sNil De ρ := by
    intro De ρ hn e
    subst e
    by_cases h2 : nums.getD 15 0 % 2 = 0
    · have e14 : sheet14 nums = (List.range (sheetR (nums.drop 20) 8).length).map fun p => ⟨((sheetR (nums.drop 20) 8).getD (p % 3) ⟨[], "", .n 0, false⟩).s, "p", .n p, ((sheetR (nums.drop 20) 8).getD p ⟨[], "", .n 0, false⟩).st⟩ := if_pos h2
      refine sIf_yes ?_ (sSet_i (d := .lst ((sheet14 nums).map ruleD)) ?_ rfl (hn _ rfl))
      · simp (disch := first | omega | exact kk_int | exact kk_str | exact kk_tup | exact kk_lst | exact kk_bl | exact kk_non | assumption | decide) only [sFrz, sSeq, sSet, sSetO, sIf, sRet, sRetO, sRetN, sFor, sApp, sNil, sDrop, sAsg, eT, eOp, eC, eL, oLst, eTup, eUn, aCons, aNil, eFn, iE, eSl, pNo, pYes, asI, eV_d0, eV_o0, eV_s, R.bind_ok, R.map_ok, go_ok, asB_bl, kk_int, kk_str, kk_bl, kk_non, kk_tup, kk_lst, true_and, and_true, List.set_cons_succ, List.set_cons_zero, List.getElem?_cons_succ, List.getElem?_cons_zero, addD_int, subD_int, mulD_intL, mulD_intR, fdivD_int, modD_int, ltD_int, leD_int, gtD_int, geD_int, eqD_int, neD_int, eqD_bl, neD_bl, isD_non, notIsD_non, intD_int, negD_int, maxD_int, minD_int, lenD_lst, lenD_bor, lenD_tup, List.length_map, okLen0, okLen1, okLen2, okLen3, okLen4, okLen5, okLen6, okLen7, if_true, eAnd, eOr, eNot, eIf, eAndV, eOrV, eNotV, eChain, ifBl_bl, isN_non, isN_int, isN_bl, isN_str, isN_tup, isN_lst, Bool.not_true, Bool.not_false, Bool.false_eq_true, if_false, rvD, notInD_bls, map_snd1, map_snd2, i15]
        rw [h2]; rfl
      · have oc : oComp [9] (iR1 (aCons (eFn lenD (aCons (eV 3) aNil)) aNil)) (gV 9) eYes (eTup (aCons (eOp ixD (eOp ixD (eV 3) (eOp modD (eV 9) (eC (.int 3)))) (eC (.int 0))) (aCons (eC (.str "p")) (aCons (eV 9) (aCons (eOp ixD (eOp ixD (eV 3) (eV 9)) (eC (.int 3))) aNil))))) [Sl.d (.scr (ns.map D.int)), .d (.lst (nums.map D.int)), .d (.lst (t.map Enc.enc)), .d (.lst ((sheetR (nums.drop 20) 8).map ruleD)), .un, .un, .un, .un, .un, .un, .un] = .ok ((sheet14 nums).map ruleD) := by
          rw [e14, List.map_map]
          generalize sheetR (nums.drop 20) 8 = sh at lenR ⊢
          refine oComp_ok (ds := rngL 0 1 sh.length) (iR1_ok (j := (sh.length : Int)) ?_ (big62_of (by omega) (by omega))) (by unfold rngL; rw [List.length_map, List.length_range]; omega) ?_
          · simp (disch := first | omega | exact kk_int | exact kk_str | exact kk_tup | exact kk_lst | exact kk_bl | exact kk_non | assumption | decide) only [sFrz, sSeq, sSet, sSetO, sIf, sRet, sRetO, sRetN, sFor, sApp, sNil, sDrop, sAsg, eT, eOp, eC, eL, oLst, eTup, eUn, aCons, aNil, eFn, iE, eSl, pNo, pYes, asI, eV_d0, eV_o0, eV_s, R.bind_ok, R.map_ok, go_ok, asB_bl, kk_int, kk_str, kk_bl, kk_non, kk_tup, kk_lst, true_and, and_true, List.set_cons_succ, List.set_cons_zero, List.getElem?_cons_succ, List.getElem?_cons_zero, addD_int, subD_int, mulD_intL, mulD_intR, fdivD_int, modD_int, ltD_int, leD_int, gtD_int, geD_int, eqD_int, neD_int, eqD_bl, neD_bl, isD_non, notIsD_non, intD_int, negD_int, maxD_int, minD_int, lenD_lst, lenD_bor, lenD_tup, List.length_map, okLen0, okLen1, okLen2, okLen3, okLen4, okLen5, okLen6, okLen7, if_true, eAnd, eOr, eNot, eIf, eAndV, eOrV, eNotV, eChain, ifBl_bl, isN_non, isN_int, isN_bl, isN_str, isN_tup, isN_lst, Bool.not_true, Bool.not_false, Bool.false_eq_true, if_false, rvD, notInD_bls, map_snd1, map_snd2]
          rw [rngL_0]
          refine compD_all _ fun p hp => ⟨_, rfl, ?_, rfl⟩
          have hp := List.mem_range.mp hp
          have m3 : p % 3 < sh.length := Nat.lt_of_le_of_lt (Nat.mod_le _ _) hp
          have x1 := shd_ixD (sh := sh) (i := (p : Int) % 3) (by omega) (by omega)
          have x2 := shd_ixD (sh := sh) (i := (p : Int)) (by omega) (by omega)
          rw [show ((p : Int) % 3).toNat = p % 3 by omega] at x1
          rw [Int.toNat_natCast] at x2
          have o4 : okLen [D.tup ((sh.getD (p % 3) ⟨[], "", .n 0, false⟩).s.map Enc.enc), .str "p", .int p, .bl (sh.getD p ⟨[], "", .n 0, false⟩).st] := okLen4 rfl rfl rfl rfl
          simp only [wipeD, List.set_cons_succ, List.set_cons_zero]
          simp (disch := first | omega | exact kk_int | exact kk_str | exact kk_tup | exact kk_lst | exact kk_bl | exact kk_non | assumption | decide) only [eTup, eOp, eC, aCons, aNil, eV_s, eV_d0, R.bind_ok, modD_int, x1, x2, rule_ix0, rule_ix3, if_pos o4]
          rfl
        simp only [eL, oc, R.map_ok]
    · refine sIf_skip ?_ (hn _ ?_)
      · have hb : (nums.getD 15 0 % 2 == 0) = false := by simpa using h2
        simp (disch := first | omega | exact kk_int | exact kk_str | exact kk_tup | exact kk_lst | exact kk_bl | exact kk_non | assumption | decide) only [sFrz, sSeq, sSet, sSetO, sIf, sRet, sRetO, sRetN, sFor, sApp, sNil, sDrop, sAsg, eT, eOp, eC, eL, oLst, eTup, eUn, aCons, aNil, eFn, iE, eSl, pNo, pYes, asI, eV_d0, eV_o0, eV_s, R.bind_ok, R.map_ok, go_ok, asB_bl, kk_int, kk_str, kk_bl, kk_non, kk_tup, kk_lst, true_and, and_true, List.set_cons_succ, List.set_cons_zero, List.getElem?_cons_succ, List.getElem?_cons_zero, addD_int, subD_int, mulD_intL, mulD_intR, fdivD_int, modD_int, ltD_int, leD_int, gtD_int, geD_int, eqD_int, neD_int, eqD_bl, neD_bl, isD_non, notIsD_non, intD_int, negD_int, maxD_int, minD_int, lenD_lst, lenD_bor, lenD_tup, List.length_map, okLen0, okLen1, okLen2, okLen3, okLen4, okLen5, okLen6, okLen7, if_true, eAnd, eOr, eNot, eIf, eAndV, eOrV, eNotV, eChain, ifBl_bl, isN_non, isN_int, isN_bl, isN_str, isN_tup, isN_lst, Bool.not_true, Bool.not_false, Bool.false_eq_true, if_false, rvD, notInD_bls, map_snd1, map_snd2, i15, hb]
      · rw [show sheet14 nums = sheetR (nums.drop 20) 8 from if_neg h2]; rfl
  refine sSeq_i (step _ _ ?_ rfl)
  rintro _ rfl
  simp only [List.set_cons_succ, List.set_cons_zero]
  clear step cs okR lenR
  generalize sheet14 nums = sh at ok14 len14 ⊢
  refine seq_set (d := .lst (sh.map fun r : Rule => D.lst ((mkL r.s t).map D.bl))) ?_ rfl ?_
  · have oc : oComp [10] (iEC (eV 3)) (gV 10) eYes (eCall m__law_met (aCons (eOp ixD (eV 10) (eC (.int 0))) (aCons (eV 2) aNil))) [Sl.d (.scr (ns.map D.int)), .d (.lst (nums.map D.int)), .d (.lst (t.map Enc.enc)), .d (.lst (sh.map ruleD)), .un, .un, .un, .un, .un, .un, .un] = .ok (sh.map fun r : Rule => D.lst ((mkL r.s t).map D.bl)) := by
      refine oComp_ok (ds := sh.map ruleD) rfl (by simp; omega) ?_
      refine compD_all (fun r : Rule => D.lst ((mkL r.s t).map D.bl)) fun r hr => ⟨_, rfl, ?_, rfl⟩
      have lm := lmet_call (ok14 r hr).s ok
      simp only [wipeD, List.set_cons_succ, List.set_cons_zero]
      simp (disch := first | omega | exact kk_int | exact kk_str | exact kk_tup | exact kk_lst | exact kk_bl | exact kk_non | assumption | decide) only [eOp, eC, eCall, aCons, aNil, eV_s, eV_d0, R.bind_ok, rule_ix0, lm]
    simp only [eL, oc, R.map_ok]
  simp only [List.set_cons_succ, List.set_cons_zero]
  have o2 : okLen [D.lst (sh.map ruleD), .lst (t.map Enc.enc)] := okLen2 rfl rfl
  refine seq_set (d := .lst [.lst (sh.map ruleD), .lst (t.map Enc.enc)]) ?_ rfl ?_
  · simp (disch := first | omega | exact kk_int | exact kk_str | exact kk_tup | exact kk_lst | exact kk_bl | exact kk_non | assumption | decide) only [eL, oLst, eFn, aCons, aNil, eV_s, eV_d0, R.bind_ok, R.map_ok, show listO [.lst (sh.map ruleD)] = .ok (sh.map ruleD) from rfl, show listO [.lst (t.map Enc.enc)] = .ok (t.map Enc.enc) from rfl, if_pos o2]
  simp only [List.set_cons_succ, List.set_cons_zero]
  refine seq_for (ds := rngL 0 1 t.length) (iR1_ok (j := (t.length : Int)) ?_ (big62_of (by omega) (by omega))) ?_
  · simp (disch := first | omega | exact kk_int | exact kk_str | exact kk_tup | exact kk_lst | exact kk_bl | exact kk_non | assumption | decide) only [sFrz, sSeq, sSet, sSetO, sIf, sRet, sRetO, sRetN, sFor, sApp, sNil, sDrop, sAsg, eT, eOp, eC, eL, oLst, eTup, eUn, aCons, aNil, eFn, iE, eSl, pNo, pYes, asI, eV_d0, eV_o0, eV_s, R.bind_ok, R.map_ok, go_ok, asB_bl, kk_int, kk_str, kk_bl, kk_non, kk_tup, kk_lst, true_and, and_true, List.set_cons_succ, List.set_cons_zero, List.getElem?_cons_succ, List.getElem?_cons_zero, addD_int, subD_int, mulD_intL, mulD_intR, fdivD_int, modD_int, ltD_int, leD_int, gtD_int, geD_int, eqD_int, neD_int, eqD_bl, neD_bl, isD_non, notIsD_non, intD_int, negD_int, maxD_int, minD_int, lenD_lst, lenD_bor, lenD_tup, List.length_map, okLen0, okLen1, okLen2, okLen3, okLen4, okLen5, okLen6, okLen7, if_true, eAnd, eOr, eNot, eIf, eAndV, eOrV, eNotV, eChain, ifBl_bl, isN_non, isN_int, isN_bl, isN_str, isN_tup, isN_lst, Bool.not_true, Bool.not_false, Bool.false_eq_true, if_false, rvD, notInD_bls, map_snd1, map_snd2]
  refine loop_rng (lo := 0) (n := t.length) (fun i ρ => ∃ a b c d e, ρ = [Sl.d (.scr (ns.map D.int)), .d (.lst (nums.map D.int)), .d (.lst (t.map Enc.enc)), .d (.lst (sh.map ruleD)), .d (.lst (sh.map fun r : Rule => D.lst ((mkL r.s t).map D.bl))), .d (.lst [.lst (sh.map ruleD), .lst (t.map Enc.enc)]), a, b, c, d, e]) ?_ ?_ ⟨_, _, _, _, _, rfl⟩
  · rintro _ ⟨a, b, c, d, e, rfl⟩
    dsimp only
    have sm : SameOk 9 (.lst [.lst (sh.map ruleD), .lst (t.map Enc.enc)]) := by
      refine .lst _ (by simp) fun x hx => ?_
      rcases List.mem_cons.mp hx with rfl | hx
      · exact same_sheet ok14 len14
      rcases List.mem_cons.mp hx with rfl | hx
      · exact same_tree ok
      · cases hx
    have es := eqD_self sm (by decide)
    refine sRet_i (d := .bl true) ?_ rfl rfl
    simp (disch := first | omega | exact kk_int | exact kk_str | exact kk_tup | exact kk_lst | exact kk_bl | exact kk_non | assumption | decide) only [eOp, eL, oLst, aCons, aNil, eV_s, eV_d0, R.bind_ok, R.map_ok, if_pos o2, es]
  · rintro i _ nx hi ⟨a, b, c, d, e, rfl⟩ hnx
    refine ⟨_, rfl, ?_⟩
    simp only [List.set_cons_succ, List.set_cons_zero]
    refine sFor_i (ds := (["p", "q", "r"] : List Str).map D.str) ?_ ?_
    · show R.ok (signs "pqr") = _
      rw [signs_of (cs := [112, 113, 114]) (zs := ["p", "q", "r"]) pqr_str (by decide +kernel)]
    refine loop_map (f := D.str) (fun rest ρ => (∀ z ∈ rest, z ∈ (["p", "q", "r"] : List Str)) ∧ ∃ b c d e, ρ = [Sl.d (.scr (ns.map D.int)), .d (.lst (nums.map D.int)), .d (.lst (t.map Enc.enc)), .d (.lst (sh.map ruleD)), .d (.lst (sh.map fun r : Rule => D.lst ((mkL r.s t).map D.bl))), .d (.lst [.lst (sh.map ruleD), .lst (t.map Enc.enc)]), .d (.int (0 + (i : Int))), b, c, d, e]) ?_ ?_ ⟨fun z hz => hz, _, _, _, _, rfl⟩
    · rintro _ ⟨_, b, c, d, e, rfl⟩
      exact hnx _ ⟨_, _, _, _, _, rfl⟩
    · rintro nm rest _ ⟨hz, b, c, d, e, rfl⟩ ih
      refine ⟨_, rfl, ?_⟩
      simp only [List.set_cons_succ, List.set_cons_zero]
      have hn := hz nm List.mem_cons_self
      refine seq_setO (xs := (hitsP sh t i nm).map fun p : Nat => D.int p) ?_ ?_
      · rw [← hits_flip]
        refine oComp_ok (ds := rngL 0 1 sh.length) (iR1_ok (j := (sh.length : Int)) ?_ (big62_of (by omega) (by omega))) (by unfold rngL; rw [List.length_map, List.length_range]; omega) ?_
        · simp (disch := first | omega | exact kk_int | exact kk_str | exact kk_tup | exact kk_lst | exact kk_bl | exact kk_non | assumption | decide) only [sFrz, sSeq, sSet, sSetO, sIf, sRet, sRetO, sRetN, sFor, sApp, sNil, sDrop, sAsg, eT, eOp, eC, eL, oLst, eTup, eUn, aCons, aNil, eFn, iE, eSl, pNo, pYes, asI, eV_d0, eV_o0, eV_s, R.bind_ok, R.map_ok, go_ok, asB_bl, kk_int, kk_str, kk_bl, kk_non, kk_tup, kk_lst, true_and, and_true, List.set_cons_succ, List.set_cons_zero, List.getElem?_cons_succ, List.getElem?_cons_zero, addD_int, subD_int, mulD_intL, mulD_intR, fdivD_int, modD_int, ltD_int, leD_int, gtD_int, geD_int, eqD_int, neD_int, eqD_bl, neD_bl, isD_non, notIsD_non, intD_int, negD_int, maxD_int, minD_int, lenD_lst, lenD_bor, lenD_tup, List.length_map, okLen0, okLen1, okLen2, okLen3, okLen4, okLen5, okLen6, okLen7, if_true, eAnd, eOr, eNot, eIf, eAndV, eOrV, eNotV, eChain, ifBl_bl, isN_non, isN_int, isN_bl, isN_str, isN_tup, isN_lst, Bool.not_true, Bool.not_false, Bool.false_eq_true, if_false, rvD, notInD_bls, map_snd1, map_snd2]
        rw [rngL_0]
        refine compD_ok (fun p : Nat => metN 3 (sh.getD p ⟨[], "", .n 0, false⟩).s t i && decide ((sh.getD p ⟨[], "", .n 0, false⟩).nm = nm)) (fun p : Nat => D.int p) fun p hp => ⟨_, rfl, ?_, fun _ => ⟨?_, rfl⟩⟩
        · have hp := List.mem_range.mp hp
          have x2 := shd_ixD (sh := sh) (i := (p : Int)) (by omega) (by omega)
          rw [Int.toNat_natCast] at x2
          have okr := ok14 _ (getD_mem (d := ⟨[], "", .n 0, false⟩) hp)
          have xr : ixD (.lst (sh.map fun r : Rule => D.lst ((mkL r.s t).map D.bl))) (.int p) = .ok (.lst ((mkL (sh.getD p ⟨[], "", .n 0, false⟩).s t).map D.bl)) := by
            rw [ixD_lst (by omega) (by simpa using hp), Int.toNat_natCast, getD_map hp ⟨[], "", .n 0, false⟩]
          have xm : ixD (.lst ((mkL (sh.getD p ⟨[], "", .n 0, false⟩).s t).map D.bl)) (.int (0 + (i : Int))) = .ok (.bl (metN 3 (sh.getD p ⟨[], "", .n 0, false⟩).s t i)) := by
            have ml : (mkL (sh.getD p ⟨[], "", .n 0, false⟩).s t).length = t.length := by simp [mkL]
            rw [ixD_lst (by omega) (by rw [List.length_map, ml]; omega), show (0 + (i : Int)).toNat = i by omega, getD_map (by rw [ml]; exact hi) false]
            unfold mkL
            rw [List.getD_eq_getElem?_getD, List.getElem?_map, List.getElem?_range hi]; rfl
          have eq : eqD (.str (sh.getD p ⟨[], "", .n 0, false⟩).nm) (.str nm) = .ok (.bl (decide ((sh.getD p ⟨[], "", .n 0, false⟩).nm = nm))) := eqD_str (names_ok _ okr.nm) (names_ok _ hn)
          simp only [wipeD, List.set_cons_succ, List.set_cons_zero]
          cases hq : metN 3 (sh.getD p ⟨[], "", .n 0, false⟩).s t i with
          | true => simp (disch := first | omega | exact kk_int | exact kk_str | exact kk_tup | exact kk_lst | exact kk_bl | exact kk_non | assumption | decide) only [sFrz, sSeq, sSet, sSetO, sIf, sRet, sRetO, sRetN, sFor, sApp, sNil, sDrop, sAsg, eT, eOp, eC, eL, oLst, eTup, eUn, aCons, aNil, eFn, iE, eSl, pNo, pYes, asI, eV_d0, eV_o0, eV_s, R.bind_ok, R.map_ok, go_ok, asB_bl, kk_int, kk_str, kk_bl, kk_non, kk_tup, kk_lst, true_and, and_true, List.set_cons_succ, List.set_cons_zero, List.getElem?_cons_succ, List.getElem?_cons_zero, addD_int, subD_int, mulD_intL, mulD_intR, fdivD_int, modD_int, ltD_int, leD_int, gtD_int, geD_int, eqD_int, neD_int, eqD_bl, neD_bl, isD_non, notIsD_non, intD_int, negD_int, maxD_int, minD_int, lenD_lst, lenD_bor, lenD_tup, List.length_map, okLen0, okLen1, okLen2, okLen3, okLen4, okLen5, okLen6, okLen7, if_true, eAnd, eOr, eNot, eIf, eAndV, eOrV, eNotV, eChain, ifBl_bl, isN_non, isN_int, isN_bl, isN_str, isN_tup, isN_lst, Bool.not_true, Bool.not_false, Bool.false_eq_true, if_false, rvD, notInD_bls, map_snd1, map_snd2, xr, xm, hq, x2, rule_ix1, eq, Bool.true_and]
          | false => simp (disch := first | omega | exact kk_int | exact kk_str | exact kk_tup | exact kk_lst | exact kk_bl | exact kk_non | assumption | decide) only [sFrz, sSeq, sSet, sSetO, sIf, sRet, sRetO, sRetN, sFor, sApp, sNil, sDrop, sAsg, eT, eOp, eC, eL, oLst, eTup, eUn, aCons, aNil, eFn, iE, eSl, pNo, pYes, asI, eV_d0, eV_o0, eV_s, R.bind_ok, R.map_ok, go_ok, asB_bl, kk_int, kk_str, kk_bl, kk_non, kk_tup, kk_lst, true_and, and_true, List.set_cons_succ, List.set_cons_zero, List.getElem?_cons_succ, List.getElem?_cons_zero, addD_int, subD_int, mulD_intL, mulD_intR, fdivD_int, modD_int, ltD_int, leD_int, gtD_int, geD_int, eqD_int, neD_int, eqD_bl, neD_bl, isD_non, notIsD_non, intD_int, negD_int, maxD_int, minD_int, lenD_lst, lenD_bor, lenD_tup, List.length_map, okLen0, okLen1, okLen2, okLen3, okLen4, okLen5, okLen6, okLen7, if_true, eAnd, eOr, eNot, eIf, eAndV, eOrV, eNotV, eChain, ifBl_bl, isN_non, isN_int, isN_bl, isN_str, isN_tup, isN_lst, Bool.not_true, Bool.not_false, Bool.false_eq_true, if_false, rvD, notInD_bls, map_snd1, map_snd2, xr, xm, hq, x2, rule_ix1, eq, Bool.false_and]
        · simp only [wipeD, List.set_cons_succ, List.set_cons_zero]
          simp (disch := first | omega | exact kk_int | exact kk_str | exact kk_tup | exact kk_lst | exact kk_bl | exact kk_non | assumption | decide) only [sFrz, sSeq, sSet, sSetO, sIf, sRet, sRetO, sRetN, sFor, sApp, sNil, sDrop, sAsg, eT, eOp, eC, eL, oLst, eTup, eUn, aCons, aNil, eFn, iE, eSl, pNo, pYes, asI, eV_d0, eV_o0, eV_s, R.bind_ok, R.map_ok, go_ok, asB_bl, kk_int, kk_str, kk_bl, kk_non, kk_tup, kk_lst, true_and, and_true, List.set_cons_succ, List.set_cons_zero, List.getElem?_cons_succ, List.getElem?_cons_zero, addD_int, subD_int, mulD_intL, mulD_intR, fdivD_int, modD_int, ltD_int, leD_int, gtD_int, geD_int, eqD_int, neD_int, eqD_bl, neD_bl, isD_non, notIsD_non, intD_int, negD_int, maxD_int, minD_int, lenD_lst, lenD_bor, lenD_tup, List.length_map, okLen0, okLen1, okLen2, okLen3, okLen4, okLen5, okLen6, okLen7, if_true, eAnd, eOr, eNot, eIf, eAndV, eOrV, eNotV, eChain, ifBl_bl, isN_non, isN_int, isN_bl, isN_str, isN_tup, isN_lst, Bool.not_true, Bool.not_false, Bool.false_eq_true, if_false, rvD, notInD_bls, map_snd1, map_snd2]
      simp only [List.set_cons_succ, List.set_cons_zero]
      refine seq_frz (xs := (hitsP sh t i nm).map fun p : Nat => D.int p) rfl ?_
      simp only [List.set_cons_succ, List.set_cons_zero]
      obtain ⟨hlt, nd⟩ := hitsP_lt (sh := sh) (t := t) (i := i) (nm := nm)
      have hl2 : (hitsP sh t i nm).length ≤ 8 := by
        unfold hitsP
        exact Nat.le_trans (List.length_filter_le _ _) (by rw [List.length_range]; exact len14)
      have cr := call_ranked ok14 len14 ok hi hn
      have co := call_order ok14 len14 hlt nd (by omega)
      have h0 : ixD (.lst [.lst (sh.map ruleD), .lst (t.map Enc.enc)]) (.int 0) = .ok (.lst (sh.map ruleD)) := rfl
      have h1 : ixD (.lst [.lst (sh.map ruleD), .lst (t.map Enc.enc)]) (.int 1) = .ok (.lst (t.map Enc.enc)) := rfl
      have same := call_same (n := 9) (a := .lst (orderD sh (hitsP sh t i nm))) rfl (same_ints (by unfold orderD; rw [List.length_reverse, List.length_map, (sortT_perm _).length_eq]; simp [keysP]; omega) fun x hx => by
        unfold orderD at hx
        obtain ⟨tt, h2, rfl⟩ := List.mem_map.mp (List.mem_reverse.mp hx)
        obtain ⟨r, p, rfl⟩ := all_third hlt tt h2
        exact ⟨_, rfl⟩)
      refine sIf_skip ?_ (ih _ ⟨fun z hz2 => hz z (List.mem_cons_of_mem _ hz2), _, _, _, _, rfl⟩)
      rw [Int.zero_add]
      simp (disch := first | omega | exact kk_int | exact kk_str | exact kk_tup | exact kk_lst | exact kk_bl | exact kk_non | assumption | decide) only [eNot, eT, eOp, eC, eCall, aCons, aNil, eV_s, eV_d0, R.bind_ok, R.map_ok, h0, h1, cr, co, same, asB_bl, Bool.not_true]

end Lw
set_option maxRecDepth 100000
set_option maxHeartbeats 4000000
namespace Lw
open PySem L2 DL

abbrev topS (i : Nat) : Stmt := PySem.Challenge.pw_sheetmoot_k14_whole_rules_in_their_row.main.body.getD i (.Pass ⟨0, 0, 0, 0⟩)
section
variable [Tb]
variable {P : Program} {w : World} {K : PySem.W.Frag} {mg : Str → Option Value} {base : Heap} {fa : Addr} {fd : FuncData}
abbrev s__law_numbers : Stmt := topS 43
theorem sc__law_numbers : FnScope ["_law_script", "_law_many", "_law_drawn", "_law_seed", "_law_cell", "_law_rest", "_law_k"] ["_law_script", "_law_many"] (defScope s__law_numbers) := ⟨rfl, rfl, rfl, by decide +kernel, rfl, by decide +kernel, by decide +kernel⟩
theorem ok__law_numbers (F : Fun K "_law_numbers" "_law_numbers" s__law_numbers fa fd) (z_len : mg "len" = none) (z_range : mg "range" = none) : FnD P w K mg base 1 fa fd ["_law_script", "_law_many"] m__law_numbers := by
  have sc := sc__law_numbers
  exact okF F sc rfl rfl fun cdv A outer s H E hr tk po => (fss_cons (fs_setO (i := 2) sc.nd rfl (Or.inl rfl) (do_lst da_nil)) (fss_cons (fs_set (i := 3) sc.nd rfl (Or.inl rfl) de_int) (fss_cons (fs_for po rfl (di_e (de_sl (dv 0) dp_none (dp_some de_int))) (dg_name (i := 4) sc.nd rfl (Or.inl rfl)) (fss_cons (fs_set (i := 3) sc.nd rfl (Or.inl rfl) (de_op op_modD calm_mod (de_op op_addD calm_add (de_op op_addD calm_add (de_op op_mulD calm_mul (dv 3) de_int) (de_op op_modD calm_mod (dv 4) de_int)) de_int) de_int)) (fss_cons (fs_set (i := 5) sc.nd rfl (Or.inl rfl) (de_op op_subD calm_sub (dv 4) (de_op op_powD calm_pow de_int de_int))) (fss_cons (fs_if (dt_cmp op_ltD calm_lt (dv 5) de_int (nomark _)) (fss_one (fs_app (i := 2) (de_op op_modD calm_mod (dv 4) de_int))) fss_nil) (fss_one (fs_for po rfl (di_range1 rfl z_range (da_cons de_int da_nil)) (dg_name (i := 6) sc.nd rfl (Or.inl rfl)) (fss_one (fs_if (dt_cmp op_gtD calm_gt (dv 5) de_int (nomark _)) (fss_cons (fs_app (i := 2) (de_op op_modD calm_mod (dv 5) de_int)) (fss_one (fs_set (i := 5) sc.nd rfl (Or.inl rfl) (de_op op_fdivD calm_fdiv (dv 5) de_int)))) fss_nil)))))))) (fss_cons (fs_while po (dt_cmp op_ltD calm_lt (de_callB cd_len calm_len rfl z_len (by decide +kernel) (da_cons (dv 2) da_nil)) (dv 1) (nomark _)) (fss_cons (fs_set (i := 3) sc.nd rfl (Or.inl rfl) (de_op op_modD calm_mod (de_op op_addD calm_add (de_op op_addD calm_add (de_op op_addD calm_add (de_op op_mulD calm_mul (dv 3) (dv 3)) (de_op op_mulD calm_mul de_int (dv 3))) (de_op op_mulD calm_mul de_int (de_callB cd_len calm_len rfl z_len (by decide +kernel) (da_cons (dv 2) da_nil)))) de_int) de_int)) (fss_one (fs_app (i := 2) (de_op op_modD calm_mod (de_op op_fdivD calm_fdiv (dv 3) de_int) de_int))))) (fss_frz 2 (fss_one (fs_ret (de_sl (dv 2) dp_none (dp_some (dv 1))))))))))
abbrev s__law_label : Stmt := topS 44
theorem sc__law_label : FnScope ["_law_number"] ["_law_number"] (defScope s__law_label) := ⟨rfl, rfl, rfl, by decide +kernel, rfl, by decide +kernel, by decide +kernel⟩
theorem ok__law_label (F : Fun K "_law_label" "_law_label" s__law_label fa fd)  : FnD P w K mg base 1 fa fd ["_law_number"] m__law_label := by
  have sc := sc__law_label
  exact okF F sc rfl rfl fun cdv A outer s H E hr tk po => (fss_one (fs_ret (de_op op_addD calm_add (de_ix de_str (de_op op_modD calm_mod (dv 0) de_int)) (de_ix (de_lst (da_cons de_str (da_cons de_str (da_cons de_str (da_cons de_str da_nil))))) (de_op op_modD calm_mod (de_op op_fdivD calm_fdiv (dv 0) de_int) de_int)))))
abbrev s__law_tree : Stmt := topS 45
theorem sc__law_tree : FnScope ["_law_d", "_law_upto", "_law_found", "_law_k", "_law_number", "_law_deep"] ["_law_d", "_law_upto"] (defScope s__law_tree) := ⟨rfl, rfl, rfl, by decide +kernel, rfl, by decide +kernel, by decide +kernel⟩
theorem ok__law_tree (F : Fun K "_law_tree" "_law_tree" s__law_tree fa fd) (z_max : mg "max" = none) (z_range : mg "range" = none) (g__law_label : DefAt P w K mg base 1 "_law_label" ["_law_number"] m__law_label) : FnD P w K mg base 2 fa fd ["_law_d", "_law_upto"] m__law_tree := by
  have sc := sc__law_tree
  exact okF F sc rfl rfl fun cdv A outer s H E hr tk po => (fss_cons (fs_setO (i := 2) sc.nd rfl (Or.inl rfl) (do_lst (da_cons (de_tup (da_cons de_int (da_cons (de_callA g__law_label (hr.mono (by omega)) tk rfl (da_cons (de_ix (dv 0) de_int) da_nil)) da_nil))) da_nil))) (fss_cons (fs_for po rfl (di_range1 rfl z_range (da_cons (de_op op_modD calm_mod (de_ix (dv 0) de_int) (dv 1)) da_nil)) (dg_name (i := 3) sc.nd rfl (Or.inl rfl)) (fss_cons (fs_set (i := 4) sc.nd rfl (Or.inl rfl) (de_ix (dv 0) (de_op op_addD calm_add de_int (dv 3)))) (fss_cons (fs_set (i := 5) sc.nd rfl (Or.inl rfl) (de_op op_addD calm_add de_int (de_ix (de_lst (da_cons (de_ix (de_ix (dv 2) (de_neg de_int)) de_int) (da_cons (de_op op_modD calm_mod (de_op op_fdivD calm_fdiv (dv 4) de_int) (de_op op_addD calm_add (de_ix (de_ix (dv 2) (de_neg de_int)) de_int) de_int)) (da_cons (de_callB (cd_max rfl) calm_max rfl z_max (by decide +kernel) (da_cons de_int (da_cons (de_op op_subD calm_sub (de_ix (de_ix (dv 2) (de_neg de_int)) de_int) de_int) da_nil))) da_nil)))) (de_op op_modD calm_mod (de_op op_fdivD calm_fdiv (dv 4) de_int) de_int)))) (fss_one (fs_app (i := 2) (de_tup (da_cons (dv 5) (da_cons (de_callA g__law_label (hr.mono (by omega)) tk rfl (da_cons (dv 4) da_nil)) da_nil)))))))) (fss_one (fs_retV 2))))
abbrev s__law_step : Stmt := topS 46
theorem sc__law_step : FnScope ["_law_d", "_law_joint", "_law_kind"] ["_law_d", "_law_joint"] (defScope s__law_step) := ⟨rfl, rfl, rfl, by decide +kernel, rfl, by decide +kernel, by decide +kernel⟩
theorem ok__law_step (F : Fun K "_law_step" "_law_step" s__law_step fa fd)  : FnD P w K mg base 1 fa fd ["_law_d", "_law_joint"] m__law_step := by
  have sc := sc__law_step
  exact okF F sc rfl rfl fun cdv A outer s H E hr tk po => (fss_cons (fs_set (i := 2) sc.nd rfl (Or.inl rfl) (de_ix (de_lst (da_cons de_str (da_cons de_str (da_cons de_str (da_cons de_str (da_cons de_str (da_cons de_str (da_cons de_str da_nil)))))))) (de_op op_modD calm_mod (de_ix (dv 0) de_int) de_int))) (fss_one (fs_ret (de_tup (da_cons (dv 1) (da_cons (dv 2) (da_cons (de_ix (de_lst (da_cons de_str (da_cons de_str (da_cons de_str (da_cons de_str (da_cons de_str (da_cons de_str da_nil))))))) (de_op op_modD calm_mod (de_ix (dv 0) de_int) de_int)) (da_cons (de_cmp (op_eqDD hr.units) calm_eq (de_op op_modD calm_mod (de_op op_fdivD calm_fdiv (de_ix (dv 0) de_int) de_int) de_int) de_int (nomark _)) da_nil))))))))
abbrev s__law_selector : Stmt := topS 47
theorem sc__law_selector : FnScope ["_law_d", "_law_found", "_law_k"] ["_law_d"] (defScope s__law_selector) := ⟨rfl, rfl, rfl, by decide +kernel, rfl, by decide +kernel, by decide +kernel⟩
theorem ok__law_selector (F : Fun K "_law_selector" "_law_selector" s__law_selector fa fd) (z_range : mg "range" = none) (z_tuple : mg "tuple" = none) (g__law_step : DefAt P w K mg base 1 "_law_step" ["_law_d", "_law_joint"] m__law_step) : FnD P w K mg base 2 fa fd ["_law_d"] m__law_selector := by
  have sc := sc__law_selector
  exact okF F sc rfl rfl fun cdv A outer s H E hr tk po => (fss_cons (fs_setO (i := 1) sc.nd rfl (Or.inl rfl) (do_lst (da_cons (de_callA g__law_step (hr.mono (by omega)) tk rfl (da_cons (dv 0) (da_cons de_str da_nil))) da_nil))) (fss_cons (fs_for po rfl (di_range1 rfl z_range (da_cons (de_op op_modD calm_mod (de_op op_fdivD calm_fdiv (de_ix (dv 0) de_int) de_int) de_int) da_nil)) (dg_name (i := 2) sc.nd rfl (Or.inl rfl)) (fss_one (fs_app (i := 1) (de_callA g__law_step (hr.mono (by omega)) tk rfl (da_cons (de_sl (dv 0) (dp_some (de_op op_addD calm_add de_int (de_op op_mulD calm_mul de_int (dv 2)))) dp_none) (da_cons (de_ix de_str (de_op op_modD calm_mod (de_op op_fdivD calm_fdiv (de_ix (dv 0) (de_op op_addD calm_add de_int (de_op op_mulD calm_mul de_int (dv 2)))) de_int) de_int)) da_nil)))))) (fss_frz 1 (fss_one (fs_ret (de_callTy (cd_tuple rfl) calm_tupleD rfl z_tuple (by decide +kernel) (da_cons (dv 1) da_nil)))))))
abbrev s__law_rule : Stmt := topS 48
theorem sc__law_rule : FnScope ["_law_d", "_law_value"] ["_law_d"] (defScope s__law_rule) := ⟨rfl, rfl, rfl, by decide +kernel, rfl, by decide +kernel, by decide +kernel⟩
theorem ok__law_rule (F : Fun K "_law_rule" "_law_rule" s__law_rule fa fd) (g__law_selector : DefAt P w K mg base 2 "_law_selector" ["_law_d"] m__law_selector) : FnD P w K mg base 3 fa fd ["_law_d"] m__law_rule := by
  have sc := sc__law_rule
  exact okF F sc rfl rfl fun cdv A outer s H E hr tk po => (fss_cons (fs_set (i := 1) sc.nd rfl (Or.inl rfl) (de_ix (de_lst (da_cons (de_op op_modD calm_mod (de_ix (dv 0) de_int) de_int) (da_cons (de_op op_modD calm_mod (de_ix (dv 0) de_int) de_int) (da_cons de_str (da_cons de_str da_nil))))) (de_op op_modD calm_mod (de_op op_fdivD calm_fdiv (de_ix (dv 0) de_int) de_int) de_int))) (fss_one (fs_ret (de_tup (da_cons (de_callA g__law_selector (hr.mono (by omega)) tk rfl (da_cons (dv 0) da_nil)) (da_cons (de_ix de_str (de_op op_modD calm_mod (de_ix (dv 0) de_int) de_int)) (da_cons (dv 1) (da_cons (de_cmp (op_eqDD hr.units) calm_eq (de_op op_modD calm_mod (de_op op_fdivD calm_fdiv (de_ix (dv 0) de_int) de_int) de_int) de_int (nomark _)) da_nil))))))))
abbrev s__law_sheet : Stmt := topS 49
theorem sc__law_sheet : FnScope ["_law_d", "_law_upto", "_law_k"] ["_law_d", "_law_upto"] (defScope s__law_sheet) := ⟨rfl, rfl, rfl, by decide +kernel, rfl, by decide +kernel, by decide +kernel⟩
theorem ok__law_sheet (F : Fun K "_law_sheet" "_law_sheet" s__law_sheet fa fd) (z_range : mg "range" = none) (g__law_rule : DefAt P w K mg base 3 "_law_rule" ["_law_d"] m__law_rule) : FnD P w K mg base 4 fa fd ["_law_d", "_law_upto"] m__law_sheet := by
  have sc := sc__law_sheet
  exact okF F sc rfl rfl fun cdv A outer s H E hr tk po => (fss_one (fs_retO (do_lc (own := [("_law_k", 2)]) rfl sc.nd (di_c (di_range1 rfl z_range (da_cons (de_op op_modD calm_mod (de_ix (dv 0) de_int) (de_op op_addD calm_add (dv 1) de_int)) da_nil))) (blkOk_by (by show blkC ["_law_d", "_law_upto", "_law_k"] (defScope s__law_sheet) _ _ = true; decide +kernel)) (fun _ _ _ _ _ => (dg_name (i := 2) sc.nd rfl (Or.inl rfl))) (fun _ _ _ _ _ => dts_nil) (fun _ _ _ _ _ => (de_callA g__law_rule (hr.mono (by omega)) takes0 rfl (da_cons (de_sl (dv 0) (dp_some (de_op op_addD calm_add de_int (de_op op_mulD calm_mul de_int (dv 2)))) dp_none) da_nil))))))
abbrev s__law_parent : Stmt := topS 50
theorem sc__law_parent : FnScope ["_law_tree_here", "_law_at", "_law_above", "_law_k"] ["_law_tree_here", "_law_at"] (defScope s__law_parent) := ⟨rfl, rfl, rfl, by decide +kernel, rfl, by decide +kernel, by decide +kernel⟩
theorem ok__law_parent (F : Fun K "_law_parent" "_law_parent" s__law_parent fa fd) (z_range : mg "range" = none) : FnD P w K mg base 1 fa fd ["_law_tree_here", "_law_at"] m__law_parent := by
  have sc := sc__law_parent
  exact okF F sc rfl rfl fun cdv A outer s H E hr tk po => (fss_cons (fs_setLc (own := [("_law_k", 3)]) (i := 2) rfl sc.nd rfl rfl (sw_true rfl rfl rfl (by decide +kernel)) (di_c (di_range1 rfl z_range (da_cons (dv 1) da_nil))) (blkOk_by (by show blkC ["_law_tree_here", "_law_at", "_law_above", "_law_k"] (defScope s__law_parent) _ _ = true; decide +kernel)) (fun _ _ _ _ _ => (dg_name (i := 3) sc.nd rfl (Or.inl rfl))) (fun _ _ _ _ _ => dts_one (dt_cmp (op_eqDD hr.units) calm_eq (de_ix (de_ix (dv 0) (dv 3)) de_int) (de_op op_subD calm_sub (de_ix (de_ix (dv 0) (dv 1)) de_int) de_int) (nomark _))) (fun _ _ _ _ _ => (dv 3))) (fss_frz 2 (fss_one (fs_ret (de_ifExp (dt_cmp (op_neDD hr.units) calm_ne (dv 2) (de_lst da_nil) (nomark _)) (de_ix (dv 2) (de_neg de_int)) de_non)))))
abbrev s__law_elders : Stmt := topS 51
theorem sc__law_elders : FnScope ["_law_tree_here", "_law_at", "_law_above", "_law_k"] ["_law_tree_here", "_law_at"] (defScope s__law_elders) := ⟨rfl, rfl, rfl, by decide +kernel, rfl, by decide +kernel, by decide +kernel⟩
theorem ok__law_elders (F : Fun K "_law_elders" "_law_elders" s__law_elders fa fd) (z_range : mg "range" = none) (g__law_parent : DefAt P w K mg base 1 "_law_parent" ["_law_tree_here", "_law_at"] m__law_parent) : FnD P w K mg base 2 fa fd ["_law_tree_here", "_law_at"] m__law_elders := by
  have sc := sc__law_elders
  exact okF F sc rfl rfl fun cdv A outer s H E hr tk po => (fss_cons (fs_set (i := 2) sc.nd rfl (Or.inl rfl) (de_callA g__law_parent (hr.mono (by omega)) tk rfl (da_cons (dv 0) (da_cons (dv 1) da_nil)))) (fss_cons (fs_if (dt_cmp op_isD calm_is (dv 2) de_non (nomark _)) (fss_one (fs_retO (do_lst da_nil))) fss_nil) (fss_one (fs_retO (do_lc (own := [("_law_k", 3)]) rfl sc.nd (di_c (di_range2 rfl z_range (da_cons (de_op op_addD calm_add (dv 2) de_int) (da_cons (dv 1) da_nil)))) (blkOk_by (by show blkC ["_law_tree_here", "_law_at", "_law_above", "_law_k"] (defScope s__law_elders) _ _ = true; decide +kernel)) (fun _ _ _ _ _ => (dg_name (i := 3) sc.nd rfl (Or.inl rfl))) (fun _ _ _ _ _ => dts_one (dt_cmp (op_eqDD hr.units) calm_eq (de_ix (de_ix (dv 0) (dv 3)) de_int) (de_ix (de_ix (dv 0) (dv 1)) de_int) (nomark _))) (fun _ _ _ _ _ => (dv 3)))))))
abbrev s__law_asked : Stmt := topS 52
theorem sc__law_asked : FnScope ["_law_step_here", "_law_tree_here", "_law_at", "_law_joint", "_law_kind", "_law_marks", "_law_first", "_law_label_here", "_law_mark"] ["_law_step_here", "_law_tree_here", "_law_at"] (defScope s__law_asked) := ⟨rfl, rfl, rfl, by decide +kernel, rfl, by decide +kernel, by decide +kernel⟩
theorem ok__law_asked (F : Fun K "_law_asked" "_law_asked" s__law_asked fa fd) (z_any : mg "any" = none) (g__law_elders : DefAt P w K mg base 2 "_law_elders" ["_law_tree_here", "_law_at"] m__law_elders) : FnD P w K mg base 3 fa fd ["_law_step_here", "_law_tree_here", "_law_at"] m__law_asked := by
  have sc := sc__law_asked
  exact okF F sc rfl rfl fun cdv A outer s H E hr tk po => (fss_cons (fs_asg (dv 0) (dg_tup (n := 4) rfl (dgs_cons (dg_name (i := 3) sc.nd rfl (Or.inl rfl)) (dgs_cons (dg_name (i := 4) sc.nd rfl (Or.inl rfl)) (dgs_cons (dg_name (i := 5) sc.nd rfl (Or.inl rfl)) (dgs_cons (dg_name (i := 6) sc.nd rfl (Or.inl rfl)) dgs_nil)))))) (fss_cons (fs_set (i := 7) sc.nd rfl (Or.inr rfl) (de_ix (de_ix (dv 1) (dv 2)) de_int)) (fss_cons (fs_if (dt_w (dw_or (dt_w (dw_and (dt_cmp (op_neDD hr.units) calm_ne (dv 4) de_str (nomark _)) (dw_and1 (dt_cmp (op_neDD hr.units) calm_ne (de_ix (dv 7) de_int) (dv 4) (nomark _))))) (dw_or1 (dt_w (dw_and (dt_val (dv 6)) (dw_and1 (dt_cmp (op_neDD hr.units) calm_ne (de_callA g__law_elders (hr.mono (by omega)) tk rfl (da_cons (dv 1) (da_cons (dv 2) da_nil))) (de_lst da_nil) (nomark _)))))))) (fss_one (fs_ret de_bl)) fss_nil) (fss_one (fs_ret (de_not (de_callB (cd_any rfl) calm_any rfl z_any (by decide +kernel) (da_cons (DO.de (do_lc (own := [("_law_mark", 8)]) rfl sc.nd (dic_e (dv 5)) (blkOk_by (by show blkC ["_law_step_here", "_law_tree_here", "_law_at", "_law_joint", "_law_kind", "_law_marks", "_law_first", "_law_label_here", "_law_mark"] (defScope s__law_asked) _ _ = true; decide +kernel)) (fun _ _ _ _ _ => (dg_name (i := 8) sc.nd rfl (Or.inl rfl))) (fun _ _ _ _ _ => dts_nil) (fun _ _ _ _ _ => (de_cmp op_notInD calm_notIn (dv 8) (de_sl (dv 7) (dp_some de_int) dp_none) (by rfl))))) da_nil))))))))
abbrev s__law_forebears : Stmt := topS 53
theorem sc__law_forebears : FnScope ["_law_tree_here", "_law_at", "_law_found", "_law_here"] ["_law_tree_here", "_law_at"] (defScope s__law_forebears) := ⟨rfl, rfl, rfl, by decide +kernel, rfl, by decide +kernel, by decide +kernel⟩
theorem ok__law_forebears (F : Fun K "_law_forebears" "_law_forebears" s__law_forebears fa fd) (g__law_parent : DefAt P w K mg base 1 "_law_parent" ["_law_tree_here", "_law_at"] m__law_parent) : FnD P w K mg base 2 fa fd ["_law_tree_here", "_law_at"] m__law_forebears := by
  have sc := sc__law_forebears
  exact okF F sc rfl rfl fun cdv A outer s H E hr tk po => (fss_cons (fs_setO (i := 2) sc.nd rfl (Or.inl rfl) (do_lst da_nil)) (fss_cons (fs_set (i := 3) sc.nd rfl (Or.inl rfl) (de_callA g__law_parent (hr.mono (by omega)) tk rfl (da_cons (dv 0) (da_cons (dv 1) da_nil)))) (fss_cons (fs_while po (dt_cmp op_notIsD calm_notIs (dv 3) de_non (nomark _)) (fss_cons (fs_app (i := 2) (dv 3)) (fss_one (fs_set (i := 3) sc.nd rfl (Or.inl rfl) (de_callA g__law_parent (hr.mono (by omega)) tk rfl (da_cons (dv 0) (da_cons (dv 3) da_nil))))))) (fss_one (fs_retV 2)))))
abbrev s__law_reach : Stmt := topS 54
theorem sc__law_reach : FnScope ["_law_joint", "_law_tree_here", "_law_at", "_law_elders_here"] ["_law_joint", "_law_tree_here", "_law_at"] (defScope s__law_reach) := ⟨rfl, rfl, rfl, by decide +kernel, rfl, by decide +kernel, by decide +kernel⟩
theorem ok__law_reach (F : Fun K "_law_reach" "_law_reach" s__law_reach fa fd) (g__law_elders : DefAt P w K mg base 2 "_law_elders" ["_law_tree_here", "_law_at"] m__law_elders) (g__law_forebears : DefAt P w K mg base 2 "_law_forebears" ["_law_tree_here", "_law_at"] m__law_forebears) : FnD P w K mg base 3 fa fd ["_law_joint", "_law_tree_here", "_law_at"] m__law_reach := by
  have sc := sc__law_reach
  exact okF F sc rfl rfl fun cdv A outer s H E hr tk po => (fss_cons (fs_if (dt_cmp (op_eqDD hr.units) calm_eq (dv 0) de_str (nomark _)) (fss_one (fs_ret (de_callA g__law_forebears (hr.mono (by omega)) tk rfl (da_cons (dv 1) (da_cons (dv 2) da_nil))))) fss_nil) (fss_cons (fs_if (dt_cmp (op_eqDD hr.units) calm_eq (dv 0) de_str (nomark _)) (fss_one (fs_ret (de_sl (de_callA g__law_forebears (hr.mono (by omega)) tk rfl (da_cons (dv 1) (da_cons (dv 2) da_nil))) dp_none (dp_some de_int)))) fss_nil) (fss_cons (fs_set (i := 3) sc.nd rfl (Or.inl rfl) (de_callA g__law_elders (hr.mono (by omega)) tk rfl (da_cons (dv 1) (da_cons (dv 2) da_nil)))) (fss_one (fs_ret (de_ifExp (dt_cmp (op_eqDD hr.units) calm_eq (dv 0) de_str (nomark _)) (dv 3) (de_sl (dv 3) (dp_some (de_neg de_int)) dp_none)))))))
abbrev s__law_met : Stmt := topS 55
theorem sc__law_met : FnScope ["_law_selector_here", "_law_tree_here", "_law_found", "_law_step_here", "_law_later", "_law_at", "_law_near", "_law_other"] ["_law_selector_here", "_law_tree_here"] (defScope s__law_met) := ⟨rfl, rfl, rfl, by decide +kernel, rfl, by decide +kernel, by decide +kernel⟩
theorem ok__law_met (F : Fun K "_law_met" "_law_met" s__law_met fa fd) (z_len : mg "len" = none) (z_range : mg "range" = none) (g__law_asked : DefAt P w K mg base 3 "_law_asked" ["_law_step_here", "_law_tree_here", "_law_at"] m__law_asked) (g__law_reach : DefAt P w K mg base 3 "_law_reach" ["_law_joint", "_law_tree_here", "_law_at"] m__law_reach) : FnD P w K mg base 4 fa fd ["_law_selector_here", "_law_tree_here"] m__law_met := by
  have sc := sc__law_met
  exact okF F sc rfl rfl fun cdv A outer s H E hr tk po => (fss_cons (fs_set (i := 2) sc.nd rfl (Or.inr rfl) (DO.de (do_lc (own := [("_law_at", 5)]) rfl sc.nd (di_c (di_range1 rfl z_range (da_cons (de_callB cd_len calm_len rfl z_len (by decide +kernel) (da_cons (dv 1) da_nil)) da_nil))) (blkOk_by (by show blkC ["_law_selector_here", "_law_tree_here", "_law_found", "_law_step_here", "_law_later", "_law_at", "_law_near", "_law_other"] (defScope s__law_met) _ _ = true; decide +kernel)) (fun _ _ _ _ _ => (dg_name (i := 5) sc.nd rfl (Or.inl rfl))) (fun _ _ _ _ _ => dts_nil) (fun _ _ _ _ _ => (de_callA g__law_asked (hr.mono (by omega)) takes0 rfl (da_cons (de_ix (dv 0) de_int) (da_cons (dv 1) (da_cons (dv 5) da_nil)))))))) (fss_cons (fs_for po rfl (di_e (de_sl (dv 0) (dp_some de_int) dp_none)) (dg_name (i := 3) sc.nd rfl (Or.inl rfl)) (fss_cons (fs_setO (i := 4) sc.nd rfl (Or.inl rfl) (do_lst da_nil)) (fss_cons (fs_for po rfl (di_range1 rfl z_range (da_cons (de_callB cd_len calm_len rfl z_len (by decide +kernel) (da_cons (dv 1) da_nil)) da_nil)) (dg_name (i := 5) sc.nd rfl (Or.inl rfl)) (fss_cons (fs_setLc (own := [("_law_other", 7)]) (i := 6) rfl sc.nd rfl rfl (sw_true rfl rfl rfl (by decide +kernel)) (dic_e (de_callA g__law_reach (hr.mono (by omega)) tk rfl (da_cons (de_ix (dv 3) de_int) (da_cons (dv 1) (da_cons (dv 5) da_nil))))) (blkOk_by (by show blkC ["_law_selector_here", "_law_tree_here", "_law_found", "_law_step_here", "_law_later", "_law_at", "_law_near", "_law_other"] (defScope s__law_met) _ _ = true; decide +kernel)) (fun _ _ _ _ _ => (dg_name (i := 7) sc.nd rfl (Or.inl rfl))) (fun _ _ _ _ _ => dts_nil) (fun _ _ _ _ _ => (de_ix (dv 2) (dv 7)))) (fss_frz 6 (fss_one (fs_app (i := 4) (de_and (de_callA g__law_asked (hr.mono (by omega)) tk rfl (da_cons (dv 3) (da_cons (dv 1) (da_cons (dv 5) da_nil)))) (de_one (de_cmp op_inD calm_in de_bl (dv 6) (by rfl))))))))) (fss_frz 4 (fss_one (fs_set (i := 2) sc.nd rfl (Or.inr rfl) (dv 4))))))) (fss_one (fs_ret (dv 2)))))
abbrev s__law_rank : Stmt := topS 57
theorem sc__law_rank : FnScope ["_law_selector_here", "_law_narrow", "_law_step_here"] ["_law_selector_here"] (defScope s__law_rank) := ⟨rfl, rfl, rfl, by decide +kernel, rfl, by decide +kernel, by decide +kernel⟩
theorem ok__law_rank (F : Fun K "_law_rank" "_law_rank" s__law_rank fa fd) (z_int : mg "int" = none) (z_len : mg "len" = none) (z_sum : mg "sum" = none) : FnD P w K mg base 1 fa fd ["_law_selector_here"] m__law_rank := by
  have sc := sc__law_rank
  exact okF F sc rfl rfl fun cdv A outer s H E hr tk po => (fss_cons (fs_set (i := 1) sc.nd rfl (Or.inl rfl) (de_callB (cd_sum rfl) calm_sum rfl z_sum (by decide +kernel) (da_cons (DO.de (do_lc (own := [("_law_step_here", 2)]) rfl sc.nd (dic_e (dv 0)) (blkOk_by (by show blkC ["_law_selector_here", "_law_narrow", "_law_step_here"] (defScope s__law_rank) _ _ = true; decide +kernel)) (fun _ _ _ _ _ => (dg_name (i := 2) sc.nd rfl (Or.inl rfl))) (fun _ _ _ _ _ => dts_nil) (fun _ _ _ _ _ => (de_op op_addD calm_add (de_callB cd_len calm_len rfl z_len (by decide +kernel) (da_cons (de_ix (dv 2) de_int) da_nil)) (de_callTy cd_int calm_int rfl z_int (by decide +kernel) (da_cons (de_ix (dv 2) de_int) da_nil)))))) da_nil))) (fss_one (fs_ret (de_tup (da_cons (dv 1) (da_cons (de_callB cd_len calm_len rfl z_len (by decide +kernel) (da_cons (DO.de (do_lc (own := [("_law_step_here", 2)]) rfl sc.nd (dic_e (dv 0)) (blkOk_by (by show blkC ["_law_selector_here", "_law_narrow", "_law_step_here"] (defScope s__law_rank) _ _ = true; decide +kernel)) (fun _ _ _ _ _ => (dg_name (i := 2) sc.nd rfl (Or.inl rfl))) (fun _ _ _ _ _ => dts_one (dt_cmp (op_neDD hr.units) calm_ne (de_ix (dv 2) de_int) de_str (nomark _))) (fun _ _ _ _ _ => (dv 2)))) da_nil)) da_nil))))))
abbrev s__law_order : Stmt := topS 58
theorem sc__law_order : FnScope ["_law_sheet_here", "_law_places", "_law_keyed", "_law_place", "_law_key"] ["_law_sheet_here", "_law_places"] (defScope s__law_order) := ⟨rfl, rfl, rfl, by decide +kernel, rfl, by decide +kernel, by decide +kernel⟩
theorem ok__law_order (F : Fun K "_law_order" "_law_order" s__law_order fa fd) (z_int : mg "int" = none) (z_sorted : mg "sorted" = none) (g__law_rank : DefAt P w K mg base 1 "_law_rank" ["_law_selector_here"] m__law_rank) : FnD P w K mg base 2 fa fd ["_law_sheet_here", "_law_places"] m__law_order := by
  have sc := sc__law_order
  exact okF F sc rfl rfl fun cdv A outer s H E hr tk po => (fss_cons (fs_setLc (own := [("_law_place", 3)]) (i := 2) rfl sc.nd rfl rfl (sw_true rfl rfl rfl (by decide +kernel)) (dic_e (dv 1)) (blkOk_by (by show blkC ["_law_sheet_here", "_law_places", "_law_keyed", "_law_place", "_law_key"] (defScope s__law_order) _ _ = true; decide +kernel)) (fun _ _ _ _ _ => (dg_name (i := 3) sc.nd rfl (Or.inl rfl))) (fun _ _ _ _ _ => dts_nil) (fun _ _ _ _ _ => (de_tup (da_cons (de_callTy cd_int calm_int rfl z_int (by decide +kernel) (da_cons (de_ix (de_ix (dv 0) (dv 3)) de_int) da_nil)) (da_cons (de_callA g__law_rank (hr.mono (by omega)) takes0 rfl (da_cons (de_ix (de_ix (dv 0) (dv 3)) de_int) da_nil)) (da_cons (dv 3) da_nil)))))) (fss_frz 2 (fss_one (fs_retO (do_lc (own := [("_law_key", 4)]) rfl sc.nd (dic_e (DO.de (do_rev (DO.de (do_callB (co_sorted hr.units) calm_sortedO rfl z_sorted (by decide +kernel) (da_cons (dv 2) da_nil)))))) (blkOk_by (by show blkC ["_law_sheet_here", "_law_places", "_law_keyed", "_law_place", "_law_key"] (defScope s__law_order) _ _ = true; decide +kernel)) (fun _ _ _ _ _ => (dg_name (i := 4) sc.nd rfl (Or.inl rfl))) (fun _ _ _ _ _ => dts_nil) (fun _ _ _ _ _ => (de_ix (dv 4) de_int)))))))
abbrev s_look_step : Stmt := topS 19
theorem sc_look_step : FnScope ["step", "joints", "joint", "kind", "marks", "first"] ["step", "joints"] (defScope s_look_step) := ⟨rfl, rfl, rfl, by decide +kernel, rfl, by decide +kernel, by decide +kernel⟩
theorem ok_look_step (F : Fun K "look_step" "look_step" s_look_step fa fd) (z_list : mg "list" = none) (c_ANY : ConstAt K mg "ANY" d_ANY) (c_KINDS : ConstAt K mg "KINDS" d_KINDS) (c_MARKS : ConstAt K mg "MARKS" d_MARKS) : FnD P w K mg base 1 fa fd ["step", "joints"] m_look_step := by
  have sc := sc_look_step
  exact okF F sc rfl rfl fun cdv A outer s H E hr tk po => (fss_cons (fs_asg (dv 0) (dg_tup (n := 4) rfl (dgs_cons (dg_name (i := 2) sc.nd rfl (Or.inl rfl)) (dgs_cons (dg_name (i := 3) sc.nd rfl (Or.inl rfl)) (dgs_cons (dg_name (i := 4) sc.nd rfl (Or.inl rfl)) (dgs_cons (dg_name (i := 5) sc.nd rfl (Or.inl rfl)) dgs_nil)))))) (fss_one (fs_if (dt_w (dw_or (dt_cmp op_notInD calm_notIn (dv 2) (dv 1) (by rfl)) (dw_or (dt_cmp op_notInD calm_notIn (dv 3) (de_op op_addD calm_add (DO.de (do_callTy (co_list rfl) calm_listO rfl z_list (by decide +kernel) (da_cons (de_globC c_KINDS rfl) da_nil))) (de_lst (da_cons (de_globC c_ANY rfl) da_nil))) (by rfl)) (dw_or (dt_cmp op_notInD calm_notIn (dv 4) (de_globC c_MARKS rfl) (by rfl)) (dw_or1 (dt_cmp op_notInD calm_notIn (dv 5) (de_tup (da_cons de_bl (da_cons de_bl da_nil))) (by rfl))))))) (fss_one fs_dead) fss_nil)))
abbrev s_look_selector : Stmt := topS 20
theorem sc_look_selector : FnScope ["selector", "head", "others", "step"] ["selector"] (defScope s_look_selector) := ⟨rfl, rfl, rfl, by decide +kernel, rfl, by decide +kernel, by decide +kernel⟩
theorem ok_look_selector (F : Fun K "look_selector" "look_selector" s_look_selector fa fd) (z_len : mg "len" = none) (z_tuple : mg "tuple" = none) (c_JOINTS : ConstAt K mg "JOINTS" d_JOINTS) (c_MOST_STEPS : ConstAt K mg "MOST_STEPS" d_MOST_STEPS) (g_look_step : DefAt P w K mg base 1 "look_step" ["step", "joints"] m_look_step) : FnD P w K mg base 2 fa fd ["selector"] m_look_selector := by
  have sc := sc_look_selector
  exact okF F sc rfl rfl fun cdv A outer s H E hr tk po => (fss_cons (fs_if (dt_not (dt_chain op_leD calm_le op_leD calm_le de_int (de_callB cd_len calm_len rfl z_len (by decide +kernel) (da_cons (dv 0) da_nil)) (de_globC c_MOST_STEPS rfl))) (fss_one fs_dead) fss_nil) (fss_cons (fs_asg (dv 0) (dg_star (i := 1) (n := 2) rfl (dgs_cons (dg_name (i := 1) sc.nd rfl (Or.inl rfl)) (dgs_star (dg_name (i := 2) sc.nd rfl (Or.inl rfl)) dgs_nil)))) (fss_cons (fs_expr (de_callA g_look_step (hr.mono (by omega)) tk rfl (da_cons (dv 1) (da_cons (de_tup (da_cons de_str da_nil)) da_nil)))) (fss_one (fs_for po rfl (di_e (dv 2)) (dg_name (i := 3) sc.nd rfl (Or.inl rfl)) (fss_one (fs_expr (de_callA g_look_step (hr.mono (by omega)) tk rfl (da_cons (dv 3) (da_cons (de_callTy (cd_tuple rfl) calm_tupleD rfl z_tuple (by decide +kernel) (da_cons (de_globC c_JOINTS rfl) da_nil)) da_nil))))))))))
abbrev s_look_rule : Stmt := topS 28
theorem sc_look_rule : FnScope ["rule", "selector", "name", "value", "strong", "good"] ["rule"] (defScope s_look_rule) := ⟨rfl, rfl, rfl, by decide +kernel, rfl, by decide +kernel, by decide +kernel⟩
theorem ok_look_rule (F : Fun K "look_rule" "look_rule" s_look_rule fa fd) (z_isinstance : mg "isinstance" = none) (z_str : mg "str" = none) (c_MOST_VALUE : ConstAt K mg "MOST_VALUE" d_MOST_VALUE) (c_NAMES : ConstAt K mg "NAMES" d_NAMES) (c_WORDS : ConstAt K mg "WORDS" d_WORDS) (g_look_selector : DefAt P w K mg base 2 "look_selector" ["selector"] m_look_selector) : FnD P w K mg base 3 fa fd ["rule"] m_look_rule := by
  have sc := sc_look_rule
  exact okF F sc rfl rfl fun cdv A outer s H E hr tk po => (fss_cons (fs_asg (dv 0) (dg_tup (n := 4) rfl (dgs_cons (dg_name (i := 1) sc.nd rfl (Or.inl rfl)) (dgs_cons (dg_name (i := 2) sc.nd rfl (Or.inl rfl)) (dgs_cons (dg_name (i := 3) sc.nd rfl (Or.inl rfl)) (dgs_cons (dg_name (i := 4) sc.nd rfl (Or.inl rfl)) dgs_nil)))))) (fss_cons (fs_expr (de_callA g_look_selector (hr.mono (by omega)) tk rfl (da_cons (dv 1) da_nil))) (fss_cons (fs_set (i := 5) sc.nd rfl (Or.inl rfl) (de_ifExp (dt_val (de_callB cd_isi calm_isi rfl z_isinstance (by decide +kernel) (da_cons (dv 3) (da_cons (de_bty (n := .str) rfl z_str (by decide +kernel)) da_nil)))) (de_cmp op_inD calm_in (dv 3) (de_globC c_WORDS rfl) (by rfl)) (de_chain op_leD calm_le op_leD calm_le de_int (dv 3) (de_globC c_MOST_VALUE rfl)))) (fss_one (fs_if (dt_w (dw_or (dt_cmp op_notInD calm_notIn (dv 2) (de_globC c_NAMES rfl) (by rfl)) (dw_or (dt_not (dt_val (dv 5))) (dw_or1 (dt_cmp op_notInD calm_notIn (dv 4) (de_tup (da_cons de_bl (da_cons de_bl da_nil))) (by rfl)))))) (fss_one fs_dead) fss_nil)))))
abbrev s_look_sheet : Stmt := topS 29
theorem sc_look_sheet : FnScope ["sheet", "rule"] ["sheet"] (defScope s_look_sheet) := ⟨rfl, rfl, rfl, by decide +kernel, rfl, by decide +kernel, by decide +kernel⟩
theorem ok_look_sheet (F : Fun K "look_sheet" "look_sheet" s_look_sheet fa fd) (z_len : mg "len" = none) (c_MOST_RULES : ConstAt K mg "MOST_RULES" d_MOST_RULES) (g_look_rule : DefAt P w K mg base 3 "look_rule" ["rule"] m_look_rule) : FnD P w K mg base 4 fa fd ["sheet"] m_look_sheet := by
  have sc := sc_look_sheet
  exact okF F sc rfl rfl fun cdv A outer s H E hr tk po => (fss_cons (fs_for po rfl (di_e (dv 0)) (dg_name (i := 1) sc.nd rfl (Or.inl rfl)) (fss_one (fs_expr (de_callA g_look_rule (hr.mono (by omega)) tk rfl (da_cons (dv 1) da_nil))))) (fss_one (fs_if (dt_cmp op_gtD calm_gt (de_callB cd_len calm_len rfl z_len (by decide +kernel) (da_cons (dv 0) da_nil)) (de_globC c_MOST_RULES rfl) (nomark _)) (fss_one fs_dead) fss_nil)))
abbrev s_look_tree : Stmt := topS 33
theorem sc_look_tree : FnScope ["tree", "before", "at", "depth", "label"] ["tree"] (defScope s_look_tree) := ⟨rfl, rfl, rfl, by decide +kernel, rfl, by decide +kernel, by decide +kernel⟩
theorem ok_look_tree (F : Fun K "look_tree" "look_tree" s_look_tree fa fd) (z_enumerate : mg "enumerate" = none) (z_len : mg "len" = none) (c_LABELS : ConstAt K mg "LABELS" d_LABELS) (c_MOST_PARTS : ConstAt K mg "MOST_PARTS" d_MOST_PARTS) : FnD P w K mg base 1 fa fd ["tree"] m_look_tree := by
  have sc := sc_look_tree
  exact okF F sc rfl rfl fun cdv A outer s H E hr tk po => (fss_cons (fs_set (i := 1) sc.nd rfl (Or.inl rfl) (de_neg de_int)) (fss_cons (fs_for po rfl (di_enum rfl z_enumerate (da_cons (dv 0) da_nil)) (dg_tup (n := 2) rfl (dgs_cons (dg_name (i := 2) sc.nd rfl (Or.inl rfl)) (dgs_cons (dg_tup (n := 2) rfl (dgs_cons (dg_name (i := 3) sc.nd rfl (Or.inl rfl)) (dgs_cons (dg_name (i := 4) sc.nd rfl (Or.inl rfl)) dgs_nil))) dgs_nil))) (fss_cons (fs_if (dt_w (dw_or (dt_cmp op_notInD calm_notIn (dv 4) (de_globC c_LABELS rfl) (by rfl)) (dw_or (dt_cmp op_gtD calm_gt (dv 3) (de_op op_addD calm_add (dv 1) de_int) (nomark _)) (dw_or (dt_cmp (op_neDD hr.units) calm_ne (de_cmp (op_eqDD hr.units) calm_eq (dv 3) de_int (nomark _)) (de_cmp (op_eqDD hr.units) calm_eq (dv 2) de_int (nomark _)) (nomark _)) (dw_or1 (dt_cmp op_ltD calm_lt (dv 3) de_int (nomark _))))))) (fss_one fs_dead) fss_nil) (fss_one (fs_set (i := 1) sc.nd rfl (Or.inl rfl) (dv 3))))) (fss_cons (fs_if (dt_cmp (op_eqDD hr.units) calm_eq (de_callB cd_len calm_len rfl z_len (by decide +kernel) (da_cons (dv 0) da_nil)) de_int (nomark _)) (fss_one fs_dead) fss_nil) (fss_one (fs_if (dt_cmp op_gtD calm_gt (de_callB cd_len calm_len rfl z_len (by decide +kernel) (da_cons (dv 0) da_nil)) (de_globC c_MOST_PARTS rfl) (nomark _)) (fss_one fs_dead) fss_nil)))))
abbrev s_look_part : Stmt := topS 34
theorem sc_look_part : FnScope ["tree", "at"] ["tree", "at"] (defScope s_look_part) := ⟨rfl, rfl, rfl, by decide +kernel, rfl, by decide +kernel, by decide +kernel⟩
theorem ok_look_part (F : Fun K "look_part" "look_part" s_look_part fa fd) (z_len : mg "len" = none) (g_look_tree : DefAt P w K mg base 1 "look_tree" ["tree"] m_look_tree) : FnD P w K mg base 2 fa fd ["tree", "at"] m_look_part := by
  have sc := sc_look_part
  exact okF F sc rfl rfl fun cdv A outer s H E hr tk po => (fss_cons (fs_expr (de_callA g_look_tree (hr.mono (by omega)) tk rfl (da_cons (dv 0) da_nil))) (fss_one (fs_if (dt_not (dt_chain op_leD calm_le op_ltD calm_lt de_int (dv 1) (de_callB cd_len calm_len rfl z_len (by decide +kernel) (da_cons (dv 0) da_nil)))) (fss_one fs_dead) fss_nil)))
abbrev s_elder_in : Stmt := topS 36
theorem sc_elder_in : FnScope ["tree", "at", "before"] ["tree", "at"] (defScope s_elder_in) := ⟨rfl, rfl, rfl, by decide +kernel, rfl, by decide +kernel, by decide +kernel⟩
theorem ok_elder_in (F : Fun K "elder_in" "elder_in" s_elder_in fa fd) (z_range : mg "range" = none) : FnD P w K mg base 1 fa fd ["tree", "at"] m_elder_in := by
  have sc := sc_elder_in
  exact okF F sc rfl rfl fun cdv A outer s H E hr tk po => (fss_cons (fs_for po rfl (di_range3 rfl z_range (da_cons (de_op op_subD calm_sub (dv 1) de_int) (da_cons (de_neg de_int) (da_cons (de_neg de_int) da_nil)))) (dg_name (i := 2) sc.nd rfl (Or.inl rfl)) (fss_cons (fs_if (dt_cmp op_ltD calm_lt (de_ix (de_ix (dv 0) (dv 2)) de_int) (de_ix (de_ix (dv 0) (dv 1)) de_int) (nomark _)) (fss_one (fs_ret de_non)) fss_nil) (fss_one (fs_if (dt_cmp (op_eqDD hr.units) calm_eq (de_ix (de_ix (dv 0) (dv 2)) de_int) (de_ix (de_ix (dv 0) (dv 1)) de_int) (nomark _)) (fss_one (fs_ret (dv 2))) fss_nil)))) (fss_one (fs_ret de_non)))
abbrev s_kind_of : Stmt := topS 13
theorem sc_kind_of : FnScope ["label"] ["label"] (defScope s_kind_of) := ⟨rfl, rfl, rfl, by decide +kernel, rfl, by decide +kernel, by decide +kernel⟩
theorem ok_kind_of (F : Fun K "kind_of" "kind_of" s_kind_of fa fd)  : FnD P w K mg base 1 fa fd ["label"] m_kind_of := by
  have sc := sc_kind_of
  exact okF F sc rfl rfl fun cdv A outer s H E hr tk po => (fss_one (fs_ret (de_ix (dv 0) de_int)))
abbrev s_marks_of : Stmt := topS 14
theorem sc_marks_of : FnScope ["label"] ["label"] (defScope s_marks_of) := ⟨rfl, rfl, rfl, by decide +kernel, rfl, by decide +kernel, by decide +kernel⟩
theorem ok_marks_of (F : Fun K "marks_of" "marks_of" s_marks_of fa fd)  : FnD P w K mg base 1 fa fd ["label"] m_marks_of := by
  have sc := sc_marks_of
  exact okF F sc rfl rfl fun cdv A outer s H E hr tk po => (fss_one (fs_ret (de_sl (dv 0) (dp_some de_int) dp_none)))
abbrev s_fits : Stmt := topS 22
theorem sc_fits : FnScope ["step", "label", "first", "joint", "kind", "marks", "lone", "mark"] ["step", "label", "first"] (defScope s_fits) := ⟨rfl, rfl, rfl, by decide +kernel, rfl, by decide +kernel, by decide +kernel⟩
theorem ok_fits (F : Fun K "fits" "fits" s_fits fa fd) (z_all : mg "all" = none) (c_ANY : ConstAt K mg "ANY" d_ANY) (g_kind_of : DefAt P w K mg base 1 "kind_of" ["label"] m_kind_of) (g_marks_of : DefAt P w K mg base 1 "marks_of" ["label"] m_marks_of) : FnD P w K mg base 2 fa fd ["step", "label", "first"] m_fits := by
  have sc := sc_fits
  exact okF F sc rfl rfl fun cdv A outer s H E hr tk po => (fss_cons (fs_asg (dv 0) (dg_tup (n := 4) rfl (dgs_cons (dg_name (i := 3) sc.nd rfl (Or.inl rfl)) (dgs_cons (dg_name (i := 4) sc.nd rfl (Or.inl rfl)) (dgs_cons (dg_name (i := 5) sc.nd rfl (Or.inl rfl)) (dgs_cons (dg_name (i := 6) sc.nd rfl (Or.inl rfl)) dgs_nil)))))) (fss_cons (fs_if (dt_w (dw_or (dt_w (dw_and (dt_cmp (op_neDD hr.units) calm_ne (dv 4) (de_globC c_ANY rfl) (nomark _)) (dw_and1 (dt_cmp (op_neDD hr.units) calm_ne (dv 4) (de_callA g_kind_of (hr.mono (by omega)) tk rfl (da_cons (dv 1) da_nil)) (nomark _))))) (dw_or1 (dt_w (dw_and (dt_val (dv 6)) (dw_and1 (dt_not (dt_val (dv 2))))))))) (fss_one (fs_ret de_bl)) fss_nil) (fss_one (fs_ret (de_callB (cd_all rfl) calm_all rfl z_all (by decide +kernel) (da_cons (DO.de (do_lc (own := [("mark", 7)]) rfl sc.nd (dic_e (dv 5)) (blkOk_by (by show blkC ["step", "label", "first", "joint", "kind", "marks", "lone", "mark"] (defScope s_fits) _ _ = true; decide +kernel)) (fun _ _ _ _ _ => (dg_name (i := 7) sc.nd rfl (Or.inl rfl))) (fun _ _ _ _ _ => dts_nil) (fun _ _ _ _ _ => (de_cmp op_inD calm_in (dv 7) (de_callA g_marks_of (hr.mono (by omega)) takes0 rfl (da_cons (dv 1) da_nil)) (by rfl))))) da_nil))))))
abbrev s_parent_in : Stmt := topS 35
theorem sc_parent_in : FnScope ["tree", "at", "before"] ["tree", "at"] (defScope s_parent_in) := ⟨rfl, rfl, rfl, by decide +kernel, rfl, by decide +kernel, by decide +kernel⟩
theorem ok_parent_in (F : Fun K "parent_in" "parent_in" s_parent_in fa fd) (z_range : mg "range" = none) : FnD P w K mg base 1 fa fd ["tree", "at"] m_parent_in := by
  have sc := sc_parent_in
  exact okF F sc rfl rfl fun cdv A outer s H E hr tk po => (fss_cons (fs_for po rfl (di_range3 rfl z_range (da_cons (de_op op_subD calm_sub (dv 1) de_int) (da_cons (de_neg de_int) (da_cons (de_neg de_int) da_nil)))) (dg_name (i := 2) sc.nd rfl (Or.inl rfl)) (fss_one (fs_if (dt_cmp op_ltD calm_lt (de_ix (de_ix (dv 0) (dv 2)) de_int) (de_ix (de_ix (dv 0) (dv 1)) de_int) (nomark _)) (fss_one (fs_ret (dv 2))) fss_nil))) (fss_one (fs_ret de_non)))
abbrev s_nearest : Stmt := topS 38
theorem sc_nearest : FnScope ["tree", "at", "joint"] ["tree", "at", "joint"] (defScope s_nearest) := ⟨rfl, rfl, rfl, by decide +kernel, rfl, by decide +kernel, by decide +kernel⟩
theorem ok_nearest (F : Fun K "nearest" "nearest" s_nearest fa fd) (g_elder_in : DefAt P w K mg base 1 "elder_in" ["tree", "at"] m_elder_in) (g_parent_in : DefAt P w K mg base 1 "parent_in" ["tree", "at"] m_parent_in) : FnD P w K mg base 2 fa fd ["tree", "at", "joint"] m_nearest := by
  have sc := sc_nearest
  exact okF F sc rfl rfl fun cdv A outer s H E hr tk po => (fss_cons (fs_if (dt_cmp op_inD calm_in (dv 2) (de_tup (da_cons de_str (da_cons de_str da_nil))) (by rfl)) (fss_one (fs_ret (de_callA g_parent_in (hr.mono (by omega)) tk rfl (da_cons (dv 0) (da_cons (dv 1) da_nil))))) fss_nil) (fss_one (fs_ret (de_callA g_elder_in (hr.mono (by omega)) tk rfl (da_cons (dv 0) (da_cons (dv 1) da_nil))))))
abbrev s_met_in : Stmt := topS 39
theorem sc_met_in : FnScope ["selector", "tree", "at", "ahead", "joint", "kind", "marks", "first", "here"] ["selector", "tree", "at"] (defScope s_met_in) := ⟨rfl, rfl, rfl, by decide +kernel, rfl, by decide +kernel, by decide +kernel⟩
theorem ok_met_in {n : Nat} {m : List D → R RV} (F : Fun K "met_in" "met_in" s_met_in fa fd) (z_tuple : mg "tuple" = none) (g_elder_in : DefAt P w K mg base 1 "elder_in" ["tree", "at"] m_elder_in) (g_fits : DefAt P w K mg base 2 "fits" ["step", "label", "first"] m_fits) (g_nearest : DefAt P w K mg base 2 "nearest" ["tree", "at", "joint"] m_nearest) (g_met_in : DefAt P w K mg base (n + 2) "met_in" ["selector", "tree", "at"] m) : FnD P w K mg base (n + 1 + 2) fa fd ["selector", "tree", "at"] (m_met_in_b m) := by
  have sc := sc_met_in
  rw [show n + 1 + 2 = n + 2 + 1 by omega]
  exact okF F sc rfl rfl fun cdv A outer s H E hr tk po => (fss_cons (fs_asg (dv 0) (dg_star (i := 0) (n := 2) rfl (dgs_star (dg_name (i := 3) sc.nd rfl (Or.inl rfl)) (dgs_cons (dg_tup (n := 4) rfl (dgs_cons (dg_name (i := 4) sc.nd rfl (Or.inl rfl)) (dgs_cons (dg_name (i := 5) sc.nd rfl (Or.inl rfl)) (dgs_cons (dg_name (i := 6) sc.nd rfl (Or.inl rfl)) (dgs_cons (dg_name (i := 7) sc.nd rfl (Or.inl rfl)) dgs_nil))))) dgs_nil)))) (fss_cons (fs_if (dt_not (dt_val (de_callA g_fits (hr.mono (by omega)) tk rfl (da_cons (de_ix (dv 0) (de_neg de_int)) (da_cons (de_ix (de_ix (dv 1) (dv 2)) de_int) (da_cons (de_cmp op_isD calm_is (de_callA g_elder_in (hr.mono (by omega)) tk rfl (da_cons (dv 1) (da_cons (dv 2) da_nil))) de_non (nomark _)) da_nil)))))) (fss_one (fs_ret de_bl)) fss_nil) (fss_cons (fs_if (dt_cmp (op_eqDD hr.units) calm_eq (dv 3) (de_lst da_nil) (nomark _)) (fss_one (fs_ret de_bl)) fss_nil) (fss_cons (fs_set (i := 8) sc.nd rfl (Or.inl rfl) (de_callA g_nearest (hr.mono (by omega)) tk rfl (da_cons (dv 1) (da_cons (dv 2) (da_cons (dv 4) da_nil))))) (fss_cons (fs_while po (dt_cmp op_notIsD calm_notIs (dv 8) de_non (nomark _)) (fss_cons (fs_if (dt_val (de_callA g_met_in (hr.mono (by omega)) tk rfl (da_cons (de_callTy (cd_tuple rfl) calm_tupleD rfl z_tuple (by decide +kernel) (da_cons (dv 3) da_nil)) (da_cons (dv 1) (da_cons (dv 8) da_nil))))) (fss_one (fs_ret de_bl)) fss_nil) (fss_one (fs_set (i := 8) sc.nd rfl (Or.inl rfl) (de_ifExp (dt_cmp op_inD calm_in (dv 4) (de_tup (da_cons de_str (da_cons de_str da_nil))) (by rfl)) (de_callA g_nearest (hr.mono (by omega)) tk rfl (da_cons (dv 1) (da_cons (dv 8) (da_cons (dv 4) da_nil)))) de_non))))) (fss_one (fs_ret de_bl)))))))
abbrev s_rank : Stmt := topS 21
theorem sc_rank : FnScope ["selector", "narrow", "joint", "kind", "marks", "first"] ["selector"] (defScope s_rank) := ⟨rfl, rfl, rfl, by decide +kernel, rfl, by decide +kernel, by decide +kernel⟩
theorem ok_rank (F : Fun K "rank" "rank" s_rank fa fd) (z_int : mg "int" = none) (z_len : mg "len" = none) (z_sum : mg "sum" = none) (c_ANY : ConstAt K mg "ANY" d_ANY) (g_look_selector : DefAt P w K mg base 2 "look_selector" ["selector"] m_look_selector) : FnD P w K mg base 3 fa fd ["selector"] m_rank := by
  have sc := sc_rank
  exact okF F sc rfl rfl fun cdv A outer s H E hr tk po => (fss_cons (fs_expr (de_callA g_look_selector (hr.mono (by omega)) tk rfl (da_cons (dv 0) da_nil))) (fss_cons (fs_set (i := 1) sc.nd rfl (Or.inl rfl) (de_callBK (cd_sum0 rfl) calm_sum0 rfl z_sum (by decide +kernel) (da_cons (DO.de (do_lc (own := [("joint", 2), ("kind", 3), ("marks", 4), ("first", 5)]) rfl sc.nd (dic_e (dv 0)) (blkOk_by (by show blkC ["selector", "narrow", "joint", "kind", "marks", "first"] (defScope s_rank) _ _ = true; decide +kernel)) (fun _ _ _ _ _ => (dg_tup (n := 4) rfl (dgs_cons (dg_name (i := 2) sc.nd rfl (Or.inl rfl)) (dgs_cons (dg_name (i := 3) sc.nd rfl (Or.inl rfl)) (dgs_cons (dg_name (i := 4) sc.nd rfl (Or.inl rfl)) (dgs_cons (dg_name (i := 5) sc.nd rfl (Or.inl rfl)) dgs_nil)))))) (fun _ _ _ _ _ => dts_nil) (fun _ _ _ _ _ => (de_op op_addD calm_add (de_callB cd_len calm_len rfl z_len (by decide +kernel) (da_cons (dv 4) da_nil)) (de_callTy cd_int calm_int rfl z_int (by decide +kernel) (da_cons (dv 5) da_nil)))))) da_nil) (dk_cons de_int dk_nil))) (fss_one (fs_ret (de_tup (da_cons (dv 1) (da_cons (de_callB cd_len calm_len rfl z_len (by decide +kernel) (da_cons (DO.de (do_lc (own := [("joint", 2), ("kind", 3), ("marks", 4), ("first", 5)]) rfl sc.nd (dic_e (dv 0)) (blkOk_by (by show blkC ["selector", "narrow", "joint", "kind", "marks", "first"] (defScope s_rank) _ _ = true; decide +kernel)) (fun _ _ _ _ _ => (dg_tup (n := 4) rfl (dgs_cons (dg_name (i := 2) sc.nd rfl (Or.inl rfl)) (dgs_cons (dg_name (i := 3) sc.nd rfl (Or.inl rfl)) (dgs_cons (dg_name (i := 4) sc.nd rfl (Or.inl rfl)) (dgs_cons (dg_name (i := 5) sc.nd rfl (Or.inl rfl)) dgs_nil)))))) (fun _ _ _ _ _ => dts_one (dt_cmp (op_neDD hr.units) calm_ne (dv 3) (de_globC c_ANY rfl) (nomark _))) (fun _ _ _ _ _ => (dv 3)))) da_nil)) da_nil)))))))
abbrev s_strength : Stmt := topS 30
theorem sc_strength : FnScope ["sheet", "place", "selector", "name", "value", "strong"] ["sheet", "place"] (defScope s_strength) := ⟨rfl, rfl, rfl, by decide +kernel, rfl, by decide +kernel, by decide +kernel⟩
theorem ok_strength (F : Fun K "strength" "strength" s_strength fa fd) (z_int : mg "int" = none) (g_rank : DefAt P w K mg base 3 "rank" ["selector"] m_rank) : FnD P w K mg base 4 fa fd ["sheet", "place"] m_strength := by
  have sc := sc_strength
  exact okF F sc rfl rfl fun cdv A outer s H E hr tk po => (fss_cons (fs_asg (de_ix (dv 0) (dv 1)) (dg_tup (n := 4) rfl (dgs_cons (dg_name (i := 2) sc.nd rfl (Or.inl rfl)) (dgs_cons (dg_name (i := 3) sc.nd rfl (Or.inl rfl)) (dgs_cons (dg_name (i := 4) sc.nd rfl (Or.inl rfl)) (dgs_cons (dg_name (i := 5) sc.nd rfl (Or.inl rfl)) dgs_nil)))))) (fss_one (fs_ret (de_tup (da_cons (de_callTy cd_int calm_int rfl z_int (by decide +kernel) (da_cons (dv 5) da_nil)) (da_cons (de_callA g_rank (hr.mono (by omega)) tk rfl (da_cons (dv 2) da_nil)) (da_cons (dv 1) da_nil)))))))
abbrev s_ranked_in : Stmt := topS 40
theorem sc_ranked_in : FnScope ["sheet", "tree", "at", "name", "found", "place"] ["sheet", "tree", "at", "name"] (defScope s_ranked_in) := ⟨rfl, rfl, rfl, by decide +kernel, rfl, by decide +kernel, by decide +kernel⟩
theorem ok_ranked_in (F : Fun K "ranked_in" "ranked_in" s_ranked_in fa fd) {c_d P_d : Addr} (hc_d : fd.code = .ref c_d) (tb_d : LamX.TabB base mg c_d P_d) (hT_d : (P_d, ("ranked_in" : Str) ++ ".<locals>." ++ "<lambda>") ∈ Tb.T) (hu_d : ∀ q ∈ Tb.T, q.1 = P_d → q.2 = ("ranked_in" : Str) ++ ".<locals>." ++ "<lambda>") (z_len : mg "len" = none) (z_range : mg "range" = none) (z_sorted : mg "sorted" = none) (g_met_in : DefAt P w K mg base 6 "met_in" ["selector", "tree", "at"] (m_met_in 3)) (g_strength : DefAt P w K mg base 4 "strength" ["sheet", "place"] m_strength) : FnD P w K mg base 11 fa fd ["sheet", "tree", "at", "name"] m_ranked_in := by
  have sc := sc_ranked_in
  exact okFT F sc rfl rfl fun cdv hcode A outer s H E hr tk po => (fss_cons (fs_setLc (own := [("place", 5)]) (i := 4) rfl sc.nd rfl rfl (sw_true rfl rfl rfl (by decide +kernel)) (di_c (di_range1 rfl z_range (da_cons (de_callB cd_len calm_len rfl z_len (by decide +kernel) (da_cons (dv 0) da_nil)) da_nil))) (blkOk_by (by show blkC ["sheet", "tree", "at", "name", "found", "place"] (defScope s_ranked_in) _ _ = true; decide +kernel)) (fun _ _ _ _ _ => (dg_name (i := 5) sc.nd rfl (Or.inl rfl))) (fun _ _ _ _ _ => dts_one (dt_w (dw_and (dt_cmp (op_eqDD hr.units) calm_eq (de_ix (de_ix (dv 0) (dv 5)) de_int) (dv 3) (nomark _)) (dw_and1 (dt_val (de_callA g_met_in (hr.mono (by omega)) takes0 rfl (da_cons (de_ix (de_ix (dv 0) (dv 5)) de_int) (da_cons (dv 1) (da_cons (dv 2) da_nil))))))))) (fun _ _ _ _ _ => (dv 5))) (fss_frz 4 (fss_one (fs_retO (do_sortK (k := 6) (c := c_d) (P := P_d) (b := true) (a := "place") (j := 5) rfl z_sorted (by decide +kernel) (dv 4) hr tb_d (hcode.symm.trans hc_d) hT_d hu_d (lamP_by (by show lamPB (defScope s_ranked_in) _ _ = true; decide +kernel)) rfl sc.nd rfl (fun _ _ _ _ _ _ => rfl) (fun _ _ _ _ _ hr => (de_callA g_strength (hr.mono (by omega)) takes0 rfl (da_cons (dv 0) (da_cons (dv 5) da_nil)))))))))
abbrev s_ranked : Stmt := topS 41
theorem sc_ranked : FnScope ["sheet", "tree", "at", "name"] ["sheet", "tree", "at", "name"] (defScope s_ranked) := ⟨rfl, rfl, rfl, by decide +kernel, rfl, by decide +kernel, by decide +kernel⟩
theorem ok_ranked (F : Fun K "ranked" "ranked" s_ranked fa fd) (c_NAMES : ConstAt K mg "NAMES" d_NAMES) (g_look_part : DefAt P w K mg base 2 "look_part" ["tree", "at"] m_look_part) (g_look_sheet : DefAt P w K mg base 4 "look_sheet" ["sheet"] m_look_sheet) (g_ranked_in : DefAt P w K mg base 11 "ranked_in" ["sheet", "tree", "at", "name"] m_ranked_in) : FnD P w K mg base 12 fa fd ["sheet", "tree", "at", "name"] m_ranked := by
  have sc := sc_ranked
  exact okF F sc rfl rfl fun cdv A outer s H E hr tk po => (fss_cons (fs_expr (de_callA g_look_sheet (hr.mono (by omega)) tk rfl (da_cons (dv 0) da_nil))) (fss_cons (fs_expr (de_callA g_look_part (hr.mono (by omega)) tk rfl (da_cons (dv 1) (da_cons (dv 2) da_nil)))) (fss_cons (fs_if (dt_cmp op_notInD calm_notIn (dv 3) (de_globC c_NAMES rfl) (by rfl)) (fss_one fs_dead) fss_nil) (fss_one (fs_ret (de_callA g_ranked_in (hr.mono (by omega)) tk rfl (da_cons (dv 0) (da_cons (dv 1) (da_cons (dv 2) (da_cons (dv 3) da_nil))))))))))
abbrev s__law_same : Stmt := topS 56
theorem sc__law_same : FnScope ["_law_found", "_law_due", "_law_k"] ["_law_found", "_law_due"] (defScope s__law_same) := ⟨rfl, rfl, rfl, by decide +kernel, rfl, by decide +kernel, by decide +kernel⟩
theorem ok__law_same {n : Nat} {m : List D → R RV} (F : Fun K "_law_same" "_law_same" s__law_same fa fd) (z_all : mg "all" = none) (z_bool : mg "bool" = none) (z_int : mg "int" = none) (z_isinstance : mg "isinstance" = none) (z_len : mg "len" = none) (z_list : mg "list" = none) (z_range : mg "range" = none) (z_str : mg "str" = none) (z_tuple : mg "tuple" = none) (g__law_same : DefAt P w K mg base (n + 0) "_law_same" ["_law_found", "_law_due"] m) : FnD P w K mg base (n + 1 + 0) fa fd ["_law_found", "_law_due"] (m__law_same_b m) := by
  have sc := sc__law_same
  rw [show n + 1 + 0 = n + 0 + 1 by omega]
  exact okF F sc rfl rfl fun cdv A outer s H E hr tk po => (fss_cons (fs_if (dt_cmp op_isD calm_is (dv 1) de_non (nomark _)) (fss_one (fs_ret (de_cmp op_isD calm_is (dv 0) de_non (nomark _)))) fss_nil) (fss_cons (fs_if (dt_val (de_callB cd_isi calm_isi rfl z_isinstance (by decide +kernel) (da_cons (dv 1) (da_cons (de_tup (da_cons (de_bty (n := .list) rfl z_list (by decide +kernel)) (da_cons (de_bty (n := .tuple) rfl z_tuple (by decide +kernel)) da_nil))) da_nil)))) (fss_cons (fs_if (dt_w (dw_or (dt_cmp (op_neDD hr.units) calm_ne (de_callB cd_isi calm_isi rfl z_isinstance (by decide +kernel) (da_cons (dv 0) (da_cons (de_bty (n := .list) rfl z_list (by decide +kernel)) da_nil))) (de_callB cd_isi calm_isi rfl z_isinstance (by decide +kernel) (da_cons (dv 1) (da_cons (de_bty (n := .list) rfl z_list (by decide +kernel)) da_nil))) (nomark _)) (dw_or1 (dt_cmp (op_neDD hr.units) calm_ne (de_callB cd_isi calm_isi rfl z_isinstance (by decide +kernel) (da_cons (dv 0) (da_cons (de_bty (n := .tuple) rfl z_tuple (by decide +kernel)) da_nil))) (de_callB cd_isi calm_isi rfl z_isinstance (by decide +kernel) (da_cons (dv 1) (da_cons (de_bty (n := .tuple) rfl z_tuple (by decide +kernel)) da_nil))) (nomark _))))) (fss_one (fs_ret de_bl)) fss_nil) (fss_one (fs_ret (de_and (de_cmp (op_eqDD hr.units) calm_eq (de_callB cd_len calm_len rfl z_len (by decide +kernel) (da_cons (dv 0) da_nil)) (de_callB cd_len calm_len rfl z_len (by decide +kernel) (da_cons (dv 1) da_nil)) (nomark _)) (de_one (de_callB (cd_all rfl) calm_all rfl z_all (by decide +kernel) (da_cons (DO.de (do_lc (own := [("_law_k", 2)]) rfl sc.nd (di_c (di_range1 rfl z_range (da_cons (de_callB cd_len calm_len rfl z_len (by decide +kernel) (da_cons (dv 1) da_nil)) da_nil))) (blkOk_by (by show blkC ["_law_found", "_law_due", "_law_k"] (defScope s__law_same) _ _ = true; decide +kernel)) (fun _ _ _ _ _ => (dg_name (i := 2) sc.nd rfl (Or.inl rfl))) (fun _ _ _ _ _ => dts_nil) (fun _ _ _ _ _ => (de_callA g__law_same (hr.mono (by omega)) takes0 rfl (da_cons (de_ix (dv 0) (dv 2)) (da_cons (de_ix (dv 1) (dv 2)) da_nil)))))) da_nil))))))) fss_nil) (fss_cons (fs_if (dt_w (dw_or (dt_cmp (op_neDD hr.units) calm_ne (de_callB cd_isi calm_isi rfl z_isinstance (by decide +kernel) (da_cons (dv 0) (da_cons (de_bty (n := .bool) rfl z_bool (by decide +kernel)) da_nil))) (de_callB cd_isi calm_isi rfl z_isinstance (by decide +kernel) (da_cons (dv 1) (da_cons (de_bty (n := .bool) rfl z_bool (by decide +kernel)) da_nil))) (nomark _)) (dw_or1 (dt_cmp (op_neDD hr.units) calm_ne (de_callB cd_isi calm_isi rfl z_isinstance (by decide +kernel) (da_cons (dv 0) (da_cons (de_bty (n := .str) rfl z_str (by decide +kernel)) da_nil))) (de_callB cd_isi calm_isi rfl z_isinstance (by decide +kernel) (da_cons (dv 1) (da_cons (de_bty (n := .str) rfl z_str (by decide +kernel)) da_nil))) (nomark _))))) (fss_one (fs_ret de_bl)) fss_nil) (fss_one (fs_ret (de_and (de_cmp (op_eqDD hr.units) calm_eq (de_callB cd_isi calm_isi rfl z_isinstance (by decide +kernel) (da_cons (dv 0) (da_cons (de_bty (n := .int) rfl z_int (by decide +kernel)) da_nil))) (de_callB cd_isi calm_isi rfl z_isinstance (by decide +kernel) (da_cons (dv 1) (da_cons (de_bty (n := .int) rfl z_int (by decide +kernel)) da_nil))) (nomark _)) (de_one (de_cmp (op_eqDD hr.units) calm_eq (dv 0) (dv 1) (nomark _)))))))))
abbrev s_law : Stmt := topS 59
theorem sc_law : FnScope ["_law_script", "_law_numbers_here", "_law_tree_here", "_law_sheet_here", "_law_rows", "_law_handed", "_law_at", "_law_name", "_law_places", "_law_place", "_law_rule_here"] ["_law_script"] (defScope s_law) := ⟨rfl, rfl, rfl, by decide +kernel, rfl, by decide +kernel, by decide +kernel⟩
theorem ok_law (F : Fun K "law" "law" s_law fa fd) (z_len : mg "len" = none) (z_list : mg "list" = none) (z_range : mg "range" = none) (g__law_met : DefAt P w K mg base 4 "_law_met" ["_law_selector_here", "_law_tree_here"] m__law_met) (g__law_numbers : DefAt P w K mg base 1 "_law_numbers" ["_law_script", "_law_many"] m__law_numbers) (g__law_order : DefAt P w K mg base 2 "_law_order" ["_law_sheet_here", "_law_places"] m__law_order) (g__law_same : DefAt P w K mg base 10 "_law_same" ["_law_found", "_law_due"] (m__law_same 9)) (g__law_sheet : DefAt P w K mg base 4 "_law_sheet" ["_law_d", "_law_upto"] m__law_sheet) (g__law_tree : DefAt P w K mg base 2 "_law_tree" ["_law_d", "_law_upto"] m__law_tree) (g_ranked : DefAt P w K mg base 12 "ranked" ["sheet", "tree", "at", "name"] m_ranked) : FnD P w K mg base 13 fa fd ["_law_script"] m_law_k14 := by
  have sc := sc_law
  exact okF F sc rfl rfl fun cdv A outer s H E hr tk po => (fss_cons (fs_set (i := 1) sc.nd rfl (Or.inl rfl) (de_callA g__law_numbers (hr.mono (by omega)) tk rfl (da_cons (dv 0) (da_cons de_int da_nil)))) (fss_cons (fs_set (i := 2) sc.nd rfl (Or.inr rfl) (de_callA g__law_tree (hr.mono (by omega)) tk rfl (da_cons (dv 1) (da_cons de_int da_nil)))) (fss_cons (fs_set (i := 3) sc.nd rfl (Or.inr rfl) (de_callA g__law_sheet (hr.mono (by omega)) tk rfl (da_cons (de_sl (dv 1) (dp_some de_int) dp_none) (da_cons de_int da_nil)))) (fss_cons (fs_if (dt_cmp (op_eqDD hr.units) calm_eq (de_op op_modD calm_mod (de_ix (dv 1) de_int) de_int) de_int (nomark _)) (fss_one (fs_set (i := 3) sc.nd rfl (Or.inr rfl) (DO.de (do_lc (own := [("_law_place", 9)]) rfl sc.nd (di_c (di_range1 rfl z_range (da_cons (de_callB cd_len calm_len rfl z_len (by decide +kernel) (da_cons (dv 3) da_nil)) da_nil))) (blkOk_by (by show blkC ["_law_script", "_law_numbers_here", "_law_tree_here", "_law_sheet_here", "_law_rows", "_law_handed", "_law_at", "_law_name", "_law_places", "_law_place", "_law_rule_here"] (defScope s_law) _ _ = true; decide +kernel)) (fun _ _ _ _ _ => (dg_name (i := 9) sc.nd rfl (Or.inl rfl))) (fun _ _ _ _ _ => dts_nil) (fun _ _ _ _ _ => (de_tup (da_cons (de_ix (de_ix (dv 3) (de_op op_modD calm_mod (dv 9) de_int)) de_int) (da_cons de_str (da_cons (dv 9) (da_cons (de_ix (de_ix (dv 3) (dv 9)) de_int) da_nil)))))))))) fss_nil) (fss_cons (fs_set (i := 4) sc.nd rfl (Or.inr rfl) (DO.de (do_lc (own := [("_law_rule_here", 10)]) rfl sc.nd (dic_e (dv 3)) (blkOk_by (by show blkC ["_law_script", "_law_numbers_here", "_law_tree_here", "_law_sheet_here", "_law_rows", "_law_handed", "_law_at", "_law_name", "_law_places", "_law_place", "_law_rule_here"] (defScope s_law) _ _ = true; decide +kernel)) (fun _ _ _ _ _ => (dg_name (i := 10) sc.nd rfl (Or.inl rfl))) (fun _ _ _ _ _ => dts_nil) (fun _ _ _ _ _ => (de_callA g__law_met (hr.mono (by omega)) takes0 rfl (da_cons (de_ix (dv 10) de_int) (da_cons (dv 2) da_nil))))))) (fss_cons (fs_set (i := 5) sc.nd rfl (Or.inl rfl) (de_lst (da_cons (DO.de (do_callTy (co_list rfl) calm_listO rfl z_list (by decide +kernel) (da_cons (dv 3) da_nil))) (da_cons (DO.de (do_callTy (co_list rfl) calm_listO rfl z_list (by decide +kernel) (da_cons (dv 2) da_nil))) da_nil)))) (fss_cons (fs_for po rfl (di_range1 rfl z_range (da_cons (de_callB cd_len calm_len rfl z_len (by decide +kernel) (da_cons (dv 2) da_nil)) da_nil)) (dg_name (i := 6) sc.nd rfl (Or.inr rfl)) (fss_one (fs_for po rfl (di_e de_str) (dg_name (i := 7) sc.nd rfl (Or.inr rfl)) (fss_cons (fs_setLc (own := [("_law_place", 9)]) (i := 8) rfl sc.nd rfl rfl (sw_true rfl rfl rfl (by decide +kernel)) (di_c (di_range1 rfl z_range (da_cons (de_callB cd_len calm_len rfl z_len (by decide +kernel) (da_cons (dv 3) da_nil)) da_nil))) (blkOk_by (by show blkC ["_law_script", "_law_numbers_here", "_law_tree_here", "_law_sheet_here", "_law_rows", "_law_handed", "_law_at", "_law_name", "_law_places", "_law_place", "_law_rule_here"] (defScope s_law) _ _ = true; decide +kernel)) (fun _ _ _ _ _ => (dg_name (i := 9) sc.nd rfl (Or.inl rfl))) (fun _ _ _ _ _ => dts_one (dt_w (dw_and (dt_val (de_ix (de_ix (dv 4) (dv 9)) (dv 6))) (dw_and1 (dt_cmp (op_eqDD hr.units) calm_eq (de_ix (de_ix (dv 3) (dv 9)) de_int) (dv 7) (nomark _)))))) (fun _ _ _ _ _ => (dv 9))) (fss_frz 8 (fss_one (fs_if (dt_not (dt_val (de_callA g__law_same (hr.mono (by omega)) tk rfl (da_cons (de_callA g_ranked (hr.mono (by omega)) tk rfl (da_cons (de_ix (dv 5) de_int) (da_cons (de_ix (dv 5) de_int) (da_cons (dv 6) (da_cons (dv 7) da_nil))))) (da_cons (de_callA g__law_order (hr.mono (by omega)) tk rfl (da_cons (dv 3) (da_cons (dv 8) da_nil))) da_nil))))) (fss_one (fs_ret de_bl)) fss_nil))))))) (fss_one (fs_ret (de_cmp (op_eqDD hr.units) calm_eq (dv 5) (de_lst (da_cons (dv 3) (da_cons (dv 2) da_nil))) (nomark _)))))))))))
end
end Lw
set_option maxRecDepth 100000
set_option maxHeartbeats 0
namespace Lw
open PySem PySem.Spec PyProof.Rows L2 DL
def df__law_numbers : He.DefD := ⟨("_law_numbers", none), "_law_numbers", "_law_numbers", defArgs s__law_numbers, defBody s__law_numbers, defScope s__law_numbers, [], []⟩
def df__law_label : He.DefD := ⟨("_law_label", none), "_law_label", "_law_label", defArgs s__law_label, defBody s__law_label, defScope s__law_label, [], []⟩
def df__law_tree : He.DefD := ⟨("_law_tree", none), "_law_tree", "_law_tree", defArgs s__law_tree, defBody s__law_tree, defScope s__law_tree, [], []⟩
def df__law_step : He.DefD := ⟨("_law_step", none), "_law_step", "_law_step", defArgs s__law_step, defBody s__law_step, defScope s__law_step, [], []⟩
def df__law_selector : He.DefD := ⟨("_law_selector", none), "_law_selector", "_law_selector", defArgs s__law_selector, defBody s__law_selector, defScope s__law_selector, [], []⟩
def df__law_rule : He.DefD := ⟨("_law_rule", none), "_law_rule", "_law_rule", defArgs s__law_rule, defBody s__law_rule, defScope s__law_rule, [], []⟩
def df__law_sheet : He.DefD := ⟨("_law_sheet", none), "_law_sheet", "_law_sheet", defArgs s__law_sheet, defBody s__law_sheet, defScope s__law_sheet, [], []⟩
def df__law_parent : He.DefD := ⟨("_law_parent", none), "_law_parent", "_law_parent", defArgs s__law_parent, defBody s__law_parent, defScope s__law_parent, [], []⟩
def df__law_elders : He.DefD := ⟨("_law_elders", none), "_law_elders", "_law_elders", defArgs s__law_elders, defBody s__law_elders, defScope s__law_elders, [], []⟩
def df__law_asked : He.DefD := ⟨("_law_asked", none), "_law_asked", "_law_asked", defArgs s__law_asked, defBody s__law_asked, defScope s__law_asked, [], []⟩
def df__law_forebears : He.DefD := ⟨("_law_forebears", none), "_law_forebears", "_law_forebears", defArgs s__law_forebears, defBody s__law_forebears, defScope s__law_forebears, [], []⟩
def df__law_reach : He.DefD := ⟨("_law_reach", none), "_law_reach", "_law_reach", defArgs s__law_reach, defBody s__law_reach, defScope s__law_reach, [], []⟩
def df__law_met : He.DefD := ⟨("_law_met", none), "_law_met", "_law_met", defArgs s__law_met, defBody s__law_met, defScope s__law_met, [], []⟩
def df__law_rank : He.DefD := ⟨("_law_rank", none), "_law_rank", "_law_rank", defArgs s__law_rank, defBody s__law_rank, defScope s__law_rank, [], []⟩
def df__law_order : He.DefD := ⟨("_law_order", none), "_law_order", "_law_order", defArgs s__law_order, defBody s__law_order, defScope s__law_order, [], []⟩
def df_look_step : He.DefD := ⟨("look_step", none), "look_step", "look_step", defArgs s_look_step, defBody s_look_step, defScope s_look_step, [], []⟩
def df_look_selector : He.DefD := ⟨("look_selector", none), "look_selector", "look_selector", defArgs s_look_selector, defBody s_look_selector, defScope s_look_selector, [], []⟩
def df_look_rule : He.DefD := ⟨("look_rule", none), "look_rule", "look_rule", defArgs s_look_rule, defBody s_look_rule, defScope s_look_rule, [], []⟩
def df_look_sheet : He.DefD := ⟨("look_sheet", none), "look_sheet", "look_sheet", defArgs s_look_sheet, defBody s_look_sheet, defScope s_look_sheet, [], []⟩
def df_look_tree : He.DefD := ⟨("look_tree", none), "look_tree", "look_tree", defArgs s_look_tree, defBody s_look_tree, defScope s_look_tree, [], []⟩
def df_look_part : He.DefD := ⟨("look_part", none), "look_part", "look_part", defArgs s_look_part, defBody s_look_part, defScope s_look_part, [], []⟩
def df_elder_in : He.DefD := ⟨("elder_in", none), "elder_in", "elder_in", defArgs s_elder_in, defBody s_elder_in, defScope s_elder_in, [], []⟩
def df_kind_of : He.DefD := ⟨("kind_of", none), "kind_of", "kind_of", defArgs s_kind_of, defBody s_kind_of, defScope s_kind_of, [], []⟩
def df_marks_of : He.DefD := ⟨("marks_of", none), "marks_of", "marks_of", defArgs s_marks_of, defBody s_marks_of, defScope s_marks_of, [], []⟩
def df_fits : He.DefD := ⟨("fits", none), "fits", "fits", defArgs s_fits, defBody s_fits, defScope s_fits, [], []⟩
def df_parent_in : He.DefD := ⟨("parent_in", none), "parent_in", "parent_in", defArgs s_parent_in, defBody s_parent_in, defScope s_parent_in, [], []⟩
def df_nearest : He.DefD := ⟨("nearest", none), "nearest", "nearest", defArgs s_nearest, defBody s_nearest, defScope s_nearest, [], []⟩
def df_met_in : He.DefD := ⟨("met_in", none), "met_in", "met_in", defArgs s_met_in, defBody s_met_in, defScope s_met_in, [], []⟩
def df_rank : He.DefD := ⟨("rank", none), "rank", "rank", defArgs s_rank, defBody s_rank, defScope s_rank, [], []⟩
def df_strength : He.DefD := ⟨("strength", none), "strength", "strength", defArgs s_strength, defBody s_strength, defScope s_strength, [], []⟩
def df_ranked_in : He.DefD := ⟨("ranked_in", none), "ranked_in", "ranked_in", defArgs s_ranked_in, defBody s_ranked_in, defScope s_ranked_in, [], []⟩
def df_ranked : He.DefD := ⟨("ranked", none), "ranked", "ranked", defArgs s_ranked, defBody s_ranked, defScope s_ranked, [], []⟩
def df__law_same : He.DefD := ⟨("_law_same", none), "_law_same", "_law_same", defArgs s__law_same, defBody s__law_same, defScope s__law_same, [], []⟩
def df_law : He.DefD := ⟨("law", none), "law", "law", defArgs s_law, defBody s_law, defScope s_law, [], []⟩
def hdFn : List He.DefD := [df__law_numbers, df__law_label, df__law_tree, df__law_step, df__law_selector, df__law_rule, df__law_sheet, df__law_parent, df__law_elders, df__law_asked, df__law_forebears, df__law_reach, df__law_met, df__law_rank, df__law_order, df_look_step, df_look_selector, df_look_rule, df_look_sheet, df_look_tree, df_look_part, df_elder_in, df_kind_of, df_marks_of, df_fits, df_parent_in, df_nearest, df_met_in, df_rank, df_strength, df_ranked_in, df_ranked, df__law_same, df_law]
def hdFa : List He.Fa := [.glo "_law_numbers", .glo "_law_label", .glo "_law_tree", .glo "_law_step", .glo "_law_selector", .glo "_law_rule", .glo "_law_sheet", .glo "_law_parent", .glo "_law_elders", .glo "_law_asked", .glo "_law_forebears", .glo "_law_reach", .glo "_law_met", .glo "_law_rank", .glo "_law_order", .glo "look_step", .glo "look_selector", .glo "look_rule", .glo "look_sheet", .glo "look_tree", .glo "look_part", .glo "elder_in", .glo "kind_of", .glo "marks_of", .glo "fits", .glo "parent_in", .glo "nearest", .glo "met_in", .glo "rank", .glo "strength", .glo "ranked_in", .glo "ranked", .glo "_law_same", .glo "law", .free "all", .free "any", .free "bool", .free "enumerate", .free "int", .free "isinstance", .free "len", .free "list", .free "max", .free "range", .free "sorted", .free "str", .free "sum", .free "tuple", .str "ANY" "*", .str "JOINTS" " >+~", .str "KINDS" "abc", .int "MOST_PARTS" 60, .int "MOST_RULES" 8, .int "MOST_STEPS" 3, .int "MOST_VALUE" 9]
def hdEx (K : PySem.W.Frag) : Bool := (tupB K "LABELS" ["a", "ax", "ay", "axy", "b", "bx", "by", "bxy", "c", "cx", "cy", "cxy"] && (tupB K "MARKS" ["", "x", "y", "xy"] && (tupB K "NAMES" ["p", "q", "r"] && (tupB K "WORDS" ["up", "start"] && true))))
abbrev hdRow : PySem.W.OpenRow := PySem.W.OpenLaw.row PySem.Challenge.rw_sheetmoot_k14_whole_rules_in_their_row
def hdTf : List He.Defn := [("ranked_in", none)]
def hdQ (d : Str) : Str := d ++ ".<locals>." ++ "<lambda>"
abbrev hdTb (K : PySem.W.Frag) : DL.Tb := ⟨hdTf.map fun p => ((He.cT K p).2, hdQ p.1)⟩
abbrev hdHk : PySem.W.Hook := He.hookX 4 hdFa hdFn [] hdTf hdEx
def hdOb (s : PySem.W.SharedT) : He.AlX := He.obsX 4 hdFa hdFn [] hdTf hdEx (HandSHeadRun.getT s)
theorem hdOb_eq (s : PySem.W.SharedT) : hdOb s = hdHk.obs s.abs := He.obsX_eq (HandSHeadRun.getT_eq s)
def hdLoose : List Str := (["__name__", "MootError", "Missing", "BadSelector", "BadRule", "BadTree", "TooMany", "NoPart", "NoValue", "KINDS", "MARKS", "LABELS", "kind_of", "marks_of", "MOST_STEPS", "JOINTS", "ANY", "look_step", "look_selector", "rank", "fits", "NAMES", "MOST_RULES", "MOST_VALUE", "WORDS"] : List Str) ++ (["look_rule", "look_sheet", "strength", "MOST_PARTS", "look_tree", "look_part", "parent_in", "elder_in", "nearest", "met_in", "ranked_in", "ranked", "_law_numbers", "_law_label", "_law_tree", "_law_step", "_law_selector", "_law_rule", "_law_sheet", "_law_parent", "_law_elders", "_law_asked", "_law_forebears", "_law_reach", "_law_met"] : List Str) ++ (["_law_same", "_law_rank", "_law_order"] : List Str)
theorem hdRun (w : World) : HandSHeadRun.RunEq hdRow (PySem.W.view hdRow.prog [59]) hdHk hdOb 4000 hdLoose w := by
  intro os
  kernel_rfl
theorem hdFacts {w : World} {K : PySem.W.Frag} {h : Heap} {mg : Str → Option Value} {f : Addr} (X : K.In h) (G : h.Ns mainGlobals mg) (hfa : mg ("law" : Str) = some (.ref f)) (c : He.SaysX hdFa hdFn [] hdTf hdEx w h K) :
    ∃ fd : FuncData, (∀ (s : Shared) (v : Value), BindsTo s fd ⟨[v], []⟩ [("_law_script", v)]) ∧ ∀ base : Heap, K.In base → base.Ns mainGlobals mg → (∀ p ∈ hdTf.map (He.cT K), LamX.TabB base mg p.1 p.2) → letI : DL.Tb := hdTb K; FnD (PySem.Challenge.rw_sheetmoot_k14_whole_rules_in_their_row).prog w K mg base 13 f fd ["_law_script"] m_law_k14 := by
  have cD : He.SaysD hdFa hdFn K := congrArg (fun z : He.AlT => z.1) c.t
  have cm := c.more
  have z_all : mg "all" = none := He.free_ok X G (cD.fact 34 (f := .free "all") rfl)
  have z_any : mg "any" = none := He.free_ok X G (cD.fact 35 (f := .free "any") rfl)
  have z_bool : mg "bool" = none := He.free_ok X G (cD.fact 36 (f := .free "bool") rfl)
  have z_enumerate : mg "enumerate" = none := He.free_ok X G (cD.fact 37 (f := .free "enumerate") rfl)
  have z_int : mg "int" = none := He.free_ok X G (cD.fact 38 (f := .free "int") rfl)
  have z_isinstance : mg "isinstance" = none := He.free_ok X G (cD.fact 39 (f := .free "isinstance") rfl)
  have z_len : mg "len" = none := He.free_ok X G (cD.fact 40 (f := .free "len") rfl)
  have z_list : mg "list" = none := He.free_ok X G (cD.fact 41 (f := .free "list") rfl)
  have z_max : mg "max" = none := He.free_ok X G (cD.fact 42 (f := .free "max") rfl)
  have z_range : mg "range" = none := He.free_ok X G (cD.fact 43 (f := .free "range") rfl)
  have z_sorted : mg "sorted" = none := He.free_ok X G (cD.fact 44 (f := .free "sorted") rfl)
  have z_str : mg "str" = none := He.free_ok X G (cD.fact 45 (f := .free "str") rfl)
  have z_sum : mg "sum" = none := He.free_ok X G (cD.fact 46 (f := .free "sum") rfl)
  have z_tuple : mg "tuple" = none := He.free_ok X G (cD.fact 47 (f := .free "tuple") rfl)
  have c_ANY : ConstAt K mg "ANY" (.str "*") := const_str X G (cD.fact 48 (f := .str "ANY" "*") rfl)
  have c_JOINTS : ConstAt K mg "JOINTS" (.str " >+~") := const_str X G (cD.fact 49 (f := .str "JOINTS" " >+~") rfl)
  have c_KINDS : ConstAt K mg "KINDS" (.str "abc") := const_str X G (cD.fact 50 (f := .str "KINDS" "abc") rfl)
  have c_MOST_PARTS : ConstAt K mg "MOST_PARTS" (.int 60) := const_int X G (cD.fact 51 (f := .int "MOST_PARTS" 60) rfl)
  have c_MOST_RULES : ConstAt K mg "MOST_RULES" (.int 8) := const_int X G (cD.fact 52 (f := .int "MOST_RULES" 8) rfl)
  have c_MOST_STEPS : ConstAt K mg "MOST_STEPS" (.int 3) := const_int X G (cD.fact 53 (f := .int "MOST_STEPS" 3) rfl)
  have c_MOST_VALUE : ConstAt K mg "MOST_VALUE" (.int 9) := const_int X G (cD.fact 54 (f := .int "MOST_VALUE" 9) rfl)
  obtain ⟨ct_LABELS, cm⟩ := He.ba cm
  have c_LABELS : ConstAt K mg "LABELS" d_LABELS := const_tup X G ct_LABELS
  obtain ⟨ct_MARKS, cm⟩ := He.ba cm
  have c_MARKS : ConstAt K mg "MARKS" d_MARKS := const_tup X G ct_MARKS
  obtain ⟨ct_NAMES, cm⟩ := He.ba cm
  have c_NAMES : ConstAt K mg "NAMES" d_NAMES := const_tup X G ct_NAMES
  obtain ⟨ct_WORDS, cm⟩ := He.ba cm
  have c_WORDS : ConstAt K mg "WORDS" d_WORDS := const_tup X G ct_WORDS
  obtain ⟨fd__law_numbers, FD__law_numbers⟩ := cD.def_ 0 (d := df__law_numbers) rfl
  have m__law_numbersG : mg "_law_numbers" = some (.ref (He.fAd K ("_law_numbers", none))) := He.glo_ok X G (cD.fact 0 (f := .glo "_law_numbers") rfl)
  have b__law_numbers : Binds K fd__law_numbers ["_law_script", "_law_many"] [] := FunD.bindsN FD__law_numbers fun _ _ _ _ _ _ us hl => match us, hl with | [_, _], _ => rfl
  obtain ⟨fd__law_label, FD__law_label⟩ := cD.def_ 1 (d := df__law_label) rfl
  have m__law_labelG : mg "_law_label" = some (.ref (He.fAd K ("_law_label", none))) := He.glo_ok X G (cD.fact 1 (f := .glo "_law_label") rfl)
  have b__law_label : Binds K fd__law_label ["_law_number"] [] := FunD.bindsN FD__law_label fun _ _ _ _ _ _ us hl => match us, hl with | [_], _ => rfl
  obtain ⟨fd__law_tree, FD__law_tree⟩ := cD.def_ 2 (d := df__law_tree) rfl
  have m__law_treeG : mg "_law_tree" = some (.ref (He.fAd K ("_law_tree", none))) := He.glo_ok X G (cD.fact 2 (f := .glo "_law_tree") rfl)
  have b__law_tree : Binds K fd__law_tree ["_law_d", "_law_upto"] [] := FunD.bindsN FD__law_tree fun _ _ _ _ _ _ us hl => match us, hl with | [_, _], _ => rfl
  obtain ⟨fd__law_step, FD__law_step⟩ := cD.def_ 3 (d := df__law_step) rfl
  have m__law_stepG : mg "_law_step" = some (.ref (He.fAd K ("_law_step", none))) := He.glo_ok X G (cD.fact 3 (f := .glo "_law_step") rfl)
  have b__law_step : Binds K fd__law_step ["_law_d", "_law_joint"] [] := FunD.bindsN FD__law_step fun _ _ _ _ _ _ us hl => match us, hl with | [_, _], _ => rfl
  obtain ⟨fd__law_selector, FD__law_selector⟩ := cD.def_ 4 (d := df__law_selector) rfl
  have m__law_selectorG : mg "_law_selector" = some (.ref (He.fAd K ("_law_selector", none))) := He.glo_ok X G (cD.fact 4 (f := .glo "_law_selector") rfl)
  have b__law_selector : Binds K fd__law_selector ["_law_d"] [] := FunD.bindsN FD__law_selector fun _ _ _ _ _ _ us hl => match us, hl with | [_], _ => rfl
  obtain ⟨fd__law_rule, FD__law_rule⟩ := cD.def_ 5 (d := df__law_rule) rfl
  have m__law_ruleG : mg "_law_rule" = some (.ref (He.fAd K ("_law_rule", none))) := He.glo_ok X G (cD.fact 5 (f := .glo "_law_rule") rfl)
  have b__law_rule : Binds K fd__law_rule ["_law_d"] [] := FunD.bindsN FD__law_rule fun _ _ _ _ _ _ us hl => match us, hl with | [_], _ => rfl
  obtain ⟨fd__law_sheet, FD__law_sheet⟩ := cD.def_ 6 (d := df__law_sheet) rfl
  have m__law_sheetG : mg "_law_sheet" = some (.ref (He.fAd K ("_law_sheet", none))) := He.glo_ok X G (cD.fact 6 (f := .glo "_law_sheet") rfl)
  have b__law_sheet : Binds K fd__law_sheet ["_law_d", "_law_upto"] [] := FunD.bindsN FD__law_sheet fun _ _ _ _ _ _ us hl => match us, hl with | [_, _], _ => rfl
  obtain ⟨fd__law_parent, FD__law_parent⟩ := cD.def_ 7 (d := df__law_parent) rfl
  have m__law_parentG : mg "_law_parent" = some (.ref (He.fAd K ("_law_parent", none))) := He.glo_ok X G (cD.fact 7 (f := .glo "_law_parent") rfl)
  have b__law_parent : Binds K fd__law_parent ["_law_tree_here", "_law_at"] [] := FunD.bindsN FD__law_parent fun _ _ _ _ _ _ us hl => match us, hl with | [_, _], _ => rfl
  obtain ⟨fd__law_elders, FD__law_elders⟩ := cD.def_ 8 (d := df__law_elders) rfl
  have m__law_eldersG : mg "_law_elders" = some (.ref (He.fAd K ("_law_elders", none))) := He.glo_ok X G (cD.fact 8 (f := .glo "_law_elders") rfl)
  have b__law_elders : Binds K fd__law_elders ["_law_tree_here", "_law_at"] [] := FunD.bindsN FD__law_elders fun _ _ _ _ _ _ us hl => match us, hl with | [_, _], _ => rfl
  obtain ⟨fd__law_asked, FD__law_asked⟩ := cD.def_ 9 (d := df__law_asked) rfl
  have m__law_askedG : mg "_law_asked" = some (.ref (He.fAd K ("_law_asked", none))) := He.glo_ok X G (cD.fact 9 (f := .glo "_law_asked") rfl)
  have b__law_asked : Binds K fd__law_asked ["_law_step_here", "_law_tree_here", "_law_at"] [] := FunD.bindsN FD__law_asked fun _ _ _ _ _ _ us hl => match us, hl with | [_, _, _], _ => rfl
  obtain ⟨fd__law_forebears, FD__law_forebears⟩ := cD.def_ 10 (d := df__law_forebears) rfl
  have m__law_forebearsG : mg "_law_forebears" = some (.ref (He.fAd K ("_law_forebears", none))) := He.glo_ok X G (cD.fact 10 (f := .glo "_law_forebears") rfl)
  have b__law_forebears : Binds K fd__law_forebears ["_law_tree_here", "_law_at"] [] := FunD.bindsN FD__law_forebears fun _ _ _ _ _ _ us hl => match us, hl with | [_, _], _ => rfl
  obtain ⟨fd__law_reach, FD__law_reach⟩ := cD.def_ 11 (d := df__law_reach) rfl
  have m__law_reachG : mg "_law_reach" = some (.ref (He.fAd K ("_law_reach", none))) := He.glo_ok X G (cD.fact 11 (f := .glo "_law_reach") rfl)
  have b__law_reach : Binds K fd__law_reach ["_law_joint", "_law_tree_here", "_law_at"] [] := FunD.bindsN FD__law_reach fun _ _ _ _ _ _ us hl => match us, hl with | [_, _, _], _ => rfl
  obtain ⟨fd__law_met, FD__law_met⟩ := cD.def_ 12 (d := df__law_met) rfl
  have m__law_metG : mg "_law_met" = some (.ref (He.fAd K ("_law_met", none))) := He.glo_ok X G (cD.fact 12 (f := .glo "_law_met") rfl)
  have b__law_met : Binds K fd__law_met ["_law_selector_here", "_law_tree_here"] [] := FunD.bindsN FD__law_met fun _ _ _ _ _ _ us hl => match us, hl with | [_, _], _ => rfl
  obtain ⟨fd__law_rank, FD__law_rank⟩ := cD.def_ 13 (d := df__law_rank) rfl
  have m__law_rankG : mg "_law_rank" = some (.ref (He.fAd K ("_law_rank", none))) := He.glo_ok X G (cD.fact 13 (f := .glo "_law_rank") rfl)
  have b__law_rank : Binds K fd__law_rank ["_law_selector_here"] [] := FunD.bindsN FD__law_rank fun _ _ _ _ _ _ us hl => match us, hl with | [_], _ => rfl
  obtain ⟨fd__law_order, FD__law_order⟩ := cD.def_ 14 (d := df__law_order) rfl
  have m__law_orderG : mg "_law_order" = some (.ref (He.fAd K ("_law_order", none))) := He.glo_ok X G (cD.fact 14 (f := .glo "_law_order") rfl)
  have b__law_order : Binds K fd__law_order ["_law_sheet_here", "_law_places"] [] := FunD.bindsN FD__law_order fun _ _ _ _ _ _ us hl => match us, hl with | [_, _], _ => rfl
  obtain ⟨fd_look_step, FD_look_step⟩ := cD.def_ 15 (d := df_look_step) rfl
  have m_look_stepG : mg "look_step" = some (.ref (He.fAd K ("look_step", none))) := He.glo_ok X G (cD.fact 15 (f := .glo "look_step") rfl)
  have b_look_step : Binds K fd_look_step ["step", "joints"] [] := FunD.bindsN FD_look_step fun _ _ _ _ _ _ us hl => match us, hl with | [_, _], _ => rfl
  obtain ⟨fd_look_selector, FD_look_selector⟩ := cD.def_ 16 (d := df_look_selector) rfl
  have m_look_selectorG : mg "look_selector" = some (.ref (He.fAd K ("look_selector", none))) := He.glo_ok X G (cD.fact 16 (f := .glo "look_selector") rfl)
  have b_look_selector : Binds K fd_look_selector ["selector"] [] := FunD.bindsN FD_look_selector fun _ _ _ _ _ _ us hl => match us, hl with | [_], _ => rfl
  obtain ⟨fd_look_rule, FD_look_rule⟩ := cD.def_ 17 (d := df_look_rule) rfl
  have m_look_ruleG : mg "look_rule" = some (.ref (He.fAd K ("look_rule", none))) := He.glo_ok X G (cD.fact 17 (f := .glo "look_rule") rfl)
  have b_look_rule : Binds K fd_look_rule ["rule"] [] := FunD.bindsN FD_look_rule fun _ _ _ _ _ _ us hl => match us, hl with | [_], _ => rfl
  obtain ⟨fd_look_sheet, FD_look_sheet⟩ := cD.def_ 18 (d := df_look_sheet) rfl
  have m_look_sheetG : mg "look_sheet" = some (.ref (He.fAd K ("look_sheet", none))) := He.glo_ok X G (cD.fact 18 (f := .glo "look_sheet") rfl)
  have b_look_sheet : Binds K fd_look_sheet ["sheet"] [] := FunD.bindsN FD_look_sheet fun _ _ _ _ _ _ us hl => match us, hl with | [_], _ => rfl
  obtain ⟨fd_look_tree, FD_look_tree⟩ := cD.def_ 19 (d := df_look_tree) rfl
  have m_look_treeG : mg "look_tree" = some (.ref (He.fAd K ("look_tree", none))) := He.glo_ok X G (cD.fact 19 (f := .glo "look_tree") rfl)
  have b_look_tree : Binds K fd_look_tree ["tree"] [] := FunD.bindsN FD_look_tree fun _ _ _ _ _ _ us hl => match us, hl with | [_], _ => rfl
  obtain ⟨fd_look_part, FD_look_part⟩ := cD.def_ 20 (d := df_look_part) rfl
  have m_look_partG : mg "look_part" = some (.ref (He.fAd K ("look_part", none))) := He.glo_ok X G (cD.fact 20 (f := .glo "look_part") rfl)
  have b_look_part : Binds K fd_look_part ["tree", "at"] [] := FunD.bindsN FD_look_part fun _ _ _ _ _ _ us hl => match us, hl with | [_, _], _ => rfl
  obtain ⟨fd_elder_in, FD_elder_in⟩ := cD.def_ 21 (d := df_elder_in) rfl
  have m_elder_inG : mg "elder_in" = some (.ref (He.fAd K ("elder_in", none))) := He.glo_ok X G (cD.fact 21 (f := .glo "elder_in") rfl)
  have b_elder_in : Binds K fd_elder_in ["tree", "at"] [] := FunD.bindsN FD_elder_in fun _ _ _ _ _ _ us hl => match us, hl with | [_, _], _ => rfl
  obtain ⟨fd_kind_of, FD_kind_of⟩ := cD.def_ 22 (d := df_kind_of) rfl
  have m_kind_ofG : mg "kind_of" = some (.ref (He.fAd K ("kind_of", none))) := He.glo_ok X G (cD.fact 22 (f := .glo "kind_of") rfl)
  have b_kind_of : Binds K fd_kind_of ["label"] [] := FunD.bindsN FD_kind_of fun _ _ _ _ _ _ us hl => match us, hl with | [_], _ => rfl
  obtain ⟨fd_marks_of, FD_marks_of⟩ := cD.def_ 23 (d := df_marks_of) rfl
  have m_marks_ofG : mg "marks_of" = some (.ref (He.fAd K ("marks_of", none))) := He.glo_ok X G (cD.fact 23 (f := .glo "marks_of") rfl)
  have b_marks_of : Binds K fd_marks_of ["label"] [] := FunD.bindsN FD_marks_of fun _ _ _ _ _ _ us hl => match us, hl with | [_], _ => rfl
  obtain ⟨fd_fits, FD_fits⟩ := cD.def_ 24 (d := df_fits) rfl
  have m_fitsG : mg "fits" = some (.ref (He.fAd K ("fits", none))) := He.glo_ok X G (cD.fact 24 (f := .glo "fits") rfl)
  have b_fits : Binds K fd_fits ["step", "label", "first"] [] := FunD.bindsN FD_fits fun _ _ _ _ _ _ us hl => match us, hl with | [_, _, _], _ => rfl
  obtain ⟨fd_parent_in, FD_parent_in⟩ := cD.def_ 25 (d := df_parent_in) rfl
  have m_parent_inG : mg "parent_in" = some (.ref (He.fAd K ("parent_in", none))) := He.glo_ok X G (cD.fact 25 (f := .glo "parent_in") rfl)
  have b_parent_in : Binds K fd_parent_in ["tree", "at"] [] := FunD.bindsN FD_parent_in fun _ _ _ _ _ _ us hl => match us, hl with | [_, _], _ => rfl
  obtain ⟨fd_nearest, FD_nearest⟩ := cD.def_ 26 (d := df_nearest) rfl
  have m_nearestG : mg "nearest" = some (.ref (He.fAd K ("nearest", none))) := He.glo_ok X G (cD.fact 26 (f := .glo "nearest") rfl)
  have b_nearest : Binds K fd_nearest ["tree", "at", "joint"] [] := FunD.bindsN FD_nearest fun _ _ _ _ _ _ us hl => match us, hl with | [_, _, _], _ => rfl
  obtain ⟨fd_met_in, FD_met_in⟩ := cD.def_ 27 (d := df_met_in) rfl
  have m_met_inG : mg "met_in" = some (.ref (He.fAd K ("met_in", none))) := He.glo_ok X G (cD.fact 27 (f := .glo "met_in") rfl)
  have b_met_in : Binds K fd_met_in ["selector", "tree", "at"] [] := FunD.bindsN FD_met_in fun _ _ _ _ _ _ us hl => match us, hl with | [_, _, _], _ => rfl
  obtain ⟨fd_rank, FD_rank⟩ := cD.def_ 28 (d := df_rank) rfl
  have m_rankG : mg "rank" = some (.ref (He.fAd K ("rank", none))) := He.glo_ok X G (cD.fact 28 (f := .glo "rank") rfl)
  have b_rank : Binds K fd_rank ["selector"] [] := FunD.bindsN FD_rank fun _ _ _ _ _ _ us hl => match us, hl with | [_], _ => rfl
  obtain ⟨fd_strength, FD_strength⟩ := cD.def_ 29 (d := df_strength) rfl
  have m_strengthG : mg "strength" = some (.ref (He.fAd K ("strength", none))) := He.glo_ok X G (cD.fact 29 (f := .glo "strength") rfl)
  have b_strength : Binds K fd_strength ["sheet", "place"] [] := FunD.bindsN FD_strength fun _ _ _ _ _ _ us hl => match us, hl with | [_, _], _ => rfl
  obtain ⟨fd_ranked_in, FD_ranked_in⟩ := cD.def_ 30 (d := df_ranked_in) rfl
  have m_ranked_inG : mg "ranked_in" = some (.ref (He.fAd K ("ranked_in", none))) := He.glo_ok X G (cD.fact 30 (f := .glo "ranked_in") rfl)
  have b_ranked_in : Binds K fd_ranked_in ["sheet", "tree", "at", "name"] [] := FunD.bindsN FD_ranked_in fun _ _ _ _ _ _ us hl => match us, hl with | [_, _, _, _], _ => rfl
  obtain ⟨fd_ranked, FD_ranked⟩ := cD.def_ 31 (d := df_ranked) rfl
  have m_rankedG : mg "ranked" = some (.ref (He.fAd K ("ranked", none))) := He.glo_ok X G (cD.fact 31 (f := .glo "ranked") rfl)
  have b_ranked : Binds K fd_ranked ["sheet", "tree", "at", "name"] [] := FunD.bindsN FD_ranked fun _ _ _ _ _ _ us hl => match us, hl with | [_, _, _, _], _ => rfl
  obtain ⟨fd__law_same, FD__law_same⟩ := cD.def_ 32 (d := df__law_same) rfl
  have m__law_sameG : mg "_law_same" = some (.ref (He.fAd K ("_law_same", none))) := He.glo_ok X G (cD.fact 32 (f := .glo "_law_same") rfl)
  have b__law_same : Binds K fd__law_same ["_law_found", "_law_due"] [] := FunD.bindsN FD__law_same fun _ _ _ _ _ _ us hl => match us, hl with | [_, _], _ => rfl
  obtain ⟨fd_law, FD_law⟩ := cD.def_ 33 (d := df_law) rfl
  have m_lawG : mg "law" = some (.ref (He.fAd K ("law", none))) := He.glo_ok X G (cD.fact 33 (f := .glo "law") rfl)
  have b_law : Binds K fd_law ["_law_script"] [] := FunD.bindsN FD_law fun _ _ _ _ _ _ us hl => match us, hl with | [_], _ => rfl
  have e := hfa.symm.trans m_lawG
  cases e
  refine ⟨fd_law, fun s v => FunD.bindsA (ps := ["_law_script"]) FD_law (fun _ _ _ _ _ _ us hl => match us, hl with | [_], _ => rfl) s [v] rfl, fun base _ _ TBH => ?_⟩
  letI : DL.Tb := hdTb K
  show FnD _ _ _ _ _ _ _ _ _ _
  have g__law_numbers : DefAt (PySem.Challenge.rw_sheetmoot_k14_whole_rules_in_their_row).prog w K mg base 1 "_law_numbers" ["_law_script", "_law_many"] m__law_numbers := ⟨_, fd__law_numbers, ok__law_numbers (fun_ofK FD__law_numbers) z_len z_range, m__law_numbersG, FD__law_numbers.kp, b__law_numbers⟩
  have g__law_label : DefAt (PySem.Challenge.rw_sheetmoot_k14_whole_rules_in_their_row).prog w K mg base 1 "_law_label" ["_law_number"] m__law_label := ⟨_, fd__law_label, ok__law_label (fun_ofK FD__law_label), m__law_labelG, FD__law_label.kp, b__law_label⟩
  have g__law_tree : DefAt (PySem.Challenge.rw_sheetmoot_k14_whole_rules_in_their_row).prog w K mg base 2 "_law_tree" ["_law_d", "_law_upto"] m__law_tree := ⟨_, fd__law_tree, ok__law_tree (fun_ofK FD__law_tree) z_max z_range g__law_label, m__law_treeG, FD__law_tree.kp, b__law_tree⟩
  have g__law_step : DefAt (PySem.Challenge.rw_sheetmoot_k14_whole_rules_in_their_row).prog w K mg base 1 "_law_step" ["_law_d", "_law_joint"] m__law_step := ⟨_, fd__law_step, ok__law_step (fun_ofK FD__law_step), m__law_stepG, FD__law_step.kp, b__law_step⟩
  have g__law_selector : DefAt (PySem.Challenge.rw_sheetmoot_k14_whole_rules_in_their_row).prog w K mg base 2 "_law_selector" ["_law_d"] m__law_selector := ⟨_, fd__law_selector, ok__law_selector (fun_ofK FD__law_selector) z_range z_tuple g__law_step, m__law_selectorG, FD__law_selector.kp, b__law_selector⟩
  have g__law_rule : DefAt (PySem.Challenge.rw_sheetmoot_k14_whole_rules_in_their_row).prog w K mg base 3 "_law_rule" ["_law_d"] m__law_rule := ⟨_, fd__law_rule, ok__law_rule (fun_ofK FD__law_rule) g__law_selector, m__law_ruleG, FD__law_rule.kp, b__law_rule⟩
  have g__law_sheet : DefAt (PySem.Challenge.rw_sheetmoot_k14_whole_rules_in_their_row).prog w K mg base 4 "_law_sheet" ["_law_d", "_law_upto"] m__law_sheet := ⟨_, fd__law_sheet, ok__law_sheet (fun_ofK FD__law_sheet) z_range g__law_rule, m__law_sheetG, FD__law_sheet.kp, b__law_sheet⟩
  have g__law_parent : DefAt (PySem.Challenge.rw_sheetmoot_k14_whole_rules_in_their_row).prog w K mg base 1 "_law_parent" ["_law_tree_here", "_law_at"] m__law_parent := ⟨_, fd__law_parent, ok__law_parent (fun_ofK FD__law_parent) z_range, m__law_parentG, FD__law_parent.kp, b__law_parent⟩
  have g__law_elders : DefAt (PySem.Challenge.rw_sheetmoot_k14_whole_rules_in_their_row).prog w K mg base 2 "_law_elders" ["_law_tree_here", "_law_at"] m__law_elders := ⟨_, fd__law_elders, ok__law_elders (fun_ofK FD__law_elders) z_range g__law_parent, m__law_eldersG, FD__law_elders.kp, b__law_elders⟩
  have g__law_asked : DefAt (PySem.Challenge.rw_sheetmoot_k14_whole_rules_in_their_row).prog w K mg base 3 "_law_asked" ["_law_step_here", "_law_tree_here", "_law_at"] m__law_asked := ⟨_, fd__law_asked, ok__law_asked (fun_ofK FD__law_asked) z_any g__law_elders, m__law_askedG, FD__law_asked.kp, b__law_asked⟩
  have g__law_forebears : DefAt (PySem.Challenge.rw_sheetmoot_k14_whole_rules_in_their_row).prog w K mg base 2 "_law_forebears" ["_law_tree_here", "_law_at"] m__law_forebears := ⟨_, fd__law_forebears, ok__law_forebears (fun_ofK FD__law_forebears) g__law_parent, m__law_forebearsG, FD__law_forebears.kp, b__law_forebears⟩
  have g__law_reach : DefAt (PySem.Challenge.rw_sheetmoot_k14_whole_rules_in_their_row).prog w K mg base 3 "_law_reach" ["_law_joint", "_law_tree_here", "_law_at"] m__law_reach := ⟨_, fd__law_reach, ok__law_reach (fun_ofK FD__law_reach) g__law_elders g__law_forebears, m__law_reachG, FD__law_reach.kp, b__law_reach⟩
  have g__law_met : DefAt (PySem.Challenge.rw_sheetmoot_k14_whole_rules_in_their_row).prog w K mg base 4 "_law_met" ["_law_selector_here", "_law_tree_here"] m__law_met := ⟨_, fd__law_met, ok__law_met (fun_ofK FD__law_met) z_len z_range g__law_asked g__law_reach, m__law_metG, FD__law_met.kp, b__law_met⟩
  have g__law_rank : DefAt (PySem.Challenge.rw_sheetmoot_k14_whole_rules_in_their_row).prog w K mg base 1 "_law_rank" ["_law_selector_here"] m__law_rank := ⟨_, fd__law_rank, ok__law_rank (fun_ofK FD__law_rank) z_int z_len z_sum, m__law_rankG, FD__law_rank.kp, b__law_rank⟩
  have g__law_order : DefAt (PySem.Challenge.rw_sheetmoot_k14_whole_rules_in_their_row).prog w K mg base 2 "_law_order" ["_law_sheet_here", "_law_places"] m__law_order := ⟨_, fd__law_order, ok__law_order (fun_ofK FD__law_order) z_int z_sorted g__law_rank, m__law_orderG, FD__law_order.kp, b__law_order⟩
  have g_look_step : DefAt (PySem.Challenge.rw_sheetmoot_k14_whole_rules_in_their_row).prog w K mg base 1 "look_step" ["step", "joints"] m_look_step := ⟨_, fd_look_step, ok_look_step (fun_ofK FD_look_step) z_list c_ANY c_KINDS c_MARKS, m_look_stepG, FD_look_step.kp, b_look_step⟩
  have g_look_selector : DefAt (PySem.Challenge.rw_sheetmoot_k14_whole_rules_in_their_row).prog w K mg base 2 "look_selector" ["selector"] m_look_selector := ⟨_, fd_look_selector, ok_look_selector (fun_ofK FD_look_selector) z_len z_tuple c_JOINTS c_MOST_STEPS g_look_step, m_look_selectorG, FD_look_selector.kp, b_look_selector⟩
  have g_look_rule : DefAt (PySem.Challenge.rw_sheetmoot_k14_whole_rules_in_their_row).prog w K mg base 3 "look_rule" ["rule"] m_look_rule := ⟨_, fd_look_rule, ok_look_rule (fun_ofK FD_look_rule) z_isinstance z_str c_MOST_VALUE c_NAMES c_WORDS g_look_selector, m_look_ruleG, FD_look_rule.kp, b_look_rule⟩
  have g_look_sheet : DefAt (PySem.Challenge.rw_sheetmoot_k14_whole_rules_in_their_row).prog w K mg base 4 "look_sheet" ["sheet"] m_look_sheet := ⟨_, fd_look_sheet, ok_look_sheet (fun_ofK FD_look_sheet) z_len c_MOST_RULES g_look_rule, m_look_sheetG, FD_look_sheet.kp, b_look_sheet⟩
  have g_look_tree : DefAt (PySem.Challenge.rw_sheetmoot_k14_whole_rules_in_their_row).prog w K mg base 1 "look_tree" ["tree"] m_look_tree := ⟨_, fd_look_tree, ok_look_tree (fun_ofK FD_look_tree) z_enumerate z_len c_LABELS c_MOST_PARTS, m_look_treeG, FD_look_tree.kp, b_look_tree⟩
  have g_look_part : DefAt (PySem.Challenge.rw_sheetmoot_k14_whole_rules_in_their_row).prog w K mg base 2 "look_part" ["tree", "at"] m_look_part := ⟨_, fd_look_part, ok_look_part (fun_ofK FD_look_part) z_len g_look_tree, m_look_partG, FD_look_part.kp, b_look_part⟩
  have g_elder_in : DefAt (PySem.Challenge.rw_sheetmoot_k14_whole_rules_in_their_row).prog w K mg base 1 "elder_in" ["tree", "at"] m_elder_in := ⟨_, fd_elder_in, ok_elder_in (fun_ofK FD_elder_in) z_range, m_elder_inG, FD_elder_in.kp, b_elder_in⟩
  have g_kind_of : DefAt (PySem.Challenge.rw_sheetmoot_k14_whole_rules_in_their_row).prog w K mg base 1 "kind_of" ["label"] m_kind_of := ⟨_, fd_kind_of, ok_kind_of (fun_ofK FD_kind_of), m_kind_ofG, FD_kind_of.kp, b_kind_of⟩
  have g_marks_of : DefAt (PySem.Challenge.rw_sheetmoot_k14_whole_rules_in_their_row).prog w K mg base 1 "marks_of" ["label"] m_marks_of := ⟨_, fd_marks_of, ok_marks_of (fun_ofK FD_marks_of), m_marks_ofG, FD_marks_of.kp, b_marks_of⟩
  have g_fits : DefAt (PySem.Challenge.rw_sheetmoot_k14_whole_rules_in_their_row).prog w K mg base 2 "fits" ["step", "label", "first"] m_fits := ⟨_, fd_fits, ok_fits (fun_ofK FD_fits) z_all c_ANY g_kind_of g_marks_of, m_fitsG, FD_fits.kp, b_fits⟩
  have g_parent_in : DefAt (PySem.Challenge.rw_sheetmoot_k14_whole_rules_in_their_row).prog w K mg base 1 "parent_in" ["tree", "at"] m_parent_in := ⟨_, fd_parent_in, ok_parent_in (fun_ofK FD_parent_in) z_range, m_parent_inG, FD_parent_in.kp, b_parent_in⟩
  have g_nearest : DefAt (PySem.Challenge.rw_sheetmoot_k14_whole_rules_in_their_row).prog w K mg base 2 "nearest" ["tree", "at", "joint"] m_nearest := ⟨_, fd_nearest, ok_nearest (fun_ofK FD_nearest) g_elder_in g_parent_in, m_nearestG, FD_nearest.kp, b_nearest⟩
  have FA_met_in : ∀ n, FnD (PySem.Challenge.rw_sheetmoot_k14_whole_rules_in_their_row).prog w K mg base (n + 2) (He.fAd K ("met_in", none)) fd_met_in ["selector", "tree", "at"] (m_met_in n) := by
    intro n
    induction n with
    | zero => exact fnd_stuck fun ds => rfl
    | succ n ih => exact ok_met_in (fun_ofK FD_met_in) z_tuple g_elder_in g_fits g_nearest ⟨_, fd_met_in, ih, m_met_inG, FD_met_in.kp, b_met_in⟩
  have g_met_in : DefAt (PySem.Challenge.rw_sheetmoot_k14_whole_rules_in_their_row).prog w K mg base 6 "met_in" ["selector", "tree", "at"] (m_met_in 3) := ⟨_, fd_met_in, (FA_met_in 3).mono (by decide), m_met_inG, FD_met_in.kp, b_met_in⟩
  have g_rank : DefAt (PySem.Challenge.rw_sheetmoot_k14_whole_rules_in_their_row).prog w K mg base 3 "rank" ["selector"] m_rank := ⟨_, fd_rank, ok_rank (fun_ofK FD_rank) z_int z_len z_sum c_ANY g_look_selector, m_rankG, FD_rank.kp, b_rank⟩
  have g_strength : DefAt (PySem.Challenge.rw_sheetmoot_k14_whole_rules_in_their_row).prog w K mg base 4 "strength" ["sheet", "place"] m_strength := ⟨_, fd_strength, ok_strength (fun_ofK FD_strength) z_int g_rank, m_strengthG, FD_strength.kp, b_strength⟩
  have g_ranked_in : DefAt (PySem.Challenge.rw_sheetmoot_k14_whole_rules_in_their_row).prog w K mg base 11 "ranked_in" ["sheet", "tree", "at", "name"] m_ranked_in := ⟨_, fd_ranked_in, ok_ranked_in (fun_ofK FD_ranked_in) (DL.code_of FD_ranked_in) (TBH (He.cT K (("ranked_in" : Str), none)) (List.mem_map_of_mem (f := He.cT K) (a := ((("ranked_in" : Str), none) : He.Defn)) (l := hdTf) (by decide))) (List.mem_map.mpr ⟨((("ranked_in" : Str), none) : He.Defn), by decide, rfl⟩) (fun q hq _ => by obtain ⟨z, hz, rfl⟩ := List.mem_map.mp hq; rw [List.mem_singleton.mp hz]; rfl) z_len z_range z_sorted g_met_in g_strength, m_ranked_inG, FD_ranked_in.kp, b_ranked_in⟩
  have g_ranked : DefAt (PySem.Challenge.rw_sheetmoot_k14_whole_rules_in_their_row).prog w K mg base 12 "ranked" ["sheet", "tree", "at", "name"] m_ranked := ⟨_, fd_ranked, ok_ranked (fun_ofK FD_ranked) c_NAMES g_look_part g_look_sheet g_ranked_in, m_rankedG, FD_ranked.kp, b_ranked⟩
  have FA__law_same : ∀ n, FnD (PySem.Challenge.rw_sheetmoot_k14_whole_rules_in_their_row).prog w K mg base (n + 0) (He.fAd K ("_law_same", none)) fd__law_same ["_law_found", "_law_due"] (m__law_same n) := by
    intro n
    induction n with
    | zero => exact fnd_stuck fun ds => rfl
    | succ n ih => exact ok__law_same (fun_ofK FD__law_same) z_all z_bool z_int z_isinstance z_len z_list z_range z_str z_tuple ⟨_, fd__law_same, ih, m__law_sameG, FD__law_same.kp, b__law_same⟩
  have g__law_same : DefAt (PySem.Challenge.rw_sheetmoot_k14_whole_rules_in_their_row).prog w K mg base 10 "_law_same" ["_law_found", "_law_due"] (m__law_same 9) := ⟨_, fd__law_same, (FA__law_same 9).mono (by decide), m__law_sameG, FD__law_same.kp, b__law_same⟩
  exact ok_law (fun_ofK FD_law) z_len z_list z_range g__law_met g__law_numbers g__law_order g__law_same g__law_sheet g__law_tree g_ranked
end Lw
open PySem PySem.W PySem.Calls PyProof.Rows
theorem PySem.Challenge.cw_sheetmoot_k14_whole_rules_in_their_row_holds : PySem.Challenge.rw_sheetmoot_k14_whole_rules_in_their_row.Holds := by
  w_on; o_law
  refine HandSHeadRun.head_any (r := Lw.hdRow) (q := view Lw.hdRow.prog [59]) (H := Lw.hdHk) (ob := Lw.hdOb) (M := 4000) (loose := Lw.hdLoose) (d := HandSHeadRun.topDef Lw.hdRow.prog 59) (kwd := []) Lw.hdOb_eq
    (by kernel_rfl) (fun s => by kernel_rfl) Lw.hdRun (by kernel_rfl) (by kernel_rfl) (by kernel_rfl) (by rfl) (by first | assumption | decide +kernel) (by decide +kernel) ⟨rfl, rfl, rfl, rfl, rfl, by decide +kernel⟩ ?hw ?hc
  case hw => w_witness2
  case hc =>
    refine LamX.walk_ofTsE (l := PySem.Challenge.rw_sheetmoot_k14_whole_rules_in_their_row) (n := 63) (k := 13) (x := "_law_script") (CX := fun w => L2.CX (PySem.Challenge.rw_sheetmoot_k14_whole_rules_in_their_row).prog w) rfl (by decide) (by kernel_rfl) ⟨rfl, by decide, by decide⟩ ?FF (fun w H s e s' z => ?_)
    · intro w mg fa h Y G hmg0
      obtain ⟨K, KX, c⟩ := Y
      have hmg : mg ("law" : PySem.Str) = some (.ref fa) := by
        have e : (HandSHeadRun.topDef Lw.hdRow.prog 59).name = ("law" : PySem.Str) := by kernel_rfl
        rw [← e]
        exact hmg0
      obtain ⟨fd, hb, hF⟩ := Lw.hdFacts (w := w) KX G hmg c
      letI : DL.Tb := Lw.hdTb K
      refine ⟨K, KX, fd, Lw.hdTf.map (He.cT K), DL.spD K mg Lw.m_law_k14, fun p hp => ?_, fun p hp => ?_, fun p hp => ?_, hb, fun H a ns hl _ hH hS => DL.law_sp (Lw.law_k14_holds hl) hS (fun p hp => ?_), hF⟩
      · obtain ⟨q, hq, rfl⟩ := List.mem_map.mp hp
        exact c.empty q hq
      · obtain ⟨q, hq, rfl⟩ := List.mem_map.mp hp
        exact c.out q hq
      · obtain ⟨q, hq, rfl⟩ := List.mem_map.mp hp
        exact PySem.W.codeHd_of_K KX (c.hd q hq)
      · obtain ⟨q, hq, rfl⟩ := List.mem_map.mp hp
        exact LamX.TabS.nil (hH _ (List.mem_map_of_mem (f := He.cT K) hq))
    · obtain ⟨_, _, _, _, _, _, _, _, _, _, _, _, z⟩ := z
      exact z
