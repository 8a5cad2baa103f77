import PyProof.Rows.All
import Wide.All
import OpenK.AllK
import Wide.FinOn
import PyProof.EqAt
import PyProof.EqKinds
import PyProof.TupleCall
import HandS.ForMost
import HandS.Exc
import HandS.ExcOwn
import HandS.WordsExc
import HandS.CallSlots
import HandS.Walk
import HandS.Defaults
import KE.DataEq
import KE.DataCmp
import KE.SortData
import HandS.Deep
import HandS.TupMul
import HandS.TupAny
import HandS.Wide
import HandS.Style
import HandS.TupLe
import HandS.TupLen
import HandS.Text
import HandS.IsInst
import KE.GoesNew
import KE.GoesMore
import KE.GoesEnum
import HandS.Zip
import HandS.SetFor
import HandS.WordsDict
import HandS.Small
import HandS.Flow
import HandS.Conv
import KE.KDictPairs
import KE.KDictCopyH
import HandS.TupSets
import HandS.Strs
import KE.DataMinMax
import KE.DataFind
import HandS.ExcIs
import PyProof.Rows.TupDisplay
import HandS.Rev
import HandS.HeadHook4
import HandS.HeadEnd
import HandS.Head0
import HandS.Head1
import HandS.Head2
import PySem.Challenge.RW_eachjustonce_k03_main_stretches
section
section
set_option Elab.async false
set_option linter.all false
set_option maxRecDepth 100000
set_option maxHeartbeats 4000000
/-! E0: a value domain of our own over HandS's abstract heap, environments of slots, what holds of a state. -/
namespace E2
open PySem PySem.Spec PyProof.Rows L2

/-- data -/
inductive Dt where
  | non | bl (b : Bool) | int (i : Int) | str (s : Str) | tup (xs : List Dt) | lst (xs : List Dt) | dct (ks vs : List Dt) | fn (x : Str)

def keyD : Key → Dt
  | .inl i => .int i
  | .inr x => .str x

/-- a dict of the keys ks, the values xs, by what it is read as -/
def DcA (rd : HO → Prop) (ks : List Dt) (xs : List V) : Prop :=
  (∃ kvs : List (List Key × V), rd (.dT kvs) ∧ ks = kvs.map (fun p => .tup (p.1.map keyD)) ∧ xs = kvs.map (·.2) ∧ (kvs.map (·.1)).Nodup) ∨
  (∃ kvs : List (Key × V), rd (.dK kvs) ∧ ks = kvs.map (fun p => keyD p.1) ∧ xs = kvs.map (·.2) ∧ (kvs.map (·.1)).Nodup)

mutual
/-- the value v stands for d, all that it reaches within G -/
inductive Rp (K : PySem.W.Frag) (mg : Str → Option Value) (G : Hp) : V → Dt → Prop
  | non : Rp K mg G .non .non
  | bl (b : Bool) : Rp K mg G (.bl b) (.bl b)
  | int (i : Int) : Rp K mg G (.int i) (.int i)
  | str (x : Str) : Rp K mg G (.str x) (.str x)
  | fn {f : Addr} {x : Str} : mg x = some (.ref f) → Rp K mg G (.ref f) (.fn x)
  | tup {a : Addr} {xs : List V} {ds : List Dt} : G a = some (.tup xs) → RpAll K mg G xs ds → Rp K mg G (.ref a) (.tup ds)
  | lst {a : Addr} {xs : List V} {ds : List Dt} : Rd G a (.lst xs) → RpAll K mg G xs ds → Rp K mg G (.ref a) (.lst ds)
  | dct {a : Addr} {ks : List Dt} {xs : List V} {vs : List Dt} : DcA (Rd G a) ks xs → RpAll K mg G xs vs → Rp K mg G (.ref a) (.dct ks vs)
inductive RpAll (K : PySem.W.Frag) (mg : Str → Option Value) (G : Hp) : List V → List Dt → Prop
  | nil : RpAll K mg G [] []
  | cons {v : V} {vs : List V} {d : Dt} {ds : List Dt} : Rp K mg G v d → RpAll K mg G vs ds → RpAll K mg G (v :: vs) (d :: ds)
end

/-- G's objects as they stand in H, maybe locked -/
def Le (G H : Hp) : Prop := ∀ a o, G a = some o → H a = some o ∨ ∃ ob, H a = some (.frz ob o) ∧ Mut (some o)
theorem Le.refl (G : Hp) : Le G G := fun _ _ h => .inl h
theorem rd_le {G H : Hp} {a : Addr} {u : HO} (l : Le G H) (hu : ∀ o w, u ≠ .frz o w) (h : Rd G a u) : Rd H a u := by
  rcases h with h | ⟨o, h⟩
  · rcases l _ _ h with h | ⟨ob, h, _⟩
    · exact .inl h
    · exact .inr ⟨ob, h⟩
  · rcases l _ _ h with h | ⟨ob, _, m⟩
    · exact .inr ⟨o, h⟩
    · exact m.elim
section
variable {K : PySem.W.Frag} {mg : Str → Option Value} {G G' H : Hp}
theorem rdL_le {a : Addr} {xs : List V} (l : Le G H) (h : Rd G a (.lst xs)) : Rd H a (.lst xs) := rd_le l (fun _ _ e => nomatch e) h
theorem tup_le {a : Addr} {xs : List V} (l : Le G H) (h : G a = some (.tup xs)) : H a = some (.tup xs) := by
  rcases l _ _ h with h | ⟨_, _, m⟩
  · exact h
  · exact m.elim
theorem sqL_le {a : Addr} {xs : List V} (l : Le G H) (h : SqL K G a xs) : SqL K H a xs := by
  rcases h with h | h
  · exact .inl (rd_le l (fun _ _ e => nomatch e) h)
  · exact .inr h
theorem sqT_le {a : Addr} {xs : List V} (l : Le G H) (h : SqT K G a xs) : SqT K H a xs := by
  rcases h with h | h
  · exact .inl (rd_le l (fun _ _ e => nomatch e) h)
  · exact .inr h
theorem dcA_le {a : Addr} {ks : List Dt} {xs : List V} (l : Le G H) (h : DcA (Rd G a) ks xs) : DcA (Rd H a) ks xs := by
  rcases h with ⟨kvs, h, e⟩ | ⟨kvs, h, e⟩
  · exact .inl ⟨kvs, rd_le l (fun _ _ e => nomatch e) h, e⟩
  · exact .inr ⟨kvs, rd_le l (fun _ _ e => nomatch e) h, e⟩
mutual
theorem Rp.le (l : Le G H) : ∀ {v : V} {d : Dt}, Rp K mg G v d → Rp K mg H v d
  | _, _, .non => .non
  | _, _, .bl b => .bl b
  | _, _, .int i => .int i
  | _, _, .str x => .str x
  | _, _, .fn h => .fn h
  | _, _, .tup h r => .tup (tup_le l h) (RpAll.le l r)
  | _, _, .lst h r => .lst (rdL_le l h) (RpAll.le l r)
  | _, _, .dct h r => .dct (dcA_le l h) (RpAll.le l r)
theorem RpAll.le (l : Le G H) : ∀ {vs : List V} {ds : List Dt}, RpAll K mg G vs ds → RpAll K mg H vs ds
  | _, _, .nil => .nil
  | _, _, .cons h r => .cons (Rp.le l h) (RpAll.le l r)
end
/-- G grows -/
def Sub (G G' : Hp) : Prop := Le G G'
theorem Sub.le (s : Sub G G') : Le G G' := s
theorem Sub.refl (G : Hp) : Sub G G := Le.refl G
theorem Le.trans {G1 G2 G3 : Hp} (a : Le G1 G2) (b : Le G2 G3) : Le G1 G3 := fun x o h => by
  rcases a x o h with z | ⟨ob, z, m⟩
  · exact b x o z
  · rcases b x _ z with y | ⟨_, _, m2⟩
    · exact .inr ⟨ob, y, m⟩
    · exact m2.elim
theorem Sub.trans {G1 G2 G3 : Hp} (a : Sub G1 G2) (b : Sub G2 G3) : Sub G1 G3 := Le.trans a b
theorem Le.get {G1 G2 : Hp} (a : Le G1 G2) {x : Addr} {o : HO} (h : G1 x = some o) : ∃ o', G2 x = some o' := by
  rcases a x o h with z | ⟨ob, z, _⟩
  · exact ⟨_, z⟩
  · exact ⟨_, z⟩
theorem RpAll.length : ∀ {vs : List V} {ds : List Dt}, RpAll K mg G vs ds → vs.length = ds.length
  | _, _, .nil => rfl
  | _, _, .cons _ r => congrArg (· + 1) (RpAll.length r)
theorem RpAll.get : ∀ {vs : List V} {ds : List Dt} {i : Nat} {d : Dt}, RpAll K mg G vs ds → ds[i]? = some d → ∃ v, vs[i]? = some v ∧ Rp K mg G v d
  | _, _, _, _, .nil, h => by simp at h
  | _, _, 0, _, .cons r _, h => by simp at h; subst h; exact ⟨_, rfl, r⟩
  | _, _, i + 1, d, .cons _ r, h => by
    obtain ⟨v, h1, h2⟩ := RpAll.get (i := i) (d := d) r (by simpa using h)
    exact ⟨v, by simpa using h1, h2⟩
theorem RpAll.getV : ∀ {vs : List V} {ds : List Dt} {i : Nat} {v : V}, RpAll K mg G vs ds → vs[i]? = some v → ∃ d, ds[i]? = some d ∧ Rp K mg G v d
  | _, _, _, _, .nil, h => by simp at h
  | _, _, 0, _, .cons r _, h => by simp at h; subst h; exact ⟨_, rfl, r⟩
  | _, _, i + 1, v, .cons _ r, h => by
    obtain ⟨d, h1, h2⟩ := RpAll.getV (i := i) (v := v) r (by simpa using h)
    exact ⟨d, by simpa using h1, h2⟩
theorem RpAll.append : ∀ {vs ws : List V} {ds es : List Dt}, RpAll K mg G vs ds → RpAll K mg G ws es → RpAll K mg G (vs ++ ws) (ds ++ es)
  | _, _, _, _, .nil, s => s
  | _, _, _, _, .cons h r, s => .cons h (RpAll.append r s)
theorem RpAll.one {v : V} {d : Dt} (h : Rp K mg G v d) : RpAll K mg G [v] [d] := .cons h .nil
theorem RpAll.take : ∀ {vs : List V} {ds : List Dt} (n : Nat), RpAll K mg G vs ds → RpAll K mg G (vs.take n) (ds.take n)
  | _, _, 0, _ => .nil
  | _, _, _ + 1, .nil => .nil
  | _, _, n + 1, .cons h r => .cons h (RpAll.take n r)
theorem RpAll.drop : ∀ {vs : List V} {ds : List Dt} (n : Nat), RpAll K mg G vs ds → RpAll K mg G (vs.drop n) (ds.drop n)
  | _, _, 0, r => r
  | _, _, _ + 1, .nil => .nil
  | _, _, n + 1, .cons _ r => RpAll.drop n r
theorem RpAll.reverse : ∀ {vs : List V} {ds : List Dt}, RpAll K mg G vs ds → RpAll K mg G vs.reverse ds.reverse
  | _, _, .nil => .nil
  | _, _, .cons h r => by
    rw [List.reverse_cons, List.reverse_cons]
    exact (RpAll.reverse r).append (.one h)
theorem RpAll.set {v : V} {d : Dt} (h : Rp K mg G v d) : ∀ {vs : List V} {ds : List Dt} (i : Nat), RpAll K mg G vs ds → RpAll K mg G (vs.set i v) (ds.set i d)
  | _, _, _, .nil => .nil
  | _, _, 0, .cons _ r => .cons h r
  | _, _, i + 1, .cons q r => .cons q (RpAll.set h i r)
end

/-! ### slots -/
inductive Slot where
  | dead
  /-- shared data: read only -/
  | sh (d : Dt)
  /-- an object that this slot alone holds: a list, a dict -/
  | ow (d : Dt)
abbrev Env := List Slot
def Slot.dt? : Slot → Option Dt
  | .dead => none
  | .sh d => some d
  | .ow d => some d

section
variable (K : PySem.W.Frag) (mg : Str → Option Value)
/-- the object at p alone is d, its items within G -/
def OwnP (G H : Hp) (p : Addr) : Dt → Prop
  | .lst ds => ∃ xs, H p = some (.lst xs) ∧ RpAll K mg G xs ds
  | .dct ks vs => ∃ xs, DcA (fun o => H p = some o) ks xs ∧ RpAll K mg G xs vs
  | _ => False
def SlotR (G H : Hp) (o : Option (Option V)) : Slot → Prop
  | .dead => True
  | .sh d => ∃ v, o = some (some v) ∧ Rp K mg G v d
  | .ow d => ∃ p, o = some (some (.ref p)) ∧ G p = none ∧ OwnP K mg G H p d
/-- the slot i owns p -/
def Ows (σ : L2.St) (ρ : Env) (i : Nat) (p : Addr) : Prop := (∃ d, ρ[i]? = some (.ow d)) ∧ σ[i]? = some (some (.ref p))
def Own (σ : L2.St) (ρ : Env) (p : Addr) : Prop := ∃ i, Ows σ ρ i p
structure Stt (G H : Hp) (σ : L2.St) (ρ : Env) : Prop where
  le : Le G H
  len : σ.length = ρ.length
  slot : ∀ (i : Nat) (s : Slot), ρ[i]? = some s → SlotR K mg G H σ[i]? s
  inj : ∀ (i j : Nat) (p : Addr), Ows σ ρ i p → Ows σ ρ j p → i = j
end
/-- no list, no dict stands there -/
def NoM (H : Hp) (b : Addr) : Prop := ∀ u, H b = some u → ¬ Mut (some u)
theorem noM_none {H : Hp} {b : Addr} (h : H b = none) : NoM H b := fun u e => by rw [h] at e; cases e
/-- what may have changed: P's objects; new ones -/
structure Ext (P : Addr → Prop) (G H G' H' : Hp) : Prop where
  /-- a dict that is shared may come to be locked: it stands still from then on -/
  keep : ∀ b o, H b = some o → ¬ P b → H' b = some o ∨ ((∃ g, G' b = some g) ∧ Mut (some o) ∧ ∃ ob, H' b = some (.frz ob o))
  sub : Sub G G'
  new : ∀ b o, G' b = some o → (∃ g, G b = some g) ∨ NoM H b ∨ P b

section
variable {K : PySem.W.Frag} {mg : Str → Option Value} {G H G' H' G1 H1 G2 H2 : Hp} {P P1 : Addr → Prop}
theorem Ext.refl (P : Addr → Prop) (G H : Hp) : Ext P G H G H := ⟨fun _ _ h _ => .inl h, Sub.refl G, fun _ _ h => .inl ⟨_, h⟩⟩
theorem Ext.trans (a : Ext P G H G1 H1) (b : Ext P1 G1 H1 G2 H2) (s : ∀ p, P1 p → P p ∨ H p = none) : Ext P G H G2 H2 where
  keep := fun x o h n => by
    have n1 : ¬ P1 x := fun q => by
      rcases s x q with z | z
      · exact n z
      · rw [z] at h; cases h
    rcases a.keep x o h n with z | ⟨⟨g, hg⟩, m, ob, z⟩
    · exact b.keep x o z n1
    · rcases b.keep x _ z n1 with y | ⟨_, m2, _⟩
      · exact .inr ⟨b.sub.le.get hg, m, ob, y⟩
      · exact m2.elim
  sub := a.sub.trans b.sub
  new := fun x o h => by
    rcases b.new x o h with z | z | z
    · obtain ⟨g, z⟩ := z
      exact a.new x g z
    · by_cases q : P x
      · exact .inr (.inr q)
      · refine Classical.byContradiction fun no => ?_
        refine no (.inr (.inl fun u e => ?_))
        rcases a.keep x u e q with y | ⟨⟨g, hg⟩, _, _, _⟩
        · exact z u y
        · exact (no (a.new x g hg)).elim
    · rcases s x z with z | z
      · exact .inr (.inr z)
      · exact .inr (.inl (noM_none z))
theorem Ext.mono (a : Ext P G H G1 H1) (s : ∀ p, P p → P1 p) : Ext P1 G H G1 H1 :=
  ⟨fun x o h n => a.keep x o h fun q => n (s x q), a.sub, fun x o h => (a.new x o h).imp id fun z => z.imp id (s x)⟩
/-- a thing not in G stays out -/
theorem Ext.out (a : Ext P G H G1 H1) {p : Addr} {o : HO} (g : G p = none) (h : H p = some o) (m : Mut (some o)) (n : ¬ P p) : G1 p = none := by
  cases e : G1 p with
  | none => rfl
  | some u =>
    rcases a.new p u e with ⟨_, z⟩ | z | z
    · rw [g] at z; cases z
    · exact absurd m (z o h)
    · exact absurd z n
/-- back from a fresh p -/
theorem Ext.fresh (a : Ext P G H G1 H1) {p : Addr} (h : H1 p = none) : H p = none ∨ P p := by
  cases e : H p with
  | none => exact .inl rfl
  | some u =>
    by_cases q : P p
    · exact .inr q
    · rcases a.keep p u e q with z | ⟨_, _, _, z⟩ <;> (rw [z] at h; cases h)
/-- what is not shared stands as it stood -/
theorem Ext.keepO (a : Ext P G H G1 H1) {p : Addr} {o : HO} (g : G p = none) (h : H p = some o) (m : Mut (some o)) (n : ¬ P p) : H1 p = some o := by
  rcases a.keep p o h n with z | ⟨⟨u, hu⟩, _, _, _⟩
  · exact z
  · rcases a.new p u hu with ⟨_, z⟩ | z | z
    · rw [g] at z; cases z
    · exact absurd m (z o h)
    · exact absurd z n
theorem OwnP.get {p : Addr} {d : Dt} (h : OwnP K mg G H p d) : ∃ o, H p = some o ∧ Mut (some o) := by
  cases d with
  | lst ds => obtain ⟨xs, h, _⟩ := h; exact ⟨_, h, trivial⟩
  | dct ks vs =>
    obtain ⟨xs, h, _⟩ := h
    rcases h with ⟨kvs, h, _⟩ | ⟨kvs, h, _⟩
    · exact ⟨_, h, trivial⟩
    · exact ⟨_, h, trivial⟩
  | _ => exact h.elim
theorem OwnP.ext {p : Addr} {d : Dt} (h : OwnP K mg G H p d) (a : Ext P G H G1 H1) (g : G p = none) (n : ¬ P p) : OwnP K mg G1 H1 p d := by
  cases d with
  | lst ds => obtain ⟨xs, h, r⟩ := h; exact ⟨xs, a.keepO g h trivial n, r.le a.sub.le⟩
  | dct ks vs =>
    obtain ⟨xs, h, r⟩ := h
    refine ⟨xs, ?_, r.le a.sub.le⟩
    rcases h with ⟨kvs, h, e⟩ | ⟨kvs, h, e⟩
    · exact .inl ⟨kvs, a.keepO g h trivial n, e⟩
    · exact .inr ⟨kvs, a.keepO g h trivial n, e⟩
  | _ => exact h.elim
theorem OwnP.sub {p : Addr} {d : Dt} (h : OwnP K mg G H p d) (s : Sub G G1) (e : H1 p = H p) : OwnP K mg G1 H1 p d := by
  cases d with
  | lst ds => obtain ⟨xs, h, r⟩ := h; exact ⟨xs, e.trans h, r.le s.le⟩
  | dct ks vs =>
    obtain ⟨xs, h, r⟩ := h
    refine ⟨xs, ?_, r.le s.le⟩
    rcases h with ⟨kvs, h, q⟩ | ⟨kvs, h, q⟩
    · exact .inl ⟨kvs, e.trans h, q⟩
    · exact .inr ⟨kvs, e.trans h, q⟩
  | _ => exact h.elim
/-- an owned object let into G -/
theorem OwnP.rp {p : Addr} {d : Dt} (h : OwnP K mg G H p d) (gp : G p = none) : ∃ o, H p = some o ∧ Mut (some o) ∧ Rp K mg (upd G p o) (.ref p) d := by
  have sb : ∀ o, Sub G (upd G p o) := fun o b u e => .inl (by rw [upd_ne (ne_of_none e gp)]; exact e)
  cases d with
  | lst ds => obtain ⟨xs, h, r⟩ := h; exact ⟨_, h, trivial, .lst (.inl upd_same) (r.le (sb _).le)⟩
  | dct ks vs =>
    obtain ⟨xs, h, r⟩ := h
    rcases h with ⟨kvs, h, q⟩ | ⟨kvs, h, q⟩
    · exact ⟨_, h, trivial, .dct (.inl ⟨kvs, .inl upd_same, q⟩) (r.le (sb _).le)⟩
    · exact ⟨_, h, trivial, .dct (.inr ⟨kvs, .inl upd_same, q⟩) (r.le (sb _).le)⟩
  | _ => exact h.elim
end
end E2
end

section
set_option Elab.async false
set_option linter.all false
set_option maxRecDepth 100000
set_option maxHeartbeats 4000000
/-! E1: outcomes, readings of expressions by functions of environments. -/
namespace E2
open PySem PySem.Spec PyProof.Rows L2
section
variable {K : PySem.W.Frag} {mg : Str → Option Value} {G G' H H' G1 H1 G2 H2 : Hp} {P P1 : Addr → Prop} {σ : L2.St} {ρ ρ' : Env}
theorem set_get {α : Type} {l : List α} {i j : Nat} {x y : α} (h : (l.set i x)[j]? = some y) : (i = j ∧ y = x) ∨ (i ≠ j ∧ l[j]? = some y) := by
  by_cases e : i = j
  · subst e
    have hl : i < l.length := by
      have := (List.getElem?_eq_some_iff.mp h).1
      simpa using this
    rw [List.getElem?_set_self hl] at h
    exact .inl ⟨rfl, (Option.some.inj h).symm⟩
  · rw [List.getElem?_set_ne e] at h
    exact .inr ⟨e, h⟩
theorem Ows.ref {i : Nat} {p : Addr} (h : Ows σ ρ i p) : σ[i]? = some (some (.ref p)) := h.2
theorem Own.of_set_dead {i : Nat} {p : Addr} (h : Own σ (ρ.set i .dead) p) : Own σ ρ p := by
  obtain ⟨j, ⟨d, hd⟩, e⟩ := h
  rcases set_get hd with ⟨_, z⟩ | ⟨_, z⟩
  · cases z
  · exact ⟨j, ⟨d, z⟩, e⟩
theorem Own.of_set_sh {i : Nat} {p : Addr} {u : Dt} (h : Own σ (ρ.set i (.sh u)) p) : Own σ ρ p := by
  obtain ⟨j, ⟨d, hd⟩, e⟩ := h
  rcases set_get hd with ⟨_, z⟩ | ⟨_, z⟩
  · cases z
  · exact ⟨j, ⟨d, z⟩, e⟩
theorem Stt.dead (s : Stt K mg G H σ ρ) (i : Nat) : Stt K mg G H σ (ρ.set i .dead) where
  le := s.le
  len := by rw [List.length_set]; exact s.len
  slot := fun j u h => by
    rcases set_get h with ⟨_, rfl⟩ | ⟨_, z⟩
    · trivial
    · exact s.slot j u z
  inj := fun a b p h1 h2 => by
    obtain ⟨⟨d1, e1⟩, r1⟩ := h1
    obtain ⟨⟨d2, e2⟩, r2⟩ := h2
    rcases set_get e1 with ⟨_, z⟩ | ⟨_, z1⟩
    · cases z
    · rcases set_get e2 with ⟨_, z⟩ | ⟨_, z2⟩
      · cases z
      · exact s.inj a b p ⟨⟨d1, z1⟩, r1⟩ ⟨⟨d2, z2⟩, r2⟩
theorem slotR_upd {o : Option (Option V)} {u : Slot} {p : Addr} {ob : HO} (gp : G p = none) (h : SlotR K mg G H o u) (hp : ∀ d, u = .ow d → o ≠ some (some (.ref p))) : SlotR K mg (upd G p ob) H o u := by
  have sb : Sub G (upd G p ob) := fun b u e => .inl (by rw [upd_ne (ne_of_none e gp)]; exact e)
  cases u with
  | dead => trivial
  | sh d => obtain ⟨v, e, r⟩ := h; exact ⟨v, e, r.le sb.le⟩
  | ow d =>
    obtain ⟨q, e, g, r⟩ := h
    have hq : q ≠ p := fun z => hp d rfl (by rw [e, z])
    exact ⟨q, e, by rw [upd_ne hq]; exact g, r.sub sb rfl⟩
/-- an object that no slot owns is let into G -/
theorem Stt.addG (s : Stt K mg G H σ ρ) {p : Addr} {o : HO} (gp : G p = none) (hp : H p = some o) (no : ¬ Own σ ρ p) : Stt K mg (upd G p o) H σ ρ where
  le := fun a u e => by
    by_cases q : a = p
    · subst q; rw [upd_same] at e; cases e; exact .inl hp
    · rw [upd_ne q] at e; exact s.le a u e
  len := s.len
  slot := fun j u h => slotR_upd gp (s.slot j u h) fun d e z => no ⟨j, ⟨d, e ▸ h⟩, z⟩
  inj := s.inj
/-- an owned object is let into G: its slot shares it -/
theorem Stt.freeze (s : Stt K mg G H σ ρ) {i : Nat} {d : Dt} (h : ρ[i]? = some (.ow d)) : ∃ G' v, Ext (Own σ ρ) G H G' H ∧ Stt K mg G' H σ (ρ.set i (.sh d)) ∧ σ[i]? = some (some v) ∧ Rp K mg G' v d := by
  obtain ⟨p, e, gp, ow⟩ := s.slot i _ h
  obtain ⟨o, hp, m, r⟩ := ow.rp gp
  have sb : Sub G (upd G p o) := fun b u e => .inl (by rw [upd_ne (ne_of_none e gp)]; exact e)
  have own : Own σ ρ p := ⟨i, ⟨d, h⟩, e⟩
  have no : ¬ Own σ (ρ.set i .dead) p := fun ⟨j, ⟨d', hd⟩, e'⟩ => by
    rcases set_get hd with ⟨_, z⟩ | ⟨ne, z⟩
    · cases z
    · exact ne (s.inj i j p ⟨⟨d, h⟩, e⟩ ⟨⟨d', z⟩, e'⟩)
  have s2 := (s.dead i).addG gp hp no
  refine ⟨upd G p o, _, ⟨fun _ _ h _ => .inl h, sb, fun b u z => ?_⟩, ⟨s2.le, by rw [List.length_set]; exact s.len, fun j u hu => ?_, fun a b q h1 h2 => ?_⟩, e, r⟩
  · by_cases q : b = p
    · subst q; exact .inr (.inr own)
    · rw [upd_ne q] at z; exact .inl ⟨_, z⟩
  · rcases set_get hu with ⟨z, rfl⟩ | ⟨ne, z⟩
    · subst z; exact ⟨_, e, r⟩
    · exact s2.slot j u (by rw [List.getElem?_set_ne ne]; exact z)
  · obtain ⟨⟨d1, e1⟩, r1⟩ := h1
    obtain ⟨⟨d2, e2⟩, r2⟩ := h2
    rcases set_get e1 with ⟨_, z⟩ | ⟨_, z1⟩
    · cases z
    · rcases set_get e2 with ⟨_, z⟩ | ⟨_, z2⟩
      · cases z
      · exact s.inj a b q ⟨⟨d1, z1⟩, r1⟩ ⟨⟨d2, z2⟩, r2⟩
end

/-! ### outcomes -/
inductive R (α : Type) where
  | ok (a : α)
  /-- an exception of the text's class x with its fields -/
  | err (x : Str) (fs : List (Str × Dt)) (ρ : Env)
  /-- what this layer does not tell -/
  | bad
def R.bind {α β : Type} : R (α × Env) → (α → Env → R (β × Env)) → R (β × Env)
  | .ok (a, ρ), g => g a ρ
  | .err x fs ρ, _ => .err x fs ρ
  | .bad, _ => .bad
def R.map {α β : Type} (g : α → β) : R (α × Env) → R (β × Env)
  | .ok (a, ρ) => .ok (g a, ρ)
  | .err x fs ρ => .err x fs ρ
  | .bad => .bad

section
variable (K : PySem.W.Frag) (mg : Str → Option Value)
def FldOk (G H : Hp) (dd : Option Addr) : List (Str × Dt) → Prop
  | [] => dd = none
  | fs => ∃ d xs, dd = some d ∧ H d = some (.xd ((fs.map (·.1)).zip xs)) ∧ RpAll K mg G xs (fs.map (·.2))
def ErrW (W : WX) (P : Addr → Prop) (G H : Hp) (σ : L2.St) (x : Str) (fs : List (Str × Dt)) (ρ' : Env) : Prop :=
  ∀ (C : Addr) (dd : Option Addr) (G' H' : Hp), mg x = some (.ref C) → Ext P G H G' H' → Stt K mg G' H' σ ρ' → (∀ p, Own σ ρ' p → P p) → FldOk K mg G' H' dd fs → W (.ref C) dd σ H'
/-- what an outcome asks -/
def Pst (W : WX) (P : Addr → Prop) (G H : Hp) (σ : L2.St) {α : Type} (out : R (α × Env)) (k : α → Env → Hp → Hp → Prop) : Prop :=
  match out with
  | .ok (a, ρ') => ∀ G' H', Ext P G H G' H' → Stt K mg G' H' σ ρ' → (∀ p, Own σ ρ' p → P p) → k a ρ' G' H'
  | .err x fs ρ' => ErrW K mg W P G H σ x fs ρ'
  | .bad => False
/-- a value that comes back: shared data, or a new object that nobody holds -/
def VR (P : Addr → Prop) (H : Hp) (G' H' : Hp) (σ : L2.St) (ρ' : Env) (v : V) : Slot → Prop
  | .dead => False
  | .sh d => Rp K mg G' v d
  | .ow d => ∃ p, v = .ref p ∧ G' p = none ∧ ¬ Own σ ρ' p ∧ OwnP K mg G' H' p d ∧ (H p = none ∨ P p)
abbrev EV := Env → R (Slot × Env)
abbrev EE := Env → R (Dt × Env)
def tV (W : WX) (f : EV) : TE := fun σ H Q => ∃ G ρ, Stt K mg G H σ ρ ∧ Pst K mg W (Own σ ρ) G H σ (f ρ) fun s ρ' G' H' => ∀ v, VR K mg (Own σ ρ) H G' H' σ ρ' v s → Q v H'
def tE (W : WX) (f : EE) : TE := fun σ H Q => ∃ G ρ, Stt K mg G H σ ρ ∧ Pst K mg W (Own σ ρ) G H σ (f ρ) fun d ρ' G' H' => ∀ v, Rp K mg G' v d → Q v H'
def tT (W : WX) (f : Env → R (Bool × Env)) : TT := fun σ H Q => ∃ G ρ, Stt K mg G H σ ρ ∧ Pst K mg W (Own σ ρ) G H σ (f ρ) fun b ρ' G' H' => Q b H'
end
section
variable {K : PySem.W.Frag} {mg : Str → Option Value} {G G' H H' G1 H1 G2 H2 : Hp} {P P1 : Addr → Prop} {σ : L2.St} {ρ ρ' : Env} {W : WX} {α β : Type}
theorem ErrW.ext {x : Str} {fs : List (Str × Dt)} (h : ErrW K mg W P G H σ x fs ρ') (e : Ext P G H G1 H1) (s : ∀ p, P1 p → P p) : ErrW K mg W P1 G1 H1 σ x fs ρ' :=
  fun C dd G' H' hm e' st o f => h C dd G' H' hm (e.trans e' fun p q => .inl (s p q)) st (fun p q => s p (o p q)) f
theorem Pst.ext {out : R (α × Env)} {k k' : α → Env → Hp → Hp → Prop} (h : Pst K mg W P G H σ out k) (e : Ext P G H G1 H1) (s : ∀ p, P1 p → P p)
    (hk : ∀ a ρ' G' H', Ext P1 G1 H1 G' H' → Stt K mg G' H' σ ρ' → (∀ p, Own σ ρ' p → P1 p) → k a ρ' G' H' → k' a ρ' G' H') : Pst K mg W P1 G1 H1 σ out k' := by
  cases out with
  | ok a => exact fun G' H' e' st o => hk _ _ _ _ e' st o (h G' H' (e.trans e' fun p q => .inl (s p q)) st fun p q => s p (o p q))
  | err x fs ρ' => exact ErrW.ext h e s
  | bad => exact h
theorem Pst.mono {out : R (α × Env)} {k k' : α → Env → Hp → Hp → Prop} (h : Pst K mg W P G H σ out k)
    (hk : ∀ a ρ' G' H', Ext P G H G' H' → Stt K mg G' H' σ ρ' → (∀ p, Own σ ρ' p → P p) → k a ρ' G' H' → k' a ρ' G' H') : Pst K mg W P G H σ out k' :=
  h.ext (Ext.refl P G H) (fun _ q => q) hk
/-- one after another -/
theorem Pst.bind {out : R (α × Env)} {g : α → Env → R (β × Env)} {k : β → Env → Hp → Hp → Prop} (h : Pst K mg W P G H σ (out.bind g) k) :
    Pst K mg W P G H σ out fun a ρ' G' H' => Ext P G H G' H' → Stt K mg G' H' σ ρ' → (∀ p, Own σ ρ' p → P p) → Pst K mg W (Own σ ρ') G' H' σ (g a ρ') k := by
  cases out with
  | ok a =>
    obtain ⟨a, ρ1⟩ := a
    intro G' H' e st o _ _ _
    have h : Pst K mg W P G H σ (g a ρ1) k := h
    exact h.ext e o fun _ _ _ _ _ _ _ z => z
  | err x fs ρ' => exact h
  | bad => exact h
theorem VR.weaken {P1 : Addr → Prop} {v : V} {s : Slot} (h : VR K mg P1 H1 G' H' σ ρ' v s) (e : ∀ p, (H1 p = none ∨ P1 p) → H p = none ∨ P p) : VR K mg P H G' H' σ ρ' v s := by
  cases s with
  | dead => exact h
  | sh d => exact h
  | ow d => obtain ⟨p, e1, e2, e3, e4, e5⟩ := h; exact ⟨p, e1, e2, e3, e4, e _ e5⟩
theorem Ext.back (e : Ext P G H G1 H1) (o : ∀ p, P1 p → P p) : ∀ p, (H1 p = none ∨ P1 p) → H p = none ∨ P p := fun p h => by
  rcases h with h | h
  · exact e.fresh h
  · exact .inr (o p h)
/-- pure data -/
theorem Pst.pure {a : α} {k : α → Env → Hp → Hp → Prop} (h : Pst K mg W (Own σ ρ) G H σ (.ok (a, ρ)) k) (s : Stt K mg G H σ ρ) : k a ρ G H := h G H (Ext.refl _ _ _) s fun _ q => q
theorem PE.imp {X : Cx} {e : Expr} {t t' : TE} (h : PE X e t) (i : ∀ σ H Q, t' σ H Q → t σ H Q) : PE X e t' := ⟨fun pins s σ H Q I q => h.run pins s σ H Q I (i σ H Q q)⟩
theorem PT.imp {X : Cx} {e : Expr} {t t' : TT} (h : PT X e t) (i : ∀ σ H Q, t' σ H Q → t σ H Q) : PT X e t' := ⟨fun pins s σ H Q I q => h.run pins s σ H Q I (i σ H Q q)⟩
theorem PA.imp {X : Cx} {es : List Expr} {t t' : TA} (h : PA X es t) (i : ∀ σ H Q, t' σ H Q → t σ H Q) : PA X es t' := ⟨fun pos pins s σ H Q I q => h.run pos pins s σ H Q I (i σ H Q q)⟩
theorem PS.imp {X : Cx} {st : Stmt} {t t' : TS} (h : PS X st t) (i : ∀ D σ H, t' D σ H → t D σ H) : PS X st t' := ⟨fun pins s σ H D I q => h.run pins s σ H D I (i D σ H q)⟩
theorem PSs.imp {X : Cx} {st : List Stmt} {t t' : TS} (h : PSs X st t) (i : ∀ D σ H, t' D σ H → t D σ H) : PSs X st t' := ⟨fun pins s σ H D I q => h.run pins s σ H D I (i D σ H q)⟩
theorem PI.imp {X : Cx} {tg e : Expr} {t t' : TI} (h : PI X tg e t) (i : ∀ σ H R, t' σ H R → t σ H R) : PI X tg e t' := ⟨fun pins s σ H R I q => h.run pins s σ H R I (i σ H R q)⟩

/-! ### shared results -/
def shr : Slot → Env → R (Dt × Env)
  | .dead, _ => .bad
  | .sh d, ρ => .ok (d, ρ)
  | .ow d, ρ => .ok (d, ρ)
def share (f : EV) : EE := fun ρ => (f ρ).bind shr
theorem pe_share {X : Cx} {e : Expr} {f : EV} (h : PE X e (tV X.K X.mg W f)) : PE X e (tE X.K X.mg W (share f)) := by
  refine PE.imp h fun σ H Q ⟨G, ρ, st, q⟩ => ⟨G, ρ, st, ?_⟩
  have q : Pst X.K X.mg W (Own σ ρ) G H σ ((f ρ).bind shr) fun d ρ' G' H' => ∀ v, Rp X.K X.mg G' v d → Q v H' := q
  generalize hf : f ρ = out at q ⊢
  cases out with
  | ok a =>
    obtain ⟨s, ρ'⟩ := a
    intro G' H' e st' o v hv
    cases s with
    | dead => exact hv.elim
    | sh d => exact q G' H' e st' o v hv
    | ow d =>
      obtain ⟨p, rfl, gp, no, ow, nw⟩ := hv
      obtain ⟨o1, hp, m, r⟩ := ow.rp gp
      have sb : Sub G' (upd G' p o1) := fun b u z => .inl (by rw [upd_ne (ne_of_none z gp)]; exact z)
      refine q (upd G' p o1) H' ⟨fun b o h n => (e.keep b o h n).imp id fun ⟨⟨g, hg⟩, m, z⟩ => ⟨sb.le.get hg, m, z⟩, e.sub.trans sb, fun b u z => ?_⟩ (st'.addG gp hp no) o _ r
      by_cases hb : b = p
      · subst hb; exact .inr (nw.imp noM_none id)
      · rw [upd_ne hb] at z; exact e.new b u z
  | err x fs ρ' => exact q
  | bad => exact q
end
end E2
end

section
set_option Elab.async false
set_option linter.all false
set_option maxRecDepth 100000
set_option maxHeartbeats 4000000
/-! E2: operands, arguments, operators and built-ins by values. -/
namespace E2
open PySem PySem.Spec PyProof.Rows L2
/-- a slot that is read, or a value -/
inductive Op where
  | sl (i : Nat)
  | ex (f : EE)
def Op.run : Op → Env → R (Option Dt × Env)
  | .sl i, ρ => match ρ[i]? with
    | some (.sh _) => .ok (none, ρ)
    | some (.ow _) => .ok (none, ρ)
    | _ => .bad
  | .ex f, ρ => (f ρ).map some
def Op.res : Op → Option Dt → Env → Option Dt
  | .sl i, _, ρ => ρ[i]?.bind Slot.dt?
  | .ex _, a, _ => a
def runOps : List Op → Env → R (List (Option Dt) × Env)
  | [], ρ => .ok ([], ρ)
  | o :: os, ρ => (o.run ρ).bind fun a ρ1 => (runOps os ρ1).map (a :: ·)
def resAll : List Op → List (Option Dt) → Env → Option (List Dt)
  | [], [], _ => some []
  | o :: os, a :: as, ρ => match o.res a ρ, resAll os as ρ with
    | some d, some ds => some (d :: ds)
    | _, _ => none
  | _, _, _ => none
section
variable (K : PySem.W.Frag) (mg : Str → Option Value)
def OpV (G : Hp) (σ : L2.St) : Op → Option Dt → V → Prop
  | .sl i, _, v => σ[i]? = some (some v)
  | .ex _, a, v => ∃ d, a = some d ∧ Rp K mg G v d
inductive OpVs (G : Hp) (σ : L2.St) : List Op → List (Option Dt) → List V → Prop
  | nil : OpVs G σ [] [] []
  | cons {o os a as v vs} : OpV K mg G σ o a v → OpVs G σ os as vs → OpVs G σ (o :: os) (a :: as) (v :: vs)
def tO (W : WX) (o : Op) : TE := fun σ H Q => ∃ G ρ, Stt K mg G H σ ρ ∧ Pst K mg W (Own σ ρ) G H σ (o.run ρ) fun a ρ' G' H' => ∀ v, OpV K mg G' σ o a v → Q v H'
def tOs (W : WX) (os : List Op) : TA := fun σ H Q => ∃ G ρ, Stt K mg G H σ ρ ∧ Pst K mg W (Own σ ρ) G H σ (runOps os ρ) fun as ρ' G' H' => ∀ vs, OpVs K mg G' σ os as vs → Q vs H'
/-- what may be read: shared data, or an owned object -/
def RpR (G H : Hp) (v : V) (d : Dt) : Prop := Rp K mg G v d ∨ ∃ p, v = .ref p ∧ G p = none ∧ OwnP K mg G H p d
inductive RpRs (G H : Hp) : List V → List Dt → Prop
  | nil : RpRs G H [] []
  | cons {v vs d ds} : RpR K mg G H v d → RpRs G H vs ds → RpRs G H (v :: vs) (d :: ds)
/-- a built-in's result -/
def VB (H G' H' : Hp) (v : V) : Slot → Prop
  | .dead => False
  | .sh d => Rp K mg G' v d
  | .ow d => ∃ p, v = .ref p ∧ G' p = none ∧ OwnP K mg G' H' p d ∧ H p = none
abbrev No : Addr → Prop := fun _ => False
def BOk (b : List Dt → Option Slot) (r : List V → Hp → VK → Prop) : Prop :=
  ∀ (G H : Hp) (vs : List V) (ds : List Dt) (Q : VK) (s : Slot), Le G H → RpRs K mg G H vs ds → b ds = some s →
    (∀ G' H' v, Ext No G H G' H' → Le G' H' → VB K mg H G' H' v s → Q v H') → r vs H Q
def BOk2 (b : Dt → Dt → Option Slot) (r : R2) : Prop :=
  ∀ (G H : Hp) (v w : V) (d e : Dt) (Q : VK) (s : Slot), Le G H → RpR K mg G H v d → RpR K mg G H w e → b d e = some s →
    (∀ G' H' v, Ext No G H G' H' → Le G' H' → VB K mg H G' H' v s → Q v H') → r v w H Q
def BOk1 (b : Dt → Option Slot) (r : V → Hp → VK → Prop) : Prop :=
  ∀ (G H : Hp) (v : V) (d : Dt) (Q : VK) (s : Slot), Le G H → RpR K mg G H v d → b d = some s →
    (∀ G' H' v, Ext No G H G' H' → Le G' H' → VB K mg H G' H' v s → Q v H') → r v H Q
end
section
variable {K : PySem.W.Frag} {mg : Str → Option Value} {G G' H H' G1 H1 G2 H2 : Hp} {P P1 : Addr → Prop} {σ : L2.St} {ρ ρ' : Env} {W : WX} {α β : Type}
theorem OpV.sub {o : Op} {a : Option Dt} {v : V} (h : OpV K mg G σ o a v) (s : Sub G G') : OpV K mg G' σ o a v := by
  cases o with
  | sl i => exact h
  | ex f => obtain ⟨d, e, r⟩ := h; exact ⟨d, e, r.le s.le⟩
theorem OpVs.sub (s : Sub G G') : ∀ {os : List Op} {as : List (Option Dt)} {vs : List V}, OpVs K mg G σ os as vs → OpVs K mg G' σ os as vs
  | _, _, _, .nil => .nil
  | _, _, _, .cons h r => .cons (h.sub s) (OpVs.sub s r)
theorem OpV.read {o : Op} {a : Option Dt} {v : V} {d : Dt} (h : OpV K mg G σ o a v) (s : Stt K mg G H σ ρ) (e : o.res a ρ = some d) : RpR K mg G H v d := by
  cases o with
  | ex f => obtain ⟨d', e', r⟩ := h; subst e'; cases e; exact .inl r
  | sl i =>
    have h : σ[i]? = some (some v) := h
    have e : ρ[i]?.bind Slot.dt? = some d := e
    cases q : ρ[i]? with
    | none => rw [q] at e; cases e
    | some u =>
      rw [q] at e
      have z := s.slot i u q
      rw [h] at z
      cases u with
      | dead => cases e
      | sh d' => cases e; obtain ⟨w, e1, r⟩ := z; cases e1; exact .inl r
      | ow d' => cases e; obtain ⟨p, e1, r⟩ := z; cases e1; exact .inr ⟨p, rfl, r⟩
theorem OpVs.read (s : Stt K mg G H σ ρ) : ∀ {os : List Op} {as : List (Option Dt)} {vs : List V} {ds : List Dt}, OpVs K mg G σ os as vs → resAll os as ρ = some ds → RpRs K mg G H vs ds
  | _, _, _, ds, .nil, e => by cases e; exact .nil
  | o :: os, a :: as, v :: vs, ds, .cons h r, e => by
    have e : (match o.res a ρ, resAll os as ρ with
      | some d, some ds => some (d :: ds)
      | _, _ => none) = some ds := e
    cases q : o.res a ρ with
    | none => rw [q] at e; cases e
    | some d =>
      cases q2 : resAll os as ρ with
      | none => rw [q, q2] at e; cases e
      | some ds2 => rw [q, q2] at e; cases e; exact .cons (h.read s q) (OpVs.read s r q2)
/-- nothing owned has changed -/
theorem Stt.ext0 (s : Stt K mg G H σ ρ) (e : Ext No G H G' H') (l : Le G' H') : Stt K mg G' H' σ ρ where
  le := l
  len := s.len
  slot := fun i u h => by
    have z := s.slot i u h
    cases u with
    | dead => trivial
    | sh d => obtain ⟨v, e1, r⟩ := z; exact ⟨v, e1, r.le e.sub.le⟩
    | ow d =>
      obtain ⟨p, e1, g, r⟩ := z
      obtain ⟨o, ho, hmu⟩ := r.get
      exact ⟨p, e1, e.out g ho hmu id, r.ext e g id⟩
  inj := s.inj
theorem Stt.own_some (s : Stt K mg G H σ ρ) {p : Addr} (h : Own σ ρ p) : ∃ o, H p = some o := by
  obtain ⟨i, ⟨d, hd⟩, e⟩ := h
  obtain ⟨q, e1, g, r⟩ := s.slot i _ hd
  rw [e] at e1; cases e1
  obtain ⟨o, ho, _⟩ := r.get
  exact ⟨o, ho⟩
theorem VB.vr {v : V} {s : Slot} (st : Stt K mg G H σ ρ) (h : VB K mg H G' H' v s) : VR K mg P H G' H' σ ρ v s := by
  cases s with
  | dead => exact h
  | sh d => exact h
  | ow d =>
    obtain ⟨p, e, g, o, n⟩ := h
    refine ⟨p, e, g, fun q => ?_, o, .inl n⟩
    obtain ⟨u, hu⟩ := st.own_some q
    rw [n] at hu; cases hu
theorem Ext.no (e : Ext No G H G' H') : Ext P G H G' H' := e.mono fun _ z => z.elim

/-! ### operands -/
theorem po_name {X : Cx} {i : Nat} {x : Str} {pos : Pos} (hN : X.N[i]? = some x) (hv : Vis X.env.scope x) (hd : (x == ("__debug__" : Str)) = false) (hcd : (x == ("__classdict__" : Str)) = false) :
    PE X (.Name x pos) (tO X.K X.mg W (.sl i)) := by
  refine PE.imp (pe_var hN hv hd hcd) fun σ H Q ⟨G, ρ, st, q⟩ => ?_
  have q : Pst X.K X.mg W (Own σ ρ) G H σ (match ρ[i]? with
    | some (.sh _) => .ok (none, ρ)
    | some (.ow _) => .ok (none, ρ)
    | _ => .bad) fun a ρ' G' H' => ∀ v, OpV X.K X.mg G' σ (.sl i) a v → Q v H' := q
  cases e : ρ[i]? with
  | none => rw [e] at q; exact q.elim
  | some u =>
    rw [e] at q
    have z := st.slot i u e
    cases u with
    | dead => exact q.elim
    | sh d => obtain ⟨v, e1, r⟩ := z; exact ⟨v, e1, (Pst.pure q st) v e1⟩
    | ow d => obtain ⟨p, e1, r⟩ := z; exact ⟨_, e1, (Pst.pure q st) _ e1⟩
theorem map_pst {out : R (α × Env)} {g : α → β} {k : β → Env → Hp → Hp → Prop} (h : Pst K mg W P G H σ (out.map g) k) : Pst K mg W P G H σ out fun a ρ' G' H' => k (g a) ρ' G' H' := by
  cases out with
  | ok a => exact h
  | err x fs ρ' => exact h
  | bad => exact h
theorem po_ex {X : Cx} {e : Expr} {f : EE} (h : PE X e (tE X.K X.mg W f)) : PE X e (tO X.K X.mg W (.ex f)) := by
  refine PE.imp h fun σ H Q ⟨G, ρ, st, q⟩ => ⟨G, ρ, st, (map_pst q).mono fun d ρ' G' H' _ _ _ k v hv => k v ⟨d, rfl, hv⟩⟩
theorem pos_nil {X : Cx} : PA X [] (tOs X.K X.mg W []) := PA.imp pa_nil fun σ H Q ⟨G, ρ, st, q⟩ => (Pst.pure (a := ([] : List (Option Dt))) q st) [] .nil
theorem pos_cons {X : Cx} {e : Expr} {es : List Expr} {o : Op} {os : List Op} (he : PE X e (tO X.K X.mg W o)) (hs : PA X es (tOs X.K X.mg W os))
    (hst : starEach (e :: es) X.env = (false, eval e X.env) :: starEach es X.env) : PA X (e :: es) (tOs X.K X.mg W (o :: os)) := by
  refine PA.imp (pa_cons he hs hst) fun σ H Q ⟨G, ρ, st, q⟩ => ⟨G, ρ, st, (Pst.bind q).mono fun a ρ1 G1 H1 e st1 o1 k v hv => ?_⟩
  refine ⟨G1, ρ1, st1, (map_pst (k e st1 o1)).mono fun as ρ2 G2 H2 e2 st2 o2 k2 vs hvs => k2 _ (.cons (hv.sub e2.sub) hvs)⟩

/-! ### by values -/
def fB (os : List Op) (b : List Dt → Option Slot) : EV := fun ρ => (runOps os ρ).bind fun as ρ1 => match resAll os as ρ1 with
  | some ds => (match b ds with
    | some s => .ok (s, ρ1)
    | none => .bad)
  | none => .bad
/-- the arguments' reading, then a rule by values -/
theorem args_imp {os : List Op} {b : List Dt → Option Slot} {r : List V → Hp → VK → Prop} (hb : BOk K mg b r) {σ : L2.St} {H : Hp} {Q : VK} (h : tV K mg W (fB os b) σ H Q) : tOs K mg W os σ H fun vs H1 => r vs H1 Q := by
  obtain ⟨G, ρ, st, q⟩ := h
  refine ⟨G, ρ, st, (Pst.bind q).mono fun as ρ1 G1 H1 e st1 o1 k vs hvs => ?_⟩
  have k := k e st1 o1
  cases q1 : resAll os as ρ1 with
  | none => rw [q1] at k; exact k.elim
  | some ds =>
    rw [q1] at k
    dsimp only at k
    cases q2 : b ds with
    | none => rw [q2] at k; exact k.elim
    | some s =>
      rw [q2] at k
      refine hb G1 H1 vs ds Q s st1.le (hvs.read st1 q1) q2 fun G' H' v e' l' hv => ?_
      exact k G' H' e'.no (st1.ext0 e' l') (fun _ z => z) v ((hv.vr (P := Own σ ρ1) st1).weaken (e.back o1))
def f2 (o1 o2 : Op) (b : Dt → Dt → Option Slot) : EV := fB [o1, o2] fun ds => match ds with
  | [d, e] => b d e
  | _ => none
theorem two_imp {o1 o2 : Op} {b : Dt → Dt → Option Slot} {r : R2} (hb : BOk2 K mg b r) {σ : L2.St} {H : Hp} {Q : VK} (h : tV K mg W (f2 o1 o2 b) σ H Q) : tO K mg W o1 σ H fun x H1 => tO K mg W o2 σ H1 fun y H2 => r x y H2 Q := by
  have h2 := args_imp (r := fun vs H Q => ∃ x y, vs = [x, y] ∧ r x y H Q) (fun G H vs ds Q s l rr eb k => by
    cases rr with
    | nil => cases eb
    | cons h1 r1 =>
      cases r1 with
      | nil => cases eb
      | cons h2 r2 =>
        cases r2 with
        | nil => exact ⟨_, _, rfl, hb _ _ _ _ _ _ _ _ l h1 h2 eb k⟩
        | cons _ _ => cases eb) h
  obtain ⟨G, ρ, st, q⟩ := h2
  refine ⟨G, ρ, st, (Pst.bind q).mono fun a ρ1 G1 H1 e st1 o1' k v hv => ?_⟩
  refine ⟨G1, ρ1, st1, (Pst.bind (map_pst (k e st1 o1'))).mono fun a2 ρ2 G2 H2 e2 st2 o2' k2 w hw => ?_⟩
  obtain ⟨x, y, ex, z⟩ := (Pst.pure (k := fun as ρ' G' H' => ∀ vs, OpVs K mg G' σ [o1, o2] (a :: a2 :: as) vs → ∃ x y, vs = [x, y] ∧ r x y H' Q) (a := ([] : List (Option Dt))) (map_pst (k2 e2 st2 o2')) st2) [v, w] (.cons (hv.sub e2.sub) (.cons hw .nil))
  cases ex
  exact z
def f1 (o : Op) (b : Dt → Option Slot) : EV := fB [o] fun ds => match ds with
  | [d] => b d
  | _ => none
theorem one_imp {o1 : Op} {b : Dt → Option Slot} {r : V → Hp → VK → Prop} (hb : BOk1 K mg b r) {σ : L2.St} {H : Hp} {Q : VK} (h : tV K mg W (f1 o1 b) σ H Q) : tO K mg W o1 σ H fun x H1 => r x H1 Q := by
  have h2 := args_imp (r := fun vs H Q => ∃ x, vs = [x] ∧ r x H Q) (fun G H vs ds Q s l rr eb k => by
    cases rr with
    | nil => cases eb
    | cons h1 r1 =>
      cases r1 with
      | nil => exact ⟨_, rfl, hb _ _ _ _ _ _ l h1 eb k⟩
      | cons _ _ => cases eb) h
  obtain ⟨G, ρ, st, q⟩ := h2
  refine ⟨G, ρ, st, (Pst.bind q).mono fun a ρ1 G1 H1 e st1 o1' k v hv => ?_⟩
  obtain ⟨x, ex, z⟩ := (map_pst (k e st1 o1')).pure st1 [v] (.cons hv .nil)
  cases ex
  exact z
end
section
variable {X : Cx} {W : WX} {a b : Expr} {o1 o2 : Op} {pos : Pos}
theorem sv_bin {op : Operator} {g : Dt → Dt → Option Slot} {r : R2} (ho : OpR X (binaryOp op) r) (hb : BOk2 X.K X.mg g r) (ha : PE X a (tO X.K X.mg W o1)) (hb' : PE X b (tO X.K X.mg W o2)) : PE X (.BinOp a op b pos) (tV X.K X.mg W (f2 o1 o2 g)) :=
  PE.imp (pe_op ho ha hb') fun _ _ _ h => two_imp hb h
theorem sv_cmp {op : CmpOp} {g : Dt → Dt → Option Slot} {r : R2} (ho : OpR X (compareOp op) r) (hb : BOk2 X.K X.mg g r) (ha : PE X a (tO X.K X.mg W o1)) (hb' : PE X b (tO X.K X.mg W o2)) (hm : behindInMarks op b = false) : PE X (.Compare a [op] [b] pos) (tV X.K X.mg W (f2 o1 o2 g)) :=
  PE.imp (pe_cmpR ho ha hb' hm) fun _ _ _ h => two_imp hb h
end
end E2
end

section
set_option Elab.async false
set_option linter.all false
set_option maxRecDepth 100000
set_option maxHeartbeats 4000000
/-! E3: names, constants, displays; a def's function and its promise; calls. -/
namespace E2
open PySem PySem.Spec PyProof.Rows L2
section
variable {K : PySem.W.Frag} {mg : Str → Option Value} {G G' H H' G1 H1 G2 H2 : Hp} {P P1 : Addr → Prop} {σ τ σ' : L2.St} {ρ ρ' α α' : Env} {W : WX}

/-! ### names, constants -/
def fName (i : Nat) : EV := fun ρ => match ρ[i]? with
  | some (.sh d) => .ok (.sh d, ρ)
  | some (.ow d) => .ok (.ow d, ρ.set i .dead)
  | _ => .bad
def eName (i : Nat) : EE := fun ρ => match ρ[i]? with
  | some (.sh d) => .ok (d, ρ)
  | some (.ow d) => .ok (d, ρ.set i (.sh d))
  | _ => .bad
theorem sv_name {X : Cx} {i : Nat} {x : Str} {pos : Pos} (hN : X.N[i]? = some x) (hv : Vis X.env.scope x) (hd : (x == ("__debug__" : Str)) = false) (hcd : (x == ("__classdict__" : Str)) = false) :
    PE X (.Name x pos) (tV X.K X.mg W (fName i)) := by
  refine PE.imp (pe_var hN hv hd hcd) fun σ H Q ⟨G, ρ, st, q⟩ => ?_
  unfold fName at q
  cases e : ρ[i]? with
  | none => rw [e] at q; exact q.elim
  | some u =>
    rw [e] at q
    have z := st.slot i u e
    cases u with
    | dead => exact q.elim
    | sh d => obtain ⟨v, e1, r⟩ := z; exact ⟨v, e1, Pst.pure q st v r⟩
    | ow d =>
      obtain ⟨p, e1, gp, ow⟩ := z
      refine ⟨_, e1, q G H (Ext.refl _ _ _) (st.dead i) (fun p h => h.of_set_dead) _ ⟨p, rfl, gp, fun ⟨j, ⟨d', hd⟩, e'⟩ => ?_, ow, .inr ⟨i, ⟨d, e⟩, e1⟩⟩⟩
      rcases set_get hd with ⟨_, z⟩ | ⟨ne, z⟩
      · cases z
      · exact ne (st.inj i j p ⟨⟨d, e⟩, e1⟩ ⟨⟨d', z⟩, e'⟩)
theorem se_name {X : Cx} {i : Nat} {x : Str} {pos : Pos} (hN : X.N[i]? = some x) (hv : Vis X.env.scope x) (hd : (x == ("__debug__" : Str)) = false) (hcd : (x == ("__classdict__" : Str)) = false) :
    PE X (.Name x pos) (tE X.K X.mg W (eName i)) := by
  refine PE.imp (pe_var hN hv hd hcd) fun σ H Q ⟨G, ρ, st, q⟩ => ?_
  unfold eName at q
  cases e : ρ[i]? with
  | none => rw [e] at q; exact q.elim
  | some u =>
    rw [e] at q
    have z := st.slot i u e
    cases u with
    | dead => exact q.elim
    | sh d => obtain ⟨v, e1, r⟩ := z; exact ⟨v, e1, Pst.pure q st v r⟩
    | ow d =>
      obtain ⟨G', v, ex, st', e1, r⟩ := st.freeze e
      exact ⟨v, e1, q G' H ex st' (fun p h => h.of_set_sh) v r⟩
def fC (d : Dt) : EV := fun ρ => .ok (.sh d, ρ)
theorem sv_const {X : Cx} {e : Expr} {v : V} {d : Dt} (h : PE X e (tC v)) (r : ∀ G, Rp X.K X.mg G v d) : PE X e (tV X.K X.mg W (fC d)) :=
  PE.imp h fun σ H Q ⟨G, ρ, st, q⟩ => Pst.pure q st v (r G)

/-! ### displays -/
def fSeq (mk : List Dt → Slot) (fs : List EE) : EV := fun ρ => (runOps (fs.map .ex) ρ).bind fun as ρ1 => match resAll (fs.map .ex) as ρ1 with
  | some ds => .ok (mk ds, ρ1)
  | none => .bad
theorem opvs_all : ∀ {fs : List EE} {as : List (Option Dt)} {vs : List V} {ds : List Dt}, OpVs K mg G σ (fs.map .ex) as vs → resAll (fs.map .ex) as ρ = some ds → RpAll K mg G vs ds
  | [], _, _, _, h, e => by cases h; cases e; exact .nil
  | f :: fs, _, _, ds, h, e => by
    cases h with
    | @cons _ _ a as v vs h r =>
      obtain ⟨d, rfl, hr⟩ := h
      have e : (match (some d : Option Dt), resAll (fs.map .ex) as ρ with
        | some d, some ds => some (d :: ds)
        | _, _ => none) = some ds := e
      cases q : resAll (fs.map .ex) as ρ with
      | none => rw [q] at e; cases e
      | some z => rw [q] at e; cases e; exact .cons hr (opvs_all r q)
theorem opvs_len : ∀ {os : List Op} {as : List (Option Dt)} {vs : List V}, OpVs K mg G σ os as vs → vs.length = os.length
  | _, _, _, .nil => rfl
  | _, _, _, .cons _ r => congrArg (· + 1) (opvs_len r)
theorem sub_fresh {p : Addr} {o : HO} (h : G p = none) : Sub G (upd G p o) := fun b u e => .inl (by rw [upd_ne (ne_of_none e h)]; exact e)
theorem le_none (l : Le G H) {p : Addr} (h : H p = none) : G p = none := by
  cases e : G p with
  | none => rfl
  | some u => rcases l p u e with z | ⟨ob, z, _⟩ <;> rw [h] at z <;> cases z
/-- a new object at p, let into G -/
theorem Ext.newG {p : Addr} {o : HO} (h : H p = none) (gp : G p = none) : Ext No G H (upd G p o) (upd H p o) where
  keep := fun b u e _ => .inl (by rw [upd_ne (ne_of_none e h)]; exact e)
  sub := sub_fresh gp
  new := fun b u e => by
    by_cases q : b = p
    · subst q; exact .inr (.inl (noM_none h))
    · rw [upd_ne q] at e; exact .inl ⟨_, e⟩
theorem Ext.newH {p : Addr} {o : HO} (h : H p = none) : Ext No G H G (upd H p o) where
  keep := fun b u e _ => .inl (by rw [upd_ne (ne_of_none e h)]; exact e)
  sub := Sub.refl G
  new := fun b u e => .inl ⟨_, e⟩
theorem Le.newG (l : Le G H) {p : Addr} {o : HO} (h : H p = none) : Le (upd G p o) (upd H p o) := fun a u e => by
  by_cases q : a = p
  · subst q; rw [upd_same] at e ⊢; exact .inl e
  · rw [upd_ne q] at e ⊢; exact l a u e
theorem Le.newH (l : Le G H) {p : Addr} {o : HO} (h : H p = none) : Le G (upd H p o) := fun a u e => by
  have q : a ≠ p := fun z => by
    subst z
    rw [le_none l h] at e; cases e
  rw [upd_ne q]; exact l a u e
theorem sv_tup {X : Cx} {es : List Expr} {fs : List EE} {x1 : Nat} {pos : Pos} (h : PA X es (tOs X.K X.mg W (fs.map .ex))) (hl : fs.length ≤ sizeLine) : PE X (.Tuple es x1 pos) (tV X.K X.mg W (fSeq (fun ds => .sh (.tup ds)) fs)) := by
  refine PE.imp (pe_tup h) fun σ H Q ⟨G, ρ, st, q⟩ => ⟨G, ρ, st, (Pst.bind q).mono fun as ρ1 G1 H1 e st1 o1 k vs hvs => ⟨by rw [opvs_len hvs, List.length_map]; exact hl, fun p hp => ?_⟩⟩
  have k := k e st1 o1
  cases q1 : resAll (fs.map .ex) as ρ1 with
  | none => rw [q1] at k; exact k.elim
  | some ds =>
    rw [q1] at k
    have gp := le_none st1.le hp
    have e2 := Ext.newG (o := .tup vs) hp gp
    exact k _ _ e2.no (st1.ext0 e2 (st1.le.newG hp)) (fun _ z => z) (.ref p) (.tup upd_same ((opvs_all hvs q1).le (sub_fresh gp).le))
theorem sv_lst {X : Cx} {es : List Expr} {fs : List EE} {pos : Pos} (h : PA X es (tOs X.K X.mg W (fs.map .ex))) (hl : fs.length ≤ sizeLine) : PE X (.List es pos) (tV X.K X.mg W (fSeq (fun ds => .ow (.lst ds)) fs)) := by
  refine PE.imp (pe_lst h) fun σ H Q ⟨G, ρ, st, q⟩ => ⟨G, ρ, st, (Pst.bind q).mono fun as ρ1 G1 H1 e st1 o1 k vs hvs => ⟨by rw [opvs_len hvs, List.length_map]; exact hl, fun p hp => ?_⟩⟩
  have k := k e st1 o1
  cases q1 : resAll (fs.map .ex) as ρ1 with
  | none => rw [q1] at k; exact k.elim
  | some ds =>
    rw [q1] at k
    have gp := le_none st1.le hp
    have e2 : Ext No G1 H1 G1 (upd H1 p (.lst vs)) := Ext.newH hp
    refine k _ _ e2.no (st1.ext0 e2 (st1.le.newH hp)) (fun _ z => z) (.ref p) ⟨p, rfl, gp, fun z => ?_, ⟨vs, upd_same, opvs_all hvs q1⟩, e.fresh hp⟩
    obtain ⟨u, hu⟩ := st1.own_some z
    rw [hp] at hu; cases hu
end
end E2
end

section
set_option Elab.async false
set_option linter.all false
set_option maxRecDepth 100000
set_option maxHeartbeats 4000000
/-! E4: a def's function, its promise; calls. -/
namespace E2
open PySem PySem.Spec PyProof.Rows L2
section
variable {K : PySem.W.Frag} {mg : Str → Option Value} {G G' H H' G1 H1 G2 H2 G3 H3 : Hp} {P P1 : Addr → Prop} {σ τ σ' τ1 τ2 : L2.St} {ρ ρ' ρ2 ρ3 α α2 α3 : Env} {W : WX}
/-- the same slots at other places -/
theorem Stt.re (s : Stt K mg G H σ ρ) (hl : σ'.length = ρ'.length)
    (h : ∀ (j : Nat) (u : Slot), ρ'[j]? = some u → SlotR K mg G H σ'[j]? u ∨ ∃ i : Nat, ρ[i]? = some u ∧ σ'[j]? = σ[i]?)
    (inj : ∀ (i j : Nat) (p : Addr), Ows σ' ρ' i p → Ows σ' ρ' j p → i = j) : Stt K mg G H σ' ρ' where
  le := s.le
  len := hl
  slot := fun j u hu => by
    rcases h j u hu with z | ⟨i, e1, e2⟩
    · exact z
    · rw [e2]; exact s.slot i u e1
  inj := inj
theorem app_get {α : Type} {l r : List α} {i : Nat} {x : α} (h : (l ++ r)[i]? = some x) : (i < l.length ∧ l[i]? = some x) ∨ (l.length ≤ i ∧ r[i - l.length]? = some x) := by
  by_cases q : i < l.length
  · rw [List.getElem?_append_left q] at h; exact .inl ⟨q, h⟩
  · rw [List.getElem?_append_right (Nat.le_of_not_lt q)] at h; exact .inr ⟨Nat.le_of_not_lt q, h⟩
theorem app_l {α : Type} {l r : List α} {i : Nat} {x : α} (h : l[i]? = some x) : (l ++ r)[i]? = some x := by
  rw [List.getElem?_append_left (List.getElem?_eq_some_iff.mp h).1]; exact h
theorem app_r {α : Type} {l r : List α} {i : Nat} : (l ++ r)[l.length + i]? = r[i]? := by
  rw [List.getElem?_append_right (Nat.le_add_right _ _), Nat.add_sub_cancel_left]
theorem ows_l (hl : σ.length = ρ.length) {i : Nat} {p : Addr} (h : Ows σ ρ i p) : Ows (σ ++ τ) (ρ ++ α) i p :=
  let ⟨⟨d, e⟩, r⟩ := h; ⟨⟨d, app_l e⟩, app_l r⟩
theorem ows_r (hl : σ.length = ρ.length) {i : Nat} {p : Addr} (h : Ows τ α i p) : Ows (σ ++ τ) (ρ ++ α) (ρ.length + i) p :=
  let ⟨⟨d, e⟩, r⟩ := h; ⟨⟨d, by rw [app_r]; exact e⟩, by rw [← hl, app_r]; exact r⟩
theorem ows_app (hl : σ.length = ρ.length) {i : Nat} {p : Addr} (h : Ows (σ ++ τ) (ρ ++ α) i p) : (i < ρ.length ∧ Ows σ ρ i p) ∨ (ρ.length ≤ i ∧ Ows τ α (i - ρ.length) p) := by
  obtain ⟨⟨d, e⟩, r⟩ := h
  rcases app_get e with ⟨l, e⟩ | ⟨l, e⟩
  · rw [List.getElem?_append_left (by omega)] at r
    exact .inl ⟨l, ⟨d, e⟩, r⟩
  · rw [List.getElem?_append_right (by omega), hl] at r
    exact .inr ⟨l, ⟨d, e⟩, r⟩
theorem own_app (hl : σ.length = ρ.length) {p : Addr} : Own (σ ++ τ) (ρ ++ α) p ↔ Own σ ρ p ∨ Own τ α p := by
  constructor
  · rintro ⟨i, h⟩
    rcases ows_app hl h with ⟨_, h⟩ | ⟨_, h⟩
    · exact .inl ⟨_, h⟩
    · exact .inr ⟨_, h⟩
  · rintro (⟨i, h⟩ | ⟨i, h⟩)
    · exact ⟨_, ows_l hl h⟩
    · exact ⟨_, ows_r hl h⟩
theorem Stt.left (hl : σ.length = ρ.length) (s : Stt K mg G H (σ ++ τ) (ρ ++ α)) : Stt K mg G H σ ρ :=
  s.re hl (fun j u hu => .inr ⟨j, app_l hu, (List.getElem?_append_left (by have := (List.getElem?_eq_some_iff.mp hu).1; omega)).symm⟩) fun i j p h1 h2 => s.inj i j p (ows_l hl h1) (ows_l hl h2)
theorem Stt.right (hl : σ.length = ρ.length) (s : Stt K mg G H (σ ++ τ) (ρ ++ α)) : Stt K mg G H τ α := by
  have hl2 : τ.length = α.length := by have := s.len; rw [List.length_append, List.length_append] at this; omega
  refine s.re hl2 (fun j u hu => .inr ⟨ρ.length + j, by rw [app_r]; exact hu, ?_⟩) fun i j p h1 h2 => ?_
  · rw [← hl, app_r]
  · have := s.inj _ _ p (ows_r hl h1) (ows_r hl h2); omega
/-- nobody on the left owns what the right owns -/
theorem Stt.apart (hl : σ.length = ρ.length) (s : Stt K mg G H (σ ++ τ) (ρ ++ α)) {p : Addr} (h1 : Own σ ρ p) (h2 : Own τ α p) : False := by
  obtain ⟨i, h1⟩ := h1
  obtain ⟨j, h2⟩ := h2
  have e := s.inj _ _ p (ows_l hl h1) (ows_r hl h2)
  obtain ⟨⟨d, e1⟩, _⟩ := h1
  have := (List.getElem?_eq_some_iff.mp e1).1
  omega
theorem SlotR.ext {o : Option (Option V)} {u : Slot} (h : SlotR K mg G H o u) (e : Ext P G H G' H') (hp : ∀ d p, u = .ow d → o = some (some (.ref p)) → ¬ P p) : SlotR K mg G' H' o u := by
  cases u with
  | dead => trivial
  | sh d => obtain ⟨v, e1, r⟩ := h; exact ⟨v, e1, r.le e.sub.le⟩
  | ow d =>
    obtain ⟨p, e1, g, r⟩ := h
    obtain ⟨o, ho, hmu⟩ := r.get
    have n := hp d p rfl e1
    exact ⟨p, e1, e.out g ho hmu n, r.ext e g n⟩
/-- the right part has run -/
theorem Stt.frame (hl : σ.length = ρ.length) (s : Stt K mg G H (σ ++ τ) (ρ ++ α)) (s' : Stt K mg G' H' τ α2) (e : Ext (Own τ α) G H G' H') (o : ∀ p, Own τ α2 p → Own τ α p) : Stt K mg G' H' (σ ++ τ) (ρ ++ α2) where
  le := s'.le
  len := by rw [List.length_append, List.length_append, hl, s'.len]
  slot := fun j u hu => by
    rcases app_get hu with ⟨l, hu⟩ | ⟨l, hu⟩
    · have z := (s.left hl).slot j u hu
      rw [List.getElem?_append_left (by omega)]
      exact SlotR.ext z e fun d p eu eo q => s.apart hl ⟨j, ⟨d, eu ▸ hu⟩, eo⟩ q
    · rw [List.getElem?_append_right (by omega), hl]
      exact s'.slot _ u hu
  inj := fun i j p h1 h2 => by
    rcases ows_app hl h1 with ⟨l1, h1⟩ | ⟨l1, h1⟩
    · rcases ows_app hl h2 with ⟨l2, h2⟩ | ⟨l2, h2⟩
      · exact (s.left hl).inj i j p h1 h2
      · exact (s.apart hl ⟨_, h1⟩ (o p ⟨_, h2⟩)).elim
    · rcases ows_app hl h2 with ⟨l2, h2⟩ | ⟨l2, h2⟩
      · exact (s.apart hl ⟨_, h2⟩ (o p ⟨_, h1⟩)).elim
      · have := s'.inj _ _ p h1 h2; omega
theorem Stt.snoc_sh (s : Stt K mg G H σ ρ) {v : V} {d : Dt} (r : Rp K mg G v d) : Stt K mg G H (σ ++ [some v]) (ρ ++ [.sh d]) := by
  have noR : ∀ i p, ¬ Ows [some v] [Slot.sh d] i p := fun i p ⟨⟨d', e⟩, _⟩ => by
    cases i with
    | zero => simp at e
    | succ i => simp at e
  refine s.re (by simp [s.len]) (fun j u hu => ?_) fun i j p h1 h2 => ?_
  · rcases app_get hu with ⟨l, hu⟩ | ⟨l, hu⟩
    · exact .inr ⟨j, hu, List.getElem?_append_left (by have := s.len; omega)⟩
    · have ej : j - ρ.length = 0 := by have := (List.getElem?_eq_some_iff.mp hu).1; simp at this; omega
      rw [ej] at hu
      simp at hu
      subst hu
      refine .inl ⟨v, ?_, r⟩
      rw [List.getElem?_append_right (by have := s.len; omega), s.len, ej] <;> rfl
  · rcases ows_app s.len h1 with ⟨l1, h1⟩ | ⟨l1, h1⟩
    · rcases ows_app s.len h2 with ⟨l2, h2⟩ | ⟨l2, h2⟩
      · exact s.inj i j p h1 h2
      · exact (noR _ _ h2).elim
    · exact (noR _ _ h1).elim
theorem Stt.snoc_mv (s : Stt K mg G H σ ρ) {i : Nat} {v : V} {d : Dt} (hi : ρ[i]? = some (.ow d)) (hv : σ[i]? = some (some v)) : Stt K mg G H (σ ++ [some v]) (ρ.set i .dead ++ [.ow d]) := by
  have hl : σ.length = (ρ.set i Slot.dead).length := by rw [List.length_set]; exact s.len
  refine s.re (by simp [s.len]) (fun j u hu => ?_) fun a b p h1 h2 => ?_
  · rcases app_get hu with ⟨l, hu⟩ | ⟨l, hu⟩
    · rcases set_get hu with ⟨_, rfl⟩ | ⟨_, hu⟩
      · exact .inl trivial
      · exact .inr ⟨j, hu, List.getElem?_append_left (by omega)⟩
    · rw [← hl] at l hu
      have ej : j - σ.length = 0 := by have := (List.getElem?_eq_some_iff.mp hu).1; simp at this; omega
      rw [ej] at hu
      simp at hu
      subst hu
      refine .inr ⟨i, hi, ?_⟩
      rw [List.getElem?_append_right l, ej, hv] <;> rfl
  · have noL : ∀ a, Ows σ (ρ.set i .dead) a p → σ[i]? = some (some (.ref p)) → False := fun a ⟨⟨d', e⟩, r⟩ q => by
      rcases set_get e with ⟨_, z⟩ | ⟨ne, z⟩
      · cases z
      · exact ne (s.inj _ _ p ⟨⟨d, hi⟩, q⟩ ⟨⟨d', z⟩, r⟩)
    have rR : ∀ a, Ows [some v] [Slot.ow d] a p → a = 0 ∧ v = .ref p := fun a ⟨⟨d', e⟩, r⟩ => by
      cases a with
      | zero => simp at r; exact ⟨rfl, r⟩
      | succ a => simp at e
    rcases ows_app hl h1 with ⟨l1, h1⟩ | ⟨l1, h1⟩
    · rcases ows_app hl h2 with ⟨l2, h2⟩ | ⟨l2, h2⟩
      · exact (s.dead i).inj a b p h1 h2
      · exact (noL _ h1 (by rw [hv, (rR _ h2).2])).elim
    · rcases ows_app hl h2 with ⟨l2, h2⟩ | ⟨l2, h2⟩
      · exact (noL _ h2 (by rw [hv, (rR _ h1).2])).elim
      · have := (rR _ h1).1; have := (rR _ h2).1; omega
theorem own_snoc_mv (s : Stt K mg G H σ ρ) {i : Nat} {v : V} {d : Dt} (hi : ρ[i]? = some (.ow d)) (hv : σ[i]? = some (some v)) {p : Addr} (h : Own (σ ++ [some v]) (ρ.set i .dead ++ [.ow d]) p) : Own σ ρ p := by
  have hl : σ.length = (ρ.set i Slot.dead).length := by rw [List.length_set]; exact s.len
  rcases (own_app hl).mp h with h | ⟨a, ⟨d', e⟩, r⟩
  · exact h.of_set_dead
  · cases a with
    | zero => simp at r; subst r; exact ⟨i, ⟨d, hi⟩, hv⟩
    | succ a => simp at e
theorem own_snoc_sh (hl : σ.length = ρ.length) {v : Option V} {d : Dt} {p : Addr} (h : Own (σ ++ [v]) (ρ ++ [.sh d]) p) : Own σ ρ p := by
  rcases (own_app hl).mp h with h | ⟨a, ⟨d', e⟩, r⟩
  · exact h
  · cases a with
    | zero => simp at e
    | succ a => simp at e

/-! ### arguments handed over, and back -/
def take : List Bool → List Op → List (Option Dt) → Env → Env → Option (Env × Env)
  | c :: cs, .sl i :: os, _ :: as, ρ, α => match ρ[i]? with
    | some (.sh d) => take cs os as ρ (α ++ [.sh d])
    | some (.ow d) => if c then take cs os as (ρ.set i .dead) (α ++ [.ow d]) else take cs os as (ρ.set i (.sh d)) (α ++ [.sh d])
    | _ => none
  | _ :: cs, .ex _ :: os, some d :: as, ρ, α => take cs os as ρ (α ++ [.sh d])
  | [], [], [], ρ, α => some (ρ, α)
  | _, _, _, _, _ => none
def giveBack : List Op → Env → Env → Env → Env
  | .sl i :: os, .ow _ :: α2, s :: α3, ρ => giveBack os α2 α3 (ρ.set i s)
  | _ :: os, _ :: α2, _ :: α3, ρ => giveBack os α2 α3 ρ
  | _, _, _, ρ => ρ
theorem set_app {α : Type} {l r : List α} {i : Nat} {x : α} (h : i < l.length) : (l ++ r).set i x = l.set i x ++ r := List.set_append_left i x h
theorem take_ok : ∀ {cs : List Bool} {os : List Op} {as : List (Option Dt)} {vs : List V} {G : Hp} {τ : L2.St} {ρ α ρ2 α2 : Env}, Stt K mg G H (σ ++ τ) (ρ ++ α) → σ.length = ρ.length → OpVs K mg G σ os as vs → take cs os as ρ α = some (ρ2, α2) →
    ∃ G2, Ext (Own (σ ++ τ) (ρ ++ α)) G H G2 H ∧ Stt K mg G2 H (σ ++ (τ ++ vs.map some)) (ρ2 ++ α2) ∧ σ.length = ρ2.length ∧ (∀ p, Own (σ ++ (τ ++ vs.map some)) (ρ2 ++ α2) p → Own (σ ++ τ) (ρ ++ α) p)
  | [], _, _, _, G, τ, ρ, α, ρ2, α2, s, hl, .nil, e => by
    cases e
    rw [List.map_nil, List.append_nil]
    exact ⟨G, Ext.refl _ _ _, s, hl, fun _ z => z⟩
  | [], _, _, _, _, _, _, _, _, _, _, _, .cons _ _, e => by
    exact absurd e (by unfold take; exact fun z => nomatch z)
  | _ :: _, _, _, _, _, _, _, _, _, _, _, _, .nil, e => by
    exact absurd e (by unfold take; exact fun z => nomatch z)
  | c :: cs, .ex f :: os, a :: as, v :: vs, G, τ, ρ, α, ρ2, α2, s, hl, .cons hv r, e => by
    obtain ⟨d, rfl, rd⟩ := hv
    have e : take cs os as ρ (α ++ [.sh d]) = some (ρ2, α2) := e
    have s1 := s.snoc_sh rd
    rw [List.append_assoc, List.append_assoc] at s1
    obtain ⟨G2, x2, s2, l2, o2⟩ := take_ok s1 hl r e
    have oo : ∀ p, Own (σ ++ (τ ++ [some v])) (ρ ++ (α ++ [Slot.sh d])) p → Own (σ ++ τ) (ρ ++ α) p := fun p z => by
      rw [← List.append_assoc, ← List.append_assoc] at z
      exact own_snoc_sh s.len z
    rw [List.append_assoc] at s2 o2
    exact ⟨G2, x2.mono oo, s2, l2, fun p z => oo p (o2 p z)⟩
  | c :: cs, .sl i :: os, a :: as, v :: vs, G, τ, ρ, α, ρ2, α2, s, hl, .cons hv r, e => by
    have hv : σ[i]? = some (some v) := hv
    have e : (match ρ[i]? with
      | some (.sh d) => take cs os as ρ (α ++ [.sh d])
      | some (.ow d) => if c then take cs os as (ρ.set i .dead) (α ++ [.ow d]) else take cs os as (ρ.set i (.sh d)) (α ++ [.sh d])
      | _ => none) = some (ρ2, α2) := e
    have hv2 : (σ ++ τ)[i]? = some (some v) := app_l hv
    cases q : ρ[i]? with
    | none => rw [q] at e; cases e
    | some u =>
      rw [q] at e
      have hi : i < ρ.length := (List.getElem?_eq_some_iff.mp q).1
      have q2 : (ρ ++ α)[i]? = some u := app_l q
      have sl := s.slot i u q2
      rw [hv2] at sl
      cases u with
      | dead => cases e
      | sh d =>
        obtain ⟨w, ew, rd⟩ := sl
        cases ew
        have s1 := s.snoc_sh rd
        rw [List.append_assoc, List.append_assoc] at s1
        obtain ⟨G2, x2, s2, l2, o2⟩ := take_ok s1 hl r e
        have oo : ∀ p, Own (σ ++ (τ ++ [some v])) (ρ ++ (α ++ [Slot.sh d])) p → Own (σ ++ τ) (ρ ++ α) p := fun p z => by
          rw [← List.append_assoc, ← List.append_assoc] at z
          exact own_snoc_sh s.len z
        rw [List.append_assoc] at s2 o2
        exact ⟨G2, x2.mono oo, s2, l2, fun p z => oo p (o2 p z)⟩
      | ow d =>
        cases c with
        | true =>
          have e : take cs os as (ρ.set i .dead) (α ++ [.ow d]) = some (ρ2, α2) := e
          have s1 := s.snoc_mv q2 hv2
          rw [set_app hi, List.append_assoc, List.append_assoc] at s1
          obtain ⟨G2, x2, s2, l2, o2⟩ := take_ok s1 (by rw [List.length_set]; exact hl) r e
          have oo : ∀ p, Own (σ ++ (τ ++ [some v])) (ρ.set i Slot.dead ++ (α ++ [Slot.ow d])) p → Own (σ ++ τ) (ρ ++ α) p := fun p z => by
            refine own_snoc_mv s q2 hv2 (p := p) ?_
            rw [set_app hi, List.append_assoc, List.append_assoc]
            exact z
          rw [List.append_assoc] at s2 o2
          exact ⟨G2, x2.mono oo, s2, l2, fun p z => oo p (o2 p z)⟩
        | false =>
          have e : take cs os as (ρ.set i (.sh d)) (α ++ [.sh d]) = some (ρ2, α2) := e
          obtain ⟨G1, w, x1, s1, ew, rd⟩ := s.freeze q2
          rw [hv2] at ew
          cases ew
          rw [set_app hi] at s1
          have s1' := s1.snoc_sh rd
          rw [List.append_assoc, List.append_assoc] at s1'
          obtain ⟨G2, x2, s2, l2, o2⟩ := take_ok s1' (by rw [List.length_set]; exact hl) (r.sub x1.sub) e
          have oo : ∀ p, Own (σ ++ (τ ++ [some v])) (ρ.set i (Slot.sh d) ++ (α ++ [Slot.sh d])) p → Own (σ ++ τ) (ρ ++ α) p := fun p z => by
            rw [← List.append_assoc, ← List.append_assoc] at z
            have z2 := own_snoc_sh s1.len z
            rw [← set_app hi] at z2
            exact z2.of_set_sh
          rw [List.append_assoc] at s2 o2
          exact ⟨G2, x1.trans x2 fun p z => .inl (oo p z), s2, l2, fun p z => oo p (o2 p z)⟩
theorem Stt.mv (s : Stt K mg G H σ ρ) {i j : Nat} {u : Slot} (ne : i ≠ j) (e : σ[i]? = σ[j]?) (hj : ρ[j]? = some u) :
    Stt K mg G H σ ((ρ.set i u).set j .dead) ∧ ∀ p, Own σ ((ρ.set i u).set j .dead) p → Own σ ρ p := by
  have key : ∀ {a : Nat} {w : Slot}, ((ρ.set i u).set j .dead)[a]? = some w → w = .dead ∨ (a = i ∧ w = u) ∨ (a ≠ i ∧ a ≠ j ∧ ρ[a]? = some w) := fun {a w} h => by
    rcases set_get h with ⟨_, z⟩ | ⟨n1, h⟩
    · exact .inl z
    · rcases set_get h with ⟨z1, z2⟩ | ⟨n2, h⟩
      · exact .inr (.inl ⟨z1.symm, z2⟩)
      · exact .inr (.inr ⟨Ne.symm n2, Ne.symm n1, h⟩)
  have src : ∀ {a : Nat} {p : Addr}, Ows σ ((ρ.set i u).set j .dead) a p → (a = i ∧ Ows σ ρ j p) ∨ (a ≠ i ∧ a ≠ j ∧ Ows σ ρ a p) := fun {a p} ⟨⟨d, h⟩, r⟩ => by
    rcases key h with z | ⟨z1, z2⟩ | ⟨n1, n2, h⟩
    · cases z
    · subst z1 z2; exact .inl ⟨rfl, ⟨d, hj⟩, e ▸ r⟩
    · exact .inr ⟨n1, n2, ⟨d, h⟩, r⟩
  refine ⟨s.re (by rw [List.length_set, List.length_set]; exact s.len) (fun a w h => ?_) fun a b p h1 h2 => ?_, fun p ⟨a, h⟩ => ?_⟩
  · rcases key h with z | ⟨z1, z2⟩ | ⟨_, _, h⟩
    · subst z; exact .inl trivial
    · subst z1 z2; exact .inr ⟨j, hj, e⟩
    · exact .inr ⟨a, h, rfl⟩
  · rcases src h1 with ⟨z1, y1⟩ | ⟨n1, m1, y1⟩
    · rcases src h2 with ⟨z2, y2⟩ | ⟨n2, m2, y2⟩
      · rw [z1, z2]
      · exact absurd (s.inj _ _ p y2 y1) m2
    · rcases src h2 with ⟨z2, y2⟩ | ⟨n2, m2, y2⟩
      · exact absurd (s.inj _ _ p y1 y2) m1
      · exact s.inj _ _ p y1 y2
  · rcases src h with ⟨_, y⟩ | ⟨_, _, y⟩
    · exact ⟨_, y⟩
    · exact ⟨_, y⟩
theorem back_ok : ∀ {os : List Op} {as : List (Option Dt)} {vs : List V} {τ1 : L2.St} {β α2 α3 ρ : Env}, OpVs K mg G1 σ os as vs → Stt K mg G H (σ ++ (τ1 ++ vs.map some)) (ρ ++ (β ++ α3)) → τ1.length = β.length → σ.length = ρ.length →
    Stt K mg G H σ (giveBack os α2 α3 ρ) ∧ (∀ p, Own σ (giveBack os α2 α3 ρ) p → Own (σ ++ (τ1 ++ vs.map some)) (ρ ++ (β ++ α3)) p)
  | [], _, _, τ1, β, α2, α3, ρ, .nil, s, h1, h2 => by
    have e : giveBack [] α2 α3 ρ = ρ := by unfold giveBack; rfl
    rw [e]
    exact ⟨s.left h2, fun p z => (own_app h2).mpr (.inl z)⟩
  | o :: os, a :: as, v :: vs, τ1, β, α2, α3, ρ, .cons hv r, s, h1, h2 => by
    have base : Stt K mg G H σ ρ ∧ ∀ p, Own σ ρ p → Own (σ ++ (τ1 ++ (v :: vs).map some)) (ρ ++ (β ++ α3)) p := ⟨s.left h2, fun p z => (own_app h2).mpr (.inl z)⟩
    cases α2 with
    | nil =>
      have e : giveBack (o :: os) [] α3 ρ = ρ := by cases o <;> (unfold giveBack; rfl)
      rw [e]; exact base
    | cons u α2 =>
      cases α3 with
      | nil =>
        have e : giveBack (o :: os) (u :: α2) [] ρ = ρ := by cases o <;> cases u <;> (unfold giveBack; rfl)
        rw [e]; exact base
      | cons w α3 =>
        have es : σ ++ (τ1 ++ (v :: vs).map some) = σ ++ ((τ1 ++ [some v]) ++ vs.map some) := by simp
        have plain : giveBack (o :: os) (u :: α2) (w :: α3) ρ = giveBack os α2 α3 ρ → Stt K mg G H σ (giveBack (o :: os) (u :: α2) (w :: α3) ρ) ∧ (∀ p, Own σ (giveBack (o :: os) (u :: α2) (w :: α3) ρ) p → Own (σ ++ (τ1 ++ (v :: vs).map some)) (ρ ++ (β ++ w :: α3)) p) := fun e => by
          have er : ρ ++ (β ++ w :: α3) = ρ ++ ((β ++ [w]) ++ α3) := by simp
          rw [es, er] at s ⊢
          rw [e]
          exact back_ok r s (by simp [h1]) h2
        cases o with
        | ex f => exact plain (by cases u <;> rfl)
        | sl i =>
          cases u with
          | dead => exact plain rfl
          | sh d => exact plain rfl
          | ow d =>
            have e : giveBack (.sl i :: os) (.ow d :: α2) (w :: α3) ρ = giveBack os α2 α3 (ρ.set i w) := rfl
            rw [e]
            have hv : σ[i]? = some (some v) := hv
            have hi : i < σ.length := (List.getElem?_eq_some_iff.mp hv).1
            have ej : (σ ++ (τ1 ++ (v :: vs).map some))[ρ.length + β.length]? = some (some v) := by
              rw [← h2, List.getElem?_append_right (by omega), Nat.add_sub_cancel_left, ← h1, List.getElem?_append_right (by omega), Nat.sub_self]
              rfl
            have hj : (ρ ++ (β ++ w :: α3))[ρ.length + β.length]? = some w := by
              rw [app_r, List.getElem?_append_right (by omega), Nat.sub_self]
              rfl
            obtain ⟨s2, o2⟩ := s.mv (i := i) (j := ρ.length + β.length) (by omega) (by rw [ej]; exact app_l hv) hj
            have er : ((ρ ++ (β ++ w :: α3)).set i w).set (ρ.length + β.length) .dead = ρ.set i w ++ ((β ++ [.dead]) ++ α3) := by
              rw [set_app (by omega), List.set_append_right _ _ (by rw [List.length_set]; omega), List.length_set, Nat.add_sub_cancel_left, List.set_append_right _ _ (by omega), Nat.sub_self]
              simp
            rw [er, es] at s2 o2
            obtain ⟨s3, o3⟩ := back_ok (α2 := α2) r s2 (by simp [h1]) (by rw [List.length_set]; exact h2)
            refine ⟨s3, fun p z => ?_⟩
            rw [es]
            exact o2 p (o3 p z)

/-! ### a def's function -/
structure FS where
  n : Nat
  cst : List Bool
  run : Env → R (Slot × Env)
def WE0 (E : XK) : WX := fun cls d _ H => E cls d H
/-- the promise of a def by its function -/
def spOf (K : PySem.W.Frag) (mg : Str → Option Value) (F : FS) : Sp := fun vs H Q E => vs.length = F.n ∧ ∃ G α, Stt K mg G H (vs.map some) α ∧
  Pst K mg (WE0 E) (Own (vs.map some) α) G H (vs.map some) (F.run α) fun s α' G' H' => ∀ v, VR K mg (Own (vs.map some) α) H G' H' (vs.map some) α' v s → Q v H'
def fCall (F : FS) (os : List Op) : EV := fun ρ => (runOps os ρ).bind fun as ρ1 => match take F.cst os as ρ1 [] with
  | some (ρ2, α2) => (match F.run α2 with
    | .ok (s, α3) => .ok (s, giveBack os α2 α3 ρ2)
    | .err x fs α3 => .err x fs (giveBack os α2 α3 ρ2)
    | .bad => .bad)
  | none => .bad
/-- the arguments are there: the callee's promise -/
theorem call_imp {F : FS} {os : List Op} {as : List (Option Dt)} {vs : List V} {Q : VK} (st : Stt K mg G H σ ρ) (hv : OpVs K mg G σ os as vs) (hn : os.length = F.n)
    (h : Pst K mg W (Own σ ρ) G H σ (match take F.cst os as ρ [] with
      | some (ρ2, α2) => (match F.run α2 with
        | .ok (s, α3) => .ok (s, giveBack os α2 α3 ρ2)
        | .err x fs α3 => .err x fs (giveBack os α2 α3 ρ2)
        | .bad => .bad)
      | none => .bad) fun s ρ' G' H' => ∀ v, VR K mg (Own σ ρ) H G' H' σ ρ' v s → Q v H') : spOf K mg F vs H Q (WE W σ) := by
  refine ⟨by rw [opvs_len hv, hn], ?_⟩
  cases q : take F.cst os as ρ [] with
  | none => rw [q] at h; exact h.elim
  | some z =>
    obtain ⟨ρ2, α2⟩ := z
    rw [q] at h
    have st0 : Stt K mg G H (σ ++ []) (ρ ++ []) := by rw [List.append_nil, List.append_nil]; exact st
    obtain ⟨G2, x2, s2, l2, o2⟩ := take_ok st0 st.len hv q
    rw [List.append_nil, List.append_nil] at x2
    rw [List.nil_append] at s2
    have o2 : ∀ p, Own (σ ++ vs.map some) (ρ2 ++ α2) p → Own σ ρ p := fun p z => by
      have := o2 p (by rw [List.nil_append]; exact z)
      rw [List.append_nil, List.append_nil] at this
      exact this
    refine ⟨G2, α2, s2.right l2, ?_⟩
    have h : Pst K mg W (Own σ ρ) G H σ (match F.run α2 with
        | .ok (s, α3) => .ok (s, giveBack os α2 α3 ρ2)
        | .err x fs α3 => .err x fs (giveBack os α2 α3 ρ2)
        | .bad => .bad) fun s ρ' G' H' => ∀ v, VR K mg (Own σ ρ) H G' H' σ ρ' v s → Q v H' := h
    have oR : ∀ p, Own (vs.map some) α2 p → Own σ ρ p := fun p z => o2 p ((own_app l2).mpr (.inr z))
    -- behind the callee
    have after : ∀ {G' H' α3}, Ext (Own (vs.map some) α2) G2 H G' H' → Stt K mg G' H' (vs.map some) α3 → (∀ p, Own (vs.map some) α3 p → Own (vs.map some) α2 p) →
        Ext (Own σ ρ) G H G' H' ∧ Stt K mg G' H' σ (giveBack os α2 α3 ρ2) ∧ (∀ p, Own σ (giveBack os α2 α3 ρ2) p → Own σ ρ2 p ∨ Own (vs.map some) α3 p) := fun {G' H' α3} e s' o => by
      have s3 := s2.frame l2 s' e o
      obtain ⟨s4, o4⟩ := back_ok (τ1 := []) (β := []) (α2 := α2) hv (by rw [List.nil_append, List.nil_append]; exact s3) rfl l2
      refine ⟨x2.trans e fun p z => .inl (oR p z), s4, fun p z => ?_⟩
      have := o4 p z
      rw [List.nil_append, List.nil_append] at this
      exact (own_app l2).mp this
    cases qr : F.run α2 with
    | bad => rw [qr] at h; exact h.elim
    | ok z =>
      obtain ⟨s, α3⟩ := z
      rw [qr] at h
      intro G' H' e s' o v hvr
      obtain ⟨e4, s4, o4⟩ := after e s' o
      refine h G' H' e4 s4 (fun p z => ?_) v ?_
      · rcases o4 p z with z | z
        · exact o2 p ((own_app l2).mpr (.inl z))
        · exact oR p (o p z)
      · cases s with
        | dead => exact hvr
        | sh d => exact hvr
        | ow d =>
          obtain ⟨p, e1, e2, e3, e5, e6⟩ := hvr
          refine ⟨p, e1, e2, fun z => ?_, e5, e6.imp id (oR p)⟩
          rcases o4 p z with z | z
          · rcases e6 with y | y
            · obtain ⟨u, hu⟩ := (s2.left l2).own_some z
              rw [y] at hu; cases hu
            · exact s2.apart l2 z y
          · exact e3 z
    | err x fs α3 =>
      rw [qr] at h
      intro C dd G' H' hm e s' o f
      obtain ⟨e4, s4, o4⟩ := after e s' o
      refine h C dd G' H' hm e4 s4 (fun p z => ?_) f
      rcases o4 p z with z | z
      · exact o2 p ((own_app l2).mpr (.inl z))
      · exact oR p (o p z)
theorem sv_call {X : Cx} {k : Nat} {f : Addr} {fd : FuncData} {ps : List Str} {F : FS} {x : Str} {p pos : Pos} {e : Expr} {es : List Expr} {os : List Op} (Fk : FnOk X.prog X.w X.K X.mg X.base (L2.CX X.prog X.w) k f fd ps (spOf X.K X.mg F)) (hr : Room k X.A) (hg : Gl X x)
    (hm : X.mg x = some (.ref f)) (hk : PySem.W.keepIn X.K (.ref f) = true) (hb : L2.Binds X.K fd ps []) (tk : Takes X W) (ha : PA X (e :: es) (tOs X.K X.mg W os)) (hn : os.length = F.n) (hdb : (x == ("__debug__" : Str)) = false)
    (he : starEach (e :: es) X.env = (false, eval e X.env) :: starEach es X.env) (hpl : (backTo pos (starEach es X.env)).any (·.1) = false) : PE X (.Call (.Name x p) (e :: es) [] pos) (tV X.K X.mg W (fCall F os)) :=
  PE.imp (pe_callS Fk hr hg hm hk hb (fun σ => passAt tk σ) ha hdb he hpl) fun σ H Q ⟨G, ρ, st, q⟩ => ⟨G, ρ, st, (Pst.bind q).mono fun as ρ1 G1 H1 e st1 o1 k vs hvs => by
    refine call_imp st1 hvs hn ((k e st1 o1).mono fun s ρ' G' H' _ _ _ k v hv => k v (hv.weaken (e.back o1)))⟩
end
end E2
end

section
set_option Elab.async false
set_option linter.all false
set_option maxRecDepth 100000
set_option maxHeartbeats 4000000
/-! E5: statements by functions of environments; loops; a def's body. -/
namespace E2
open PySem PySem.Spec PyProof.Rows L2
inductive SO where
  | nxt (ρ : Env)
  | ret (s : Slot) (ρ : Env)
  | brk (ρ : Env)
  | cnt (ρ : Env)
  | err (x : Str) (fs : List (Str × Dt)) (ρ : Env)
  | bad
abbrev SF := Env → SO
def sbind {α : Type} : R (α × Env) → (α → Env → SO) → SO
  | .ok (a, ρ), g => g a ρ
  | .err x fs ρ, _ => .err x fs ρ
  | .bad, _ => .bad
def SO.then : SO → SF → SO
  | .nxt ρ, g => g ρ
  | .ret s ρ, _ => .ret s ρ
  | .brk ρ, _ => .brk ρ
  | .cnt ρ, _ => .cnt ρ
  | .err x fs ρ, _ => .err x fs ρ
  | .bad, _ => .bad
/-- behind one turn of a loop -/
def SO.turn : SO → SF → SO
  | .nxt ρ, g => g ρ
  | .cnt ρ, g => g ρ
  | .brk ρ, _ => .nxt ρ
  | .ret s ρ, _ => .ret s ρ
  | .err x fs ρ, _ => .err x fs ρ
  | .bad, _ => .bad
section
variable (K : PySem.W.Frag) (mg : Str → Option Value)
structure Aft (P : Addr → Prop) (G H : Hp) (σ : L2.St) (A : List Nat) (G' H' : Hp) (σ' : L2.St) (ρ' : Env) : Prop where
  ext : Ext P G H G' H'
  st : Stt K mg G' H' σ' ρ'
  own : ∀ p, Own σ' ρ' p → P p ∨ H p = none
  len : σ'.length = σ.length
  same : ∀ i : Nat, i ∉ A → σ'[i]? = σ[i]?
def SPst (W : WX) (σ : L2.St) (A : List Nat) (P : Addr → Prop) (G H : Hp) (out : SO) (D : Ends) : Prop :=
  match out with
  | .nxt ρ' => ∀ G' H' σ', Aft K mg P G H σ A G' H' σ' ρ' → D.nx σ' H'
  | .brk ρ' => ∀ G' H' σ', Aft K mg P G H σ A G' H' σ' ρ' → D.bk σ' H'
  | .cnt ρ' => ∀ G' H' σ', Aft K mg P G H σ A G' H' σ' ρ' → D.ct σ' H'
  | .ret s ρ' => ∀ G' H' σ' v, Aft K mg P G H σ A G' H' σ' ρ' → VR K mg P H G' H' σ' ρ' v s → D.rt v H'
  | .err x fs ρ' => ∀ C dd G' H' σ', mg x = some (.ref C) → Aft K mg P G H σ A G' H' σ' ρ' → FldOk K mg G' H' dd fs → W (.ref C) dd σ' H'
  | .bad => False
def tS (W : WX) (A : List Nat) (f : SF) : TS := fun D σ H => ∃ G ρ, Stt K mg G H σ ρ ∧ SPst K mg W σ A (Own σ ρ) G H (f ρ) D
end
section
variable {K : PySem.W.Frag} {mg : Str → Option Value} {G G' H H' G1 H1 G2 H2 : Hp} {P P1 : Addr → Prop} {σ σ' σ1 : L2.St} {ρ ρ' ρ1 : Env} {W : WX} {A B : List Nat} {D D' : Ends}
theorem Aft.refl (s : Stt K mg G H σ ρ) : Aft K mg (Own σ ρ) G H σ A G H σ ρ := ⟨Ext.refl _ _ _, s, fun _ z => .inl z, rfl, fun _ _ => rfl⟩
theorem Aft.trans (a : Aft K mg P G H σ A G1 H1 σ1 ρ1) (b : Aft K mg (Own σ1 ρ1) G1 H1 σ1 B G2 H2 σ' ρ') (hA : ∀ i ∈ A, i ∈ B) : Aft K mg P G H σ B G2 H2 σ' ρ' where
  ext := a.ext.trans b.ext a.own
  st := b.st
  own := fun p z => by
    rcases b.own p z with y | y
    · exact a.own p y
    · exact (a.ext.fresh y).symm
  len := b.len.trans a.len
  same := fun i hi => (b.same i hi).trans (a.same i fun z => hi (hA i z))
theorem SPst.ext {out : SO} (h : SPst K mg W σ B P G H out D) (a : Aft K mg P G H σ A G1 H1 σ1 ρ1) (hA : ∀ i ∈ A, i ∈ B) : SPst K mg W σ1 B (Own σ1 ρ1) G1 H1 out D := by
  cases out with
  | nxt ρ' => exact fun G' H' σ' b => h _ _ _ (a.trans b hA)
  | brk ρ' => exact fun G' H' σ' b => h _ _ _ (a.trans b hA)
  | cnt ρ' => exact fun G' H' σ' b => h _ _ _ (a.trans b hA)
  | ret s ρ' => exact fun G' H' σ' v b r => h _ _ _ v (a.trans b hA) (r.weaken fun p z => by
      rcases z with z | z
      · exact a.ext.fresh z
      · exact (a.own p z).symm)
  | err x fs ρ' => exact fun C dd G' H' σ' hm b f => h C dd _ _ _ hm (a.trans b hA) f
  | bad => exact h
theorem SPst.mono {out : SO} (h : SPst K mg W σ A P G H out D) (hA : ∀ i ∈ B, i ∈ A) : SPst K mg W σ B P G H out D := by
  have w : ∀ {G' H' σ' ρ'}, Aft K mg P G H σ B G' H' σ' ρ' → Aft K mg P G H σ A G' H' σ' ρ' := fun b => ⟨b.ext, b.st, b.own, b.len, fun i hi => b.same i fun z => hi (hA i z)⟩
  cases out with
  | nxt ρ' => exact fun G' H' σ' b => h _ _ _ (w b)
  | brk ρ' => exact fun G' H' σ' b => h _ _ _ (w b)
  | cnt ρ' => exact fun G' H' σ' b => h _ _ _ (w b)
  | ret s ρ' => exact fun G' H' σ' v b r => h _ _ _ v (w b) r
  | err x fs ρ' => exact fun C dd G' H' σ' hm b f => h C dd _ _ _ hm (w b) f
  | bad => exact h
theorem tS_mono {f : SF} {st : List Stmt} {X : Cx} (h : PSs X st (tS K mg W A f)) (hA : ∀ i ∈ A, i ∈ B) : PSs X st (tS K mg W B f) := PSs.imp h fun D σ H ⟨G, ρ, s, q⟩ => ⟨G, ρ, s, q.mono hA⟩
theorem tS_mono1 {f : SF} {st : Stmt} {X : Cx} (h : PS X st (tS K mg W A f)) (hA : ∀ i ∈ A, i ∈ B) : PS X st (tS K mg W B f) := PS.imp h fun D σ H ⟨G, ρ, s, q⟩ => ⟨G, ρ, s, q.mono hA⟩
/-- an expression first -/
theorem SPst.sbind {α : Type} {out : R (α × Env)} {g : α → Env → SO} (h : SPst K mg W σ A (Own σ ρ) G H (sbind out g) D) :
    Pst K mg W (Own σ ρ) G H σ out fun a ρ' G' H' => Aft K mg (Own σ ρ) G H σ [] G' H' σ ρ' → SPst K mg W σ A (Own σ ρ') G' H' (g a ρ') D := by
  cases out with
  | ok a =>
    obtain ⟨a, ρ1⟩ := a
    intro G' H' e st o b
    have h : SPst K mg W σ A (Own σ ρ) G H (g a ρ1) D := h
    exact h.ext b fun _ z => nomatch z
  | err x fs ρ' =>
    intro C dd G' H' hm e st o f
    exact h C dd G' H' σ hm ⟨e, st, fun p z => .inl (o p z), rfl, fun _ _ => rfl⟩ f
  | bad => exact h
theorem aft_expr {ρ' : Env} (e : Ext (Own σ ρ) G H G' H') (st : Stt K mg G' H' σ ρ') (o : ∀ p, Own σ ρ' p → Own σ ρ p) : Aft K mg (Own σ ρ) G H σ A G' H' σ ρ' := ⟨e, st, fun p z => .inl (o p z), rfl, fun _ _ => rfl⟩

/-! ### blocks -/
def fNil : SF := fun ρ => .nxt ρ
def fSeq2 (f g : SF) : SF := fun ρ => (f ρ).then g
section
variable {X : Cx} {st : Stmt} {rest : List Stmt} {f g : SF} {pos : Pos}
theorem ss_nil : PSs X [] (tS X.K X.mg W A fNil) := PSs.imp pss_nil fun D σ H ⟨G, ρ, s, q⟩ => q G H σ (Aft.refl s)
theorem ss_cons (h1 : PS X st (tS X.K X.mg W A f)) (h2 : PSs X rest (tS X.K X.mg W A g)) : PSs X (st :: rest) (tS X.K X.mg W A (fSeq2 f g)) := by
  refine PSs.imp (pss_cons h1 h2) fun D σ H ⟨G, ρ, s, q⟩ => ⟨G, ρ, s, ?_⟩
  have q : SPst X.K X.mg W σ A (Own σ ρ) G H ((f ρ).then g) D := q
  generalize f ρ = out at q ⊢
  cases out with
  | nxt ρ' => exact fun G' H' σ' a => ⟨G', ρ', a.st, SPst.ext q a fun _ z => z⟩
  | brk ρ' => exact q
  | cnt ρ' => exact q
  | ret s ρ' => exact q
  | err x fs ρ' => exact q
  | bad => exact q
theorem ss_pass : PS X (.Pass pos) (tS X.K X.mg W A fNil) := PS.imp ps_pass fun D σ H ⟨G, ρ, s, q⟩ => q G H σ (Aft.refl s)
def fBrk : SF := fun ρ => .brk ρ
def fCnt : SF := fun ρ => .cnt ρ
theorem ss_break : PS X (.Break pos) (tS X.K X.mg W A fBrk) := PS.imp ps_break fun D σ H ⟨G, ρ, s, q⟩ => q G H σ (Aft.refl s)
theorem ss_continue : PS X (.Continue pos) (tS X.K X.mg W A fCnt) := PS.imp ps_continue fun D σ H ⟨G, ρ, s, q⟩ => q G H σ (Aft.refl s)
theorem ss_doc {x j pos pos'} : PS X (.Expr (.Constant (.str x) j pos) pos') (tS X.K X.mg W A fNil) := PS.imp ps_doc fun D σ H ⟨G, ρ, s, q⟩ => q G H σ (Aft.refl s)
def fDrop (f : EE) : SF := fun ρ => sbind (f ρ) fun _ ρ' => .nxt ρ'
theorem ss_expr {e : Expr} {f : EE} (he : PE X e (tE X.K X.mg W f)) (hs : swapsWith e none pos.line X.env = pure false) : PS X (.Expr e pos) (tS X.K X.mg W A (fDrop f)) :=
  PS.imp (ps_expr he hs) fun D σ H ⟨G, ρ, s, q⟩ => ⟨G, ρ, s, q.sbind.mono fun d ρ' G' H' e st o k v _ => k (aft_expr e st o) G' H' σ (Aft.refl st)⟩
def fRet (f : EV) : SF := fun ρ => sbind (f ρ) fun s ρ' => .ret s ρ'
theorem ss_ret {e : Expr} {f : EV} (he : PE X e (tV X.K X.mg W f)) : PS X (.Return (some e) pos) (tS X.K X.mg W A (fRet f)) :=
  PS.imp (ps_ret he) fun D σ H ⟨G, ρ, s, q⟩ => by
    refine ⟨G, ρ, s, ?_⟩
    have q : SPst X.K X.mg W σ A (Own σ ρ) G H (sbind (f ρ) fun s ρ' => .ret s ρ') D := q
    generalize f ρ = out at q ⊢
    cases out with
    | ok a => exact fun G' H' e st o v hv => q G' H' σ v (aft_expr e st o) hv
    | err x fs ρ' => exact fun C dd G' H' hm e st o f => q C dd G' H' σ hm (aft_expr e st o) f
    | bad => exact q
def fRetN : SF := fun ρ => .ret (.sh .non) ρ
theorem ss_retN : PS X (.Return none pos) (tS X.K X.mg W A fRetN) := PS.imp ps_retN fun D σ H ⟨G, ρ, s, q⟩ => q G H σ .non (Aft.refl s) .non
/-! ### stores -/
theorem Stt.put (st : Stt K mg G' H' σ ρ') {v : V} {s : Slot} (r : VR K mg P H G' H' σ ρ' v s) (i : Nat) : Stt K mg G' H' (σ.set i (some v)) (ρ'.set i s) ∧ ∀ p, Own (σ.set i (some v)) (ρ'.set i s) p → Own σ ρ' p ∨ H p = none ∨ P p := by
  have src : ∀ {j p}, Ows (σ.set i (some v)) (ρ'.set i s) j p → (j = i ∧ v = .ref p ∧ (H p = none ∨ P p) ∧ ¬ Own σ ρ' p) ∨ (j ≠ i ∧ Ows σ ρ' j p) := fun {j p} ⟨⟨d, e⟩, e2⟩ => by
    rcases set_get e with ⟨rfl, rfl⟩ | ⟨ne, e⟩
    · rcases set_get e2 with ⟨_, z⟩ | ⟨n, _⟩
      · cases z
        obtain ⟨q, e1, _, e3, _, e5⟩ := r
        cases e1
        exact .inl ⟨rfl, rfl, e5, e3⟩
      · exact absurd rfl n
    · rcases set_get e2 with ⟨n, _⟩ | ⟨_, e2⟩
      · exact absurd n ne
      · exact .inr ⟨Ne.symm ne, ⟨d, e⟩, e2⟩
  refine ⟨⟨st.le, by rw [List.length_set, List.length_set]; exact st.len, fun j u hu => ?_, fun a b p h1 h2 => ?_⟩, fun p ⟨j, h⟩ => ?_⟩
  · rcases set_get hu with ⟨rfl, rfl⟩ | ⟨ne, hu⟩
    · have hi : i < σ.length := by
        have := (List.getElem?_eq_some_iff.mp hu).1
        rw [List.length_set] at this
        rw [st.len]; exact this
      rw [List.getElem?_set_self hi]
      cases u with
      | dead => trivial
      | sh d => exact ⟨v, rfl, r⟩
      | ow d => obtain ⟨p, rfl, g, _, o, _⟩ := r; exact ⟨p, rfl, g, o⟩
    · rw [List.getElem?_set_ne ne]; exact st.slot j u hu
  · rcases src h1 with ⟨ea, _, _, n1⟩ | ⟨_, h1⟩
    · rcases src h2 with ⟨eb, _⟩ | ⟨_, h2⟩
      · rw [ea, eb]
      · exact absurd ⟨_, h2⟩ n1
    · rcases src h2 with ⟨eb, _, _, n2⟩ | ⟨_, h2⟩
      · exact absurd ⟨_, h1⟩ n2
      · exact st.inj a b p h1 h2
  · rcases src h with ⟨_, _, z, _⟩ | ⟨_, h⟩
    · exact .inr z
    · exact .inl ⟨_, h⟩
def fAsg (i : Nat) (f : EV) : SF := fun ρ => sbind (f ρ) fun s ρ' => .nxt (ρ'.set i s)
/-- what behind any reading of a store at the slot i -/
theorem asg_imp {f : EV} {i : Nat} (hi : i ∈ A) {D : Ends} (h : tS K mg W A (fAsg i f) D σ H) : tAsg (tV K mg W f) (gName i) D σ H := by
  obtain ⟨G, ρ, s, q⟩ := h
  refine ⟨G, ρ, s, ?_⟩
  have q : SPst K mg W σ A (Own σ ρ) G H (sbind (f ρ) fun s ρ' => .nxt (ρ'.set i s)) D := q
  generalize f ρ = out at q ⊢
  cases out with
  | ok a =>
    obtain ⟨s', ρ'⟩ := a
    intro G' H' e st o v hv
    obtain ⟨st2, o2⟩ := st.put hv i
    refine q G' H' _ ⟨e, st2, fun p z => ?_, by rw [List.length_set], fun j hj => ?_⟩
    · rcases o2 p z with z | z | z
      · exact .inl (o p z)
      · exact .inr z
      · exact .inl z
    · have ne : i ≠ j := fun z => hj (z ▸ hi)
      rw [List.getElem?_set_ne ne]
  | err x fs ρ' => exact fun C dd G' H' hm e st o f => q C dd G' H' σ hm (aft_expr e st o) f
  | bad => exact q
theorem ss_asg {i : Nat} {x : Str} {e : Expr} {f : EV} {pos' : Pos} (hN : X.N.Nodup) (hi : X.N[i]? = some x) (hx : Loc X.env.scope x) (he : PE X e (tV X.K X.mg W f)) (hs : swapsWith e (some (.Name x pos')) pos.line X.env = pure false)
    (hf : X.fn x = true ∨ X.env.scope.names.lookup x = some .local) (hA : i ∈ A) : PS X (.Assign [.Name x pos'] e pos) (tS X.K X.mg W A (fAsg i f)) :=
  PS.imp (ps_set hN hi hx he hs hf) fun D σ H h => asg_imp hA h

/-! ### if -/
def fIf (c : Env → R (Bool × Env)) (f g : SF) : SF := fun ρ => sbind (c ρ) fun b ρ1 => if b then f ρ1 else g ρ1
theorem ss_if {c : Expr} {a b : List Stmt} {tc : Env → R (Bool × Env)} (hc : PT X c (tT X.K X.mg W tc)) (ha : PSs X a (tS X.K X.mg W A f)) (hb : PSs X b (tS X.K X.mg W A g)) : PS X (.If c a b pos) (tS X.K X.mg W A (fIf tc f g)) :=
  PS.imp (ps_if hc ha hb) fun D σ H ⟨G, ρ, s, q⟩ => ⟨G, ρ, s, q.sbind.mono fun b ρ' G' H' e st o k => by
    have k := k (aft_expr e st o)
    cases b with
    | true => exact ⟨G', ρ', st, k⟩
    | false => exact ⟨G', ρ', st, k⟩⟩

/-! ### while -/
def whileS (c : Env → R (Bool × Env)) (f : SF) : Nat → SF
  | 0, _ => .bad
  | n + 1, ρ => sbind (c ρ) fun b ρ1 => if b then (f ρ1).turn (whileS c f n) else .nxt ρ1
theorem turn_pst {out : SO} {rest : SF} (q : SPst K mg W σ A P G H (out.turn rest) D) {N : L2.St → Hp → Prop} (hN : ∀ G' H' σ' ρ', Aft K mg P G H σ A G' H' σ' ρ' → SPst K mg W σ A P G H (rest ρ') D → N σ' H') :
    SPst K mg W σ A P G H out { D with nx := N, ct := N, bk := D.nx } := by
  cases out with
  | nxt ρ' => exact fun G' H' σ' a => hN _ _ _ _ a q
  | cnt ρ' => exact fun G' H' σ' a => hN _ _ _ _ a q
  | brk ρ' => exact q
  | ret s ρ' => exact q
  | err x fs ρ' => exact q
  | bad => exact q
theorem ss_while {c : Expr} {body : List Stmt} {tc : Env → R (Bool × Env)} (n : Nat) (hp : PassesOwn (model X.prog X.w) X.A X.env X.xe) (hc : PT X c (tT X.K X.mg W tc)) (hb : PSs X body (tS X.K X.mg W A f)) : PS X (.While c body [] pos) (tS X.K X.mg W A (whileS tc f n)) := by
  refine PS.imp (ps_while hp hc hb) fun D σ H ⟨G, ρ, s, q⟩ => ?_
  refine ⟨fun m σ H => ∃ G ρ, Stt X.K X.mg G H σ ρ ∧ SPst X.K X.mg W σ A (Own σ ρ) G H (whileS tc f m ρ) D, ⟨n, G, ρ, s, q⟩, fun m σ H ⟨G, ρ, s, q⟩ => ?_⟩
  cases m with
  | zero => exact q.elim
  | succ m =>
    have q : SPst X.K X.mg W σ A (Own σ ρ) G H (sbind (tc ρ) fun b ρ1 => if b then (f ρ1).turn (whileS tc f m) else .nxt ρ1) D := q
    refine ⟨G, ρ, s, q.sbind.mono fun b ρ' G' H' e st o k => ?_⟩
    have k := k (aft_expr e st o)
    cases b with
    | false => exact k G' H' σ (Aft.refl st)
    | true =>
      refine ⟨fun σ' H' => ∃ G ρ, Stt X.K X.mg G H' σ' ρ ∧ SPst X.K X.mg W σ' A (Own σ' ρ) G H' (whileS tc f m ρ) D, fun σ' H' h => ⟨m, Nat.lt_succ_self m, h⟩, ?_⟩
      refine ⟨G', ρ', st, turn_pst k fun G2 H2 σ2 ρ2 a q2 => ⟨G2, ρ2, a.st, q2.ext a fun _ z => z⟩⟩

/-! ### for -/
/-- the iterator J gives the items, as long as G0 stands -/
structure WalkD (K : PySem.W.Frag) (mg : Str → Option Value) (G0 : Hp) (J : It) (items : List Dt) : Prop where
  ex : ∃ (Gd : Hp → Prop) (Y : Nat → Hp → V → Hp → Prop), Walk J items.length Gd Y ∧ (∀ G H, Sub G0 G → Le G H → Gd H) ∧
    ∀ i H x H' G, i < items.length → Sub G0 G → Le G H → Y i H x H' → ∃ d G', items[i]? = some d ∧ Ext No G H G' H' ∧ Le G' H' ∧ Rp K mg G' x d
def tI (K : PySem.W.Frag) (mg : Str → Option Value) (W : WX) (f : Env → R (List Dt × Env)) : TI := fun σ H R => ∃ G ρ, Stt K mg G H σ ρ ∧ Pst K mg W (Own σ ρ) G H σ (f ρ) fun items ρ' G' H' => ∀ J, WalkD K mg G' J items → R J H'
/-- a target of stores -/
def tG (K : PySem.W.Frag) (mg : Str → Option Value) (A : List Nat) (a : Dt → Env → Option Env) : TG := fun v σ H Q => ∃ G ρ d, Stt K mg G H σ ρ ∧ Rp K mg G v d ∧ ∃ ρ', a d ρ = some ρ' ∧
  ∀ σ', Stt K mg G H σ' ρ' → (∀ p, Own σ' ρ' p → Own σ ρ p) → σ'.length = σ.length → (∀ i : Nat, i ∉ A → σ'[i]? = σ[i]?) → Q σ' H
def tGs (K : PySem.W.Frag) (mg : Str → Option Value) (A : List Nat) (a : List Dt → Env → Option Env) : TGs := fun vs σ H Q => ∃ G ρ ds, Stt K mg G H σ ρ ∧ RpAll K mg G vs ds ∧ ∃ ρ', a ds ρ = some ρ' ∧
  ∀ σ', Stt K mg G H σ' ρ' → (∀ p, Own σ' ρ' p → Own σ ρ p) → σ'.length = σ.length → (∀ i : Nat, i ∉ A → σ'[i]? = σ[i]?) → Q σ' H
theorem PG.imp {tg : Expr} {t t' : TG} (h : PG X tg t) (i : ∀ v σ H Q, t' v σ H Q → t v σ H Q) : PG X tg t' := ⟨fun pins s σ H v u Q I r q => h.run pins s σ H v u Q I r (i v σ H Q q)⟩
theorem PGs.imp {tg : List Expr} {t t' : TGs} (h : PGs X tg t) (i : ∀ v σ H Q, t' v σ H Q → t v σ H Q) : PGs X tg t' := ⟨fun pins s σ H v u Q I r q => h.run pins s σ H v u Q I r (i v σ H Q q)⟩
def gAsg (i : Nat) : Dt → Env → Option Env := fun d ρ => some (ρ.set i (.sh d))
theorem Stt.putsh (st : Stt K mg G H σ ρ) {v : V} {d : Dt} (r : Rp K mg G v d) (i : Nat) : Stt K mg G H (σ.set i (some v)) (ρ.set i (.sh d)) ∧ ∀ p, Own (σ.set i (some v)) (ρ.set i (.sh d)) p → Own σ ρ p := by
  obtain ⟨s2, _⟩ := st.put (P := No) (H := H) (v := v) (s := .sh d) r i
  refine ⟨s2, fun p ⟨j, ⟨d', e⟩, e2⟩ => ?_⟩
  rcases set_get e with ⟨_, z⟩ | ⟨ne, e⟩
  · cases z
  · rcases set_get e2 with ⟨n, _⟩ | ⟨_, e2⟩
    · exact absurd n ne
    · exact ⟨j, ⟨d', e⟩, e2⟩
theorem sg_name {i : Nat} {x : Str} {pos : Pos} (hN : X.N.Nodup) (hi : X.N[i]? = some x) (hx : Loc X.env.scope x) (hf : X.fn x = true ∨ X.env.scope.names.lookup x = some .local) (hA : i ∈ A) : PG X (.Name x pos) (tG X.K X.mg A (gAsg i)) :=
  PG.imp (pg_name hN hi hx hf) fun v σ H Q ⟨G, ρ, d, st, r, ρ', e, k⟩ => by
    cases e
    obtain ⟨s2, o2⟩ := st.putsh r i
    exact k _ s2 o2 (by rw [List.length_set]) fun j hj => by
      have ne : i ≠ j := fun z => hj (z ▸ hA)
      rw [List.getElem?_set_ne ne]
def gsNil : List Dt → Env → Option Env
  | [], ρ => some ρ
  | _ :: _, _ => none
def gsCons (g : Dt → Env → Option Env) (gs : List Dt → Env → Option Env) : List Dt → Env → Option Env
  | d :: ds, ρ => (g d ρ).bind (gs ds)
  | [], _ => none
def gTupA (gs : List Dt → Env → Option Env) : Dt → Env → Option Env
  | .tup ds, ρ => gs ds ρ
  | _, _ => none
theorem sgs_nil : PGs X [] (tGs X.K X.mg A gsNil) := PGs.imp pgs_nil fun vs σ H Q ⟨G, ρ, ds, st, r, ρ', e, k⟩ => by
  cases r with
  | nil => cases e; exact ⟨rfl, k σ st (fun _ z => z) rfl fun _ _ => rfl⟩
  | cons _ _ => cases e
theorem sgs_cons {e : Expr} {es : List Expr} {g : Dt → Env → Option Env} {gs : List Dt → Env → Option Env} (h1 : PG X e (tG X.K X.mg A g)) (h2 : PGs X es (tGs X.K X.mg A gs))
    (hs : (assignEach (e :: es) X.env).map (·.2) = assign e X.env :: (assignEach es X.env).map (·.2)) : PGs X (e :: es) (tGs X.K X.mg A (gsCons g gs)) :=
  PGs.imp (pgs_cons h1 h2 hs) fun vs σ H Q ⟨G, ρ, ds, st, r, ρ', e, k⟩ => by
    cases r with
    | nil => cases e
    | @cons v vs d ds r1 r2 =>
      have e : (g d ρ).bind (gs ds) = some ρ' := e
      cases q : g d ρ with
      | none => rw [q] at e; cases e
      | some ρ1 =>
        rw [q] at e
        refine ⟨v, vs, rfl, G, ρ, d, st, r1, ρ1, q, fun σ1 st1 o1 l1 s1 => ?_⟩
        exact ⟨G, ρ1, ds, st1, r2, ρ', e, fun σ2 st2 o2 l2 s2 => k σ2 st2 (fun p z => o1 p (o2 p z)) (l2.trans l1) fun i hi => (s2 i hi).trans (s1 i hi)⟩
theorem rp_tup {v : V} {ds : List Dt} (h : Rp K mg G v (.tup ds)) : ∃ a xs, v = .ref a ∧ SqT K G a xs ∧ RpAll K mg G xs ds := by
  cases h with
  | tup h r => exact ⟨_, _, rfl, .inl (.inl h), r⟩
theorem sg_tup {es : List Expr} {k n : Nat} {gs : List Dt → Env → Option Env} (hc : X.calm = true) (h : PGs X es (tGs X.K X.mg A gs)) (hn : (assignEach es X.env).length = n) (hst : (assignEach es X.env).findIdx? (·.1) = none)
    (hgl : ∀ ds ρ ρ', gs ds ρ = some ρ' → ds.length = n) : PG X (.Tuple es k pos) (tG X.K X.mg A (gTupA gs)) :=
  PG.imp (pg_tup hc h hn hst) fun v σ H Q ⟨G, ρ, d, st, r, ρ', e, k⟩ => by
    cases d with
    | tup ds =>
      obtain ⟨a, xs, rfl, hs, ra⟩ := rp_tup r
      exact ⟨a, xs, rfl, sqT_le st.le hs, by rw [ra.length]; exact hgl ds ρ ρ' e, G, ρ, ds, st, ra, ρ', e, k⟩
    | _ => cases e
def forS (a : Dt → Env → Option Env) (f : SF) : List Dt → SF
  | [], ρ => .nxt ρ
  | d :: ds, ρ => match a d ρ with
    | some ρ1 => (f ρ1).turn (forS a f ds)
    | none => .bad
def fFor (it : Env → R (List Dt × Env)) (a : Dt → Env → Option Env) (f : SF) : SF := fun ρ => sbind (it ρ) fun items ρ1 => forS a f items ρ1
theorem Stt.sub_ext (st : Stt K mg G H σ ρ) (e : Ext No G H G' H') (l : Le G' H') : Aft K mg (Own σ ρ) G H σ A G' H' σ ρ := ⟨e.no, st.ext0 e l, fun p z => .inl z, rfl, fun _ _ => rfl⟩
/-- the loop, by what a for's rule asks -/
theorem for_imp {it : Env → R (List Dt × Env)} {a : Dt → Env → Option Env} {f : SF} {D : Ends} (h : tS K mg W A (fFor it a f) D σ H) : tFor (tI K mg W it) (tG K mg A a) (tS K mg W A f) D σ H := by
  obtain ⟨G, ρ, s, q⟩ := h
  refine ⟨G, ρ, s, q.sbind.mono fun items ρ' G0 H0 e st o k J wd => ?_⟩
  have k := k (aft_expr e st o)
  obtain ⟨Gd, Y, wk, hG, hY⟩ := wd.ex
  refine ⟨fun i m σ' H' => m = items.length - i ∧ i ≤ items.length ∧ ∃ G ρ, Sub G0 G ∧ Stt K mg G H' σ' ρ ∧ SPst K mg W σ' A (Own σ' ρ) G H' (forS a f (items.drop i) ρ) D,
    ⟨items.length, by simp, Nat.zero_le _, G0, ρ', Sub.refl _, st, k⟩, ?_⟩
  rintro i m σ1 H1 ⟨rfl, hi, G1, ρ1, sb, st1, q1⟩
  by_cases hlt : i < items.length
  · have hd : items.drop i = items[i] :: items.drop (i + 1) := List.drop_eq_getElem_cons hlt
    rw [hd] at q1
    have q1 : SPst K mg W σ1 A (Own σ1 ρ1) G1 H1 (match a items[i] ρ1 with
      | some ρ1 => (f ρ1).turn (forS a f (items.drop (i + 1)))
      | none => .bad) D := q1
    refine .inr ⟨wk.goes i H1 hlt (hG G1 H1 sb st1.le), fun σ' H' => ∃ G ρ, Sub G0 G ∧ Stt K mg G H' σ' ρ ∧ SPst K mg W σ' A (Own σ' ρ) G H' (forS a f (items.drop (i + 1)) ρ) D, fun σ' H' h => ⟨items.length - (i + 1), by omega, rfl, hlt, h⟩, fun x H2 y => ?_⟩
    obtain ⟨d, G2, ed, e2, l2, rx⟩ := hY i H1 x H2 G1 hlt sb st1.le (wk.yields i H1 x H2 hlt (hG G1 H1 sb st1.le) y)
    rw [List.getElem?_eq_getElem hlt] at ed
    cases ed
    have st2 := st1.ext0 e2 l2
    cases qa : a items[i] ρ1 with
    | none => rw [qa] at q1; exact q1.elim
    | some ρ2 =>
      rw [qa] at q1
      refine ⟨G2, ρ1, items[i], st2, rx, ρ2, qa, fun σ3 st3 o3 ln3 s3 => ?_⟩
      have aft3 : Aft K mg (Own σ1 ρ1) G1 H1 σ1 A G2 H2 σ3 ρ2 := ⟨e2.no, st3, fun p z => .inl (o3 p z), ln3, s3⟩
      have q2 : SPst K mg W σ1 A (Own σ1 ρ1) G1 H1 ((f ρ2).turn (forS a f (items.drop (i + 1)))) D := q1
      have q3 := q2.ext aft3 fun _ z => z
      exact ⟨G2, ρ2, st3, turn_pst q3 fun G' H' σ' ρ' b qn => ⟨G', ρ', (sb.trans e2.sub).trans b.ext.sub, b.st, qn.ext b fun _ z => z⟩⟩
  · have ei : i = items.length := by omega
    subst ei
    rw [List.drop_length] at q1
    exact .inl ⟨wk.stops H1 (hG G1 H1 sb st1.le), q1 G1 H1 σ1 (Aft.refl st1)⟩
theorem ss_for {tg iter : Expr} {body : List Stmt} {it : Env → R (List Dt × Env)} {a : Dt → Env → Option Env} (hp : PassesOwn (model X.prog X.w) X.A X.env X.xe) (hc : X.calm = true) (hi : PI X tg iter (tI X.K X.mg W it)) (hg : PG X tg (tG X.K X.mg A a)) (hb : PSs X body (tS X.K X.mg W A f))
    (hs : ∀ x, foldedSetIterable iter X.env x = pure x) : PS X (.For tg iter body [] pos) (tS X.K X.mg W A (fFor it a f)) :=
  PS.imp (ps_for hp hc hi hg hb hs) fun D σ H h => for_imp h
end
end
end E2
end

section
set_option Elab.async false
set_option linter.all false
set_option maxRecDepth 100000
set_option maxHeartbeats 4000000
/-! E6: a def's body keeps its function's promise; comprehensions. -/
namespace E2
open PySem PySem.Spec PyProof.Rows L2
/-- what is told of the parameters at the end: of those that came owned and are never stored -/
def outS : Bool → Slot → Slot → Slot
  | true, .ow _, s => s
  | _, _, _ => .dead
def outs : List Bool → Env → Env → Env
  | c :: cs, a :: α, s :: ρ => outS c a s :: outs cs α ρ
  | _, _, _ => []
def bodyR (cst : List Bool) (α : Env) : SO → R (Slot × Env)
  | .ret s ρ => .ok (s, outs cst α ρ)
  | .nxt ρ => .ok (.sh .non, outs cst α ρ)
  | .err x fs ρ => .err x fs (outs cst α ρ)
  | _ => .bad
def fnS (n m : Nat) (cst : List Bool) (sf : SF) : FS := ⟨n, cst, fun α => bodyR cst α (sf (α ++ List.replicate m .dead))⟩
section
variable {K : PySem.W.Frag} {mg : Str → Option Value} {G G' H H' : Hp} {P : Addr → Prop} {σ τ σ' : L2.St} {ρ ρ' α : Env}
theorem rep_get {α : Type} {n i : Nat} {x y : α} (h : (List.replicate n x)[i]? = some y) : y = x := by
  rw [List.getElem?_replicate] at h
  split at h
  · exact (Option.some.inj h).symm
  · cases h
theorem Stt.deads (s : Stt K mg G H σ α) (m : Nat) : Stt K mg G H (σ ++ List.replicate m none) (α ++ List.replicate m .dead) ∧ ∀ p, Own (σ ++ List.replicate m none) (α ++ List.replicate m .dead) p → Own σ α p := by
  have key : ∀ {i p}, Ows (σ ++ List.replicate m none) (α ++ List.replicate m Slot.dead) i p → Ows σ α i p := fun {i p} h => by
    rcases ows_app s.len h with ⟨_, h⟩ | ⟨_, ⟨d, e⟩, _⟩
    · exact h
    · have := rep_get e; cases this
  refine ⟨s.re (by simp [s.len]) (fun j u hu => ?_) fun i j p h1 h2 => s.inj i j p (key h1) (key h2), fun p ⟨i, h⟩ => ⟨i, key h⟩⟩
  rcases app_get hu with ⟨l, hu⟩ | ⟨l, hu⟩
  · exact .inr ⟨j, hu, List.getElem?_append_left (by have := s.len; omega)⟩
  · have := rep_get hu
    subst this
    exact .inl trivial
theorem outs_len : ∀ {cst : List Bool} {α ρ : Env}, cst.length ≤ ρ.length → cst.length = α.length → (outs cst α ρ).length = cst.length
  | [], _, _, _, _ => rfl
  | _ :: _, _, [], h, _ => by simp at h
  | _ :: _, [], _ :: _, _, h => by simp at h
  | _ :: cs, _ :: α, _ :: ρ, h, h2 => by
    show (outs cs α ρ).length + 1 = cs.length + 1
    rw [outs_len (by simpa using h) (by simpa using h2)]
theorem outs_get : ∀ {cst : List Bool} {α ρ : Env} {i : Nat} {u : Slot}, (outs cst α ρ)[i]? = some u → u = .dead ∨ (cst[i]? = some true ∧ (∃ d, α[i]? = some (.ow d)) ∧ ρ[i]? = some u)
  | [], _, _, _, _, h => by simp [outs] at h
  | _ :: _, _, [], _, _, h => by simp [outs] at h
  | _ :: _, [], _ :: _, _, _, h => by simp [outs] at h
  | c :: cs, a :: α, s :: ρ, 0, u, h => by
    have h : some (outS c a s) = some u := h
    cases c with
    | false => cases h; exact .inl rfl
    | true =>
      cases a with
      | ow d => cases h; exact .inr ⟨rfl, ⟨d, rfl⟩, rfl⟩
      | sh d => cases h; exact .inl rfl
      | dead => cases h; exact .inl rfl
  | c :: cs, a :: α, s :: ρ, i + 1, u, h => outs_get (cst := cs) (α := α) (ρ := ρ) (i := i) h
theorem Stt.outs (s : Stt K mg G H σ' ρ') {cst : List Bool} {vs : List V} (hc : cst.length = vs.length) (ha : cst.length = α.length) (hl : vs.length ≤ ρ'.length) (hs : ∀ i : Nat, cst[i]? = some true → σ'[i]? = (vs.map some)[i]?) :
    Stt K mg G H (vs.map some) (outs cst α ρ') ∧ (∀ p, Own (vs.map some) (E2.outs cst α ρ') p → Own σ' ρ' p) ∧ ∀ p, Own (vs.map some) (E2.outs cst α ρ') p → Own (vs.map some) α p := by
  have key : ∀ {i p}, Ows (vs.map some) (E2.outs cst α ρ') i p → Ows σ' ρ' i p ∧ Ows (vs.map some) α i p := fun {i p} ⟨⟨d, e⟩, e2⟩ => by
    rcases outs_get e with z | ⟨c, ea, e⟩
    · cases z
    · exact ⟨⟨⟨d, e⟩, by rw [hs i c]; exact e2⟩, ea, e2⟩
  refine ⟨s.re (by rw [outs_len (by omega) ha, List.length_map, hc]) (fun j u hu => ?_) fun i j p h1 h2 => s.inj i j p (key h1).1 (key h2).1, fun p ⟨i, h⟩ => ⟨i, (key h).1⟩, fun p ⟨i, h⟩ => ⟨i, (key h).2⟩⟩
  rcases outs_get hu with z | ⟨c, _, e⟩
  · subst z; exact .inl trivial
  · exact .inr ⟨j, e, (hs j c).symm⟩
end
section
variable {P : Program} {w : World} {K : PySem.W.Frag} {mg : Str → Option Value} {base : Heap} {x qual : Str} {params : Arguments} {body : List Stmt} {scope : Scope} {f : Addr} {fd : FuncData} {N ps : List Str} {k : Nat}
theorem def_ok {A : List Nat} {sf : SF} {cst : List Bool} (F : FunD K x qual params body scope [] [] f fd) (S : FnScope N ps scope) (hc : cst.length = ps.length) (hA : ∀ i : Nat, cst[i]? = some true → i ∉ A)
    (hbody : ∀ (cdv : Value) (Ar : Around) (outer : List PySem.Env) (s : Shared) (H : Hp) (E : XK), Room k (Ar.deeper (envOfC qual scope s.heap.objs.size f cdv)) →
      PSs (cxOf (L2.CX P w) P w K mg base N qual scope f cdv Ar outer s H E) body (tS K mg (WE0 E) A sf)) :
    FnOk P w K mg base (L2.CX P w) (k + 1) f fd ps (spOf K mg (fnS ps.length (N.length - ps.length) cst sf)) := by
  refine F.ok S (fun vs H Q E h => h.1) fun cdv Ar outer s H vs Q E hr ⟨hl, G, α, st, q⟩ => ⟨_, hbody cdv Ar outer s H E hr, ?_⟩
  have hl : vs.length = ps.length := hl
  have hpl : ps.length ≤ N.length := by
    have := congrArg List.length S.pre
    rw [List.length_take] at this
    omega
  have e1 : L2.start N vs = vs.map some ++ List.replicate (N.length - ps.length) none := by unfold L2.start; rw [hl]
  rw [e1]
  obtain ⟨st2, o2⟩ := st.deads (N.length - ps.length)
  refine ⟨G, _, st2, ?_⟩
  have hal : α.length = ps.length := by have := st.len; rw [List.length_map, hl] at this; exact this.symm
  have q : Pst K mg (WE0 E) (Own (vs.map some) α) G H (vs.map some) (bodyR cst α (sf (α ++ List.replicate (N.length - ps.length) .dead))) fun s α' G' H' => ∀ v, VR K mg (Own (vs.map some) α) H G' H' (vs.map some) α' v s → Q v H' := q
  generalize sf (α ++ List.replicate (N.length - ps.length) .dead) = out at q ⊢
  generalize hσ : vs.map some ++ List.replicate (N.length - ps.length) none = σ0 at st2 o2 ⊢
  generalize hρ : α ++ List.replicate (N.length - ps.length) Slot.dead = ρ0 at st2 o2 ⊢
  have conv : ∀ {G' H' σ' ρ'}, Aft K mg (Own σ0 ρ0) G H σ0 A G' H' σ' ρ' → Ext (Own (vs.map some) α) G H G' H' ∧ Stt K mg G' H' (vs.map some) (outs cst α ρ') ∧ (∀ p, Own (vs.map some) (outs cst α ρ') p → Own (vs.map some) α p) ∧ ∀ p, Own (vs.map some) (outs cst α ρ') p → Own σ' ρ' p := fun {G' H' σ' ρ'} a => by
    have hs : ∀ i : Nat, cst[i]? = some true → σ'[i]? = (vs.map some)[i]? := fun i hi => by
      have hil : i < cst.length := (List.getElem?_eq_some_iff.mp hi).1
      rw [a.same i (hA i hi), ← hσ, List.getElem?_append_left (by rw [List.length_map]; omega)]
    have hle : vs.length ≤ ρ'.length := by
      have h1 := a.st.len
      have h2 := a.len
      rw [← hσ, List.length_append, List.length_map] at h2
      omega
    obtain ⟨s3, o3, o4⟩ := a.st.outs (α := α) (by omega) (by omega) hle hs
    exact ⟨a.ext.mono o2, s3, o4, o3⟩
  cases out with
  | nxt ρ' =>
    intro G' H' σ' a
    obtain ⟨x1, x2, x3, x4⟩ := conv a
    exact q G' H' x1 x2 x3 .non .non
  | ret s ρ' =>
    intro G' H' σ' v a r
    obtain ⟨x1, x2, x3, x4⟩ := conv a
    refine q G' H' x1 x2 x3 v ?_
    cases s with
    | dead => exact r
    | sh d => exact r
    | ow d =>
      obtain ⟨p, e1, e2, e3, e4, e5⟩ := r
      exact ⟨p, e1, e2, fun z => e3 (x4 p z), e4, e5.imp id (o2 p)⟩
  | err x fs ρ' =>
    intro C dd G' H' σ' hm a fl
    obtain ⟨x1, x2, x3, x4⟩ := conv a
    exact q C dd G' H' hm x1 x2 x3 fl
  | brk ρ' => exact q.elim
  | cnt ρ' => exact q.elim
  | bad => exact q.elim
end

/-! ### comprehensions -/
/-- the slots of the block's own names forgotten -/
def wipeD (ρ : Env) : List Nat → Env
  | [] => ρ
  | v :: vs => (wipeD ρ vs).set v .dead
/-- and given back -/
def restore (old ρ : Env) : List Nat → Env
  | [] => ρ
  | v :: vs => match old[v]? with
    | some s => (restore old ρ vs).set v s
    | none => restore old ρ vs
def lcS (a : Dt → Env → Option Env) (t : Env → R (Bool × Env)) (f : EE) (vs : List Nat) : List Dt → List Dt → Env → R (List Dt × Env)
  | [], acc, ρ => .ok (acc, ρ)
  | d :: ds, acc, ρ => match a d ρ with
    | some ρ1 => (match t ρ1 with
      | .ok (true, ρ2) => (match f ρ2 with
        | .ok (y, ρ3) => lcS a t f vs ds (acc ++ [y]) (wipeD ρ3 vs)
        | _ => .bad)
      | .ok (false, ρ2) => lcS a t f vs ds acc (wipeD ρ2 vs)
      | _ => .bad)
    | none => .bad
def fLc (it : Env → R (List Dt × Env)) (a : Dt → Env → Option Env) (t : Env → R (Bool × Env)) (f : EE) (vs : List Nat) : EV := fun ρ => (it ρ).bind fun items ρ1 => if items.length ≤ 16777216 then (match lcS a t f vs items [] (wipeD ρ1 vs) with
  | .ok (acc, ρ2) => .ok (.ow (.lst acc), restore ρ1 ρ2 vs)
  | _ => .bad) else .bad
end E2
end

section
set_option Elab.async false
set_option linter.all false
set_option maxRecDepth 100000
set_option maxHeartbeats 4000000
/-! E7: comprehensions. -/
namespace E2
open PySem PySem.Spec PyProof.Rows L2
section
variable {K : PySem.W.Frag} {mg : Str → Option Value} {G G' H H' G1 H1 G2 H2 : Hp} {P : Addr → Prop} {σ τ σ' : L2.St} {ρ ρ' ρ1 ρF α : Env} {W : WX}
theorem wipeD_len (ρ : Env) : ∀ vs : List Nat, (wipeD ρ vs).length = ρ.length
  | [] => rfl
  | v :: vs => by unfold wipeD; rw [List.length_set, wipeD_len ρ vs]
theorem wipeD_get : ∀ {vs : List Nat} {i : Nat} {u : Slot}, (wipeD ρ vs)[i]? = some u → u = .dead ∨ (i ∉ vs ∧ ρ[i]? = some u)
  | [], i, u, h => .inr ⟨by simp, h⟩
  | v :: vs, i, u, h => by
    unfold wipeD at h
    rcases set_get h with ⟨_, z⟩ | ⟨ne, h⟩
    · exact .inl z
    · rcases wipeD_get h with z | ⟨n, h⟩
      · exact .inl z
      · exact .inr ⟨by simp only [List.mem_cons, not_or]; exact ⟨Ne.symm ne, n⟩, h⟩
theorem wipe_out : ∀ {vs : List Nat} {i : Nat}, i ∉ vs → (wipe σ vs)[i]? = σ[i]?
  | [], _, _ => rfl
  | v :: vs, i, h => by
    unfold wipe
    simp only [List.mem_cons, not_or] at h
    rw [List.getElem?_set_ne (Ne.symm h.1), wipe_out h.2]
theorem wipe_in : ∀ {vs : List Nat} {i : Nat}, i ∈ vs → i < σ.length → (wipe σ vs)[i]? = some none
  | v :: vs, i, h, hl => by
    unfold wipe
    by_cases e : v = i
    · subst e
      rw [List.getElem?_set_self (by rw [wipe_length]; exact hl)]
    · rw [List.getElem?_set_ne e]
      exact wipe_in ((List.mem_cons.mp h).resolve_left (Ne.symm e)) hl
theorem wipe_same {vs : List Nat} (hl : σ'.length = (wipe σ vs).length) (hs : ∀ i : Nat, i ∉ vs → σ'[i]? = (wipe σ vs)[i]?) : wipe σ' vs = wipe σ vs := by
  rw [wipe_length] at hl
  refine List.ext_getElem? fun i => ?_
  by_cases h : i ∈ vs
  · by_cases q : i < σ.length
    · rw [wipe_in h q, wipe_in h (by omega)]
    · rw [List.getElem?_eq_none (by rw [wipe_length]; omega), List.getElem?_eq_none (by rw [wipe_length]; omega)]
  · rw [wipe_out h, hs i h]
theorem Stt.wipe (s : Stt K mg G H σ ρ) (vs : List Nat) : Stt K mg G H (wipe σ vs) (wipeD ρ vs) ∧ (∀ p, Own (L2.wipe σ vs) (wipeD ρ vs) p → Own σ ρ p) ∧ ∀ p i, Own (L2.wipe σ vs) (wipeD ρ vs) p → i ∈ vs → ¬ Ows σ ρ i p := by
  have key : ∀ {i p}, Ows (L2.wipe σ vs) (wipeD ρ vs) i p → i ∉ vs ∧ Ows σ ρ i p := fun {i p} ⟨⟨d, e⟩, e2⟩ => by
    rcases wipeD_get e with z | ⟨n, e⟩
    · cases z
    · exact ⟨n, ⟨d, e⟩, by rw [wipe_out n] at e2; exact e2⟩
  refine ⟨s.re (by rw [wipe_length, wipeD_len]; exact s.len) (fun j u hu => ?_) fun i j p h1 h2 => s.inj i j p (key h1).2 (key h2).2, fun p ⟨i, h⟩ => ⟨i, (key h).2⟩, fun p i ⟨j, h⟩ hi hw => ?_⟩
  · rcases wipeD_get hu with z | ⟨n, e⟩
    · subst z; exact .inl trivial
    · exact .inr ⟨j, e, wipe_out n⟩
  · have e := s.inj i j p hw (key h).2
    subst e
    exact (key h).1 hi
theorem restore_len (old ρ : Env) : ∀ vs : List Nat, (restore old ρ vs).length = ρ.length
  | [] => rfl
  | v :: vs => by
    unfold restore
    split
    · rw [List.length_set, restore_len old ρ vs]
    · exact restore_len old ρ vs
theorem restore_get : ∀ {vs : List Nat} {i : Nat} {u : Slot}, (restore ρ1 ρ vs)[i]? = some u → ρ1.length = ρ.length → (i ∈ vs ∧ ρ1[i]? = some u) ∨ (i ∉ vs ∧ ρ[i]? = some u)
  | [], i, u, h, _ => .inr ⟨by simp, h⟩
  | v :: vs, i, u, h, hl => by
    unfold restore at h
    by_cases e : v = i
    · subst e
      cases q : ρ1[v]? with
      | none =>
        rw [q] at h
        have h1 : v < (restore ρ1 ρ vs).length := (List.getElem?_eq_some_iff.mp h).1
        rw [restore_len] at h1
        have := List.getElem?_eq_none_iff.mp q
        omega
      | some s =>
        rw [q] at h
        rcases set_get h with ⟨_, z⟩ | ⟨n, _⟩
        · subst z; exact .inl ⟨by simp, rfl⟩
        · exact absurd rfl n
    · have h' : (restore ρ1 ρ vs)[i]? = some u := by
        cases q : ρ1[v]? with
        | none => rw [q] at h; exact h
        | some s =>
          rw [q] at h
          rcases set_get h with ⟨z, _⟩ | ⟨_, z⟩
          · exact absurd z e
          · exact z
      rcases restore_get h' hl with ⟨h1, h2⟩ | ⟨h1, h2⟩
      · exact .inl ⟨List.mem_cons_of_mem _ h1, h2⟩
      · exact .inr ⟨by simp only [List.mem_cons, not_or]; exact ⟨fun z => e z.symm, h1⟩, h2⟩
theorem Stt.restore {vs : List Nat} (s1 : Stt K mg G1 H1 σ ρ1) (sF : Stt K mg G' H' (L2.wipe σ vs) ρF) (e : Ext (Own (L2.wipe σ vs) (wipeD ρ1 vs)) G1 H1 G' H') (o : ∀ p, Own (L2.wipe σ vs) ρF p → Own (L2.wipe σ vs) (wipeD ρ1 vs) p) :
    Stt K mg G' H' σ (restore ρ1 ρF vs) ∧ ∀ p, Own σ (E2.restore ρ1 ρF vs) p → Own σ ρ1 p := by
  obtain ⟨_, w2, w3⟩ := s1.wipe vs
  have hl : ρ1.length = ρF.length := by
    have a := s1.len
    have b := sF.len
    rw [wipe_length] at b
    omega
  have key : ∀ {i p}, Ows σ (E2.restore ρ1 ρF vs) i p → (i ∈ vs ∧ Ows σ ρ1 i p) ∨ (i ∉ vs ∧ Ows (L2.wipe σ vs) ρF i p) := fun {i p} ⟨⟨d, q⟩, q2⟩ => by
    rcases restore_get q hl with ⟨h1, h2⟩ | ⟨h1, h2⟩
    · exact .inl ⟨h1, ⟨d, h2⟩, q2⟩
    · exact .inr ⟨h1, ⟨d, h2⟩, by rw [wipe_out h1]; exact q2⟩
  refine ⟨⟨sF.le, by rw [restore_len]; have := s1.len; omega, fun j u hu => ?_, fun i j p h1 h2 => ?_⟩, fun p ⟨i, h⟩ => ?_⟩
  · rcases restore_get hu hl with ⟨h1, h2⟩ | ⟨h1, h2⟩
    · exact SlotR.ext (s1.slot j u h2) e fun d p eu eo z => w3 p j z h1 ⟨⟨d, eu ▸ h2⟩, eo⟩
    · have := sF.slot j u h2
      rw [wipe_out h1] at this
      exact this
  · rcases key h1 with ⟨a1, a2⟩ | ⟨a1, a2⟩
    · rcases key h2 with ⟨b1, b2⟩ | ⟨b1, b2⟩
      · exact s1.inj i j p a2 b2
      · exact absurd a2 (w3 p i (o p ⟨_, b2⟩) a1)
    · rcases key h2 with ⟨b1, b2⟩ | ⟨b1, b2⟩
      · exact absurd b2 (w3 p j (o p ⟨_, a2⟩) b1)
      · exact sF.inj i j p a2 b2
  · rcases key h with ⟨_, a2⟩ | ⟨_, a2⟩
    · exact ⟨_, a2⟩
    · exact w2 p (o p ⟨_, a2⟩)
theorem Stt.updH (s : Stt K mg G H σ ρ) {p : Addr} {o : HO} (gp : G p = none) (no : ¬ Own σ ρ p) : Stt K mg G (upd H p o) σ ρ where
  le := fun a u e => by
    have q : a ≠ p := fun z => by subst z; rw [gp] at e; cases e
    rw [upd_ne q]; exact s.le a u e
  len := s.len
  slot := fun j u hu => by
    have z := s.slot j u hu
    cases u with
    | dead => trivial
    | sh d => exact z
    | ow d =>
      obtain ⟨q, e, g, r⟩ := z
      have ne : q ≠ p := fun z => no ⟨j, ⟨d, hu⟩, z ▸ e⟩
      exact ⟨q, e, g, r.sub (Sub.refl G) (upd_ne ne)⟩
  inj := s.inj
/-- a comprehension's state behind i turns -/
def LcI (K : PySem.W.Frag) (mg : Str → Option Value) (σ : L2.St) (vs : List Nat) (G1 H1 : Hp) (ρ1 : Env) (D : Addr) (items : List Dt) (a : Dt → Env → Option Env) (t : Env → R (Bool × Env)) (f : EE) (accF : List Dt) (ρF : Env) (i m : Nat) (H' : Hp) : Prop :=
  m = items.length - i ∧ i ≤ items.length ∧ ∃ G' ρ' acc xs, Stt K mg G' H' (wipe σ vs) ρ' ∧ Ext (Own (wipe σ vs) (wipeD ρ1 vs)) G1 H1 G' H' ∧ G' D = none ∧ H' D = some (.lst xs) ∧ RpAll K mg G' xs acc ∧
          acc.length ≤ i ∧ lcS a t f vs (items.drop i) acc ρ' = .ok (accF, ρF) ∧ ∀ p, Own (wipe σ vs) ρ' p → Own (wipe σ vs) (wipeD ρ1 vs) p
abbrev W0 : WX := fun _ _ _ _ => False
theorem lc_imp {it : Env → R (List Dt × Env)} {a : Dt → Env → Option Env} {t : Env → R (Bool × Env)} {f : EE} {vs : List Nat} {Q : VK} (h : tV K mg W (fLc it a t f vs) σ H Q) :
    tLc (tI K mg W it) (tG K mg vs a) (tT K mg W0 t) (tE K mg W0 f) vs σ H Q := by
  obtain ⟨G, ρ, st, q⟩ := h
  refine ⟨G, ρ, st, ?_⟩
  have q : Pst K mg W (Own σ ρ) G H σ ((it ρ).bind fun items ρ1 => if items.length ≤ 16777216 then (match lcS a t f vs items [] (wipeD ρ1 vs) with
    | .ok (acc, ρ2) => .ok (.ow (.lst acc), restore ρ1 ρ2 vs)
    | _ => .bad) else .bad) fun s ρ' G' H' => ∀ v, VR K mg (Own σ ρ) H G' H' σ ρ' v s → Q v H' := q
  generalize it ρ = out at q ⊢
  cases out with
  | err x fs ρ' => exact q
  | bad => exact q
  | ok z =>
    obtain ⟨items, ρ1⟩ := z
    intro G1 H1 e1 st1 o1 J wd D hD
    have q : Pst K mg W (Own σ ρ) G H σ (if items.length ≤ 16777216 then (match lcS a t f vs items [] (wipeD ρ1 vs) with
      | .ok (acc, ρ2) => .ok (.ow (.lst acc), restore ρ1 ρ2 vs)
      | _ => .bad) else .bad) fun s ρ' G' H' => ∀ v, VR K mg (Own σ ρ) H G' H' σ ρ' v s → Q v H' := q
    by_cases hsz : items.length ≤ 16777216
    · rw [if_pos hsz] at q
      generalize hO : lcS a t f vs items [] (wipeD ρ1 vs) = OUT at q
      cases OUT with
      | err x fs ρ' => exact q.elim
      | bad => exact q.elim
      | ok z =>
        obtain ⟨accF, ρF⟩ := z
        obtain ⟨Gd, Y, wk, hG, hY⟩ := wd.ex
        obtain ⟨sw, ow1, ow2⟩ := st1.wipe vs
        have noD : ¬ Own (wipe σ vs) (wipeD ρ1 vs) D := fun z => by
          obtain ⟨u, hu⟩ := st1.own_some (ow1 D z)
          rw [hD] at hu; cases hu
        have g1D : G1 D = none := le_none st1.le hD
        refine ⟨LcI K mg σ vs G1 H1 ρ1 D items a t f accF ρF,
          ⟨items.length, by simp, Nat.zero_le _, G1, wipeD ρ1 vs, [], [], sw.updH g1D noD, (Ext.newH hD).no, g1D, upd_same, .nil, Nat.zero_le _, hO, fun _ z => z⟩, ?_⟩
        rintro i m H2 ⟨rfl, hi, G2, ρ2, acc, xs, st2, e2, g2D, h2D, ra, hal, hlc, o2⟩
        have no2 : ¬ Own (wipe σ vs) ρ2 D := fun z => noD (o2 D z)
        by_cases hlt : i < items.length
        · have hd : items.drop i = items[i] :: items.drop (i + 1) := List.drop_eq_getElem_cons hlt
          rw [hd] at hlc
          have hlc : (match a items[i] ρ2 with
            | some ρ1 => (match t ρ1 with
              | .ok (true, ρ2) => (match f ρ2 with
                | .ok (y, ρ3) => lcS a t f vs (items.drop (i + 1)) (acc ++ [y]) (wipeD ρ3 vs)
                | _ => .bad)
              | .ok (false, ρ2) => lcS a t f vs (items.drop (i + 1)) acc (wipeD ρ2 vs)
              | _ => .bad)
            | none => .bad) = .ok (accF, ρF) := hlc
          refine .inr ⟨wk.goes i H2 hlt (hG G2 H2 e2.sub st2.le), LcI K mg σ vs G1 H1 ρ1 D items a t f accF ρF (i + 1) (items.length - (i + 1)), fun H' h => ⟨items.length - (i + 1), by omega, h⟩, fun x H3 y => ?_⟩
          obtain ⟨d, G3, ed, e3, l3, rx⟩ := hY i H2 x H3 G2 hlt e2.sub st2.le (wk.yields i H2 x H3 hlt (hG G2 H2 e2.sub st2.le) y)
          rw [List.getElem?_eq_getElem hlt] at ed
          cases ed
          have st3 := st2.ext0 e3 l3
          have g3D : G3 D = none := e3.out g2D h2D trivial id
          have h3D : H3 D = some (.lst xs) := e3.keepO g2D h2D trivial id
          cases qa : a items[i] ρ2 with
          | none => rw [qa] at hlc; cases hlc
          | some ρ4 =>
            rw [qa] at hlc
            have hlc : (match t ρ4 with
              | .ok (true, ρ2) => (match f ρ2 with
                | .ok (y, ρ3) => lcS a t f vs (items.drop (i + 1)) (acc ++ [y]) (wipeD ρ3 vs)
                | _ => .bad)
              | .ok (false, ρ2) => lcS a t f vs (items.drop (i + 1)) acc (wipeD ρ2 vs)
              | _ => .bad) = .ok (accF, ρF) := hlc
            refine ⟨G3, ρ2, items[i], st3, rx, ρ4, qa, fun σ4 st4 o4 ln4 s4 => ?_⟩
            have ws : wipe σ4 vs = wipe σ vs := wipe_same ln4 s4
            refine ⟨ws, G3, ρ4, st4, ?_⟩
            have no4 : ¬ Own σ4 ρ4 D := fun z => no2 (o4 D z)
            -- the turn's end: back in the wiped slots
            have fin : ∀ {G6 H6 ρ6 acc' xs'}, Ext (Own σ4 ρ4) G3 H3 G6 H6 → Stt K mg G6 H6 σ4 ρ6 → (∀ p, Own σ4 ρ6 p → Own σ4 ρ4 p) → RpAll K mg G6 xs' acc' → acc'.length ≤ i + 1 → lcS a t f vs (items.drop (i + 1)) acc' (wipeD ρ6 vs) = .ok (accF, ρF) →
                LcI K mg σ vs G1 H1 ρ1 D items a t f accF ρF (i + 1) (items.length - (i + 1)) (upd H6 D (.lst xs')) := fun {G6 H6 ρ6 acc' xs'} e6 st6 o6 ra6 hl6 hlc6 => by
              obtain ⟨sw6, ow6, _⟩ := st6.wipe vs
              rw [ws] at sw6 ow6
              have oo : ∀ p, Own (wipe σ vs) (wipeD ρ6 vs) p → Own (wipe σ vs) (wipeD ρ1 vs) p := fun p z => o2 p (o4 p (o6 p (ow6 p z)))
              have g6D : G6 D = none := e6.out g3D h3D trivial no4
              have e7 : Ext (Own (wipe σ vs) (wipeD ρ1 vs)) G1 H1 G6 H6 := e2.trans (e3.no.trans e6 fun p z => .inl (o4 p z)) fun p z => .inl (o2 p z)
              refine ⟨rfl, hlt, G6, wipeD ρ6 vs, acc', xs', sw6.updH g6D (fun z => noD (oo D z)), ⟨fun b u h1 n => ?_, e7.sub, e7.new⟩, g6D, upd_same, ra6, hl6, hlc6, oo⟩
              have ne : b ≠ D := fun z => by subst z; rw [hD] at h1; cases h1
              rw [upd_ne ne]
              exact e7.keep b u h1 n
            have nochg : ∀ {H6 : Hp}, H6 D = some (.lst xs) → upd H6 D (.lst xs) = H6 := fun {H6} h => by
              funext b
              by_cases z : b = D
              · subst z; rw [upd_same, h]
              · rw [upd_ne z]
            cases qt : t ρ4 with
            | err x fs ρ' => rw [qt] at hlc; cases hlc
            | bad => rw [qt] at hlc; cases hlc
            | ok z =>
              obtain ⟨b, ρ5⟩ := z
              rw [qt] at hlc
              intro G5 H5 e5 st5 o5
              have g5D : G5 D = none := e5.out g3D h3D trivial no4
              have h5D : H5 D = some (.lst xs) := e5.keepO g3D h3D trivial no4
              cases b with
              | false =>
                have hlc : lcS a t f vs (items.drop (i + 1)) acc (wipeD ρ5 vs) = .ok (accF, ρF) := hlc
                have z := fin e5 st5 o5 ((ra.le e3.sub.le).le e5.sub.le) (by omega) hlc
                rw [nochg h5D] at z
                exact z
              | true =>
                have hlc : (match f ρ5 with
                  | .ok (y, ρ3) => lcS a t f vs (items.drop (i + 1)) (acc ++ [y]) (wipeD ρ3 vs)
                  | _ => .bad) = .ok (accF, ρF) := hlc
                show tE K mg W0 f σ4 H5 _
                refine ⟨G5, ρ5, st5, ?_⟩
                cases qf : f ρ5 with
                | err x fs ρ' => rw [qf] at hlc; cases hlc
                | bad => rw [qf] at hlc; cases hlc
                | ok z =>
                  obtain ⟨yd, ρ6⟩ := z
                  rw [qf] at hlc
                  intro G6 H6 e6 st6 o6 v hv
                  have no5 : ¬ Own σ4 ρ5 D := fun z => no4 (o5 D z)
                  have h6D : H6 D = some (.lst xs) := e6.keepO g5D h5D trivial no5
                  have sl := sizeLine_eq
                  refine ⟨xs, h6D, by rw [ra.length]; omega, ?_⟩
                  exact fin (e5.trans e6 fun p z => .inl (o5 p z)) st6 (fun p z => o5 p (o6 p z)) ((((ra.le e3.sub.le).le e5.sub.le).le e6.sub.le).append (.one hv)) (by simp; omega) hlc
        · have ei : i = items.length := by omega
          subst ei
          rw [List.drop_length] at hlc
          have hlc : (R.ok (acc, ρ2) : R (List Dt × Env)) = .ok (accF, ρF) := hlc
          cases hlc
          refine .inl ⟨wk.stops H2 (hG G2 H2 e2.sub st2.le), ?_⟩
          obtain ⟨sr, or_⟩ := st1.restore st2 e2 o2
          refine q G2 H2 (e1.trans e2 fun p z => .inl (o1 p (ow1 p z))) sr (fun p z => o1 p (or_ p z)) (.ref D) ⟨D, rfl, g2D, fun z => ?_, ⟨xs, h2D, ra⟩, e1.fresh hD⟩
          obtain ⟨u, hu⟩ := st1.own_some (or_ D z)
          rw [hD] at hu; cases hu
    · rw [if_neg hsz] at q
      exact q.elim
end
end E2
end

section
set_option Elab.async false
set_option linter.all false
set_option maxRecDepth 100000
set_option maxHeartbeats 4000000
/-! E8: operators by what the operands stand for. -/
namespace E2
open PySem PySem.Spec PyProof.Rows L2
/-! ### our data as the library's -/
mutual
def py : Dt → PyData
  | .non => .none
  | .bl b => .bool b
  | .int i => .int i
  | .str x => .str x
  | .tup xs => .tuple (pyAll xs)
  | .lst xs => .list (pyAll xs)
  | .dct _ _ => .none
  | .fn _ => .none
def pyAll : List Dt → List PyData
  | [] => []
  | x :: xs => py x :: pyAll xs
end
mutual
/-- no dict, no function lies within; at most n deep -/
def flat : Nat → Dt → Bool
  | _, .non => true
  | _, .bl _ => true
  | _, .int _ => true
  | _, .str _ => true
  | n + 1, .tup xs => flatAll n xs
  | n + 1, .lst xs => flatAll n xs
  | _, _ => false
def flatAll : Nat → List Dt → Bool
  | _, [] => true
  | n, x :: xs => flat n x && flatAll n xs
end
section
variable {K : PySem.W.Frag} {mg : Str → Option Value} {G H G' H' : Hp}
mutual
theorem flat_py : ∀ (n : Nat) (d : Dt), flat n d = true → (py d).plain = true ∧ (py d).depth ≤ n
  | n, .non, _ => by simp [py, PyData.plain, PyData.depth]
  | n, .bl _, _ => by simp [py, PyData.plain, PyData.depth]
  | n, .int _, _ => by simp [py, PyData.plain, PyData.depth]
  | n, .str _, _ => by simp [py, PyData.plain, PyData.depth]
  | 0, .tup xs, h => by simp [flat] at h
  | 0, .lst xs, h => by simp [flat] at h
  | n + 1, .tup xs, h => by
    have := flatAll_py n xs (by simpa [flat] using h)
    simp only [py, PyData.plain, PyData.depth]
    exact ⟨this.1, by omega⟩
  | n + 1, .lst xs, h => by
    have := flatAll_py n xs (by simpa [flat] using h)
    simp only [py, PyData.plain, PyData.depth]
    exact ⟨this.1, by omega⟩
  | n, .dct _ _, h => by cases n <;> simp [flat] at h
  | n, .fn _, h => by cases n <;> simp [flat] at h
theorem flatAll_py : ∀ (n : Nat) (ds : List Dt), flatAll n ds = true → PyData.plainAll (pyAll ds) = true ∧ PyData.depthAll (pyAll ds) ≤ n
  | n, [], _ => by simp [pyAll, PyData.plainAll, PyData.depthAll]
  | n, x :: xs, h => by
    have h : flat n x = true ∧ flatAll n xs = true := by simpa [flatAll] using h
    have h1 := flat_py n x h.1
    have h2 := flatAll_py n xs h.2
    simp only [pyAll, PyData.plainAll, PyData.depthAll, h1.1, h2.1, Bool.and_self, true_and]
    omega
end
mutual
theorem Rp.dp (l : Le G H) : ∀ (n : Nat) {v : V} {d : Dt}, Rp K mg G v d → flat n d = true → Dp K H v (py d)
  | _, _, _, .non, _ => .non
  | _, _, _, .bl b, _ => .bl b
  | _, _, _, .int i, _ => .int i
  | _, _, _, .str x, _ => .str x
  | n, _, _, .fn _, h => by cases n <;> simp [flat] at h
  | n, _, _, .tup h r, f => by
    cases n with
    | zero => simp [flat] at f
    | succ n => exact .tup (.inl (.inl (tup_le l h))) (RpAll.dp l n r (by simpa [flat] using f))
  | n, _, _, .lst h r, f => by
    cases n with
    | zero => simp [flat] at f
    | succ n => exact .lst (.inl (rdL_le l h)) (RpAll.dp l n r (by simpa [flat] using f))
  | n, _, _, .dct _ _, h => by cases n <;> simp [flat] at h
theorem RpAll.dp (l : Le G H) : ∀ (n : Nat) {vs : List V} {ds : List Dt}, RpAll K mg G vs ds → flatAll n ds = true → DpAll K H vs (pyAll ds)
  | _, _, _, .nil, _ => .nil
  | n, _, _, .cons r rs, h => by
    have h := Bool.and_eq_true_iff.mp (show (flat n _ && flatAll n _) = true by simpa [flatAll] using h)
    exact .cons (Rp.dp l n r h.1) (RpAll.dp l n rs h.2)
end
/-! ### what is read, by kind -/
theorem RpR.int {v : V} {i : Int} (h : RpR K mg G H v (.int i)) : v = .int i := by
  rcases h with h | ⟨p, rfl, _, h⟩
  · cases h; rfl
  · exact h.elim
theorem RpR.bl {v : V} {b : Bool} (h : RpR K mg G H v (.bl b)) : v = .bl b := by
  rcases h with h | ⟨p, rfl, _, h⟩
  · cases h; rfl
  · exact h.elim
theorem RpR.str {v : V} {x : Str} (h : RpR K mg G H v (.str x)) : v = .str x := by
  rcases h with h | ⟨p, rfl, _, h⟩
  · cases h; rfl
  · exact h.elim
theorem RpR.non {v : V} (h : RpR K mg G H v .non) : v = .non := by
  rcases h with h | ⟨p, rfl, _, h⟩
  · cases h; rfl
  · exact h.elim
theorem RpR.tup {v : V} {ds : List Dt} (l : Le G H) (h : RpR K mg G H v (.tup ds)) : ∃ a xs, v = .ref a ∧ SqT K H a xs ∧ RpAll K mg G xs ds ∧ Rp K mg G v (.tup ds) ∧ H a = some (.tup xs) := by
  rcases h with h | ⟨p, rfl, _, h⟩
  · cases h with
    | tup h r => exact ⟨_, _, rfl, .inl (.inl (tup_le l h)), r, .tup h r, tup_le l h⟩
  · exact h.elim
theorem RpR.lst {v : V} {ds : List Dt} (l : Le G H) (h : RpR K mg G H v (.lst ds)) : ∃ a xs, v = .ref a ∧ Rd H a (.lst xs) ∧ RpAll K mg G xs ds := by
  rcases h with h | ⟨p, rfl, _, h⟩
  · cases h with
    | lst h r => exact ⟨_, _, rfl, rdL_le l h, r⟩
  · obtain ⟨xs, h, r⟩ := h
    exact ⟨p, xs, rfl, .inl h, r⟩
theorem RpR.dct {v : V} {ks : List Dt} {ds : List Dt} (l : Le G H) (h : RpR K mg G H v (.dct ks ds)) : ∃ a xs, v = .ref a ∧ DcA (Rd H a) ks xs ∧ RpAll K mg G xs ds := by
  rcases h with h | ⟨p, rfl, _, h⟩
  · cases h with
    | dct h r => exact ⟨_, _, rfl, dcA_le l h, r⟩
  · obtain ⟨xs, h, r⟩ := h
    refine ⟨p, xs, rfl, ?_, r⟩
    rcases h with ⟨kvs, h, e⟩ | ⟨kvs, h, e⟩
    · exact .inl ⟨kvs, .inl h, e⟩
    · exact .inr ⟨kvs, .inl h, e⟩
theorem RpR.dp (l : Le G H) {n : Nat} {v : V} {d : Dt} (h : RpR K mg G H v d) (f : flat n d = true) : Dp K H v (py d) := by
  rcases h with h | ⟨p, rfl, _, h⟩
  · exact h.dp l n f
  · cases d with
    | lst ds =>
      obtain ⟨xs, h, r⟩ := h
      cases n with
      | zero => simp [flat] at f
      | succ n => exact .lst (.inl (.inl h)) (r.dp l n (by simpa [flat] using f))
    | dct ks ds => cases n <;> simp [flat] at f
    | _ => exact h.elim
end
/-! ### rules that are given by a function of data -/
section
variable (K : PySem.W.Frag) (mg : Str → Option Value)
/-- what may follow a result -/
def Fol (G H : Hp) (s : Slot) (Q : VK) : Prop := ∀ G' H' v, Ext No G H G' H' → Le G' H' → VB K mg H G' H' v s → Q v H'
def rG (g : Dt → Dt → Option Slot) : R2 := fun x y H Q => ∃ G d e s, Le G H ∧ RpR K mg G H x d ∧ RpR K mg G H y e ∧ g d e = some s ∧ Fol K mg G H s Q
def rG1 (g : Dt → Option Slot) : V → Hp → VK → Prop := fun x H Q => ∃ G d s, Le G H ∧ RpR K mg G H x d ∧ g d = some s ∧ Fol K mg G H s Q
def rGs (g : List Dt → Option Slot) : List V → Hp → VK → Prop := fun xs H Q => ∃ G ds s, Le G H ∧ RpRs K mg G H xs ds ∧ g ds = some s ∧ Fol K mg G H s Q
end
section
variable {K : PySem.W.Frag} {mg : Str → Option Value} {G H G' H' : Hp} {Q : VK} {X : Cx}
theorem rG_ok (g : Dt → Dt → Option Slot) : BOk2 K mg g (rG K mg g) := fun G H v w d e Q s l h1 h2 h3 k => ⟨G, d, e, s, l, h1, h2, h3, k⟩
theorem rG1_ok (g : Dt → Option Slot) : BOk1 K mg g (rG1 K mg g) := fun G H v d Q s l h1 h3 k => ⟨G, d, s, l, h1, h3, k⟩
theorem rGs_ok (g : List Dt → Option Slot) : BOk K mg g (rGs K mg g) := fun G H vs ds Q s l h1 h3 k => ⟨G, ds, s, l, h1, h3, k⟩
theorem Fol.pure {d : Dt} {v : V} (k : Fol K mg G H (.sh d) Q) (l : Le G H) (r : Rp K mg G v d) : Q v H := k G H v (Ext.refl No G H) l r
theorem Fol.newT {ds : List Dt} {xs : List V} (k : Fol K mg G H (.sh (.tup ds)) Q) (l : Le G H) (r : RpAll K mg G xs ds) : ∀ p, H p = none → Q (.ref p) (upd H p (.tup xs)) := fun p hp =>
  k (upd G p (.tup xs)) _ _ (Ext.newG hp (le_none l hp)) (l.newG hp) (.tup upd_same (r.le (sub_fresh (le_none l hp)).le))
theorem Fol.newL {ds : List Dt} {xs : List V} (k : Fol K mg G H (.ow (.lst ds)) Q) (l : Le G H) (r : RpAll K mg G xs ds) : ∀ p, H p = none → Q (.ref p) (upd H p (.lst xs)) := fun p hp =>
  k G _ _ (Ext.newH hp) (l.newH hp) ⟨p, rfl, le_none l hp, ⟨xs, upd_same, r⟩, hp⟩

/-! ### == != < <= > >= -/
def eqP (d e : Dt) : Bool := PyData.eqv (py d) (py e)
def eqD (d e : Dt) : Option Slot := if flat 60 d && flat 60 e then some (.sh (.bl (eqP d e))) else none
def neD (d e : Dt) : Option Slot := if flat 60 d && flat 60 e then some (.sh (.bl (!eqP d e))) else none
theorem units_ok {A : Around} (hu : A.units + 70 < cLine) {n m : Nat} (h : n ≤ 60) : A.units + min n m < cLine := by omega
theorem og_eq (hu : X.A.units + 70 < cLine) : OpR X (compareOp .Eq) (rG X.K mg eqD) := by
  intro pins s σ H x y v u Q I rx ry ⟨G, d, e, sl, l, h1, h2, hg, k⟩
  unfold eqD at hg
  split at hg
  · rename_i hf
    cases hg
    have hf := Bool.and_eq_true_iff.mp hf
    obtain ⟨as, r1⟩ := Dp.reads I _ x v (h1.dp l hf.1) rx
    obtain ⟨bs, r2⟩ := Dp.reads I _ y u (h2.dp l hf.2) ry
    have f1 := flat_py 60 d hf.1
    exact SeqAt.eq_plain r1 r2 f1.1 (flat_py 60 e hf.2).1 (units_ok hu f1.2) ⟨.bl _, H, I, rfl, k.pure l (.bl _)⟩
  · cases hg
theorem og_ne (hu : X.A.units + 70 < cLine) : OpR X (compareOp .NotEq) (rG X.K mg neD) := by
  intro pins s σ H x y v u Q I rx ry ⟨G, d, e, sl, l, h1, h2, hg, k⟩
  unfold neD at hg
  split at hg
  · rename_i hf
    cases hg
    have hf := Bool.and_eq_true_iff.mp hf
    obtain ⟨as, r1⟩ := Dp.reads I _ x v (h1.dp l hf.1) rx
    obtain ⟨bs, r2⟩ := Dp.reads I _ y u (h2.dp l hf.2) ry
    have f1 := flat_py 60 d hf.1
    exact SeqAt.ne_plain r1 r2 f1.1 (flat_py 60 e hf.2).1 (units_ok hu f1.2) ⟨.bl _, H, I, rfl, k.pure l (.bl _)⟩
  · cases hg
end
end E2
end

section
set_option Elab.async false
set_option linter.all false
set_option maxRecDepth 100000
set_option maxHeartbeats 4000000
/-! E9: arithmetic, comparisons, in, is. -/
namespace E2
open PySem PySem.Spec PyProof.Rows L2
/-! ### tuples so often: none, once -/
theorem tuple_mul_same (l : Addr) (items : Array Value) (n : Nat) (dd : Option Addr) (sl : Array (Option Value)) (x : Int) (u : Tok) (c0 : (decide (x < -(2 ^ 63)) || decide (x ≥ 2 ^ 63)) = false) (c1 : (items.isEmpty || x == 1) = true) :
    Meets (Builtin.«tuple.__mul__» ⟨[.ref l, .int x u], []⟩) (fun _ R s => s.heap.get? l = some { cls := .type "tuple", dict := dd, data := .seq items n, slots := sl } ∧ R (.ok (.ret (Value.ref l))) s) :=
  .of_wp fun prog w A R s h => by
    obtain ⟨hp, g, d, tk, os⟩ := s
    obtain ⟨hl, h⟩ := h
    have f1 := AutoSeq1.idx_int
    have hT : Shared.TypeIs ⟨hp, g, d, tk, os⟩ (.ref l) "tuple" := ⟨_, hl, rfl⟩
    wp_walk using wpAny_loadPart' hl
    repeat (first
      | (refine wpAny_ite_false (decide_eq_false (by rw [c0]; exact Bool.false_ne_true)) ?_; wp_walk using wpAny_loadPart' hl)
      | (refine wpAny_ite_true (decide_eq_true c1) ?_; wp_walk using wpAny_loadPart' hl))
    all_goals (try exact ⟨_, rfl, h⟩)
theorem tuple_mul_none (l : Addr) (items : Array Value) (n : Nat) (dd : Option Addr) (sl : Array (Option Value)) (x : Int) (u : Tok) (c0 : (decide (x < -(2 ^ 63)) || decide (x ≥ 2 ^ 63)) = false) (c1 : (items.isEmpty || x == 1) = false) (c2 : (decide (x ≤ 0) || items.isEmpty) = true) :
    Meets (Builtin.«tuple.__mul__» ⟨[.ref l, .int x u], []⟩) (fun _ R s => s.heap.get? l = some { cls := .type "tuple", dict := dd, data := .seq items n, slots := sl } ∧
      R (.ok (.ret (Value.ref s.heap.objs.size))) { s with heap := s.heap.push { cls := Value.type "tuple", data := Data.seq #[] }, toks := s.toks }) :=
  .of_wp fun prog w A R s h => by
    obtain ⟨hp, g, d, tk, os⟩ := s
    obtain ⟨hl, h⟩ := h
    have f1 := AutoSeq1.idx_int
    wp_walk using wpAny_loadPart' hl
    repeat (first
      | (refine wpAny_ite_false (decide_eq_false (by rw [c0]; exact Bool.false_ne_true)) ?_; wp_walk using wpAny_loadPart' hl)
      | (refine wpAny_ite_false (decide_eq_false (by rw [c1]; exact Bool.false_ne_true)) ?_; wp_walk using wpAny_loadPart' hl)
      | (refine wpAny_ite_true (decide_eq_true c2) ?_; wp_walk using wpAny_loadPart' hl))
    all_goals (try exact ⟨_, rfl, h⟩)
def rRepS (K : PySem.W.Frag) : R2 := fun x y H Q => ∃ l k xs, x = .ref l ∧ y = .int k ∧ SqT K H l xs ∧ -(2 ^ 63) ≤ k ∧ k < 2 ^ 63 ∧ ((xs = [] ∨ k = 1) ∧ Q (.ref l) H ∨ (xs ≠ [] ∧ k ≤ 0 ∧ ∀ p, H p = none → Q (.ref p) (upd H p (.tup []))))
theorem op_repS {X : Cx} : OpR X (binaryOp .Mult) (rRepS X.K) := by
  intro pins s σ H x y v u Q I rx ry h
  obtain ⟨l, k, xs, rfl, rfl, hT, h1, h2, hq⟩ := h
  cases rx
  obtain ⟨t, rfl⟩ := ry
  obtain ⟨its, r, ⟨⟨cls, dd, data, sl⟩, ho, hc, n, hd⟩, hs⟩ := I.tuple hT
  simp only at hc hd
  subst hc hd
  have hle : its.length = xs.length := r.length.symm
  have c0 : (decide (k < -(2 ^ 63)) || decide (k ≥ 2 ^ 63)) = false := by
    rw [decide_eq_false (by omega), decide_eq_false (by omega)] <;> rfl
  refine wpAny_binaryOp_repeat_ref (T := "tuple") (U := "int") (by decide) ⟨_, ho, rfl⟩ (fun s' => typeIs_int s' k t) noFill_tuple_mul F.fills_int_mul F.slot_int_rmul repeat_tuple F.slot_int_index.lookup
    (call_meets F.slot_int_rmul (typeIs_int s k t) F.entry_int_rmul (F.args_int_rmul_2 _ _) (int_rmul_tuple k t l its.toArray n dd sl) ⟨ho, rfl, ⟨_, ho, rfl⟩, ?_⟩)
  rcases hq with ⟨hc, q⟩ | ⟨hne, hk, q⟩
  · refine call_meets F.slot_tuple_mul ⟨_, ho, rfl⟩ F.entry_tuple_mul (F.args_tuple_mul_2 _ _) (tuple_mul_same l its.toArray n dd sl k t c0 ?_) ⟨ho, ⟨.ref l, H, I, rfl, q⟩⟩
    rcases hc with rfl | rfl
    · have : its = [] := List.eq_nil_of_length_eq_zero hle
      subst this
      rfl
    · simp
  · have hn : its ≠ [] := fun e => hne (by
      rw [e] at hle
      exact List.eq_nil_of_length_eq_zero hle.symm)
    have hi : its.toArray.isEmpty = false := by
      cases its with
      | nil => exact absurd rfl hn
      | cons a b => rfl
    refine call_meets F.slot_tuple_mul ⟨_, ho, rfl⟩ F.entry_tuple_mul (F.args_tuple_mul_2 _ _) (tuple_mul_none l its.toArray n dd sl k t c0 ?_ ?_) ⟨ho, ?_⟩
    · rw [hi, Bool.false_or]
      exact beq_eq_false_iff_ne.mpr (by omega)
    · rw [decide_eq_true hk, Bool.true_or]
    · exact ⟨.ref s.heap.objs.size, _, I.laid (t' := s.toks) (o := .tup []) (fun b ob q => Heap.get?_push_of_some _ q) (Nat.le_refl _) ⟨Nat.zero_le _, _, .nil, IsTup.new _ _⟩, rfl, q _ (I.hok.fresh (Nat.le_refl _))⟩
end E2
end

section
set_option Elab.async false
set_option linter.all false
set_option maxRecDepth 100000
set_option maxHeartbeats 4000000
/-! E10: + - * // % ** , < <= > >=, in, is, by data. -/
namespace E2
open PySem PySem.Spec PyProof.Rows L2
def shI (i : Int) : Option Slot := some (.sh (.int i))
def shB (b : Bool) : Option Slot := some (.sh (.bl b))
/-! ### operators of two -/
def addD : Dt → Dt → Option Slot
  | .int i, .int j => shI (i + j)
  | .tup a, .tup b => if a.length + b.length ≤ 16777216 then some (.sh (.tup (a ++ b))) else none
  | .lst a, .lst b => if a.length + b.length ≤ 16777216 then some (.ow (.lst (a ++ b))) else none
  | .str a, .str b => if a.length + b.length ≤ 16777216 then some (.sh (.str (a ++ b))) else none
  | _, _ => none
def subD : Dt → Dt → Option Slot
  | .int i, .int j => shI (i - j)
  | _, _ => none
def mulOk (i j : Int) : Bool := (decide (-18446744073709551616 < i) && decide (i < 18446744073709551616)) || (decide (-18446744073709551616 < j) && decide (j < 18446744073709551616)) || decide (i.natAbs.log2 + j.natAbs.log2 < 1000000)
def repL {α : Type} (xs : List α) (k : Int) : List α := (List.replicate k.toNat xs).flatten
def mulD : Dt → Dt → Option Slot
  | .int i, .int j => if mulOk i j then shI (i * j) else none
  | .tup xs, .int k => if decide (xs.length ≤ 1000) && decide (-1000 ≤ k) && decide (k ≤ 1000) then some (.sh (.tup (repL xs k))) else none
  | .lst xs, .int k => if decide (xs.length ≤ 1000) && decide (-1000 ≤ k) && decide (k ≤ 1000) then some (.ow (.lst (repL xs k))) else none
  | _, _ => none
def modD : Dt → Dt → Option Slot
  | .int i, .int j => if 0 < j then shI (i % j) else if j = 0 then none else shI (i.fmod j)
  | _, _ => none
def fdivD : Dt → Dt → Option Slot
  | .int i, .int j => if 0 < j then (if j.natAbs.log2 < 9000 then shI (i / j) else none) else if j = 0 then none else (if j.natAbs < 1073741824 then shI (i.fdiv j) else none)
  | _, _ => none
def powD : Dt → Dt → Option Slot
  | .int i, .int j => if decide (0 ≤ j) && decide (j ≤ 1000000) && decide (i.natAbs < 18446744073709551616) then shI (i ^ j.toNat) else none
  | _, _ => none
section
variable {mg : Str → Option Value} {X : Cx}
theorem rep_all {K : PySem.W.Frag} {mg : Str → Option Value} {G : Hp} {xs : List V} {ds : List Dt} (r : RpAll K mg G xs ds) : ∀ n : Nat, RpAll K mg G (List.replicate n xs).flatten (List.replicate n ds).flatten
  | 0 => .nil
  | n + 1 => by
    rw [List.replicate_succ, List.replicate_succ, List.flatten_cons, List.flatten_cons]
    exact r.append (rep_all r n)
/-- a list that is read, maybe locked, as it stands -/
theorem lstR {pins : List (Addr × Obj)} {σ : L2.St} {H : Hp} {s : Shared} {l : Addr} {xs : List V} (I : Inv X pins σ H s) (h : Rd H l (.lst xs)) : xs.length ≤ sizeLine ∧ ∃ (its : List Value) (n : Nat), Vals xs its ∧ xs.length = its.length ∧ s.heap.get? l = some { cls := .type "list", data := .seq its.toArray n } := by
  obtain ⟨z, its, n, r, e⟩ := h.ok I.hok
  exact ⟨z, its, n, r, r.length, e⟩
def rCatL : R2 := fun x y H Q => ∃ l b xs zs, x = .ref l ∧ y = .ref b ∧ Rd H l (.lst xs) ∧ Rd H b (.lst zs) ∧ xs.length + zs.length ≤ sizeLine ∧ ∀ p, H p = none → Q (.ref p) (upd H p (.lst (xs ++ zs)))
theorem op_catL : OpR X (binaryOp .Add) rCatL := by
  intro pins s σ H x y v u Q I rx ry h
  obtain ⟨l, b, xs, zs, rfl, rfl, hH, hB, hz, q⟩ := h
  cases rx
  cases ry
  obtain ⟨z, its, n, r, hl, e⟩ := lstR I hH
  obtain ⟨z2, its2, n2, r2, hl2, e2⟩ := lstR I hB
  refine PySem.P.add_list e e2 ?_ (by rw [List.size_toArray, List.size_toArray]; omega)
  have ea : its.toArray ++ its2.toArray = (its ++ its2).toArray := by simp
  rw [ea]
  exact ⟨.ref _, _, I.lnew (t' := s.toks) (r.append r2) (by rw [List.length_append]; omega), rfl, q _ I.fresh⟩
theorem og_add : OpR X (binaryOp .Add) (rG X.K mg addD) := by
  intro pins s σ H x y v u Q I rx ry ⟨G, d, e, sl, l, h1, h2, hg, k⟩
  unfold addD at hg
  split at hg
  · cases hg
    cases h1.int; cases h2.int
    exact op_add pins s σ H _ _ v u Q I rx ry ⟨_, _, rfl, rfl, k.pure l (.int _)⟩
  · split at hg
    · rename_i hz
      cases hg
      obtain ⟨a, xs, rfl, s1, r1, w1, _⟩ := h1.tup l
      obtain ⟨b, ys, rfl, s2, r2, w2, _⟩ := h2.tup l
      refine op_catA pins s σ H _ _ v u Q I rx ry ⟨a, b, xs, ys, rfl, rfl, s1, s2, by rw [r1.length, r2.length, sizeLine_eq]; exact hz, fun e => ?_, fun n e => ?_, fun _ _ => k.newT l (r1.append r2)⟩
      · subst e
        cases r1
        exact k.pure l w2
      · subst e
        cases r2
        rw [List.append_nil] at k
        exact k.pure l w1
    · cases hg
  · split at hg
    · rename_i hz
      cases hg
      obtain ⟨a, xs, rfl, s1, r1⟩ := h1.lst l
      obtain ⟨b, ys, rfl, s2, r2⟩ := h2.lst l
      exact op_catL pins s σ H _ _ v u Q I rx ry ⟨a, b, xs, ys, rfl, rfl, s1, s2, by rw [r1.length, r2.length, sizeLine_eq]; exact hz, k.newL l (r1.append r2)⟩
    · cases hg
  · split at hg
    · rename_i hz
      cases hg
      cases h1.str; cases h2.str
      exact op_add_str pins s σ H _ _ v u Q I rx ry ⟨_, _, rfl, rfl, by rw [sizeLine_eq]; exact hz, k.pure l (.str _)⟩
    · cases hg
  · cases hg
theorem og_sub : OpR X (binaryOp .Sub) (rG X.K mg subD) := by
  intro pins s σ H x y v u Q I rx ry ⟨G, d, e, sl, l, h1, h2, hg, k⟩
  unfold subD at hg
  split at hg
  · cases hg
    cases h1.int; cases h2.int
    exact op_sub pins s σ H _ _ v u Q I rx ry ⟨_, _, rfl, rfl, k.pure l (.int _)⟩
  · cases hg
def rRepLR : R2 := fun x y H Q => ∃ l k xs, x = .ref l ∧ y = .int k ∧ Rd H l (.lst xs) ∧ -(2 ^ 63) ≤ k ∧ k < 2 ^ 63 ∧ xs.length * k.toNat ≤ sizeLine ∧
  ∀ p, H p = none → Q (.ref p) (upd H p (.lst (List.replicate k.toNat xs).flatten))
theorem op_repR : OpR X (binaryOp .Mult) rRepLR := by
  intro pins s σ H x y v u Q I rx ry ⟨a, kk, ws, ex, ey, hR, hlo, hhi, hcap, hQ⟩
  subst ex ey
  cases rx
  obtain ⟨tk, rfl⟩ := ry
  obtain ⟨hz, us, cap, rv, hlen, ho⟩ := lstR I hR
  have hsz : us.toArray.size * kk.toNat ≤ 16777216 := by rw [List.size_toArray, ← hlen, ← sizeLine_eq]; exact hcap
  have hf : List.foldl (fun x1 x2 => x1 ++ x2) #[] (List.replicate (if us.toArray.isEmpty = true then 0 else kk.toNat) us.toArray) = (List.replicate kk.toNat us).flatten.toArray := by
    cases us with
    | nil => simp
    | cons a r => rw [if_neg (by simp)]; exact size_rep _ _
  refine wpAny_binaryOp_repeat_ref (T := "list") (U := "int") (by decide) ⟨_, ho, rfl⟩ (fun s2 => typeIs_int s2 kk tk) noFill_list_mul F.fills_int_mul F.slot_int_rmul repeat_list F.slot_int_index.lookup
    (call_meets F.slot_int_rmul (typeIs_int s kk tk) F.entry_int_rmul (F.args_int_rmul_2 _ _) (int___rmul___int_list kk tk a us.toArray cap)
      ⟨ho, rfl, ⟨_, ho, rfl⟩, call_meets F.slot_list_mul ⟨_, ho, rfl⟩ F.entry_list_mul (F.args_list_mul_2 _ _)
        (AutoListH.list___mul___list_int_3 a us.toArray cap kk tk (by simp [Builtin.List.listFitsIndex]; omega) (by omega) (by simp [Builtin.List.listTooLong, sizeLine]; omega)) ⟨ho, ?_⟩⟩)
  rw [hf]
  exact ⟨.ref _, _, I.lnew (t' := s.toks) (rv.rep kk.toNat) (by rw [PyProof.Rows.lm_len_rep_flat, Nat.mul_comm]; exact hcap), rfl, hQ _ I.fresh⟩
theorem og_mul : OpR X (binaryOp .Mult) (rG X.K mg mulD) := by
  intro pins s σ H x y v u Q I rx ry ⟨G, d, e, sl, l, h1, h2, hg, k⟩
  unfold mulD at hg
  split at hg
  · rename_i i j
    split at hg
    · rename_i hc
      cases hg
      cases h1.int; cases h2.int
      unfold mulOk at hc
      simp only [Bool.or_eq_true, Bool.and_eq_true, decide_eq_true_eq] at hc
      rcases hc with hc | hc
      · exact op_mul pins s σ H _ _ v u Q I rx ry ⟨_, _, rfl, rfl, hc.imp (fun z => ⟨by omega, by omega⟩) (fun z => ⟨by omega, by omega⟩), k.pure l (.int _)⟩
      · exact op_mulW pins s σ H _ _ v u Q I rx ry ⟨_, _, rfl, rfl, hc, k.pure l (.int _)⟩
    · cases hg
  · rename_i ds kk
    split at hg
    · rename_i hc
      cases hg
      simp only [Bool.and_eq_true, decide_eq_true_eq] at hc
      obtain ⟨a, xs, rfl, s1, r1, w1, _⟩ := h1.tup l
      cases h2.int
      have hlen := r1.length
      by_cases hs : xs = [] ∨ kk = 1
      · refine op_repS pins s σ H _ _ v u Q I rx ry ⟨a, kk, xs, rfl, rfl, s1, by omega, by omega, .inl ⟨hs, ?_⟩⟩
        have e : repL ds kk = ds := by
          rcases hs with rfl | rfl
          · cases r1
            unfold repL
            simp
          · unfold repL
            simp
        rw [e] at k
        exact k.pure l w1
      · by_cases hk : kk ≤ 0
        · refine op_repS pins s σ H _ _ v u Q I rx ry ⟨a, kk, xs, rfl, rfl, s1, by omega, by omega, .inr ⟨fun z => hs (.inl z), hk, ?_⟩⟩
          have e : repL ds kk = [] := by
            unfold repL
            have : kk.toNat = 0 := by omega
            rw [this]
            rfl
          rw [e] at k
          exact k.newT l .nil
        · have h1' : ¬ kk = 1 := fun z => hs (.inr z)
          exact op_repT pins s σ H _ _ v u Q I rx ry ⟨a, kk, xs, rfl, rfl, s1, fun z => hs (.inl z), by omega, by omega, by omega, k.newT l (rep_all r1 _)⟩
    · cases hg
  · rename_i ds kk
    split at hg
    · rename_i hc
      cases hg
      simp only [Bool.and_eq_true, decide_eq_true_eq] at hc
      obtain ⟨a, xs, rfl, s1, r1⟩ := h1.lst l
      cases h2.int
      have hlen := r1.length
      have hm : xs.length * kk.toNat ≤ sizeLine := by
        rw [sizeLine_eq]
        have : xs.length * kk.toNat ≤ 1000 * 1000 := Nat.mul_le_mul (by omega) (by omega)
        omega
      exact op_repR pins s σ H _ _ v u Q I rx ry ⟨a, kk, xs, rfl, rfl, s1, by omega, by omega, hm, k.newL l (rep_all r1 _)⟩
    · cases hg
  · cases hg
theorem og_mod : OpR X (binaryOp .Mod) (rG X.K mg modD) := by
  intro pins s σ H x y v u Q I rx ry ⟨G, d, e, sl, l, h1, h2, hg, k⟩
  unfold modD at hg
  split at hg
  · cases h1.int; cases h2.int
    split at hg
    · rename_i hj
      cases hg
      exact op_mod pins s σ H _ _ v u Q I rx ry ⟨_, _, rfl, rfl, hj, k.pure l (.int _)⟩
    · split at hg
      · cases hg
      · rename_i hj
        cases hg
        exact op_modN pins s σ H _ _ v u Q I rx ry ⟨_, _, rfl, rfl, hj, k.pure l (.int _)⟩
  · cases hg
theorem og_fdiv : OpR X (binaryOp .FloorDiv) (rG X.K mg fdivD) := by
  intro pins s σ H x y v u Q I rx ry ⟨G, d, e, sl, l, h1, h2, hg, k⟩
  unfold fdivD at hg
  split at hg
  · cases h1.int; cases h2.int
    split at hg
    · rename_i hj
      split at hg
      · rename_i hl
        cases hg
        exact op_fdivW pins s σ H _ _ v u Q I rx ry ⟨_, _, rfl, rfl, ⟨hj, hl⟩, k.pure l (.int _)⟩
      · cases hg
    · split at hg
      · cases hg
      · rename_i hj
        split at hg
        · rename_i hl
          cases hg
          exact op_fdivN pins s σ H _ _ v u Q I rx ry ⟨_, _, rfl, rfl, ⟨hj, hl⟩, k.pure l (.int _)⟩
        · cases hg
  · cases hg
theorem og_pow : OpR X (binaryOp .Pow) (rG X.K mg powD) := by
  intro pins s σ H x y v u Q I rx ry ⟨G, d, e, sl, l, h1, h2, hg, k⟩
  unfold powD at hg
  split at hg
  · cases h1.int; cases h2.int
    split at hg
    · rename_i hc
      cases hg
      simp only [Bool.and_eq_true, decide_eq_true_eq] at hc
      exact op_pow pins s σ H _ _ v u Q I rx ry ⟨_, _, rfl, rfl, ⟨by omega, by omega, by omega⟩, k.pure l (.int _)⟩
    · cases hg
  · cases hg

/-! ### < <= > >= -/
def notNon : Dt → Bool
  | .non => false
  | _ => true
def cmpD (f : Int → Int → Bool) (g : PyData → PyData → Bool) : Dt → Dt → Option Slot
  | .int i, .int j => shB (f i j)
  | d, e => if flat 60 d && flat 60 e && notNon d && PySem.W.alike (py d) (py e) then shB (g (py d) (py e)) else none
def ltD := cmpD (fun i j => decide (i < j)) fun a b => PySem.W.dataLt a b
def leD := cmpD (fun i j => decide (i ≤ j)) fun a b => !PySem.W.dataLt b a
def gtD := cmpD (fun i j => decide (j < i)) fun a b => PySem.W.dataLt b a
def geD := cmpD (fun i j => decide (j ≤ i)) fun a b => !PySem.W.dataLt a b
theorem py_non {d : Dt} (n : Nat) (f : flat n d = true) (h : notNon d = true) : py d ≠ .none := by
  cases d with
  | non => cases h
  | dct _ _ => cases n <;> simp [flat] at f
  | fn _ => cases n <;> simp [flat] at f
  | _ => intro e; simp [py] at e
theorem og_cmp {op : CmpOp} {f : Int → Int → Bool} {g : PyData → PyData → Bool} (hI : OpR X (compareOp op) (rI0 fun i j => .bl (f i j)))
    (hD : ∀ {s : Shared} {a b : Value} {da db : PyData} {as bs : List Addr} {Q : Value → Shared → Prop}, Reads s.heap a da as → Reads s.heap b db bs → PySem.W.alike da db = true → da ≠ .none → X.A.units + min da.depth db.depth < cLine → Q (.bool (g da db)) s →
      wpAny (model X.prog X.w) X.A (compareOp op a b) Q X.xe s) (hu : X.A.units + 70 < cLine) : OpR X (compareOp op) (rG X.K mg (cmpD f g)) := by
  intro pins s σ H x y v u Q I rx ry ⟨G, d, e, sl, l, h1, h2, hg, k⟩
  unfold cmpD at hg
  split at hg
  · cases hg
    cases h1.int; cases h2.int
    exact hI pins s σ H _ _ v u Q I rx ry ⟨_, _, rfl, rfl, k.pure l (.bl _)⟩
  · split at hg
    · rename_i hf
      cases hg
      simp only [Bool.and_eq_true] at hf
      obtain ⟨as, r1⟩ := Dp.reads I _ x v (h1.dp l hf.1.1.1) rx
      obtain ⟨bs, r2⟩ := Dp.reads I _ y u (h2.dp l hf.1.1.2) ry
      have f1 := flat_py 60 d hf.1.1.1
      exact hD r1 r2 hf.2 (py_non 60 hf.1.1.1 hf.1.2) (units_ok hu f1.2) ⟨.bl _, H, I, rfl, k.pure l (.bl _)⟩
    · cases hg
theorem og_lt (hu : X.A.units + 70 < cLine) : OpR X (compareOp .Lt) (rG X.K mg ltD) := og_cmp op_lt (fun h1 h2 h3 h4 h5 h6 => PySem.W.lt_data h1 h2 h3 h4 h5 h6) hu
theorem og_le (hu : X.A.units + 70 < cLine) : OpR X (compareOp .LtE) (rG X.K mg leD) := og_cmp op_le (fun h1 h2 h3 h4 h5 h6 => PySem.W.le_data h1 h2 h3 h4 h5 h6) hu
theorem og_gt (hu : X.A.units + 70 < cLine) : OpR X (compareOp .Gt) (rG X.K mg gtD) := og_cmp op_gt (fun h1 h2 h3 h4 h5 h6 => PySem.W.gt_data h1 h2 h3 h4 h5 h6) hu
theorem og_ge (hu : X.A.units + 70 < cLine) : OpR X (compareOp .GtE) (rG X.K mg geD) := og_cmp op_ge (fun h1 h2 h3 h4 h5 h6 => PySem.W.ge_data h1 h2 h3 h4 h5 h6) hu

/-! ### is -/
def isNon : Dt → Bool
  | .non => true
  | _ => false
def isD : Dt → Dt → Option Slot
  | d, .non => shB (isNon d)
  | .bl a, .bl b => shB (decide (a = b))
  | _, _ => none
def notIs : Option Slot → Option Slot
  | some (.sh (.bl b)) => shB (!b)
  | _ => none
def isNotD (d e : Dt) : Option Slot := notIs (isD d e)
theorem RpR.isNon {K : PySem.W.Frag} {G H : Hp} {x : V} {d : Dt} (h : RpR K mg G H x d) : decide (x = .non) = isNon d := by
  cases d with
  | non => cases h.non; rfl
  | bl _ => cases h.bl; rfl
  | int _ => cases h.int; rfl
  | str _ => cases h.str; rfl
  | _ =>
    rcases h with h | ⟨p, rfl, _, h⟩
    · cases h <;> rfl
    · rfl
theorem og_is : OpR X (compareOp .Is) (rG X.K mg isD) := by
  intro pins s σ H x y v u Q I rx ry ⟨G, d, e, sl, l, h1, h2, hg, k⟩
  unfold isD at hg
  split at hg
  · cases hg
    cases h2.non
    refine op_isN pins s σ H _ _ v u Q I rx ry ⟨rfl, ?_⟩
    rw [h1.isNon]
    exact k.pure l (.bl _)
  · cases hg
    cases h1.bl; cases h2.bl
    exact op_isBl pins s σ H _ _ v u Q I rx ry ⟨_, _, rfl, rfl, k.pure l (.bl _)⟩
  · cases hg
theorem og_isNot : OpR X (compareOp .IsNot) (rG X.K mg isNotD) := by
  intro pins s σ H x y v u Q I rx ry ⟨G, d, e, sl, l, h1, h2, hg, k⟩
  unfold isNotD isD at hg
  split at hg
  · cases hg
    cases h2.non
    refine op_notN pins s σ H _ _ v u Q I rx ry ⟨rfl, ?_⟩
    rw [h1.isNon]
    exact k.pure l (.bl _)
  · cases hg
    cases h1.bl; cases h2.bl
    exact op_notBl pins s σ H _ _ v u Q I rx ry ⟨_, _, rfl, rfl, k.pure l (.bl _)⟩
  · cases hg
end
end E2
end

section
set_option Elab.async false
set_option linter.all false
set_option maxRecDepth 100000
set_option maxHeartbeats 4000000
/-! E11: in, not in, subscripts, slices, len. -/
namespace E2
open PySem PySem.Spec PyProof.Rows L2
mutual
def same : Dt → Dt → Bool
  | .non, .non => true
  | .bl a, .bl b => a == b
  | .int a, .int b => a == b
  | .str a, .str b => a == b
  | .tup a, .tup b => sameAll a b
  | .lst a, .lst b => sameAll a b
  | .dct a b, .dct c d => sameAll a c && sameAll b d
  | .fn a, .fn b => a == b
  | _, _ => false
def sameAll : List Dt → List Dt → Bool
  | [], [] => true
  | a :: as, b :: bs => same a b && sameAll as bs
  | _, _ => false
end
mutual
theorem same_iff : ∀ (a b : Dt), same a b = true ↔ a = b
  | .non, b => by cases b <;> simp [same]
  | .bl a, b => by cases b <;> simp [same]
  | .int a, b => by cases b <;> simp [same]
  | .str a, b => by cases b <;> simp [same]
  | .tup a, b => by
    cases b <;> simp [same]
    rename_i b
    exact sameAll_iff a b
  | .lst a, b => by
    cases b <;> simp [same]
    rename_i b
    exact sameAll_iff a b
  | .dct a c, b => by
    cases b <;> simp [same]
    rename_i b d
    rw [sameAll_iff a b, sameAll_iff c d]
  | .fn a, b => by cases b <;> simp [same]
theorem sameAll_iff : ∀ (a b : List Dt), sameAll a b = true ↔ a = b
  | [], b => by cases b <;> simp [sameAll]
  | a :: as, [] => by simp [sameAll]
  | a :: as, b :: bs => by
    simp only [sameAll, Bool.and_eq_true, List.cons.injEq]
    rw [same_iff a b, sameAll_iff as bs]
end
instance : DecidableEq Dt := fun a b => if h : same a b = true then .isTrue ((same_iff a b).mp h) else .isFalse fun e => h ((same_iff a b).mpr e)

/-! ### keys of dicts -/
def keyA : Dt → Option Key
  | .int i => some (.inl i)
  | .str x => some (.inr x)
  | _ => none
def keyAs : List Dt → Option (List Key)
  | [] => some []
  | d :: ds => match keyA d, keyAs ds with
    | some k, some ks => some (k :: ks)
    | _, _ => none
def keyT : Dt → Option (List Key)
  | .tup ds => keyAs ds
  | _ => none
theorem keyA_iff {d : Dt} {k : Key} : keyA d = some k ↔ d = keyD k := by
  cases d <;> cases k <;> simp [keyA, keyD]
theorem keyAs_iff : ∀ {ds : List Dt} {ks : List Key}, keyAs ds = some ks ↔ ds = ks.map keyD
  | [], ks => by cases ks <;> simp [keyAs]
  | d :: ds, [] => by
    simp only [keyAs, List.map_nil]
    constructor
    · intro h; split at h <;> simp at h
    · intro h; cases h
  | d :: ds, k :: ks => by
    simp only [keyAs, List.map_cons, List.cons.injEq]
    rw [← keyA_iff, ← keyAs_iff]
    constructor
    · intro h
      split at h
      · rename_i a b e1 e2
        cases h
        exact ⟨e1, e2⟩
      · cases h
    · rintro ⟨e1, e2⟩
      rw [e1, e2]
theorem keyT_iff {d : Dt} {ks : List Key} : keyT d = some ks ↔ d = .tup (ks.map keyD) := by
  cases d <;> simp [keyT, keyAs_iff]
theorem keyD_inj {a b : Key} (h : keyD a = keyD b) : a = b := by
  cases a <;> cases b <;> simp [keyD] at h <;> rw [h]
theorem keyDs_inj : ∀ {a b : List Key}, a.map keyD = b.map keyD → a = b
  | [], [], _ => rfl
  | [], _ :: _, h => by simp at h
  | _ :: _, [], h => by simp at h
  | x :: xs, y :: ys, h => by
    simp only [List.map_cons, List.cons.injEq] at h
    rw [keyD_inj h.1, keyDs_inj h.2]
/-- the value at a key -/
def dFind : List Dt → List Dt → Dt → Option Dt
  | k :: ks, v :: vs, d => if same k d then some v else dFind ks vs d
  | _, _, _ => none
/-- a key that fits: one of ints and texts, or a tuple of such -/
def keyFits (ks : List Dt) (d : Dt) : Bool := ((keyA d).isSome && ks.all fun k => (keyA k).isSome) || ((keyT d).isSome && ks.all fun k => (keyT k).isSome)
def dGet (ks vs : List Dt) (d : Dt) : Option (Option Dt) := if keyFits ks d then some (dFind ks vs d) else none
section
variable {K : PySem.W.Frag} {mg : Str → Option Value} {G H G' H' : Hp} {X : Cx}
theorem rp_key {v : V} {k : Key} (h : Rp K mg G v (keyD k)) : v = kV k := by
  cases k <;> cases h <;> rfl
theorem rpAll_keys : ∀ {vs : List V} {ks : List Key}, RpAll K mg G vs (ks.map keyD) → vs = ks.map kV
  | _, [], h => by cases h; rfl
  | _, k :: ks, h => by
    cases h with
    | cons h r => rw [rp_key h, rpAll_keys r]; rfl
theorem RpR.keyA {x : V} {k : Key} (h : RpR K mg G H x (keyD k)) : x = kV k := by
  rcases h with h | ⟨p, rfl, _, h⟩
  · exact rp_key h
  · cases k <;> exact h.elim
theorem RpR.keyT {x : V} {k : List Key} (l : Le G H) (h : RpR K mg G H x (.tup (k.map keyD))) : ∃ b, x = .ref b ∧ H b = some (.tup (k.map kV)) := by
  obtain ⟨a, xs, rfl, _, r, _, hH⟩ := h.tup l
  rw [rpAll_keys r] at hH
  exact ⟨a, rfl, hH⟩
/-- the look-up, by what the values stand for -/
theorem find_rp {κ : Type} [DecidableEq κ] (enc : κ → Dt) (inj : ∀ a b, enc a = enc b → a = b) (k : κ) : ∀ (kvs : List (κ × V)) (vs : List Dt), RpAll K mg G (kvs.map (·.2)) vs →
    (valV kvs k = none ∧ dFind (kvs.map fun p => enc p.1) vs (enc k) = none) ∨ ∃ v d, valV kvs k = some v ∧ dFind (kvs.map fun p => enc p.1) vs (enc k) = some d ∧ Rp K mg G v d
  | [], _, _ => .inl ⟨rfl, rfl⟩
  | p :: kvs, _, .cons (d := d) (ds := ds) h r => by
    by_cases e : p.1 = k
    · refine .inr ⟨p.2, d, by rw [valV_pos e], ?_, h⟩
      have : same (enc p.1) (enc k) = true := (same_iff _ _).mpr (by rw [e])
      simp [dFind, this]
    · have : same (enc p.1) (enc k) = false := by
        cases q : same (enc p.1) (enc k) with
        | false => rfl
        | true => exact absurd (inj _ _ ((same_iff _ _).mp q)) e
      rw [valV_neg e]
      simp only [List.map_cons, dFind, this, Bool.false_eq_true, if_false]
      exact find_rp enc inj k kvs ds r
/-- what a dict tells of a key; an empty one is of either kind -/
def DTell (H : Hp) (a : Addr) (y : V) (r : Option V) : Prop :=
  DGet H a y r ∨ (r = none ∧ ((Rd H a (.dK []) ∧ ∃ (b : Addr) (k : List Key), y = .ref b ∧ H b = some (.tup (k.map kV))) ∨ (Rd H a (.dT []) ∧ ∃ k, y = kV k)))
theorem dtell {a : Addr} {ks : List Dt} {xs : List V} {vs : List Dt} {y : V} {d : Dt} {r : Option Dt} (l : Le G H) (h : DcA (Rd H a) ks xs) (ra : RpAll K mg G xs vs) (hy : RpR K mg G H y d) (e : dGet ks vs d = some r) :
    (r = none ∧ DTell H a y none) ∨ ∃ v d', r = some d' ∧ DTell H a y (some v) ∧ Rp K mg G v d' := by
  unfold dGet keyFits at e
  split at e
  case isFalse => cases e
  rename_i hk
  cases e
  rw [Bool.or_eq_true, Bool.and_eq_true, Bool.and_eq_true] at hk
  rcases hk with ⟨h1, h2⟩ | ⟨h1, h2⟩
  · obtain ⟨k, hk⟩ := Option.isSome_iff_exists.mp h1
    have ed := keyA_iff.mp hk
    subst ed
    have ey := hy.keyA
    subst ey
    rcases h with ⟨kvs, hR, rfl, rfl, _⟩ | ⟨kvs, hR, rfl, rfl, _⟩
    · cases kvs with
      | nil => exact .inl ⟨by simp [dFind], .inr ⟨rfl, .inr ⟨hR, k, rfl⟩⟩⟩
      | cons p kvs => simp [E2.keyA] at h2
    · rcases find_rp keyD (fun _ _ => keyD_inj) k kvs vs ra with ⟨z1, z2⟩ | ⟨v, d', z1, z2, z3⟩
      · exact .inl ⟨z2, .inl (.inl ⟨kvs, k, hR, rfl, z1.symm⟩)⟩
      · exact .inr ⟨v, d', z2, .inl (.inl ⟨kvs, k, hR, rfl, z1.symm⟩), z3⟩
  · obtain ⟨k, hk⟩ := Option.isSome_iff_exists.mp h1
    have ed := keyT_iff.mp hk
    subst ed
    obtain ⟨b, rfl, hb⟩ := hy.keyT l
    rcases h with ⟨kvs, hR, rfl, rfl, _⟩ | ⟨kvs, hR, rfl, rfl, _⟩
    · rcases find_rp (fun k : List Key => Dt.tup (k.map keyD)) (fun a b e => keyDs_inj (by injection e)) k kvs vs ra with ⟨z1, z2⟩ | ⟨v, d', z1, z2, z3⟩
      · exact .inl ⟨z2, .inl (.inr ⟨kvs, k, b, hR, rfl, hb, z1.symm⟩)⟩
      · exact .inr ⟨v, d', z2, .inl (.inr ⟨kvs, k, b, hR, rfl, hb, z1.symm⟩), z3⟩
    · cases kvs with
      | nil => exact .inl ⟨by simp [dFind], .inr ⟨rfl, .inl ⟨hR, b, k, rfl, hb⟩⟩⟩
      | cons p kvs =>
        have h2 := (Bool.and_eq_true_iff.mp (show (_ && _) = true from h2)).1
        cases hp : p.1 <;> simp [hp, keyD, E2.keyT] at h2
theorem emp_kt {P : Program} {w : World} {h : Heap} {a : Addr} (x : h.DictOf (mixKind P w) a []) : h.DictOfH (tupleKind (mixKind P w)) a [] := by
  obtain ⟨o, es, ep, h1, h2, h3, _, h5, _⟩ := x
  have : es.toList = [] := by
    have := h5.length
    exact List.eq_nil_of_length_eq_zero (by simpa using this)
  exact ⟨o, es, ep, h1, h2, h3, by rw [this]; rfl, (fun _ h => nomatch h), List.nodup_nil⟩
theorem emp_tk {P : Program} {w : World} {h : Heap} {a : Addr} (x : h.DictOfH (tupleKind (mixKind P w)) a []) : h.DictOf (mixKind P w) a [] := by
  obtain ⟨o, es, ep, h1, h2, h3, h4, _, _⟩ := x
  have e : es = #[] := by
    apply Array.toList_inj.mp
    rw [h4]
    rfl
  subst e
  exact ⟨o, _, ep, h1, h2, h3, (fun e he => by simp at he), .nil, List.nodup_nil⟩
end
end E2
end

section
set_option Elab.async false
set_option linter.all false
set_option maxRecDepth 100000
set_option maxHeartbeats 4000000
/-! E12: in, not in, subscripts, slices, len. -/
namespace E2
open PySem PySem.Spec PyProof.Rows L2
section
variable {K : PySem.W.Frag} {mg : Str → Option Value} {G H G' H' : Hp} {X : Cx} {pins : List (Addr × Obj)} {σ : L2.St} {s : Shared} {A : Around} {E : Value → Shared → Prop}
theorem dt_in {a : Addr} {y : V} {u : Value} {o : Option V} {Q : Value → Shared → Prop} (hu : A.units + 1 < cLine) (I : Inv X pins σ H s) (g : DTell H a y o) (ry : RelV y u) (h : ∀ s', Inv X pins σ H s' → Q (.bool o.isSome) s') :
    wpAny (model X.prog X.w) A (compareOp .In u (.ref a)) Q E s := by
  rcases g with g | ⟨rfl, ⟨hR, b, k, rfl, eb⟩ | ⟨hR, k, rfl⟩⟩
  · exact d_in hu I g ry h
  · cases (show u = Value.ref b from ry)
    obtain ⟨z, hd, vs, rel, dd⟩ := dk_rd I.hok hR
    cases rel
    exact wpAny_in_heap (tupleKind_room_in1 hu) (key_of I.hok eb) hd (emp_kt dd) (h _ (I.tok _))
  · obtain ⟨z, hd, xs, rel, dd⟩ := dt_rd I.hok hR
    cases rel
    exact wpAny_in_of (kV_is ry) hd (emp_tk dd).mapOf (h _ (I.tok _))
theorem dt_notIn {a : Addr} {y : V} {u : Value} {o : Option V} {Q : Value → Shared → Prop} (hu : A.units + 1 < cLine) (I : Inv X pins σ H s) (g : DTell H a y o) (ry : RelV y u) (h : ∀ s', Inv X pins σ H s' → Q (.bool (!o.isSome)) s') :
    wpAny (model X.prog X.w) A (compareOp .NotIn u (.ref a)) Q E s := by
  rcases g with g | ⟨rfl, ⟨hR, b, k, rfl, eb⟩ | ⟨hR, k, rfl⟩⟩
  · exact d_notIn hu I g ry h
  · cases (show u = Value.ref b from ry)
    obtain ⟨z, hd, vs, rel, dd⟩ := dk_rd I.hok hR
    cases rel
    exact wpAny_notIn_heap (tupleKind_room_in1 hu) (key_of I.hok eb) hd (emp_kt dd) (h _ (I.tok _))
  · obtain ⟨z, hd, xs, rel, dd⟩ := dt_rd I.hok hR
    cases rel
    exact wpAny_notIn_of (kV_is ry) hd (emp_tk dd).mapOf (h _ (I.tok _))
/-! ### in, not in -/
def strIn (a b : Str) : Bool := !(Builtin.Str.occurrences b a 0 b.length 1).isEmpty
def inO (d : Dt) : Dt → Option Bool
  | .lst es => if flat 60 d && flat 60 (.lst es) then some (es.any fun z => eqP z d) else none
  | .tup es => if flat 60 d && flat 60 (.tup es) then some (es.any fun z => eqP z d) else none
  | .dct ks vs => (dGet ks vs d).map Option.isSome
  | .str b => match d with
    | .str a => some (strIn a b)
    | _ => none
  | _ => none
def inD (d e : Dt) : Option Slot := match inO d e with
  | some b => shB b
  | none => none
def notInD (d e : Dt) : Option Slot := match inO d e with
  | some b => shB (!b)
  | none => none
theorem any_py (d : Dt) : ∀ es : List Dt, ((pyAll es).any fun y => PyData.eqv y (py d)) = es.any fun z => eqP z d
  | [] => rfl
  | z :: es => by rw [pyAll, List.any_cons, List.any_cons, any_py d es]; rfl
theorem in_run (hu : X.A.units + 70 < cLine) {G : Hp} {d e : Dt} {b : Bool} {x y : V} {v u : Value} {op : CmpOp} (hop : op = .In ∨ op = .NotIn) (I : Inv X pins σ H s) (rx : RelV x v) (ry : RelV y u) (l : Le G H) (h1 : RpR X.K mg G H x d) (h2 : RpR X.K mg G H y e)
    (hb : inO d e = some b) {Q : VK} (q : Q (.bl (if op = .In then b else !b)) H) : wpAny (model X.prog X.w) X.A (compareOp op v u) (EP X pins σ Q) X.xe s := by
  unfold inO at hb
  split at hb
  · split at hb
    · rename_i es hf
      cases hb
      have hf := Bool.and_eq_true_iff.mp hf
      obtain ⟨as, r1⟩ := Dp.reads I _ x v (h1.dp l hf.1) rx
      obtain ⟨bs, r2⟩ := Dp.reads I _ y u (h2.dp l hf.2) ry
      have f1 := flat_py 60 d hf.1
      have f2 := flat_py 60 _ hf.2
      simp only [py, PyData.plain] at r2 f2
      have hm : X.A.units + 1 + min (PyData.depthAll (pyAll es)) (py d).depth < cLine := by have := f1.2; omega
      rw [← any_py] at q
      rcases hop with rfl | rfl
      · exact SeqAt.in_list_data r2 r1 f2.1 f1.1 hm ⟨.bl _, H, I, rfl, by simpa using q⟩
      · exact SeqAt.notIn_list_data r2 r1 f2.1 f1.1 hm ⟨.bl _, H, I, rfl, by simpa using q⟩
    · cases hb
  · split at hb
    · rename_i es hf
      cases hb
      have hf := Bool.and_eq_true_iff.mp hf
      obtain ⟨as, r1⟩ := Dp.reads I _ x v (h1.dp l hf.1) rx
      obtain ⟨bs, r2⟩ := Dp.reads I _ y u (h2.dp l hf.2) ry
      have f1 := flat_py 60 d hf.1
      have f2 := flat_py 60 _ hf.2
      simp only [py, PyData.plain] at r2 f2
      have hm : X.A.units + 1 + min (PyData.depthAll (pyAll es)) (py d).depth < cLine := by have := f1.2; omega
      rw [← any_py] at q
      rcases hop with rfl | rfl
      · exact SeqAt.in_tuple_data r2 r1 f2.1 f1.1 hm ⟨.bl _, H, I, rfl, by simpa using q⟩
      · exact SeqAt.notIn_tuple_data r2 r1 f2.1 f1.1 hm ⟨.bl _, H, I, rfl, by simpa using q⟩
    · cases hb
  · rename_i ks vs
    obtain ⟨r, hr, eb⟩ := Option.map_eq_some_iff.mp hb
    obtain ⟨a, xs, rfl, hd, ra⟩ := h2.dct l
    cases (show u = Value.ref a from ry)
    have key : ∃ o : Option V, o.isSome = b ∧ DTell H a x o := by
      rcases dtell l hd ra h1 hr with ⟨rfl, t⟩ | ⟨w, d', rfl, t, _⟩
      · exact ⟨none, eb, t⟩
      · exact ⟨some w, eb, t⟩
    obtain ⟨o, eo, t⟩ := key
    rcases hop with rfl | rfl
    · exact dt_in (by omega) I t rx fun s' I' => ⟨.bl _, H, I', rfl, by rw [eo]; simpa using q⟩
    · exact dt_notIn (by omega) I t rx fun s' I' => ⟨.bl _, H, I', rfl, by rw [eo]; simpa using q⟩
  · split at hb
    · cases hb
      cases h1.str; cases h2.str
      rcases hop with rfl | rfl
      · exact op_in_str pins s σ H _ _ v u Q I rx ry ⟨_, _, rfl, rfl, by simpa [strIn] using q⟩
      · exact op_notIn_str pins s σ H _ _ v u Q I rx ry ⟨_, _, rfl, rfl, by simpa [strIn] using q⟩
    · cases hb
  · cases hb
theorem og_in (hu : X.A.units + 70 < cLine) : OpR X (compareOp .In) (rG X.K mg inD) := by
  intro pins s σ H x y v u Q I rx ry ⟨G, d, e, sl, l, h1, h2, hg, k⟩
  unfold inD at hg
  split at hg
  · rename_i b hb
    cases hg
    exact in_run hu (.inl rfl) I rx ry l h1 h2 hb (k.pure l (.bl _))
  · cases hg
theorem og_notIn (hu : X.A.units + 70 < cLine) : OpR X (compareOp .NotIn) (rG X.K mg notInD) := by
  intro pins s σ H x y v u Q I rx ry ⟨G, d, e, sl, l, h1, h2, hg, k⟩
  unfold notInD at hg
  split at hg
  · rename_i b hb
    cases hg
    exact in_run hu (.inr rfl) I rx ry l h1 h2 hb (k.pure l (.bl _))
  · cases hg

/-! ### a[b] -/
def ixD : Dt → Dt → Option Slot
  | .lst xs, .int i => (atI xs i).map .sh
  | .tup xs, .int i => (atI xs i).map .sh
  | .str x, .int i => if x.length ≤ 16777216 then (match atI x.cps.toList i with
    | some c => some (.sh (.str ⟨#[c]⟩))
    | none => none) else none
  | .dct ks vs, d => match dGet ks vs d with
    | some (some v) => some (.sh v)
    | _ => none
  | _, _ => none
theorem atI_rp {xs : List V} {ds : List Dt} {i : Int} {d : Dt} (r : RpAll K mg G xs ds) (h : atI ds i = some d) : ∃ v, atI xs i = some v ∧ Rp K mg G v d := by
  unfold atI at h ⊢
  rw [r.length]
  obtain ⟨j, e, h⟩ := Option.bind_eq_some_iff.mp h
  obtain ⟨v, e2, rv⟩ := r.get h
  exact ⟨v, by rw [e]; exact e2, rv⟩
theorem og_ix (hu : X.A.units + 70 < cLine) : IxR X (rG X.K mg ixD) := by
  intro value slice pins s σ H x y v u Q I rx ry ⟨G, d, e, sl, l, h1, h2, hg, k⟩ hs
  unfold ixD at hg
  split at hg
  · obtain ⟨d', hd', rfl⟩ := Option.map_eq_some_iff.mp hg
    obtain ⟨a, xs, rfl, hR, r⟩ := h1.lst l
    cases h2.int
    obtain ⟨w, ew, rw'⟩ := atI_rp r hd'
    exact ix_list value slice pins s σ H _ _ v u Q I rx ry ⟨a, xs, _, w, rfl, rfl, .inl hR, ew, k.pure l rw'⟩ hs
  · obtain ⟨d', hd', rfl⟩ := Option.map_eq_some_iff.mp hg
    obtain ⟨a, xs, rfl, hR, r, _⟩ := h1.tup l
    cases h2.int
    obtain ⟨w, ew, rw'⟩ := atI_rp r hd'
    exact ix_tup value slice pins s σ H _ _ v u Q I rx ry ⟨a, xs, _, w, rfl, rfl, hR, ew, k.pure l rw'⟩ hs
  · split at hg
    · rename_i hz
      split at hg
      · rename_i c hc
        cases hg
        cases h1.str; cases h2.int
        exact ix_str value slice pins s σ H _ _ v u Q I rx ry ⟨_, _, c, rfl, rfl, by rw [sizeLine_eq]; exact hz, hc, k.pure l (.str _)⟩ hs
      · cases hg
    · cases hg
  · split at hg
    · rename_i w hw
      cases hg
      obtain ⟨a, xs, rfl, hd, ra⟩ := h1.dct l
      cases (show v = Value.ref a from rx)
      rcases dtell l hd ra h2 hw with ⟨e, _⟩ | ⟨w', d', e, t, rp⟩
      · cases e
      · cases e
        rcases t with t | ⟨e, _⟩
        · exact tail_any (dict_typeIs I t) PySem.F.slot_dict_getitem.lookup (d_getItem (by omega) I t ry fun w2 s2 I2 rw2 => ⟨w', H, I2, rw2, k.pure l rp⟩) hs
        · cases e
    · cases hg
  · cases hg
end
end E2
end

section
set_option Elab.async false
set_option linter.all false
set_option maxRecDepth 100000
set_option maxHeartbeats 4000000
/-! E13: isinstance, slices, len. -/
namespace E2
open PySem PySem.Spec PyProof.Rows L2
/-! ### isinstance -/
inductive Ty where
  | int | bool | str | tuple | list | dict
def Ty.name : Ty → String
  | .int => "int"
  | .bool => "bool"
  | .str => "str"
  | .tuple => "tuple"
  | .list => "list"
  | .dict => "dict"
def isTy : Dt → Ty → Bool
  | .int _, .int => true
  | .bl _, .int => true
  | .bl _, .bool => true
  | .str _, .str => true
  | .tup _, .tuple => true
  | .lst _, .list => true
  | .dct _ _, .dict => true
  | _, _ => false
def tyN : Dt → String
  | .non => "NoneType"
  | .bl _ => "bool"
  | .int _ => "int"
  | .str _ => "str"
  | .tup _ => "tuple"
  | .lst _ => "list"
  | .dct _ _ => "dict"
  | .fn _ => "function"
def notFn : Dt → Bool
  | .fn _ => false
  | _ => true
def isiD (ts : List Ty) (d : Dt) : Option Slot := if notFn d then shB (ts.any (isTy d)) else none
section
variable {K : PySem.W.Frag} {mg : Str → Option Value} {G H G' H' : Hp} {X : Cx} {pins : List (Addr × Obj)} {σ : L2.St} {s : Shared} {A : Around} {E : Value → Shared → Prop}
theorem kit_one (d : Dt) (h : notFn d = true) (t : Ty) : PySem.W.kitOne K (.type (tyN d)) (.type t.name) = some (isTy d t) := by
  apply kit_ty
  cases d <;> first | (cases h; done) | (cases t <;> (simp only [tyN, Ty.name, isTy]; decide +kernel))
theorem kit_any (d : Dt) (h : notFn d = true) : ∀ ts : List Ty, PySem.W.kitAny K (.type (tyN d)) (ts.map fun t => .type t.name) = some (ts.any (isTy d))
  | [] => rfl
  | t :: ts => by
    refine kitAny_cons (kit_one d h t) (fun e => ?_) fun e => ?_
    · rw [List.any_cons, e, Bool.false_or]; exact kit_any d h ts
    · rw [List.any_cons, e, Bool.true_or]
theorem kitD {x : V} {u : Value} {d : Dt} (I : Inv X pins σ H s) (rx : RelV x u) (l : Le G H) (h : RpR X.K mg G H x d) (hn : notFn d = true) : ∃ P : Heap → Prop, PySem.W.KitX X.K u (.type (tyN d)) P ∧ P s.heap ∧ u ≠ .builtin "__main__.__loader__#opaque" := by
  cases d with
  | non => cases h.non; cases (show u = Value.none from rx); exact ⟨_, PySem.W.kitx_none, trivial, fun z => nomatch z⟩
  | bl b => cases h.bl; cases (show u = Value.bool b from rx); exact ⟨_, PySem.W.kitx_bool, trivial, fun z => nomatch z⟩
  | int i => cases h.int; obtain ⟨t, rfl⟩ := rx; exact ⟨_, PySem.W.kitx_int, trivial, fun z => nomatch z⟩
  | str y => cases h.str; obtain ⟨t, rfl⟩ := rx; exact ⟨_, PySem.W.kitx_str, trivial, fun z => nomatch z⟩
  | tup ds =>
    obtain ⟨a, xs, rfl, _, _, _, hH⟩ := h.tup l
    cases (show u = Value.ref a from rx)
    obtain ⟨_, _, _, o, h1, h2, _⟩ := (show ObjOk X.prog X.w H s.heap a (.tup xs) from I.hok a _ hH)
    exact ⟨_, PySem.W.kitx_tuple, ⟨o, h1, h2⟩, fun z => nomatch z⟩
  | lst ds =>
    obtain ⟨a, xs, rfl, hR, _⟩ := h.lst l
    cases (show u = Value.ref a from rx)
    obtain ⟨_, its, n, _, _, e⟩ := lstR I hR
    exact ⟨_, PySem.W.kitx_list, ⟨_, e, rfl⟩, fun z => nomatch z⟩
  | dct ks vs =>
    obtain ⟨a, xs, rfl, hD, _⟩ := h.dct l
    cases (show u = Value.ref a from rx)
    rcases hD with ⟨kvs, hR, _⟩ | ⟨kvs, hR, _⟩
    · obtain ⟨_, _, _, _, o, es, ep, h1, h2, _⟩ := dt_rd I.hok hR
      exact ⟨_, PySem.W.kitx_dict, ⟨o, h1, h2.1⟩, fun z => nomatch z⟩
    · obtain ⟨_, _, _, _, o, es, ep, h1, h2, _⟩ := dk_rd I.hok hR
      exact ⟨_, PySem.W.kitx_dict, ⟨o, h1, h2.1⟩, fun z => nomatch z⟩
  | fn x => cases hn
/-- isinstance(x, T) -/
def rIs1 (K : PySem.W.Frag) (mg : Str → Option Value) (t : Ty) : List V → Hp → VK → Prop := fun xs H Q => ∃ x, xs = [x, .ty t.name] ∧ rG1 K mg (isiD [t]) x H Q
theorem cr_is1 (t : Ty) : CallR X (.builtin "isinstance") (rIs1 X.K mg t) := by
  intro pins s σ H xs us Q I r ⟨x, ex, G, d, sl, l, h, hg, k⟩
  subst ex
  obtain ⟨u1, u2, rfl, r1, r2⟩ := vals2 r
  cases (show u2 = Value.type t.name from r2)
  unfold isiD at hg
  split at hg
  · rename_i hn
    cases hg
    obtain ⟨P, Z, p, hx⟩ := kitD I r1 l h hn
    refine PySem.W.kia_one Z I.kIn p (kit_one d hn t) hx fun tk => ⟨.bl _, H, I.tok tk, rfl, ?_⟩
    have e : [t].any (isTy d) = isTy d t := by simp
    rw [e] at k
    exact k.pure l (.bl _)
  · cases hg
def rIsT (K : PySem.W.Frag) (mg : Str → Option Value) (ts : List Ty) : List V → Hp → VK → Prop := fun xs H Q => ∃ x p, xs = [x, .ref p] ∧ H p = some (.tup (ts.map fun t => .ty t.name)) ∧ rG1 K mg (isiD ts) x H Q
theorem tys_vals : ∀ {ts : List Ty} {us : List Value}, Vals (ts.map fun t => V.ty t.name) us → us = ts.map fun t => .type t.name
  | [], _, h => by cases h; rfl
  | t :: ts, _, h => by
    cases h with
    | cons r k =>
      cases (show _ = Value.type t.name from r)
      rw [tys_vals k]; rfl
theorem cr_isT (ts : List Ty) : CallR X (.builtin "isinstance") (rIsT X.K mg ts) := by
  intro pins s σ H xs us Q I r ⟨x, p, ex, hp, G, d, sl, l, h, hg, k⟩
  subst ex
  obtain ⟨u1, u2, rfl, r1, r2⟩ := vals2 r
  cases (show u2 = Value.ref p from r2)
  unfold isiD at hg
  split at hg
  · rename_i hn
    cases hg
    obtain ⟨P, Z, pr, hx⟩ := kitD I r1 l h hn
    obtain ⟨_, its, rv, o, h1, h2, n, h3⟩ := (show ObjOk X.prog X.w H s.heap p (.tup _) from I.hok p _ hp)
    have e3 := tys_vals rv
    subst e3
    obtain ⟨oc, od, dt, sl⟩ := o
    simp only at h2 h3
    subst h2 h3
    exact PySem.W.kia_tup Z I.kIn pr h1 (kit_any d hn ts) hx fun tk => ⟨.bl _, H, I.tok tk, rfl, k.pure l (.bl _)⟩
  · cases hg
/-- a built-in's name is free here -/
structure Fr (X : Cx) (x : Str) : Prop where
  gl : Gl X x
  mg : X.mg x = none
theorem ty_boot (t : Ty) : bootBuiltins (Str.ofString t.name) = some (.type t.name) := by cases t <;> decide +kernel
theorem ty_ne (t : Ty) : Str.ofString t.name ≠ ("__name__" : Str) := by cases t <;> decide +kernel
theorem ty_ndb (t : Ty) : (Str.ofString t.name == ("__debug__" : Str)) = false := by cases t <;> decide +kernel
theorem pe_ty {t : Ty} {pos : Pos} (h : Fr X (Str.ofString t.name)) : PE X (.Name (Str.ofString t.name) pos) (tC (.ty t.name)) := pe_bltn h.gl h.mg (ty_boot t) rfl (ty_ne t) (ty_ndb t)
def fIsi (ts : List Ty) (o : Op) : EV := f1 o (isiD ts)
theorem sv_is1 {W : WX} {o : Op} {e : Expr} {t : Ty} {p p2 pos : Pos} (hI : Fr X "isinstance") (hT : Fr X (Str.ofString t.name)) (he : PE X e (tO X.K X.mg W o)) (hs : starEach [e, .Name (Str.ofString t.name) p2] X.env = (false, eval e X.env) :: starEach [.Name (Str.ofString t.name) p2] X.env) :
    PE X (.Call (.Name "isinstance" p) [e, .Name (Str.ofString t.name) p2] [] pos) (tV X.K X.mg W (fIsi [t] o)) :=
  PE.imp (pe_callB (cr_is1 (mg := X.mg) t) hI.gl hI.mg rfl (pa_cons he (pa_cons (pe_ty hT) pa_nil) hs) (by decide) (by decide) hs rfl) fun σ H Q h =>
    one_imp (r := fun x H Q => rIs1 X.K X.mg t [x, .ty t.name] H Q) (fun G H v d Q s l h1 h2 k => ⟨v, rfl, G, d, s, l, h1, h2, k⟩) h
theorem pe_tys : ∀ {ts : List Ty} (ps : List Pos), ps.length = ts.length → (∀ t ∈ ts, Fr X (Str.ofString t.name)) → ∃ t : TA, PA X ((ts.zip ps).map fun z => .Name (Str.ofString z.1.name) z.2) t ∧ ∀ σ H (Q : List V → Hp → Prop), Q (ts.map fun t => .ty t.name) H → t σ H Q
  | [], [], _, _ => ⟨tNil, pa_nil, fun _ _ _ q => q⟩
  | t :: ts, p :: ps, hl, hf => by
    obtain ⟨ta, h1, h2⟩ := pe_tys (ts := ts) ps (Nat.succ.inj hl) fun t h => hf t (List.mem_cons_of_mem _ h)
    exact ⟨tCons (tC (.ty t.name)) ta, pa_cons (pe_ty (hf t (List.mem_cons_self ..))) h1 rfl, fun σ H Q q => h2 σ H _ q⟩
theorem sv_isT {W : WX} {o : Op} {e : Expr} {ts : List Ty} {ps : List Pos} {k : Nat} {p p2 pos : Pos} (hI : Fr X "isinstance") (hl : ps.length = ts.length) (hT : ∀ t ∈ ts, Fr X (Str.ofString t.name)) (hz : ts.length ≤ 100) (he : PE X e (tO X.K X.mg W o))
    (hs : ∀ es, starEach (e :: es) X.env = (false, eval e X.env) :: starEach es X.env) :
    PE X (.Call (.Name "isinstance" p) [e, .Tuple ((ts.zip ps).map fun z => .Name (Str.ofString z.1.name) z.2) k p2] [] pos) (tV X.K X.mg W (fIsi ts o)) := by
  obtain ⟨ta, h1, h2⟩ := pe_tys ps hl hT
  refine PE.imp (pe_callB (cr_isT (mg := X.mg) ts) hI.gl hI.mg rfl (pa_cons he (pa_cons (pe_tup h1) pa_nil rfl) (hs _)) (by decide) (by decide) (hs _) rfl) fun σ H Q h => ?_
  refine one_imp (r := fun x H Q => tTup ta σ H fun y H2 => rIsT X.K X.mg ts [x, y] H2 Q) (fun G H v d Q s l h1 h3 k => ?_) h
  refine h2 σ H _ ⟨by rw [List.length_map, sizeLine_eq]; omega, fun p hp => ⟨v, p, rfl, upd_same, G, d, s, l.newH hp, ?_, h3, fun G' H' v' e' l' r' => ?_⟩⟩
  · rcases h1 with h1 | ⟨q, rfl, g, h1⟩
    · exact .inl h1
    · refine .inr ⟨q, rfl, g, h1.sub (Sub.refl G) ?_⟩
      obtain ⟨o, ho, _⟩ := h1.get
      exact upd_ne (ne_of_none ho hp)
  · refine k G' H' v' ((Ext.newH hp).trans e' fun p z => .inl z) l' ?_
    cases s with
    | dead => exact r'
    | sh d => exact r'
    | ow d =>
      obtain ⟨q, e1, e2, e3, e4⟩ := r'
      refine ⟨q, e1, e2, e3, ?_⟩
      by_cases z : q = p
      · subst z; exact hp
      · rw [upd_ne z] at e4; exact e4

/-! ### xs[a:b] -/
def cutD {α : Type} (xs : List α) (lo hi : Option Int) : List α := (xs.drop (HT.sIx xs.length 0 lo)).take (HT.sIx xs.length xs.length hi - HT.sIx xs.length 0 lo)
def slD : Dt → Option Int → Option Int → Option Slot
  | .tup xs, lo, hi => some (.sh (.tup (cutD xs lo hi)))
  | .lst xs, lo, hi => some (.ow (.lst (cutD xs lo hi)))
  | .str x, lo, hi => if x.length ≤ 16777216 then some (.sh (.str (cutS x lo hi))) else none
  | _, _, _ => none
def rGsl (K : PySem.W.Frag) (mg : Str → Option Value) : V → Option Int → Option Int → Hp → VK → Prop := fun x lo hi H Q => ∃ G d s, Le G H ∧ RpR K mg G H x d ∧ slD d lo hi = some s ∧ Fol K mg G H s Q
theorem cut_rp {xs : List V} {ds : List Dt} (r : RpAll K mg G xs ds) (lo hi : Option Int) : RpAll K mg G (cutV xs lo hi) (cutD ds lo hi) := by
  unfold cutV cutD
  rw [r.length]
  exact (r.drop _).take _
theorem og_sl : SlR X (rGsl X.K mg) := by
  intro pins s σ H x v vl vu lo hi sl Q I rx hs pl pu ⟨G, d, r, l, h, hg, k⟩
  unfold slD at hg
  split at hg
  · rename_i ds
    cases hg
    obtain ⟨a, xs, rfl, hR, ra, w, _⟩ := h.tup l
    refine sl_tupA pins s σ H _ v vl vu _ _ sl Q I rx hs pl pu ⟨a, xs, rfl, hR, fun hw => ?_, fun _ => k.newT l (cut_rp ra _ _)⟩
    have e : ∀ lo hi : Option Int, HT.sIx xs.length 0 lo = 0 ∧ HT.sIx xs.length xs.length hi = xs.length → cutD ds lo hi = ds := fun lo hi hw => by
      unfold cutD
      rw [← ra.length, hw.1, hw.2, List.drop_zero, Nat.sub_zero, ra.length, List.take_length]
    rw [e _ _ hw] at k
    exact k.pure l w
  · rename_i ds
    cases hg
    obtain ⟨a, xs, rfl, hR, ra⟩ := h.lst l
    exact sl_list pins s σ H _ v vl vu _ _ sl Q I rx hs pl pu ⟨a, xs, rfl, .inl hR, k.newL l (cut_rp ra _ _)⟩
  · split at hg
    · rename_i hz
      cases hg
      cases h.str
      exact sl_str pins s σ H _ v vl vu _ _ sl Q I rx hs pl pu ⟨_, rfl, by rw [sizeLine_eq]; exact hz, k.pure l (.str _)⟩
    · cases hg
  · cases hg
end
end E2
end

section
set_option Elab.async false
set_option linter.all false
set_option maxRecDepth 100000
set_option maxHeartbeats 4000000
/-! E14: what loops walk over: lists, tuples, texts, zip of two and of three, enumerate, range. -/
namespace E2
open PySem PySem.Spec PyProof.Rows L2
/-- a list (false) or a tuple (true) that is walked -/
def SqS (K : PySem.W.Frag) (H : Hp) (b : Bool) (a : Addr) (xs : List V) : Prop := match b with
  | true => SqT K H a xs
  | false => SqL K H a xs
def IsS (h : Heap) (b : Bool) (a : Addr) (its : Array Value) : Prop := match b with
  | true => h.IsTuple a its
  | false => h.IsList a its
def IterS (h : Heap) (b : Bool) (it a : Addr) (i : Nat) : Prop := match b with
  | true => h.IsTupleIter it a i
  | false => h.IsListIter it a i
section
variable {prog : Program} {w : World} {A : Around} {E : Value → Shared → Prop} {s : Shared}
theorem drawsS (hh : A.handled = none) (b : Bool) (it a : Addr) (hne : a ≠ it) (items : Array Value) :
    Draws prog w A it [it, a] items.size (fun i v => items[i]? = some v) (fun i h => IterS h b it a i ∧ IsS h b a items) := by
  cases b
  · exact Draws.list hh it a hne items
  · exact Draws.tuple hh it a hne items
theorem IterS.at' {h h' : Heap} {b : Bool} {it a : Addr} {i : Nat} (x : IterS h b it a i) (k : ∀ o, h.get? it = some o → h'.get? it = some o) : IterS h' b it a i := by
  cases b
  · exact Heap.IsListIter.at x k
  · exact Heap.IsTupleIter.at x k
theorem IterS.obj {h : Heap} {b : Bool} {it a : Addr} {i : Nat} (x : IterS h b it a i) : ∃ o, h.get? it = some o ∧ ∀ v, o.data ≠ .cell v := by
  cases b
  · obtain ⟨o, e, _, d⟩ := x
    exact ⟨o, e, fun v z => by rw [d] at z; cases z⟩
  · obtain ⟨o, e, _, d⟩ := x
    exact ⟨o, e, fun v z => by rw [d] at z; cases z⟩
/-- the iterator's object -/
def itO (b : Bool) (a : Addr) : Obj := { cls := .type (if b then "tuple_iterator" else "list_iterator"), data := .fields #[.ref a, .int 0 0] }
theorem beginsS (b : Bool) (a : Addr) (items : Array Value) : Begins (.ref a) (itO b a) fun h => IsS h b a items := by
  cases b
  · exact begins_list a items
  · exact begins_tuple a items
theorem iterS_of {h : Heap} {b : Bool} {it a : Addr} (e : h.get? it = some (itO b a)) : IterS h b it a 0 := by
  cases b
  · exact ⟨_, e, rfl, rfl⟩
  · exact ⟨_, e, rfl, rfl⟩
end
section
variable {X : Cx} {K : PySem.W.Frag} {mg : Str → Option Value} {G G' H H' : Hp} {pins : List (Addr × Obj)} {σ : L2.St} {s : Shared} {W : WX}
theorem sqS_inv {b : Bool} {a : Addr} {xs : List V} (I : Inv X pins σ H s) (h : SqS X.K H b a xs) : ∃ its : List Value, Vals xs its ∧ IsS s.heap b a its.toArray := by
  cases b
  · obtain ⟨its, r, p, _⟩ := I.list h
    exact ⟨its, r, p.isList⟩
  · obtain ⟨its, r, p, _⟩ := I.tuple h
    exact ⟨its, r, p⟩
theorem sqS_inj {b : Bool} {a : Addr} {xs ys : List V} (I : Inv X pins σ H s) (h : SqS X.K H b a xs) (h' : SqS X.K H b a ys) : xs = ys := by
  cases b
  · exact I.list_inj h h'
  · exact I.tuple_inj h h'
theorem isS_lt {h : Heap} {b : Bool} {a : Addr} {its : Array Value} (x : IsS h b a its) : a < h.objs.size := by
  cases b
  · obtain ⟨o, e, _⟩ := x; exact Heap.lt_size e
  · obtain ⟨o, e, _⟩ := x; exact Heap.lt_size e
/-- the walk over tuples of the i-th items -/
def ItN (K : PySem.W.Frag) (n : Nat) (ss : List (Bool × Addr × List V)) : It :=
  ⟨fun i H => i < n ∧ ∀ z ∈ ss, SqS K H z.1 z.2.1 z.2.2,
    fun i H v H' => ∃ T xs, v = .ref T ∧ H T = none ∧ H' = upd H T (.tup xs) ∧ ss.map (fun z => z.2.2[i]?) = xs.map some,
    fun i H => i = n ∧ ∀ z ∈ ss, SqS K H z.1 z.2.1 z.2.2⟩
theorem turn_of {P : Program} {w : World} {tg : Expr} {J : It} {own : List Addr} {it : Addr} {tn : Nat → Heap → Prop} (mem : it ∈ own)
    (obj : ∀ i h, tn i h → ∀ b ∈ own, ∃ o, h.get? b = some o ∧ ∀ v, o.data ≠ .cell v)
    (keep : ∀ i h h', tn i h → (∀ b ∈ own, ∀ o, h.get? b = some o → h'.get? b = some o) → tn i h')
    (W : ∀ (X : Cx), X.prog = P → X.w = w → X.K = K → X.calm = true → ∀ (i : Nat) (pins : List (Addr × Obj)) (s : Shared) (σ : L2.St) (H : Hp), Inv X pins σ H s → tn i s.heap → J.go i H ∨ J.stop i H →
      ∃ (fp wr : List Addr) (n : Nat) (Y : Nat → Heap → Value → Heap → Prop) (St : Nat → Heap → Prop), GoesN P w X.A tg it fp wr n Y St ∧ St i s.heap ∧ (J.go i H → i < n) ∧ (J.stop i H → i = n) ∧ (∀ b ∈ wr, b ∈ own) ∧
        ∀ v h', i < n → Y i s.heap v h' → St (i + 1) h' → ∃ T xs us, v = .ref T ∧ s.heap.objs.size ≤ T ∧ xs.length ≤ sizeLine ∧ Vals xs us ∧ h'.IsTuple T us.toArray ∧ (H T = none → J.yld i H (.ref T) (upd H T (.tup xs))) ∧ tn (i + 1) h')
    (self : ∀ (A : Around) (i : Nat) (s : Shared) (Q : Value → Shared → Prop) (E : Value → Shared → Prop), tn i s.heap → Q (.ref it) s → wpAny (model P w) A (pyIter (.ref it)) Q E s) : Turn P w K tg J own it tn where
  mem := mem
  obj := obj
  keep := keep
  item := by
    intro X hP hw hK hc i pins s σ H E I hf st hg
    obtain ⟨fp, wr, n, Y, St, G, hst, h1, _, hwr, hY⟩ := W X hP hw hK hc i pins s σ H I st (.inl hg)
    subst hP hw hK
    refine G.goes i s (fun v s2 => ∃ x H', Inv X pins σ H' s2 ∧ RelV x v ∧ J.yld i H x H' ∧ tn (i + 1) s2.heap ∧ ∀ b ∈ own, H' b = none) E (h1 hg) hst fun v h' tk y st' kp _ => ?_
    obtain ⟨T, xs, us, rfl, hT, hz, hv, hI, hy, ht⟩ := hY v h' (h1 hg) y st'
    obtain ⟨o, ho, hc', m, hd⟩ := hI
    have new : ObjOk X.prog X.w (upd H T (.tup xs)) h' T (.tup xs) := ⟨hz, us, hv, ⟨o, ho, hc', m, hd⟩⟩
    have I1 : Inv X pins σ (upd H T (.tup xs)) { s with heap := h', toks := tk } := I.turnedNew (ch := own) (fun b o hb e => kp b o (fun z => hb (hwr b z)) e) hf hT new
    refine ⟨.ref T, _, I1, rfl, hy (I.hok.fresh hT), ht, fun b hb => ?_⟩
    obtain ⟨ob, e, _⟩ := obj i s.heap st b hb
    have : b < s.heap.objs.size := Heap.lt_size e
    have ne : b ≠ T := by
      intro z
      have : T < s.heap.objs.size := z ▸ this
      exact absurd (Nat.lt_of_lt_of_le this hT) (Nat.lt_irrefl _)
    rw [upd_ne ne]
    exact (hf b hb).1
  done := by
    intro X hP hw hK hc i pins s σ H E I hf st hg
    obtain ⟨fp, wr, n, Y, St, G, hst, _, h2, hwr, _⟩ := W X hP hw hK hc i pins s σ H I st (.inr hg)
    have e := h2 hg
    subst hP hw hK e
    exact G.stops s (fun s1 => Inv X pins σ H s1) E hst fun h' tk kp _ => I.turnedL (ch := own) (fun b o hb e => kp b o (fun z => hb (hwr b z)) e) hf
  self := self
theorem turn_zip2 {P : Program} {w : World} {elts : List Expr} {kk : Nat} {tpos : Pos} {z TI TO i1 i2 a1 a2 : Addr} {b1 b2 : Bool} {xs ys : List V} (D : ZipSep2 z TI TO i1 i2 [i1, a1] [i2, a2]) (n1 : a1 ≠ i1) (n2 : a2 ≠ i2) :
    Turn P w K (.Tuple elts kk tpos) (ItN K (min xs.length ys.length) [(b1, a1, xs), (b2, a2, ys)]) [z, TI, TO, i1, i2] z
      (fun i h => IsZip h z TI TO .none ∧ IsTupOf2 h TI (.ref i1) (.ref i2) ∧ (∃ u v, IsTupOf2 h TO u v) ∧ IterS h b1 i1 a1 i ∧ IterS h b2 i2 a2 i) := by
  refine turn_of (by simp) (fun i h st c hc => ?_) (fun i h h' st k => ?_) (fun X hP hw hK hc i pins s σ H I st hg => ?_) fun A i s Q E st h => wpAny_pyIter_zip st.1 h
  · obtain ⟨hz, hTI, ⟨x, y, hTO⟩, h1, h2⟩ := st
    have e' : c = z ∨ c = TI ∨ c = TO ∨ c = i1 ∨ c = i2 := by simpa using hc
    rcases e' with rfl | rfl | rfl | rfl | rfl
    · exact ⟨_, hz, fun v q => nomatch q⟩
    · exact ⟨_, hTI, fun v q => nomatch q⟩
    · exact ⟨_, hTO, fun v q => nomatch q⟩
    · exact h1.obj
    · exact h2.obj
  · obtain ⟨hz, hTI, ⟨x, y, hTO⟩, h1, h2⟩ := st
    exact ⟨k z (by simp) _ hz, k TI (by simp) _ hTI, ⟨x, y, k TO (by simp) _ hTO⟩, h1.at' fun o q => k i1 (by simp) o q, h2.at' fun o q => k i2 (by simp) o q⟩
  · obtain ⟨hz, hTI, hTO, h1, h2⟩ := st
    have hq : ∀ z ∈ [(b1, a1, xs), (b2, a2, ys)], SqS K H z.1 z.2.1 z.2.2 := by
      rcases hg with hg | hg
      · exact hg.2
      · exact hg.2
    subst hP hw hK
    obtain ⟨u1, r1, p1⟩ := sqS_inv I (show SqS X.K H b1 a1 xs from hq (b1, a1, xs) (by simp))
    obtain ⟨u2, r2, p2⟩ := sqS_inv I (show SqS X.K H b2 a2 ys from hq (b2, a2, ys) (by simp))
    have hh := I.ok.hd hc
    have G := GoesN.zip2 (elts := elts) (x1 := kk) (pos := tpos) D (drawsS (prog := X.prog) (w := X.w) (A := X.A.in1) hh b1 i1 a1 n1 u1.toArray) (drawsS (prog := X.prog) (w := X.w) (A := X.A.in1) hh b2 i2 a2 n2 u2.toArray)
    have l1 := r1.length
    have l2 := r2.length
    have en : min xs.length ys.length = min u1.toArray.size u2.toArray.size := by rw [List.size_toArray, List.size_toArray, l1, l2]
    refine ⟨_, _, _, _, _, G, ⟨hz, hTI, hTO, ⟨h1, p1⟩, h2, p2⟩, fun g => en ▸ g.1, fun g => en ▸ g.1, fun b hb => ?_, fun v h' hi ⟨T, x, y, ev, hT, hx, hy, hI⟩ st' => ?_⟩
    · simp at hb ⊢
      rcases hb with rfl | rfl | rfl | rfl <;> simp
    · obtain ⟨zz, zTI, zTO, ⟨z1, _⟩, z2, _⟩ := st'
      have hi : i < min u1.length u2.length := by simpa using hi
      have q1 : xs[i]? = some (xs[i]'(by omega)) := List.getElem?_eq_getElem _
      have q2 : ys[i]? = some (ys[i]'(by omega)) := List.getElem?_eq_getElem _
      obtain ⟨x', e1, rx⟩ := r1.get q1
      obtain ⟨y', e2, ry⟩ := r2.get q2
      have ex : x' = x := by
        have : u1[i]? = some x := by simpa using hx
        rw [this] at e1; exact (Option.some.inj e1).symm
      have ey : y' = y := by
        have : u2[i]? = some y := by simpa using hy
        rw [this] at e2; exact (Option.some.inj e2).symm
      subst ex ey
      exact ⟨T, [xs[i]'(by omega), ys[i]'(by omega)], [x', y'], ev, hT, by rw [sizeLine_eq]; show (2 : Nat) ≤ _; omega, .cons rx (.cons ry .nil), hI, fun hn => ⟨T, _, rfl, hn, rfl, by simp [q1, q2]⟩, zz, zTI, zTO, z1, z2⟩
theorem turn_zip3 {P : Program} {w : World} {elts : List Expr} {kk : Nat} {tpos : Pos} {z TI TO i1 i2 i3 a1 a2 a3 : Addr} {b1 b2 b3 : Bool} {xs ys zs : List V} (D : ZipSep3 z TI TO i1 i2 i3 [i1, a1] [i2, a2] [i3, a3]) (n1 : a1 ≠ i1) (n2 : a2 ≠ i2) (n3 : a3 ≠ i3) :
    Turn P w K (.Tuple elts kk tpos) (ItN K (min (min xs.length ys.length) zs.length) [(b1, a1, xs), (b2, a2, ys), (b3, a3, zs)]) [z, TI, TO, i1, i2, i3] z
      (fun i h => IsZip h z TI TO .none ∧ IsTupOf3 h TI (.ref i1) (.ref i2) (.ref i3) ∧ (∃ u v t, IsTupOf3 h TO u v t) ∧ IterS h b1 i1 a1 i ∧ IterS h b2 i2 a2 i ∧ IterS h b3 i3 a3 i) := by
  refine turn_of (by simp) (fun i h st c hc => ?_) (fun i h h' st k => ?_) (fun X hP hw hK hc i pins s σ H I st hg => ?_) fun A i s Q E st h => wpAny_pyIter_zip st.1 h
  · obtain ⟨hz, hTI, ⟨x, y, t, hTO⟩, h1, h2, h3⟩ := st
    have e' : c = z ∨ c = TI ∨ c = TO ∨ c = i1 ∨ c = i2 ∨ c = i3 := by simpa using hc
    rcases e' with rfl | rfl | rfl | rfl | rfl | rfl
    · exact ⟨_, hz, fun v q => nomatch q⟩
    · exact ⟨_, hTI, fun v q => nomatch q⟩
    · exact ⟨_, hTO, fun v q => nomatch q⟩
    · exact h1.obj
    · exact h2.obj
    · exact h3.obj
  · obtain ⟨hz, hTI, ⟨x, y, t, hTO⟩, h1, h2, h3⟩ := st
    exact ⟨k z (by simp) _ hz, k TI (by simp) _ hTI, ⟨x, y, t, k TO (by simp) _ hTO⟩, h1.at' fun o q => k i1 (by simp) o q, h2.at' fun o q => k i2 (by simp) o q, h3.at' fun o q => k i3 (by simp) o q⟩
  · obtain ⟨hz, hTI, hTO, h1, h2, h3⟩ := st
    have hq : ∀ z ∈ [(b1, a1, xs), (b2, a2, ys), (b3, a3, zs)], SqS K H z.1 z.2.1 z.2.2 := by
      rcases hg with hg | hg
      · exact hg.2
      · exact hg.2
    subst hP hw hK
    obtain ⟨u1, r1, p1⟩ := sqS_inv I (show SqS X.K H b1 a1 xs from hq (b1, a1, xs) (by simp))
    obtain ⟨u2, r2, p2⟩ := sqS_inv I (show SqS X.K H b2 a2 ys from hq (b2, a2, ys) (by simp))
    obtain ⟨u3, r3, p3⟩ := sqS_inv I (show SqS X.K H b3 a3 zs from hq (b3, a3, zs) (by simp))
    have hh := I.ok.hd hc
    have G := GoesN.zip3 (elts := elts) (x1 := kk) (pos := tpos) D (drawsS (prog := X.prog) (w := X.w) (A := X.A.in1) hh b1 i1 a1 n1 u1.toArray) (drawsS (prog := X.prog) (w := X.w) (A := X.A.in1) hh b2 i2 a2 n2 u2.toArray) (drawsS (prog := X.prog) (w := X.w) (A := X.A.in1) hh b3 i3 a3 n3 u3.toArray)
    have l1 := r1.length
    have l2 := r2.length
    have l3 := r3.length
    have en : min (min xs.length ys.length) zs.length = min (min u1.toArray.size u2.toArray.size) u3.toArray.size := by rw [List.size_toArray, List.size_toArray, List.size_toArray, l1, l2, l3]
    refine ⟨_, _, _, _, _, G, ⟨hz, hTI, hTO, ⟨h1, p1⟩, ⟨h2, p2⟩, h3, p3⟩, fun g => en ▸ g.1, fun g => en ▸ g.1, fun b hb => ?_, fun v h' hi ⟨T, x, y, t, ev, hT, hx, hy, ht, hI⟩ st' => ?_⟩
    · simp at hb ⊢
      rcases hb with rfl | rfl | rfl | rfl | rfl <;> simp
    · obtain ⟨zz, zTI, zTO, ⟨z1, _⟩, ⟨z2, _⟩, z3, _⟩ := st'
      have hi : i < min (min u1.length u2.length) u3.length := by simpa using hi
      have q1 : xs[i]? = some (xs[i]'(by omega)) := List.getElem?_eq_getElem _
      have q2 : ys[i]? = some (ys[i]'(by omega)) := List.getElem?_eq_getElem _
      have q3 : zs[i]? = some (zs[i]'(by omega)) := List.getElem?_eq_getElem _
      obtain ⟨x', e1, rx⟩ := r1.get q1
      obtain ⟨y', e2, ry⟩ := r2.get q2
      obtain ⟨t', e3, rt⟩ := r3.get q3
      have ex : x' = x := by
        have : u1[i]? = some x := by simpa using hx
        rw [this] at e1; exact (Option.some.inj e1).symm
      have ey : y' = y := by
        have : u2[i]? = some y := by simpa using hy
        rw [this] at e2; exact (Option.some.inj e2).symm
      have et : t' = t := by
        have : u3[i]? = some t := by simpa using ht
        rw [this] at e3; exact (Option.some.inj e3).symm
      subst ex ey et
      exact ⟨T, [xs[i]'(by omega), ys[i]'(by omega), zs[i]'(by omega)], [x', y', t'], ev, hT, by rw [sizeLine_eq]; show (3 : Nat) ≤ _; omega, .cons rx (.cons ry (.cons rt .nil)), hI, fun hn => ⟨T, _, rfl, hn, rfl, by simp [q1, q2, q3]⟩, zz, zTI, zTO, z1, z2, z3⟩
end
end E2
end

section
set_option Elab.async false
set_option linter.all false
set_option maxRecDepth 100000
set_option maxHeartbeats 4000000
/-! E15: iterables by what they stand for. -/
namespace E2
open PySem PySem.Spec PyProof.Rows L2
section
variable {X : Cx} {K : PySem.W.Frag} {mg : Str → Option Value} {G G' H H' : Hp} {pins : List (Addr × Obj)} {σ : L2.St} {s : Shared} {W : WX}
/-- tuples that stand in H are let into G -/
def addG (G H : Hp) (bs : List Addr) : Hp := fun a => if a ∈ bs then H a else G a
theorem addG_ok (l : Le G H) {bs : List Addr} (h : ∀ b ∈ bs, ∃ xs, H b = some (.tup xs)) : Ext No G H (addG G H bs) H ∧ Le (addG G H bs) H := by
  refine ⟨⟨fun _ _ e _ => .inl e, fun b o e => .inl ?_, fun b o e => ?_⟩, fun b o e => ?_⟩
  · unfold addG
    split
    · rename_i hb
      obtain ⟨xs, hx⟩ := h b hb
      rcases l b o e with z | ⟨_, z, m⟩
      · exact z
      · rw [hx] at z; cases z
    · exact e
  · unfold addG at e
    split at e
    · rename_i hb
      obtain ⟨xs, hx⟩ := h b hb
      exact .inr (.inl fun u hu m => by rw [hx] at hu; cases hu; exact m)
    · exact .inl ⟨_, e⟩
  · unfold addG at e
    split at e
    · exact .inl e
    · exact l b o e
/-! ### the keys of a shared dict, locked from then on -/
/-- the keys as values -/
theorem keyV_all (G : Hp) : ∀ ks : List Key, RpAll K mg G (ks.map kV) (ks.map keyD)
  | [] => .nil
  | k :: ks => .cons (by cases k <;> first | exact .int _ | exact .str _) (keyV_all G ks)
/-- a shared dict is locked -/
theorem lock_le (l : Le G H) {d : Addr} {u : HO} (mu : Mut (some u)) (g : G d = some u) (h : H d = some u) (o : Obj) : Ext No G H (upd G d (.frz o u)) (upd H d (.frz o u)) ∧ Le (upd G d (.frz o u)) (upd H d (.frz o u)) := by
  refine ⟨⟨fun b w e _ => ?_, fun b w e => ?_, fun b w e => ?_⟩, fun b w e => ?_⟩
  · by_cases q : b = d
    · subst q; rw [h] at e; cases e
      exact .inr ⟨⟨_, upd_same⟩, mu, o, upd_same⟩
    · exact .inl (by rw [upd_ne q]; exact e)
  · by_cases q : b = d
    · subst q; rw [g] at e; cases e
      exact .inr ⟨o, upd_same, mu⟩
    · exact .inl (by rw [upd_ne q]; exact e)
  · by_cases q : b = d
    · subst q; exact .inl ⟨_, g⟩
    · rw [upd_ne q] at e; exact .inl ⟨_, e⟩
  · by_cases q : b = d
    · subst q; rw [upd_same] at e ⊢; exact .inl e
    · rw [upd_ne q] at e ⊢; exact l b w e
/-- told to be locked -/
theorem tell_le (l : Le G H) {d : Addr} {u : HO} (mu : Mut (some u)) {o : Obj} (g : G d = some u) (h : H d = some (.frz o u)) : Ext No G H (upd G d (.frz o u)) H ∧ Le (upd G d (.frz o u)) H := by
  refine ⟨⟨fun b w e _ => .inl e, fun b w e => ?_, fun b w e => ?_⟩, fun b w e => ?_⟩
  · by_cases q : b = d
    · subst q; rw [g] at e; cases e
      exact .inr ⟨o, upd_same, mu⟩
    · exact .inl (by rw [upd_ne q]; exact e)
  · by_cases q : b = d
    · subst q; exact .inl ⟨_, g⟩
    · rw [upd_ne q] at e; exact .inl ⟨_, e⟩
  · by_cases q : b = d
    · subst q; rw [upd_same] at e; cases e; exact .inl h
    · rw [upd_ne q] at e; exact l b w e
/-- what is asked where a walk over a dict begins -/
def LkP (H : Hp) (d : Addr) (u : HO) (R : Obj → Hp → Prop) : Prop := (∃ o, H d = some (.frz o u) ∧ R o H) ∨ (H d = some u ∧ ∀ o, R o (upd H d (.frz o u)))
theorem frz_le {d : Addr} {o : Obj} {u : HO} (g : G d = some (.frz o u)) {G' H : Hp} (s : Sub G G') (l : Le G' H) : H d = some (.frz o u) := by
  rcases Le.trans s l d _ g with z | ⟨_, _, m⟩
  · exact z
  · exact m.elim
/-- a shared dict at the start of a walk -/
theorem lk_of {R : Obj → Hp → Prop} {d : Addr} {u : HO} (mu : Mut (some u)) (l : Le G H) (h : Rd G d u) (hnf : ∀ o w, u ≠ .frz o w) (k : ∀ o G' H', Ext No G H G' H' → Le G' H' → G' d = some (.frz o u) → R o H') : LkP H d u R := by
  rcases h with h | ⟨o, h⟩
  · rcases l _ _ h with z | ⟨o, z, _⟩
    · refine .inr ⟨z, fun o => ?_⟩
      obtain ⟨e1, l1⟩ := lock_le l mu h z o
      exact k o _ _ e1 l1 upd_same
    · obtain ⟨e1, l1⟩ := tell_le l mu h z
      exact .inl ⟨o, z, k o _ _ e1 l1 upd_same⟩
  · rcases l _ _ h with z | ⟨_, _, m⟩
    · exact .inl ⟨o, z, k o G H (Ext.refl _ _ _) l h⟩
    · exact m.elim
theorem walkK {d : Addr} {o : Obj} {kvs : List (Key × V)} (g : G d = some (.frz o (.dK kvs))) : WalkD K mg G (Itk d o kvs) (kvs.map fun p => keyD p.1) := by
  refine ⟨(fun H => H d = some (.frz o (.dK kvs))), (fun i H x H' => H' = H ∧ ∃ k v, kvs[i]? = some (k, v) ∧ x = kV k), ⟨fun i H hi h => ⟨h, by simpa using hi⟩, fun H h => ⟨h, by simp⟩, fun i H x H' _ _ y => y⟩, fun G' H s l => frz_le g s l, fun i H x H' G' hi s l ⟨e1, k, v, e2, e3⟩ => ?_⟩
  subst e1 e3
  refine ⟨keyD k, G', by rw [List.getElem?_map, e2]; rfl, Ext.refl _ _ _, l, ?_⟩
  cases k
  · exact .int _
  · exact .str _
theorem walkKT {d : Addr} {o : Obj} {kvs : List (List Key × V)} (g : G d = some (.frz o (.dT kvs))) : WalkD K mg G (Itkt d o kvs) (kvs.map fun p => .tup (p.1.map keyD)) := by
  refine ⟨(fun H => H d = some (.frz o (.dT kvs))), (fun i H x H' => H' = H ∧ ∃ (k : List Key) (v : V) (q : Addr), kvs[i]? = some (k, v) ∧ x = .ref q ∧ H q = some (.tup (k.map kV))), ⟨fun i H hi h => ⟨h, by simpa using hi⟩, fun H h => ⟨h, by simp⟩, fun i H x H' _ _ y => y⟩, fun G' H s l => frz_le g s l, fun i H x H' G' hi s l ⟨e1, k, v, q, e2, e3, e4⟩ => ?_⟩
  subst e1 e3
  obtain ⟨ex, l2⟩ := addG_ok l (bs := [q]) (fun b hb => by rw [List.mem_singleton.mp hb]; exact ⟨_, e4⟩)
  refine ⟨.tup (k.map keyD), addG G' H' [q], by rw [List.getElem?_map, e2]; rfl, ex, l2, .tup (xs := k.map kV) ?_ (keyV_all _ k)⟩
  unfold addG
  rw [if_pos List.mem_cons_self]
  exact e4
/-- a shared list or tuple -/
theorem sq_of {v : V} {d : Dt} {ds : List Dt} (r : Rp K mg G v d) (h : d = .lst ds ∨ d = .tup ds) : ∃ b a xs, v = .ref a ∧ (∀ H, Le G H → SqS K H b a xs) ∧ RpAll K mg G xs ds := by
  rcases h with rfl | rfl
  · cases r with
    | lst h r => exact ⟨false, _, _, rfl, fun H l => .inl (rdL_le l h), r⟩
  · cases r with
    | tup h r => exact ⟨true, _, _, rfl, fun H l => .inl (.inl (tup_le l h)), r⟩
/-- the items of a list or a tuple -/
def seqOf : Dt → Option (List Dt)
  | .lst ds => some ds
  | .tup ds => some ds
  | _ => none
theorem seqOf_iff {d : Dt} {ds : List Dt} (h : seqOf d = some ds) : d = .lst ds ∨ d = .tup ds := by
  cases d <;> simp [seqOf] at h <;> simp [h]
theorem walkS (b : Bool) (a : Addr) {xs : List V} {ds : List Dt} (h : ∀ H, Le G H → SqS K H b a xs) (r : RpAll K mg G xs ds) : WalkD K mg G (if b then Itt K a else Itl K a) ds := by
  cases b
  · refine ⟨(fun H => SqL K H a xs), YAt xs, (by rw [← r.length]; exact walk_list (K := K) (a := a) (xs := xs)), fun G' H s l => h H (Le.trans s l), fun i H x H' G' hi s l ⟨e1, e2⟩ => ?_⟩
    subst e1
    obtain ⟨d, hd, rd⟩ := r.getV e2
    exact ⟨d, G', hd, Ext.refl _ _ _, l, rd.le s.le⟩
  · refine ⟨(fun H => SqT K H a xs), YAt xs, (by rw [← r.length]; exact walk_tup (K := K) (a := a) (xs := xs)), fun G' H s l => h H (Le.trans s l), fun i H x H' G' hi s l ⟨e1, e2⟩ => ?_⟩
    subst e1
    obtain ⟨d, hd, rd⟩ := r.getV e2
    exact ⟨d, G', hd, Ext.refl _ _ _, l, rd.le s.le⟩
def strDs (x : Str) : List Dt := x.cps.toList.map fun c => .str ⟨#[c]⟩
theorem walkStr (x : Str) : WalkD K mg G (Its x) (strDs x) := by
  have e : (strDs x).length = x.cps.size := by unfold strDs; simp
  refine ⟨(fun _ => True), (fun i H v H' => H' = H ∧ ∃ c, x.cps[i]? = some c ∧ v = .str ⟨#[c]⟩), (by rw [e]; exact walk_str (z := x)), fun _ _ _ _ => trivial, fun i H v H' G' hi s l ⟨e1, c, e2, e3⟩ => ?_⟩
  subst e1 e3
  refine ⟨.str ⟨#[c]⟩, G', ?_, Ext.refl _ _ _, l, .str _⟩
  unfold strDs
  rw [List.getElem?_map]
  have : x.cps.toList[i]? = some c := by simpa using e2
  rw [this]; rfl
/-- what a value's items are -/
def itemsOf : Dt → Option (List Dt)
  | .lst ds => some ds
  | .tup ds => some ds
  | .str x => some (strDs x)
  | .dct ks _ => some ks
  | _ => none
def fItems (f : EE) : Env → R (List Dt × Env) := fun ρ => (f ρ).bind fun d ρ1 => match itemsOf d with
  | some ds => .ok (ds, ρ1)
  | none => .bad
def iOne (K : PySem.W.Frag) (te : TE) : TI := fun σ H R => te σ H fun x H1 => (∃ a, x = .ref a ∧ (∃ xs, SqL K H1 a xs) ∧ R (Itl K a) H1) ∨ (∃ a, x = .ref a ∧ (∃ xs, SqT K H1 a xs) ∧ R (Itt K a) H1) ∨ (∃ z, x = .str z ∧ R (Its z) H1) ∨ ∃ d, x = .ref d ∧ ((∃ kvs, LkP H1 d (.dK kvs) fun o H2 => R (Itk d o kvs) H2) ∨ ∃ kvs, LkP H1 d (.dT kvs) fun o H2 => R (Itkt d o kvs) H2)
theorem pie_list {tg : Expr} {a : Addr} {xs : List V} {R : It → Hp → Prop} {E : Value → Shared → Prop} (I : Inv X pins σ H s) (hq : SqL X.K H a xs) (q : R (Itl X.K a) H) : wpAny (model X.prog X.w) X.A (pyIter (.ref a)) (PIE X pins σ tg R) E s := by
  obtain ⟨its, rv, p, hz⟩ := I.list hq
  refine wpAny_pyIter_list p.isList ⟨_, [_], _, _, H, rfl, I.kept (t' := s.toks) fun b o e => Heap.get?_push_of_some _ e, turn_list a _, ⟨_, Heap.get?_push_size _ rfl, rfl, rfl⟩, fun b hb => ?_, q⟩
  rw [List.mem_singleton.mp hb]
  exact I.fpOk (Nat.le_refl _) (I.hok.fresh (Nat.le_refl _))
theorem pie_tup {tg : Expr} {a : Addr} {xs : List V} {R : It → Hp → Prop} {E : Value → Shared → Prop} (I : Inv X pins σ H s) (hq : SqT X.K H a xs) (q : R (Itt X.K a) H) : wpAny (model X.prog X.w) X.A (pyIter (.ref a)) (PIE X pins σ tg R) E s := by
  obtain ⟨its, rv, p, hz⟩ := I.tuple hq
  refine wpAny_pyIter_tuple (show s.heap.IsTuple a its.toArray from p) ⟨_, [_], _, _, H, rfl, I.kept (t' := s.toks) fun b o e => Heap.get?_push_of_some _ e, turn_tuple a _, ⟨_, Heap.get?_push_size _ rfl, rfl, rfl⟩, fun b hb => ?_, q⟩
  rw [List.mem_singleton.mp hb]
  exact I.fpOk (Nat.le_refl _) (I.hok.fresh (Nat.le_refl _))
theorem pie_str {tg : Expr} {x : Str} {v : Value} {R : It → Hp → Prop} {E : Value → Shared → Prop} (I : Inv X pins σ H s) (rx : RelV (.str x) v) (q : R (Its x) H) : wpAny (model X.prog X.w) X.A (pyIter v) (PIE X pins σ tg R) E s := by
  obtain ⟨t, rfl⟩ := rx
  cases ha : x.cps.all (· < 128)
  · exact wpAny_pyIter_wide ha (pi_one (tk := s.toks) I _ (turn_str _ x t "str_iterator" (.inr rfl)) ⟨_, Heap.get?_push_size _ rfl, rfl, rfl⟩ q)
  · exact wpAny_pyIter_ascii ha (pi_one (tk := s.toks) I _ (turn_str _ x t "str_ascii_iterator" (.inl rfl)) ⟨_, Heap.get?_push_size _ rfl, rfl, rfl⟩ q)
theorem LkP.inv {u : HO} {d : Addr} {R : Obj → Hp → Prop} (mu : Mut (some u)) (I : Inv X pins σ H s) (h : LkP H d u R) : ∃ o H', Inv X pins σ H' s ∧ H' d = some (.frz o u) ∧ R o H' := by
  rcases h with ⟨o, h, r⟩ | ⟨h, r⟩
  · exact ⟨o, H, I, h, r⟩
  · obtain ⟨o, I1⟩ := I.lock h mu
    exact ⟨o, _, I1, upd_same, r o⟩
theorem pie_keys {tg : Expr} {d : Addr} {R : It → Hp → Prop} {E : Value → Shared → Prop} (I : Inv X pins σ H s) (q : (∃ kvs, LkP H d (.dK kvs) fun o H2 => R (Itk d o kvs) H2) ∨ ∃ kvs, LkP H d (.dT kvs) fun o H2 => R (Itkt d o kvs) H2) : wpAny (model X.prog X.w) X.A (pyIter (.ref d)) (PIE X pins σ tg R) E s := by
  rcases q with ⟨kvs, q⟩ | ⟨kvs, q⟩
  · obtain ⟨o, H2, I2, hd, r⟩ := LkP.inv (u := .dK kvs) trivial I q
    obtain ⟨a1, a2, a3, es, ep, vs, a4, a5, a6, a7⟩ := I2.frzK hd
    exact iter_keys a1 a2 a3 a4 (pi_one (tk := s.toks) I2 _ (turn_keys _ a4) ⟨_, Heap.get?_push_size _ rfl, rfl, by rw [a5] <;> rfl⟩ r)
  · obtain ⟨o, H2, I2, hd, r⟩ := LkP.inv (u := .dT kvs) trivial I q
    obtain ⟨a1, a2, a3, es, ep, a4, a5, a6⟩ := I2.frzT hd
    exact iter_keys a1 a2 a3 a4 (pi_one (tk := s.toks) I2 _ (turn_keysT _ a4) ⟨_, Heap.get?_push_size _ rfl, rfl, by rw [a5] <;> rfl⟩ r)
theorem pi_any {tg e : Expr} {te : TE} (he : PE X e te) : PI X tg e (iOne X.K te) := by
  refine ⟨fun pins s σ H R I h => ?_⟩
  refine thn (he.run pins s σ H _ I h) fun v s1 ⟨x, H1, I1, r1, q1⟩ => ?_
  rcases q1 with ⟨a, rfl, ⟨xs, hq⟩, q⟩ | ⟨a, rfl, ⟨xs, hq⟩, q⟩ | ⟨z, rfl, q⟩ | ⟨d, rfl, q⟩
  · cases r1
    exact pie_list I1 hq q
  · cases r1
    exact pie_tup I1 hq q
  · exact pie_str I1 r1 q
  · cases r1
    exact pie_keys I1 q
theorem si_one {tg e : Expr} {f : EE} (he : PE X e (tE X.K X.mg W f)) : PI X tg e (tI X.K X.mg W (fItems f)) := by
  refine PI.imp (pi_any he) fun σ H R ⟨G, ρ, st, q⟩ => ⟨G, ρ, st, (Pst.bind q).mono fun d ρ1 G1 H1 e st1 o1 k v hv => ?_⟩
  have k := k e st1 o1
  cases d with
  | lst ds =>
    cases hv with
    | lst h r => exact .inl ⟨_, rfl, ⟨_, .inl (rdL_le st1.le h)⟩, Pst.pure k st1 _ (walkS false _ (fun H l => .inl (rdL_le l h)) r)⟩
  | tup ds =>
    cases hv with
    | tup h r => exact .inr (.inl ⟨_, rfl, ⟨_, .inl (.inl (tup_le st1.le h))⟩, Pst.pure k st1 _ (walkS true _ (fun H l => .inl (.inl (tup_le l h))) r)⟩)
  | str x =>
    cases hv with
    | str x => exact .inr (.inr (.inl ⟨x, rfl, Pst.pure k st1 _ (walkStr x)⟩))
  | dct ks vs =>
    cases hv with
    | dct h r =>
      refine .inr (.inr (.inr ⟨_, rfl, ?_⟩))
      rcases h with ⟨kvs, hR, rfl, rfl, nd⟩ | ⟨kvs, hR, rfl, rfl, nd⟩
      · exact .inr ⟨kvs, lk_of trivial st1.le hR (fun _ _ z => nomatch z) fun o G' H' e2 l2 g2 => k G' H' e2.no (st1.ext0 e2 l2) (fun _ z => z) _ (walkKT g2)⟩
      · exact .inl ⟨kvs, lk_of trivial st1.le hR (fun _ _ z => nomatch z) fun o G' H' e2 l2 g2 => k G' H' e2.no (st1.ext0 e2 l2) (fun _ z => z) _ (walkK g2)⟩
  | _ => exact k.elim
/-! ### zip -/
def zip2D : List Dt → List Dt → List Dt
  | a :: as, b :: bs => .tup [a, b] :: zip2D as bs
  | _, _ => []
def zip3D : List Dt → List Dt → List Dt → List Dt
  | a :: as, b :: bs, c :: cs => .tup [a, b, c] :: zip3D as bs cs
  | _, _, _ => []
theorem zip2_len : ∀ as bs : List Dt, (zip2D as bs).length = min as.length bs.length
  | [], _ => by simp [zip2D]
  | _ :: _, [] => by simp [zip2D]
  | a :: as, b :: bs => by simp [zip2D, zip2_len as bs]
theorem zip3_len : ∀ as bs cs : List Dt, (zip3D as bs cs).length = min (min as.length bs.length) cs.length
  | [], _, _ => by simp [zip3D]
  | _ :: _, [], _ => by simp [zip3D]
  | _ :: _, _ :: _, [] => by simp [zip3D]
  | a :: as, b :: bs, c :: cs => by simp [zip3D, zip3_len as bs cs]
theorem zip2_get : ∀ (as bs : List Dt) (i : Nat) (a b : Dt), as[i]? = some a → bs[i]? = some b → (zip2D as bs)[i]? = some (.tup [a, b])
  | [], _, _, _, _, h, _ => by simp at h
  | _ :: _, [], _, _, _, _, h => by simp at h
  | x :: as, y :: bs, 0, a, b, h1, h2 => by simp at h1 h2; simp [zip2D, h1, h2]
  | x :: as, y :: bs, i + 1, a, b, h1, h2 => by
    have := zip2_get as bs i a b (by simpa using h1) (by simpa using h2)
    simpa [zip2D] using this
theorem zip3_get : ∀ (as bs cs : List Dt) (i : Nat) (a b c : Dt), as[i]? = some a → bs[i]? = some b → cs[i]? = some c → (zip3D as bs cs)[i]? = some (.tup [a, b, c])
  | [], _, _, _, _, _, _, h, _, _ => by simp at h
  | _ :: _, [], _, _, _, _, _, _, h, _ => by simp at h
  | _ :: _, _ :: _, [], _, _, _, _, _, _, h => by simp at h
  | x :: as, y :: bs, z :: cs, 0, a, b, c, h1, h2, h3 => by simp at h1 h2 h3; simp [zip3D, h1, h2, h3]
  | x :: as, y :: bs, z :: cs, i + 1, a, b, c, h1, h2, h3 => by
    have := zip3_get as bs cs i a b c (by simpa using h1) (by simpa using h2) (by simpa using h3)
    simpa [zip3D] using this
theorem walkN {n : Nat} {ss : List (Bool × Addr × List V)} {out : List Dt} (hn : n = out.length) (hs : ∀ z ∈ ss, ∀ H, Le G H → SqS K H z.1 z.2.1 z.2.2)
    (hg : ∀ (i : Nat) (xs : List V), i < n → ss.map (fun z => z.2.2[i]?) = xs.map some → ∃ ds, out[i]? = some (.tup ds) ∧ RpAll K mg G xs ds) : WalkD K mg G (ItN K n ss) out := by
  refine ⟨(fun H => ∀ z ∈ ss, SqS K H z.1 z.2.1 z.2.2), (fun i H v H' => ∃ T xs, v = .ref T ∧ H T = none ∧ H' = upd H T (.tup xs) ∧ ss.map (fun z => z.2.2[i]?) = xs.map some), ?_, fun G' H s l z hz => hs z hz H (Le.trans s l), fun i H x H' G' hi s l ⟨T, xs, e1, e2, e3, e4⟩ => ?_⟩
  · subst hn
    exact ⟨fun i H hi h => ⟨hi, h⟩, fun H h => ⟨rfl, h⟩, fun i H x H' _ _ y => y⟩
  · subst e1 e3
    obtain ⟨ds, h1, h2⟩ := hg i xs (by omega) e4
    exact ⟨.tup ds, upd G' T (.tup xs), h1, Ext.newG e2 (le_none l e2), l.newG e2, .tup upd_same ((h2.le s.le).le (sub_fresh (le_none l e2)).le)⟩
def fZip2 (f1 f2 : EE) : Env → R (List Dt × Env) := fun ρ => (f1 ρ).bind fun d1 ρ1 => (f2 ρ1).bind fun d2 ρ2 => match seqOf d1, seqOf d2 with
  | some a, some b => .ok (zip2D a b, ρ2)
  | _, _ => .bad
def fZip3 (f1 f2 f3 : EE) : Env → R (List Dt × Env) := fun ρ => (f1 ρ).bind fun d1 ρ1 => (f2 ρ1).bind fun d2 ρ2 => (f3 ρ2).bind fun d3 ρ3 => match seqOf d1, seqOf d2, seqOf d3 with
  | some a, some b, some c => .ok (zip3D a b c, ρ3)
  | _, _, _ => .bad
end
end E2
end

section
set_option Elab.async false
set_option linter.all false
set_option maxRecDepth 100000
set_option maxHeartbeats 4000000
/-! E16: zip, enumerate, range as iterables. -/
namespace E2
open PySem PySem.Spec PyProof.Rows L2
section
variable {X : Cx} {K : PySem.W.Frag} {mg : Str → Option Value} {G G' H H' : Hp} {pins : List (Addr × Obj)} {σ : L2.St} {s : Shared} {W : WX}
def iZ2 (K : PySem.W.Frag) (ta : TA) : TI := fun σ H R => ta σ H fun vs H2 => ∃ b1 a1 xs b2 a2 ys, vs = [.ref a1, .ref a2] ∧ SqS K H2 b1 a1 xs ∧ SqS K H2 b2 a2 ys ∧ R (ItN K (min xs.length ys.length) [(b1, a1, xs), (b2, a2, ys)]) H2
def iZ3 (K : PySem.W.Frag) (ta : TA) : TI := fun σ H R => ta σ H fun vs H2 => ∃ b1 a1 xs b2 a2 ys b3 a3 zs, vs = [.ref a1, .ref a2, .ref a3] ∧ SqS K H2 b1 a1 xs ∧ SqS K H2 b2 a2 ys ∧ SqS K H2 b3 a3 zs ∧ R (ItN K (min (min xs.length ys.length) zs.length) [(b1, a1, xs), (b2, a2, ys), (b3, a3, zs)]) H2
theorem pi_z2 {e1 e2 : Expr} {ta : TA} {p pos tpos : Pos} {elts : List Expr} {kk : Nat} (hf : Fr X "zip") (ha : PA X [e1, e2] ta) (s1 : starEach [e1, e2] X.env = (false, eval e1 X.env) :: starEach [e2] X.env) (s2 : starEach [e2] X.env = (false, eval e2 X.env) :: starEach [] X.env) :
    PI X (.Tuple elts kk tpos) (.Call (.Name "zip" p) [e1, e2] [] pos) (iZ2 X.K ta) := by
  refine ⟨fun pins s σ H R I h => ?_⟩
  have hpl : (backTo pos (starEach [e2] X.env)).any (·.1) = false := by rw [s2]; rfl
  refine Call_ (ld_blt I hf.gl hf.mg PyProof.Rows.boot_zip (PyProof.Rows.callWith_type1 (thn (ha.run pos pins s σ H _ I h) fun us sz ⟨vs, H1, I1, r1, q1⟩ => ?_) s1 hpl))
  obtain ⟨b1, a1, xs, b2, a2, ys, rfl, q1, q2, q⟩ := q1
  obtain ⟨v1, v2, rfl, w1, w2⟩ := vals2 r1
  cases (show v1 = Value.ref a1 from w1)
  cases (show v2 = Value.ref a2 from w2)
  obtain ⟨u1, r1, p1⟩ := sqS_inv I1 q1
  obtain ⟨u2, r2, p2⟩ := sqS_inv I1 q2
  have l1 := isS_lt p1
  have l2 := isS_lt p2
  refine zip_begins2 (beginsS b1 a1 u1.toArray) (beginsS b2 a2 u2.toArray) p1 p2 fun h' hz hT hO g1 g2 hsz hk => wpAny_pyIter_zip hz ?_
  have I2 : Inv X pins σ H1 { sz with heap := h' } := I1.kept (t' := sz.toks) hk
  have D := zip_sep2 (N := sz.heap.objs.size) (fp1 := [a1]) (fp2 := [a2]) (fun b hb => by rw [List.mem_singleton.mp hb]; exact l1) (fun b hb => by rw [List.mem_singleton.mp hb]; exact l2)
  refine ⟨_, _, _, _, H1, rfl, I2, turn_zip2 (xs := xs) (ys := ys) D (Nat.ne_of_lt l1) (Nat.ne_of_lt (Nat.lt_succ_of_lt l2)), ⟨hz, hT, ⟨_, _, hO⟩, iterS_of g1, iterS_of g2⟩, fun c hc => ?_, q⟩
  have hle : sz.heap.objs.size ≤ c := by
    simp at hc
    rcases hc with rfl | rfl | rfl | rfl | rfl <;> first | exact Nat.le_refl _ | exact Nat.le_add_right _ _
  exact I1.fpOk hle (I1.hok.fresh hle)
theorem vals3' {x y z : V} {us : List Value} (r : Vals [x, y, z] us) : ∃ a b c, us = [a, b, c] ∧ RelV x a ∧ RelV y b ∧ RelV z c := by
  cases r with
  | cons r1 r => cases r with
    | cons r2 r => cases r with
      | cons r3 r => cases r; exact ⟨_, _, _, rfl, r1, r2, r3⟩
theorem pi_z3 {e1 e2 e3 : Expr} {ta : TA} {p pos tpos : Pos} {elts : List Expr} {kk : Nat} (hf : Fr X "zip") (ha : PA X [e1, e2, e3] ta) (s1 : starEach [e1, e2, e3] X.env = (false, eval e1 X.env) :: starEach [e2, e3] X.env)
    (s2 : starEach [e2, e3] X.env = (false, eval e2 X.env) :: starEach [e3] X.env) (s3 : starEach [e3] X.env = (false, eval e3 X.env) :: starEach [] X.env) : PI X (.Tuple elts kk tpos) (.Call (.Name "zip" p) [e1, e2, e3] [] pos) (iZ3 X.K ta) := by
  refine ⟨fun pins s σ H R I h => ?_⟩
  have hpl : (backTo pos (starEach [e2, e3] X.env)).any (·.1) = false := by rw [s2, s3]; rfl
  refine Call_ (ld_blt I hf.gl hf.mg PyProof.Rows.boot_zip (PyProof.Rows.callWith_type1 (thn (ha.run pos pins s σ H _ I h) fun us sz ⟨vs, H1, I1, r1, q1⟩ => ?_) s1 hpl))
  obtain ⟨b1, a1, xs, b2, a2, ys, b3, a3, zs, rfl, q1, q2, q3, q⟩ := q1
  obtain ⟨v1, v2, v3, rfl, w1, w2, w3⟩ := vals3' r1
  cases (show v1 = Value.ref a1 from w1)
  cases (show v2 = Value.ref a2 from w2)
  cases (show v3 = Value.ref a3 from w3)
  obtain ⟨u1, r1, p1⟩ := sqS_inv I1 q1
  obtain ⟨u2, r2, p2⟩ := sqS_inv I1 q2
  obtain ⟨u3, r3, p3⟩ := sqS_inv I1 q3
  have l1 := isS_lt p1
  have l2 := isS_lt p2
  have l3 := isS_lt p3
  refine zip_begins3 (beginsS b1 a1 u1.toArray) (beginsS b2 a2 u2.toArray) (beginsS b3 a3 u3.toArray) p1 p2 p3 fun h' hz hT hO g1 g2 g3 hsz hk => wpAny_pyIter_zip hz ?_
  have I2 : Inv X pins σ H1 { sz with heap := h' } := I1.kept (t' := sz.toks) hk
  have D := zip_sep3 (N := sz.heap.objs.size) (fp1 := [a1]) (fp2 := [a2]) (fp3 := [a3]) (fun b hb => by rw [List.mem_singleton.mp hb]; exact l1) (fun b hb => by rw [List.mem_singleton.mp hb]; exact l2) (fun b hb => by rw [List.mem_singleton.mp hb]; exact l3)
  refine ⟨_, _, _, _, H1, rfl, I2, turn_zip3 (xs := xs) (ys := ys) (zs := zs) D (Nat.ne_of_lt l1) (Nat.ne_of_lt (Nat.lt_succ_of_lt l2)) (Nat.ne_of_lt (Nat.lt_succ_of_lt (Nat.lt_succ_of_lt l3))), ⟨hz, hT, ⟨_, _, _, hO⟩, iterS_of g1, iterS_of g2, iterS_of g3⟩, fun c hc => ?_, q⟩
  have hle : sz.heap.objs.size ≤ c := by
    simp at hc
    rcases hc with rfl | rfl | rfl | rfl | rfl | rfl <;> first | exact Nat.le_refl _ | exact Nat.le_add_right _ _
  exact I1.fpOk hle (I1.hok.fresh hle)
theorem si_zip2 {e1 e2 : Expr} {f1 f2 : EE} {p pos tpos : Pos} {elts : List Expr} {kk : Nat} (hf : Fr X "zip") (h1 : PE X e1 (tE X.K X.mg W f1)) (h2 : PE X e2 (tE X.K X.mg W f2)) (s1 : starEach [e1, e2] X.env = (false, eval e1 X.env) :: starEach [e2] X.env)
    (s2 : starEach [e2] X.env = (false, eval e2 X.env) :: starEach [] X.env) : PI X (.Tuple elts kk tpos) (.Call (.Name "zip" p) [e1, e2] [] pos) (tI X.K X.mg W (fZip2 f1 f2)) := by
  refine PI.imp (pi_z2 hf (pa_cons h1 (pa_cons h2 pa_nil s2) s1) s1 s2) fun σ H R ⟨G, ρ, st, q⟩ => ?_
  refine ⟨G, ρ, st, (Pst.bind q).mono fun d1 ρ1 G1 H1 e1 st1 o1 k1 v1 hv1 => ⟨G1, ρ1, st1, (Pst.bind (k1 e1 st1 o1)).mono fun d2 ρ2 G2 H2 e2 st2 o2 k2 v2 hv2 => ?_⟩⟩
  have k := k2 e2 st2 o2
  cases q1 : seqOf d1 with
  | none => rw [q1] at k; exact k.elim
  | some as =>
    cases q2 : seqOf d2 with
    | none => rw [q1, q2] at k; exact k.elim
    | some bs =>
      rw [q1, q2] at k
      obtain ⟨b1, a1, xs, rfl, hs1, r1⟩ := sq_of (hv1.le e2.sub.le) (seqOf_iff q1)
      obtain ⟨b2, a2, ys, rfl, hs2, r2⟩ := sq_of hv2 (seqOf_iff q2)
      refine ⟨b1, a1, xs, b2, a2, ys, rfl, hs1 _ st2.le, hs2 _ st2.le, Pst.pure k st2 _ (walkN (by rw [zip2_len, r1.length, r2.length]) (fun z hz H l => ?_) fun i ws hi hw => ?_)⟩
      · simp at hz
        rcases hz with rfl | rfl
        · exact hs1 H l
        · exact hs2 H l
      · have hi : i < min xs.length ys.length := hi
        have q1 : xs[i]? = some (xs[i]'(by omega)) := List.getElem?_eq_getElem _
        have q2 : ys[i]? = some (ys[i]'(by omega)) := List.getElem?_eq_getElem _
        obtain ⟨x', e1, rx⟩ := r1.getV q1
        obtain ⟨y', e2, ry⟩ := r2.getV q2
        simp [q1, q2] at hw
        have : ws = [xs[i]'(by omega), ys[i]'(by omega)] := by
          match ws, hw with
          | [a, b], hw => simp at hw; simp [hw]
        subst this
        exact ⟨_, zip2_get _ _ i _ _ e1 e2, .cons rx (.cons ry .nil)⟩
theorem si_zip3 {e1 e2 e3 : Expr} {f1 f2 f3 : EE} {p pos tpos : Pos} {elts : List Expr} {kk : Nat} (hf : Fr X "zip") (h1 : PE X e1 (tE X.K X.mg W f1)) (h2 : PE X e2 (tE X.K X.mg W f2)) (h3 : PE X e3 (tE X.K X.mg W f3))
    (s1 : starEach [e1, e2, e3] X.env = (false, eval e1 X.env) :: starEach [e2, e3] X.env) (s2 : starEach [e2, e3] X.env = (false, eval e2 X.env) :: starEach [e3] X.env) (s3 : starEach [e3] X.env = (false, eval e3 X.env) :: starEach [] X.env) :
    PI X (.Tuple elts kk tpos) (.Call (.Name "zip" p) [e1, e2, e3] [] pos) (tI X.K X.mg W (fZip3 f1 f2 f3)) := by
  refine PI.imp (pi_z3 hf (pa_cons h1 (pa_cons h2 (pa_cons h3 pa_nil s3) s2) s1) s1 s2 s3) fun σ H R ⟨G, ρ, st, q⟩ => ?_
  refine ⟨G, ρ, st, (Pst.bind q).mono fun d1 ρ1 G1 H1 e1 st1 o1 k1 v1 hv1 => ⟨G1, ρ1, st1, (Pst.bind (k1 e1 st1 o1)).mono fun d2 ρ2 G2 H2 e2 st2 o2 k2 v2 hv2 => ⟨G2, ρ2, st2, (Pst.bind (k2 e2 st2 o2)).mono fun d3 ρ3 G3 H3 e3 st3 o3 k3 v3 hv3 => ?_⟩⟩⟩
  have k := k3 e3 st3 o3
  cases q1 : seqOf d1 with
  | none => rw [q1] at k; exact k.elim
  | some as =>
    cases q2 : seqOf d2 with
    | none => rw [q1, q2] at k; exact k.elim
    | some bs =>
      cases q3 : seqOf d3 with
      | none => rw [q1, q2, q3] at k; exact k.elim
      | some cs =>
        rw [q1, q2, q3] at k
        obtain ⟨b1, a1, xs, rfl, hs1, r1⟩ := sq_of ((hv1.le e2.sub.le).le e3.sub.le) (seqOf_iff q1)
        obtain ⟨b2, a2, ys, rfl, hs2, r2⟩ := sq_of (hv2.le e3.sub.le) (seqOf_iff q2)
        obtain ⟨b3, a3, zs, rfl, hs3, r3⟩ := sq_of hv3 (seqOf_iff q3)
        refine ⟨b1, a1, xs, b2, a2, ys, b3, a3, zs, rfl, hs1 _ st3.le, hs2 _ st3.le, hs3 _ st3.le, Pst.pure k st3 _ (walkN (by rw [zip3_len, r1.length, r2.length, r3.length]) (fun z hz H l => ?_) fun i ws hi hw => ?_)⟩
        · simp at hz
          rcases hz with rfl | rfl | rfl
          · exact hs1 H l
          · exact hs2 H l
          · exact hs3 H l
        · have hi : i < min (min xs.length ys.length) zs.length := hi
          have q1 : xs[i]? = some (xs[i]'(by omega)) := List.getElem?_eq_getElem _
          have q2 : ys[i]? = some (ys[i]'(by omega)) := List.getElem?_eq_getElem _
          have q3 : zs[i]? = some (zs[i]'(by omega)) := List.getElem?_eq_getElem _
          obtain ⟨x', e1, rx⟩ := r1.getV q1
          obtain ⟨y', e2, ry⟩ := r2.getV q2
          obtain ⟨z', e3, rz⟩ := r3.getV q3
          simp [q1, q2, q3] at hw
          have : ws = [xs[i]'(by omega), ys[i]'(by omega), zs[i]'(by omega)] := by
            match ws, hw with
            | [a, b, c], hw => simp at hw; simp [hw]
          subst this
          exact ⟨_, zip3_get _ _ _ i _ _ _ e1 e2 e3, .cons rx (.cons ry (.cons rz .nil))⟩
/-! ### range -/
def rangeD (lo : Int) (n : Nat) : List Dt := (List.range n).map fun i => .int (lo + (i : Nat))
theorem walkR (lo : Int) (n : Nat) : WalkD K mg G (Itr lo n) (rangeD lo n) := by
  have e : (rangeD lo n).length = n := by unfold rangeD; simp
  refine ⟨(fun _ => True), YFn (fun i => .int (lo + i)), (by rw [e]; exact walk_range), fun _ _ _ _ => trivial, fun i H x H' G' hi s l ⟨e1, e2⟩ => ?_⟩
  subst e1 e2
  refine ⟨.int (lo + (i : Nat)), G', ?_, Ext.refl _ _ _, l, .int _⟩
  unfold rangeD
  rw [e] at hi
  simp [List.getElem?_range, hi]
def rOk (i : Int) : Bool := decide (-4611686018427387904 ≤ i) && decide (i < 4611686018427387904)
def fRng1 (f : EE) : Env → R (List Dt × Env) := fun ρ => (f ρ).bind fun d ρ1 => match d with
  | .int j => if rOk j then .ok (rangeD 0 j.toNat, ρ1) else .bad
  | _ => .bad
def fRng2 (f g : EE) : Env → R (List Dt × Env) := fun ρ => (f ρ).bind fun d ρ1 => (g ρ1).bind fun e ρ2 => match d, e with
  | .int i, .int j => if rOk i && rOk j then .ok (rangeD i (j - i).toNat, ρ2) else .bad
  | _, _ => .bad
theorem si_rng1 {tg a : Expr} {f : EE} {p pos : Pos} (hf : Fr X "range") (h : PE X a (tE X.K X.mg W f)) (s1 : starEach [a] X.env = (false, eval a X.env) :: starEach [] X.env) : PI X tg (.Call (.Name "range" p) [a] [] pos) (tI X.K X.mg W (fRng1 f)) := by
  refine PI.imp (pi_range1 hf.gl hf.mg (pa_cons h pa_nil s1) s1) fun σ H R ⟨G, ρ, st, q⟩ => ⟨G, ρ, st, (Pst.bind q).mono fun d ρ1 G1 H1 e st1 o1 k v hv => ?_⟩
  have k := k e st1 o1
  cases d with
  | int j =>
    cases hv with
    | int j =>
      dsimp only at k
      by_cases hr : rOk j = true
      · rw [if_pos hr] at k
        unfold rOk at hr
        simp only [Bool.and_eq_true, decide_eq_true_eq] at hr
        exact ⟨j, rfl, by omega, by omega, Pst.pure k st1 _ (walkR 0 _)⟩
      · rw [if_neg hr] at k; exact k.elim
  | _ => exact k.elim
theorem si_rng2 {tg a b : Expr} {f g : EE} {p pos : Pos} (hf : Fr X "range") (h : PE X a (tE X.K X.mg W f)) (h2 : PE X b (tE X.K X.mg W g)) (s1 : starEach [a, b] X.env = [(false, eval a X.env), (false, eval b X.env)]) (s2 : starEach [b] X.env = [(false, eval b X.env)]) :
    PI X tg (.Call (.Name "range" p) [a, b] [] pos) (tI X.K X.mg W (fRng2 f g)) := by
  refine PI.imp (pi_range2 hf.gl hf.mg (pa_cons h (pa_cons h2 pa_nil s2) (by rw [s1, s2])) s1 s2) fun σ H R ⟨G, ρ, st, q⟩ => ⟨G, ρ, st, (Pst.bind q).mono fun d ρ1 G1 H1 e st1 o1 k v hv => ⟨G1, ρ1, st1, (Pst.bind (k e st1 o1)).mono fun d2 ρ2 G2 H2 e2 st2 o2 k2 v2 hv2 => ?_⟩⟩
  have k := k2 e2 st2 o2
  cases d with
  | int i =>
    cases d2 with
    | int j =>
      cases hv with
      | int i =>
        cases hv2 with
        | int j =>
          dsimp only at k
          by_cases hr : (rOk i && rOk j) = true
          · rw [if_pos hr] at k
            unfold rOk at hr
            simp only [Bool.and_eq_true, decide_eq_true_eq] at hr
            exact ⟨i, j, rfl, ⟨by omega, by omega, by omega, by omega⟩, Pst.pure k st2 _ (walkR i _)⟩
          · rw [if_neg hr] at k; exact k.elim
    | _ => exact k.elim
  | _ => exact k.elim
/-! ### enumerate of a list -/
def enumD (i : Nat) : List Dt → List Dt
  | [] => []
  | d :: ds => .tup [.int (i : Nat), d] :: enumD (i + 1) ds
theorem enum_len : ∀ (ds : List Dt) (i : Nat), (enumD i ds).length = ds.length
  | [], _ => rfl
  | d :: ds, i => by simp [enumD, enum_len ds]
theorem enum_get : ∀ (ds : List Dt) (k i : Nat) (d : Dt), ds[i]? = some d → (enumD k ds)[i]? = some (.tup [.int ((k + i : Nat) : Int), d])
  | [], _, _, _, h => by simp at h
  | x :: ds, k, 0, d, h => by simp at h; simp [enumD, h]
  | x :: ds, k, i + 1, d, h => by
    have := enum_get ds (k + 1) i d (by simpa using h)
    simp only [enumD, List.getElem?_cons_succ, this]
    rw [show k + 1 + i = k + (i + 1) by omega]
def fEnum (f : EE) : Env → R (List Dt × Env) := fun ρ => (f ρ).bind fun d ρ1 => match d with
  | .lst ds => .ok (enumD 0 ds, ρ1)
  | .tup ds => .ok (enumD 0 ds, ρ1)
  | _ => .bad
/-! ### enumerate of a tuple -/
theorem meets_enT {u : Value} {ob : Obj} {Hh : Heap → Prop} (B : Begins u ob Hh) : Meets (Builtin.«enumerate.__new__» ⟨[.type "enumerate", u], []⟩) (fun _ R z => Hh z.heap ∧
    R (.ok (.ret (.ref (z.heap.push ob).objs.size))) { z with heap := (z.heap.push ob).push { cls := .type "enumerate", data := .fields #[.none, .bool false, .ref z.heap.objs.size, rawInt 0, .none, .none] } }) :=
  .of_wp fun prog w A R ⟨hp, g, d, tk, os⟩ ⟨h1, h⟩ => by
    have hsub := sub_enumerate
    have walk : ∀ {A' : Around} {E : Value → Shared → Prop} {Q : Value → Shared → Prop}, Q (.ref hp.objs.size) ⟨hp.push ob, g, d, tk, os⟩ → wpAny (model prog w) A' (pyIter u) Q E ⟨hp, g, d, tk, os⟩ := fun q => B.iter prog w _ _ ⟨hp, g, d, tk, os⟩ _ h1 q
    wp_walk using walk
    refine wpAny_stack_any fun st => wpAny_pure ?_
    split
    · rename_i c _ _ _ _ _
      cases (c == Value.type "enumerate") <;> (wp_walk using walk; exact ⟨_, rfl, h⟩)
    · wp_walk using walk
      exact ⟨_, rfl, h⟩
theorem call_enT {prog : Program} {w : World} {A : Around} {E : Value → Shared → Prop} {s : Shared} {u : Value} {ob : Obj} {Hh : Heap → Prop} {Q : Value → Shared → Prop} (B : Begins u ob Hh) (h1 : Hh s.heap)
    (h : ∀ h', IsEnum h' (s.heap.objs.size + 1) s.heap.objs.size 0 .none → h'.get? s.heap.objs.size = some ob → (∀ b o, s.heap.get? b = some o → h'.get? b = some o) → Q (.ref (s.heap.objs.size + 1)) { s with heap := h' }) : wpAny (model prog w) A (call (.type "enumerate") [u]) Q E s := by
  refine callType_new F.called_enumerate (by decide) (F.typeCall_enumerate_1 _) (F.newCall_enumerate_1 _) (fun x => F.args_object_init_2 x _) F.entry_enumerate_new (meets_enT B) ⟨h1, ?_⟩
  have hz : (s.heap.push ob).objs.size = s.heap.objs.size + 1 := Heap.size_push ..
  show _ ∧ _
  rw [hz]
  have new := Heap.get?_push_size (s.heap.push ob) (o := { cls := .type "enumerate", data := .fields #[.none, .bool false, .ref s.heap.objs.size, rawInt 0, .none, .none] }) rfl
  rw [hz] at new
  exact ⟨⟨_, new, rfl⟩, h _ new (Heap.get?_push_of_some _ (Heap.get?_push_size _ B.free)) fun b o x => Heap.get?_push_of_some _ (Heap.get?_push_of_some _ x)⟩
/-- the walk over pairs of the place and the item of a tuple that stands -/
def ItEn (K : PySem.W.Frag) (a : Addr) (xs : List V) : It :=
  ⟨fun i H => i < xs.length ∧ SqT K H a xs, fun i H v H' => ∃ T x, v = .ref T ∧ H T = none ∧ H' = upd H T (.tup [.int (i : Nat), x]) ∧ xs[i]? = some x, fun i H => i = xs.length ∧ SqT K H a xs⟩
theorem turn_en {P : Program} {w : World} {elts : List Expr} {kk : Nat} {tpos : Pos} {e it a : Addr} {xs : List V} (n1 : a ≠ it) (n2 : e ≠ it) (n3 : e ≠ a) : Turn P w K (.Tuple elts kk tpos) (ItEn K a xs) [e, it] e (fun i h => (∃ old, IsEnum h e it (0 + (i : Int)) old) ∧ IterS h true it a i) := by
  refine turn_of (by simp) (fun i h st c hc => ?_) (fun i h h' st k => ?_) (fun X hP hw hK hc i pins s σ H I st hg => ?_) fun A i s Q E st h => by obtain ⟨⟨old, he⟩, _⟩ := st; exact wpAny_pyIter_enum he h
  · obtain ⟨⟨old, he⟩, h1⟩ := st
    have e' : c = e ∨ c = it := by simpa using hc
    rcases e' with rfl | rfl
    · exact ⟨_, he, fun v q => nomatch q⟩
    · exact h1.obj
  · obtain ⟨⟨old, he⟩, h1⟩ := st
    exact ⟨⟨old, k e (by simp) _ he⟩, h1.at' fun o q => k it (by simp) o q⟩
  · obtain ⟨he, h1⟩ := st
    have hq : SqT K H a xs := by
      rcases hg with hg | hg
      · exact hg.2
      · exact hg.2
    subst hP hw hK
    obtain ⟨us, r1, p1⟩ := sqS_inv (b := true) I hq
    have hh := I.ok.hd hc
    have G := GoesN.enumFrom (elts := elts) (x1 := kk) (pos := tpos) 0 (drawsS (prog := X.prog) (w := X.w) (A := X.A.in1) hh true it a n1 us.toArray) e n2 (by simp [n2, n3]) (by simp)
    have l1 := r1.length
    have en : xs.length = us.toArray.size := by rw [List.size_toArray, l1]
    refine ⟨_, _, _, _, _, G, ⟨he, h1, p1⟩, fun g => en ▸ g.1, fun g => en ▸ g.1, fun b hb => hb, fun v h' hi ⟨T, t, x, ev, hT, hx, hI⟩ st' => ?_⟩
    obtain ⟨zz, z1, _⟩ := st'
    have hi : i < us.length := by simpa using hi
    have q1 : xs[i]? = some (xs[i]'(by omega)) := List.getElem?_eq_getElem _
    obtain ⟨x', e1, rx⟩ := r1.get q1
    have ex : x' = x := by
      have : us[i]? = some x := by simpa using hx
      rw [this] at e1; exact (Option.some.inj e1).symm
    subst ex
    rw [Int.zero_add] at hI
    exact ⟨T, [.int (i : Nat), xs[i]'(by omega)], [.int (i : Nat) t, x'], ev, hT, by rw [sizeLine_eq]; show (2 : Nat) ≤ _; omega, .cons ⟨t, rfl⟩ (.cons rx .nil), hI, fun hn => ⟨T, _, rfl, hn, rfl, q1⟩, zz, z1⟩
def iEn (K : PySem.W.Frag) (te : TE) : TI := fun σ H R => te σ H fun v H2 => ∃ a xs, [v] = [V.ref a] ∧ ((SqL K H2 a xs ∧ R (Ite K a) H2) ∨ (SqT K H2 a xs ∧ R (ItEn K a xs) H2))
theorem pi_en {e1 : Expr} {te : TE} {p pos tpos : Pos} {elts : List Expr} {kk : Nat} (hf : Fr X "enumerate") (he : PE X e1 te) (s1 : starEach [e1] X.env = (false, eval e1 X.env) :: starEach [] X.env) : PI X (.Tuple elts kk tpos) (.Call (.Name "enumerate" p) [e1] [] pos) (iEn X.K te) := by
  refine ⟨fun pins s σ H R I h => ?_⟩
  refine Call_ (ld_blt I hf.gl hf.mg boot_enumerate (PyProof.Rows.callWith_type1 (thn ((pa_cons he pa_nil s1).run pos pins s σ H (fun vs H2 => ∃ a xs, vs = [V.ref a] ∧ ((SqL X.K H2 a xs ∧ R (Ite X.K a) H2) ∨ (SqT X.K H2 a xs ∧ R (ItEn X.K a xs) H2))) I h) fun us sz ⟨vs, H1, I1, r1, q1⟩ => ?_) s1 rfl))
  obtain ⟨a, xs, rfl, q⟩ := q1
  obtain ⟨u, rfl, w1⟩ := vals1 r1
  cases (show u = Value.ref a from w1)
  rcases q with ⟨hq, q⟩ | ⟨hq, q⟩
  · obtain ⟨its, rv, p', hz⟩ := I1.list hq
    refine call_enumerate_list p'.isList fun h' he hit hsz hk => wpAny_pyIter_enum he ?_
    have I2 : Inv X pins σ H1 { sz with heap := h' } := I1.kept (t' := sz.toks) hk
    refine ⟨_, [sz.heap.objs.size + 1, sz.heap.objs.size], _, _, H1, rfl, I2, turn_enum a (sz.heap.objs.size + 1) sz.heap.objs.size, ⟨⟨.none, he⟩, hit, Nat.succ_ne_self _⟩, fun c hc => ?_, q⟩
    have hle : sz.heap.objs.size ≤ c := by
      simp at hc
      rcases hc with rfl | rfl <;> first | exact Nat.le_refl _ | exact Nat.le_add_right _ _
    exact I1.fpOk hle (I1.hok.fresh hle)
  · obtain ⟨us, r1, p1⟩ := sqS_inv (b := true) I1 hq
    have l1 := isS_lt p1
    refine call_enT (beginsS true a us.toArray) p1 fun h' hz g1 hk => wpAny_pyIter_enum hz ?_
    have I2 : Inv X pins σ H1 { sz with heap := h' } := I1.kept (t' := sz.toks) hk
    refine ⟨_, [sz.heap.objs.size + 1, sz.heap.objs.size], _, _, H1, rfl, I2, turn_en (xs := xs) (Nat.ne_of_lt l1) (Nat.succ_ne_self _) (Nat.ne_of_gt (Nat.lt_succ_of_lt l1)), ⟨⟨_, by rw [show ((0 : Nat) : Int) = 0 from rfl, Int.add_zero]; exact hz⟩, iterS_of g1⟩, fun c hc => ?_, q⟩
    have hle : sz.heap.objs.size ≤ c := by
      simp at hc
      rcases hc with rfl | rfl <;> first | exact Nat.le_refl _ | exact Nat.le_add_right _ _
    exact I1.fpOk hle (I1.hok.fresh hle)
theorem si_enum {e : Expr} {f : EE} {p pos tpos : Pos} {elts : List Expr} {kk : Nat} (hf : Fr X "enumerate") (h : PE X e (tE X.K X.mg W f)) (s1 : starEach [e] X.env = (false, eval e X.env) :: starEach [] X.env) :
    PI X (.Tuple elts kk tpos) (.Call (.Name "enumerate" p) [e] [] pos) (tI X.K X.mg W (fEnum f)) := by
  refine PI.imp (pi_en hf h s1) fun σ H R ⟨G, ρ, st, q⟩ => ⟨G, ρ, st, (Pst.bind q).mono fun d ρ1 G1 H1 e st1 o1 k v hv => ?_⟩
  have k := k e st1 o1
  cases d with
  | lst ds =>
    cases hv with
    | @lst a xs _ hR r =>
      refine ⟨a, xs, rfl, .inl ⟨.inl (rdL_le st1.le hR), Pst.pure k st1 _ ⟨(fun H => SqL X.K H a xs), YPair (fun i => some (.int (i : Nat))) (fun i => xs[i]?), (by rw [enum_len, ← r.length]; exact walk_enum), fun G' H' s l => .inl (rdL_le l ?_), fun i H x H' G' hi s l ⟨T, y, z, e1, e2, e3, e4, e5⟩ => ?_⟩⟩⟩
      · exact rdL_le s hR
      · subst e1 e3
        cases e4
        obtain ⟨dz, hd, rz⟩ := r.getV e5
        exact ⟨_, upd G' T (.tup [.int (i : Nat), z]), enum_get ds 0 i dz hd, Ext.newG e2 (le_none l e2), l.newG e2, .tup upd_same (.cons (by rw [Nat.zero_add]; exact .int _) (.cons ((rz.le s.le).le (sub_fresh (le_none l e2)).le) .nil))⟩
  | tup ds =>
    cases hv with
    | @tup a xs _ hR r =>
      refine ⟨a, xs, rfl, .inr ⟨.inl (.inl (tup_le st1.le hR)), Pst.pure k st1 _ ⟨(fun H => SqT X.K H a xs), (fun i H v H' => ∃ T x, v = .ref T ∧ H T = none ∧ H' = upd H T (.tup [.int (i : Nat), x]) ∧ xs[i]? = some x), ⟨fun i H hi z => ⟨by rw [r.length]; rw [enum_len] at hi; exact hi, z⟩, fun H z => ⟨by rw [enum_len, r.length], z⟩, fun i H x H' _ _ y => y⟩, fun G' H' s l => .inl (.inl (tup_le (Le.trans s l) hR)), fun i H x H' G' hi s l ⟨T, z, e1, e2, e3, e5⟩ => ?_⟩⟩⟩
      subst e1 e3
      obtain ⟨dz, hd, rz⟩ := r.getV e5
      exact ⟨_, upd G' T (.tup [.int (i : Nat), z]), enum_get ds 0 i dz hd, Ext.newG e2 (le_none l e2), l.newG e2, .tup upd_same (.cons (by rw [Nat.zero_add]; exact .int _) (.cons ((rz.le s.le).le (sub_fresh (le_none l e2)).le) .nil))⟩
  | _ => exact k.elim
end
end E2
end

section
set_option Elab.async false
set_option linter.all false
set_option maxRecDepth 100000
set_option maxHeartbeats 4000000
/-! E17: owned lists and dicts changed: append, extend, pop, x[i] = v. -/
namespace E2
open PySem PySem.Spec PyProof.Rows L2
section
variable {X : Cx} {K : PySem.W.Frag} {mg : Str → Option Value} {G G' H H' : Hp} {pins : List (Addr × Obj)} {σ : L2.St} {ρ : Env} {s : Shared} {W : WX}
/-- the object of one slot is changed -/
theorem Stt.mut (st : Stt K mg G H σ ρ) {i : Nat} {d d' : Dt} {p : Addr} (hi : ρ[i]? = some (.ow d)) (hv : σ[i]? = some (some (.ref p))) (e : Ext (fun a => a = p) G H G' H') (l : Le G' H') (hp : G' p = none) (o : OwnP K mg G' H' p d') :
    Stt K mg G' H' σ (ρ.set i (.ow d')) ∧ (∀ q, Own σ (ρ.set i (.ow d')) q → Own σ ρ q) ∧ Ext (Own σ ρ) G H G' H' := by
  have back : ∀ {j : Nat} {u : Slot}, (ρ.set i (.ow d'))[j]? = some u → (j = i ∧ u = .ow d') ∨ (j ≠ i ∧ ρ[j]? = some u) := fun {j u} h => by
    rcases set_get h with ⟨e1, e2⟩ | ⟨e1, e2⟩
    · exact .inl ⟨e1.symm, e2⟩
    · exact .inr ⟨Ne.symm e1, e2⟩
  have ob : ∀ {j q}, Ows σ (ρ.set i (.ow d')) j q → Ows σ ρ j q := fun {j q} ⟨⟨u, h⟩, r⟩ => by
    rcases back h with ⟨e1, _⟩ | ⟨_, e2⟩
    · subst e1; exact ⟨⟨d, hi⟩, r⟩
    · exact ⟨⟨u, e2⟩, r⟩
  refine ⟨⟨l, by rw [List.length_set]; exact st.len, fun j u h => ?_, fun a b q h1 h2 => st.inj a b q (ob h1) (ob h2)⟩, fun q ⟨j, h⟩ => ⟨j, ob h⟩, e.mono fun q hq => ⟨i, ⟨d, hi⟩, hq ▸ hv⟩⟩
  rcases back h with ⟨rfl, rfl⟩ | ⟨ne, h⟩
  · exact ⟨p, hv, hp, o⟩
  · refine SlotR.ext (st.slot j u h) e fun d2 q eu eq hq => ?_
    subst eu hq
    exact ne (st.inj j i _ ⟨⟨d2, h⟩, eq⟩ ⟨⟨d, hi⟩, hv⟩)
theorem Ext.mutH {p : Addr} {o : HO} : Ext (fun a => a = p) G H G (upd H p o) where
  keep := fun b u e n => .inl (by rw [upd_ne n]; exact e)
  sub := Sub.refl G
  new := fun b u e => .inl ⟨_, e⟩
theorem Le.mutH (l : Le G H) {p : Addr} {o : HO} (g : G p = none) : Le G (upd H p o) := fun a u e => by
  have q : a ≠ p := fun z => by rw [z, g] at e; cases e
  rw [upd_ne q]; exact l a u e
/-! ### methods of an owned list or dict -/
def isLstS : Option Slot → Bool
  | some (.ow (.lst _)) => true
  | _ => false
/-- the receiver is the slot i; the arguments are shared data -/
def fMeth (i : Nat) (fs : List EE) (m : List Dt → List Dt → Option (List Dt × Dt)) : EV := fun ρ => if isLstS ρ[i]? then (runOps (fs.map .ex) ρ).bind fun as ρ1 => match ρ1[i]?, resAll (fs.map .ex) as ρ1 with
  | some (.ow (.lst xs)), some ds => (match m xs ds with
    | some (xs', r) => .ok (.sh r, ρ1.set i (.ow (.lst xs')))
    | none => .bad)
  | _, _ => .bad else .bad
def MOk (K : PySem.W.Frag) (mg : Str → Option Value) (m : List Dt → List Dt → Option (List Dt × Dt)) (r : V → List V → Hp → VK → Prop) : Prop :=
  ∀ (G H : Hp) (p : Addr) (xs : List V) (ds : List Dt) (vs : List V) (es : List Dt) (ds' : List Dt) (res : Dt) (Q : VK), Le G H → G p = none → H p = some (.lst xs) → RpAll K mg G xs ds → RpAll K mg G vs es → m ds es = some (ds', res) →
    (∀ xs' v, RpAll K mg G xs' ds' → Rp K mg G v res → Q v (upd H p (.lst xs'))) → r (.ref p) vs H Q
theorem meth_imp {i : Nat} {fs : List EE} {m : List Dt → List Dt → Option (List Dt × Dt)} {r : V → List V → Hp → VK → Prop} (hm : MOk K mg m r) {H : Hp} {Q : VK} (h : tV K mg W (fMeth i fs m) σ H Q) :
    tBM K "list" r (tVar i) (tOs K mg W (fs.map .ex)) σ H Q := by
  obtain ⟨G, ρ, st, q⟩ := h
  have q : Pst K mg W (Own σ ρ) G H σ (if isLstS ρ[i]? then (runOps (fs.map .ex) ρ).bind fun as ρ1 => match ρ1[i]?, resAll (fs.map .ex) as ρ1 with
    | some (.ow (.lst xs)), some ds => (match m xs ds with
      | some (xs', r) => .ok (.sh r, ρ1.set i (.ow (.lst xs')))
      | none => .bad)
    | _, _ => .bad else .bad) fun s ρ' G' H' => ∀ v, VR K mg (Own σ ρ) H G' H' σ ρ' v s → Q v H' := q
  by_cases hl : isLstS ρ[i]? = true
  · rw [if_pos hl] at q
    have hrec : ∃ p xs, σ[i]? = some (some (.ref p)) ∧ H p = some (.lst xs) := by
      cases e : ρ[i]? with
      | none => rw [e] at hl; cases hl
      | some u =>
        rw [e] at hl
        cases u with
        | ow d =>
          cases d with
          | lst ds =>
            obtain ⟨p, e1, _, xs, e2, _⟩ := st.slot i _ e
            exact ⟨p, xs, e1, e2⟩
          | _ => cases hl
        | _ => cases hl
    obtain ⟨p, xs0, hv, hx0⟩ := hrec
    refine ⟨.ref p, hv, .inl ⟨rfl, xs0, .inl (.inl hx0)⟩, G, ρ, st, (Pst.bind q).mono fun as ρ1 G1 H1 e st1 o1 k vs hvs => ?_⟩
    have k := k e st1 o1
    cases e1 : ρ1[i]? with
    | none => rw [e1] at k; exact k.elim
    | some u =>
      rw [e1] at k
      cases u with
      | dead => exact k.elim
      | sh d => exact k.elim
      | ow d =>
        cases d with
        | lst ds =>
          cases e2 : resAll (fs.map .ex) as ρ1 with
          | none => rw [e2] at k; exact k.elim
          | some es =>
            rw [e2] at k
            dsimp only at k
            cases e3 : m ds es with
            | none => rw [e3] at k; exact k.elim
            | some z =>
              obtain ⟨ds', res⟩ := z
              rw [e3] at k
              obtain ⟨p2, ev, gp, xs, hx, rx⟩ := st1.slot i _ e1
              rw [hv] at ev
              cases ev
              refine hm G1 H1 p xs ds vs es ds' res Q st1.le gp hx rx (opvs_all hvs e2) e3 fun xs' v rx' rv => ?_
              have em : Ext (fun a => a = p) G1 H1 G1 (upd H1 p (.lst xs')) := Ext.mutH
              obtain ⟨s2, o2, e4⟩ := st1.mut (d' := .lst ds') e1 hv em (st1.le.mutH gp) gp ⟨xs', upd_same, rx'⟩
              exact k _ _ e4 s2 o2 v rv
        | _ => exact k.elim
  · rw [if_neg hl] at q; exact q.elim
theorem two_all {vs : List V} {d : Dt} (h : RpAll K mg G vs [d]) : ∃ v, vs = [v] ∧ Rp K mg G v d := by
  cases h with
  | cons h r => cases r; exact ⟨_, rfl, h⟩
theorem none_all {vs : List V} (h : RpAll K mg G vs []) : vs = [] := by cases h; rfl
def mAppend : List Dt → List Dt → Option (List Dt × Dt)
  | xs, [d] => if xs.length < 16777216 then some (xs ++ [d], .non) else none
  | _, _ => none
theorem mk_append : MOk K mg mAppend rAppend := by
  intro G H p xs ds vs es ds' res Q l gp hp rx rv hm k
  unfold mAppend at hm
  split at hm
  · split at hm
    · rename_i hz
      cases hm
      obtain ⟨v, rfl, r⟩ := two_all rv
      exact ⟨p, xs, v, rfl, rfl, hp, by rw [rx.length, sizeLine_eq]; exact hz, k _ .non (rx.append (.one r)) .non⟩
    · cases hm
  · cases hm
def mPop : List Dt → List Dt → Option (List Dt × Dt)
  | xs, [] => match xs[xs.length - 1]? with
    | some d => some (xs.dropLast, d)
    | none => none
  | xs, [.int i] => if decide (-9223372036854775808 ≤ i) && decide (i < 9223372036854775808) then (match seqIndex? i xs.length with
    | some k => (match xs[k]? with
      | some d => some (xs.eraseIdx k, d)
      | none => none)
    | none => none) else none
  | _, _ => none
theorem RpAll.erase : ∀ {vs : List V} {ds : List Dt} (i : Nat), RpAll K mg G vs ds → RpAll K mg G (vs.eraseIdx i) (ds.eraseIdx i)
  | _, _, _, .nil => .nil
  | _, _, 0, .cons _ r => r
  | _, _, i + 1, .cons h r => .cons h (RpAll.erase i r)
theorem RpAll.dropLast {vs : List V} {ds : List Dt} (r : RpAll K mg G vs ds) : RpAll K mg G vs.dropLast ds.dropLast := by
  rw [List.dropLast_eq_take, List.dropLast_eq_take, r.length]
  exact r.take _
def rPop2 : V → List V → Hp → VK → Prop := fun x vs H Q => rPop x vs H Q ∨ rPopAt x vs H Q
theorem mt_pop2 : MtR X "list.pop" rPop2 := MtR.or mt_pop mt_popAt
theorem mk_pop : MOk K mg mPop rPop2 := by
  intro G H p xs ds vs es ds' res Q l gp hp rx rv hm k
  unfold mPop at hm
  split at hm
  · split at hm
    · rename_i d hd
      cases hm
      cases none_all rv
      obtain ⟨v, e1, r⟩ := rx.get hd
      exact .inl ⟨p, xs, v, rfl, rfl, hp, by rw [rx.length]; exact e1, k _ v rx.dropLast r⟩
    · cases hm
  · split at hm
    · rename_i i hc
      simp only [Bool.and_eq_true, decide_eq_true_eq] at hc
      split at hm
      · rename_i j hj
        split at hm
        · rename_i d hd
          cases hm
          obtain ⟨v, rfl, r⟩ := two_all rv
          cases r
          obtain ⟨v, e1, r⟩ := rx.get hd
          exact .inr ⟨p, xs, i, j, v, rfl, rfl, hp, by omega, by omega, by rw [rx.length]; exact hj, e1, k _ v (rx.erase j) r⟩
        · cases hm
      · cases hm
    · cases hm
  · cases hm
/-- extend by a list or a tuple that is read -/
def rExtL : V → List V → Hp → VK → Prop := fun x vs H Q => ∃ l b xs zs, x = .ref l ∧ vs = [.ref b] ∧ H l = some (.lst xs) ∧ Rd H b (.lst zs) ∧ xs.length + zs.length ≤ sizeLine ∧ Q .non (upd H l (.lst (xs ++ zs)))
theorem mt_extL : MtR X "list.extend" rExtL := by
  intro pins s σ H x vs v us Q I rx rv ⟨a, b, ws, zs, ex, ev, hA, hB, hz, hQ⟩
  subst ex ev
  cases rx
  obtain ⟨u, rfl, ru⟩ := rv.one
  cases ru
  obtain ⟨z1, i1, n1, r1, l1, e1⟩ := I.lstM hA
  obtain ⟨z2, i2, n2, r2, l2, e2⟩ := lstR I hB
  have hs : i1.toArray.size + i2.toArray.size ≤ sizeLine := by rw [List.size_toArray, List.size_toArray]; omega
  refine call_meets F.slot_list_extend ⟨_, e1, rfl⟩ F.entry_list_extend (F.args_list_extend_2 _ _)
    (AutoSeq1.list_extend_list_list_0 a i1.toArray n1 b i2.toArray n2 (by rw [notLongL hs, Bool.and_false]; exact Bool.false_ne_true) (by rw [List.size_toArray]; omega) (by omega)) ⟨e1, e2, ?_⟩
  exact ⟨.non, _, I.lset (its' := i1 ++ i2) hA e1 (by simp) (r1.append r2) (by rw [List.length_append]; omega), rfl, hQ⟩
def mExtend : List Dt → List Dt → Option (List Dt × Dt)
  | xs, [.lst ds] => if xs.length + ds.length ≤ 16777216 then some (xs ++ ds, .non) else none
  | _, _ => none
theorem mk_extend : MOk K mg mExtend rExtL := by
  intro G H p xs ds vs es ds' res Q l gp hp rx rv hm k
  unfold mExtend at hm
  split at hm
  · split at hm
    · rename_i hz
      cases hm
      obtain ⟨v, rfl, r⟩ := two_all rv
      cases r with
      | @lst b zs _ hR r => exact ⟨p, b, xs, zs, rfl, rfl, hp, rdL_le l hR, by rw [rx.length, r.length, sizeLine_eq]; exact hz, k _ .non (rx.append r) .non⟩
    · cases hm
  · cases hm
end
end E2
end

section
set_option Elab.async false
set_option linter.all false
set_option maxRecDepth 100000
set_option maxHeartbeats 4000000
/-! E18: tests, and, or, not, chains, if-expressions; slices; built-ins' calls. -/
namespace E2
open PySem PySem.Spec PyProof.Rows L2
section
variable {X : Cx} {K : PySem.W.Frag} {mg : Str → Option Value} {G G' H H' : Hp} {P : Addr → Prop} {pins : List (Addr × Obj)} {σ : L2.St} {ρ ρ' : Env} {s : Shared} {W : WX} {a b c e : Expr} {pos : Pos}
/-! ### truth -/
def truD : Dt → Option Bool
  | .non => some false
  | .bl b => some b
  | .int i => some (i != 0)
  | .str x => if x.length ≤ 16777216 then some ((x.length : Int) != 0) else none
  | .tup xs => some (!xs.isEmpty)
  | .lst xs => some (!xs.isEmpty)
  | _ => none
theorem RpAll.isEmpty {vs : List V} {ds : List Dt} (r : RpAll K mg G vs ds) : vs.isEmpty = ds.isEmpty := by cases r <;> rfl
theorem RpR.truth (l : Le G H) {v : V} {d : Dt} {k : Bool} (r : RpR K mg G H v d) (h : truD d = some k) : TruV K v H k := by
  cases d with
  | non => cases r.non; exact (Option.some.inj h).symm
  | bl b => cases r.bl; exact (Option.some.inj h).symm
  | int i => cases r.int; exact (Option.some.inj h).symm
  | str x =>
    cases r.str
    simp only [truD] at h
    split at h
    · rename_i hz
      exact ⟨by rw [sizeLine_eq]; exact hz, (Option.some.inj h).symm⟩
    · cases h
  | tup xs =>
    obtain ⟨a, ys, rfl, hs, ra, _⟩ := r.tup l
    exact .inr (.inl ⟨ys, hs, by rw [ra.isEmpty]; exact (Option.some.inj h).symm⟩)
  | lst xs =>
    obtain ⟨a, ys, rfl, hs, ra⟩ := r.lst l
    exact .inl ⟨ys, .inl hs, by rw [ra.isEmpty]; exact (Option.some.inj h).symm⟩
  | _ => cases h
abbrev ET := Env → R (Bool × Env)
def fTr (o : Op) : ET := fun ρ => (o.run ρ).bind fun a ρ1 => match (o.res a ρ1).bind truD with
  | some b => .ok (b, ρ1)
  | none => .bad
theorem st_truth {o : Op} (ha : PE X a (tO X.K X.mg W o)) (he : ∀ whole, isTrue a X.env whole = (do let v ← whole; standAt a.pos; holding [v] (truthy v))) : PT X a (tT X.K X.mg W (fTr o)) :=
  PT.imp (pt_truth ha he) fun σ H Q ⟨G, ρ, st, q⟩ => ⟨G, ρ, st, (Pst.bind q).mono fun a ρ1 G1 H1 e st1 o1 k v hv => by
    have k := k e st1 o1
    cases hr : (o.res a ρ1).bind truD with
    | none => rw [hr] at k; exact k.elim
    | some b =>
      rw [hr] at k
      obtain ⟨d, h1, h2⟩ := Option.bind_eq_some_iff.mp hr
      exact ⟨b, (hv.read st1 h1).truth st1.le h2, Pst.pure k st1⟩⟩
/-- a test by a value that is a bool -/
def fTe (f : EV) : ET := fun ρ => (f ρ).bind fun s ρ1 => match s with
  | .sh (.bl b) => .ok (b, ρ1)
  | _ => .bad
theorem test_imp {f : EV} {Q : Bool → Hp → Prop} (h : tT K mg W (fTe f) σ H Q) : tV K mg W f σ H fun x H' => ∃ k, x = .bl k ∧ Q k H' := by
  obtain ⟨G, ρ, st, q⟩ := h
  refine ⟨G, ρ, st, (Pst.bind q).mono fun s ρ1 G1 H1 e st1 o1 k v hv => ?_⟩
  have k := k e st1 o1
  cases s with
  | sh d =>
    cases d with
    | bl b => cases hv with | bl b => exact ⟨b, rfl, Pst.pure k st1⟩
    | _ => exact k.elim
  | _ => exact k.elim
theorem st_cmp {op : CmpOp} {g : Dt → Dt → Option Slot} {o1 o2 : Op} (ho : OpR X (compareOp op) (rG X.K X.mg g)) (ha : PE X a (tO X.K X.mg W o1)) (hb : PE X b (tO X.K X.mg W o2)) (hm : behindInMarks op b = false) : PT X (.Compare a [op] [b] pos) (tT X.K X.mg W (fTe (f2 o1 o2 g))) :=
  PT.imp (pt_cmpR ho ha hb hm) fun _ _ _ h => two_imp (rG_ok g) (test_imp h)
/-- a op b op' c -/
def fChain (o1 o2 o3 : Op) (g g' : Dt → Dt → Option Slot) : EV := fun ρ => (o1.run ρ).bind fun a1 ρ1 => (o2.run ρ1).bind fun a2 ρ2 => match o1.res a1 ρ2, o2.res a2 ρ2 with
  | some d, some e => (match g d e with
    | some (.sh (.bl true)) => (o3.run ρ2).bind fun a3 ρ3 => (match o2.res a2 ρ3, o3.res a3 ρ3 with
      | some e, some h => (match g' e h with
        | some (.sh (.bl b)) => .ok (.sh (.bl b), ρ3)
        | _ => .bad)
      | _, _ => .bad)
    | some (.sh (.bl false)) => .ok (.sh (.bl false), ρ2)
    | _ => .bad)
  | _, _ => .bad
theorem chain_imp {o1 o2 o3 : Op} {g g' : Dt → Dt → Option Slot} {Q : VK} (h : tV K mg W (fChain o1 o2 o3 g g') σ H Q) : tChain (rG K mg g) (rG K mg g') (tO K mg W o1) (tO K mg W o2) (tO K mg W o3) σ H Q := by
  obtain ⟨G, ρ, st, q⟩ := h
  refine ⟨G, ρ, st, (Pst.bind q).mono fun a1 ρ1 G1 H1 e1 st1 w1 k1 v1 hv1 => ⟨G1, ρ1, st1, (Pst.bind (k1 e1 st1 w1)).mono fun a2 ρ2 G2 H2 e2 st2 w2 k2 v2 hv2 => ?_⟩⟩
  have k := k2 e2 st2 w2
  cases r1 : o1.res a1 ρ2 with
  | none => rw [r1] at k; exact k.elim
  | some d =>
    cases r2 : o2.res a2 ρ2 with
    | none => rw [r1, r2] at k; exact k.elim
    | some e =>
      rw [r1, r2] at k
      dsimp only at k
      have hd := (hv1.sub e2.sub).read st2 r1
      have he := hv2.read st2 r2
      split at k
      · rename_i hg
        refine ⟨G2, d, e, _, st2.le, hd, he, hg, fun G3 H3 v x l3 hv => ?_⟩
        cases hv
        refine ⟨true, rfl, ?_⟩
        have st3 := st2.ext0 x l3
        refine ⟨G3, ρ2, st3, (Pst.bind ((k.ext x.no (fun _ z => z) fun _ _ _ _ _ _ _ z => z))).mono fun a3 ρ3 G4 H4 e3 st4 w3 k3 v3 hv3 => ?_⟩
        have k4 := k3 e3 st4 w3
        cases r3 : o2.res a2 ρ3 with
        | none => rw [r3] at k4; exact k4.elim
        | some e' =>
          cases r4 : o3.res a3 ρ3 with
          | none => rw [r3, r4] at k4; exact k4.elim
          | some h =>
            rw [r3, r4] at k4
            dsimp only at k4
            split at k4
            · rename_i b hg'
              refine ⟨G4, e', h, _, st4.le, ((hv2.sub x.sub).sub e3.sub).read st4 r3, hv3.read st4 r4, hg', fun G5 H5 v5 x5 l5 hv5 => ?_⟩
              cases hv5
              exact k4 G5 H5 x5.no (st4.ext0 x5 l5) (fun _ z => z) _ (.bl _)
            · exact k4.elim
      · rename_i hg
        refine ⟨G2, d, e, _, st2.le, hd, he, hg, fun G3 H3 v x l3 hv => ?_⟩
        cases hv
        refine ⟨false, rfl, ?_⟩
        rw [if_neg Bool.false_ne_true]
        exact k G3 H3 x.no (st2.ext0 x l3) (fun _ z => z) _ (.bl _)
      · exact k.elim
theorem sv_chain {op op' : CmpOp} {g g' : Dt → Dt → Option Slot} {o1 o2 o3 : Op} (ho : OpR X (compareOp op) (rG X.K X.mg g)) (ho' : OpR X (compareOp op') (rG X.K X.mg g')) (ha : PE X a (tO X.K X.mg W o1)) (hb : PE X b (tO X.K X.mg W o2)) (hc : PE X c (tO X.K X.mg W o3))
    (hm : lastMarks [op, op'] [b, c] = false) : PE X (.Compare a [op, op'] [b, c] pos) (tV X.K X.mg W (fChain o1 o2 o3 g g')) := PE.imp (pe_chain ho ho' ha hb hc hm) fun _ _ _ h => chain_imp h
theorem st_chain {op op' : CmpOp} {g g' : Dt → Dt → Option Slot} {o1 o2 o3 : Op} (ho : OpR X (compareOp op) (rG X.K X.mg g)) (ho' : OpR X (compareOp op') (rG X.K X.mg g')) (ha : PE X a (tO X.K X.mg W o1)) (hb : PE X b (tO X.K X.mg W o2)) (hc : PE X c (tO X.K X.mg W o3))
    (hm : lastMarks [op, op'] [b, c] = false) : PT X (.Compare a [op, op'] [b, c] pos) (tT X.K X.mg W (fTe (fChain o1 o2 o3 g g'))) := PT.imp (pt_chain ho ho' ha hb hc hm) fun _ _ _ h => chain_imp (test_imp h)
/-! ### and, or, not -/
def fAndT (f g : ET) : ET := fun ρ => (f ρ).bind fun b ρ1 => if b then g ρ1 else .ok (false, ρ1)
def fOrT (f g : ET) : ET := fun ρ => (f ρ).bind fun b ρ1 => if b then .ok (true, ρ1) else g ρ1
def fNotT (f : ET) : ET := fun ρ => (f ρ).bind fun b ρ1 => .ok (!b, ρ1)
theorem st_not {f : ET} (h : PT X a (tT X.K X.mg W f)) : PT X (.UnaryOp .Not a pos) (tT X.K X.mg W (fNotT f)) :=
  PT.imp (pt_not h) fun σ H Q ⟨G, ρ, st, q⟩ => ⟨G, ρ, st, (Pst.bind q).mono fun b ρ1 G1 H1 e st1 o1 k => Pst.pure (k e st1 o1) st1⟩
theorem sw_and {f g : ET} {rest : List Expr} (ha : PT X a (tT X.K X.mg W f)) (hb : PW X (.BoolOp .And (b :: rest) pos) (tT X.K X.mg W g)) : PW X (.BoolOp .And (a :: b :: rest) pos) (tT X.K X.mg W (fAndT f g)) :=
  ⟨fun wh pins s σ H Q I ⟨G, ρ, st, q⟩ => (pw_and ha hb).run wh pins s σ H Q I ⟨G, ρ, st, (Pst.bind q).mono fun b ρ1 G1 H1 e st1 o1 k => by
    have k := k e st1 o1
    cases b with
    | true => exact ⟨G1, ρ1, st1, k⟩
    | false => exact Pst.pure k st1⟩⟩
theorem sw_or {f g : ET} {rest : List Expr} (ha : PT X a (tT X.K X.mg W f)) (hb : PW X (.BoolOp .Or (b :: rest) pos) (tT X.K X.mg W g)) : PW X (.BoolOp .Or (a :: b :: rest) pos) (tT X.K X.mg W (fOrT f g)) :=
  ⟨fun wh pins s σ H Q I ⟨G, ρ, st, q⟩ => (pw_or ha hb).run wh pins s σ H Q I ⟨G, ρ, st, (Pst.bind q).mono fun b ρ1 G1 H1 e st1 o1 k => by
    have k := k e st1 o1
    cases b with
    | true => exact Pst.pure k st1
    | false => exact ⟨G1, ρ1, st1, k⟩⟩⟩
/-- as values: what is told of a result's truth -/
def truS : Slot → Option Bool
  | .sh d => truD d
  | .ow d => truD d
  | .dead => none
def fOrV (f g : EV) : EV := fun ρ => (f ρ).bind fun s ρ1 => match truS s with
  | some true => .ok (s, ρ1)
  | some false => g ρ1
  | none => .bad
def fAndV (f g : EV) : EV := fun ρ => (f ρ).bind fun s ρ1 => match truS s with
  | some true => g ρ1
  | some false => .ok (s, ρ1)
  | none => .bad
theorem VR.truth {v : V} {s : Slot} {k : Bool} (l : Le G' H') (h : VR K mg P H G' H' σ ρ' v s) (ht : truS s = some k) : TruV K v H' k := by
  cases s with
  | dead => exact h.elim
  | sh d => exact RpR.truth (H := H') l (.inl h) ht
  | ow d => obtain ⟨p, rfl, g, _, o, _⟩ := h; exact RpR.truth (H := H') l (.inr ⟨p, rfl, g, o⟩) ht
theorem sv_or {f g : EV} {rest : List Expr} (ha : PE X a (tV X.K X.mg W f)) (hb : PE X (.BoolOp .Or (b :: rest) pos) (tV X.K X.mg W g)) : PE X (.BoolOp .Or (a :: b :: rest) pos) (tV X.K X.mg W (fOrV f g)) :=
  PE.imp (pe_orT ha hb) fun σ H Q ⟨G, ρ, st, q⟩ => ⟨G, ρ, st, (Pst.bind q).mono fun s ρ1 G1 H1 e st1 o1 k v hv => by
    have k := k e st1 o1
    cases ht : truS s with
    | none => rw [ht] at k; exact k.elim
    | some t =>
      rw [ht] at k
      refine ⟨t, hv.truth st1.le ht, ?_⟩
      cases t with
      | true => exact k G1 H1 (Ext.refl _ _ _) st1 (fun _ z => z) v hv
      | false => exact ⟨G1, ρ1, st1, k.ext (Ext.refl _ _ _) (fun _ z => z) fun s' ρ2 G2 H2 e2 st2 o2 z v hv => z v (hv.weaken (e.back o1))⟩⟩
theorem sv_and {f g : EV} {rest : List Expr} (ha : PE X a (tV X.K X.mg W f)) (hb : PE X (.BoolOp .And (b :: rest) pos) (tV X.K X.mg W g)) : PE X (.BoolOp .And (a :: b :: rest) pos) (tV X.K X.mg W (fAndV f g)) :=
  PE.imp (pe_andT ha hb) fun σ H Q ⟨G, ρ, st, q⟩ => ⟨G, ρ, st, (Pst.bind q).mono fun s ρ1 G1 H1 e st1 o1 k v hv => by
    have k := k e st1 o1
    cases ht : truS s with
    | none => rw [ht] at k; exact k.elim
    | some t =>
      rw [ht] at k
      refine ⟨t, hv.truth st1.le ht, ?_⟩
      cases t with
      | false => exact k G1 H1 (Ext.refl _ _ _) st1 (fun _ z => z) v hv
      | true => exact ⟨G1, ρ1, st1, k.ext (Ext.refl _ _ _) (fun _ z => z) fun s' ρ2 G2 H2 e2 st2 o2 z v hv => z v (hv.weaken (e.back o1))⟩⟩
/-- not x, as a value -/
def fNotV (o : Op) : EV := f1 o fun d => match truD d with
  | some b => shB (!b)
  | none => none
theorem un_not : UnR X (unaryOp .Not) (fun x H Q => ∃ k, TruV X.K x H k ∧ Q (.bl (!k)) H) := by
  intro pins s σ H x v Q I rx ⟨k, hk, q⟩
  refine not_of (thn (tru_ok pins s σ H x v (fun c H2 => c = k ∧ H2 = H) I rx ⟨k, hk, rfl, rfl⟩) fun c s2 ⟨H2, I2, e1, e2⟩ => ?_)
  subst e1 e2
  exact ⟨.bl _, H2, I2, rfl, q⟩
theorem sv_not {o : Op} (ha : PE X a (tO X.K X.mg W o)) : PE X (.UnaryOp .Not a pos) (tV X.K X.mg W (fNotV o)) :=
  PE.imp (pe_un un_not ha) fun _ _ _ h => one_imp (r := fun x H Q => ∃ k, TruV X.K x H k ∧ Q (.bl (!k)) H) (fun G H v d Q s l r e k => by
    cases ht : truD d with
    | none => rw [ht] at e; cases e
    | some b => rw [ht] at e; cases e; exact ⟨b, r.truth l ht, k G H _ (Ext.refl _ _ _) l (.bl _)⟩) h
def negD : Dt → Option Slot
  | .int i => shI (-i)
  | _ => none
theorem sv_neg {o : Op} (ha : PE X a (tO X.K X.mg W o)) : PE X (.UnaryOp .USub a pos) (tV X.K X.mg W (f1 o negD)) :=
  PE.imp (pe_un un_neg ha) fun _ _ _ h => one_imp (r := rU fun i => .int (-i)) (fun G H v d Q s l r e k => by
    cases d with
    | int i => cases e; cases r.int; exact ⟨i, rfl, k G H _ (Ext.refl _ _ _) l (.int _)⟩
    | _ => cases e) h
/-! ### a if c else b -/
def fIfV (t : ET) (f g : EV) : EV := fun ρ => (t ρ).bind fun b ρ1 => if b then f ρ1 else g ρ1
theorem sv_if {t : ET} {f g : EV} (hc : PT X c (tT X.K X.mg W t)) (ha : PE X a (tV X.K X.mg W f)) (hb : PE X b (tV X.K X.mg W g)) : PE X (.IfExp c a b pos) (tV X.K X.mg W (fIfV t f g)) :=
  PE.imp (pe_ifExp hc ha hb) fun σ H Q ⟨G, ρ, st, q⟩ => ⟨G, ρ, st, (Pst.bind q).mono fun b ρ1 G1 H1 e st1 o1 k => by
    have k := k e st1 o1
    cases b with
    | true => exact ⟨G1, ρ1, st1, k.ext (Ext.refl _ _ _) (fun _ z => z) fun s' ρ2 G2 H2 e2 st2 o2 z v hv => z v (hv.weaken (e.back o1))⟩
    | false => exact ⟨G1, ρ1, st1, k.ext (Ext.refl _ _ _) (fun _ z => z) fun s' ρ2 G2 H2 e2 st2 o2 z v hv => z v (hv.weaken (e.back o1))⟩⟩
/-! ### slices -/
def tP (K : PySem.W.Frag) (mg : Str → Option Value) (W : WX) (f : Env → R (Option Int × Env)) : TO := fun σ H Q => ∃ G ρ, Stt K mg G H σ ρ ∧ Pst K mg W (Own σ ρ) G H σ (f ρ) fun i ρ' G' H' => Q i H'
theorem PO.imp {e : Option Expr} {t t' : TO} (h : PO X e t) (i : ∀ σ H Q, t' σ H Q → t σ H Q) : PO X e t' := ⟨fun pins s σ H Q I q => h.run pins s σ H Q I (i σ H Q q)⟩
def fNoP : Env → R (Option Int × Env) := fun ρ => .ok (none, ρ)
def fPart (f : EE) : Env → R (Option Int × Env) := fun ρ => (f ρ).bind fun d ρ1 => match d with
  | .int i => .ok (some i, ρ1)
  | _ => .bad
theorem sp_none : PO X none (tP X.K X.mg W fNoP) := PO.imp po_none fun σ H Q ⟨G, ρ, st, q⟩ => Pst.pure (a := (none : Option Int)) q st
theorem sp_some {f : EE} (h : PE X e (tE X.K X.mg W f)) : PO X (some e) (tP X.K X.mg W (fPart f)) :=
  PO.imp (po_some h) fun σ H Q ⟨G, ρ, st, q⟩ => ⟨G, ρ, st, (Pst.bind q).mono fun d ρ1 G1 H1 e st1 o1 k v hv => by
    have k := k e st1 o1
    cases d with
    | int i => cases hv with | int i => exact ⟨i, rfl, Pst.pure (a := some i) k st1⟩
    | _ => exact k.elim⟩
def fSl (o : Op) (lo hi : Env → R (Option Int × Env)) : EV := fun ρ => (o.run ρ).bind fun a ρ1 => (lo ρ1).bind fun l ρ2 => (hi ρ2).bind fun h ρ3 => match o.res a ρ3 with
  | some d => (match slD d l h with
    | some s => .ok (s, ρ3)
    | none => .bad)
  | none => .bad
theorem sv_slice {o : Op} {lo hi : Option Expr} {fl fh : Env → R (Option Int × Env)} {p2 : Pos} (ho : PE X e (tO X.K X.mg W o)) (hl : PO X lo (tP X.K X.mg W fl)) (hh : PO X hi (tP X.K X.mg W fh)) : PE X (.Subscript e (.Slice lo hi none p2) pos) (tV X.K X.mg W (fSl o fl fh)) :=
  PE.imp (pe_slice (og_sl (mg := X.mg)) ho hl hh) fun σ H Q ⟨G, ρ, st, q⟩ => by
    refine ⟨G, ρ, st, (Pst.bind q).mono fun a ρ1 G1 H1 e1 st1 w1 k1 v hv => ⟨G1, ρ1, st1, (Pst.bind (k1 e1 st1 w1)).mono fun l ρ2 G2 H2 e2 st2 w2 k2 => ⟨G2, ρ2, st2, (Pst.bind (k2 e2 st2 w2)).mono fun h ρ3 G3 H3 e3 st3 w3 k3 => ?_⟩⟩⟩
    have k := k3 e3 st3 w3
    cases r : o.res a ρ3 with
    | none => rw [r] at k; exact k.elim
    | some d =>
      rw [r] at k
      dsimp only at k
      cases hs : slD d l h with
      | none => rw [hs] at k; exact k.elim
      | some s' =>
        rw [hs] at k
        refine ⟨G3, d, s', st3.le, ((hv.sub e2.sub).sub e3.sub).read st3 r, hs, fun G4 H4 v4 x l4 hv4 => ?_⟩
        exact k G4 H4 x.no (st3.ext0 x l4) (fun _ z => z) v4 (((hv4.vr (P := Own σ ρ3) st3).weaken (e3.back w3)).weaken (e2.back w2) |>.weaken (e1.back w1))
end
end E2
end

section
set_option Elab.async false
set_option linter.all false
set_option maxRecDepth 100000
set_option maxHeartbeats 4000000
/-! E19: x[i] = v, a, b = c, d, raise; built-ins' calls. -/
namespace E2
open PySem PySem.Spec PyProof.Rows L2
section
variable {X : Cx} {K : PySem.W.Frag} {mg : Str → Option Value} {G G' H H' : Hp} {P : Addr → Prop} {pins : List (Addr × Obj)} {σ : L2.St} {ρ ρ' : Env} {s : Shared} {W : WX} {A : List Nat} {a b c e : Expr} {pos : Pos}
/-! ### an empty dict may hold keys of either kind -/
theorem retypeT {p : Addr} (I : Inv X pins σ H s) (h : H p = some (.dK [])) : Inv X pins σ (upd H p (.dT [])) s := by
  obtain ⟨z, hd, vs, rel, dd⟩ := dk_of I.hok h
  cases rel
  obtain ⟨o, es, ep, h1, h2, h3, h4, h5, h6⟩ := emp_kt dd
  exact I.write (x := p) (e := p) (t' := s.toks) (h' := s.heap) (by rw [h]; trivial) (.inl rfl) (fun b u _ q => q) ⟨o, h1⟩ ⟨Nat.zero_le _, hd, [], .nil, o, es, ep, h1, h2, h3, h4, h6⟩
theorem retypeK {p : Addr} (I : Inv X pins σ H s) (h : H p = some (.dT [])) : Inv X pins σ (upd H p (.dK [])) s := by
  obtain ⟨z, hd, vs, rel, dd⟩ := dt_of I.hok h
  cases rel
  have dd' := emp_tk dd
  obtain ⟨o, es, ep, h1, _⟩ := id dd'
  exact I.write (x := p) (e := p) (t' := s.toks) (h' := s.heap) (by rw [h]; trivial) (.inl rfl) (fun b u _ q => q) ⟨o, h1⟩ ⟨Nat.zero_le _, hd, [], .nil, dd'⟩
/-! ### x[i] = v, x a slot's own list or dict -/
def dPut (ks vs : List Dt) (k v : Dt) : List Dt × List Dt := match ks, vs with
  | k' :: ks, v' :: vs => if same k' k then (k' :: ks, v :: vs) else ((k' :: (dPut ks vs k v).1), (v' :: (dPut ks vs k v).2))
  | _, _ => ([k], [v])
def setD : Dt → Dt → Dt → Option Dt
  | .lst xs, .int i, v => (ixN xs.length i).map fun j => .lst (xs.set j v)
  | .dct ks vs, k, v => if keyFits ks k && decide (ks.length < 16777216) then some (.dct (dPut ks vs k v).1 (dPut ks vs k v).2) else none
  | _, _, _ => none
def rSetX : TSet := fun o i v H Q => (∃ p xs k j, o = .ref p ∧ i = .int k ∧ H p = some (.lst xs) ∧ ixN xs.length k = some j ∧ Q (upd H p (.lst (xs.set j v)))) ∨
  (∃ p H', o = .ref p ∧ (DPut H p i v H' ∨ (H p = some (.dK []) ∧ DPut (upd H p (.dT [])) p i v H') ∨ (H p = some (.dT []) ∧ DPut (upd H p (.dK [])) p i v H')) ∧ Q H')
theorem set_X (hu : X.A.units + 1 < cLine) : PSet X rSetX := by
  intro pins s σ H o i v ov iv u Q I ro ri rv h
  rcases h with ⟨p, xs, k, j, e1, e2, e3, e4, q⟩ | ⟨p, H', eo, g, q⟩
  · exact set_list pins s σ H o i v ov iv u Q I ro ri rv ⟨p, xs, k, j, e1, e2, e3, e4, q⟩
  · subst eo
    cases (show ov = Value.ref p from ro)
    rcases g with g | ⟨h, g⟩ | ⟨h, g⟩
    · exact d_setItem hu I g ri rv fun s' I' => ⟨H', I', q⟩
    · exact d_setItem hu (retypeT I h) g ri rv fun s' I' => ⟨H', I', q⟩
    · exact d_setItem hu (retypeK I h) g ri rv fun s' I' => ⟨H', I', q⟩
theorem put_nodup {κ : Type} [DecidableEq κ] {kvs : List (κ × V)} (nd : (kvs.map (·.1)).Nodup) (k : κ) (v : V) : ((putK kvs k v).map (·.1)).Nodup := by
  unfold putK
  split
  · have e : ((kvs.map fun kv => if kv.1 = k then (kv.1, v) else kv).map (·.1)) = kvs.map (·.1) := by
      rw [List.map_map]
      refine List.map_congr_left fun p _ => ?_
      show (if p.1 = k then (p.1, v) else p).1 = p.1
      split <;> rfl
    rw [e]; exact nd
  · rename_i h
    rw [List.map_append]
    refine List.nodup_append.mpr ⟨nd, by simp, fun a ha b hb z => ?_⟩
    simp at hb
    obtain ⟨p, hp, rfl⟩ := List.mem_map.mp ha
    exact h (List.any_eq_true.mpr ⟨p, hp, by rw [z, hb]; simp⟩)
theorem put_rp {κ : Type} [DecidableEq κ] (enc : κ → Dt) (inj : ∀ a b, enc a = enc b → a = b) (k : κ) {v : V} {d : Dt} (rv : Rp K mg G v d) : ∀ (kvs : List (κ × V)) (vs : List Dt), (kvs.map (·.1)).Nodup → RpAll K mg G (kvs.map (·.2)) vs →
    (dPut (kvs.map fun p => enc p.1) vs (enc k) d).1 = (putK kvs k v).map (fun p => enc p.1) ∧ RpAll K mg G ((putK kvs k v).map (·.2)) (dPut (kvs.map fun p => enc p.1) vs (enc k) d).2
  | [], _, _, .nil => ⟨rfl, .cons rv .nil⟩
  | p :: kvs, _, nd, .cons (d := d') (ds := ds) h r => by
    have nd' := (List.nodup_cons.mp (by simpa using nd : (p.1 :: kvs.map (·.1)).Nodup))
    by_cases e : p.1 = k
    · have hs : same (enc p.1) (enc k) = true := (same_iff _ _).mpr (by rw [e])
      have hno : ∀ q ∈ kvs, ¬ q.1 = k := fun q hq z => nd'.1 (e ▸ z ▸ List.mem_map_of_mem hq)
      have hp : putK (p :: kvs) k v = (k, v) :: kvs := by
        unfold putK
        rw [if_pos (by simp [e]), List.map_cons, if_pos e]
        congr 1
        · rw [e]
        · conv => rhs; rw [← List.map_id kvs]
          exact List.map_congr_left fun q hq => by simp [hno q hq]
      rw [hp]
      simp only [List.map_cons, dPut, hs, if_true]
      exact ⟨by rw [e], .cons rv r⟩
    · have hs : same (enc p.1) (enc k) = false := by
        cases q : same (enc p.1) (enc k) with
        | false => rfl
        | true => exact absurd (inj _ _ ((same_iff _ _).mp q)) e
      have hp : putK (p :: kvs) k v = p :: putK kvs k v := by
        unfold putK
        simp only [List.any_cons, decide_eq_false e, Bool.false_or, List.map_cons, if_neg e]
        split <;> rfl
      obtain ⟨h1, h2⟩ := put_rp enc inj k rv kvs ds nd'.2 r
      rw [hp]
      simp only [List.map_cons, dPut, hs, Bool.false_eq_true, if_false]
      exact ⟨by rw [h1], .cons h h2⟩
/-- what a slot's object is, with the keys apart -/
theorem set_imp {p : Addr} {d d' dk dv : Dt} {k v : V} {Q : Hp → Prop} (l : Le G H) (gp : G p = none) (ow : OwnP K mg G H p d) (rk : Rp K mg G k dk) (rv : Rp K mg G v dv) (hs : setD d dk dv = some d') (q : ∀ o, OwnP K mg G (upd H p o) p d' → Q (upd H p o)) : rSetX (.ref p) k v H Q := by
  unfold setD at hs
  split at hs
  · rename_i dv xs i
    obtain ⟨j, hj, rfl⟩ := Option.map_eq_some_iff.mp hs
    obtain ⟨ys, hp, r⟩ := ow
    cases rk
    exact .inl ⟨p, ys, i, j, rfl, rfl, hp, by rw [r.length]; exact hj, q _ ⟨_, upd_same, r.set rv j⟩⟩
  · rename_i dk dv ks vs
    split at hs
    · rename_i hc
      cases hs
      have hc := Bool.and_eq_true_iff.mp hc
      have hlt : ks.length < 16777216 := of_decide_eq_true hc.2
      have hk := hc.1
      obtain ⟨xs, hD, r⟩ := ow
      unfold keyFits at hk
      rw [Bool.or_eq_true, Bool.and_eq_true, Bool.and_eq_true] at hk
      have wr : ∀ o o', upd (upd H p o) p o' = upd H p o' := fun o o' => by
        funext a
        by_cases e : a = p
        · subst e; rw [upd_same, upd_same]
        · rw [upd_ne e, upd_ne e, upd_ne e]
      rcases hk with ⟨h1, h2⟩ | ⟨h1, h2⟩
      · obtain ⟨kk, hkk⟩ := Option.isSome_iff_exists.mp h1
        have ed := keyA_iff.mp hkk
        subst ed
        have ey := rp_key rk
        subst ey
        rcases hD with ⟨kvs, hR, rfl, rfl, nd⟩ | ⟨kvs, hR, rfl, rfl, nd⟩
        · cases kvs with
          | nil =>
            cases r
            refine .inr ⟨p, _, rfl, .inr (.inr ⟨hR, DPut.k (kvs := []) upd_same (by rw [sizeLine_eq]; exact Nat.zero_lt_succ _)⟩), ?_⟩
            rw [wr]
            exact q _ ⟨[v], .inr ⟨[(kk, v)], upd_same, rfl, rfl, by simp⟩, .cons rv .nil⟩
          | cons z kvs => simp [E2.keyA] at h2
        · obtain ⟨e1, e2⟩ := put_rp keyD (fun _ _ => keyD_inj) kk rv kvs vs nd r
          refine .inr ⟨p, _, rfl, .inl (DPut.k hR (by rw [sizeLine_eq]; simpa using hlt)), q _ ⟨_, .inr ⟨_, upd_same, e1, rfl, put_nodup nd kk v⟩, e2⟩⟩
      · obtain ⟨kk, hkk⟩ := Option.isSome_iff_exists.mp h1
        have ed := keyT_iff.mp hkk
        subst ed
        obtain ⟨bb, rfl, hb⟩ := RpR.keyT (H := H) l (.inl rk)
        have hbp : bb ≠ p := fun z => by
          subst z
          rcases hD with ⟨kvs, hR, _⟩ | ⟨kvs, hR, _⟩ <;> (rw [hR] at hb; cases hb)
        rcases hD with ⟨kvs, hR, rfl, rfl, nd⟩ | ⟨kvs, hR, rfl, rfl, nd⟩
        · obtain ⟨e1, e2⟩ := put_rp (fun k : List Key => Dt.tup (k.map keyD)) (fun a b e => keyDs_inj (by injection e)) kk rv kvs vs nd r
          exact .inr ⟨p, _, rfl, .inl (DPut.t hR hb (by rw [sizeLine_eq]; simpa using hlt)), q _ ⟨_, .inl ⟨_, upd_same, e1, rfl, put_nodup nd kk v⟩, e2⟩⟩
        · cases kvs with
          | nil =>
            cases r
            refine .inr ⟨p, _, rfl, .inr (.inl ⟨hR, DPut.t (kvs := []) (k := kk) upd_same (by rw [upd_ne hbp]; exact hb) (by rw [sizeLine_eq]; exact Nat.zero_lt_succ _)⟩), ?_⟩
            rw [wr]
            exact q _ ⟨[v], .inl ⟨[(kk, v)], upd_same, rfl, rfl, by simp⟩, .cons rv .nil⟩
          | cons z kvs =>
            have h2 := (Bool.and_eq_true_iff.mp (show (_ && _) = true from h2)).1
            cases hp : z.1 <;> simp [hp, keyD, E2.keyT] at h2
    · cases hs
  · cases hs
end
end E2
end

section
set_option Elab.async false
set_option linter.all false
set_option maxRecDepth 100000
set_option maxHeartbeats 4000000
/-! E20: statements of stores; raise; {}. -/
namespace E2
open PySem PySem.Spec PyProof.Rows L2
section
variable {X : Cx} {K : PySem.W.Frag} {mg : Str → Option Value} {G G' H H' : Hp} {P : Addr → Prop} {pins : List (Addr × Obj)} {σ : L2.St} {ρ ρ' : Env} {s : Shared} {W : WX} {A : List Nat} {a b c e : Expr} {pos : Pos}
/-- x[k] = v, x the slot i -/
def fSet (i : Nat) (fk fv : EE) : SF := fun ρ => sbind (fv ρ) fun v ρ1 => match ρ1[i]? with
  | some (.ow _) => sbind (fk ρ1) fun k ρ2 => (match ρ2[i]? with
    | some (.ow d) => (match setD d k v with
      | some d' => .nxt (ρ2.set i (.ow d'))
      | none => .bad)
    | _ => .bad)
  | _ => .bad
theorem set_stmt {i : Nat} {fk fv : EE} {D : Ends} (h : tS K mg W A (fSet i fk fv) D σ H) : tAsg (tE K mg W fv) (gSub (tVar i) (tE K mg W fk) rSetX) D σ H := by
  obtain ⟨G, ρ, st, q⟩ := h
  have q : SPst K mg W σ A (Own σ ρ) G H (sbind (fv ρ) fun v ρ1 => match ρ1[i]? with
    | some (.ow _) => sbind (fk ρ1) fun k ρ2 => (match ρ2[i]? with
      | some (.ow d) => (match setD d k v with
        | some d' => .nxt (ρ2.set i (.ow d'))
        | none => .bad)
      | _ => .bad)
    | _ => .bad) D := q
  refine ⟨G, ρ, st, q.sbind.mono fun dv ρ1 G1 H1 e st1 o1 k v hv => ?_⟩
  have k := k (aft_expr e st1 o1)
  cases e1 : ρ1[i]? with
  | none => rw [e1] at k; exact k.elim
  | some u =>
    rw [e1] at k
    cases u with
    | dead => exact k.elim
    | sh d => exact k.elim
    | ow d0 =>
      obtain ⟨p, hp, g0, _⟩ := st1.slot i _ e1
      refine ⟨.ref p, hp, G1, ρ1, st1, k.sbind.mono fun dk ρ2 G2 H2 e2 st2 o2 k2 kv hk => ?_⟩
      have k2 := k2 (aft_expr e2 st2 o2)
      cases e3 : ρ2[i]? with
      | none => rw [e3] at k2; exact k2.elim
      | some u2 =>
        rw [e3] at k2
        cases u2 with
        | dead => exact k2.elim
        | sh d => exact k2.elim
        | ow d =>
          dsimp only at k2
          cases hs : setD d dk dv with
          | none => rw [hs] at k2; exact k2.elim
          | some d' =>
            rw [hs] at k2
            obtain ⟨p2, hp2, g2, ow⟩ := st2.slot i _ e3
            rw [hp] at hp2
            cases hp2
            refine set_imp st2.le g2 ow hk (hv.le e2.sub.le) hs fun o ow' => ?_
            have em : Ext (fun a => a = p) G2 H2 G2 (upd H2 p o) := Ext.mutH
            obtain ⟨s3, o3, e4⟩ := st2.mut (d' := d') e3 hp em (st2.le.mutH g2) g2 ow'
            exact k2 _ _ σ ⟨e4, s3, fun q z => .inl (o3 q z), rfl, fun _ _ => rfl⟩
theorem ss_set {i : Nat} {x : Str} {fk fv : EE} {p1 p2 : Pos} (hu : X.A.units + 1 < cLine) (hN : X.N[i]? = some x) (hv : Vis X.env.scope x) (hd : (x == ("__debug__" : Str)) = false) (hcd : (x == ("__classdict__" : Str)) = false) (he : PE X e (tE X.K X.mg W fv)) (hk : PE X c (tE X.K X.mg W fk))
    (hs : swapsWithSole [.Subscript (.Name x p1) c p2] e pos.line X.env = pure false) (hw : swappedStores [.Subscript (.Name x p1) c p2] e X.env = pure none)
    (ha : ∀ v, assign (.Subscript (.Name x p1) c p2) X.env v = (do
      let ov ← holding [v] (eval (.Name x p1) X.env)
      let iv ← holding [v, ov] (eval c X.env)
      standAt p2
      holding [v, ov, iv] (setItem ov iv v)
      release [v, ov, iv] [])) : PS X (.Assign [.Subscript (.Name x p1) c p2] e pos) (tS X.K X.mg W A (fSet i fk fv)) :=
  PS.imp (ps_asg he (pg_sub (pe_var hN hv hd hcd) hk (set_X hu) ha) hs hw rfl) fun D σ H h => set_stmt h
/-! ### target tuples -/
def fAsgT (f : EE) (g : Dt → Env → Option Env) : SF := fun ρ => sbind (f ρ) fun d ρ1 => match g d ρ1 with
  | some ρ2 => .nxt ρ2
  | none => .bad
theorem ss_asgT {tg : Expr} {f : EE} {g : Dt → Env → Option Env} (he : PE X e (tE X.K X.mg W f)) (hg : PG X tg (tG X.K X.mg A g)) (hs : swapsWithSole [tg] e pos.line X.env = pure false) (hw : swappedStores [tg] e X.env = pure none)
    (h1 : (assignEach [tg] X.env).map (·.2) = [assign tg X.env]) : PS X (.Assign [tg] e pos) (tS X.K X.mg W A (fAsgT f g)) :=
  PS.imp (ps_asg he hg hs hw h1) fun D σ H ⟨G, ρ, st, q⟩ => by
    have q : SPst X.K X.mg W σ A (Own σ ρ) G H (sbind (f ρ) fun d ρ1 => match g d ρ1 with
      | some ρ2 => .nxt ρ2
      | none => .bad) D := q
    refine ⟨G, ρ, st, q.sbind.mono fun d ρ1 G1 H1 e st1 o1 k v hv => ?_⟩
    have k := k (aft_expr e st1 o1)
    cases hq : g d ρ1 with
    | none => rw [hq] at k; exact k.elim
    | some ρ2 =>
      rw [hq] at k
      exact ⟨G1, ρ1, d, st1, hv, ρ2, hq, fun σ' s2 o2 l2 s3 => k G1 H1 σ' ⟨Ext.refl _ _ _, s2, fun p z => .inl (o2 p z), l2, s3⟩⟩
/-! ### a, b = c, d -/
theorem Stt.dead2 (st : Stt K mg G H σ ρ) (i : Nat) : ∀ p, Own σ (ρ.set i .dead) p → Own σ ρ p := fun p h => h.of_set_dead
/-- both values at once: no slot is read as owned, so each value stands by itself -/
def fPar (i j : Nat) (f g : EE) : SF := fun ρ => sbind (f ρ) fun d ρ1 => sbind (g ρ1) fun e ρ2 => .nxt ((ρ2.set i (.sh d)).set j (.sh e))
theorem ss_par {i j : Nat} {x y : Str} {f g : EE} {px py pt : Pos} {kt k2 pt2} (hc : X.calm = true) (hN : X.N.Nodup) (hi : X.N[i]? = some x) (hj : X.N[j]? = some y) (hij : i ≠ j)
    (hx : X.env.scope.names.lookup x = some .local) (hy : X.env.scope.names.lookup y = some .local) (ha : PE X a (tE X.K X.mg W f)) (hb : PE X b (tE X.K X.mg W g)) (s1 : starEach [a, b] X.env = (false, eval a X.env) :: starEach [b] X.env) (s2 : starEach [b] X.env = (false, eval b X.env) :: starEach [] X.env)
    (hw : swappedStores [.Tuple [.Name x px, .Name y py] kt pt] (.Tuple [a, b] k2 pt2) X.env = pure (some [x, y])) (iA : i ∈ A) (jA : j ∈ A) :
    PS X (.Assign [.Tuple [.Name x px, .Name y py] kt pt] (.Tuple [a, b] k2 pt2) pos) (tS X.K X.mg W A (fPar i j f g)) :=
  PS.imp (ps_par hc hN hi hj hij hx hy (pa_cons ha (pa_cons hb pa_nil s2) s1) hw rfl) fun D σ H ⟨G, ρ, st, q⟩ => by
    have q : SPst X.K X.mg W σ A (Own σ ρ) G H (sbind (f ρ) fun d ρ1 => sbind (g ρ1) fun e ρ2 => .nxt ((ρ2.set i (.sh d)).set j (.sh e))) D := q
    refine ⟨G, ρ, st, q.sbind.mono fun d ρ1 G1 H1 e1 st1 o1 k v hv => ?_⟩
    have k := k (aft_expr e1 st1 o1)
    refine ⟨G1, ρ1, st1, k.sbind.mono fun e ρ2 G2 H2 e2 st2 o2 k2 w hw => ⟨v, w, rfl, ?_⟩⟩
    have k2 := k2 (aft_expr e2 st2 o2)
    obtain ⟨s3, o3⟩ := st2.putsh (hv.le e2.sub.le) i
    obtain ⟨s4, o4⟩ := s3.putsh hw j
    refine k2 G2 H2 _ ⟨Ext.refl _ _ _, s4, fun p z => .inl (o3 p (o4 p z)), by simp, fun n hn => ?_⟩
    have n1 : j ≠ n := fun z => hn (z ▸ jA)
    have n2 : i ≠ n := fun z => hn (z ▸ iA)
    rw [List.getElem?_set_ne n1, List.getElem?_set_ne n2]
def fPar3 (i j l : Nat) (f g h : EE) : SF := fun ρ => sbind (f ρ) fun d ρ1 => sbind (g ρ1) fun e ρ2 => sbind (h ρ2) fun u ρ3 => .nxt (((ρ3.set i (.sh d)).set j (.sh e)).set l (.sh u))
theorem ss_par3 {i j l : Nat} {x y z : Str} {f g h : EE} {px py pz pt : Pos} {kt k2 pt2} (hc : X.calm = true) (hN : X.N.Nodup) (hi : X.N[i]? = some x) (hj : X.N[j]? = some y) (hl : X.N[l]? = some z) (hij : i ≠ j) (hil : i ≠ l) (hjl : j ≠ l)
    (hx : X.env.scope.names.lookup x = some .local) (hy : X.env.scope.names.lookup y = some .local) (hz : X.env.scope.names.lookup z = some .local) (ha : PE X a (tE X.K X.mg W f)) (hb : PE X b (tE X.K X.mg W g)) (hcc : PE X c (tE X.K X.mg W h))
    (s1 : starEach [a, b, c] X.env = (false, eval a X.env) :: starEach [b, c] X.env) (s2 : starEach [b, c] X.env = (false, eval b X.env) :: starEach [c] X.env) (s3 : starEach [c] X.env = (false, eval c X.env) :: starEach [] X.env)
    (hw : swappedStores [.Tuple [.Name x px, .Name y py, .Name z pz] kt pt] (.Tuple [a, b, c] k2 pt2) X.env = pure (some [x, y, z])) (iA : i ∈ A) (jA : j ∈ A) (lA : l ∈ A) :
    PS X (.Assign [.Tuple [.Name x px, .Name y py, .Name z pz] kt pt] (.Tuple [a, b, c] k2 pt2) pos) (tS X.K X.mg W A (fPar3 i j l f g h)) :=
  PS.imp (ps_par3 hc hN hi hj hl hij hil hjl hx hy hz (pa_cons ha (pa_cons hb (pa_cons hcc pa_nil s3) s2) s1) hw rfl) fun D σ H ⟨G, ρ, st, q⟩ => by
    have q : SPst X.K X.mg W σ A (Own σ ρ) G H (sbind (f ρ) fun d ρ1 => sbind (g ρ1) fun e ρ2 => sbind (h ρ2) fun u ρ3 => .nxt (((ρ3.set i (.sh d)).set j (.sh e)).set l (.sh u))) D := q
    refine ⟨G, ρ, st, q.sbind.mono fun d ρ1 G1 H1 e1 st1 o1 k v hv => ?_⟩
    have k := k (aft_expr e1 st1 o1)
    refine ⟨G1, ρ1, st1, k.sbind.mono fun e ρ2 G2 H2 e2 st2 o2 k2 w hw => ?_⟩
    have k2 := k2 (aft_expr e2 st2 o2)
    refine ⟨G2, ρ2, st2, k2.sbind.mono fun u ρ3 G3 H3 e3 st3 o3 k3 t ht => ⟨v, w, t, rfl, ?_⟩⟩
    have k3 := k3 (aft_expr e3 st3 o3)
    obtain ⟨s3, w3⟩ := st3.putsh ((hv.le e2.sub.le).le e3.sub.le) i
    obtain ⟨s4, w4⟩ := s3.putsh (hw.le e3.sub.le) j
    obtain ⟨s5, w5⟩ := s4.putsh ht l
    refine k3 G3 H3 _ ⟨Ext.refl _ _ _, s5, fun p z => .inl (w3 p (w4 p (w5 p z))), by simp, fun n hn => ?_⟩
    have n1 : j ≠ n := fun z => hn (z ▸ jA)
    have n2 : i ≠ n := fun z => hn (z ▸ iA)
    have n3 : l ≠ n := fun z => hn (z ▸ lA)
    rw [List.getElem?_set_ne n3, List.getElem?_set_ne n1, List.getElem?_set_ne n2]
/-! ### {} -/
def fDct0 : EV := fun ρ => .ok (.ow (.dct [] []), ρ)
theorem sv_dct0 : PE X (.Dict [] [] pos) (tV X.K X.mg W fDct0) := PE.imp pe_dnewK fun σ H Q ⟨G, ρ, st, q⟩ p hp => by
  have gp := le_none st.le hp
  have e2 : Ext No G H G (upd H p (.dK [])) := Ext.newH hp
  refine q _ _ e2.no (st.ext0 e2 (st.le.newH hp)) (fun _ z => z) (.ref p) ⟨p, rfl, gp, fun z => ?_, ⟨[], .inr ⟨[], upd_same, rfl, rfl, by simp⟩, .nil⟩, .inl hp⟩
  obtain ⟨u, hu⟩ := st.own_some z
  rw [hp] at hu; cases hu
/-! ### raise C() -/
structure ExcK (X : Cx) (x : Str) : Prop where
  gl : Gl X x
  ex : ∃ (C : Addr) (bmB : List Value) (B newId initId : String), X.mg x = some (.ref C) ∧ ExcBaseFacts B newId initId bmB ∧ PySem.W.excIn X.K C bmB newId = true ∧ PySem.W.keepIn X.K (.ref C) = true ∧ Raises X (.ref C)
theorem pmk_own0 {C : Addr} {bmB : List Value} {B newId initId : String} {x : Str} {p : Pos} (F : ExcBaseFacts B newId initId bmB) (q : PySem.W.excIn X.K C bmB newId = true) (gC : X.mg x = some (.ref C))
    (kC : PySem.W.keepIn X.K (.ref C) = true) (r : Raises X (.ref C)) (hg : Gl X x) (hdb : (x == ("__debug__" : Str)) = false) : PMk X (.Call (.Name x p) [] [] pos) (fun σ H Q => Q (.ref C) none H) := by
  intro pins s σ H Q I h
  refine wpAny_Call_Name_kw (ld_glob I hg gC ?_ hdb)
  refine PySem.W.callWith_K0 I.kIn kC ?_
  obtain ⟨bm, N, nm, qn, bs, hdct, sn, sub, ab, col, dd, k0, k1, k2, k3, k5, mN, hC, hN, hni, T⟩ := exc_obj I.kIn q
  refine wpAny_call_exc_subT F T hC hN hni (fun h' e hm => ?_) (Nat.zero_le _)
  exact mk_of I hm r h (I.hok.gone hm.new)
def fRaise (x : Str) : SF := fun ρ => .err x [] ρ
theorem ss_raise {x : Str} {p p2 : Pos} (hc : X.calm = true) (tk : Takes X W) (h : ExcK X x) (hdb : (x == ("__debug__" : Str)) = false) : PS X (.Raise (some (.Call (.Name x p) [] [] p2)) none pos) (tS X.K X.mg W A (fRaise x)) := by
  obtain ⟨hg, C, bmB, B, newId, initId, gC, F, q, kC, r⟩ := h
  refine PS.imp (ps_raise hc tk (pmk_own0 F q gC kC r hg hdb)) fun D σ H ⟨G, ρ, st, q⟩ => ?_
  exact q C none G H σ gC (Aft.refl st) rfl
end
end E2
end

section
set_option Elab.async false
set_option linter.all false
set_option maxRecDepth 100000
set_option maxHeartbeats 4000000
/-! E21: built-ins' calls by data. -/
namespace E2
open PySem PySem.Spec PyProof.Rows L2
section
variable {X : Cx} {K : PySem.W.Frag} {mg : Str → Option Value} {G G' H H' : Hp} {P : Addr → Prop} {pins : List (Addr × Obj)} {σ : L2.St} {ρ ρ' : Env} {s : Shared} {W : WX} {A : List Nat} {a b c e : Expr} {pos : Pos}
theorem rrs1 {vs : List V} {d : Dt} (h : RpRs K mg G H vs [d]) : ∃ v, vs = [v] ∧ RpR K mg G H v d := by
  cases h with
  | cons h r => cases r; exact ⟨_, rfl, h⟩
theorem rrs2 {vs : List V} {d e : Dt} (h : RpRs K mg G H vs [d, e]) : ∃ v w, vs = [v, w] ∧ RpR K mg G H v d ∧ RpR K mg G H w e := by
  cases h with
  | cons h r => cases r with
    | cons h2 r => cases r; exact ⟨_, _, rfl, h, h2⟩
def lenD : List Dt → Option Slot
  | [.lst xs] => shI xs.length
  | [.tup xs] => shI xs.length
  | [.str x] => if x.length ≤ 16777216 then shI x.length else none
  | [.dct ks _] => shI ks.length
  | _ => none
theorem cg_len : CallR X (.builtin "len") (rGs X.K mg lenD) := by
  intro pins s σ H xs us Q I r ⟨G, ds, sl, l, h, hg, k⟩
  unfold lenD at hg
  split at hg
  · cases hg
    obtain ⟨v, rfl, h1⟩ := rrs1 h
    obtain ⟨a, ys, rfl, hR, ra⟩ := h1.lst l
    refine call_len_seq pins s σ H _ us Q I r ⟨a, ys, rfl, .inl (.inl hR), ?_⟩
    rw [ra.length]; exact k.pure l (.int _)
  · cases hg
    obtain ⟨v, rfl, h1⟩ := rrs1 h
    obtain ⟨a, ys, rfl, hR, ra, _⟩ := h1.tup l
    refine call_len_seq pins s σ H _ us Q I r ⟨a, ys, rfl, .inr hR, ?_⟩
    rw [ra.length]; exact k.pure l (.int _)
  · split at hg
    · rename_i hz
      cases hg
      obtain ⟨v, rfl, h1⟩ := rrs1 h
      cases h1.str
      exact call_len_str pins s σ H _ us Q I r ⟨_, rfl, by rw [sizeLine_eq]; exact hz, k.pure l (.int _)⟩
    · cases hg
  · cases hg
    obtain ⟨v, rfl, h1⟩ := rrs1 h
    obtain ⟨a, ys, rfl, hD, ra⟩ := h1.dct l
    obtain ⟨u, rfl, rx⟩ := vals1 r
    cases (show u = Value.ref a from rx)
    rcases hD with ⟨kvs, hR, rfl, rfl, _⟩ | ⟨kvs, hR, rfl, rfl, _⟩
    · obtain ⟨z, hd, ws, rel, dd⟩ := dt_rd I.hok hR
      have hl : kvs.length = ws.length := Paired.length rel
      refine call_len_dictH hd dd (by rw [← hl]; rw [sizeLine_eq] at z; omega) ⟨.int _, H, I.tok _, ⟨_, by rw [← hl]⟩, ?_⟩
      rw [List.length_map] at k
      exact k.pure l (.int _)
    · refine d_len I hR fun t s' I' => ⟨.int kvs.length, H, I', ⟨t, rfl⟩, ?_⟩
      rw [List.length_map] at k
      exact k.pure l (.int _)
  · cases hg
def tupleD : List Dt → Option Slot
  | [.lst xs] => some (.sh (.tup xs))
  | [.tup xs] => some (.sh (.tup xs))
  | _ => none
theorem cg_tuple : CallR X (.type "tuple") (rGs X.K mg tupleD) := by
  intro pins s σ H xs us Q I r ⟨G, ds, sl, l, h, hg, k⟩
  unfold tupleD at hg
  split at hg
  · cases hg
    obtain ⟨v, rfl, h1⟩ := rrs1 h
    obtain ⟨a, ys, rfl, hR, ra⟩ := h1.lst l
    exact call_tuple_of pins s σ H _ us Q I r ⟨a, ys, rfl, .inl ⟨.inl hR, k.newT l ra⟩⟩
  · cases hg
    obtain ⟨v, rfl, h1⟩ := rrs1 h
    obtain ⟨a, ys, rfl, hR, ra, w, _⟩ := h1.tup l
    exact call_tuple_of pins s σ H _ us Q I r ⟨a, ys, rfl, .inr ⟨hR, k.pure l w⟩⟩
  · cases hg
def listD : List Dt → Option Slot
  | [.lst xs] => some (.ow (.lst xs))
  | [.tup xs] => some (.ow (.lst xs))
  | _ => none
theorem cg_list : CallR X (.type "list") (rGs X.K mg listD) := by
  intro pins s σ H xs us Q I r ⟨G, ds, sl, l, h, hg, k⟩
  unfold listD at hg
  split at hg
  · cases hg
    obtain ⟨v, rfl, h1⟩ := rrs1 h
    obtain ⟨a, ys, rfl, hR, ra⟩ := h1.lst l
    exact call_list_of pins s σ H _ us Q I r ⟨a, ys, rfl, .inl (.inl hR), k.newL l ra⟩
  · cases hg
    obtain ⟨v, rfl, h1⟩ := rrs1 h
    obtain ⟨a, ys, rfl, hR, ra, w, _⟩ := h1.tup l
    exact call_list_of pins s σ H _ us Q I r ⟨a, ys, rfl, .inr hR, k.newL l ra⟩
  · cases hg
def absD : List Dt → Option Slot
  | [.int i] => shI (if i < 0 then -i else i)
  | _ => none
theorem cg_abs : CallR X (.builtin "abs") (rGs X.K mg absD) := by
  intro pins s σ H xs us Q I r ⟨G, ds, sl, l, h, hg, k⟩
  unfold absD at hg
  split at hg
  · cases hg
    obtain ⟨v, rfl, h1⟩ := rrs1 h
    cases h1.int
    exact call_abs pins s σ H _ us Q I r ⟨_, rfl, k.pure l (.int _)⟩
  · cases hg
def intD : List Dt → Option Slot
  | [.int i] => shI i
  | [.bl b] => shI (if b then 1 else 0)
  | _ => none
theorem cg_int : CallR X (.type "int") (rGs X.K mg intD) := by
  intro pins s σ H xs us Q I r ⟨G, ds, sl, l, h, hg, k⟩
  unfold intD at hg
  split at hg
  · cases hg
    obtain ⟨v, rfl, h1⟩ := rrs1 h
    cases h1.int
    exact call_int1 pins s σ H _ us Q I r (.inl ⟨_, rfl, k.pure l (.int _)⟩)
  · cases hg
    obtain ⟨v, rfl, h1⟩ := rrs1 h
    cases h1.bl
    exact call_int1 pins s σ H _ us Q I r (.inr ⟨_, rfl, k.pure l (.int _)⟩)
  · cases hg
def strD : List Dt → Option Slot
  | [.int i] => if i.natAbs.log2 < 1920 then some (.sh (.str (toString i))) else none
  | _ => none
theorem cg_str : CallR X (.type "str") (rGs X.K mg strD) := by
  intro pins s σ H xs us Q I r ⟨G, ds, sl, l, h, hg, k⟩
  unfold strD at hg
  split at hg
  · split at hg
    · rename_i hz
      cases hg
      obtain ⟨v, rfl, h1⟩ := rrs1 h
      cases h1.int
      exact call_str_int pins s σ H _ us Q I r ⟨_, rfl, hz, k.pure l (.str _)⟩
    · cases hg
  · cases hg
def boolsD : List Dt → Option (List Bool)
  | [] => some []
  | .bl b :: ds => (boolsD ds).map (b :: ·)
  | _ :: _ => none
def intsD : List Dt → Option (List Int)
  | [] => some []
  | .int b :: ds => (intsD ds).map (b :: ·)
  | _ :: _ => none
theorem rp_bools : ∀ {vs : List V} {ds : List Dt} {bs : List Bool}, RpAll K mg G vs ds → boolsD ds = some bs → vs = bs.map V.bl
  | _, [], _, .nil, h => by cases h; rfl
  | v :: vs, d :: ds, bs, .cons h r, e => by
    cases d with
    | bl b =>
      obtain ⟨bs', e', rfl⟩ := Option.map_eq_some_iff.mp (show (boolsD ds).map (b :: ·) = some bs from e)
      cases h
      rw [rp_bools r e']; rfl
    | _ => cases e
theorem rp_ints : ∀ {vs : List V} {ds : List Dt} {bs : List Int}, RpAll K mg G vs ds → intsD ds = some bs → vs = bs.map V.int
  | _, [], _, .nil, h => by cases h; rfl
  | v :: vs, d :: ds, bs, .cons h r, e => by
    cases d with
    | int b =>
      obtain ⟨bs', e', rfl⟩ := Option.map_eq_some_iff.mp (show (intsD ds).map (b :: ·) = some bs from e)
      cases h
      rw [rp_ints r e']; rfl
    | _ => cases e
def allD : List Dt → Option Slot
  | [.lst ds] => match boolsD ds with
    | some bs => shB (bs.all id)
    | none => none
  | _ => none
def anyD : List Dt → Option Slot
  | [.lst ds] => match boolsD ds with
    | some bs => shB (bs.any id)
    | none => none
  | _ => none
def sumD : List Dt → Option Slot
  | [.lst ds] => match intsD ds with
    | some bs => shI bs.sum
    | none => none
  | _ => none
theorem cg_all (hc : X.calm = true) : CallR X (.builtin "all") (rGs X.K mg allD) := by
  intro pins s σ H xs us Q I r ⟨G, ds, sl, l, h, hg, k⟩
  unfold allD at hg
  split at hg
  · split at hg
    · rename_i bs hb
      cases hg
      obtain ⟨v, rfl, h1⟩ := rrs1 h
      obtain ⟨a, ys, rfl, hR, ra⟩ := h1.lst l
      rw [rp_bools ra hb] at hR
      exact cr_all hc pins s σ H _ us Q I r ⟨a, bs, rfl, .inl hR, k.pure l (.bl _)⟩
    · cases hg
  · cases hg
theorem cg_any (hc : X.calm = true) : CallR X (.builtin "any") (rGs X.K mg anyD) := by
  intro pins s σ H xs us Q I r ⟨G, ds, sl, l, h, hg, k⟩
  unfold anyD at hg
  split at hg
  · split at hg
    · rename_i bs hb
      cases hg
      obtain ⟨v, rfl, h1⟩ := rrs1 h
      obtain ⟨a, ys, rfl, hR, ra⟩ := h1.lst l
      rw [rp_bools ra hb] at hR
      exact cr_any hc pins s σ H _ us Q I r ⟨a, bs, rfl, .inl hR, k.pure l (.bl _)⟩
    · cases hg
  · cases hg
theorem cg_sum (hc : X.calm = true) : CallR X (.builtin "sum") (rGs X.K mg sumD) := by
  intro pins s σ H xs us Q I r ⟨G, ds, sl, l, h, hg, k⟩
  unfold sumD at hg
  split at hg
  · split at hg
    · rename_i bs hb
      cases hg
      obtain ⟨v, rfl, h1⟩ := rrs1 h
      obtain ⟨a, ys, rfl, hR, ra⟩ := h1.lst l
      rw [rp_ints ra hb] at hR
      exact cr_sum hc pins s σ H _ us Q I r ⟨a, bs, rfl, .inl hR, k.pure l (.int _)⟩
    · cases hg
  · cases hg
/-- the call of a built-in function or type that is told by a function of data -/
theorem sv_bltn {id : String} {g : List Dt → Option Slot} {x : Str} {p : Pos} {es : List Expr} {os : List Op} (hr : CallR X (.builtin id) (rGs X.K X.mg g)) (hf : Fr X x) (hv : bootBuiltins x = some (.builtin id)) (hn : x ≠ "__name__") (hdb : (x == ("__debug__" : Str)) = false)
    (ha : PA X (e :: es) (tOs X.K X.mg W os)) (he : starEach (e :: es) X.env = (false, eval e X.env) :: starEach es X.env) (hpl : (backTo pos (starEach es X.env)).any (·.1) = false) : PE X (.Call (.Name x p) (e :: es) [] pos) (tV X.K X.mg W (fB os g)) :=
  PE.imp (pe_callB hr hf.gl hf.mg hv ha hn hdb he hpl) fun _ _ _ h => args_imp (rGs_ok g) h
theorem sv_type {T : String} {g : List Dt → Option Slot} {x : Str} {p : Pos} {es : List Expr} {os : List Op} (hr : CallR X (.type T) (rGs X.K X.mg g)) (hf : Fr X x) (hv : bootBuiltins x = some (.type T)) (hn : x ≠ "__name__") (hdb : (x == ("__debug__" : Str)) = false)
    (ha : PA X (e :: es) (tOs X.K X.mg W os)) (he : starEach (e :: es) X.env = (false, eval e X.env) :: starEach es X.env) (hpl : (backTo pos (starEach es X.env)).any (·.1) = false) : PE X (.Call (.Name x p) (e :: es) [] pos) (tV X.K X.mg W (fB os g)) :=
  PE.imp (pe_callTy hr hf.gl hf.mg hv ha hn hdb he hpl) fun _ _ _ h => args_imp (rGs_ok g) h
end
end E2
end

section
set_option Elab.async false
set_option linter.all false
set_option maxRecDepth 100000
set_option maxHeartbeats 4000000
/-! E28: sorted, of lists and of dicts' keys. -/
namespace E2
open PySem PySem.Spec PyProof.Rows L2
open PySem.W (AllAlike Sortable EachIs dataLe)
def leP (d e : Dt) : Bool := !PySem.W.dataLt (py e) (py d)
/-- merge and sort by a fuel: the kernel reckons them -/
def mgF {α : Type} (le : α → α → Bool) : Nat → List α → List α → List α
  | k + 1, x :: xs, y :: ys => if le x y then x :: mgF le k xs (y :: ys) else y :: mgF le k (x :: xs) ys
  | _, [], ys => ys
  | _, xs, _ => xs
theorem mgF_eq {α : Type} (le : α → α → Bool) : ∀ (k : Nat) (xs ys : List α), xs.length + ys.length ≤ k → mgF le k xs ys = xs.merge ys le
  | 0, [], ys, _ => by simp [mgF]
  | 0, _ :: _, _, h => by simp at h
  | k + 1, [], ys, _ => by simp [mgF]
  | k + 1, x :: xs, [], _ => by simp [mgF]
  | k + 1, x :: xs, y :: ys, h => by
    simp only [List.length_cons] at h
    rw [List.cons_merge_cons]
    show (if le x y then x :: mgF le k xs (y :: ys) else y :: mgF le k (x :: xs) ys) = _
    rw [mgF_eq le k xs (y :: ys) (by simp; omega), mgF_eq le k (x :: xs) ys (by simp; omega)]
def msF {α : Type} (le : α → α → Bool) : Nat → List α → List α
  | k + 1, a :: b :: xs => mgF le (xs.length + 2) (msF le k ((a :: b :: xs).take ((xs.length + 3) / 2))) (msF le k ((a :: b :: xs).drop ((xs.length + 3) / 2)))
  | _, l => l
theorem msF_eq {α : Type} (le : α → α → Bool) : ∀ (k : Nat) (l : List α), l.length ≤ k → msF le k l = l.mergeSort le
  | 0, [], _ => by simp [msF]
  | 0, _ :: _, h => by simp at h
  | k + 1, [], _ => by simp [msF]
  | k + 1, [a], _ => by simp [msF]
  | k + 1, a :: b :: xs, h => by
    simp only [List.length_cons] at h
    have h1 : ((a :: b :: xs).take ((xs.length + 3) / 2)).length ≤ k := by rw [List.length_take]; simp; omega
    have h2 : ((a :: b :: xs).drop ((xs.length + 3) / 2)).length ≤ k := by rw [List.length_drop]; simp; omega
    show mgF le (xs.length + 2) (msF le k _) (msF le k _) = _
    rw [msF_eq le k _ h1, msF_eq le k _ h2, mgF_eq le _ _ _ (by rw [List.length_mergeSort, List.length_mergeSort, List.length_take, List.length_drop]; simp; omega), List.mergeSort]
    simp only [List.MergeSort.Internal.splitInTwo, List.splitAt_eq, List.length_cons]
def sortD (ds : List Dt) : List Dt := msF leP ds.length ds
theorem sortD_ms (ds : List Dt) : sortD ds = ds.mergeSort leP := msF_eq leP _ _ (Nat.le_refl _)
def tupNE : Dt → Bool
  | .tup (_ :: _) => true
  | _ => false
def noTup : Dt → Bool
  | .non => false
  | .tup _ => false
  | .dct _ _ => false
  | .fn _ => false
  | _ => true
def sortOk (ds : List Dt) : Bool := flatAll 58 ds && (ds.all fun d => ds.all fun e => PySem.W.alike (py d) (py e)) && (ds.all tupNE || ds.all noTup)
section
variable {X : Cx} {K : PySem.W.Frag} {mg : Str → Option Value} {G G' H H' : Hp} {pins : List (Addr × Obj)} {σ : L2.St} {ρ : Env} {s : Shared} {W : WX}
theorem each_zip {R : Value → V × Dt → Prop} (hR : ∀ u v d, RelV v u → Rp K mg G v d → R u (v, d)) : ∀ {xs : List V} {us : List Value} {ds : List Dt}, Vals xs us → RpAll K mg G xs ds → EachIs R us (xs.zip ds)
  | _, _, _, .nil, .nil => .nil
  | _, _, _, .cons r t, .cons h q => .cons (hR _ _ _ r h) (each_zip hR t q)
theorem each_un : ∀ {us : List Value} {bs : List (V × Dt)}, EachIs (fun u b => RelV b.1 u ∧ Rp K mg G b.1 b.2) us bs → Vals (bs.map (·.1)) us ∧ RpAll K mg G (bs.map (·.1)) (bs.map (·.2))
  | _, _, .nil => ⟨.nil, .nil⟩
  | _, _, .cons h t => let ⟨a, b⟩ := each_un t; ⟨.cons h.1 a, .cons h.2 b⟩
theorem zip_snd : ∀ {xs : List V} {ds : List Dt}, RpAll K mg G xs ds → (xs.zip ds).map (·.2) = ds
  | _, _, .nil => rfl
  | _, _, .cons h t => by rw [List.zip_cons_cons, List.map_cons, zip_snd t]
theorem flatAll_mem {n : Nat} : ∀ {ds : List Dt} {d : Dt}, flatAll n ds = true → d ∈ ds → flat n d = true
  | [], _, _, h => by cases h
  | x :: xs, d, h, hm => by
    have h := Bool.and_eq_true_iff.mp (show (flat n x && flatAll n xs) = true by simpa [flatAll] using h)
    rcases List.mem_cons.mp hm with rfl | hm
    · exact h.1
    · exact flatAll_mem h.2 hm
theorem zip_rp : ∀ {xs : List V} {ds : List Dt}, RpAll K mg G xs ds → ∀ b ∈ xs.zip ds, Rp K mg G b.1 b.2
  | _, _, .nil, b, h => by cases h
  | _, _, .cons h t, b, hm => by
    rcases List.mem_cons.mp hm with rfl | hm
    · exact h
    · exact zip_rp t b hm
mutual
theorem reads_lt {h : Heap} : ∀ (d : PyData) (v : Value) (as : List Addr), Reads h v d as → d.plain = true → ∀ a ∈ as, a < h.objs.size
  | .none, _, _, .none, _ => fun a ha => by cases ha
  | .bool _, _, _, .bool _, _ => fun a ha => by cases ha
  | .int _, _, _, .int _ _, _ => fun a ha => by cases ha
  | .str _, _, _, .str _ _, _ => fun a ha => by cases ha
  | .list xs, _, _, .list h1 _ _ h4, hp => fun a ha => by
    rcases List.mem_cons.mp ha with rfl | ha
    · exact Heap.lt_size h1
    · exact readsAll_lt xs _ _ h4 (by simpa [PyData.plain] using hp) a ha
  | .tuple xs, _, _, .tuple h1 _ _ h4, hp => fun a ha => readsAll_lt xs _ _ h4 (by simpa [PyData.plain] using hp) a ha
  | .dict _, _, _, _, hp => by simp [PyData.plain] at hp
theorem readsAll_lt {h : Heap} : ∀ (ds : List PyData) (vs : List Value) (as : List Addr), ReadsAll h vs ds as → PyData.plainAll ds = true → ∀ a ∈ as, a < h.objs.size
  | [], _, _, .nil, _ => fun a ha => by cases ha
  | d :: ds, _, _, .cons h1 h2, hp => fun a ha => by
    have hp : d.plain = true ∧ PyData.plainAll ds = true := by simpa [PyData.plainAll] using hp
    rcases List.mem_append.mp ha with ha | ha
    · exact reads_lt d _ _ h1 hp.1 a ha
    · exact readsAll_lt ds _ _ h2 hp.2 a ha
end
/-- behind the collecting: the items us in a state with a heap that has grown -/
theorem sorted_tail {u : Value} {E : Value → Shared → Prop} {Q : VK} {res : List Dt} (hu : X.A.units + 70 < cLine) (l : Le G H)
    (hcol : ∀ Q' : List Value → Shared → Prop, (∀ (s1 : Shared) (us : List Value) (xs : List V) (ds : List Dt), Inv X pins σ H s1 → Vals xs us → RpAll X.K mg G xs ds → sortOk ds = true → xs.length ≤ sizeLine → sortD ds = res → Q' us s1) → wpAny (model X.prog X.w) X.A.in1 (collect u) Q' E s)
    (hQ : ∀ xs' p, RpAll X.K mg G xs' res → H p = none → Q (.ref p) (upd H p (.lst xs'))) : wpAny (model X.prog X.w) X.A (call (.builtin "sorted") [u]) (EP X pins σ Q) E s := by
  refine Calls.call_function_entry PyProof.Rows.kind_sorted PyProof.Rows.plain_sorted PyProof.Rows.entry_sorted (PyProof.Rows.args_sorted1 _) ?_
  unfold Builtin.«sorted»
  refine wpAny_bind (m := checkCount "sorted" 1 1 _) (wpAny_pure ?_)
  refine wpAny_bind (hcol _ fun s1 us xs ds I1 rv ra hs hz hres => ?_)
  unfold sortOk at hs
  simp only [Bool.and_eq_true, Bool.or_eq_true, List.all_eq_true] at hs
  obtain ⟨⟨hf, hal⟩, hk⟩ := hs
  have hul : us.length = xs.length := rv.length.symm
  refine wpAny_bind (wpAny_newList ?_ (by rw [hul]; exact hz))
  have hoL : (s1.heap.push (seqObj "list" us.toArray 0)).get? s1.heap.objs.size = some (seqObj "list" us.toArray 0) := Heap.get?_push_size _ rfl
  have I2 : Inv X pins σ H { s1 with heap := s1.heap.push (seqObj "list" us.toArray 0), toks := s1.toks } := I1.kept (t' := s1.toks) fun b o e => Heap.get?_push_of_some _ e
  show wpAny _ _ _ _ _ { s1 with heap := s1.heap.push (seqObj "list" us.toArray 0), toks := s1.toks }
  have e1 : EachIs (fun u b => RelV b.1 u ∧ Rp X.K mg G b.1 b.2) us (xs.zip ds) := each_zip (fun _ _ _ a b => ⟨a, b⟩) rv ra
  have hmem : ∀ b ∈ xs.zip ds, b.2 ∈ ds := fun b hb => (List.of_mem_zip hb).2
  have old : ∀ {v : Value} {d : PyData} {as : List Addr}, Reads s1.heap v d as → d.plain = true → s1.heap.objs.size ∉ as := fun {v d as} r hp z => by
    exact absurd (reads_lt d v as r hp _ z) (Nat.lt_irrefl _)
  have e2 : EachIs (fun v b => ∃ as, Reads (s1.heap.push (seqObj "list" us.toArray 0)) v (py b.2) as ∧ s1.heap.objs.size ∉ as) us (xs.zip ds) := by
    have e3 : EachIs (fun u b => RelV b.1 u ∧ Rp X.K mg G b.1 b.2 ∧ flat 58 b.2 = true) us (xs.zip ds) := by
      have := each_zip (R := fun u b => RelV b.1 u ∧ Rp X.K mg G b.1 b.2) (fun _ _ _ a b => ⟨a, b⟩) rv ra
      exact (PySem.W.each_mem this).mono fun v b ⟨h, hb⟩ => ⟨h.1, h.2, flatAll_mem hf (hmem b hb)⟩
    refine e3.mono fun v b ⟨h1, h2, h3⟩ => ?_
    obtain ⟨as, r⟩ := Dp.reads I1 _ b.1 v (h2.dp l 58 h3) h1
    exact ⟨as, PyProof.Rows.Reads.keeps (fun _ _ q => Heap.get?_push_of_some _ q) r, old r (flat_py 58 b.2 h3).1⟩
  refine wpAny_bind (wpAny_holding (PySem.W.list_sort_data (s := { s1 with heap := s1.heap.push (seqObj "list" us.toArray 0), toks := s1.toks }) hoL e1 e2 ?_ ?_ ?_ ?_ fun out hol hout => ?_))
  · intro d hd d' hd'
    obtain ⟨b, hb, rfl⟩ := List.mem_map.mp hd
    obtain ⟨b', hb', rfl⟩ := List.mem_map.mp hd'
    exact hal _ (hmem b hb) _ (hmem b' hb')
  · rcases hk with hk | hk
    · refine .inl fun d hd => ?_
      obtain ⟨b, hb, rfl⟩ := List.mem_map.mp hd
      have := hk _ (hmem b hb)
      cases hd2 : b.2 with
      | tup ys =>
        rw [hd2] at this
        cases ys with
        | nil => cases this
        | cons y ys => exact ⟨py y, pyAll ys, by simp [py, pyAll]⟩
      | _ => rw [hd2] at this; cases this
    · refine .inr fun d hd => ?_
      obtain ⟨b, hb, rfl⟩ := List.mem_map.mp hd
      have := hk _ (hmem b hb)
      cases hd2 : b.2 <;> rw [hd2] at this <;> first | (cases this; done) | (simp [py])
  · rw [List.length_zip, ra.length]
    have := ra.length
    omega
  · intro b hb
    have h3 := (flat_py 58 b.2 (flatAll_mem hf (hmem b hb))).2
    show X.A.in1.units + 1 + _ < cLine
    show X.A.units + 1 + 1 + _ < cLine
    omega
  · obtain ⟨r1, r2⟩ := each_un hout
    have hsnd : ((xs.zip ds).mergeSort (dataLe false fun b => py b.2)).map (·.2) = sortD ds := by
      rw [sortD_ms, List.map_mergeSort (r := dataLe false fun b : V × Dt => py b.2) (s := leP) (f := fun b : V × Dt => b.2) (fun a _ b _ => by rw [PySem.W.dataLe_eq]; rfl), zip_snd ra]
    rw [hsnd, hres] at r2
    obtain ⟨ep, he⟩ := PyProof.Rows.sortedHeap_at (vs := us) (out := out.toArray) hoL
    have hlen : (((xs.zip ds).mergeSort (dataLe false fun b => py b.2)).map (·.1)).length ≤ sizeLine := by
      rw [List.length_map, List.length_mergeSort, List.length_zip]
      omega
    refine wpAny_pure ⟨_, rfl, .ref s1.heap.objs.size, upd H s1.heap.objs.size (.lst _), I1.laid (t' := s1.toks) (fun b u e => ?_) (Nat.le_refl _) (show ObjOk X.prog X.w _ _ _ (.lst _) from ⟨hlen, out, ep, r1, he⟩), rfl, hQ _ _ r2 (I1.hok.fresh (Nat.le_refl _))⟩
    have hb : b < s1.heap.objs.size := Heap.lt_size e
    rw [PyProof.Rows.sortedHeap_old (Nat.ne_of_lt hb) (by rw [size_push']; exact Nat.lt_succ_of_lt hb)]
    exact Heap.get?_push_of_some _ e
end
end E2
end

section
set_option Elab.async false
set_option linter.all false
set_option maxRecDepth 100000
set_option maxHeartbeats 4000000
/-! E29: the keys of a dict collected; sorted as a built-in; list(d). -/
namespace E2
open PySem PySem.Spec PyProof.Rows L2
section
variable {X : Cx} {K : PySem.W.Frag} {mg : Str → Option Value} {G G' H H' : Hp} {pins : List (Addr × Obj)} {σ : L2.St} {ρ : Env} {s : Shared} {W : WX}
theorem keys_in {bs : List Addr} : ∀ {kvs : List (List Key × V)} {cs : List Addr}, IsKeys H kvs cs → (∀ b ∈ cs, b ∈ bs) → RpAll K mg (addG G H bs) (cs.map V.ref) (kvs.map fun p => .tup (p.1.map keyD))
  | [], _, .nil, _ => .nil
  | p :: kvs, _, .cons (b := b) h t, hb => by
    refine .cons (.tup (xs := p.1.map kV) ?_ ?_) (keys_in t fun c hc => hb c (List.mem_cons_of_mem _ hc))
    · unfold addG
      rw [if_pos (hb b List.mem_cons_self)]
      exact h
    · have : ∀ ks : List Key, RpAll K mg (addG G H bs) (ks.map kV) (ks.map keyD) := fun ks => by
        induction ks with
        | nil => exact .nil
        | cons k ks ih =>
          refine .cons ?_ ih
          cases k
          · exact .int _
          · exact .str _
      exact this p.1
theorem acc_keys {P : Program} {w : World} {es : Array DictEntry} {ks : List (List Key × Addr × Value)} {acc : Array Value} (he : es.toList = ks.map (entryOfKey (tupleKind (mixKind P w)))) (hl : acc.size = es.size)
    (it : ∀ (j : Nat) (v : Value), acc[j]? = some v → ∃ en : DictEntry, es[j]? = some en ∧ v = en.key) : acc.toList = (ks.map fun x => x.2.1).map Value.ref := by
  have hk : es.size = ks.length := size_of_entries he
  refine List.ext_getElem (by simp; omega) fun j h1 h2 => ?_
  have hj : j < ks.length := by simpa using h2
  obtain ⟨en, e1, e2⟩ := it j acc.toList[j] (by simp at h1; simp [h1])
  have := entry_at he j
  rw [e1, List.getElem?_eq_getElem hj] at this
  have e3 : en = entryOfKey (tupleKind (mixKind P w)) ks[j] := by simpa using this
  rw [e2, e3]
  simp [entryOfKey]
theorem collect_dct {a : Addr} {ks : List Dt} {xs : List V} (hc : X.calm = true) (I : Inv X pins σ H s) (l : Le G H) (h : DcA (Rd H a) ks xs) : ∃ (ys : List V) (G' : Hp), Ext No G H G' H ∧ Le G' H ∧ RpAll X.K mg G' ys ks ∧ ys.length ≤ sizeLine ∧
    ∀ (E : Value → Shared → Prop) (Q' : List Value → Shared → Prop), (∀ (h' : Heap) (tk : Nat) (us : List Value), (∀ b o, s.heap.get? b = some o → h'.get? b = some o) → Vals ys us → Q' us { s with heap := h', toks := tk }) → wpAny (model X.prog X.w) X.A.in1 (collect (.ref a)) Q' E s := by
  rcases h with ⟨kvs, hR, rfl, rfl, nd⟩ | ⟨kvs, hR, rfl, rfl, nd⟩
  · obtain ⟨z, lo, cs, pr, o, es, ep, ho, hx, hdt, he, hn⟩ := (show ObjOk X.prog X.w H s.heap a (.dT kvs) from hR.ok I.hok)
    have l1 : es.size = cs.length := size_of_entries he
    have l2 : kvs.length = cs.length := Paired.length pr
    have hk := isKeys_of pr
    have hb : ∀ b ∈ cs.map (fun x => x.2.1), ∃ xs, H b = some (.tup xs) := fun b hm => by
      obtain ⟨x, hx, rfl⟩ := List.mem_map.mp hm
      have : ∀ {kvs : List (List Key × V)} {cs : List (List Key × Addr × Value)}, KT H kvs cs → ∀ x ∈ cs, ∃ xs, H x.2.1 = some (.tup xs) := fun {kvs cs} r => by
        induction r with
        | nil => exact fun x h => by cases h
        | cons h t ih =>
          intro x hx
          rcases List.mem_cons.mp hx with rfl | hx
          · exact ⟨_, h.2.1⟩
          · exact ih x hx
      exact this pr x hx
    obtain ⟨e1, e2⟩ := addG_ok l hb
    refine ⟨(cs.map fun x => x.2.1).map V.ref, addG G H (cs.map fun x => x.2.1), e1, e2, keys_in hk fun _ h => h, by rw [List.length_map, List.length_map]; omega, fun E Q' hQ => ?_⟩
    refine PySem.W.kdu_collect (A := X.A.in1) (kdl_raw lo hx hdt) (I.ok.hd hc) ho (by omega) fun h' tk acc kp it => hQ h' tk _ kp ?_
    rw [acc_keys he it.1 it.2]
    exact vals_refs _
  · obtain ⟨z, lo, vs, rel, dd⟩ := dk_rd I.hok hR
    obtain ⟨ep, hat⟩ := dd.dictAt
    have ek : (kvs.map fun p => keyD p.1) = (vs.map (·.1)).map keyD := by rw [← rel.keys, List.map_map]; rfl
    refine ⟨(vs.map (·.1)).map kV, G, Ext.refl _ _ _, l, by rw [ek]; exact keyV_all G _, by rw [List.length_map, List.length_map, ← rel.length]; exact z, fun E Q' hQ => ?_⟩
    refine PySem.W.kdu_collect (A := X.A.in1) (PySem.W.kdl_dict (knd := mixKind X.prog X.w) (kvs := vs) (ep := ep) lo) (I.ok.hd hc) hat (by rw [← rel.length]; exact z) fun h' tk acc kp it => hQ h' tk _ kp ?_
    have := keys_at (us := acc.toList) (vs := vs) (by rw [Array.length_toList, it.1]) fun j v e => it.2 j v (by rw [← Array.getElem?_toList]; exact e)
    rw [List.map_map]
    exact this
def sortedD : List Dt → Option Slot
  | [.lst ds] => if sortOk ds then some (.ow (.lst (sortD ds))) else none
  | [.dct ks _] => if sortOk ks then some (.ow (.lst (sortD ks))) else none
  | _ => none
theorem cg_sorted (hc : X.calm = true) (hu : X.A.units + 70 < cLine) : CallR X (.builtin "sorted") (rGs X.K mg sortedD) := by
  intro pins s σ H xs us Q I r ⟨G, ds, sl, l, h, hg, k⟩
  unfold sortedD at hg
  split at hg
  · split at hg
    · rename_i ds hs
      cases hg
      obtain ⟨v, rfl, h1⟩ := rrs1 h
      obtain ⟨a, ys, rfl, hR, ra⟩ := h1.lst l
      obtain ⟨u, rfl, rx⟩ := vals1 r
      cases (show u = Value.ref a from rx)
      obtain ⟨hz, its, n, rv, hl, ho⟩ := lstR I hR
      refine sorted_tail hu l (fun Q' hQ' => ?_) fun xs' p rp hp => k.newL l rp p hp
      exact PyProof.Rows.collect_list (s := s) (l := a) (vs := its) ⟨_, ho, rfl, n, rfl⟩ (hQ' _ its _ _ (I.kept (t' := s.toks) fun b o e => by
        have hlt : b < s.heap.objs.size := Heap.lt_size e
        rw [Heap.get?_update_ne _ _ _ _ (Nat.ne_of_lt hlt)]
        exact Heap.get?_push_of_some _ e) rv ra hs hz rfl) (by rw [← hl]; exact hz)
    · cases hg
  · split at hg
    · rename_i ks vs hs
      cases hg
      obtain ⟨v, rfl, h1⟩ := rrs1 h
      obtain ⟨a, ys, rfl, hD, ra⟩ := h1.dct l
      obtain ⟨u, rfl, rx⟩ := vals1 r
      cases (show u = Value.ref a from rx)
      obtain ⟨zs, G', e', l', rz, hz, hcol⟩ := collect_dct (mg := mg) hc I l hD
      refine sorted_tail hu l' (fun Q' hQ' => hcol _ Q' fun h' tk us kp rv => hQ' _ us _ _ (I.kept (t' := tk) kp) rv rz hs hz rfl) fun xs' p rp hp => ?_
      have e2 : Ext No G' H G' (upd H p (.lst xs')) := Ext.newH hp
      exact k G' _ _ (e'.trans e2 fun p z => .inl z) (l'.newH hp) ⟨p, rfl, le_none l' hp, ⟨xs', upd_same, rp⟩, hp⟩
    · cases hg
  · cases hg
end
end E2
end

section
set_option Elab.async false
set_option linter.all false
set_option maxRecDepth 100000
set_option maxHeartbeats 4000000
/-! E30: dict(pairs). -/
namespace E2
open PySem PySem.Spec PyProof.Rows L2
/-- the pairs of a list -/
def pairsD : List Dt → Option (List (Dt × Dt))
  | [] => some []
  | .tup [k, v] :: ds => (pairsD ds).map ((k, v) :: ·)
  | _ :: _ => none
def dictOf (ps : List (Dt × Dt)) : List Dt × List Dt := ps.foldl (fun z p => dPut z.1 z.2 p.1 p.2) ([], [])
/-- the hash of a tuple of ints, as the model reckons it -/
def hashK (ks : List Int) : Int := reduceHash (Builtin.Tuple.tupleHashOf (ks.map hashInt))
def intsOf : List Dt → Option (List Int)
  | [] => some []
  | .int i :: ds => (intsOf ds).map (i :: ·)
  | _ :: _ => none
def tupInts : Dt → Option (List Int)
  | .tup ds => intsOf ds
  | _ => none
def allInts : List Dt → Option (List (List Int))
  | [] => some []
  | d :: ds => match tupInts d, allInts ds with
    | some k, some ks => some (k :: ks)
    | _, _ => none
/-- a dict may be copied: its keys are tuples of ints, their hashes apart -/
def copyOk (ks : List Dt) : Bool := match allInts ks with
  | some is => decide ((is.map hashK).Nodup)
  | none => false
def dictD : List Dt → Option Slot
  | [.dct ks vs] => if copyOk ks then some (.ow (.dct ks vs)) else none
  | [.lst ds] => match pairsD ds with
    | some ps => if (ps.all fun p => (keyA p.1).isSome) || (ps.all fun p => (keyT p.1).isSome) then some (.ow (.dct (dictOf ps).1 (dictOf ps).2)) else none
    | none => none
  | _ => none
section
variable {X : Cx} {K : PySem.W.Frag} {mg : Str → Option Value} {G G' H H' : Hp} {pins : List (Addr × Obj)} {σ : L2.St} {ρ : Env} {s : Shared} {W : WX}
/-- what the pairs of a list are -/
structure PairL (K : PySem.W.Frag) (mg : Str → Option Value) (G H : Hp) (ts : List (Addr × V × V)) (ps : List (Dt × Dt)) : Prop where
  at' : ∀ t ∈ ts, H t.1 = some (.tup [t.2.1, t.2.2])
  ks : RpAll K mg G (ts.map fun t => t.2.1) (ps.map (·.1))
  vs : RpAll K mg G (ts.map fun t => t.2.2) (ps.map (·.2))
theorem pairs_l (l : Le G H) : ∀ {xs : List V} {ds : List Dt} {ps : List (Dt × Dt)}, RpAll K mg G xs ds → pairsD ds = some ps → ∃ ts, xs = ts.map (fun t => V.ref t.1) ∧ PairL K mg G H ts ps
  | _, [], _, .nil, h => by cases h; exact ⟨[], rfl, ⟨(fun _ h => by cases h), .nil, .nil⟩⟩
  | x :: xs, d :: ds, ps, .cons h r, e => by
    unfold pairsD at e
    split at e
    · rename_i he; cases he
    · rename_i k v ds' he
      cases he
      obtain ⟨ps', e', rfl⟩ := Option.map_eq_some_iff.mp e
      obtain ⟨ts, rfl, P⟩ := pairs_l l r e'
      cases h with
      | @tup a ys _ hg ra =>
        cases ra with
        | cons h1 ra => cases ra with
          | cons h2 ra =>
            cases ra
            refine ⟨(a, _, _) :: ts, rfl, ⟨fun t ht => ?_, .cons h1 P.ks, .cons h2 P.vs⟩⟩
            rcases List.mem_cons.mp ht with rfl | ht
            · exact tup_le l hg
            · exact P.at' t ht
    · cases e
theorem vals_mem {f : (Addr × V × V) → V} : ∀ {ts : List (Addr × V × V)}, (∀ t ∈ ts, ∃ u, RelV (f t) u) → ∃ us : List Value, Vals (ts.map f) us
  | [], _ => ⟨[], .nil⟩
  | t :: ts, h => by
    obtain ⟨u, hu⟩ := h t List.mem_cons_self
    obtain ⟨us, hs⟩ := vals_mem (ts := ts) fun t ht => h t (List.mem_cons_of_mem _ ht)
    exact ⟨u :: us, .cons hu hs⟩
/-- the raw pair behind a tracked one -/
theorem pair_raw (I : Inv X pins σ H s) {t : Addr} {k v : V} (h : H t = some (.tup [k, v])) : ∃ uk uv, RelV k uk ∧ RelV v uv ∧ s.heap.IsTuple t #[uk, uv] := by
  obtain ⟨its, r, p, _⟩ := I.tuple (xs := [k, v]) (.inl (.inl h))
  cases r with
  | cons r1 r => cases r with
    | cons r2 r => cases r; exact ⟨_, _, r1, r2, p⟩
theorem raws (I : Inv X pins σ H s) : ∀ {ts : List (Addr × V × V)}, (∀ t ∈ ts, H t.1 = some (.tup [t.2.1, t.2.2])) → ∃ rs : List (Value × Value), rs.length = ts.length ∧ Vals (ts.map fun t => t.2.1) (rs.map (·.1)) ∧ Vals (ts.map fun t => t.2.2) (rs.map (·.2)) ∧
    ∀ (j : Nat) (k v : Value), rs[j]? = some (k, v) → ∃ t, (ts.map (·.1))[j]? = some t ∧ s.heap.IsTuple t #[k, v]
  | [], _ => ⟨[], rfl, .nil, .nil, fun j k v h => by simp at h⟩
  | t :: ts, h => by
    obtain ⟨uk, uv, r1, r2, p⟩ := pair_raw I (h t List.mem_cons_self)
    obtain ⟨rs, hl, a, b, c⟩ := raws I (ts := ts) fun t ht => h t (List.mem_cons_of_mem _ ht)
    refine ⟨(uk, uv) :: rs, congrArg (· + 1) hl, .cons r1 a, .cons r2 b, fun j k v hj => ?_⟩
    cases j with
    | zero => simp at hj; obtain ⟨rfl, rfl⟩ := hj; exact ⟨t.1, by simp, p⟩
    | succ j =>
      obtain ⟨x, hx, q⟩ := c j k v (by simpa using hj)
      exact ⟨x, by simpa using hx, q⟩
theorem putAll_rp {κ : Type} [DecidableEq κ] (enc : κ → Dt) (inj : ∀ a b, enc a = enc b → a = b) : ∀ (more : List (κ × V)) (mds : List Dt) (kvs : List (κ × V)) (vs : List Dt), (kvs.map (·.1)).Nodup → RpAll K mg G (kvs.map (·.2)) vs → RpAll K mg G (more.map (·.2)) mds →
    let out := more.foldl (fun acc p => putK acc p.1 p.2) kvs
    let z := ((more.map fun p => enc p.1).zip mds).foldl (fun z p => dPut z.1 z.2 p.1 p.2) (kvs.map (fun p => enc p.1), vs)
    z.1 = out.map (fun p => enc p.1) ∧ RpAll K mg G (out.map (·.2)) z.2 ∧ (out.map (·.1)).Nodup
  | [], _, kvs, vs, nd, r, .nil => ⟨rfl, r, nd⟩
  | p :: more, _, kvs, vs, nd, r, .cons (d := d) (ds := ds) h t => by
    obtain ⟨e1, e2⟩ := put_rp enc inj p.1 h kvs vs nd r
    have ih := putAll_rp enc inj more ds (putK kvs p.1 p.2) _ (put_nodup nd p.1 p.2) e2 t
    simp only [List.map_cons, List.zip_cons_cons, List.foldl_cons]
    rw [← e1] at ih
    exact ih
theorem zip_pairs : ∀ (ps : List (Dt × Dt)), (ps.map (·.1)).zip (ps.map (·.2)) = ps
  | [] => rfl
  | p :: ps => by rw [List.map_cons, List.map_cons, List.zip_cons_cons, zip_pairs ps]
theorem kt_all {H : Hp} : ∀ {more : List (List Key × V)} {ps : List (List Key × Addr × Value)} {kvs : List (List Key × V)} {xs : List (List Key × Addr × Value)}, KT H more ps → KT H kvs xs → KT H (more.foldl (fun acc p => putK acc p.1 p.2) kvs) (PySem.storedAllH xs ps)
  | _, _, kvs, xs, .nil, r => r
  | (a1, a2) :: more, (b1, b2, b3) :: ps, kvs, xs, .cons h t, r => by
    obtain ⟨h1, h2, h3⟩ := h
    have h1 : a1 = b1 := h1
    subst h1
    exact kt_all (more := more) (ps := ps) t (r.put a1 h2 h3)
/-- keys of tuples -/
theorem keysT_of {ks : List V} {kd : List Dt} (l : Le G H) : ∀ {ks : List V} {kd : List Dt}, RpAll K mg G ks kd → (kd.all fun k => (keyT k).isSome) = true → ∃ kk : List (List Key × Addr), kd = kk.map (fun p => Dt.tup (p.1.map keyD)) ∧ ks = kk.map (fun p => V.ref p.2) ∧ ∀ p ∈ kk, H p.2 = some (.tup (p.1.map kV))
  | _, [], .nil, _ => ⟨[], rfl, rfl, fun _ h => by cases h⟩
  | k :: ks, d :: kd, .cons h r, e => by
    have e := Bool.and_eq_true_iff.mp (show ((keyT d).isSome && kd.all fun k => (keyT k).isSome) = true from e)
    obtain ⟨kk, h1, h2, h3⟩ := keysT_of (ks := []) (kd := []) l r e.2
    obtain ⟨q, hq⟩ := Option.isSome_iff_exists.mp e.1
    have ed := keyT_iff.mp hq
    subst ed
    obtain ⟨b, rfl, hb⟩ := RpR.keyT (H := H) l (.inl h)
    refine ⟨(q, b) :: kk, by rw [h1]; rfl, by rw [h2]; rfl, fun p hp => ?_⟩
    rcases List.mem_cons.mp hp with rfl | hp
    · exact hb
    · exact h3 p hp
theorem keysA_of : ∀ {ks : List V} {kd : List Dt}, RpAll K mg G ks kd → (kd.all fun k => (keyA k).isSome) = true → ∃ kk : List Key, kd = kk.map keyD ∧ ks = kk.map kV
  | _, [], .nil, _ => ⟨[], rfl, rfl⟩
  | k :: ks, d :: kd, .cons h r, e => by
    have e := Bool.and_eq_true_iff.mp (show ((keyA d).isSome && kd.all fun k => (keyA k).isSome) = true from e)
    obtain ⟨kk, h1, h2⟩ := keysA_of r e.2
    obtain ⟨q, hq⟩ := Option.isSome_iff_exists.mp e.1
    have ed := keyA_iff.mp hq
    subst ed
    exact ⟨q :: kk, by rw [h1]; rfl, by rw [h2, rp_key h]; rfl⟩
theorem kt_zip {H : Hp} : ∀ {kk : List (List Key × Addr)} {vs : List V} {us : List Value}, (∀ p ∈ kk, H p.2 = some (.tup (p.1.map kV))) → Vals vs us → kk.length = vs.length → KT H ((kk.map (·.1)).zip vs) ((kk.zip us).map fun p => (p.1.1, p.1.2, p.2))
  | [], _, _, _, .nil, _ => .nil
  | p :: kk, _, _, h, .cons r t, hl => .cons ⟨rfl, h p List.mem_cons_self, r⟩ (kt_zip (fun q hq => h q (List.mem_cons_of_mem _ hq)) t (Nat.succ.inj hl))
  | [], _, _, _, .cons _ _, hl => by cases hl
  | _ :: _, _, _, _, .nil, hl => by cases hl
theorem putAll_len {κ : Type} [DecidableEq κ] : ∀ (more kvs : List (κ × V)), (more.foldl (fun acc p => putK acc p.1 p.2) kvs).length ≤ kvs.length + more.length
  | [], _ => Nat.le_refl _
  | p :: more, kvs => by
    have h1 := putAll_len more (putK kvs p.1 p.2)
    have h2 : (putK kvs p.1 p.2).length ≤ kvs.length + 1 := by
      unfold putK
      split <;> simp
    rw [List.foldl_cons, List.length_cons]
    omega
theorem Fol.newD {d : Dt} {o : HO} (k : Fol K mg G H (.ow d) W') (l : Le G H) (r : ∀ p, OwnP K mg G (upd H p o) p d) : ∀ p, H p = none → W' (.ref p) (upd H p o) := fun p hp =>
  k G _ _ (Ext.newH hp) (l.newH hp) ⟨p, rfl, le_none l hp, r p, hp⟩
theorem intsOf_eq : ∀ {ds : List Dt} {is : List Int}, intsOf ds = some is → ds = is.map Dt.int
  | [], _, h => by cases h; rfl
  | d :: ds, is, h => by
    cases d <;> simp only [intsOf] at h <;> try cases h
    obtain ⟨js, hj, rfl⟩ := Option.map_eq_some_iff.mp h
    rw [intsOf_eq hj]; rfl
theorem allInts_eq : ∀ {ds : List Dt} {is : List (List Int)}, allInts ds = some is → ds = is.map fun k => Dt.tup (k.map Dt.int)
  | [], _, h => by cases h; rfl
  | d :: ds, is, h => by
    unfold allInts at h
    cases q : tupInts d with
    | none => rw [q] at h; cases h
    | some k =>
      cases q2 : allInts ds with
      | none => rw [q, q2] at h; cases h
      | some ks =>
        rw [q, q2] at h
        cases h
        rw [allInts_eq q2]
        cases d <;> simp only [tupInts] at q <;> try cases q
        rw [intsOf_eq q]; rfl
theorem keysInts : ∀ {kvs : List (List Key × V)} {is : List (List Int)}, (kvs.map fun p => Dt.tup (p.1.map keyD)) = (is.map fun k => Dt.tup (k.map Dt.int)) → kvs.map (·.1) = is.map fun k => k.map Sum.inl
  | [], [], _ => rfl
  | [], _ :: _, h => by cases h
  | _ :: _, [], h => by cases h
  | p :: kvs, k :: is, h => by
    simp only [List.map_cons, List.cons.injEq] at h ⊢
    refine ⟨?_, keysInts h.2⟩
    have e : p.1.map keyD = (k.map Sum.inl).map keyD := by
      have := h.1
      injection this with this
      rw [this, List.map_map]; rfl
    exact keyDs_inj e
/-- dict(d), d a dict of tuples as keys -/
theorem call_copyD {prog : Program} {w : World} {A : Around} {E : Value → Shared → Prop} {s : Shared} {a : Addr} {xs : List (List Key × Addr × Value)} {Q : Value → Shared → Prop} (hu : A.units + 2 < cLine) (hS : (a == sysModules) = false) (hx : s.heap.DictOfH (tupleKind (mixKind prog w)) a xs)
    (hT : ∀ x ∈ xs, s.TypeIs (.ref x.2.1) "tuple") (hn : (xs.map fun x => (tupleKind (mixKind prog w)).hash x.1).Nodup) (hz : xs.length ≤ sizeLine)
    (h : ∀ h', h'.DictOfH (tupleKind (mixKind prog w)) s.heap.objs.size xs → (∀ b o, s.heap.get? b = some o → h'.get? b = some o) → Q (.ref s.heap.objs.size) { s with heap := h' }) : wpAny (model prog w) A (call (.type "dict") [.ref a]) Q E s := by
  have new : Heap.get? (s.heap.push { cls := .type "dict", data := .dict #[] }) s.heap.objs.size = some { cls := .type "dict", data := .dict #[] } := Heap.get?_push_size _ rfl
  refine callType_codes (Q₁ := fun z s1 => z = .ref s.heap.objs.size ∧ s1 = { s with heap := s.heap.push { cls := .type "dict", data := .dict #[] } }) F.kt_called_dict (F.kt_typeCall_dict_1 _) F.entry_dict_init (kt_code_dict_new _ ⟨rfl, rfl⟩) ?_
  rintro z s1 ⟨rfl, rfl⟩
  refine ⟨⟨_, new, rfl⟩, F.args_dict_init_2 _ _, ?_⟩
  unfold Builtin.«dict.__init__» Builtin.Dict.selfAndRest
  refine wpAny_bind (wpAny_bind (wpAny_notOrdered_dict ⟨_, new, rfl⟩ (wpAny_pure ?_)))
  have ne : s.heap.objs.size ≠ a := fun e => by
    obtain ⟨o, _, _, g, _⟩ := hx
    exact absurd (Heap.lt_size g) (by rw [e]; exact Nat.lt_irrefl _)
  have up : ∀ b o, s.heap.get? b = some o → (s.heap.push { cls := .type "dict", data := .dict #[] }).get? b = some o := fun b o e => Heap.get?_push_of_some _ e
  have hx1 : (s.heap.push { cls := .type "dict", data := .dict #[] }).DictOfH (tupleKind (mixKind prog w)) a xs := by
    obtain ⟨o, es, ep, h1, h2, h3, h4, h5, h6⟩ := hx
    refine ⟨o, es, ep, up _ _ h1, h2, h3, h4, fun x hx => ?_, h6⟩
    obtain ⟨o', its, n, g1, g2, g3, g4⟩ := h5 x hx
    exact ⟨o', its, n, up _ _ g1, g2, g3, g4⟩
  refine updateFrom_dictH (A := A.in1) (kvs := []) .none (show A.in1.in1.units < cLine from hu) ne hS (Heap.DictOfH.new s.heap) hx1 (.inr ⟨fun x hx => ?_, hn⟩) (by simpa using hz) fun h' d1 d2 sb => ?_
  · obtain ⟨o, g, t⟩ := hT x hx
    exact ⟨o, up _ _ g, t⟩
  · rw [storedAllH_nil_of_nodup _ hx.nodup] at d1
    exact ⟨rfl, h h' d1 fun b o e => (sb.2 b (Nat.ne_of_lt (Heap.lt_size e))).trans (up b o e)⟩
theorem cg_dict (hc : X.calm = true) (hu : X.A.units + 70 < cLine) : CallR X (.type "dict") (rGs X.K mg dictD) := by
  intro pins s σ H xs us Q I r ⟨G, ds, sl, l, h, hg, k⟩
  unfold dictD at hg
  split at hg
  · rename_i ks vs
    split at hg
    · rename_i hk
      cases hg
      obtain ⟨v, rfl, h1⟩ := rrs1 h
      obtain ⟨a, ys, rfl, hD, ra⟩ := h1.dct l
      obtain ⟨u, rfl, rx⟩ := vals1 r
      cases (show u = Value.ref a from rx)
      have hn := I.hok.fresh (Nat.le_refl s.heap.objs.size)
      unfold copyOk at hk
      split at hk
      · rename_i is hi
        have hk := of_decide_eq_true hk
        have ek := allInts_eq hi
        -- an empty dict of the other kind is told as one of tuples
        have key : ∀ {H1 : Hp}, Inv X pins σ H1 s → (∀ b : Addr, b ≠ a → H1 b = H b) → ∀ kvs : List (List Key × V), Rd H1 a (.dT kvs) → ks = kvs.map (fun p => Dt.tup (p.1.map keyD)) → ys = kvs.map (·.2) → (kvs.map (·.1)).Nodup → (H1 = H) → wpAny (model X.prog X.w) X.A (call (.type "dict") [.ref a]) (EP X pins σ Q) X.xe s := by
          intro H1 I1 _ kvs hR e1 e2 nd eH
          subst eH
          obtain ⟨z, hd, xs, rel, dd⟩ := dt_rd I1.hok hR
          have e3 := keysInts (e1.symm.trans ek)
          have lx : kvs.length = xs.length := Paired.length rel
          have e4 : xs.map (·.1) = kvs.map (·.1) := by
            clear e1 e2 nd hR dd z lx e3
            induction rel with
            | nil => rfl
            | cons h t ih => rw [List.map_cons, List.map_cons, ih, h.1]
          have e5 : (xs.map fun x => (tupleKind (mixKind X.prog X.w)).hash x.1) = is.map hashK := by
            have : (xs.map fun x => (tupleKind (mixKind X.prog X.w)).hash x.1) = (xs.map (·.1)).map (tupleKind (mixKind X.prog X.w)).hash := by rw [List.map_map]; rfl
            rw [this, e4, e3, List.map_map]
            refine List.map_congr_left fun k _ => ?_
            show reduceHash (Builtin.Tuple.tupleHashOf ((k.map Sum.inl).map (keyH X.w))) = _
            rw [List.map_map]; rfl
          refine call_copyD (by have := hu; show X.A.units + 2 < cLine; omega) hd dd (fun x hx => ?_) (by rw [e5]; exact hk) (by rw [← lx]; exact z) fun h' dd' kp => ?_
          · obtain ⟨_, _, _, _, _, _, _, h5, _⟩ := dd
            obtain ⟨o, its, n, g1, g2, _⟩ := h5 x hx
            exact ⟨o, g1, g2⟩
          · have hm : (s.heap.objs.size == sysModules) = false := beq_eq_false_iff_ne.mpr (Nat.ne_of_gt I1.big)
            obtain ⟨o, es, ep, q1, q2, q3, q4, q5, q6⟩ := dd'
            have new : ObjOk X.prog X.w (upd H1 s.heap.objs.size (.dT kvs)) h' s.heap.objs.size (.dT kvs) := by
              refine ⟨z, hm, xs, KT.keeps rel fun b ys e => ?_, o, es, ep, q1, q2, q3, q4, q6⟩
              rw [upd_ne (ne_of_none e hn)]; exact e
            refine ⟨.ref s.heap.objs.size, _, I1.laid (t' := s.toks) kp (Nat.le_refl _) new, rfl, k.newD l (fun p => ⟨_, .inl ⟨kvs, upd_same, e1, e2, nd⟩, ra⟩) _ hn⟩
        rcases hD with ⟨kvs, hR, e1, e2, nd⟩ | ⟨kvs, hR, e1, e2, nd⟩
        · exact key I (fun _ _ => rfl) kvs hR e1 e2 nd rfl
        · cases kvs with
          | nil =>
            subst e1 e2
            obtain ⟨z, hd, vs0, rel, dd⟩ := dk_rd I.hok hR
            cases rel
            obtain ⟨o, es, ep, q1, q2, q3, q4, q5, q6⟩ := emp_kt dd
            refine call_copyD (xs := []) (by have := hu; show X.A.units + 2 < cLine; omega) hd ⟨o, es, ep, q1, q2, q3, q4, q5, q6⟩ (fun x hx => by cases hx) List.nodup_nil (Nat.zero_le _) fun h' dd' kp => ?_
            have hm : (s.heap.objs.size == sysModules) = false := beq_eq_false_iff_ne.mpr (Nat.ne_of_gt I.big)
            obtain ⟨o, es, ep, q1, q2, q3, q4, q5, q6⟩ := dd'
            have new : ObjOk X.prog X.w (upd H s.heap.objs.size (.dT [])) h' s.heap.objs.size (.dT []) := ⟨Nat.zero_le _, hm, [], .nil, o, es, ep, q1, q2, q3, q4, q6⟩
            exact ⟨.ref s.heap.objs.size, _, I.laid (t' := s.toks) kp (Nat.le_refl _) new, rfl, k.newD l (fun p => ⟨_, .inl ⟨[], upd_same, rfl, rfl, List.nodup_nil⟩, ra⟩) _ hn⟩
          | cons p kvs =>
            rw [ek] at e1
            cases is with
            | nil => cases e1
            | cons i is =>
              simp only [List.map_cons, List.cons.injEq] at e1
              cases hp : p.1 <;> rw [hp] at e1 <;> exact absurd e1.1 (fun z => by cases z)
      · cases hk
    · cases hg
  · rename_i ds
    split at hg
    · rename_i ps hp
      split at hg
      · rename_i hk
        cases hg
        obtain ⟨v, rfl, h1⟩ := rrs1 h
        obtain ⟨a, ys, rfl, hR, ra⟩ := h1.lst l
        obtain ⟨ts, rfl, P⟩ := pairs_l l ra hp
        have hlp : ts.length = ps.length := by have := P.ks.length; simpa using this
        rcases Bool.or_eq_true_iff.mp hk with hk | hk
        · -- keys that are values
          obtain ⟨kk, e1, e2⟩ := keysA_of P.ks (by simpa [List.all_map] using hk)
          have hkl : kk.length = ps.length := by have := congrArg List.length e1; simpa using this.symm
          obtain ⟨f1, f2, f3⟩ := putAll_rp keyD (fun _ _ => keyD_inj) (kk.zip (ts.map fun t => t.2.2)) (ps.map (·.2)) [] [] List.nodup_nil .nil (by
            rw [List.map_snd_zip (by simp; omega)]; exact P.vs)
          have ez : ((kk.zip (ts.map fun t => t.2.2)).map fun p => keyD p.1).zip (ps.map (·.2)) = ps := by
            have : ((kk.zip (ts.map fun t => t.2.2)).map fun p => keyD p.1) = ps.map (·.1) := by
              rw [e1]
              have : ((kk.zip (ts.map fun t => t.2.2)).map fun p => keyD p.1) = ((kk.zip (ts.map fun t => t.2.2)).map (·.1)).map keyD := by rw [List.map_map]; rfl
              rw [this, List.map_fst_zip (by simp; omega)]
            rw [this, zip_pairs]
          rw [ez] at f1 f2
          have hpp : ∀ {ts : List (Addr × V × V)} {kk : List Key}, (∀ t ∈ ts, H t.1 = some (.tup [t.2.1, t.2.2])) → ts.map (fun t => t.2.1) = kk.map kV → Paired (fun p kv => SqT X.K H p [kV kv.1, kv.2]) (ts.map (·.1)) (kk.zip (ts.map fun t => t.2.2)) := by
            intro ts
            induction ts with
            | nil => intro kk _ e; cases kk <;> first | exact .nil | cases e
            | cons t ts ih =>
              intro kk ha e
              cases kk with
              | nil => cases e
              | cons q kk =>
                simp only [List.map_cons, List.cons.injEq] at e
                refine .cons ?_ (ih (fun t ht => ha t (List.mem_cons_of_mem _ ht)) e.2)
                rw [← e.1]
                exact .inl (.inl (ha t List.mem_cons_self))
          refine call_dictP hc pins s σ H _ us Q I r ⟨a, ts.map (·.1), kk.zip (ts.map fun t => t.2.2), rfl, .inl (by rw [List.map_map]; exact hR), hpp P.at' e2, ?_⟩
          refine k.newD l fun p => ⟨_, .inr ⟨_, upd_same, f1, rfl, f3⟩, f2⟩
        · -- keys that are tuples
          obtain ⟨kk, e1, e2, e3⟩ := keysT_of (ks := []) (kd := []) l P.ks (by simpa [List.all_map] using hk)
          have hkl : kk.length = ps.length := by have := congrArg List.length e1; simpa using this.symm
          obtain ⟨f1, f2, f3⟩ := putAll_rp (fun k : List Key => Dt.tup (k.map keyD)) (fun a b e => keyDs_inj (by injection e)) ((kk.map (·.1)).zip (ts.map fun t => t.2.2)) (ps.map (·.2)) [] [] List.nodup_nil .nil (by
            rw [List.map_snd_zip (by simp; omega)]; exact P.vs)
          have ez : (((kk.map (·.1)).zip (ts.map fun t => t.2.2)).map fun p => Dt.tup (p.1.map keyD)).zip (ps.map (·.2)) = ps := by
            have : (((kk.map (·.1)).zip (ts.map fun t => t.2.2)).map fun p => Dt.tup (p.1.map keyD)) = ps.map (·.1) := by
              rw [e1]
              have : (((kk.map (·.1)).zip (ts.map fun t => t.2.2)).map fun p => Dt.tup (p.1.map keyD)) = (((kk.map (·.1)).zip (ts.map fun t => t.2.2)).map (·.1)).map fun k => Dt.tup (k.map keyD) := by rw [List.map_map]; rfl
              rw [this, List.map_fst_zip (by simp; omega), List.map_map]
              rfl
            rw [this, zip_pairs]
          rw [ez] at f1 f2
          obtain ⟨u, rfl, rx⟩ := vals1 r
          cases (show u = Value.ref a from rx)
          obtain ⟨hz, its, n, rv, hl, ho⟩ := lstR I hR
          obtain ⟨rs, rl, rk, rvv, rat⟩ := raws I P.at'
          have ei : its = (ts.map (·.1)).map Value.ref := by
            have := rv
            rw [show (ts.map fun t => V.ref t.1) = (ts.map (·.1)).map V.ref by rw [List.map_map]; rfl] at this
            have gen : ∀ {bs : List Addr} {us : List Value}, Vals (bs.map V.ref) us → us = bs.map Value.ref := by
              intro bs
              induction bs with
              | nil => intro us h; cases h; rfl
              | cons b bs ih => intro us h; cases h with | cons h t => cases (show _ = Value.ref b from h); rw [ih t]; rfl
            exact gen this
          have er : rs.map (·.1) = kk.map fun p => Value.ref p.2 := by
            rw [e2, show (kk.map fun p => V.ref p.2) = (kk.map (·.2)).map V.ref by rw [List.map_map]; rfl] at rk
            have gen : ∀ {bs : List Addr} {us : List Value}, Vals (bs.map V.ref) us → us = bs.map Value.ref := by
              intro bs
              induction bs with
              | nil => intro us h; cases h; rfl
              | cons b bs ih => intro us h; cases h with | cons h t => cases (show _ = Value.ref b from h); rw [ih t]; rfl
            rw [gen rk, List.map_map]; rfl
          have KTp : KT H ((kk.map (·.1)).zip (ts.map fun t => t.2.2)) ((kk.zip (rs.map (·.2))).map fun p => (p.1.1, p.1.2, p.2)) := kt_zip e3 rvv (by simp; omega)
          refine PySem.call_dict_pairsH (knd := tupleKind (mixKind X.prog X.w)) (ps := (kk.zip (rs.map (·.2))).map fun p => (p.1.1, p.1.2, p.2)) (PySem.PairArg.list a its.toArray (fun j => (ts.map (·.1)).getD j 0) rs) (I.ok.hd hc) (tupleKind_room_in1 (A := X.A.in1) (by show X.A.units + 1 + 1 < cLine; omega))
            ⟨⟨_, n, ho, rfl, rfl, rfl⟩, by rw [List.size_toArray, ← hl, List.length_map, rl], fun j k v hj => ?_⟩ ⟨by simp; omega, fun i key v hrel => ?_⟩ (fun h' hk' x hx => ?_) (by rw [rl, ← List.length_map (fun t : Addr × V × V => V.ref t.1)]; exact hz) fun h' tk hd' hkk => ?_
          · obtain ⟨t, ht, hp⟩ := rat j k v hj
            refine ⟨?_, .inl ?_⟩
            · rw [ei]; simp at ht ⊢; obtain ⟨w1, w2, h3⟩ := ht; simp [h3]
            · show s.heap.IsTuple ((ts.map (·.1)).getD j 0) #[k, v]
              rw [List.getD_eq_getElem?_getD, ht]; exact hp
          · have hrel : rs[i]? = some (key, v) := hrel
            have hi : i < rs.length := (List.getElem?_eq_some_iff.mp hrel).1
            have h1 : (rs.map (·.1))[i]? = some key := by rw [List.getElem?_map, hrel]; rfl
            have h2 : (rs.map (·.2))[i]? = some v := by rw [List.getElem?_map, hrel]; rfl
            rw [er, List.getElem?_map] at h1
            obtain ⟨q, hq, rfl⟩ := Option.map_eq_some_iff.mp h1
            refine ⟨q.1, q.2, ?_, rfl⟩
            have hz2 : (kk.zip (rs.map (·.2)))[i]? = some (q, v) := List.getElem?_zip_eq_some.mpr ⟨hq, h2⟩
            rw [List.getElem?_map, hz2]
            rfl
          · obtain ⟨z, hz', rfl⟩ := List.mem_map.mp hx
            have hm := (List.of_mem_zip hz').1
            obtain ⟨o, its', n', g1, g2, g3, g4⟩ := key_of I.hok (e3 z.1 hm)
            exact ⟨o, its', n', hk' _ _ (Nat.ne_of_lt (Heap.lt_size g1)) (by simp) g1, g2, g3, g4⟩
          · have hm : (s.heap.objs.size == sysModules) = false := beq_eq_false_iff_ne.mpr (Nat.ne_of_gt I.big)
            have hlen := putAll_len ((kk.map (·.1)).zip (ts.map fun t => t.2.2)) ([] : List (List Key × V))
            have KTo := kt_all KTp (KT.keeps (H := H) (H' := H) (kvs := []) (xs := []) .nil fun _ _ e => e)
            have hn := I.hok.fresh (Nat.le_refl s.heap.objs.size)
            obtain ⟨o, es, ep, q1, q2, q3, q4, q5, q6⟩ := hd'
            have new : ObjOk X.prog X.w (upd H s.heap.objs.size (.dT (((kk.map (·.1)).zip (ts.map fun t => t.2.2)).foldl (fun acc p => putK acc p.1 p.2) []))) h' s.heap.objs.size (.dT (((kk.map (·.1)).zip (ts.map fun t => t.2.2)).foldl (fun acc p => putK acc p.1 p.2) [])) := by
              refine ⟨?_, hm, _, KT.keeps KTo fun b ys e => ?_, o, es, ep, q1, q2, q3, q4, q6⟩
              · refine Nat.le_trans hlen ?_
                have hts : ts.length ≤ sizeLine := by rw [← List.length_map (fun t : Addr × V × V => V.ref t.1)]; exact hz
                simp only [List.length_nil, Nat.zero_add, List.length_zip, List.length_map]
                exact Nat.le_trans (Nat.min_le_right _ _) hts
              · rw [upd_ne (ne_of_none e hn)]; exact e
            exact ⟨.ref s.heap.objs.size, _, I.laid (t' := tk) (fun b u e => hkk b u (by simp) e) (Nat.le_refl _) new, rfl, k.newD l (fun p => ⟨_, .inl ⟨_, upd_same, f1, rfl, f3⟩, f2⟩) _ hn⟩
      · cases hg
    · cases hg
  · cases hg
end
end E2
end

section
set_option Elab.async false
set_option linter.all false
set_option maxRecDepth 100000
set_option maxHeartbeats 4000000
/-! E31: comprehensions with two fors. -/
namespace E2
open PySem PySem.Spec PyProof.Rows L2
/-- the inner for -/
def lcJ (a : Dt → Env → Option Env) (t : ET) (f : EE) (vs : List Nat) : List Dt → List Dt → Env → R (List Dt × Env)
  | [], acc, ρ => .ok (acc, ρ)
  | d :: ds, acc, ρ => match a d ρ with
    | some ρ1 => (match t ρ1 with
      | .ok (true, ρ2) => (match f ρ2 with
        | .ok (y, ρ3) => if acc.length < 16777216 then lcJ a t f vs ds (acc ++ [y]) (wipeD ρ3 vs) else .bad
        | _ => .bad)
      | .ok (false, ρ2) => lcJ a t f vs ds acc (wipeD ρ2 vs)
      | _ => .bad)
    | none => .bad
/-- the outer one -/
def lcS2 (a : Dt → Env → Option Env) (t : ET) (it1 : Env → R (List Dt × Env)) (a1 : Dt → Env → Option Env) (t1 : ET) (f : EE) (vs vs1 : List Nat) : List Dt → List Dt → Env → R (List Dt × Env)
  | [], acc, ρ => .ok (acc, ρ)
  | d :: ds, acc, ρ => match a d ρ with
    | some ρ1 => (match t ρ1 with
      | .ok (true, ρ2) => (match it1 ρ2 with
        | .ok (items, ρ3) => (match lcJ a1 t1 f vs1 items acc (wipeD ρ3 vs1) with
          | .ok (acc', ρ4) => lcS2 a t it1 a1 t1 f vs vs1 ds acc' (wipeD ρ4 vs)
          | _ => .bad)
        | _ => .bad)
      | .ok (false, ρ2) => lcS2 a t it1 a1 t1 f vs vs1 ds acc (wipeD ρ2 vs)
      | _ => .bad)
    | none => .bad
def fLc2 (it : Env → R (List Dt × Env)) (a : Dt → Env → Option Env) (t : ET) (it1 : Env → R (List Dt × Env)) (a1 : Dt → Env → Option Env) (t1 : ET) (f : EE) (vs vs1 : List Nat) : EV := fun ρ => (it ρ).bind fun items ρ1 => match lcS2 a t it1 a1 t1 f vs vs1 items [] (wipeD ρ1 vs) with
  | .ok (acc, ρ2) => .ok (.ow (.lst acc), restore ρ1 ρ2 vs)
  | _ => .bad
section
variable {X : Cx} {K : PySem.W.Frag} {mg : Str → Option Value} {G G' H H' G1 H1 : Hp} {P : Addr → Prop} {σ σb : L2.St} {ρ ρ' : Env} {W : WX} {D : Addr}
/-- a state within: the new list at D holds acc -/
structure LcT (K : PySem.W.Frag) (mg : Str → Option Value) (P : Addr → Prop) (G1 H1 : Hp) (D : Addr) (σb : L2.St) (acc : List Dt) (G' H' : Hp) (ρ' : Env) : Prop where
  st : Stt K mg G' H' σb ρ'
  ext : Ext P G1 H1 G' H'
  g : G' D = none
  at' : ∃ xs, H' D = some (.lst xs) ∧ RpAll K mg G' xs acc
  own : ∀ p, Own σb ρ' p → P p
theorem wipe_wipe {σ : L2.St} {vs vs1 : List Nat} (h : ∀ i ∈ vs1, i ∈ vs) : wipe (wipe σ vs1) vs = wipe σ vs := by
  apply List.ext_getElem?
  intro j
  by_cases hj : j ∈ vs
  · by_cases hl : j < σ.length
    · rw [wipe_in hj (by rw [wipe_length]; exact hl), wipe_in hj hl]
    · rw [List.getElem?_eq_none (by rw [wipe_length, wipe_length]; omega), List.getElem?_eq_none (by rw [wipe_length]; omega)]
  · rw [wipe_out hj, wipe_out hj, wipe_out fun z => hj (h j z)]
/-- one turn's end -/
theorem LcT.next (T : LcT K mg P G1 H1 D σb acc G' H' ρ') (hP : ¬ P D) (hD : H1 D = none) {σ4 σc : L2.St} {vs : List Nat} (hw : wipe σ4 vs = σc) {G3 H3 G6 H6 : Hp} {ρ4 ρ6 : Env} {acc6 : List Dt} {xs6 : List V} (e3 : Ext No G' H' G3 H3) (o4 : ∀ p, Own σ4 ρ4 p → Own σb ρ' p) (e6 : Ext (Own σ4 ρ4) G3 H3 G6 H6) (st6 : Stt K mg G6 H6 σ4 ρ6)
    (o6 : ∀ p, Own σ4 ρ6 p → Own σ4 ρ4 p) (ra : RpAll K mg G6 xs6 acc6) : LcT K mg P G1 H1 D σc acc6 G6 (upd H6 D (.lst xs6)) (wipeD ρ6 vs) := by
  obtain ⟨xs, h2, _⟩ := T.at'
  obtain ⟨sw, ow, _⟩ := st6.wipe vs
  rw [hw] at sw ow
  have oo : ∀ p, Own σc (wipeD ρ6 vs) p → P p := fun p z => T.own p (o4 p (o6 p (ow p z)))
  have no4 : ¬ Own σ4 ρ4 D := fun z => hP (T.own D (o4 D z))
  have g3 : G3 D = none := e3.out T.g h2 trivial id
  have h3 : H3 D = some (.lst xs) := e3.keepO T.g h2 trivial id
  have g6 : G6 D = none := e6.out g3 h3 trivial no4
  have e7 : Ext P G1 H1 G6 H6 := T.ext.trans (e3.no.trans e6 fun p z => .inl (o4 p z)) fun p z => .inl (T.own p z)
  refine ⟨sw.updH g6 (fun z => hP (oo D z)), ⟨fun b u h1 n => ?_, e7.sub, e7.new⟩, g6, ⟨xs6, upd_same, ra⟩, oo⟩
  have ne : b ≠ D := fun z => by subst z; rw [hD] at h1; cases h1
  rw [upd_ne ne]
  exact e7.keep b u h1 n
theorem upd_id {o : HO} (h : H D = some o) : upd H D o = H := by
  funext b
  by_cases z : b = D
  · subst z; rw [upd_same, h]
  · rw [upd_ne z]
/-- the inner loop -/
theorem inner_ok {J : It} {items acc0 accF : List Dt} {a : Dt → Env → Option Env} {t : ET} {f : EE} {vs : List Nat} {G0 : Hp} {ρF : Env} {Nx : Hp → Prop} (hP : ¬ P D) (hD : H1 D = none) (wd : WalkD K mg G0 J items) (s0 : Sub G0 G) (T0 : LcT K mg P G1 H1 D (wipe σ vs) acc0 G H ρ)
    (hr : lcJ a t f vs items acc0 ρ = .ok (accF, ρF)) (fin : ∀ G' H', LcT K mg P G1 H1 D (wipe σ vs) accF G' H' ρF → Nx H') :
    ∃ W1 : Nat → Nat → Hp → Prop, (∃ m, W1 0 m H) ∧ ∀ j k H, W1 j k H → (J.stop j H ∧ Nx H) ∨ (J.go j H ∧ ∃ Nx1 : Hp → Prop, (∀ H', Nx1 H' → ∃ k', k' < k ∧ W1 (j + 1) k' H') ∧ ∀ x H', J.yld j H x H' → tG K mg vs a x (wipe σ vs) H' fun σ3 H5 => wipe σ3 vs = wipe σ vs ∧ tT K mg W0 t σ3 H5 fun b H6 =>
        if b = true then tE K mg W0 f σ3 H6 fun y H7 => ∃ acc, H7 D = some (.lst acc) ∧ acc.length < sizeLine ∧ Nx1 (upd H7 D (.lst (acc ++ [y]))) else Nx1 H6) := by
  obtain ⟨Gd, Y, wk, hG, hY⟩ := wd.ex
  refine ⟨fun j k H => k = items.length - j ∧ j ≤ items.length ∧ ∃ G ρ acc, Sub G0 G ∧ LcT K mg P G1 H1 D (wipe σ vs) acc G H ρ ∧ lcJ a t f vs (items.drop j) acc ρ = .ok (accF, ρF), ⟨items.length, by simp, Nat.zero_le _, G, ρ, acc0, s0, T0, hr⟩, ?_⟩
  rintro j k H2 ⟨rfl, hj, G2, ρ2, acc, sb, T, hlc⟩
  by_cases hlt : j < items.length
  · rw [List.drop_eq_getElem_cons hlt] at hlc
    refine .inr ⟨wk.goes j H2 hlt (hG G2 H2 sb T.st.le), fun H' => ∃ G ρ acc, Sub G0 G ∧ LcT K mg P G1 H1 D (wipe σ vs) acc G H' ρ ∧ lcJ a t f vs (items.drop (j + 1)) acc ρ = .ok (accF, ρF), fun H' h => ⟨items.length - (j + 1), by omega, rfl, hlt, h⟩, fun x H3 y => ?_⟩
    obtain ⟨d, G3, ed, e3, l3, rx⟩ := hY j H2 x H3 G2 hlt sb T.st.le (wk.yields j H2 x H3 hlt (hG G2 H2 sb T.st.le) y)
    rw [List.getElem?_eq_getElem hlt] at ed
    cases ed
    have st3 := T.st.ext0 e3 l3
    have hlc : (match a items[j] ρ2 with
      | some ρ1 => (match t ρ1 with
        | .ok (true, ρ2) => (match f ρ2 with
          | .ok (y, ρ3) => if acc.length < 16777216 then lcJ a t f vs (items.drop (j + 1)) (acc ++ [y]) (wipeD ρ3 vs) else .bad
          | _ => .bad)
        | .ok (false, ρ2) => lcJ a t f vs (items.drop (j + 1)) acc (wipeD ρ2 vs)
        | _ => .bad)
      | none => .bad) = .ok (accF, ρF) := hlc
    cases qa : a items[j] ρ2 with
    | none => rw [qa] at hlc; cases hlc
    | some ρ4 =>
      rw [qa] at hlc
      refine ⟨G3, ρ2, items[j], st3, rx, ρ4, qa, fun σ4 st4 o4 ln4 s4 => ?_⟩
      have ws : wipe σ4 vs = wipe σ vs := wipe_same ln4 s4
      refine ⟨ws, G3, ρ4, st4, ?_⟩
      obtain ⟨xs, h2D, ra⟩ := T.at'
      have no4 : ¬ Own σ4 ρ4 D := fun z => hP (T.own D (o4 D z))
      have h3D : H3 D = some (.lst xs) := e3.keepO T.g h2D trivial id
      cases qt : t ρ4 with
      | err x fs ρ' => dsimp only at hlc; rw [qt] at hlc; cases hlc
      | bad => dsimp only at hlc; rw [qt] at hlc; cases hlc
      | ok z =>
        obtain ⟨b, ρ5⟩ := z
        dsimp only at hlc
        rw [qt] at hlc
        intro G5 H5 e5 st5 o5
        have h5D : H5 D = some (.lst xs) := e5.keepO (e3.out T.g h2D trivial id) h3D trivial no4
        cases b with
        | false =>
          have n := T.next hP hD ws e3 o4 e5 st5 o5 ((ra.le e3.sub.le).le e5.sub.le)
          rw [upd_id h5D] at n
          exact ⟨G5, wipeD ρ5 vs, acc, (sb.trans e3.sub).trans e5.sub, n, hlc⟩
        | true =>
          dsimp only at hlc
          show tE K mg W0 f σ4 H5 _
          refine ⟨G5, ρ5, st5, ?_⟩
          cases qf : f ρ5 with
          | err x fs ρ' => rw [qf] at hlc; cases hlc
          | bad => rw [qf] at hlc; cases hlc
          | ok z =>
            obtain ⟨yd, ρ6⟩ := z
            rw [qf] at hlc
            dsimp only at hlc
            split at hlc
            · rename_i hlen
              intro G6 H6 e6 st6 o6 v hv
              have no5 : ¬ Own σ4 ρ5 D := fun z => no4 (o5 D z)
              have h6D : H6 D = some (.lst xs) := e6.keepO (e5.out (e3.out T.g h2D trivial id) h3D trivial no4) h5D trivial no5
              refine ⟨xs, h6D, by rw [ra.length, sizeLine_eq]; exact hlen, ?_⟩
              have n := T.next hP hD ws e3 o4 (e5.trans e6 fun p z => .inl (o5 p z)) st6 (fun p z => o5 p (o6 p z)) ((((ra.le e3.sub.le).le e5.sub.le).le e6.sub.le).append (.one hv))
              exact ⟨G6, wipeD ρ6 vs, acc ++ [yd], ((sb.trans e3.sub).trans e5.sub).trans e6.sub, n, hlc⟩
            · cases hlc
  · have ei : j = items.length := by omega
    subst ei
    rw [List.drop_length] at hlc
    cases hlc
    exact .inl ⟨wk.stops H2 (hG G2 H2 sb T.st.le), fin G2 H2 T⟩
theorem LcT.wiped {acc : List Dt} (T : LcT K mg P G1 H1 D σb acc G' H' ρ') (vs : List Nat) {σc : L2.St} (hw : wipe σb vs = σc) : LcT K mg P G1 H1 D σc acc G' H' (wipeD ρ' vs) := by
  obtain ⟨sw, ow, _⟩ := T.st.wipe vs
  rw [hw] at sw ow
  exact ⟨sw, T.ext, T.g, T.at', fun p z => T.own p (ow p z)⟩
theorem lc2_imp {it it1 : Env → R (List Dt × Env)} {a a1 : Dt → Env → Option Env} {t t1 : ET} {f : EE} {vs vs1 : List Nat} {Q : VK} (hv : ∀ i ∈ vs1, i ∈ vs) (h : tV K mg W (fLc2 it a t it1 a1 t1 f vs vs1) σ H Q) :
    tLc2 (tI K mg W it) (tG K mg vs a) (tT K mg W0 t) (tI K mg W0 it1) (tG K mg vs1 a1) (tT K mg W0 t1) (tE K mg W0 f) vs vs1 σ H Q := by
  obtain ⟨G, ρ, st, q⟩ := h
  refine ⟨G, ρ, st, ?_⟩
  have q : Pst K mg W (Own σ ρ) G H σ ((it ρ).bind fun items ρ1 => match lcS2 a t it1 a1 t1 f vs vs1 items [] (wipeD ρ1 vs) with
    | .ok (acc, ρ2) => .ok (.ow (.lst acc), restore ρ1 ρ2 vs)
    | _ => .bad) fun s ρ' G' H' => ∀ v, VR K mg (Own σ ρ) H G' H' σ ρ' v s → Q v H' := q
  generalize it ρ = out at q ⊢
  cases out with
  | err x fs ρ' => exact q
  | bad => exact q
  | ok z =>
    obtain ⟨items, ρ1⟩ := z
    intro G1 H1 e1 st1 o1 J wd D hD
    have q : Pst K mg W (Own σ ρ) G H σ (match lcS2 a t it1 a1 t1 f vs vs1 items [] (wipeD ρ1 vs) with
      | .ok (acc, ρ2) => .ok (.ow (.lst acc), restore ρ1 ρ2 vs)
      | _ => .bad) fun s ρ' G' H' => ∀ v, VR K mg (Own σ ρ) H G' H' σ ρ' v s → Q v H' := q
    generalize hO : lcS2 a t it1 a1 t1 f vs vs1 items [] (wipeD ρ1 vs) = OUT at q
    cases OUT with
    | err x fs ρ' => exact q.elim
    | bad => exact q.elim
    | ok z =>
      obtain ⟨accF, ρF⟩ := z
      obtain ⟨Gd, Y, wk, hG, hY⟩ := wd.ex
      obtain ⟨sw, ow1, ow2⟩ := st1.wipe vs
      have noD : ¬ Own (wipe σ vs) (wipeD ρ1 vs) D := fun z => by
        obtain ⟨u, hu⟩ := st1.own_some (ow1 D z)
        rw [hD] at hu; cases hu
      have g1D : G1 D = none := le_none st1.le hD
      refine ⟨fun i m H2 => m = items.length - i ∧ i ≤ items.length ∧ ∃ G' ρ' acc, LcT K mg (Own (wipe σ vs) (wipeD ρ1 vs)) G1 H1 D (wipe σ vs) acc G' H2 ρ' ∧ lcS2 a t it1 a1 t1 f vs vs1 (items.drop i) acc ρ' = .ok (accF, ρF),
        ⟨items.length, by simp, Nat.zero_le _, G1, wipeD ρ1 vs, [], ⟨sw.updH g1D noD, (Ext.newH hD).no, g1D, ⟨[], upd_same, .nil⟩, fun _ z => z⟩, hO⟩, ?_⟩
      rintro i m H2 ⟨rfl, hi, G2, ρ2, acc, T, hlc⟩
      by_cases hlt : i < items.length
      · rw [List.drop_eq_getElem_cons hlt] at hlc
        refine .inr ⟨wk.goes i H2 hlt (hG G2 H2 T.ext.sub T.st.le), fun H' => ∃ G' ρ' acc, LcT K mg (Own (wipe σ vs) (wipeD ρ1 vs)) G1 H1 D (wipe σ vs) acc G' H' ρ' ∧ lcS2 a t it1 a1 t1 f vs vs1 (items.drop (i + 1)) acc ρ' = .ok (accF, ρF),
          fun H' h => ⟨items.length - (i + 1), by omega, rfl, hlt, h⟩, fun x H3 y => ?_⟩
        obtain ⟨d, G3, ed, e3, l3, rx⟩ := hY i H2 x H3 G2 hlt T.ext.sub T.st.le (wk.yields i H2 x H3 hlt (hG G2 H2 T.ext.sub T.st.le) y)
        rw [List.getElem?_eq_getElem hlt] at ed
        cases ed
        have st3 := T.st.ext0 e3 l3
        have hlc : (match a items[i] ρ2 with
          | some ρ1 => (match t ρ1 with
            | .ok (true, ρ2) => (match it1 ρ2 with
              | .ok (items', ρ3) => (match lcJ a1 t1 f vs1 items' acc (wipeD ρ3 vs1) with
                | .ok (acc', ρ4) => lcS2 a t it1 a1 t1 f vs vs1 (items.drop (i + 1)) acc' (wipeD ρ4 vs)
                | _ => .bad)
              | _ => .bad)
            | .ok (false, ρ2) => lcS2 a t it1 a1 t1 f vs vs1 (items.drop (i + 1)) acc (wipeD ρ2 vs)
            | _ => .bad)
          | none => .bad) = .ok (accF, ρF) := hlc
        cases qa : a items[i] ρ2 with
        | none => rw [qa] at hlc; cases hlc
        | some ρ4 =>
          rw [qa] at hlc
          refine ⟨G3, ρ2, items[i], st3, rx, ρ4, qa, fun σ4 st4 o4 ln4 s4 => ?_⟩
          have ws : wipe σ4 vs = wipe σ vs := wipe_same ln4 s4
          refine ⟨ws, G3, ρ4, st4, ?_⟩
          obtain ⟨xs, h2D, ra⟩ := T.at'
          have no4 : ¬ Own σ4 ρ4 D := fun z => noD (T.own D (o4 D z))
          have h3D : H3 D = some (.lst xs) := e3.keepO T.g h2D trivial id
          cases qt : t ρ4 with
          | err x fs ρ' => dsimp only at hlc; rw [qt] at hlc; cases hlc
          | bad => dsimp only at hlc; rw [qt] at hlc; cases hlc
          | ok z =>
            obtain ⟨b, ρ5⟩ := z
            dsimp only at hlc
            rw [qt] at hlc
            intro G5 H5 e5 st5 o5
            have h5D : H5 D = some (.lst xs) := e5.keepO (e3.out T.g h2D trivial id) h3D trivial no4
            cases b with
            | false =>
              have n := T.next noD hD ws e3 o4 e5 st5 o5 ((ra.le e3.sub.le).le e5.sub.le)
              rw [upd_id h5D] at n
              exact ⟨G5, wipeD ρ5 vs, acc, n, hlc⟩
            | true =>
              dsimp only at hlc
              show tI K mg W0 it1 σ4 H5 _
              refine ⟨G5, ρ5, st5, ?_⟩
              cases qi : it1 ρ5 with
              | err x fs ρ' => rw [qi] at hlc; cases hlc
              | bad => rw [qi] at hlc; cases hlc
              | ok z =>
                obtain ⟨items1, ρ6⟩ := z
                rw [qi] at hlc
                dsimp only at hlc
                intro G6 H6 e6 st6 o6 J1 wd1
                have no5 : ¬ Own σ4 ρ5 D := fun z => no4 (o5 D z)
                have h6D : H6 D = some (.lst xs) := e6.keepO (e5.out (e3.out T.g h2D trivial id) h3D trivial no4) h5D trivial no5
                cases qj : lcJ a1 t1 f vs1 items1 acc (wipeD ρ6 vs1) with
                | err x fs ρ' => rw [qj] at hlc; cases hlc
                | bad => rw [qj] at hlc; cases hlc
                | ok z =>
                  obtain ⟨acc7, ρ7⟩ := z
                  rw [qj] at hlc
                  dsimp only at hlc
                  have n := T.next noD hD (σc := wipe σ4 vs1) rfl e3 o4 (e5.trans e6 fun p z => .inl (o5 p z)) st6 (fun p z => o5 p (o6 p z)) (((ra.le e3.sub.le).le e5.sub.le).le e6.sub.le)
                  rw [upd_id h6D] at n
                  exact inner_ok noD hD wd1 (Sub.refl _) n qj fun G' H' T' => ⟨G', wipeD ρ7 vs, acc7, T'.wiped vs ((wipe_wipe hv).trans ws), hlc⟩
      · have ei : i = items.length := by omega
        subst ei
        rw [List.drop_length] at hlc
        cases hlc
        refine .inl ⟨wk.stops H2 (hG G2 H2 T.ext.sub T.st.le), ?_⟩
        obtain ⟨sr, or_⟩ := st1.restore T.st T.ext T.own
        obtain ⟨xs, h2D, ra⟩ := T.at'
        refine q G2 H2 (e1.trans T.ext fun p z => .inl (o1 p (ow1 p z))) sr (fun p z => o1 p (or_ p z)) (.ref D) ⟨D, rfl, T.g, fun z => ?_, ⟨xs, h2D, ra⟩, e1.fresh hD⟩
        obtain ⟨u, hu⟩ := st1.own_some (or_ D z)
        rw [hD] at hu; cases hu
end
end E2
end

section
set_option Elab.async false
set_option linter.all false
set_option maxRecDepth 100000
set_option maxHeartbeats 4000000
/-! E32: sets of tuples of ints made of a list of any length that has few distinct items. -/
namespace E2
open PySem PySem.Spec PyProof.Rows L2
theorem nodup_le {α : Type} [DecidableEq α] : ∀ {l D : List α}, l.Nodup → (∀ x ∈ l, x ∈ D) → l.length ≤ D.length
  | [], D, _, _ => Nat.zero_le _
  | x :: l, D, n, h => by
    have n := List.nodup_cons.mp n
    have hx := h x List.mem_cons_self
    have := nodup_le (l := l) (D := D.erase x) n.2 fun y hy => (List.mem_erase_of_ne fun e => n.1 (by rw [← e]; exact hy)).mpr (h y (List.mem_cons_of_mem _ hy))
    rw [List.length_erase_of_mem hx] at this
    have := List.length_pos_of_mem hx
    simp only [List.length_cons]
    omega
theorem perm_map {α β : Type} {f : α → β} : ∀ {vs ws : List β}, vs.Perm ws → ∀ L : List α, ws = L.map f → ∃ L1 : List α, L1.Perm L ∧ vs = L1.map f := by
  intro vs ws pm
  induction pm with
  | nil => exact fun L e => ⟨L, .refl _, e⟩
  | cons x _ ih =>
    intro L e
    cases L with
    | nil => cases e
    | cons y L =>
      cases e
      obtain ⟨L1, p, rfl⟩ := ih L rfl
      exact ⟨y :: L1, p.cons y, rfl⟩
  | swap x y l =>
    intro L e
    cases L with
    | nil => cases e
    | cons u L =>
      cases L with
      | nil => cases e
      | cons v L => cases e; exact ⟨v :: u :: L, .swap _ _ _, rfl⟩
  | trans _ _ ih1 ih2 =>
    intro L e
    obtain ⟨L1, p1, e1⟩ := ih2 L e
    obtain ⟨L2, p2, e2⟩ := ih1 L1 e1
    exact ⟨L2, p2.trans p1, e2⟩
section
variable {P : Program} {w : World} {A : Around}
abbrev TsNew (w : World) : Obj := { cls := .type "set", dict := none, data := .set #[] 0 (.fresh 0 0 (!w.params.followText "set-order")) }
/-- the set at S has got the first i of ks -/
def TsAt (P : Program) (w : World) (ks : List (Addr × List Int)) (S : Addr) (i : Nat) (h : Heap) : Prop := ∃ L es ep t, SetTR P w h S L es ep t ∧ Got ks i L
def Keeps (h h' : Heap) : Prop := ∀ b o, h.get? b = some o → h'.get? b = some o
theorem TsAt.few {ks : List (Addr × List Int)} {S : Addr} {i : Nat} {h : Heap} {L : List (Addr × List Int)} {es : Array (Int × Value)} {ep : Nat} {t : SetTable} {D : List (List Int)} (hD : ∀ p ∈ ks, p.2 ∈ D)
    (R : SetTR P w h S L es ep t) (g : Got ks i L) : L.length ≤ D.length := by
  rw [← List.length_map (f := (·.2))]
  refine nodup_le R.nd fun x hx => ?_
  obtain ⟨p, hp, rfl⟩ := List.mem_map.mp hx
  exact hD p (List.mem_of_mem_take (g.sub p hp))
/-- one item more -/
theorem ts_add {ks : List (Addr × List Int)} {D : List (List Int)} (hD : ∀ p ∈ ks, p.2 ∈ D) (few : D.length ≤ 62) {S : Addr} {base : Heap} (fresh : base.get? S = none) (tups : ∀ p ∈ ks, IsT P w base p.2 p.1) (hu : A.units < cLine) {i : Nat} {p : Addr × List Int} (at' : ks[i]? = some p)
    {E : Value → Shared → Prop} {Q : Bool → Shared → Prop} {s1 : Shared} (kp : Keeps base s1.heap) (T : TsAt P w ks S i s1.heap)
    (go : ∀ b h' tk, s1.toks ≤ tk → Heap.SameBut S s1.heap h' → Keeps base h' → TsAt P w ks S (i + 1) h' → Q b { s1 with heap := h', toks := tk }) : wpAny (model P w) A (holding [Value.ref p.1] (setAdd S (.ref p.1))) Q E s1 := by
  obtain ⟨L, es, ep, t, R, g⟩ := T
  have tup : IsT P w s1.heap p.2 p.1 := isT_keep (tups p (List.mem_of_getElem? at')) kp
  have lim := TsAt.few hD R g
  refine wpAny_holding ?_
  unfold setAdd
  refine wpAny_holding (wpAny_bind (wpAny_pyHash_tuple hu tup ?_))
  refine add_at (s := { s1 with toks := s1.toks + (p.2.length + 1) }) R tup hu (by omega) fun b hp' L' es' ep' t' same R' old new => ?_
  refine go _ _ _ (Nat.le_add_right _ _) same (fun c o e => ?_) ⟨L', es', ep', t', R', ?_⟩
  · rw [same.2 c fun z => by rw [z, fresh] at e; cases e]
    exact kp c o e
  · by_cases hm : p.2 ∈ L.map (·.2)
    · rw [old hm]; exact g.same at' hm
    · exact g.more at' (new hm)
/-- all items, from the i-th on -/
theorem ts_loop {It : Addr} {foot wr : List Addr} {GG : Array GenState → Array GenState → Prop} {yld : Nat → Value → Prop} {St : Nat → Shared → Prop} {Res : Result → Shared → Prop} {ks : List (Addr × List Int)} {D : List (List Int)} {S : Addr} {base : Heap}
    (walk : WalksS P w A.in1 It foot wr GG ks.length yld St) (out : S ∉ foot) (gives : ∀ i v, yld i v → ∃ p, ks[i]? = some p ∧ v = .ref p.1) (hD : ∀ p ∈ ks, p.2 ∈ D) (few : D.length ≤ 62) (fresh : base.get? S = none)
    (newW : ∀ b ∈ wr, base.get? b = none) (tups : ∀ p ∈ ks, IsT P w base p.2 p.1) (hu : A.in1.units < cLine) : ∀ (left i : Nat) (s1 : Shared), left + i = ks.length → St i s1 → Keeps base s1.heap → TsAt P w ks S i s1.heap →
      (∀ s2, Moved (S :: wr) GG s1 s2 → Keeps base s2.heap → TsAt P w ks S ks.length s2.heap → Res (.ok (.ret .none)) s2) → codeAny (model P w) A (.builtin "set.update.loop" ⟨[.ref S, .ref It], []⟩) Res s1 := by
  have out2 : S ∉ wr := fun z => out (walk.sub _ z)
  have wide : ∀ b ∈ wr, b ∈ S :: wr := fun b hb => List.mem_cons.mpr (.inr hb)
  have kept : ∀ {s1 s2 : Shared}, Moved wr GG s1 s2 → Keeps base s1.heap → Keeps base s2.heap := fun mv kp b o e => mv.heap b o (fun z => by have := newW b z; rw [this] at e; cases e) (kp b o e)
  have stays : ∀ {i : Nat} {s1 s2 : Shared}, Moved wr GG s1 s2 → Keeps base s2.heap → TsAt P w ks S i s1.heap → TsAt P w ks S i s2.heap := fun mv kp ⟨L, es, ep, t, R, g⟩ =>
    ⟨L, es, ep, t, R.keep (fun o e => mv.heap S o out2 e) fun p hp => isT_keep (tups p (List.mem_of_mem_take (g.sub p hp))) kp, g⟩
  intro left
  induction left with
  | zero =>
    intro i s1 hi st kp T res
    have hi : i = ks.length := by omega
    subst hi
    refine codeAny_builtin F.entry_set_update_loop ?_
    rw [Around.under_plainId F.plain_set_update_loop _]
    show wpAny (model P w) A.in1 (pyNext (.ref It) >>= _) _ _ s1
    refine wpAny_bind (walk.done s1 _ _ st fun s2 mv => ?_)
    have kp2 := kept mv kp
    exact wpAny_pure (res s2 (mv.mono wide) kp2 (stays mv kp2 T))
  | succ left ih =>
    intro i s1 hi st kp T res
    refine codeAny_builtin F.entry_set_update_loop ?_
    rw [Around.under_plainId F.plain_set_update_loop _]
    show wpAny (model P w) A.in1 (pyNext (.ref It) >>= _) _ _ s1
    refine wpAny_bind (walk.item i s1 _ _ (by omega) st fun v s2 hv st2 mv => ?_)
    obtain ⟨p, hp, rfl⟩ := gives i v hv
    have kp2 := kept mv kp
    show wpAny (model P w) A.in1 (holding [Value.ref p.1] (setAdd S (.ref p.1)) >>= _) _ _ s2
    refine wpAny_bind (ts_add hD few fresh tups hu hp kp2 (stays mv kp2 T) fun b h3 tk le same kp3 T3 => ?_)
    refine wpAny_pure ⟨plainId_quiet F.plain_set_update_loop _, ih (i + 1) _ (by omega) (walk.frame _ s2 _ _ st2 le fun b hb o e => ?_) kp3 T3 fun s4 mv4 kp4 T4 => res s4 ?_ kp4 T4⟩
    · rw [same.2 b fun z => out (by rw [← z]; exact hb)]
      exact e
    · refine Moved.trans walk.gtrans ((mv.mono wide).then_heap le fun b o hb e => ?_) mv4
      rw [same.2 b fun z => hb (by rw [z]; exact List.mem_cons_self)]
      exact e
set_option maxHeartbeats 3200000 in
/-- set(xs), xs a list of tuples of ints with few distinct ones -/
theorem ts_call {l : Addr} {xs : Array Value} {ks : List (Addr × List Int)} {D : List (List Int)} {E : Value → Shared → Prop} {Q : Value → Shared → Prop} {s0 : Shared} (calm : A.handled = none) (isl : s0.heap.IsList l xs) (are : xs.toList = ks.map fun p => Value.ref p.1)
    (tups : ∀ p ∈ ks, IsT P w s0.heap p.2 p.1) (hD : ∀ p ∈ ks, p.2 ∈ D) (few : D.length ≤ 62) (hu : A.units + 3 < cLine)
    (go : ∀ (h2 : Heap) (tk : Nat), Keeps s0.heap h2 → TsAt P w ks s0.heap.objs.size ks.length h2 → Q (.ref s0.heap.objs.size) { s0 with heap := h2, toks := tk }) : wpAny (model P w) A (call (.type "set") [.ref l]) Q E s0 := by
  have len : xs.size = ks.length := by
    rw [← Array.length_toList, are, List.length_map]
  obtain ⟨mc, mt, q1⟩ := F.called_set.mro
  have q2 := F.called_set.made
  have q3 := F.called_set.sub
  refine wpAny_call (codeAny_of_tree ?_)
  show wpAny _ _ (callAny (.type "set") _) _ _ _
  refine wpAny_pure ⟨Code.quiet_builtin _ (by kernel_rfl), codeAny_builtin F.entry_type_call ?_⟩
  rw [Around.under_plain (weight_type_call_type "set" [.ref l] []) rfl]
  have q4 := F.called_set.notType
  have q5 := F.called_set.canCreate
  have q6 := F.typeCall_set_1 (.ref l)
  repeat (any_goals (first | assumption | wp_step))
  let hp1 := s0.heap.push (TsNew w)
  refine codeAny_mono (code_set_led1 (.ref l) (E := E) (Q₁ := fun v s1 => v = .ref s0.heap.objs.size ∧ s1 = { s0 with heap := hp1 }) ⟨rfl, rfl⟩) fun out s1 h1 => ?_
  rcases out with _ | fl
  · exact h1
  cases fl
  case ret v =>
    obtain ⟨rfl, rfl⟩ := h1
    have g1 : hp1.get? s0.heap.objs.size = some (TsNew w) := Heap.get?_push_size _ rfl
    have ty : Shared.TypeIs { s0 with heap := hp1 } (.ref s0.heap.objs.size) "set" := ⟨_, g1, rfl⟩
    have q7 := F.called_set.init.lookup
    have q8 := F.called_set.init.bind (.ref s0.heap.objs.size)
    repeat (any_goals (first | assumption | wp_step))
    refine codeAny_mono (codeAny_call_builtin (R := wants (fun v s2 => v = .none ∧ ∃ h2 tk, s2 = { s0 with heap := h2, toks := tk } ∧ Keeps s0.heap h2 ∧ TsAt P w ks s0.heap.objs.size ks.length h2) E) F.called_set.init.plain F.entry_set_init (check_set_init_1 ty ?_)) fun out2 s2 h2 => ?_
    · obtain ⟨ob, ho, hc, nn, hd⟩ := isl
      obtain ⟨oc, od, oa, os⟩ := ob
      dsimp only at hc hd
      subst hc
      subst hd
      have g2 : hp1.get? l = some { cls := .type "list", dict := od, data := .seq xs nn, slots := os } := Heap.get?_push_of_some _ ho
      have q9 := F.sub_list_set
      have q10 := F.sub_list_frozenset
      have q11 : (Value.type "list" == Value.type "dict") = false := by decide
      have isl1 : hp1.IsList l xs := ⟨_, g2, rfl, nn, rfl⟩
      unfold Builtin.«set.__init__» noKeywords Builtin.Frozenset.updateFrom
      generalize hit : pyIter = IT
      wp_walk
      subst hit
      refine wpAny_pyIter_list isl1 (wpAny_bind (wpAny_runValue ?_))
      have lt : l < s0.heap.objs.size := Heap.lt_size ho
      have sz : hp1.objs.size = s0.heap.objs.size + 1 := Heap.size_push ..
      have ne : l ≠ hp1.objs.size := Nat.ne_of_lt (by rw [sz]; exact Nat.lt_succ_of_lt lt)
      have off : ∀ b, s0.heap.objs.size ≤ b → s0.heap.get? b = none := fun b hb => by
        cases e : s0.heap.get? b with
        | none => rfl
        | some u => exact absurd (Nat.lt_of_lt_of_le (Heap.lt_size e) hb) (Nat.lt_irrefl _)
      refine ts_loop (base := s0.heap) (ks := ks) (len ▸ (Walks.list (by simp [calm]) _ l ne xs).toS) ?_ (fun i v hv => ?_) hD few (off _ (Nat.le_refl _)) (fun b hb => off b (by rw [List.mem_singleton.mp hb, sz]; exact Nat.le_succ _)) tups hu ks.length 0 _ rfl
        ⟨⟨_, Heap.get?_push_size _ rfl, rfl, rfl⟩, isl1.push _⟩ (fun b o e => Heap.get?_push_of_some _ (Heap.get?_push_of_some _ e)) ⟨[], #[], 0, _, setTR_fresh (Heap.get?_push_of_some _ g1), Got.zero ks⟩ fun s3 mv kp T => ?_
      · intro z
        rcases List.mem_cons.mp z with z | z
        · exact Nat.ne_of_lt (Nat.lt_succ_self _) (z.trans sz)
        · exact Nat.ne_of_gt lt (List.mem_singleton.mp z)
      · have e : xs.toList[i]? = some v := by rw [Array.getElem?_toList]; exact hv
        rw [are, List.getElem?_map] at e
        obtain ⟨p, e1, e2⟩ := Option.map_eq_some_iff.mp e
        exact ⟨p, e1, e2.symm⟩
      · obtain ⟨h3, gn, dr, tk, os3⟩ := s3
        cases (show gn = s0.gens from mv.gens)
        cases (show dr = s0.drawn from mv.drawn)
        cases (show os3 = s0.os from mv.os)
        show wpAny _ _ _ _ _ _
        refine wpAny_pure ?_
        show wpAny _ _ (ret Value.none) _ _ _
        exact wpAny_pure ⟨rfl, h3, tk, rfl, kp, T⟩
    · rcases out2 with _ | fl2
      · exact h2
      cases fl2
      case ret v =>
        obtain ⟨rfl, h3, tk, rfl, kp, T⟩ := h2
        repeat (any_goals (first | assumption | wp_step))
        exact go _ _ kp T
      all_goals exact h2.elim
  all_goals exact h1.elim
end
end E2
end

section
set_option Elab.async false
set_option linter.all false
set_option maxRecDepth 100000
set_option maxHeartbeats 4000000
/-! E32b: sets of ints made of a list. -/
namespace E2
open PySem PySem.Spec PyProof.Rows L2
section
variable {P : Program} {w : World} {A : Around}
set_option maxHeartbeats 3200000 in
/-- set(xs), xs a list of ints -/
theorem is_call {l : Addr} {xs : Array Value} {ns : List Int} {E : Value → Shared → Prop} {Q : Value → Shared → Prop} {s0 : Shared} (calm : A.handled = none) (isl : s0.heap.IsList l xs) (are : IntsAre xs.toList ns)
    (hb : ns.length + 1 < scanBound) (go : ∀ (h2 : Heap) (tk c : Nat), Keeps s0.heap h2 → SetR w h2 s0.heap.objs.size (fun j => decide (j ∈ ns)) c → Q (.ref s0.heap.objs.size) { s0 with heap := h2, toks := tk }) : wpAny (model P w) A (call (.type "set") [.ref l]) Q E s0 := by
  have len : xs.size = ns.length := by
    rw [← Array.length_toList]
    exact IntsAre.length are
  obtain ⟨mc, mt, q1⟩ := F.called_set.mro
  have q2 := F.called_set.made
  have q3 := F.called_set.sub
  refine wpAny_call (codeAny_of_tree ?_)
  show wpAny _ _ (callAny (.type "set") _) _ _ _
  refine wpAny_pure ⟨Code.quiet_builtin _ (by kernel_rfl), codeAny_builtin F.entry_type_call ?_⟩
  rw [Around.under_plain (weight_type_call_type "set" [.ref l] []) rfl]
  have q4 := F.called_set.notType
  have q5 := F.called_set.canCreate
  have q6 := F.typeCall_set_1 (.ref l)
  repeat (any_goals (first | assumption | wp_step))
  let hp1 := s0.heap.push (TsNew w)
  refine codeAny_mono (code_set_led1 (.ref l) (E := E) (Q₁ := fun v s1 => v = .ref s0.heap.objs.size ∧ s1 = { s0 with heap := hp1 }) ⟨rfl, rfl⟩) fun out s1 h1 => ?_
  rcases out with _ | fl
  · exact h1
  cases fl
  case ret v =>
    obtain ⟨rfl, rfl⟩ := h1
    have g1 : hp1.get? s0.heap.objs.size = some (TsNew w) := Heap.get?_push_size _ rfl
    have ty : Shared.TypeIs { s0 with heap := hp1 } (.ref s0.heap.objs.size) "set" := ⟨_, g1, rfl⟩
    have q7 := F.called_set.init.lookup
    have q8 := F.called_set.init.bind (.ref s0.heap.objs.size)
    repeat (any_goals (first | assumption | wp_step))
    refine codeAny_mono (codeAny_call_builtin (R := wants (fun v s2 => v = .none ∧ ∃ h2 tk c, s2 = { s0 with heap := h2, toks := tk } ∧ Keeps s0.heap h2 ∧ SetR w h2 s0.heap.objs.size (fun j => decide (j ∈ ns)) c) E) F.called_set.init.plain F.entry_set_init (check_set_init_1 ty ?_)) fun out2 s2 h2 => ?_
    · obtain ⟨ob, ho, hc, nn, hd⟩ := isl
      obtain ⟨oc, od, oa, os⟩ := ob
      dsimp only at hc hd
      subst hc
      subst hd
      have g2 : hp1.get? l = some { cls := .type "list", dict := od, data := .seq xs nn, slots := os } := Heap.get?_push_of_some _ ho
      have q9 := F.sub_list_set
      have q10 := F.sub_list_frozenset
      have q11 : (Value.type "list" == Value.type "dict") = false := by decide
      have isl1 : hp1.IsList l xs := ⟨_, g2, rfl, nn, rfl⟩
      unfold Builtin.«set.__init__» noKeywords Builtin.Frozenset.updateFrom
      generalize hit : pyIter = IT
      wp_walk
      subst hit
      refine wpAny_pyIter_list isl1 (wpAny_bind (wpAny_runValue ?_))
      have lt : l < s0.heap.objs.size := Heap.lt_size ho
      have sz : hp1.objs.size = s0.heap.objs.size + 1 := Heap.size_push ..
      have ne : l ≠ hp1.objs.size := Nat.ne_of_lt (by rw [sz]; exact Nat.lt_succ_of_lt lt)
      refine set_update_ints ((Walks.list (by simp [calm]) _ l ne xs).toS) s0.heap.objs.size ?_ ns len hb (fun i v hv => ?_) (xs.size - 0) 0 _ rfl (Nat.zero_le _)
        ⟨⟨_, Heap.get?_push_size _ rfl, rfl, rfl⟩, isl1.push _⟩ ⟨0, Nat.le_refl 0, setR_new_at (Heap.get?_push_of_some _ g1)⟩ fun s3 c mv hc R => ?_
      · intro z
        rcases List.mem_cons.mp z with z | z
        · exact Nat.ne_of_lt (Nat.lt_succ_self _) (z.trans sz)
        · exact Nat.ne_of_gt lt (List.mem_singleton.mp z)
      · have hi : i < ns.length := by rw [← len]; exact (Array.getElem?_eq_some_iff.mp hv).1
        obtain ⟨t, e⟩ := IntsAre.int_at are i v (by rw [Array.getElem?_toList]; exact hv)
        refine ⟨ns[i], t, List.getElem?_eq_getElem hi, ?_⟩
        rw [e, List.getD_eq_getElem?_getD, List.getElem?_eq_getElem hi] <;> rfl
      · obtain ⟨h3, gn, dr, tk, os3⟩ := s3
        cases (show gn = s0.gens from mv.gens)
        cases (show dr = s0.drawn from mv.drawn)
        cases (show os3 = s0.os from mv.os)
        show wpAny _ _ _ _ _ _
        refine wpAny_pure ?_
        show wpAny _ _ (ret Value.none) _ _ _
        refine wpAny_pure ⟨rfl, h3, tk, c, rfl, fun b o e => ?_, R⟩
        have b0 : b < s0.heap.objs.size := Heap.lt_size e
        refine mv.heap b o (fun z => ?_) (Heap.get?_push_of_some _ (Heap.get?_push_of_some _ e))
        rcases List.mem_cons.mp z with z | z
        · exact Nat.ne_of_lt b0 z
        · exact Nat.ne_of_lt (Nat.lt_succ_of_lt b0) ((List.mem_singleton.mp z).trans sz)
    · rcases out2 with _ | fl2
      · exact h2
      cases fl2
      case ret v =>
        obtain ⟨rfl, h3, tk, c, rfl, kp, R⟩ := h2
        repeat (any_goals (first | assumption | wp_step))
        exact go _ _ _ kp R
      all_goals exact h2.elim
  all_goals exact h1.elim
end
section
variable {X : Cx}
/-- how many: each once -/
theorem setR_few {w : World} {h : Heap} {a : Addr} {ns D : List Int} {c : Nat} (R : SetR w h a (fun j => decide (j ∈ ns)) c) (hD : ∀ n ∈ ns, n ∈ D) : c ≤ D.length := by
  obtain ⟨o, es, ep, t, h1, h2, h3, h4, nd, iff, h5, h6, rfl, h7⟩ := R
  rw [← Array.length_toList, ← List.length_map (f := keyOf)]
  exact nodup_le nd fun x hx => hD x (of_decide_eq_true ((iff x).mpr hx))
def rSetI (X : Cx) : List V → Hp → VK → Prop := fun vs H Q => ∃ (l : Addr) (ns D : List Int), vs = [.ref l] ∧ Rd H l (.lst (ns.map V.int)) ∧ ns.length ≤ 4000 ∧ (∀ n ∈ ns, n ∈ D) ∧ D.length < 64 ∧
  ∀ a c, H a = none → c ≤ D.length → Q (.ref a) (upd H a (SetO X.w a (fun j => decide (j ∈ ns)) c))
theorem cr_setI (hc : X.calm = true) : CallR X (.type "set") (rSetI X) := by
  intro pins s σ H xs us Q I r ⟨l, ns, D, e, hR, lim, hD, few, q⟩
  subst e
  obtain ⟨u, rfl, rx⟩ := vals1 r
  cases (show u = Value.ref l from rx)
  obtain ⟨hz, its, n, rv, hl, ho⟩ := lstR I hR
  have hn : H s.heap.objs.size = none := I.hok.fresh (Nat.le_refl _)
  refine is_call (xs := its.toArray) (ns := ns) (I.ok.hd hc) ⟨_, ho, rfl, n, rfl⟩ (by simpa using intsAre_of rv) (by unfold scanBound; omega) fun h2 tk c kp R => ?_
  exact ⟨.ref s.heap.objs.size, upd H s.heap.objs.size (SetO X.w s.heap.objs.size (fun j => decide (j ∈ ns)) c), I.laid (t' := tk) kp (Nat.le_refl _) (setO_new R), rfl, q _ _ hn (setR_few R hD)⟩
end
end E2
end

section
set_option Elab.async false
set_option linter.all false
set_option maxRecDepth 100000
set_option maxHeartbeats 4000000
/-! E33: sorted(set(xs)), xs a list of tuples of ints. -/
namespace E2
open PySem PySem.Spec PyProof.Rows L2
def tz (k : List Int) : Dt := .tup (k.map .int)
def tupI : Dt → Option (List Int)
  | .tup ds => intsD ds
  | _ => none
def tupIs : List Dt → Option (List (List Int))
  | [] => some []
  | d :: ds => match tupI d, tupIs ds with
    | some k, some ks => some (k :: ks)
    | _, _ => none
theorem intsD_iff : ∀ {ds : List Dt} {k : List Int}, intsD ds = some k → ds = k.map .int
  | [], _, h => by cases h; rfl
  | d :: ds, k, h => by
    cases d with
    | int i =>
      obtain ⟨k', e, rfl⟩ := Option.map_eq_some_iff.mp (show (intsD ds).map (i :: ·) = some k from h)
      rw [intsD_iff e]; rfl
    | _ => cases h
theorem tupI_iff {d : Dt} {k : List Int} (h : tupI d = some k) : d = tz k := by
  cases d with
  | tup ds => rw [intsD_iff (show intsD ds = some k from h)]; rfl
  | _ => cases h
theorem tupIs_iff : ∀ {ds : List Dt} {ks : List (List Int)}, tupIs ds = some ks → ds = ks.map tz
  | [], _, h => by cases h; rfl
  | d :: ds, ks, h => by
    have h : (match tupI d, tupIs ds with
      | some k, some ks => some (k :: ks)
      | _, _ => none) = some ks := h
    cases e1 : tupI d with
    | none => rw [e1] at h; cases h
    | some k =>
      cases e2 : tupIs ds with
      | none => rw [e1, e2] at h; cases h
      | some ks' =>
        rw [e1, e2] at h
        cases h
        rw [tupI_iff e1, tupIs_iff e2]; rfl
/-- each once -/
def dd {α : Type} [DecidableEq α] : List α → List α
  | [] => []
  | x :: xs => if x ∈ dd xs then dd xs else x :: dd xs
theorem mem_dd {α : Type} [DecidableEq α] {x : α} : ∀ {l : List α}, x ∈ dd l ↔ x ∈ l
  | [] => Iff.rfl
  | y :: l => by
    unfold dd
    split
    · rename_i h
      rw [mem_dd (l := l), List.mem_cons]
      constructor
      · exact .inr
      · rintro (rfl | z)
        · exact mem_dd.mp h
        · exact z
    · rw [List.mem_cons, List.mem_cons, mem_dd (l := l)]
theorem dd_nodup {α : Type} [DecidableEq α] : ∀ l : List α, (dd l).Nodup
  | [] => .nil
  | y :: l => by
    unfold dd
    split
    · exact dd_nodup l
    · rename_i h
      exact List.nodup_cons.mpr ⟨h, dd_nodup l⟩
def leI (a b : List Int) : Bool := decide (a ≤ b)
def sortI (ks : List (List Int)) : List (List Int) := msF leI ks.length ks
theorem sortI_ms (ks : List (List Int)) : sortI ks = ks.mergeSort leI := msF_eq leI _ _ (Nat.le_refl _)
theorem pyAll_ints : ∀ k : List Int, pyAll (k.map Dt.int) = k.map .int
  | [] => rfl
  | i :: k => by rw [List.map_cons, List.map_cons, ← pyAll_ints k]; rfl
theorem leP_tz (a b : List Int) : leP (tz a) (tz b) = leI a b := by
  unfold leP tz leI
  rw [show py (.tup (b.map .int)) = .tuple (b.map .int) by rw [py, pyAll_ints], show py (.tup (a.map .int)) = .tuple (a.map .int) by rw [py, pyAll_ints], PySem.W.dataLt_tuple]
  show (!PySem.W.rowLt (b.map .int) (a.map .int)) = _
  rw [PySem.W.dataLt_ints]
  by_cases h : b < a
  · simp [h, List.not_le.mpr h]
  · simp [h, List.not_lt.mp h]
theorem sortD_tz (ks : List (List Int)) : sortD (ks.map tz) = (sortI ks).map tz := by
  rw [sortD_ms, sortI_ms, List.map_mergeSort (r := leI) (s := leP) (f := tz) fun a _ b _ => (leP_tz a b).symm]
theorem leI_trans (a b c : List Int) (h1 : leI a b = true) (h2 : leI b c = true) : leI a c = true := by
  unfold leI at *
  rw [decide_eq_true_eq] at *
  exact List.le_trans h1 h2
theorem leI_total (a b : List Int) : (leI a b || leI b a) = true := by
  unfold leI
  rw [Bool.or_eq_true, decide_eq_true_eq, decide_eq_true_eq]
  exact List.le_total a b
theorem leI_anti {a b : List Int} (h1 : leI a b = true) (h2 : leI b a = true) : a = b := by
  unfold leI at *
  rw [decide_eq_true_eq] at *
  exact List.le_antisymm h1 h2
theorem sortI_up (ks : List (List Int)) : (sortI ks).Pairwise fun a b => leI a b = true := by rw [sortI_ms]; exact List.pairwise_mergeSort leI_trans leI_total ks
theorem sortI_perm (ks : List (List Int)) : (sortI ks).Perm ks := by rw [sortI_ms]; exact List.mergeSort_perm ks leI
theorem sortI_eq {ks js : List (List Int)} (h : ks.Perm js) : sortI ks = sortI js :=
  List.Perm.eq_of_pairwise (fun a b _ _ h1 h2 => leI_anti h1 h2) (sortI_up ks) (sortI_up js) (((sortI_perm ks).trans h).trans (sortI_perm js).symm)
theorem mem_sortI {ks : List (List Int)} {k : List Int} : k ∈ sortI ks ↔ k ∈ ks := (sortI_perm ks).mem_iff
/-- sorted(set(xs)) -/
def setI (ks : List (List Int)) : List (List Int) := sortI (dd ks)
/-- sorted(set(ns)), of ints -/
def sortN (ns : List Int) : List Int := msF (fun a b => decide (a ≤ b)) (dd ns).length (dd ns)
theorem sortN_ms (ns : List Int) : sortN ns = (dd ns).mergeSort fun a b => decide (a ≤ b) := msF_eq _ _ _ (Nat.le_refl _)
theorem sortN_up (ns : List Int) : (sortN ns).Pairwise (· < ·) := by
  have h1 : (sortN ns).Pairwise fun a b => decide (a ≤ b) = true := by rw [sortN_ms]; exact List.pairwise_mergeSort (fun a b c x y => by rw [decide_eq_true_eq] at *; omega) (fun a b => by rw [Bool.or_eq_true, decide_eq_true_eq, decide_eq_true_eq]; omega) _
  have h2 : (sortN ns).Nodup := by rw [sortN_ms]; exact (List.mergeSort_perm _ _).nodup_iff.mpr (dd_nodup ns)
  exact h1.imp₂ (fun a b x y => by rw [decide_eq_true_eq] at x; omega) h2
theorem mem_sortN {ns : List Int} {k : Int} : k ∈ sortN ns ↔ k ∈ ns := by rw [sortN_ms]; exact ((List.mergeSort_perm _ _).mem_iff).trans mem_dd
theorem sortN_is {ns js : List Int} (u : js.Pairwise (· < ·)) (h : ∀ k, k ∈ js ↔ k ∈ ns) : sortN ns = js := by
  refine List.Perm.eq_of_pairwise (le := (· < ·)) (fun a b _ _ h1 h2 => absurd h1 (by omega)) (sortN_up ns) u ((List.perm_ext_iff_of_nodup ?_ ?_).mpr fun k => ?_)
  · exact (sortN_up ns).imp fun h => by omega
  · exact u.imp fun h => by omega
  · rw [mem_sortN, h]
def setSortD : List Dt → Option Slot
  | [.lst ds] => match tupIs ds with
    | some ks => if (dd ks).length ≤ 62 ∧ (ks.all fun k => k ≠ []) = true then some (.ow (.lst ((setI ks).map tz))) else none
    | none => match intsD ds with
      | some ns => if (dd ns).length < 64 ∧ ns.length ≤ 4000 then some (.ow (.lst ((sortN ns).map .int))) else none
      | none => none
  | _ => none
theorem flat_ints (n : Nat) : ∀ k : List Int, flatAll n (k.map Dt.int) = true
  | [] => by simp [flatAll]
  | i :: k => by simp only [List.map_cons, flatAll, flat_ints n k, Bool.and_true]; cases n <;> simp [flat]
theorem flat_tzs (n : Nat) : ∀ ks : List (List Int), flatAll (n + 1) (ks.map tz) = true
  | [] => by simp [flatAll]
  | k :: ks => by simp only [List.map_cons, flatAll, flat_tzs n ks, tz, flat, flat_ints, Bool.and_true]
theorem alike_ints : ∀ k j : List Int, PySem.W.alikeAll (k.map .int) (j.map .int) = true
  | [], j => by simp [PySem.W.alikeAll]
  | _ :: _, [] => by simp [PySem.W.alikeAll]
  | a :: k, b :: j => by simp [PySem.W.alikeAll, PySem.W.alike, alike_ints k j]
theorem sortOk_tz {ks : List (List Int)} (h : ∀ k ∈ ks, k ≠ []) : sortOk (ks.map tz) = true := by
  unfold sortOk
  rw [flat_tzs 57 ks, Bool.true_and, Bool.and_eq_true, Bool.or_eq_true]
  refine ⟨?_, .inl ?_⟩
  · rw [List.all_map, List.all_eq_true]
    intro k _
    show ((ks.map tz).all fun e => PySem.W.alike (py (tz k)) (py e)) = true
    rw [List.all_map, List.all_eq_true]
    intro j _
    show PySem.W.alike (py (tz k)) (py (tz j)) = true
    unfold tz
    rw [py, py, pyAll_ints, pyAll_ints, PySem.W.alike]
    exact alike_ints k j
  · rw [List.all_map, List.all_eq_true]
    intro k hk
    cases k with
    | nil => exact absurd rfl (h _ hk)
    | cons a k => rfl
section
variable {X : Cx} {G G' H H' : Hp} {pins : List (Addr × Obj)} {σ : L2.St} {ρ : Env} {s : Shared} {W : WX}
def rSetQ (X : Cx) : List V → Hp → VK → Prop := fun vs H Q => ∃ (l : Addr) (ks : List (Addr × List Int)) (D : List (List Int)), vs = [.ref l] ∧ Rd H l (.lst (ks.map fun p => .ref p.1)) ∧ (∀ p ∈ ks, H p.1 = some (.tup (p.2.map V.int))) ∧ (∀ p ∈ ks, p.2 ∈ D) ∧ D.length ≤ 62 ∧
  ∀ a L, H a = none → (L.map (·.2)).Nodup → (∀ p ∈ L, p ∈ ks) → (∀ p ∈ ks, p.2 ∈ L.map (·.2)) → Q (.ref a) (upd H a (SetTO X.prog X.w a L))
theorem cr_setQ (hc : X.calm = true) (hu : X.A.units + 64 < cLine) : CallR X (.type "set") (rSetQ X) := by
  intro pins s σ H xs us Q I r ⟨l, ks, D, e, hR, ht, hD, few, q⟩
  subst e
  obtain ⟨u, rfl, rx⟩ := vals1 r
  cases (show u = Value.ref l from rx)
  obtain ⟨hz, its, n, rv, hl, ho⟩ := lstR I hR
  have hn : H s.heap.objs.size = none := I.hok.fresh (Nat.le_refl _)
  refine ts_call (xs := its.toArray) (ks := ks) (I.ok.hd hc) ⟨_, ho, rfl, n, rfl⟩ (by simpa using refs_of_vals rv) (fun p hp => I.isT (.inl (.inl (ht p hp)))) hD few (by omega) fun h2 tk kp ⟨L, es, ep, t, R, g⟩ => ?_
  refine ⟨.ref s.heap.objs.size, upd H s.heap.objs.size (SetTO X.prog X.w s.heap.objs.size L), I.laid (t' := tk) kp (Nat.le_refl _) (setTO_new R.t0), rfl, q _ L hn R.nd (fun p hp => List.mem_of_mem_take (g.sub p hp)) fun p hp => ?_⟩
  exact g.all p (by rw [List.take_length]; exact hp)
def rSetS (X : Cx) : List V → Hp → VK → Prop := fun vs H Q => ∃ (a : Addr) (L : List (Addr × List Int)) (G : Hp), vs = [.ref a] ∧ H a = some (SetTO X.prog X.w a L) ∧ Le G H ∧ (∀ p ∈ L, G p.1 = some (.tup (p.2.map V.int))) ∧ (∀ p ∈ L, p.2 ≠ []) ∧
  ∀ xs p, RpAll X.K X.mg G xs ((sortI (L.map (·.2))).map tz) → H p = none → Q (.ref p) (upd H p (.lst xs))
theorem rp_intsV (K : PySem.W.Frag) (mg : Str → Option Value) (G : Hp) : ∀ k : List Int, RpAll K mg G (k.map V.int) (k.map .int)
  | [] => .nil
  | i :: k => .cons (.int i) (rp_intsV K mg G k)
theorem rp_rows {K : PySem.W.Frag} {mg : Str → Option Value} {G : Hp} : ∀ {L : List (Addr × List Int)}, (∀ p ∈ L, G p.1 = some (.tup (p.2.map V.int))) → RpAll K mg G (L.map fun p => V.ref p.1) ((L.map (·.2)).map tz)
  | [], _ => .nil
  | p :: L, h => .cons (.tup (h p List.mem_cons_self) (rp_intsV K mg G p.2)) (rp_rows fun q hq => h q (List.mem_cons_of_mem _ hq))
theorem cr_setS (hc : X.calm = true) (hu : X.A.units + 70 < cLine) : CallR X (.builtin "sorted") (rSetS X) := by
  intro pins s σ H xs us Q I r ⟨a, L, G, e, hS, l, hG, ne, q⟩
  subst e
  obtain ⟨u, rfl, rx⟩ := vals1 r
  cases (show u = Value.ref a from rx)
  have R0 : SetT0 X.prog X.w s.heap a L := (I.hok a _ hS).1
  obtain ⟨es, ep, t, R⟩ := R0.full fun p hp => I.isT (.inl (.inl (tup_le l (hG p hp))))
  obtain ⟨o, ho, ex, hd⟩ := R.ob
  have few := R.few
  have hsz := R.size
  refine sorted_tail (mg := X.mg) hu l (fun Q' hQ' => ?_) q
  refine collect_set (A := X.A.in1) (I.ok.hd hc) ⟨o, ho, ex.1, hd⟩ R.fits (by unfold scanBound; omega) R.tab.ris R.led fun s1 vs k1 hz g1 o1 pm => ?_
  have em : es.toList.map (·.2) = L.map fun p => Value.ref p.1 := by
    rw [R.rows]
    unfold rowsOf
    rw [List.map_map]; rfl
  rw [em] at pm
  obtain ⟨L1, p1, rfl⟩ := perm_map pm L rfl
  have mem : ∀ p ∈ L1, p ∈ L := fun p hp => p1.mem_iff.mp hp
  refine hQ' s1 _ (L1.map fun p => V.ref p.1) ((L1.map (·.2)).map tz) (I.call' (ch := []) o1 (Un.kept k1) (I.hok.kept k1) (by rw [g1]; exact I.bare) fun _ z => nomatch z) (vals_of_refs L1) (rp_rows fun p hp => hG p (mem p hp)) (sortOk_tz fun k hk => ?_) ?_ ?_
  · obtain ⟨p, hp, rfl⟩ := List.mem_map.mp hk
    exact ne p (mem p hp)
  · rw [List.length_map, p1.length_eq, sizeLine_eq]; omega
  · rw [sortD_tz, sortI_eq (p1.map (·.2))]
end
end E2
end

section
set_option Elab.async false
set_option linter.all false
set_option maxRecDepth 100000
set_option maxHeartbeats 4000000
/-! E34: sorted(set(e)) as one expression. -/
namespace E2
open PySem PySem.Spec PyProof.Rows L2
section
variable {X : Cx} {K : PySem.W.Frag} {mg : Str → Option Value} {G G' H H' : Hp} {W : WX}
theorem rp_tz {v : V} {k : List Int} (h : Rp K mg G v (tz k)) : ∃ b, v = .ref b ∧ G b = some (.tup (k.map V.int)) := by
  cases h with
  | tup h r =>
    refine ⟨_, rfl, ?_⟩
    have : ∀ {xs : List V} {k : List Int}, RpAll K mg G xs (k.map .int) → xs = k.map V.int := fun {xs k} r => by
      induction k generalizing xs with
      | nil => cases r; rfl
      | cons i k ih =>
        cases r with
        | cons h r => cases h; rw [ih r]; rfl
    rw [h, this r]
theorem rp_keyed : ∀ {ys : List V} {ks : List (List Int)}, RpAll K mg G ys (ks.map tz) → ∃ L : List (Addr × List Int), ys = L.map (fun p => V.ref p.1) ∧ L.map (·.2) = ks ∧ ∀ p ∈ L, G p.1 = some (.tup (p.2.map V.int))
  | _, [], .nil => ⟨[], rfl, rfl, fun p h => by cases h⟩
  | _, k :: ks, .cons h r => by
    obtain ⟨b, rfl, hb⟩ := rp_tz h
    obtain ⟨L, rfl, rfl, hL⟩ := rp_keyed r
    refine ⟨(b, k) :: L, rfl, rfl, fun p hp => ?_⟩
    rcases List.mem_cons.mp hp with rfl | hp
    · exact hb
    · exact hL p hp
def rSetB (X : Cx) : List V → Hp → VK → Prop := fun vs H Q => rSetQ X vs H Q ∨ rSetI X vs H Q
def rSortB (X : Cx) : List V → Hp → VK → Prop := fun vs H Q => rSetS X vs H Q ∨ rSortedSet X.w vs H Q
theorem cr_setB (hc : X.calm = true) (hu : X.A.units + 64 < cLine) : CallR X (.type "set") (rSetB X) := by
  intro pins s σ H xs us Q I r h
  rcases h with h | h
  · exact cr_setQ hc hu pins s σ H xs us Q I r h
  · exact cr_setI hc pins s σ H xs us Q I r h
theorem cr_sortB (hc : X.calm = true) (hu : X.A.units + 70 < cLine) : CallR X (.builtin "sorted") (rSortB X) := by
  intro pins s σ H xs us Q I r h
  rcases h with h | h
  · exact cr_setS hc hu pins s σ H xs us Q I r h
  · exact cr_sortedSet hc pins s σ H xs us Q I r h
theorem rp_intsR : ∀ {ys : List V} {ns : List Int}, RpAll K mg G ys (ns.map .int) → ys = ns.map V.int
  | _, [], .nil => rfl
  | _, _ :: _, .cons h r => by cases h; rw [rp_intsR r]; rfl
theorem setSort_ok : BOk X.K X.mg setSortD fun vs H Q => rSetB X vs H fun v H1 => rSortB X [v] H1 Q := by
  intro G H vs ds Q s l h hg k
  unfold setSortD at hg
  split at hg
  · rename_i ds'
    split at hg
    · rename_i ks e
      split at hg
      · rename_i hc
        cases hg
        obtain ⟨few, hne⟩ := hc
        rw [tupIs_iff e] at h
        obtain ⟨v, rfl, h1⟩ := rrs1 h
        obtain ⟨a, ys, rfl, hR, ra⟩ := h1.lst l
        obtain ⟨L0, rfl, rfl, hL⟩ := rp_keyed ra
        refine .inl ⟨a, L0, dd (L0.map (·.2)), rfl, hR, fun p hp => tup_le l (hL p hp), fun p hp => mem_dd.mpr (List.mem_map.mpr ⟨p, hp, rfl⟩), few, fun b L hb nd sub cov => ?_⟩
        refine .inl ⟨b, L, G, rfl, upd_same, l.newH hb, fun p hp => hL p (sub p hp), fun p hp => ?_, fun xs p rx hp => ?_⟩
        · have := List.all_eq_true.mp hne p.2 (List.mem_map.mpr ⟨p, sub p hp, rfl⟩)
          simpa using this
        · have pm : (L.map (·.2)).Perm (dd (L0.map (·.2))) := (List.perm_ext_iff_of_nodup nd (dd_nodup _)).mpr fun x => by
            rw [mem_dd]
            constructor
            · intro z
              obtain ⟨p, hp, rfl⟩ := List.mem_map.mp z
              exact List.mem_map.mpr ⟨p, sub p hp, rfl⟩
            · intro z
              obtain ⟨p, hp, rfl⟩ := List.mem_map.mp z
              exact cov p hp
          rw [sortI_eq pm] at rx
          have hp0 : H p = none := by
            by_cases z : p = b
            · subst z; exact hb
            · rw [upd_ne z] at hp; exact hp
          exact k G _ _ ((Ext.newH hb).trans (Ext.newH hp) fun q z => .inl z) ((l.newH hb).newH hp) ⟨p, rfl, le_none l hp0, ⟨xs, upd_same, rx⟩, hp0⟩
      · cases hg
    · split at hg
      · rename_i ns e
        split at hg
        · rename_i hc
          cases hg
          obtain ⟨few, lim⟩ := hc
          rw [intsD_iff e] at h
          obtain ⟨v, rfl, h1⟩ := rrs1 h
          obtain ⟨a, ys, rfl, hR, ra⟩ := h1.lst l
          cases rp_intsR ra
          refine .inr ⟨a, ns, dd ns, rfl, hR, lim, fun p hp => mem_dd.mpr hp, few, fun b c hb hc => ?_⟩
          refine .inr ⟨b, _, c, rfl, upd_same, by omega, fun js p up iff len hp => ?_⟩
          have e2 : sortN ns = js := sortN_is up fun k => by
            rw [iff k]
            exact decide_eq_true_iff
          subst e2
          have hp0 : H p = none := by
            by_cases z : p = b
            · subst z; exact hb
            · rw [upd_ne z] at hp; exact hp
          exact k G _ _ ((Ext.newH hb).trans (Ext.newH hp) fun q z => .inl z) ((l.newH hb).newH hp) ⟨p, rfl, le_none l hp0, ⟨_, upd_same, rp_intsV _ _ _ _⟩, hp0⟩
        · cases hg
      · cases hg
  · cases hg
theorem boot_set : bootBuiltins ("set" : Str) = some (.type "set") := rfl
theorem boot_sorted : bootBuiltins ("sorted" : Str) = some (.builtin "sorted") := rfl
theorem sv_setSort {e : Expr} {o : Op} {p p2 pos pos2 : Pos} (hc : X.calm = true) (hu : X.A.units + 70 < cLine) (hs : Fr X "sorted") (ht : Fr X "set") (he : PE X e (tO X.K X.mg W o)) (hst : starEach [e] X.env = (false, eval e X.env) :: starEach [] X.env) :
    PE X (.Call (.Name "sorted" p) [.Call (.Name "set" p2) [e] [] pos2] [] pos) (tV X.K X.mg W (fB [o] setSortD)) := by
  refine PE.imp (pe_callB (cr_sortB hc hu) hs.gl hs.mg boot_sorted (pa_cons (pe_callTy (cr_setB hc (by omega)) ht.gl ht.mg boot_set (pos_cons he pos_nil hst) (by decide +kernel) (by decide +kernel) hst rfl) pa_nil rfl) (by decide +kernel) (by decide +kernel) rfl rfl) fun σ H Q h => ?_
  exact args_imp setSort_ok h
end
end E2
end

section
set_option Elab.async false
set_option linter.all false
set_option maxRecDepth 100000
set_option maxHeartbeats 4000000
/-! E35: calls by keywords. -/
namespace E2
open PySem PySem.Spec PyProof.Rows L2
/-- the items at these places -/
def sel {α : Type} (is : List Nat) (l : List α) : List α := is.filterMap fun i => l[i]?
theorem sel_len {α : Type} {l : List α} : ∀ {is : List Nat}, (∀ i ∈ is, i < l.length) → (sel is l).length = is.length
  | [], _ => rfl
  | i :: is, h => by
    have hh : i < l.length := h i List.mem_cons_self
    have e : l[i]? = some l[i] := List.getElem?_eq_getElem hh
    unfold sel
    rw [List.filterMap_cons, e]
    exact congrArg (· + 1) (sel_len fun j hj => h j (List.mem_cons_of_mem _ hj))
theorem paired_at {α β : Type} {P : α → β → Prop} : ∀ {as : List α} {bs : List β}, Paired P as bs → ∀ i : Nat, (as[i]? = none ∧ bs[i]? = none) ∨ ∃ a b, as[i]? = some a ∧ bs[i]? = some b ∧ P a b
  | _, _, .nil, i => .inl ⟨by simp, by simp⟩
  | _, _, .cons r _, 0 => .inr ⟨_, _, rfl, rfl, r⟩
  | _, _, .cons _ t, i + 1 => by
    have := paired_at t i
    simpa using this
theorem sel_vals {vs : List V} {us : List Value} (h : Vals vs us) : ∀ is : List Nat, Vals (sel is vs) (sel is us)
  | [] => .nil
  | i :: is => by
    unfold sel
    rcases paired_at h i with ⟨e1, e2⟩ | ⟨a, b, e1, e2, r⟩
    · rw [List.filterMap_cons, List.filterMap_cons, e1, e2]
      exact sel_vals h is
    · rw [List.filterMap_cons, List.filterMap_cons, e1, e2]
      exact .cons r (sel_vals h is)
section
variable {K : PySem.W.Frag} {mg : Str → Option Value} {W : WX} {G H : Hp} {σ : L2.St} {ρ : Env}
theorem ops_at : ∀ {os : List Op} {as : List (Option Dt)} {vs : List V}, OpVs K mg G σ os as vs → ∀ i : Nat, (os[i]? = none ∧ as[i]? = none ∧ vs[i]? = none) ∨ ∃ o a v, os[i]? = some o ∧ as[i]? = some a ∧ vs[i]? = some v ∧ OpV K mg G σ o a v
  | _, _, _, .nil, i => .inl ⟨by simp, by simp, by simp⟩
  | _, _, _, .cons r _, 0 => .inr ⟨_, _, _, rfl, rfl, rfl, r⟩
  | _, _, _, .cons _ t, i + 1 => by
    have := ops_at t i
    simpa using this
theorem sel_ops {os : List Op} {as : List (Option Dt)} {vs : List V} (h : OpVs K mg G σ os as vs) : ∀ is : List Nat, OpVs K mg G σ (sel is os) (sel is as) (sel is vs)
  | [] => .nil
  | i :: is => by
    unfold sel
    rcases ops_at h i with ⟨e1, e2, e3⟩ | ⟨a, b, v, e1, e2, e3, r⟩
    · rw [List.filterMap_cons, List.filterMap_cons, List.filterMap_cons, e1, e2, e3]
      exact sel_ops h is
    · rw [List.filterMap_cons, List.filterMap_cons, List.filterMap_cons, e1, e2, e3]
      exact .cons r (sel_ops h is)
/-- f(k = e, ..): is tells for each parameter the place of its keyword -/
def fCallK (F : FS) (is : List Nat) (os : List Op) : EV := fun ρ => (runOps os ρ).bind fun as ρ1 => match take F.cst (sel is os) (sel is as) ρ1 [] with
  | some (ρ2, α2) => (match F.run α2 with
    | .ok (s, α3) => .ok (s, giveBack (sel is os) α2 α3 ρ2)
    | .err x fs α3 => .err x fs (giveBack (sel is os) α2 α3 ρ2)
    | .bad => .bad)
  | none => .bad
theorem pks_nil {X : Cx} : PK X [] (tOs X.K X.mg W []) := ⟨fun pos pins s σ H Q I ⟨G, ρ, st, q⟩ => pk_nil.run pos pins s σ H Q I ((Pst.pure (a := ([] : List (Option Dt))) q st) [] .nil)⟩
theorem pks_cons {X : Cx} {e : Expr} {o : Op} {os : List Op} {nm : Option Str} {kp : Pos} {kws : List Keyword} (he : PE X e (tO X.K X.mg W o)) (hs : PK X kws (tOs X.K X.mg W os)) : PK X (⟨nm, e, kp⟩ :: kws) (tOs X.K X.mg W (o :: os)) := by
  refine ⟨fun pos pins s σ H Q I ⟨G, ρ, st, q⟩ => (pk_cons he hs).run pos pins s σ H Q I ⟨G, ρ, st, (Pst.bind q).mono fun a ρ1 G1 H1 e st1 o1 k v hv => ?_⟩⟩
  refine ⟨G1, ρ1, st1, (map_pst (k e st1 o1)).mono fun as ρ2 G2 H2 e2 st2 o2 k2 vs hvs => k2 _ (.cons (hv.sub e2.sub) hvs)⟩
end
/-- the callee binds these keywords so -/
def BindK (K : PySem.W.Frag) (fd : FuncData) (ps ks : List Str) (is : List Nat) : Prop := ∀ (s : Shared) (ws : List Value), K.In s.heap → ws.length = ks.length → BindsTo s fd ⟨[], ks.zip ws⟩ (ps.zip (sel is ws))
def tCallKS (m : Nat) (is : List Nat) (sp : Sp) (E : L2.St → XK) (t : TA) : TE := fun σ H Q => t σ H fun zs H1 => zs.length = m ∧ sp (sel is zs) H1 Q (E σ)
theorem pe_callKS {X : Cx} {CX : CXT} {k : Nat} {f : Addr} {fd : FuncData} {ps ks : List Str} {is : List Nat} {sp : Sp} {E : L2.St → XK} {x : Str} {p pos : Pos} {kws : List Keyword} {t : TA} (F : FnOk X.prog X.w X.K X.mg X.base CX k f fd ps sp) (hr : Room k X.A) (hg : Gl X x)
    (hm : X.mg x = some (.ref f)) (hk : PySem.W.keepIn X.K (.ref f) = true) (hb : BindK X.K fd ps ks is) (hx : ∀ σ, PassesAt CX X σ (E σ)) (hkw : PK X kws t) (hall : (backToKw pos (keywordEach kws X.env)).all (·.1.isSome) = true)
    (hks : (backToKw pos (keywordEach kws X.env)).filterMap (·.1) = ks) (hdb : (x == ("__debug__" : Str)) = false) (hpl : ((backTo pos (starEach [] X.env)).any (·.1) || (backToKw pos (keywordEach kws X.env)).any (·.1.isNone)) = false) :
    PE X (.Call (.Name x p) [] kws pos) (tCallKS ks.length is sp E t) := by
  refine ⟨fun pins s σ H Q I h => ?_⟩
  refine wpAny_Call_Name_kw (ld_glob I hg hm ?_ hdb)
  refine PySem.W.callWith_KW0 (h₀ := X.base) I.ok.mod.kin hk hall (thn (hkw.run pos pins s σ H _ I h) fun ws s1 ⟨zs, H1, I1, rz, l2, q⟩ => ⟨I1.kIn, ?_⟩) hpl
  rw [hks]
  refine wpAny_call (codeAny_mono (F.run X.A X.stack s1 H1 ⟨[], ks.zip ws⟩ (sel is ws) (sel is zs) Q (E σ) hr I1.env0 (hb s1 ws I1.kIn (rz.length.symm.trans l2)) (sel_vals rz is) q) fun r s' hq => ?_)
  cases r with
  | error e => exact hx σ pins H1 s1 e s' I1 hq
  | ok fl =>
    cases fl with
    | ret u => exact I1.after hq
    | next => exact False.elim hq
    | brk => exact False.elim hq
    | cont => exact False.elim hq
/-- the shape of the keywords -/
theorem kw_each : ∀ {kws : List Keyword} {ks : List Str} {pos : Pos} {env : PySem.Env}, kws.map (·.arg) = ks.map some → (backToKw pos (keywordEach kws env)).map (·.1) = ks.map some := by
  intro kws ks pos env h
  rw [← h]
  show ((keywordEach kws env).map _).map _ = _
  rw [List.map_map]
  induction kws generalizing ks with
  | nil => rfl
  | cons k kws ih =>
    cases ks with
    | nil => simp at h
    | cons x ks =>
      rw [List.map_cons, List.map_cons, List.cons.injEq] at h
      have := ih h.2
      cases k
      exact (congrArg (fun z => _ :: z) this)
theorem kw_all {α : Type} {l : List (Option Str × α)} {ks : List Str} (h : l.map (·.1) = ks.map some) : l.all (·.1.isSome) = true ∧ l.filterMap (·.1) = ks ∧ l.any (·.1.isNone) = false := by
  induction l generalizing ks with
  | nil =>
    cases ks with
    | nil => exact ⟨rfl, rfl, rfl⟩
    | cons x ks => simp at h
  | cons p l ih =>
    cases ks with
    | nil => simp at h
    | cons x ks =>
      rw [List.map_cons, List.map_cons, List.cons.injEq] at h
      obtain ⟨h1, h2, h3⟩ := ih h.2
      refine ⟨?_, ?_, ?_⟩
      · rw [List.all_cons, h1, h.1]; rfl
      · rw [List.filterMap_cons, h.1, h2]
      · rw [List.any_cons, h3, h.1]; rfl
theorem sv_callK {X : Cx} {W : WX} {k : Nat} {f : Addr} {fd : FuncData} {ps ks : List Str} {is : List Nat} {F : FS} {x : Str} {p pos : Pos} {kws : List Keyword} {os : List Op} (Fk : FnOk X.prog X.w X.K X.mg X.base (L2.CX X.prog X.w) k f fd ps (spOf X.K X.mg F)) (hr : Room k X.A) (hg : Gl X x)
    (hm : X.mg x = some (.ref f)) (hk : PySem.W.keepIn X.K (.ref f) = true) (hb : BindK X.K fd ps ks is) (tk : Takes X W) (ha : PK X kws (tOs X.K X.mg W os)) (hn : is.length = F.n) (hi : ∀ i ∈ is, i < os.length) (hl : os.length = ks.length)
    (hks : kws.map (·.arg) = ks.map some) (hdb : (x == ("__debug__" : Str)) = false) : PE X (.Call (.Name x p) [] kws pos) (tV X.K X.mg W (fCallK F is os)) := by
  obtain ⟨a1, a2, a3⟩ := kw_all (kw_each (pos := pos) (env := X.env) hks)
  refine PE.imp (pe_callKS Fk hr hg hm hk hb (fun σ => passAt tk σ) ha a1 a2 hdb (by rw [a3]; rfl)) fun σ H Q ⟨G, ρ, st, q⟩ => ⟨G, ρ, st, (Pst.bind q).mono fun as ρ1 G1 H1 e st1 o1 k vs hvs => ⟨(opvs_len hvs).trans hl, ?_⟩⟩
  refine call_imp st1 (sel_ops hvs is) (by rw [sel_len hi, hn]) ((k e st1 o1).mono fun s ρ' G' H' _ _ _ k v hv => k v (hv.weaken (e.back o1)))
end E2
end

section
set_option Elab.async false
set_option linter.all false
set_option maxRecDepth 100000
set_option maxHeartbeats 4000000
/-! E36: min, max; list.count. -/
namespace E2
open PySem PySem.Spec PyProof.Rows L2
theorem pyAll_tzs : ∀ ks : List (List Int), pyAll (ks.map tz) = ks.map fun k => .tuple (k.map .int)
  | [] => rfl
  | k :: ks => by rw [List.map_cons, List.map_cons, ← pyAll_tzs ks, pyAll]; unfold tz; rw [py, pyAll_ints]
theorem py_tz (k : List Int) : py (tz k) = .tuple (k.map .int) := by unfold tz; rw [py, pyAll_ints]
/-- the first of the least -/
def minI (k : List Int) (ks : List (List Int)) : List Int := ks.foldl (fun a y => if PySem.W.dataLt (.tuple (y.map .int)) (.tuple (a.map .int)) then y else a) k
theorem minI_py : ∀ (ks : List (List Int)) (k : List Int), PySem.W.minD (.tuple (k.map .int)) (ks.map fun k => .tuple (k.map .int)) = .tuple ((minI k ks).map .int)
  | [], k => rfl
  | y :: ks, k => by
    unfold PySem.W.minD minI
    rw [List.map_cons, List.foldl_cons, List.foldl_cons]
    have e : (if PySem.W.dataLt (PyData.tuple (y.map .int)) (.tuple (k.map .int)) then PyData.tuple (y.map .int) else .tuple (k.map .int)) = .tuple ((if PySem.W.dataLt (PyData.tuple (y.map .int)) (.tuple (k.map .int)) then y else k).map .int) := by split <;> rfl
    rw [e]
    exact minI_py ks _
section
variable {X : Cx} {K : PySem.W.Frag} {mg : Str → Option Value} {G G' H H' : Hp} {pins : List (Addr × Obj)} {σ : L2.St} {s : Shared}
theorem reads_all {n : Nat} (l : Le G H) (I : Inv X pins σ H s) : ∀ {xs : List V} {us : List Value} {ds : List Dt}, Vals xs us → RpAll X.K mg G xs ds → flatAll n ds = true → ∃ as, ReadsAll s.heap us (pyAll ds) as
  | _, _, _, .nil, .nil, _ => ⟨[], .nil⟩
  | _, _, _, .cons r rs, .cons h hs, hf => by
    have hf := Bool.and_eq_true_iff.mp (show (flat n _ && flatAll n _) = true from hf)
    obtain ⟨as, r1⟩ := Dp.reads I _ _ _ (h.dp l n hf.1) r
    obtain ⟨bs, r2⟩ := reads_all l I rs hs hf.2
    exact ⟨_, .cons r1 r2⟩
theorem rpall_get : ∀ {xs : List V} {ds : List Dt} {i : Nat} {d : Dt}, RpAll K mg G xs ds → ds[i]? = some d → ∃ x, xs[i]? = some x ∧ Rp K mg G x d
  | _, _, _, _, .nil, e => by simp at e
  | _, _, 0, _, .cons h _, e => by simp at e; subst e; exact ⟨_, rfl, h⟩
  | _, _, i + 1, _, .cons _ hs, e => by
    obtain ⟨x, e1, h⟩ := rpall_get (i := i) hs (by simpa using e)
    exact ⟨x, by simpa using e1, h⟩
theorem rpall_at : ∀ {xs : List V} {us : List Value} {ds : List Dt} {i : Nat} {u : Value}, Vals xs us → RpAll K mg G xs ds → us[i]? = some u → ∃ x d, ds[i]? = some d ∧ RelV x u ∧ Rp K mg G x d
  | _, _, _, _, _, .nil, .nil, e => by simp at e
  | _, _, _, 0, _, .cons r _, .cons h _, e => by simp at e; subst e; exact ⟨_, _, rfl, r, h⟩
  | _, _, _, i + 1, _, .cons _ rs, .cons _ hs, e => by
    obtain ⟨x, d, e1, r, h⟩ := rpall_at (i := i) rs hs (by simpa using e)
    exact ⟨x, d, by simpa using e1, r, h⟩
theorem min_core (hc : X.calm = true) (hu : X.A.units + 70 < cLine) {b : Bool} {a : Addr} {xs : List V} {d : Dt} {ds : List Dt} {r : Dt} (I : Inv X pins σ H s) (l : Le G H) (hs : SqS X.K H b a xs) (ra : RpAll X.K mg G xs (d :: ds))
    (hf : flatAll 58 (d :: ds) = true) (hal : PySem.W.AlikeAll (pyAll (d :: ds))) (hr : PySem.W.minD (py d) (pyAll ds) = py r) (hi : ∀ e ∈ d :: ds, py e = py r → e = r) {Q : VK} (q : ∀ x, Rp X.K mg G x r → Q x H) :
    wpAny (model X.prog X.w) X.A (call (.builtin "min") [.ref a]) (EP X pins σ Q) X.xe s := by
  obtain ⟨its, rv, p⟩ := sqS_inv I hs
  obtain ⟨as, rd⟩ := reads_all l I rv ra hf
  have hd : PyData.depthAll (pyAll (d :: ds)) ≤ 59 := by
    have := (flat_py 59 (.tup (d :: ds)) (by simpa [flat] using hf)).2
    simp only [py, PyData.depth] at this
    omega
  have fin : ∀ (i : Nat) (v : Value) (h' : Heap) (tk : _) (bs : List Addr), its.toArray[i]? = some v → Reads h' v (PySem.W.minD (py d) (pyAll ds)) bs → (∀ b o, s.heap.get? b = some o → h'.get? b = some o) → EP X pins σ Q v { s with heap := h', toks := tk } := by
    intro i v h' tk bs hv hrd hk
    obtain ⟨x, e, e1, r1, r2⟩ := rpall_at rv ra (by simpa using hv)
    have hm : e ∈ d :: ds := List.mem_of_getElem? e1
    obtain ⟨cs, r3⟩ := Dp.reads I _ _ _ (r2.dp l 58 (flatAll_mem hf hm)) r1
    have r4 : Reads h' v (py e) cs := PyProof.Rows.Reads.keeps hk r3
    have e2 := (Reads.unique r4 _ _ hrd).1
    rw [hr] at e2
    rw [hi e hm e2] at r2
    exact ⟨x, H, I.kept hk, r1, q x r2⟩
  cases b
  · exact PySem.W.min_list_data (I.ok.hd hc) (show s.heap.IsList a its.toArray from p) (x := py d) (xs := pyAll ds) (by simpa [pyAll] using rd) hal (by simp only [pyAll] at hd; omega) fin
  · exact PySem.W.min_tuple_data (I.ok.hd hc) (show s.heap.IsTuple a its.toArray from p) (x := py d) (xs := pyAll ds) (by simpa [pyAll] using rd) hal (by simp only [pyAll] at hd; omega) fin
theorem alikeI (ns : List Int) : PySem.W.AlikeAll (pyAll (ns.map Dt.int)) := by
  rw [pyAll_ints]
  refine ⟨fun x hx y hy => ?_, fun x hx e => ?_⟩
  · obtain ⟨a, _, rfl⟩ := List.mem_map.mp hx
    obtain ⟨b, _, rfl⟩ := List.mem_map.mp hy
    rw [PySem.W.alike]
  · obtain ⟨a, _, rfl⟩ := List.mem_map.mp hx
    cases e
theorem alikeT (ks : List (List Int)) : PySem.W.AlikeAll (pyAll (ks.map tz)) := by
  rw [pyAll_tzs]
  refine ⟨fun x hx y hy => ?_, fun x hx e => ?_⟩
  · obtain ⟨a, _, rfl⟩ := List.mem_map.mp hx
    obtain ⟨b, _, rfl⟩ := List.mem_map.mp hy
    rw [PySem.W.alike]
    exact alike_ints a b
  · obtain ⟨a, _, rfl⟩ := List.mem_map.mp hx
    cases e
/-- of ints, or of tuples of ints -/
def minOf (ds : List Dt) : Option Slot := match intsD ds with
  | some (n :: ns) => shI (ns.foldl min n)
  | _ => match tupIs ds with
    | some (k :: ks) => some (.sh (tz (minI k ks)))
    | _ => none
def minD : List Dt → Option Slot
  | [.lst ds] => minOf ds
  | [.tup ds] => minOf ds
  | _ => none
def maxD : List Dt → Option Slot
  | [.lst ds] => match intsD ds with
    | some (n :: ns) => shI (ns.foldl max n)
    | _ => none
  | _ => none
theorem min_run (hc : X.calm = true) (hu : X.A.units + 70 < cLine) {b : Bool} {a : Addr} {xs : List V} {ds : List Dt} {sl : Slot} (I : Inv X pins σ H s) (l : Le G H) (hs : SqS X.K H b a xs) (ra : RpAll X.K mg G xs ds) (hg : minOf ds = some sl) {Q : VK} (k : Fol X.K mg G H sl Q) :
    wpAny (model X.prog X.w) X.A (call (.builtin "min") [.ref a]) (EP X pins σ Q) X.xe s := by
  unfold minOf at hg
  split at hg
  · rename_i n ns he
    cases hg
    obtain rfl := intsD_iff he
    refine min_core hc hu I l hs ra (flat_ints 58 (n :: ns)) (alikeI (n :: ns)) (r := .int (ns.foldl min n)) ?_ (fun e he h => ?_) fun x hx => k.pure l hx
    · rw [pyAll_ints]
      exact PySem.W.minD_ints n ns
    · obtain ⟨i, _, rfl⟩ := List.mem_map.mp (show e ∈ (n :: ns).map Dt.int from he)
      simp only [py] at h
      injection h with h
      rw [h]
  · split at hg
    · rename_i k0 ks he
      cases hg
      obtain rfl := tupIs_iff he
      refine min_core hc hu I l hs ra (flat_tzs 57 (k0 :: ks)) (alikeT (k0 :: ks)) (r := tz (minI k0 ks)) ?_ (fun e he h => ?_) fun x hx => k.pure l hx
      · rw [pyAll_tzs, py_tz, py_tz]
        exact minI_py ks k0
      · obtain ⟨i, _, rfl⟩ := List.mem_map.mp (show e ∈ (k0 :: ks).map tz from he)
        rw [py_tz, py_tz] at h
        injection h with h
        rw [List.map_inj_right (fun a b z => by injection z)] at h
        rw [h]
    · cases hg
theorem cg_min (hc : X.calm = true) (hu : X.A.units + 70 < cLine) : CallR X (.builtin "min") (rGs X.K mg minD) := by
  intro pins s σ H xs us Q I r ⟨G, ds, sl, l, h, hg, k⟩
  unfold minD at hg
  split at hg
  · obtain ⟨v, rfl, h1⟩ := rrs1 h
    obtain ⟨a, ys, rfl, hR, ra⟩ := h1.lst l
    rw [Vals.ref1 r]
    exact min_run hc hu (b := false) I l (.inl hR) ra hg k
  · obtain ⟨v, rfl, h1⟩ := rrs1 h
    obtain ⟨a, ys, rfl, hR, ra, _⟩ := h1.tup l
    rw [Vals.ref1 r]
    exact min_run hc hu (b := true) I l hR ra hg k
  · cases hg
theorem foldl_max : ∀ (ns : List Int) (n : Int), (ns.foldl max n ∈ n :: ns) ∧ ∀ m ∈ n :: ns, m ≤ ns.foldl max n
  | [], n => ⟨List.mem_cons_self, fun m hm => by rw [List.mem_singleton.mp hm]; exact Int.le_refl _⟩
  | y :: ns, n => by
    obtain ⟨h1, h2⟩ := foldl_max ns (max n y)
    rw [List.foldl_cons]
    refine ⟨?_, fun m hm => ?_⟩
    · rcases List.mem_cons.mp h1 with e | e
      · rw [e]
        rcases Int.le_total n y with z | z
        · rw [Int.max_eq_right z]; exact List.mem_cons_of_mem _ List.mem_cons_self
        · rw [Int.max_eq_left z]; exact List.mem_cons_self
      · exact List.mem_cons_of_mem _ (List.mem_cons_of_mem _ e)
    · have h0 := h2 _ List.mem_cons_self
      rcases List.mem_cons.mp hm with rfl | hm
      · exact Int.le_trans (Int.le_max_left _ _) h0
      · rcases List.mem_cons.mp hm with rfl | hm
        · exact Int.le_trans (Int.le_max_right _ _) h0
        · exact h2 m (List.mem_cons_of_mem _ hm)
theorem cg_max (hc : X.calm = true) : CallR X (.builtin "max") (rGs X.K mg maxD) := by
  intro pins s σ H xs us Q I r ⟨G, ds, sl, l, h, hg, k⟩
  unfold maxD at hg
  split at hg
  · split at hg
    · rename_i n ns hb
      cases hg
      obtain ⟨v, rfl, h1⟩ := rrs1 h
      obtain ⟨a, ys, rfl, hR, ra⟩ := h1.lst l
      rw [rp_ints ra hb] at hR
      obtain ⟨m1, m2⟩ := foldl_max ns n
      refine cr_max hc pins s σ H _ us Q I r ⟨a, n :: ns, rfl, .inl hR, by simp, fun m h1 h2 => ?_⟩
      have : m = ns.foldl max n := Int.le_antisymm (m2 m h1) (h2 _ m1)
      subst this
      exact k.pure l (.int _)
    · cases hg
  · cases hg
end
end E2
end

section
set_option Elab.async false
set_option linter.all false
set_option maxRecDepth 100000
set_option maxHeartbeats 4000000
/-! E37: methods that read a list: count. -/
namespace E2
open PySem PySem.Spec PyProof.Rows L2
/-- a list, owned or shared -/
def isLstR : Slot → Bool
  | .ow (.lst _) => true
  | .sh (.lst _) => true
  | _ => false
def fRecv (p : Slot → Bool) (i : Nat) (f : EE) (g : Dt → Dt → Option Slot) : EV := fun ρ => match ρ[i]? with
  | some s => if p s then f2 (.sl i) (.ex f) g ρ else .bad
  | none => .bad
section
variable {X : Cx} {K : PySem.W.Frag} {mg : Str → Option Value} {G G' H H' : Hp} {pins : List (Addr × Obj)} {σ : L2.St} {ρ : Env} {s : Shared} {W : WX}
theorem lst_ty {i : Nat} {s : Slot} (st : Stt K mg G H σ ρ) (hs : ρ[i]? = some s) (hp : isLstR s = true) : ∃ p xs, σ[i]? = some (some (.ref p)) ∧ SqL K H p xs := by
  cases s with
  | dead => cases hp
  | ow d =>
    cases d with
    | lst ds =>
      obtain ⟨p, e1, _, xs, e2, _⟩ := st.slot i _ hs
      exact ⟨p, xs, e1, .inl (.inl e2)⟩
    | _ => cases hp
  | sh d =>
    cases d with
    | lst ds =>
      obtain ⟨v, e1, r⟩ := st.slot i _ hs
      obtain ⟨a, xs, rfl, hR, _⟩ := RpR.lst st.le (.inl r)
      exact ⟨a, xs, e1, .inl hR⟩
    | _ => cases hp
theorem recv_imp {i : Nat} {f : EE} {g : Dt → Dt → Option Slot} {r : V → List V → Hp → VK → Prop} (hb : BOk2 K mg g fun x y H Q => r x [y] H Q) {Q : VK} (h : tV K mg W (fRecv isLstR i f g) σ H Q) : tBM K "list" r (tVar i) (tCons (tO K mg W (.ex f)) tNil) σ H Q := by
  obtain ⟨G, ρ, st, q⟩ := h
  unfold fRecv at q
  cases hs : ρ[i]? with
  | none => rw [hs] at q; exact q.elim
  | some s =>
    rw [hs] at q
    by_cases hp : isLstR s = true
    · simp only [hp, if_true] at q
      obtain ⟨p, xs, e1, e2⟩ := lst_ty st hs hp
      have h2 := two_imp hb (σ := σ) (H := H) (Q := Q) ⟨G, ρ, st, q⟩
      refine ⟨.ref p, e1, .inl ⟨rfl, xs, e2⟩, ?_⟩
      obtain ⟨G2, ρ2, st2, q2⟩ := h2
      have e3 : Pst K mg W (Own σ ρ2) G2 H σ (match ρ2[i]? with
        | some (.sh _) => .ok (none, ρ2)
        | some (.ow _) => .ok (none, ρ2)
        | _ => .bad) fun (a : Option Dt) ρ' G' H' => ∀ v, OpV K mg G' σ (.sl i) a v → tO K mg W (.ex f) σ H' fun y H2 => r v [y] H2 Q := q2
      show tO K mg W (.ex f) σ H fun y H2 => r (.ref p) [y] H2 Q
      cases hz : ρ2[i]? with
      | none => rw [hz] at e3; exact e3.elim
      | some z =>
        rw [hz] at e3
        cases z with
        | dead => exact e3.elim
        | sh d => exact (Pst.pure (a := (none : Option Dt)) e3 st2) _ e1
        | ow d => exact (Pst.pure (a := (none : Option Dt)) e3 st2) _ e1
    · simp only [hp] at q; exact q.elim
def countD (d e : Dt) : Option Slot := match d with
  | .lst ds => if flat 60 (.lst ds) && flat 60 e then shI (ds.countP fun z => eqP z e : Nat) else none
  | _ => none
theorem count_py (d : Dt) : ∀ es : List Dt, ((pyAll es).countP fun y => PyData.eqv y (py d)) = es.countP fun z => eqP z d
  | [] => rfl
  | z :: es => by rw [pyAll, List.countP_cons, List.countP_cons, count_py d es]; rfl
def rCntD (K : PySem.W.Frag) (mg : Str → Option Value) : V → List V → Hp → VK → Prop := fun x xs H Q => ∃ y, xs = [y] ∧ rG K mg countD x y H Q
theorem mt_cntD (hu : X.A.units + 70 < cLine) : MtR X "list.count" (rCntD X.K mg) := by
  intro pins s σ H x xs v us Q I rx rxs h
  obtain ⟨y, rfl, G, d, e, sl, l, h1, h2, hg, k⟩ := h
  obtain ⟨u, rfl, ru⟩ := rxs.one
  unfold countD at hg
  split at hg
  · rename_i ds
    split at hg
    · rename_i hf
      cases hg
      have hf := Bool.and_eq_true_iff.mp hf
      obtain ⟨a, ys, rfl, hR, ra⟩ := h1.lst l
      cases rx
      obtain ⟨its, rv, p, _⟩ := I.list (a := a) (xs := ys) (.inl hR)
      have hfa : flatAll 59 ds = true := by simpa [flat] using hf.1
      obtain ⟨as, rd⟩ := reads_all l I rv ra hfa
      obtain ⟨bs, r2⟩ := Dp.reads I _ y u (h2.dp l hf.2) ru
      have f1 := flat_py 60 e hf.2
      have f2 := flat_py 60 _ hf.1
      simp only [py, PyData.plain] at f2
      refine PySem.SeqAt.count_list_data (vs := its.toArray) p.isList (by simpa using rd) r2 f2.1 f1.1 (by have := f1.2; omega) ?_
      rw [count_py]
      exact ⟨.int _, H, I.tok _, ⟨s.toks, rfl⟩, k.pure l (.int _)⟩
    · cases hg
  · cases hg
theorem sv_count {o : Expr} {e : Expr} {f : EE} {i : Nat} {ap pos : Pos} (hu : X.A.units + 70 < cLine) (ho : PE X o (tVar i)) (he : PE X e (tE X.K X.mg W f)) (hb : attributeBase o "count" X.env (eval o X.env) = eval o X.env) (hl : (ap.endLine == pos.line) = true) (hs : starEach [e] X.env = (false, eval e X.env) :: starEach [] X.env)
    (hfew : ((backTo pos (starEach [e] X.env)).all (fun x => !x.1) && (backToKw pos (keywordEach [] X.env)).all (fun x => x.1.isSome) && decide ([e].length + ([] : List Keyword).length + (if ([] : List Keyword).isEmpty then 0 else 1) < 30)) = true) :
    PE X (.Call (.Attribute o "count" ap) [e] [] pos) (tV X.K X.mg W (fRecv isLstR i f countD)) := by
  refine PE.imp (pe_bm PySem.F.plainAttrs_list PySem.F.slot_list_count PySem.F.type_list_count (mt_cntD (mg := X.mg) hu) ho (pa_cons (po_ex he) pa_nil hs) hb hfew hl hs rfl) fun σ H Q h => ?_
  refine recv_imp (r := rCntD X.K X.mg) (fun G H x y d e Q s l h1 h2 hg k => ⟨y, rfl, G, d, e, s, l, h1, h2, hg, k⟩) h
end
end E2
end

section
set_option Elab.async false
set_option linter.all false
set_option maxRecDepth 100000
set_option maxHeartbeats 4000000
/-! E38: x[k] += v, x -= v. -/
namespace E2
open PySem PySem.Spec PyProof.Rows L2
section
variable {X : Cx} {K : PySem.W.Frag} {mg : Str → Option Value} {G G' H H' : Hp} {P : Addr → Prop} {pins : List (Addr × Obj)} {σ : L2.St} {ρ ρ' : Env} {s : Shared} {W : WX} {A : List Nat} {a b c e : Expr} {pos : Pos}
def getL : V → V → Hp → VK → Prop := fun x y H Q => ∃ p xs i v, x = .ref p ∧ y = .int i ∧ H p = some (.lst xs) ∧ 0 ≤ i ∧ xs[i.toNat]? = some v ∧ Q v H
theorem get_L : PGet X getL := by
  intro pins s σ H o i ov iv Q I ro ri h
  obtain ⟨p, xs, k, v, rfl, rfl, hp, h0, hv, q⟩ := h
  cases ro
  obtain ⟨t, rfl⟩ := ri
  obtain ⟨its, r, pl, hz⟩ := I.list (a := p) (xs := xs) (.inl (.inl hp))
  obtain ⟨w, ew, rw'⟩ := r.get hv
  have hl := r.length
  have hn := line63
  have hlt : k.toNat < its.length := (List.getElem?_eq_some_iff.mp ew).1
  have hs : sizeLine = 16777216 := sizeLine_eq
  exact wpAny_getItem_list pl.isList h0 (by omega) (by simpa using ew) ⟨v, H, I, rw', q⟩
inductive Aug where
  | add
  | sub
def Aug.f : Aug → Int → Int → Int
  | .add, i, j => i + j
  | .sub, i, j => i - j
def Aug.op : Aug → Operator
  | .add => .Add
  | .sub => .Sub
theorem aug_ip : ∀ o : Aug, PIp X o.op (ipI o.f)
  | .add => ip_add
  | .sub => ip_sub
/-- x[k] += v, x the slot i, a list -/
def fAugS (o : Aug) (i : Nat) (fk fv : EE) : SF := fun ρ => match ρ[i]? with
  | some (.ow (.lst _)) => sbind (fk ρ) fun k ρ1 => (match ρ1[i]?, k with
    | some (.ow (.lst ds)), .int j => if 0 ≤ j then (match ds[j.toNat]? with
      | some (.int a) => sbind (fv ρ1) fun v ρ2 => (match ρ2[i]?, v with
        | some (.ow d2), .int b => (match setD d2 (.int j) (.int (o.f a b)) with
          | some d' => .nxt (ρ2.set i (.ow d'))
          | none => .bad)
        | _, _ => .bad)
      | _ => .bad) else .bad
    | _, _ => .bad)
  | _ => .bad
theorem augS_stmt {o : Aug} {i : Nat} {fk fv : EE} {D : Ends} (h : tS K mg W A (fAugS o i fk fv) D σ H) : tAugS (tVar i) (tE K mg W fk) (tE K mg W fv) getL (ipI o.f) rSetX D σ H := by
  obtain ⟨G, ρ, st, q⟩ := h
  unfold fAugS at q
  cases e1 : ρ[i]? with
  | none => rw [e1] at q; exact q.elim
  | some u =>
    rw [e1] at q
    cases u with
    | dead => exact q.elim
    | sh d => exact q.elim
    | ow d0 =>
      cases d0 with
      | lst ds0 =>
        obtain ⟨p, hp, g0, _⟩ := st.slot i _ e1
        refine ⟨.ref p, hp, G, ρ, st, q.sbind.mono fun k ρ1 G1 H1 e st1 o1 q1 kv hk => ?_⟩
        have q1 := q1 (aft_expr e st1 o1)
        cases e2 : ρ1[i]? with
        | none => rw [e2] at q1; exact q1.elim
        | some u1 =>
          rw [e2] at q1
          cases u1 with
          | dead => exact q1.elim
          | sh d => exact q1.elim
          | ow d1 =>
            cases d1 with
            | lst ds =>
              cases k with
              | int j =>
                dsimp only at q1
                by_cases h0 : 0 ≤ j
                · rw [if_pos h0] at q1
                  cases e3 : ds[j.toNat]? with
                  | none => rw [e3] at q1; exact q1.elim
                  | some da =>
                    rw [e3] at q1
                    cases da with
                    | int a =>
                      dsimp only at q1
                      obtain ⟨p1, hp1, g1, xs, hx, rx⟩ := st1.slot i _ e2
                      rw [hp] at hp1
                      cases hp1
                      cases hk
                      obtain ⟨x, ex, rxa⟩ := rpall_get rx e3
                      cases rxa
                      refine ⟨p, xs, j, .int a, rfl, rfl, hx, h0, ex, G1, ρ1, st1, q1.sbind.mono fun v ρ2 G2 H2 e4 st2 o2 q2 vv hv => ?_⟩
                      have q2 := q2 (aft_expr e4 st2 o2)
                      cases e5 : ρ2[i]? with
                      | none => rw [e5] at q2; exact q2.elim
                      | some u2 =>
                        rw [e5] at q2
                        cases u2 with
                        | dead => exact q2.elim
                        | sh d => exact q2.elim
                        | ow d2 =>
                          cases v with
                          | int b =>
                            dsimp only at q2
                            cases hs : setD d2 (.int j) (.int (o.f a b)) with
                            | none => rw [hs] at q2; exact q2.elim
                            | some d' =>
                              rw [hs] at q2
                              obtain ⟨p2, hp2, g2, ow⟩ := st2.slot i _ e5
                              rw [hp] at hp2
                              cases hp2
                              cases hv
                              refine ⟨a, b, rfl, rfl, set_imp st2.le g2 ow (.int j) (.int _) hs fun o' ow' => ?_⟩
                              have em : Ext (fun a => a = p) G2 H2 G2 (upd H2 p o') := Ext.mutH
                              obtain ⟨s3, o3, e6⟩ := st2.mut (d' := d') e5 hp em (st2.le.mutH g2) g2 ow'
                              exact q2 _ _ σ ⟨e6, s3, fun q z => .inl (o3 q z), rfl, fun _ _ => rfl⟩
                          | _ => exact q2.elim
                    | _ => exact q1.elim
                · rw [if_neg h0] at q1; exact q1.elim
              | _ => exact q1.elim
            | _ => exact q1.elim
      | _ => exact q.elim
theorem ss_augS {o : Aug} {i : Nat} {x : Str} {fk fv : EE} {p1 p2 : Pos} (hu : X.A.units + 1 < cLine) (hN : X.N[i]? = some x) (hv : Vis X.env.scope x) (hd : (x == ("__debug__" : Str)) = false) (hcd : (x == ("__classdict__" : Str)) = false) (he : PE X e (tE X.K X.mg W fv)) (hk : PE X c (tE X.K X.mg W fk))
    (ha : ∀ ov iv new, augStore c ov iv new = (do holding [new, ov, iv] (setItem ov iv new); release [new, ov, iv] []; pure .next)) : PS X (.AugAssign (.Subscript (.Name x p1) c p2) o.op e pos) (tS X.K X.mg W A (fAugS o i fk fv)) :=
  PS.imp (ps_augS (pe_var hN hv hd hcd) hk get_L he (aug_ip o) (set_X hu) ha) fun D σ H h => augS_stmt h
end
end E2
end

section
set_option Elab.async false
set_option linter.all false
set_option maxRecDepth 100000
set_option maxHeartbeats 4000000
/-! E39: xs[::-1] of lists and tuples. -/
namespace E2
open PySem PySem.Spec PyProof.Rows L2
def revD (d : Dt) : Option Slot := match d with
  | .lst ds => some (.ow (.lst ds.reverse))
  | .tup ds => some (.sh (.tup ds.reverse))
  | _ => none
theorem rev_adjust (n : Nat) : Builtin.Slice.sliceAdjust none none (-1) (n : Int) = ((n : Int) - 1, -1) := by
  unfold Builtin.Slice.sliceAdjust
  rfl
theorem rev_places (n : Nat) : Builtin.Slice.slicePlaces ((n : Int) - 1) (-1) (-1) = n := by
  unfold Builtin.Slice.slicePlaces
  have h1 : ¬ ((-1 : Int) > 0) := by omega
  rw [if_neg h1]
  by_cases h : n = 0
  · subst h; decide
  · rw [if_pos (by omega)]
    have : ((n : Int) - 1 - -1 - 1) / -(-1) + 1 = n := by rw [show -(-1 : Int) = 1 by decide, Int.ediv_one]; omega
    omega
theorem rev_pick (xs : Array Value) : ((List.range xs.size).filterMap fun (m : Nat) => xs[((xs.size : Int) - 1 + (m : Int) * -1).toNat]?).toArray = xs.toList.reverse.toArray := by
  congr 1
  refine List.ext_getElem? fun i => ?_
  have e : ((List.range xs.size).filterMap fun (m : Nat) => xs[((xs.size : Int) - 1 + (m : Int) * -1).toNat]?) = (List.range xs.size).map fun m => (xs.toList.reverse)[m]?.getD .none := by
    have key : ∀ l : List Nat, (∀ m ∈ l, m < xs.size) → (l.filterMap fun (m : Nat) => xs[((xs.size : Int) - 1 + (m : Int) * -1).toNat]?) = l.map fun m => (xs.toList.reverse)[m]?.getD .none := by
      intro l hl
      induction l with
      | nil => rfl
      | cons m l ih =>
        have hm := hl m List.mem_cons_self
        have e1 : ((xs.size : Int) - 1 + (m : Int) * -1).toNat = xs.size - 1 - m := by omega
        have h1 : xs[xs.size - 1 - m]? = some (xs[xs.size - 1 - m]'(by omega)) := Array.getElem?_eq_getElem (by omega)
        have h2 : (xs.toList.reverse)[m]? = some (xs[xs.size - 1 - m]'(by omega)) := by
          rw [List.getElem?_reverse (by simpa using hm), Array.length_toList, Array.getElem?_toList, h1]
        rw [List.filterMap_cons, e1, h1, List.map_cons, h2, ih fun k hk => hl k (List.mem_cons_of_mem _ hk)]
        rfl
    exact key _ fun m hm => List.mem_range.mp hm
  rw [e, List.getElem?_map]
  by_cases hi : i < xs.size
  · rw [List.getElem?_range hi, List.getElem?_reverse (by simpa using hi), Array.length_toList, Array.getElem?_toList]
    have h1 : xs[xs.size - 1 - i]? = some (xs[xs.size - 1 - i]'(by omega)) := Array.getElem?_eq_getElem (by omega)
    rw [h1, Option.map_some, List.getElem?_reverse (by simpa using hi), Array.length_toList, Array.getElem?_toList, h1]
    rfl
  · rw [List.getElem?_eq_none (by simp; omega), List.getElem?_eq_none (by simp; omega)]
    rfl
section
variable {P : Program} {w : World} {A : Around} {E : Value → Shared → Prop} {s : Shared}
theorem rev_applied {sl : Addr} {vl vu vs : Value} {n : Nat} {Q : Int × Int × Nat → Shared → Prop} (hs : s.heap.IsSliceOf sl vl vu vs) (pl : IsPart vl none) (pu : IsPart vu none) (ps : IsPart vs (some (-1)))
    (h : Q ((n : Int) - 1, -1, n) s) : wpAny (model P w) A (Builtin.Slice.sliceApplied (.ref sl) (pure (n : Int))) Q E s := by
  obtain ⟨os, hos, hcs, hds⟩ := id hs
  unfold Builtin.Slice.sliceApplied Builtin.Slice.sliceFields
  refine wpAny_bind (wpAny_bind (wpAny_field hos hds (x := vl) rfl (wpAny_bind (wpAny_field hos hds (x := vu) rfl (wpAny_bind (wpAny_field hos hds (x := vs) rfl (wpAny_pure ?_)))))))
  refine wpAny_bind (HT.slicePart_ ps ?_)
  show wpAny _ _ (if ((-1 : Int) == 0) = true then _ else _) _ _ s
  rw [if_neg (by decide)]
  refine wpAny_bind (HT.slicePart_ pl (wpAny_bind (HT.slicePart_ pu (wpAny_bind (wpAny_pure ?_)))))
  show wpAny _ _ (match Builtin.Slice.sliceAdjust none none (-1) (n : Int) with | (lo, hi) => pure (lo, (-1 : Int), Builtin.Slice.slicePlaces lo hi (-1))) _ _ s
  rw [rev_adjust n]
  show wpAny _ _ (pure ((n : Int) - 1, (-1 : Int), Builtin.Slice.slicePlaces ((n : Int) - 1) (-1) (-1))) _ _ s
  rw [rev_places]
  exact wpAny_pure h
theorem getItem_tuple_rev {t sl : Addr} {items : Array Value} {vl vu vs : Value} {Q : Value → Shared → Prop} (ht : IsTup s.heap t items) (hs : s.heap.IsSliceOf sl vl vu vs) (pl : IsPart vl none) (pu : IsPart vu none) (ps : IsPart vs (some (-1)))
    (h : Q (.ref s.heap.objs.size) { s with heap := s.heap.push { cls := .type "tuple", data := .seq items.toList.reverse.toArray } })
    (hsz : items.size ≤ sizeLine) : wpAny (model P w) A (getItem (.ref t) (.ref sl)) Q E s := by
  have htake : sizeOk (.seq items.toList.reverse.toArray) := by
    show items.toList.reverse.toArray.size ≤ sizeLine
    rw [List.size_toArray, List.length_reverse, Array.length_toList]
    exact hsz
  obtain ⟨os, hos, hcs, hds⟩ := id hs
  have hTs : s.TypeIs (.ref sl) "slice" := ⟨os, hos, hcs⟩
  unfold getItem
  try with_reducible refine wpAny_holding ?_
  first | refine wpAny_bind (wpAny_pure ?_) | skip
  refine wpAny_bind (wpAny_sequenceKey ht.typeIs (by decide) ?_)
  refine wpAny_bind (wpAny_callSpecial?_slot (name := Str.ofString "__getitem__") ht.typeIs PyProof.Rows.slot_tuple_getitem
    (wpAny_call_entry PyProof.Rows.slot_tuple_getitem ht.typeIs PyProof.Rows.entry_tuple_getitem ?_ (PyProof.Rows.args_tuple_getitem _ _)))
  show wpAny _ _ (Builtin.Tuple.tupleItemsOf (.ref t) >>= _) _ _ s
  refine wpAny_bind (PyProof.Rows.tupleItemsOf_ ht ?_)
  refine wpAny_bind (wpAny_typeOf hTs ?_)
  rw [if_pos (by decide)]
  refine wpAny_bind (rev_applied hs pl pu ps ?_)
  show wpAny _ _ (if (((items.size : Int) - 1) == 0 && (-1 : Int) == 1 && items.size == items.size) = true then _ else _) _ _ s
  rw [if_neg (by rw [show ((-1 : Int) == 1) = false by decide, Bool.and_false, Bool.false_and]; exact Bool.false_ne_true), rev_pick]
  first
    | exact wpAny_bind (m := Builtin.Tuple.tupleExact _) (wpAny_newObj_type (wpAny_pure ⟨_, rfl, wpAny_pure h⟩) htake)
    | exact wpAny_bind (m := Builtin.Tuple.tupleExact _) (wpAny_newObj_type (wpAny_bind (wpAny_pure (wpAny_pure ⟨_, rfl, wpAny_pure h⟩))) htake)
    | exact wpAny_bind (wpAny_bind (m := Builtin.Tuple.tupleExact _) (wpAny_newObj_type (wpAny_pure (wpAny_pure ⟨_, rfl, wpAny_pure h⟩)) htake))
    | exact wpAny_bind (wpAny_bind (m := Builtin.Tuple.tupleExact _) (wpAny_newObj_type (wpAny_pure ⟨_, rfl, wpAny_pure h⟩) htake))
end
section
variable {X : Cx} {K : PySem.W.Frag} {mg : Str → Option Value} {W : WX}
def tRevX (K : PySem.W.Frag) (te : TE) : TE := fun σ H Q => te σ H fun x H1 => ∃ a xs, x = .ref a ∧ ((SqL K H1 a xs ∧ ∀ p, H1 p = none → Q (.ref p) (upd H1 p (.lst xs.reverse))) ∨ (SqT K H1 a xs ∧ ∀ p, H1 p = none → Q (.ref p) (upd H1 p (.tup xs.reverse))))
theorem pe_revX {e : Expr} {te : TE} {k : Nat} {p1 p2 p3 pos : Pos} (he : PE X e te) : PE X (.Subscript e (.Slice none none (some (.UnaryOp .USub (.Constant (.int 1) k p1) p2)) p3) pos) (tRevX X.K te) := by
  refine ⟨fun pins s σ H Q I h => ?_⟩
  refine Subscript_ (thn (he.run pins s σ H _ I h) fun v s1 ⟨x, H1, I1, r1, q1⟩ => ?_)
  obtain ⟨a, xs, ex, q1⟩ := q1
  subst ex
  cases r1
  have hst : PO X (some (.UnaryOp .USub (.Constant (.int 1) k p1) p2)) (tPart (tUn (rU fun i => .int (-i)) (tC (.int 1)))) := po_some (pe_un un_neg pe_int)
  refine wpAny_Slice (thn (po_none.run pins s1 σ H1 (fun o H2 => o = none ∧ H2 = H1) I1 ⟨rfl, rfl⟩) fun vl s2 ⟨l, H2, I2, pl, el, e2⟩ => ?_)
  subst el e2
  refine thn (po_none.run pins s2 σ H2 (fun o H3 => o = none ∧ H3 = H2) I2 ⟨rfl, rfl⟩) fun vu s3 ⟨u, H3, I3, pu, eu, e3⟩ => ?_
  subst eu e3
  refine thn (hst.run pins s3 σ H3 (fun o H4 => o = some (-1) ∧ H4 = H3) I3 ⟨1, rfl, -1, rfl, rfl, rfl⟩) fun vs s4 ⟨o, H4, I4, ps, eo, e4⟩ => ?_
  subst eo e4
  have I5 : Inv X pins σ H4 { s4 with heap := s4.heap.push { cls := .type "slice", data := .fields #[vl, vu, vs] } } := I4.kept (t' := s4.toks) fun b ob q => Heap.get?_push_of_some _ q
  show wpAny (model X.prog X.w) X.A (subscriptTail e (.Slice none none (some (.UnaryOp .USub (.Constant (.int 1) k p1) p2)) p3) (.ref a) (.ref s4.heap.objs.size)) (EP X pins σ Q) X.xe { s4 with heap := s4.heap.push { cls := .type "slice", data := .fields #[vl, vu, vs] } }
  rcases q1 with ⟨hx, q⟩ | ⟨hx, q⟩
  · obtain ⟨its, r, ht, hz⟩ := I5.list hx
    have hlen := r.length
    refine tail_any (ops := [.ref a, .ref s4.heap.objs.size]) ht.isList.typeIs (PySem.slot_list_getitem.lookup) ?_ (by with_unfolding_all rfl)
    refine wpAny_getItem_list_slice ht.isList (Heap.IsSliceOf.new _ vl vu vs) pl pu ps (by decide) ?_ (by rw [List.size_toArray]; omega)
    rw [PySem.W.krv_pick]
    refine ⟨.ref _, _, I5.laid (t' := s4.toks) (o := .lst xs.reverse) (fun b ob q => Heap.get?_push_of_some _ q) (Nat.le_refl _) ?_, rfl, q _ (I5.hok.fresh (Nat.le_refl _))⟩
    exact ⟨by rw [List.length_reverse]; exact hz, _, 0, r.reverse, Heap.get?_push_size _ rfl⟩
  · obtain ⟨its, r, ht, hz⟩ := I5.tuple hx
    have hlen := r.length
    refine tail_any (ops := [.ref a, .ref s4.heap.objs.size]) ht.typeIs (PyProof.Rows.slot_tuple_getitem.lookup) ?_ (by with_unfolding_all rfl)
    refine getItem_tuple_rev ht (Heap.IsSliceOf.new _ vl vu vs) pl pu ps ?_ (by rw [List.size_toArray]; omega)
    refine ⟨.ref _, _, I5.laid (t' := s4.toks) (o := .tup xs.reverse) (fun b ob q => Heap.get?_push_of_some _ q) (Nat.le_refl _) ?_, rfl, q _ (I5.hok.fresh (Nat.le_refl _))⟩
    exact ⟨by rw [List.length_reverse]; exact hz, _, r.reverse, IsTup.new _ _⟩
theorem rpall_rev {G : Hp} : ∀ {xs : List V} {ds : List Dt}, RpAll K mg G xs ds → RpAll K mg G xs.reverse ds.reverse
  | _, _, .nil => .nil
  | _, _, .cons h r => by
    rw [List.reverse_cons, List.reverse_cons]
    exact (rpall_rev r).append (.one h)
theorem sv_rev {e : Expr} {o : Op} {k : Nat} {p1 p2 p3 pos : Pos} (he : PE X e (tO X.K X.mg W o)) : PE X (.Subscript e (.Slice none none (some (.UnaryOp .USub (.Constant (.int 1) k p1) p2)) p3) pos) (tV X.K X.mg W (f1 o revD)) := by
  refine PE.imp (pe_revX he) fun σ H Q h => ?_
  refine one_imp (r := fun x H1 Q => ∃ a xs, x = .ref a ∧ ((SqL X.K H1 a xs ∧ ∀ p, H1 p = none → Q (.ref p) (upd H1 p (.lst xs.reverse))) ∨ (SqT X.K H1 a xs ∧ ∀ p, H1 p = none → Q (.ref p) (upd H1 p (.tup xs.reverse))))) (fun G H v d Q s l h1 hg k => ?_) h
  unfold revD at hg
  split at hg
  · cases hg
    obtain ⟨a, ys, rfl, hR, ra⟩ := h1.lst l
    exact ⟨a, ys, rfl, .inl ⟨.inl hR, Fol.newL k l (rpall_rev ra)⟩⟩
  · cases hg
    obtain ⟨a, ys, rfl, hR, ra, _⟩ := h1.tup l
    exact ⟨a, ys, rfl, .inr ⟨hR, Fol.newT k l (rpall_rev ra)⟩⟩
  · cases hg
end
end E2
end

section
set_option Elab.async false
set_option linter.all false
set_option maxRecDepth 100000
set_option maxHeartbeats 4000000
/-! E42: a, b = v, w with values of their own. -/
namespace E2
open PySem PySem.Spec PyProof.Rows L2
section
variable {X : Cx} {K : PySem.W.Frag} {mg : Str → Option Value} {G G' H H' H0 G1 H1 G2 H2 : Hp} {P P1 : Addr → Prop} {σ : L2.St} {ρ ρ' ρ1 ρ2 : Env} {s : Shared} {W : WX} {A : List Nat} {a b c e : Expr} {pos : Pos}
/-- a value that waits while more is evaluated -/
theorem VR.ext {v : V} {s : Slot} (h : VR K mg P H0 G1 H1 σ ρ1 v s) (e : Ext (Own σ ρ1) G1 H1 G2 H2) (o : ∀ p, Own σ ρ2 p → Own σ ρ1 p) : VR K mg P H0 G2 H2 σ ρ2 v s := by
  cases s with
  | dead => exact h
  | sh d => exact Rp.le e.sub.le h
  | ow d =>
    obtain ⟨p, rfl, g, no, ow, q⟩ := h
    obtain ⟨ob, hob, hmu⟩ := ow.get
    refine ⟨p, rfl, ?_, fun z => no (o p z), ow.ext e g no, q⟩
    cases hg : G2 p with
    | none => rfl
    | some u =>
      rcases e.new p u hg with ⟨_, z⟩ | z | z
      · rw [g] at z; cases z
      · exact absurd hmu (z ob hob)
      · exact absurd z no
/-- two values, none the other's -/
theorem put2 (st : Stt K mg G2 H2 σ ρ2) {v w : V} {s u : Slot} (h1 : VR K mg P H0 G2 H2 σ ρ2 v s) (h2 : VR K mg P1 H1 G2 H2 σ ρ2 w u) (ap : ∀ p d e, s = .ow d → u = .ow e → v = .ref p → w = .ref p → False) (i j : Nat) :
    Stt K mg G2 H2 ((σ.set i (some v)).set j (some w)) ((ρ2.set i s).set j u) ∧ ∀ p, Own ((σ.set i (some v)).set j (some w)) ((ρ2.set i s).set j u) p → Own σ ρ2 p ∨ (H0 p = none ∨ P p) ∨ (H1 p = none ∨ P1 p) := by
  obtain ⟨st1, o1⟩ := st.put h1 i
  have src : ∀ p, Own (σ.set i (some v)) (ρ2.set i s) p → Own σ ρ2 p ∨ (∃ d, s = .ow d ∧ v = .ref p) := fun p ⟨k, ⟨d, hd⟩, e⟩ => by
    rcases set_get hd with ⟨rfl, z⟩ | ⟨ne, z⟩
    · rcases set_get e with ⟨_, y⟩ | ⟨n, _⟩
      · cases y
        exact .inr ⟨d, z.symm, rfl⟩
      · exact absurd rfl n
    · rw [List.getElem?_set_ne ne] at e
      exact .inl ⟨k, ⟨d, z⟩, e⟩
  have h2' : VR K mg P1 H1 G2 H2 (σ.set i (some v)) (ρ2.set i s) w u := by
    cases u with
    | dead => exact h2
    | sh d => exact h2
    | ow d =>
      obtain ⟨p, rfl, g, no, ow, q⟩ := h2
      refine ⟨p, rfl, g, fun z => ?_, ow, q⟩
      rcases src p z with z | ⟨d', e1, e2⟩
      · exact no z
      · exact ap p d' d e1 rfl e2 rfl
  obtain ⟨st2, o2⟩ := st1.put h2' j
  refine ⟨st2, fun p z => ?_⟩
  rcases o2 p z with z | z
  · rcases o1 p z with z | z
    · exact .inl z
    · exact .inr (.inl z)
  · exact .inr (.inr z)
def fParV (i j : Nat) (f g : EV) : SF := fun ρ => sbind (f ρ) fun d ρ1 => sbind (g ρ1) fun e ρ2 => .nxt ((ρ2.set i d).set j e)
theorem ss_parV {i j : Nat} {x y : Str} {f g : EV} {px py pt : Pos} {kt k2 pt2} (hc : X.calm = true) (hN : X.N.Nodup) (hi : X.N[i]? = some x) (hj : X.N[j]? = some y) (hij : i ≠ j)
    (hx : X.env.scope.names.lookup x = some .local) (hy : X.env.scope.names.lookup y = some .local) (ha : PE X a (tV X.K X.mg W f)) (hb : PE X b (tV X.K X.mg W g)) (s1 : starEach [a, b] X.env = (false, eval a X.env) :: starEach [b] X.env) (s2 : starEach [b] X.env = (false, eval b X.env) :: starEach [] X.env)
    (hw : swappedStores [.Tuple [.Name x px, .Name y py] kt pt] (.Tuple [a, b] k2 pt2) X.env = pure (some [x, y])) (iA : i ∈ A) (jA : j ∈ A) :
    PS X (.Assign [.Tuple [.Name x px, .Name y py] kt pt] (.Tuple [a, b] k2 pt2) pos) (tS X.K X.mg W A (fParV i j f g)) :=
  PS.imp (ps_par hc hN hi hj hij hx hy (pa_cons ha (pa_cons hb pa_nil s2) s1) hw rfl) fun D σ H ⟨G, ρ, st, q⟩ => by
    have q : SPst X.K X.mg W σ A (Own σ ρ) G H (sbind (f ρ) fun d ρ1 => sbind (g ρ1) fun e ρ2 => .nxt ((ρ2.set i d).set j e)) D := q
    refine ⟨G, ρ, st, ?_⟩
    generalize f ρ = out at q ⊢
    cases out with
    | bad => exact q
    | err x fs ρ' => exact fun C dd G' H' hm e st o f => q C dd G' H' σ hm (aft_expr e st o) f
    | ok z =>
      obtain ⟨d, ρ1⟩ := z
      intro G1 H1 e1 st1 o1 v hv
      refine ⟨G1, ρ1, st1, ?_⟩
      have q : SPst X.K X.mg W σ A (Own σ ρ) G H (sbind (g ρ1) fun e ρ2 => .nxt ((ρ2.set i d).set j e)) D := q
      generalize g ρ1 = out2 at q ⊢
      cases out2 with
      | bad => exact q
      | err x fs ρ' => exact fun C dd G' H' hm e st o f => q C dd G' H' σ hm (aft_expr (e1.trans e fun p z => .inl (o1 p z)) st fun p z => o1 p (o p z)) f
      | ok z =>
        obtain ⟨u, ρ2⟩ := z
        intro G2 H2 e2 st2 o2 w hw
        refine ⟨v, w, rfl, ?_⟩
        have hv2 := hv.ext e2 o2
        obtain ⟨s4, o4⟩ := put2 st2 hv2 (hw.weaken (e1.back o1)) (fun p d' e' h1 h2 h3 h4 => by
          subst h1 h2
          obtain ⟨p1, q1, _, no1, ow1, _⟩ := hv
          obtain ⟨p2, q2, _, no2, ow2, z2⟩ := hw
          rw [h3] at q1
          rw [h4] at q2
          cases q1
          cases q2
          obtain ⟨ob, hob, _⟩ := ow1.get
          rcases z2 with z | z
          · rw [hob] at z; cases z
          · exact no1 z) i j
        refine q G2 H2 _ ⟨e1.trans e2 fun p z => .inl (o1 p z), s4, fun p z => ?_, by simp, fun n hn => ?_⟩
        · rcases o4 p z with z | z | z
          · exact .inl (o1 p (o2 p z))
          · exact z.symm
          · exact z.symm
        · have n1 : j ≠ n := fun z => hn (z ▸ jA)
          have n2 : i ≠ n := fun z => hn (z ▸ iA)
          rw [List.getElem?_set_ne n1, List.getElem?_set_ne n2]
theorem VR.aside {v w : V} {s u : Slot} {i : Nat} (h2 : VR K mg P1 H1 G2 H2 σ ρ2 w u) (ap : ∀ p d e, s = .ow d → u = .ow e → v = .ref p → w = .ref p → False) : VR K mg P1 H1 G2 H2 (σ.set i (some v)) (ρ2.set i s) w u := by
  cases u with
  | dead => exact h2
  | sh d => exact h2
  | ow d =>
    obtain ⟨p, rfl, g, no, ow, q⟩ := h2
    refine ⟨p, rfl, g, fun z => ?_, ow, q⟩
    obtain ⟨k, ⟨d', hd⟩, e⟩ := z
    rcases set_get hd with ⟨rfl, z⟩ | ⟨ne, z⟩
    · rcases set_get e with ⟨_, y⟩ | ⟨n, _⟩
      · cases y
        exact ap p d' d z.symm rfl rfl rfl
      · exact absurd rfl n
    · rw [List.getElem?_set_ne ne] at e
      exact no ⟨k, ⟨d', z⟩, e⟩
/-- a value that came first is none of a later one's -/
theorem VR.apart {v w : V} {s u : Slot} (h1 : VR K mg P H0 G1 H1 σ ρ1 v s) (h2 : VR K mg (Own σ ρ1) H1 G2 H2 σ ρ2 w u) : ∀ p d e, s = .ow d → u = .ow e → v = .ref p → w = .ref p → False := fun p d e q1 q2 q3 q4 => by
  subst q1 q2
  obtain ⟨p1, q1, _, no1, ow1, _⟩ := h1
  obtain ⟨p2, q2, _, no2, ow2, z2⟩ := h2
  rw [q3] at q1
  rw [q4] at q2
  cases q1
  cases q2
  obtain ⟨ob, hob, _⟩ := ow1.get
  rcases z2 with z | z
  · rw [hob] at z; cases z
  · exact no1 z
def fParV3 (i j l : Nat) (f g h : EV) : SF := fun ρ => sbind (f ρ) fun d ρ1 => sbind (g ρ1) fun e ρ2 => sbind (h ρ2) fun u ρ3 => .nxt (((ρ3.set i d).set j e).set l u)
theorem ss_parV3 {i j l : Nat} {x y z : Str} {f g h : EV} {px py pz pt : Pos} {kt k2 pt2} (hc : X.calm = true) (hN : X.N.Nodup) (hi : X.N[i]? = some x) (hj : X.N[j]? = some y) (hl : X.N[l]? = some z) (hij : i ≠ j) (hil : i ≠ l) (hjl : j ≠ l)
    (hx : X.env.scope.names.lookup x = some .local) (hy : X.env.scope.names.lookup y = some .local) (hz : X.env.scope.names.lookup z = some .local) (ha : PE X a (tV X.K X.mg W f)) (hb : PE X b (tV X.K X.mg W g)) (hcc : PE X c (tV X.K X.mg W h))
    (s1 : starEach [a, b, c] X.env = (false, eval a X.env) :: starEach [b, c] X.env) (s2 : starEach [b, c] X.env = (false, eval b X.env) :: starEach [c] X.env) (s3 : starEach [c] X.env = (false, eval c X.env) :: starEach [] X.env)
    (hw : swappedStores [.Tuple [.Name x px, .Name y py, .Name z pz] kt pt] (.Tuple [a, b, c] k2 pt2) X.env = pure (some [x, y, z])) (iA : i ∈ A) (jA : j ∈ A) (lA : l ∈ A) :
    PS X (.Assign [.Tuple [.Name x px, .Name y py, .Name z pz] kt pt] (.Tuple [a, b, c] k2 pt2) pos) (tS X.K X.mg W A (fParV3 i j l f g h)) :=
  PS.imp (ps_par3 hc hN hi hj hl hij hil hjl hx hy hz (pa_cons ha (pa_cons hb (pa_cons hcc pa_nil s3) s2) s1) hw rfl) fun D σ H ⟨G, ρ, st, q⟩ => by
    have q : SPst X.K X.mg W σ A (Own σ ρ) G H (sbind (f ρ) fun d ρ1 => sbind (g ρ1) fun e ρ2 => sbind (h ρ2) fun u ρ3 => .nxt (((ρ3.set i d).set j e).set l u)) D := q
    refine ⟨G, ρ, st, ?_⟩
    generalize f ρ = out at q ⊢
    cases out with
    | bad => exact q
    | err x fs ρ' => exact fun C dd G' H' hm e st o f => q C dd G' H' σ hm (aft_expr e st o) f
    | ok z =>
      obtain ⟨d, ρ1⟩ := z
      intro G1 H1 e1 st1 o1 v hv
      refine ⟨G1, ρ1, st1, ?_⟩
      have q : SPst X.K X.mg W σ A (Own σ ρ) G H (sbind (g ρ1) fun e ρ2 => sbind (h ρ2) fun u ρ3 => .nxt (((ρ3.set i d).set j e).set l u)) D := q
      generalize g ρ1 = out2 at q ⊢
      cases out2 with
      | bad => exact q
      | err x fs ρ' => exact fun C dd G' H' hm e st o f => q C dd G' H' σ hm (aft_expr (e1.trans e fun p z => .inl (o1 p z)) st fun p z => o1 p (o p z)) f
      | ok z =>
        obtain ⟨u, ρ2⟩ := z
        intro G2 H2 e2 st2 o2 w hw
        refine ⟨G2, ρ2, st2, ?_⟩
        have q : SPst X.K X.mg W σ A (Own σ ρ) G H (sbind (h ρ2) fun r ρ3 => .nxt (((ρ3.set i d).set j u).set l r)) D := q
        generalize h ρ2 = out3 at q ⊢
        have e12 : Ext (Own σ ρ) G H G2 H2 := e1.trans e2 fun p z => .inl (o1 p z)
        cases out3 with
        | bad => exact q
        | err x fs ρ' => exact fun C dd G' H' hm e st o f => q C dd G' H' σ hm (aft_expr (e12.trans e fun p z => .inl (o1 p (o2 p z))) st fun p z => o1 p (o2 p (o p z))) f
        | ok z =>
          obtain ⟨r, ρ3⟩ := z
          intro G3 H3 e3 st3 o3 t ht
          refine ⟨v, w, t, rfl, ?_⟩
          have hv2 := hv.ext e2 o2
          have ap12 := hv.apart hw
          have ap13 := hv2.apart ht
          have ap23 := hw.apart ht
          have hv3 := hv2.ext e3 o3
          have hw3 := (hw.weaken (e1.back o1)).ext e3 o3
          have ht3 := ht.weaken (e12.back fun p z => o1 p (o2 p z))
          obtain ⟨s4, o4⟩ := st3.put hv3 i
          obtain ⟨s5, o5⟩ := s4.put (hw3.aside (i := i) ap12) j
          obtain ⟨s6, o6⟩ := s5.put ((ht3.aside (i := i) ap13).aside (i := j) ap23) l
          refine q G3 H3 _ ⟨e12.trans e3 fun p z => .inl (o1 p (o2 p z)), s6, fun p z => ?_, by simp, fun n hn => ?_⟩
          · rcases o6 p z with z | z | z
            · rcases o5 p z with z | z | z
              · rcases o4 p z with z | z | z
                · exact .inl (o1 p (o2 p (o3 p z)))
                · exact .inr z
                · exact .inl z
              · exact .inr z
              · exact .inl z
            · exact .inr z
            · exact .inl z
          · have n1 : j ≠ n := fun z => hn (z ▸ jA)
            have n2 : i ≠ n := fun z => hn (z ▸ iA)
            have n3 : l ≠ n := fun z => hn (z ▸ lA)
            rw [List.getElem?_set_ne n3, List.getElem?_set_ne n1, List.getElem?_set_ne n2]
end
end E2
end

section
set_option Elab.async false
set_option linter.all false
set_option maxRecDepth 100000
set_option maxHeartbeats 4000000
/-! E43: defs as values; calls of a slot that holds a def. -/
namespace E2
open PySem PySem.Spec PyProof.Rows L2
/-- a def of the program that may be called here -/
def CallOk (X : Cx) (x : Str) (F : FS) : Prop := ∃ (k : Nat) (f : Addr) (fd : FuncData) (ps : List Str), FnOk X.prog X.w X.K X.mg X.base (L2.CX X.prog X.w) k f fd ps (spOf X.K X.mg F) ∧ Room k X.A ∧ X.mg x = some (.ref f) ∧ PySem.W.keepIn X.K (.ref f) = true ∧ L2.Binds X.K fd ps []
def lookF (x : Str) : List (Str × FS) → Option FS
  | [] => none
  | p :: l => if p.1 == x then some p.2 else lookF x l
theorem lookF_mem {x : Str} {F : FS} : ∀ {l : List (Str × FS)}, lookF x l = some F → (x, F) ∈ l
  | [], h => by cases h
  | (y, G) :: l, h => by
    unfold lookF at h
    split at h
    · rename_i e
      have e : y = x := eq_of_beq e
      cases h
      subst e
      exact List.mem_cons_self
    · exact List.mem_cons_of_mem _ (lookF_mem h)
/-- x(e, ..), the slot i holding a def -/
def fCallV (fns : List (Str × FS)) (i : Nat) (os : List Op) : EV := fun ρ => match ρ[i]? with
  | some (.sh (.fn y)) => (match lookF y fns with
    | some F => if os.length = F.n then fCall F os ρ else .bad
    | none => .bad)
  | _ => .bad
section
variable {X : Cx} {W : WX}
/-- what a call by a slot asks -/
def tSlotS (i : Nat) (f : Addr) (sp : Sp) (E : L2.St → XK) (t : TA) : TE := fun σ H Q => σ[i]? = some (some (.ref f)) ∧ t σ H fun vs H1 => sp vs H1 Q (E σ)
theorem pe_slotS {CX : CXT} {k i : Nat} {f : Addr} {fd : FuncData} {ps : List Str} {sp : Sp} {E : L2.St → XK} {x : Str} {p pos : Pos} {e : Expr} {es : List Expr} {t : TA} (F : FnOk X.prog X.w X.K X.mg X.base CX k f fd ps sp) (hr : Room k X.A) (hN : X.N[i]? = some x) (hv : Vis X.env.scope x)
    (hk : PySem.W.keepIn X.K (.ref f) = true) (hb : L2.Binds X.K fd ps []) (hx : ∀ σ, PassesAt CX X σ (E σ)) (ha : PA X (e :: es) t) (hdb : (x == ("__debug__" : Str)) = false) (hcd : (x == ("__classdict__" : Str)) = false)
    (he : starEach (e :: es) X.env = (false, eval e X.env) :: starEach es X.env) (hpl : (backTo pos (starEach es X.env)).any (·.1) = false) : PE X (.Call (.Name x p) (e :: es) [] pos) (tSlotS i f sp E t) := by
  refine ⟨fun pp s σ H Q J ⟨h1, h2⟩ => ?_⟩
  refine wpAny_Call_Name_kw (thn ((pe_var (pos := p) hN hv hdb hcd).run pp s σ H (fun v H0 => v = .ref f ∧ H0 = H) J ⟨_, h1, rfl, rfl⟩) fun u s0 z => ?_)
  obtain ⟨v, H0, J0, rv, ev, eH⟩ := z
  subst ev eH
  cases rv
  refine PySem.W.callWith_K (h₀ := X.base) J0.ok.mod.kin hk (thn (ha.run pos pp s0 σ H0 _ J0 h2) fun us s1 z => ?_) he hpl
  obtain ⟨vs, H1, J1, r, q⟩ := z
  exact ⟨J1.kIn, run_fnS F hr hb (hx σ) J1 r q⟩
theorem sv_callV {fns : List (Str × FS)} {i : Nat} {x : Str} {p pos : Pos} {e : Expr} {es : List Expr} {os : List Op} (c : ∀ q ∈ fns, CallOk X q.1 q.2) (tk : Takes X W) (hN : X.N[i]? = some x) (hv : Vis X.env.scope x) (hdb : (x == ("__debug__" : Str)) = false) (hcd : (x == ("__classdict__" : Str)) = false)
    (ha : PA X (e :: es) (tOs X.K X.mg W os)) (he : starEach (e :: es) X.env = (false, eval e X.env) :: starEach es X.env) (hpl : (backTo pos (starEach es X.env)).any (·.1) = false) : PE X (.Call (.Name x p) (e :: es) [] pos) (tV X.K X.mg W (fCallV fns i os)) := by
  refine ⟨fun pp s σ H Q J ⟨G, ρ, st, q⟩ => ?_⟩
  unfold fCallV at q
  cases e1 : ρ[i]? with
  | none => rw [e1] at q; exact q.elim
  | some u =>
    rw [e1] at q
    have z := st.slot i u e1
    cases u with
    | dead => exact q.elim
    | ow d => exact q.elim
    | sh d =>
      cases d with
      | fn y =>
        dsimp only at q
        obtain ⟨v, ev, rv⟩ := z
        cases e2 : lookF y fns with
        | none => rw [e2] at q; exact q.elim
        | some F =>
          rw [e2] at q
          dsimp only at q
          by_cases hn : os.length = F.n
          · rw [if_pos hn] at q
            obtain ⟨k, f, fd, ps, h1, h2, h3, h4, h5⟩ := c _ (lookF_mem e2)
            cases rv with
            | fn hm =>
              have h3 : X.mg y = some (.ref f) := h3
              rw [hm] at h3
              cases h3
              refine (pe_slotS h1 h2 hN hv h4 h5 (fun σ => passAt tk σ) ha hdb hcd he hpl).run pp s σ H Q J ⟨ev, G, ρ, st, (Pst.bind q).mono fun as ρ1 G1 H1 ex st1 o1 k vs hvs => ?_⟩
              exact call_imp st1 hvs hn ((k ex st1 o1).mono fun s ρ' G' H' _ _ _ k v hv => k v (hv.weaken (ex.back o1)))
          · rw [if_neg hn] at q; exact q.elim
      | _ => exact q.elim
theorem sv_fn {f : Addr} {x : Str} {p : Pos} (hg : Gl X x) (hm : X.mg x = some (.ref f)) (hdb : (x == ("__debug__" : Str)) = false) : PE X (.Name x p) (tV X.K X.mg W (fC (.fn x))) := sv_const (pe_glob (v := .ref f) hg hm rfl hdb) fun G => .fn hm
end
end E2
end

section
set_option Elab.async false
set_option linter.all false
set_option maxRecDepth 100000
set_option maxHeartbeats 4000000
/-! E44: try with several clauses that name what they catch. -/
namespace E2
open PySem PySem.Spec PyProof.Rows L2
/-- a clause: its class, the slot of its name, what its suite asks -/
abbrev Hd := Value × Nat × (Addr → Value → Option Addr → TS)
/-- behind a suite the name is gone -/
def offE (D : Ends) (i : Nat) : Ends := ⟨fun τ B => D.nx (τ.set i none) B, D.rt, fun τ B => D.bk (τ.set i none) B, fun τ B => D.ct (τ.set i none) B⟩
def wHands (K : PySem.W.Frag) (Wo : WX) (D : Ends) : List Hd → WX
  | [] => Wo
  | h :: r => fun cls d τ B => ∃ b, PySem.W.exmOne K cls h.1 = some b ∧ (b = true → ∀ x, B x = none → h.2.2 x cls d (offE D h.2.1) (τ.set h.2.1 (some (.ref x))) B) ∧ (b = false → wHands K Wo D r cls d τ B)
inductive HandsOk (X : Cx) : List ExceptHandler → List Hd → Prop
  | nil : HandsOk X [] []
  | cons {y n : Str} {c : Value} {i : Nat} {t : Addr → Value → Option Addr → TS} {b0 : Stmt} {su : List Stmt} {p1 p2 : Pos} {rest : List ExceptHandler} {l : List Hd} (hi : X.N[i]? = some n) (hl : X.env.kindOf n = some .local) (hc : Names X y c)
      (ok : ∀ (x : Addr) (ox : Obj) (cls : Value) (d : Option Addr) (pn : List (Addr × Obj)), Zc cls d ox → (∃ vs, ox.data = .fields vs) → PSs (X.suite x ((x, ox) :: pn)) (b0 :: su) (t x cls d)) (r : HandsOk X rest l) :
      HandsOk X (.ExceptHandler (some (.Name y p1)) (some n) (b0 :: su) p2 :: rest) ((c, i, t) :: l)
section
variable {X : Cx} {pins : List (Addr × Obj)} {τ : L2.St} {B : Hp} {D : Ends} {Wo : WX} {s : Shared} {G0 : Heap} {x : Addr} {cls : Value} {d : Option Addr}
/-- the clauses, one after the other, of an exception that is noted -/
theorem hands_run (ok : X.Ok) (hN : X.N.Nodup) (hs : X.stack = X.env :: X.outer) (hf : X.env.frame = some X.env.locals) {sI : Shared} {hh : Heap} (J : Inv X pins τ B sI) (nb : ∀ b o, sI.heap.get? b = some o → b ∉ frs X.stack → G0.get? b = some o) (fl : HandSPX.FlyingZ G0 (X.env :: X.outer) x (Zc cls d) hh)
    (up : sI.heap.UpToSlots hh) (na : B x = none) (os : s.os = sI.os) (ag : AllBare s.gens) (tk : Takes X Wo) {hds : List ExceptHandler} {l : List Hd} (hk : HandsOk X hds l) :
    wHands X.K Wo D l cls d τ B → wpAny (model X.prog X.w) X.A (handleBy (.ref x) X.env hds) (SP X pins D) X.xe { s with heap := hh } := by
  have J1 : Inv X pins τ B { s with heap := hh } := J.landed nb fl.1 up os ag
  obtain ⟨o1, f1, g1, z1, d1⟩ := fl.there
  have apart : ∀ y ∈ frs (X.env :: X.outer), x ≠ y := fun y hy e => by
    subst e
    obtain ⟨_, o', e', nf⟩ := fl.2.2.1.mem hy
    rw [g1] at e'
    cases e'
    exact nf _ d1
  have nL : x ≠ X.env.locals := fun e => apart _ (List.mem_filterMap.mpr ⟨X.env, List.mem_cons_self, by rw [hf]⟩) e
  have nF : x ∉ X.fs := fun m => by
    obtain ⟨e, he, q⟩ := List.mem_filterMap.mp m
    exact apart x (List.mem_filterMap.mpr ⟨e, List.mem_cons_of_mem _ he, q⟩) rfl
  have S1 := J1.suite g1 d1 na nL nF
  induction hk with
  | nil =>
    intro w
    refine wpAny_handleBy_nil ?_
    obtain ⟨_, _, _, ob, fs, T, _, _, gb, _, db, t1, _⟩ := id fl
    unfold PySem.passOn
    refine wpAny_bind (wpAny_field gb db t1 ?_)
    rw [if_neg (by simp)]
    have out : wpAny (model X.prog X.w) X.A (setFlight (.ref x) X.env.frame) (fun _ s2 => wpAny (model X.prog X.w) X.A (throw (.ref x) : Sem Flow) (SP X pins D) X.xe s2) X.xe { s with heap := hh } := by
      rw [hf]
      exact HandSPX.setFlight_upZ fl fun h4 held up4 => wpAny_throw (tk _ _ ⟨x, G0, sI, pins, τ, B, cls, d, rfl, J, nb, up.trans up4, .inr (.inr (by rw [hs]; exact held)), na, os, ag, w⟩)
    first
      | exact wpAny_bind (wpAny_pure (wpAny_bind out))
      | exact wpAny_bind out
  | @cons y n c i t b0 su p1 p2 rest l hi hl hc hsu r ih =>
    rintro ⟨b, hb, yes, no⟩
    refine wpAny_handleBy_cons (codeAny_handlers_test ?_) (fun q => by cases q)
    have lk1 : PySem.W.Looks (model X.prog X.w) hh (typeOf (.ref x)) cls := fun _ _ _ _ k q => wpAny_typeOf_ref (k _ _ g1) (z1.1 ▸ q)
    have lk2 := PySem.W.exm_one (M := model X.prog X.w) J1.kIn lk1 hb
    have asks : ∀ {Q : Value → Shared → Prop} {E : Value → Shared → Prop}, Q c { s with heap := hh } → wpAny (model X.prog X.w) (X.A.mark (some (.ref x))) (eval (.Name y p1) X.env) Q E { s with heap := hh } := fun {Q E} q => by
      obtain ⟨k1, k2, k3⟩ := hc
      rcases k3 with k3 | ⟨k3, k4, k5⟩
      · exact ld_glob (X := X.suite x ((x, o1) :: (X.pn ++ pins))) S1 k1 k3 q k2
      · exact ld_blt (X := X.suite x ((x, o1) :: (X.pn ++ pins))) S1 k1 k3 k4 q k5 k2
    refine asks (lk2.here ?_)
    cases b with
    | false => exact ih (no rfl)
    | true =>
      refine codeAny_handlers_suite_as (HandSPX.lands_againZ fl fun h4 fl4 up4 => ?_)
      have J4 : Inv X pins τ B { s with heap := h4 } := J.landed nb fl4.1 (up.trans up4) os ag
      obtain ⟨o4, f4, g4, z4, d4⟩ := fl4.there
      have S4 := J4.suite g4 d4 na nL nF
      refine store_ok (X := X.suite x ((x, o4) :: (X.pn ++ pins))) (v := .ref x) S4 hN hi (.inl hl) rfl (fun s5 S5 => ?_) (.inr hl)
      refine wpAny_mono ((hsu x o4 cls d (X.pn ++ pins) z4 ⟨_, d4⟩).run [] s5 _ B _ S5 (yes rfl x na)) (fun f s6 z => ?_) fun _ _ z => z.elim
      have gone : ∀ {τ6 : L2.St} {B6 : Hp} {Q : Shared → Prop}, Inv (X.suite x ((x, o4) :: (X.pn ++ pins))) [] τ6 B6 s6 → (∀ s7, Inv X pins (τ6.set i none) B6 s7 → Q s7) → wpAny (model X.prog X.w) X.A (do bindName X.env n .none; unbindBehindTheSuite X.env n p2) (fun _ s7 => Q s7) X.xe s6 := fun S6 q => gone_ok (S6.unsuite ok) hN hi hl q
      cases f with
      | ret u => obtain ⟨v, τ6, B6, S6, r6, q6⟩ := z; exact gone S6 fun s7 J7 => ⟨_, _, _, J7, r6, q6⟩
      | next => obtain ⟨τ6, B6, S6, q6⟩ := z; exact gone S6 fun s7 J7 => ⟨_, _, J7, q6⟩
      | brk => obtain ⟨τ6, B6, S6, q6⟩ := z; exact gone S6 fun s7 J7 => ⟨_, _, J7, q6⟩
      | cont => obtain ⟨τ6, B6, S6, q6⟩ := z; exact gone S6 fun s7 J7 => ⟨_, _, J7, q6⟩
theorem ps_hands {body : List Stmt} {h0 : ExceptHandler} {hds : List ExceptHandler} {l : List Hd} {pos : Pos} {tb : WX → TS} (hN : X.N.Nodup) (hs : X.stack = X.env :: X.outer) (hf : X.env.frame = some X.env.locals) (tk : Takes X Wo)
    (hb : ∀ (V : WX) (pn : List (Addr × Obj)) (xe : Value → Shared → Prop), Takes (X.tr pn xe) V → PassesOwn (model X.prog X.w) X.A X.env xe → PSs (X.tr pn xe) body (tb V)) (hk : HandsOk X (h0 :: hds) l) :
    PS X (.Try body (h0 :: hds) [] [] pos) (fun D τ B => tb (wHands X.K Wo D l) D τ B) := by
  refine ⟨fun pins s σ H D J h => ?_⟩
  have ok := J.ok
  have fr : X.A.frames = some (X.env :: X.outer) := ok.frames.trans (congrArg some hs)
  refine wpAny_Try_except (wpAny_mono ((hb (wHands X.K Wo D l) (X.pn ++ pins) (fun e s1 => wpAny (model X.prog X.w) X.A (noteFrame e X.env) (fun _ s2 => wpAny (model X.prog X.w) X.A (setFlight e none) (fun _ s3 =>
    wpAny (model X.prog X.w) X.A (handleBy e X.env (h0 :: hds)) (SP X pins D) X.xe s3) X.xe s2) X.xe s1) (fun u s' z => ?_) PassesOwn.looking).run [] s σ H D (J.toTry _) h) (fun f s1 z => ?_) fun _ _ z => z)
  · obtain ⟨x, G0, sI, pp, τ, B, cls, d, rfl, J0, nb, up, sky, na, os, ag, w⟩ := z
    refine Sky.land (B := G0) (Z := Zc cls d) Zc.steady fr hf (hs ▸ sky) fun h3 fl3 up3 => ?_
    exact hands_run ok hN hs hf (J0.ofTry ok) nb fl3 (up.trans up3) na os ag tk hk w
  · cases f with
    | ret u => obtain ⟨v, τ, B, J1, r, q⟩ := z; exact ⟨v, τ, B, J1.ofTry ok, r, q⟩
    | next => obtain ⟨τ, B, J1, q⟩ := z; exact wpAny_execs_nil ⟨τ, B, J1.ofTry ok, q⟩
    | brk => obtain ⟨τ, B, J1, q⟩ := z; exact ⟨τ, B, J1.ofTry ok, q⟩
    | cont => obtain ⟨τ, B, J1, q⟩ := z; exact ⟨τ, B, J1.ofTry ok, q⟩
end
end E2
end

section
set_option Elab.async false
set_option linter.all false
set_option maxRecDepth 100000
set_option maxHeartbeats 4000000
/-! E45: try by functions of environments: suites that say isinstance of what they caught. -/
namespace E2
open PySem PySem.Spec PyProof.Rows L2
section
variable {K : PySem.W.Frag} {mg : Str → Option Value} {G G' H H' G1 H1 : Hp} {P : Addr → Prop} {σ σ' : L2.St} {ρ ρ' : Env} {A : List Nat} {W : WX} {i j : Nat}
theorem Stt.mark (s : Stt K mg G H σ ρ) (i : Nat) (o : Option V) : Stt K mg G H (σ.set i o) (ρ.set i .dead) ∧ ∀ p, Own (σ.set i o) (ρ.set i .dead) p → Own σ ρ p := by
  have back : ∀ {a : Nat} {p : Addr}, Ows (σ.set i o) (ρ.set i .dead) a p → Ows σ ρ a p := fun {a p} ⟨⟨d, h⟩, r⟩ => by
    rcases set_get h with ⟨_, z⟩ | ⟨n1, h⟩
    · cases z
    · rw [List.getElem?_set_ne n1] at r
      exact ⟨⟨d, h⟩, r⟩
  refine ⟨s.re (by rw [List.length_set, List.length_set]; exact s.len) (fun a u h => ?_) fun a b p h1 h2 => s.inj a b p (back h1) (back h2), fun p ⟨a, h⟩ => ⟨a, back h⟩⟩
  rcases set_get h with ⟨_, z⟩ | ⟨n1, h⟩
  · subst z; exact .inl trivial
  · exact .inr ⟨a, h, List.getElem?_set_ne n1⟩
theorem Aft.mark (a : Aft K mg P G H σ A G' H' σ' ρ') (hi : i ∈ A) (o : Option V) : Aft K mg P G H σ A G' H' (σ'.set i o) (ρ'.set i .dead) := by
  obtain ⟨s2, o2⟩ := a.st.mark i o
  refine ⟨a.ext, s2, fun p z => a.own p (o2 p z), by rw [List.length_set]; exact a.len, fun k hk => ?_⟩
  have ne : i ≠ k := fun z => hk (z ▸ hi)
  rw [List.getElem?_set_ne ne]
  exact a.same k hk
theorem Aft.putS (a : Aft K mg P G H σ A G' H' σ' ρ') (hj : j ∈ A) {v : V} {d : Dt} (r : Rp K mg G' v d) : Aft K mg P G H σ A G' H' (σ'.set j (some v)) (ρ'.set j (.sh d)) := by
  obtain ⟨s2, o2⟩ := a.st.putsh r j
  refine ⟨a.ext, s2, fun p z => a.own p (o2 p z), by rw [List.length_set]; exact a.len, fun k hk => ?_⟩
  have ne : j ≠ k := fun z => hk (z ▸ hj)
  rw [List.getElem?_set_ne ne]
  exact a.same k hk
theorem Aft.putL (a : Aft K mg P G H σ A G' H' σ' ρ') (hj : j ∈ A) {p : Addr} {xs : List V} {ds : List Dt} (hp : H' p = none) (r : RpAll K mg G' xs ds) : Aft K mg P G H σ A G' (upd H' p (.lst xs)) (σ'.set j (some (.ref p))) (ρ'.set j (.ow (.lst ds))) := by
  have gp := le_none a.st.le hp
  have e2 : Ext No G' H' G' (upd H' p (.lst xs)) := Ext.newH hp
  have st2 := a.st.ext0 e2 (a.st.le.newH hp)
  have no : ¬ Own σ' ρ' p := fun z => by
    obtain ⟨u, hu⟩ := a.st.own_some z
    rw [hp] at hu; cases hu
  have vr : VR K mg (fun _ => False) H' G' (upd H' p (.lst xs)) σ' ρ' (.ref p) (.ow (.lst ds)) := ⟨p, rfl, gp, no, ⟨xs, upd_same, r⟩, .inl hp⟩
  obtain ⟨s3, o3⟩ := st2.put vr j
  refine ⟨a.ext.trans e2 fun _ z => z.elim, s3, fun q z => ?_, by rw [List.length_set]; exact a.len, fun k hk => ?_⟩
  · rcases o3 q z with z | z | z
    · exact a.own q z
    · exact (a.ext.fresh z).symm
    · exact z.elim
  · have ne : j ≠ k := fun z => hk (z ▸ hj)
    rw [List.getElem?_set_ne ne]
    exact a.same k hk
end
/-- what a suite does: it returns a text, or lays isinstance of what was caught in a slot -/
inductive Su where
  | ret (a b : Str)
  | one (j : Nat)
  | two (j : Nat) (w : Str)
def Su.run (i : Nat) : Su → SF
  | .ret a _, ρ => if i < ρ.length then .ret (.sh (.str a)) (ρ.set i .dead) else .bad
  | .one j, ρ => if i < ρ.length then .nxt (((ρ.set i .dead).set j (.sh (.bl true))).set i .dead) else .bad
  | .two j w, ρ => if i < ρ.length then .nxt (((ρ.set i .dead).set j (.ow (.lst [.str w, .bl true]))).set i .dead) else .bad
def Su.ask (su : Su) (D : Ends) (τ : L2.St) (B : Hp) : Prop := match su with
  | .ret a _ => D.rt (.str a) B
  | .one j => D.nx (τ.set j (some (.bl true))) B
  | .two j w => ∀ p, B p = none → D.nx (τ.set j (some (.ref p))) (upd B p (.lst [.str w, .bl true]))
/-- the slots it stores to -/
def Su.to : Su → List Nat
  | .ret _ _ => []
  | .one j => [j]
  | .two j _ => [j]
def pickH (x : Str) : List (Str × Nat × Su) → Option (Nat × Su)
  | [] => none
  | h :: r => if x == h.1 then some h.2 else pickH x r
/-- try: f, except .. -/
def fTry (exs : List Str) (f : SF) (hs : List (Str × Nat × Su)) : SF := fun ρ => match f ρ with
  | .err x fs ρ' => if exs.contains x && fs.isEmpty then (match pickH x hs with
    | some (i, su) => su.run i ρ'
    | none => .err x fs ρ') else .bad
  | o => o
section
variable {X : Cx} {n : Str} {i j : Nat} {C : Addr}
def isC (n : Str) (p1 p2 p3 pos : Pos) : Expr := .Call (.Name "isinstance" p1) [.Name n p2, .Name "ValueError" p3] [] pos
/-- what is known of an exception class -/
structure ExF (K : PySem.W.Frag) (C : Addr) : Prop where
  c : ExcC K C
  v : PySem.W.kitOne K (.ref C) (.type "ValueError") = some true
theorem pe_isC {x : Addr} {ox : Obj} {pn : List (Addr × Obj)} {p1 p2 p3 pos : Pos} (F : ExF X.K C) (hz : Zc (.ref C) none ox) (hf : ∃ vs, ox.data = .fields vs) (hN : X.N[i]? = some n) (hv : Vis X.env.scope n) (hd : (n == ("__debug__" : Str)) = false) (hcd : (n == ("__classdict__" : Str)) = false)
    (fi : Fr X ("isinstance" : Str)) (fv : Fr X ("ValueError" : Str)) : PE (X.suite x ((x, ox) :: pn)) (isC n p1 p2 p3 pos) (fun τ B Q => τ[i]? = some (some (.ref x)) ∧ Q (.bl true) B) := by
  have gi : Gl (X.suite x ((x, ox) :: pn)) ("isinstance" : Str) := fi.1
  have gv : Gl (X.suite x ((x, ox) :: pn)) ("ValueError" : Str) := fv.1
  have e1 : PE (X.suite x ((x, ox) :: pn)) (.Name n p2) (tVar i) := pe_var hN hv hd hcd
  have e2 : PE (X.suite x ((x, ox) :: pn)) (.Name "ValueError" p3) (tC (.ty "ValueError")) := pe_bltn (u := .type "ValueError") gv fv.2 (by decide +kernel) rfl
  refine PE.imp (pe_callB (call_isE (pn := pn) F.c hz hf) gi fi.2 (by decide +kernel) (pa_cons e1 (pa_cons e2 pa_nil))) fun τ B Q ⟨h1, h2⟩ => ?_
  exact ⟨_, h1, .ty "ValueError", .type "ValueError", true, rfl, fun u r => r, F.v, h2⟩
def suT (K : PySem.W.Frag) (i : Nat) (su : Su) : Addr → Value → Option Addr → TS := fun x cls d D τ B => ∃ C, cls = .ref C ∧ d = none ∧ ExF K C ∧ τ[i]? = some (some (.ref x)) ∧ su.ask D τ B
section
variable {p1 p2 p3 p4 q1 q2 q3 q4 : Pos} {j1 j2 : Nat} (hN : X.N[i]? = some n) (hv : Vis X.env.scope n) (hd : (n == ("__debug__" : Str)) = false) (hcd : (n == ("__classdict__" : Str)) = false) (fi : Fr X ("isinstance" : Str)) (fv : Fr X ("ValueError" : Str))
include hN hv hd hcd fi fv
theorem su_of {su : Su} {st : List Stmt} (h : ∀ (x : Addr) (ox : Obj) (C : Addr) (pn : List (Addr × Obj)), ExF X.K C → Zc (.ref C) none ox → (∃ vs, ox.data = .fields vs) → PSs (X.suite x ((x, ox) :: pn)) st (fun D τ B => τ[i]? = some (some (.ref x)) ∧ su.ask D τ B)) :
    ∀ (x : Addr) (ox : Obj) (cls : Value) (d : Option Addr) (pn : List (Addr × Obj)), Zc cls d ox → (∃ vs, ox.data = .fields vs) → PSs (X.suite x ((x, ox) :: pn)) st (suT X.K i su x cls d) := fun x ox cls d pn hz hf => ⟨fun pp s σ H D J ⟨C, e1, e2, F, h1, q⟩ => by
  subst e1 e2
  exact (h x ox C pn F hz hf).run pp s σ H D J ⟨h1, q⟩⟩
theorem su_ret {a b : Str} : ∀ (x : Addr) (ox : Obj) (cls : Value) (d : Option Addr) (pn : List (Addr × Obj)), Zc cls d ox → (∃ vs, ox.data = .fields vs) →
    PSs (X.suite x ((x, ox) :: pn)) [.Return (some (.IfExp (isC n p1 p2 p3 p4) (.Constant (.str a) j1 q1) (.Constant (.str b) j2 q2) q3)) q4] (suT X.K i (.ret a b) x cls d) :=
  su_of hN hv hd hcd fi fv fun x ox C pn F hz hf => PSs.imp (pss_one (ps_ret (pe_ifExp (pt_val (pe_isC F hz hf hN hv hd hcd fi fv)) pe_str pe_str))) fun D τ B ⟨h1, q⟩ => ⟨h1, true, rfl, q⟩
theorem su_one {c : Str} {j : Nat} (nd : X.N.Nodup) (hj : X.N[j]? = some c) (hl : Loc X.env.scope c) (hf' : X.fn c = true ∨ X.env.scope.names.lookup c = some .local) : ∀ (x : Addr) (ox : Obj) (cls : Value) (d : Option Addr) (pn : List (Addr × Obj)), Zc cls d ox → (∃ vs, ox.data = .fields vs) →
    PSs (X.suite x ((x, ox) :: pn)) [.Assign [.Name c q1] (isC n p1 p2 p3 p4) q2] (suT X.K i (.one j) x cls d) :=
  su_of hN hv hd hcd fi fv fun x ox C pn F hz hf => PSs.imp (pss_one (ps_set (X := X.suite x ((x, ox) :: pn)) nd hj hl (pe_isC F hz hf hN hv hd hcd fi fv) rfl hf')) fun D τ B ⟨h1, q⟩ => ⟨h1, q⟩
theorem su_two {c w : Str} {j : Nat} (nd : X.N.Nodup) (hj : X.N[j]? = some c) (hl : Loc X.env.scope c) (hf' : X.fn c = true ∨ X.env.scope.names.lookup c = some .local) : ∀ (x : Addr) (ox : Obj) (cls : Value) (d : Option Addr) (pn : List (Addr × Obj)), Zc cls d ox → (∃ vs, ox.data = .fields vs) →
    PSs (X.suite x ((x, ox) :: pn)) [.Assign [.Name c q1] (.List [.Constant (.str w) j1 q4, isC n p1 p2 p3 p4] q3) q2] (suT X.K i (.two j w) x cls d) :=
  su_of hN hv hd hcd fi fv fun x ox C pn F hz hf => PSs.imp (pss_one (ps_set (X := X.suite x ((x, ox) :: pn)) nd hj hl (pe_lst (pa_cons pe_str (pa_cons (pe_isC F hz hf hN hv hd hcd fi fv) pa_nil))) rfl hf')) fun D τ B ⟨h1, q⟩ => ⟨h1, by show 2 ≤ sizeLine; rw [sizeLine_eq]; decide, q⟩
end
/-- the clauses as they are told -/
inductive HRel (X : Cx) (ex : List Str) (A : List Nat) : List Hd → List (Str × Nat × Su) → Prop
  | nil : HRel X ex A [] []
  | cons {y : Str} {Cy : Addr} {i : Nat} {su : Su} {l : List Hd} {hs : List (Str × Nat × Su)} (hm : X.mg y = some (.ref Cy)) (hy : y ∈ ex) (hi : i ∈ A) (ht : ∀ j ∈ su.to, j ∈ A) (r : HRel X ex A l hs) : HRel X ex A ((.ref Cy, i, suT X.K i su) :: l) ((y, i, su) :: hs)
theorem try_imp {W : WX} {ex : List Str} {A : List Nat} {f : SF} {l : List Hd} {hs : List (Str × Nat × Su)} {D : Ends} {σ : L2.St} {H : Hp} (R : HRel X ex A l hs) (xf : ∀ y ∈ ex, ∃ C, X.mg y = some (.ref C) ∧ ExF X.K C)
    (xm : ∀ y ∈ ex, ∀ z ∈ ex, ∀ C D, X.mg y = some (.ref C) → X.mg z = some (.ref D) → PySem.W.exmOne X.K (.ref C) (.ref D) = some (y == z)) (h : tS X.K X.mg W A (fTry ex f hs) D σ H) : tS X.K X.mg (wHands X.K W D l) A f D σ H := by
  obtain ⟨G, ρ, st, q⟩ := h
  refine ⟨G, ρ, st, ?_⟩
  unfold fTry at q
  generalize f ρ = out at q ⊢
  cases out with
  | err x fs ρ' =>
    intro C dd G' H' σ' hm a fl
    dsimp only at q
    by_cases hx : (ex.contains x && fs.isEmpty) = true
    · rw [if_pos hx] at q
      obtain ⟨h1, h2⟩ := Bool.and_eq_true_iff.mp hx
      have h1 : x ∈ ex := by simpa using h1
      cases fs with
      | cons _ _ => cases h2
      | nil =>
        have fl : dd = none := fl
        subst fl
        clear hx
        induction R with
        | nil => exact q C none G' H' σ' hm a rfl
        | @cons y Cy i su l hs hmy hy hi ht r ih =>
          refine ⟨x == y, xm x h1 y hy C Cy hm hmy, fun e => ?_, fun e => ?_⟩
          · intro x0 n0
            unfold pickH at q
            rw [if_pos e] at q
            dsimp only at q
            obtain ⟨C', hC', F⟩ := xf x h1
            rw [hm] at hC'
            cases hC'
            have len : σ'.length = ρ'.length := a.st.len
            have key : i < ρ'.length := by
              cases su <;> (dsimp only [Su.run] at q; exact Classical.byContradiction fun k => by rw [if_neg k] at q; exact False.elim q)
            refine ⟨C, rfl, rfl, F, List.getElem?_set_self (by rw [len]; exact key), ?_⟩
            cases su with
            | ret s1 s2 =>
              dsimp only [Su.run] at q
              rw [if_pos key] at q
              exact q _ _ _ (.str s1) (a.mark hi none) (.str s1)
            | one j =>
              dsimp only [Su.run] at q
              rw [if_pos key] at q
              exact q _ _ _ (((a.mark hi (some (.ref x0))).putS (ht j (by simp [Su.to])) (.bl true)).mark hi none)
            | two j w =>
              dsimp only [Su.run] at q
              rw [if_pos key] at q
              intro p hp
              exact q _ _ _ (((a.mark hi (some (.ref x0))).putL (ht j (by simp [Su.to])) hp (.cons (.str w) (.cons (.bl true) .nil))).mark hi none)
          · refine ih ?_
            unfold pickH at q
            rw [if_neg (by rw [e]; exact Bool.false_ne_true)] at q
            exact q
    · rw [if_neg hx] at q
      exact q.elim
  | nxt ρ' => exact q
  | ret s ρ' => exact q
  | brk ρ' => exact q
  | cnt ρ' => exact q
  | bad => exact q
end
end E2
end

section
set_option Elab.async false
set_option linter.all false
set_option maxRecDepth 100000
set_option maxHeartbeats 4000000
/-! E46: {k: v} with a tuple as its key; x += e; reversed. -/
namespace E2
open PySem PySem.Spec PyProof.Rows L2
section
variable {X : Cx} {K : PySem.W.Frag} {mg : Str → Option Value} {G G' H H' : Hp} {σ : L2.St} {ρ ρ' : Env} {W : WX} {A : List Nat}
def tD1 (tk tv : TE) : TE := fun σ H Q => ∀ p, H p = none → tk σ (upd H p (.dT [])) fun y H1 => tv σ H1 fun v H2 => H2 p = some (.dT []) ∧ ∃ (k : List Key) (b : Addr), y = .ref b ∧ H2 b = some (.tup (k.map kV)) ∧ Q (.ref p) (upd H2 p (.dT (putK [] k v)))
theorem pe_D1 {a b : Expr} {ta tb : TE} {pos : Pos} (hu : X.A.units + 1 < cLine) (ha : PE X a ta) (hb : PE X b tb) : PE X (.Dict [some a] [b] pos) (tD1 ta tb) := by
  refine ⟨fun pp s σ H Q J h => ?_⟩
  have n0 := J.hok.fresh (Nat.le_refl s.heap.objs.size)
  have J0 := J.laid (a := s.heap.objs.size) (o := .dT []) (h' := s.heap.push { cls := .type "dict", data := .dict #[] }) (t' := s.toks) (fun _ _ z => Heap.get?_push_of_some _ z) (Nat.le_refl _) (dt_empty s.heap J.big)
  refine wpAny_Dict_any rfl rfl (fun z => nomatch z) (by show 1 ≤ 15; omega) ?_
  refine pairTrees_cons_walk (thn (ha.run pp _ σ _ _ J0 (h _ n0)) fun u s1 ⟨y, H1, J1, ry, q1⟩ => ?_)
  refine thn (hb.run pp s1 σ H1 _ J1 q1) fun w s2 ⟨v, H2, J2, rv, e, k, c, ey, ec, q2⟩ => ?_
  subst ey
  cases (show u = Value.ref c from ry)
  refine pairTrees_nil_walk ?_
  obtain ⟨z, hd, xs, rel, dd⟩ := dt_of J2.hok e
  cases rel
  unfold storeAll
  simp only [List.forIn_cons]
  refine wpAny_bind (wpAny_bind ?_)
  refine wpAny_dictSet_heap (hsz := Nat.zero_le _) (show X.A.units < cLine by omega) (key_of J2.hok ec) dd fun h' dd' hs => ?_
  obtain ⟨o, es, ep, h1, h2, h3, h4, _, h5⟩ := dd'
  have new : ObjOk X.prog X.w (upd H2 s.heap.objs.size (.dT (putK [] k v))) h' s.heap.objs.size (.dT (putK [] k v)) := by
    refine ⟨by show 1 ≤ sizeLine; rw [sizeLine_eq]; decide, hd, _, ((KT.keeps (H := H2) (H' := H2) (kvs := []) (xs := []) .nil fun _ _ e => e).put k ec rv).keeps fun b ys eb => ?_, o, es, ep, h1, h2, h3, h4, h5⟩
    rw [upd_ne (ne_of eb e (fun z => nomatch z))]
    exact eb
  exact wpAny_pure (wpAny_pure ⟨.ref s.heap.objs.size, _, d_write J2 (by rw [e]; exact True.intro) hs ⟨o, h1⟩ new, rfl, q2⟩)
def fD1 (fk fv : EE) : EV := fun ρ => (runOps [.ex fk, .ex fv] ρ).bind fun as ρ1 => match resAll [.ex fk, .ex fv] as ρ1 with
  | some [k, v] => if (keyT k).isSome then .ok (.ow (.dct [k] [v]), ρ1) else .bad
  | _ => .bad
theorem sv_D1 {a b : Expr} {fk fv : EE} {pos : Pos} (hu : X.A.units + 1 < cLine) (ha : PE X a (tE X.K X.mg W fk)) (hb : PE X b (tE X.K X.mg W fv)) : PE X (.Dict [some a] [b] pos) (tV X.K X.mg W (fD1 fk fv)) := by
  refine PE.imp (pe_D1 hu ha hb) fun σ H Q ⟨G, ρ, st, q⟩ => ?_
  intro p hp
  have gp := le_none st.le hp
  have e0 : Ext No G H G (upd H p (.dT [])) := Ext.newH hp
  have st0 := st.ext0 e0 (st.le.newH hp)
  have no0 : ¬ Own σ ρ p := fun z => by
    obtain ⟨u, hu⟩ := st.own_some z
    rw [hp] at hu; cases hu
  have q : Pst X.K X.mg W (Own σ ρ) G H σ (((fk ρ).map some).bind fun a ρ1 => ((((fv ρ1).map some).bind fun c ρ2 => .ok ([c], ρ2)).map (a :: ·))|>.bind fun as ρ1 => match resAll [.ex fk, .ex fv] as ρ1 with
    | some [k, v] => if (keyT k).isSome then .ok (.ow (.dct [k] [v]), ρ1) else .bad
    | _ => .bad) fun s ρ' G' H' => ∀ v, VR X.K X.mg (Own σ ρ) H G' H' σ ρ' v s → Q v H' := by
    unfold fD1 at q
    simp only [runOps, Op.run] at q
    cases h1 : fk ρ with
    | bad => rw [h1] at q; exact q.elim
    | err x fs ρ' => rw [h1] at q; exact q
    | ok z =>
      obtain ⟨dk, ρ1⟩ := z
      rw [h1] at q
      simp only [R.map, R.bind] at q ⊢
      cases h2 : fv ρ1 with
      | bad => rw [h2] at q; exact q.elim
      | err x fs ρ' => rw [h2] at q; exact q
      | ok z => rw [h2] at q; exact q
  refine ⟨G, ρ, st0, ?_⟩
  cases h1 : fk ρ with
  | bad => rw [h1] at q; exact q.elim
  | err x fs ρ' => rw [h1] at q; exact ErrW.ext q e0.no (fun _ z => z)
  | ok z =>
    obtain ⟨dk, ρ1⟩ := z
    rw [h1] at q
    intro G1 H1 e1 st1 o1 y rk
    have h1p : H1 p = some (.dT []) := e1.keepO gp upd_same trivial no0
    have g1p : G1 p = none := e1.out gp upd_same trivial no0
    have no1 : ¬ Own σ ρ1 p := fun z => no0 (o1 p z)
    refine ⟨G1, ρ1, st1, ?_⟩
    simp only [R.map, R.bind] at q
    cases h2 : fv ρ1 with
    | bad => rw [h2] at q; exact q.elim
    | err x fs ρ' => rw [h2] at q; exact (ErrW.ext q e0.no (fun _ z => z)).ext e1 o1
    | ok z =>
      obtain ⟨dv, ρ2⟩ := z
      rw [h2] at q
      intro G2 H2 e2 st2 o2 v rv
      have h2p : H2 p = some (.dT []) := e2.keepO g1p h1p trivial no1
      have g2p : G2 p = none := e2.out g1p h1p trivial no1
      have no2 : ¬ Own σ ρ2 p := fun z => no1 (o2 p z)
      have ee : Ext (Own σ ρ) G (upd H p (.dT [])) G2 H2 := e1.trans e2 fun p z => .inl (o1 p z)
      simp only [R.map, R.bind, resAll, Op.res] at q
      by_cases hk : (keyT dk).isSome = true
      · rw [if_pos hk] at q
        obtain ⟨ks, hks⟩ := Option.isSome_iff_exists.mp hk
        have ed := keyT_iff.mp hks
        subst ed
        obtain ⟨b, rfl, hb⟩ := RpR.keyT (H := H2) st2.le (.inl (rk.le e2.sub.le))
        refine ⟨h2p, ks, b, rfl, hb, ?_⟩
        have e3 : Ext (Own σ ρ) G H G2 (upd H2 p (.dT (putK [] ks v))) := ⟨fun c o h n => ?_, ee.sub, fun c o h => ?_⟩
        · have st3 : Stt X.K X.mg G2 (upd H2 p (.dT (putK [] ks v))) σ ρ2 := st2.updH g2p no2
          refine q G2 _ e3 st3 (fun c z => o1 c (o2 c z)) _ ⟨p, rfl, g2p, no2, ⟨[v], .inl ⟨[(ks, v)], upd_same, rfl, rfl, by simp⟩, .cons rv .nil⟩, .inl hp⟩
        · have ne : c ≠ p := fun z => by subst z; rw [hp] at h; cases h
          rw [upd_ne ne]
          exact ee.keep c o (by rw [upd_ne ne]; exact h) n
        · rcases ee.new c o h with z | z | z
          · exact .inl z
          · refine .inr (.inl fun u hu => z u ?_)
            have ne : c ≠ p := fun z => by subst z; rw [hp] at hu; cases hu
            rw [upd_ne ne]
            exact hu
          · exact .inr (.inr z)
      · rw [if_neg hk] at q
        exact q.elim
end
end E2
end

section
set_option Elab.async false
set_option linter.all false
set_option maxRecDepth 100000
set_option maxHeartbeats 4000000
/-! E47: reversed as an iterable. -/
namespace E2
open PySem PySem.Spec PyProof.Rows L2
section
variable {X : Cx} {K : PySem.W.Frag} {mg : Str → Option Value} {G H : Hp} {σ : L2.St} {ρ : Env} {W : WX}
def fRevI (f : EE) : Env → R (List Dt × Env) := fun ρ => (f ρ).bind fun d ρ1 => match seqOf d with
  | some ds => .ok (ds.reverse, ρ1)
  | none => .bad
theorem walkRv (b : Bool) (a : Addr) {xs : List V} {ds : List Dt} (h : ∀ H, Le G H → SqS K H b a xs) (r : RpAll K mg G xs ds) : WalkD K mg G (if b then RT.ItvT K a xs.length else Itv K a xs.length) ds.reverse := by
  have item : ∀ (i : Nat) (x : V), i < ds.reverse.length → xs[xs.length - 1 - i]? = some x → ∃ d, ds.reverse[i]? = some d ∧ Rp K mg G x d := fun i x hi hx => by
    have hl := r.length
    rw [List.length_reverse] at hi
    obtain ⟨d, hd, rd⟩ := r.getV hx
    exact ⟨d, by rw [List.getElem?_reverse hi, ← hl]; exact hd, rd⟩
  have some_ : ∀ i, i < ds.reverse.length → ∃ x, xs[xs.length - 1 - i]? = some x := fun i hi => by
    rw [List.length_reverse, ← r.length] at hi
    exact ⟨xs[xs.length - 1 - i]'(by omega), List.getElem?_eq_getElem _⟩
  have el : ds.reverse.length = xs.length := by rw [List.length_reverse, r.length]
  cases b
  · refine ⟨(fun H => SqL K H a xs), (fun i H x H' => H' = H ∧ xs[xs.length - 1 - i]? = some x), ⟨fun i H hi g => ⟨by omega, xs, (some_ i hi).choose, g, (some_ i hi).choose_spec⟩, fun H g => by show xs.length ≤ _; omega, fun i H x H' hi g y => ⟨y.1, y.2 xs g⟩⟩, fun G' H s l => h H (Le.trans s l), fun i H x H' G' hi s l ⟨e1, e2⟩ => ?_⟩
    subst e1
    obtain ⟨d, hd, rd⟩ := item i x hi e2
    exact ⟨d, G', hd, Ext.refl _ _ _, l, rd.le s.le⟩
  · refine ⟨(fun H => SqT K H a xs), (fun i H x H' => H' = H ∧ xs[xs.length - 1 - i]? = some x), ⟨fun i H hi g => ⟨by omega, xs, (some_ i hi).choose, g, (some_ i hi).choose_spec⟩, fun H g => by show xs.length ≤ _; omega, fun i H x H' hi g y => ⟨y.1, y.2 xs g⟩⟩, fun G' H s l => h H (Le.trans s l), fun i H x H' G' hi s l ⟨e1, e2⟩ => ?_⟩
    subst e1
    obtain ⟨d, hd, rd⟩ := item i x hi e2
    exact ⟨d, G', hd, Ext.refl _ _ _, l, rd.le s.le⟩
theorem si_rev {tg e : Expr} {f : EE} {p pos : Pos} (hf : Fr X "reversed") (h : PE X e (tE X.K X.mg W f)) (s1 : starEach [e] X.env = (false, eval e X.env) :: starEach [] X.env) : PI X tg (.Call (.Name "reversed" p) [e] [] pos) (tI X.K X.mg W (fRevI f)) := by
  refine PI.imp (RT.pi_revA hf.gl hf.mg h s1) fun σ H R ⟨G, ρ, st, q⟩ => ⟨G, ρ, st, (Pst.bind q).mono fun d ρ1 G1 H1 e st1 o1 k v hv => ?_⟩
  have k := k e st1 o1
  cases q1 : seqOf d with
  | none => rw [q1] at k; exact k.elim
  | some ds =>
    rw [q1] at k
    obtain ⟨b, a, xs, rfl, hs, r⟩ := sq_of hv (seqOf_iff q1)
    cases b
    · exact ⟨a, xs, rfl, .inl ⟨hs _ st1.le, Pst.pure k st1 _ (walkRv false a hs r)⟩⟩
    · exact ⟨a, xs, rfl, .inr ⟨hs _ st1.le, Pst.pure k st1 _ (walkRv true a hs r)⟩⟩
end
end E2
end

section
set_option Elab.async false
set_option linter.all false
set_option maxRecDepth 100000
set_option maxHeartbeats 4000000
/-! E22: what the compile function looks up. -/
namespace E2
open PySem PySem.Spec PyProof.Rows L2
/-! ### shapes -/
def unstar : Expr → Bool
  | .Starred _ _ => false
  | _ => true
theorem star_cons {e : Expr} {es : List Expr} {env : PySem.Env} (h : unstar e = true) : starEach (e :: es) env = (false, eval e env) :: starEach es env := by
  cases e <;> first | (cases h; done) | rfl
theorem star_any : ∀ {es : List Expr} {env : PySem.Env} {pos : Pos}, es.all unstar = true → (backTo pos (starEach es env)).any (·.1) = false
  | [], _, _, _ => rfl
  | e :: es, env, pos, h => by
    have h := Bool.and_eq_true_iff.mp (show (unstar e && es.all unstar) = true from h)
    rw [star_cons h.1]
    have ih := star_any (es := es) (env := env) (pos := pos) h.2
    simpa [backTo] using ih
theorem star_len : ∀ {es : List Expr} {env : PySem.Env} {pos : Pos}, es.all unstar = true → (backTo pos (starEach es env)).all (fun x => !x.1) = true
  | [], _, _, _ => rfl
  | e :: es, env, pos, h => by
    have h := Bool.and_eq_true_iff.mp (show (unstar e && es.all unstar) = true from h)
    rw [star_cons h.1]
    have ih := star_len (es := es) (env := env) (pos := pos) h.2
    simpa [backTo] using ih
/-- a test by its value -/
def plainTest : Expr → Bool
  | .UnaryOp .Not _ _ => false
  | .BoolOp _ _ _ => false
  | .IfExp _ _ _ _ => false
  | .Compare _ _ _ _ => false
  | _ => true
theorem plain_test {e : Expr} {env : PySem.Env} (h : plainTest e = true) : ∀ whole, isTrue e env whole = (do let v ← whole; standAt e.pos; holding [v] (truthy v)) := by
  intro whole
  cases e with
  | UnaryOp op a pos => cases op <;> first | (cases h; done) | rfl
  | BoolOp _ _ _ => cases h
  | IfExp _ _ _ _ => cases h
  | Compare _ _ _ _ => cases h
  | _ => rfl
/-- no comprehension -/
def unComp : Expr → Bool
  | .ListComp _ _ _ _ => false
  | .SetComp _ _ _ _ => false
  | .DictComp _ _ _ _ _ => false
  | _ => true
theorem swaps_no {e : Expr} {t : Option Expr} {l : Nat} {env : PySem.Env} (h : unComp e = true) : swapsWith e t l env = pure false := by
  cases e <;> first | (cases h; done) | rfl
def plainIx : Expr → Bool
  | .Slice _ _ _ _ => false
  | _ => true
theorem plain_ix {e : Expr} (h : plainIx e = true) : PlainIx e := by
  intro o i
  cases e <;> first | (cases h; done) | rfl
def unTuple : Expr → Bool
  | .Tuple _ _ _ => false
  | _ => true
theorem swap_stores {t e : Expr} {env : PySem.Env} (h : unTuple e = true) : swappedStores [t] e env = pure none := by
  cases e <;> first | (cases h; done) | (cases t <;> rfl)
theorem marks_no {op : CmpOp} {e : Expr} (h : (match e with | .Set _ _ _ => false | _ => true) = true) : behindInMarks op e = false := by
  cases e <;> first | (cases h; done) | rfl
theorem lmarks_no {op op' : CmpOp} {e c : Expr} (h : (match c with | .Set _ _ _ => false | _ => true) = true) : lastMarks [op, op'] [e, c] = false := by
  show behindInMarks op' c = false
  exact marks_no h
theorem fold_no {e : Expr} {env : PySem.Env} (h : (match e with | .Set _ _ _ => false | _ => true) = true) : ∀ x, foldedSetIterable e env x = pure x := by
  intro x
  cases e <;> first | (cases h; done) | rfl
/-! ### the static view of a block -/
structure Vw where
  N : List Str
  sc : Scope
  fn : Str → Bool
def rl (sc scope : Scope) : Scope := { scope with names := scope.names.map fun (n, k) => if (k == .free && sc.kind == .function && sc.names.lookup n == some .cell) then (n, .cell) else (n, k) }
def Vw.blk (v : Vw) (scope : Scope) : Vw := ⟨v.N, rl v.sc scope, fun x => scope.names.lookup x == some .cell⟩
structure Tbl where
  fns : List (Str × FS)
  bl : List Str
  cs : List (Str × Dt)
  ex : List Str
  kw : List (Str × FS × List Str × List Nat)
def CallKOk (X : Cx) (x : Str) (F : FS) (ks : List Str) (is : List Nat) : Prop := ∃ (k : Nat) (f : Addr) (fd : FuncData) (ps : List Str), FnOk X.prog X.w X.K X.mg X.base (L2.CX X.prog X.w) k f fd ps (spOf X.K X.mg F) ∧ Room k X.A ∧ X.mg x = some (.ref f) ∧ PySem.W.keepIn X.K (.ref f) = true ∧ BindK X.K fd ps ks is
def ExcOk (X : Cx) (x : Str) : Prop := ∃ (C : Addr) (bmB : List Value) (B newId initId : String), X.mg x = some (.ref C) ∧ ExcBaseFacts B newId initId bmB ∧ PySem.W.excIn X.K C bmB newId = true ∧ PySem.W.keepIn X.K (.ref C) = true ∧ Raises X (.ref C)
def CsOk (X : Cx) (x : Str) (d : Dt) : Prop := ∃ v u, X.mg x = some u ∧ RelV v u ∧ ∀ G, Rp X.K X.mg G v d
structure CxOk (T : Tbl) (v : Vw) (X : Cx) (W : WX) : Prop where
  N : X.N = v.N
  sc : X.env.scope = v.sc
  fn : X.fn = v.fn
  calm : X.calm = true
  un : X.A.units + 70 < cLine
  tk : Takes X W
  nd : X.N.Nodup
  fns : ∀ p ∈ T.fns, CallOk X p.1 p.2
  bl : ∀ x ∈ T.bl, X.mg x = none
  cs : ∀ p ∈ T.cs, CsOk X p.1 p.2
  ex : ∀ x ∈ T.ex, ExcOk X x
  kw : ∀ q ∈ T.kw, CallKOk X q.1 q.2.1 q.2.2.1 q.2.2.2
  xf : ∀ y ∈ T.ex, ∃ C, X.mg y = some (.ref C) ∧ ExF X.K C
  xm : ∀ y ∈ T.ex, ∀ z ∈ T.ex, ∀ C D, X.mg y = some (.ref C) → X.mg z = some (.ref D) → PySem.W.exmOne X.K (.ref C) (.ref D) = some (y == z)
theorem CxOk.blk {T : Tbl} {v : Vw} {X : Cx} {W : WX} (c : CxOk T v X W) (s : Shared) (H : Hp) (scope : Scope) (C : Addr) (cl : List (Str × Addr)) (fp : List Addr) : CxOk T (v.blk scope) (X.blk s H scope (compEnvC scope cl C X.env) fp) W0 where
  N := c.N
  sc := by
    show relabel scope X.env = rl v.sc scope
    unfold relabel rl PySem.Env.kindOf
    rw [c.sc]
  fn := rfl
  calm := c.calm
  un := c.un
  tk := L2.takes0
  nd := c.nd
  fns := c.fns
  bl := c.bl
  cs := c.cs
  ex := c.ex
  kw := c.kw
  xf := c.xf
  xm := c.xm
theorem CxOk.tr {T : Tbl} {v : Vw} {X : Cx} {W V : WX} (c : CxOk T v X W) (pn : List (Addr × Obj)) (xe : Value → Shared → Prop) (tk : Takes (X.tr pn xe) V) : CxOk T v (X.tr pn xe) V :=
  ⟨c.N, c.sc, c.fn, c.calm, c.un, tk, c.nd, c.fns, c.bl, c.cs, c.ex, c.kw, c.xf, c.xm⟩
section
variable {T : Tbl} {v : Vw} {X : Cx} {W : WX}
def isVis (sc : Scope) (x : Str) : Bool := sc.names.lookup x == some .local || sc.names.lookup x == some .cell || sc.names.lookup x == some .free
def isLoc (sc : Scope) (x : Str) : Bool := sc.names.lookup x == some .local || sc.names.lookup x == some .cell
def isGl (sc : Scope) (x : Str) : Bool := sc.names.lookup x == some .globalImplicit
theorem CxOk.vis (c : CxOk T v X W) {x : Str} (h : isVis v.sc x = true) : Vis X.env.scope x := by
  rw [c.sc]
  unfold isVis at h
  simp only [Bool.or_eq_true, beq_iff_eq] at h
  rcases h with (h | h) | h
  · exact .inl h
  · exact .inr (.inl h)
  · exact .inr (.inr h)
theorem CxOk.loc (c : CxOk T v X W) {x : Str} (h : isLoc v.sc x = true) : Loc X.env.scope x := by
  rw [c.sc]
  unfold isLoc at h
  simp only [Bool.or_eq_true, beq_iff_eq] at h
  exact h
theorem CxOk.gl (c : CxOk T v X W) {x : Str} (h : isGl v.sc x = true) : Gl X x := by
  show X.env.scope.names.lookup x = _
  rw [c.sc]
  exact beq_iff_eq.mp h
theorem CxOk.fnl (c : CxOk T v X W) {x : Str} (h : (v.fn x || v.sc.names.lookup x == some .local) = true) : X.fn x = true ∨ X.env.scope.names.lookup x = some .local := by
  rw [c.fn, c.sc]
  simp only [Bool.or_eq_true, beq_iff_eq] at h
  exact h
theorem CxOk.fr (c : CxOk T v X W) {x : Str} (h : (isGl v.sc x && T.bl.contains x) = true) : Fr X x := by
  have h := Bool.and_eq_true_iff.mp h
  exact ⟨c.gl h.1, c.bl x (by simpa using h.2)⟩
end
/-- a name's place -/
def ixOf (x : Str) : List Str → Option Nat
  | [] => none
  | y :: ys => if y == x then some 0 else (ixOf x ys).map (· + 1)
theorem ixOf_get {x : Str} : ∀ {l : List Str} {i : Nat}, ixOf x l = some i → l[i]? = some x
  | [], _, h => by cases h
  | y :: ys, i, h => by
    unfold ixOf at h
    split at h
    · rename_i e
      cases h
      rw [List.getElem?_cons_zero, beq_iff_eq.mp e]
    · obtain ⟨j, hj, rfl⟩ := Option.map_eq_some_iff.mp h
      rw [List.getElem?_cons_succ]
      exact ixOf_get hj
def lookP {α : Type} (x : Str) : (l : List (Str × α)) → Option {a : α // (x, a) ∈ l}
  | [] => none
  | (y, a) :: l => if h : y = x then some ⟨a, by subst h; exact List.mem_cons_self⟩ else match lookP x l with
    | some ⟨a, h⟩ => some ⟨a, List.mem_cons_of_mem _ h⟩
    | none => none
end E2
end

section
set_option Elab.async false
set_option linter.all false
set_option maxRecDepth 100000
set_option maxHeartbeats 4000000
/-! E23: the compile function of expressions: each with the proof that it is so read. -/
namespace E2
open PySem PySem.Spec PyProof.Rows L2
section
variable {X : Cx} {W : WX} {pos : Pos}
theorem sv_call0 {k : Nat} {f : Addr} {fd : FuncData} {ps : List Str} {F : FS} {x : Str} {p : Pos} (Fk : FnOk X.prog X.w X.K X.mg X.base (L2.CX X.prog X.w) k f fd ps (spOf X.K X.mg F)) (hr : Room k X.A) (hg : Gl X x)
    (hm : X.mg x = some (.ref f)) (hk : PySem.W.keepIn X.K (.ref f) = true) (hb : L2.Binds X.K fd ps []) (tk : Takes X W) (hn : 0 = F.n) (hdb : (x == ("__debug__" : Str)) = false) : PE X (.Call (.Name x p) [] [] pos) (tV X.K X.mg W (fCall F [])) := by
  have base : PE X (.Call (.Name x p) [] [] pos) (fun σ H Q => spOf X.K X.mg F [] H Q (WE W σ)) := by
    refine ⟨fun pins s σ H Q I h => ?_⟩
    refine wpAny_Call_Name_kw (ld_glob I hg hm ?_ hdb)
    exact PySem.W.callWith_K0 I.kIn hk (run_fnS (us := []) Fk hr hb (passAt tk σ) I .nil h)
  refine PE.imp base fun σ H Q ⟨G, ρ, st, q⟩ => ?_
  exact call_imp (os := []) (as := []) (vs := []) st .nil hn q
theorem pts_imp {ifs : List Expr} {t t' : TT} (h : PTs X ifs t) (i : ∀ σ H Q, t' σ H Q → t σ H Q) : PTs X ifs t' := ⟨fun pins s σ H Q I q => h.run pins s σ H Q I (i σ H Q q)⟩
def fYes : ET := fun ρ => .ok (true, ρ)
theorem spts_nil : PTs X [] (tT X.K X.mg W fYes) := pts_imp pts_nil fun σ H Q ⟨G, ρ, st, q⟩ => Pst.pure (a := true) q st
theorem asg_cons {t : Expr} {ts : List Expr} {env : PySem.Env} (h : unstar t = true) : (assignEach (t :: ts) env).map (·.2) = assign t env :: (assignEach ts env).map (·.2) := by
  cases t <;> first | (cases h; done) | rfl
theorem asg_len : ∀ {ts : List Expr} {env : PySem.Env}, ts.all unstar = true → (assignEach ts env).length = ts.length ∧ (assignEach ts env).findIdx? (·.1) = none
  | [], _, _ => ⟨rfl, rfl⟩
  | t :: ts, env, h => by
    have h := Bool.and_eq_true_iff.mp (show (unstar t && ts.all unstar) = true from h)
    have ih := asg_len (ts := ts) (env := env) h.2
    have e : assignEach (t :: ts) env = (false, assign t env) :: assignEach ts env := by
      cases t <;> first | (cases h.1; done) | rfl
    rw [e]
    refine ⟨by rw [List.length_cons, ih.1, List.length_cons], ?_⟩
    rw [List.findIdx?_cons]
    simp [ih.2]
end
/-! ### carried proofs -/
abbrev CE (T : Tbl) (v : Vw) (e : Expr) := {f : EV // ∀ X W, CxOk T v X W → PE X e (tV X.K X.mg W f)}
abbrev CS (T : Tbl) (v : Vw) (e : Expr) := {f : EE // ∀ X W, CxOk T v X W → PE X e (tE X.K X.mg W f)}
abbrev CO (T : Tbl) (v : Vw) (e : Expr) := {o : Op // ∀ X W, CxOk T v X W → PE X e (tO X.K X.mg W o)}
abbrev CT (T : Tbl) (v : Vw) (e : Expr) := {t : ET // ∀ X W, CxOk T v X W → PT X e (tT X.K X.mg W t)}
abbrev CI (T : Tbl) (v : Vw) (tg e : Expr) := {f : Env → R (List Dt × Env) // ∀ X W, CxOk T v X W → PI X tg e (tI X.K X.mg W f)}
abbrev CG (T : Tbl) (v : Vw) (A : List Nat) (tg : Expr) := {g : Dt → Env → Option Env // ∀ X W, CxOk T v X W → PG X tg (tG X.K X.mg A g)}
abbrev CGs (T : Tbl) (v : Vw) (A : List Nat) (tg : List Expr) := {g : List Dt → Env → Option Env // (∀ X W, CxOk T v X W → PGs X tg (tGs X.K X.mg A g)) ∧ ∀ ds ρ ρ', g ds ρ = some ρ' → ds.length = tg.length}
abbrev CA (T : Tbl) (v : Vw) (es : List Expr) := {os : List Op // (∀ X W, CxOk T v X W → PA X es (tOs X.K X.mg W os)) ∧ os.length = es.length}
abbrev CF (T : Tbl) (v : Vw) (es : List Expr) := {fs : List EE // (∀ X W, CxOk T v X W → PA X es (tOs X.K X.mg W (fs.map .ex))) ∧ fs.length = es.length}
def Rec (T : Tbl) := (v : Vw) → (e : Expr) → Option (CE T v e) × Option (CT T v e)
section
variable {T : Tbl}
/-- a name that is a slot -/
def slotOf (v : Vw) (x : Str) : Option {i : Nat // v.N[i]? = some x ∧ isVis v.sc x = true ∧ (x == ("__debug__" : Str)) = false ∧ (x == ("__classdict__" : Str)) = false} :=
  match hi : ixOf x v.N with
  | some i => if h : isVis v.sc x = true ∧ (x == ("__debug__" : Str)) = false ∧ (x == ("__classdict__" : Str)) = false then some ⟨i, ixOf_get hi, h⟩ else none
  | none => none
def cName (v : Vw) (x : Str) (pos : Pos) : Option (CE T v (.Name x pos)) :=
  match slotOf v x with
  | some ⟨i, h1, h2, h3, h4⟩ => some ⟨fName i, fun X W c => sv_name (by rw [c.N]; exact h1) (c.vis h2) h3 h4⟩
  | none => match lookP x T.cs with
    | some ⟨d, hd⟩ => if h : isGl v.sc x = true ∧ (x == ("__debug__" : Str)) = false then some ⟨fC d, fun X W c => by
        obtain ⟨w, u, h1, h2, h3⟩ := c.cs _ hd
        exact sv_const (pe_glob (c.gl h.1) h1 h2 h.2) h3⟩ else none
    | none => match lookP x T.fns with
      | some ⟨F, hF⟩ => if h : isGl v.sc x = true ∧ (x == ("__debug__" : Str)) = false then some ⟨fC (.fn x), fun X W c => by
          obtain ⟨_, f, _, _, _, _, h3, _⟩ := c.fns _ hF
          exact sv_fn (c.gl h.1) h3 h.2⟩ else none
      | none => none
def cOp (r : Rec T) (v : Vw) : (e : Expr) → Option (CO T v e)
  | .Name x pos => match slotOf v x with
    | some ⟨i, h1, h2, h3, h4⟩ => some ⟨.sl i, fun X W c => po_name (by rw [c.N]; exact h1) (c.vis h2) h3 h4⟩
    | none => match (r v (.Name x pos)).1 with
      | some ⟨f, h⟩ => some ⟨.ex (share f), fun X W c => po_ex (pe_share (h X W c))⟩
      | none => none
  | e => match (r v e).1 with
    | some ⟨f, h⟩ => some ⟨.ex (share f), fun X W c => po_ex (pe_share (h X W c))⟩
    | none => none
def cSh (r : Rec T) (v : Vw) : (e : Expr) → Option (CS T v e)
  | .Name x pos => match slotOf v x with
    | some ⟨i, h1, h2, h3, h4⟩ => some ⟨eName i, fun X W c => se_name (by rw [c.N]; exact h1) (c.vis h2) h3 h4⟩
    | none => match (r v (.Name x pos)).1 with
      | some ⟨f, h⟩ => some ⟨share f, fun X W c => pe_share (h X W c)⟩
      | none => none
  | e => match (r v e).1 with
    | some ⟨f, h⟩ => some ⟨share f, fun X W c => pe_share (h X W c)⟩
    | none => none
def cArgs (r : Rec T) (v : Vw) : (es : List Expr) → Option (CA T v es)
  | [] => some ⟨[], fun X W c => pos_nil, rfl⟩
  | e :: es => match cOp r v e, cArgs r v es with
    | some ⟨o, h⟩, some ⟨os, hs, hl⟩ => if hu : unstar e = true then some ⟨o :: os, fun X W c => pos_cons (h X W c) (hs X W c) (star_cons hu), congrArg (· + 1) hl⟩ else none
    | _, _ => none
def cShs (r : Rec T) (v : Vw) : (es : List Expr) → Option (CF T v es)
  | [] => some ⟨[], fun X W c => pos_nil, rfl⟩
  | e :: es => match cSh r v e, cShs r v es with
    | some ⟨o, h⟩, some ⟨os, hs, hl⟩ => if hu : unstar e = true then some ⟨o :: os, fun X W c => pos_cons (po_ex (h X W c)) (hs X W c) (star_cons hu), congrArg (· + 1) hl⟩ else none
    | _, _ => none
def bOp : (op : Operator) → Option {g : Dt → Dt → Option Slot // ∀ X : Cx, OpR X (binaryOp op) (rG X.K X.mg g)}
  | .Add => some ⟨addD, fun X => og_add⟩
  | .Sub => some ⟨subD, fun X => og_sub⟩
  | .Mult => some ⟨mulD, fun X => og_mul⟩
  | .Mod => some ⟨modD, fun X => og_mod⟩
  | .FloorDiv => some ⟨fdivD, fun X => og_fdiv⟩
  | .Pow => some ⟨powD, fun X => og_pow⟩
  | _ => none
def kOp : (op : CmpOp) → Option {g : Dt → Dt → Option Slot // ∀ X : Cx, X.A.units + 70 < cLine → OpR X (compareOp op) (rG X.K X.mg g)}
  | .Eq => some ⟨eqD, fun X h => og_eq h⟩
  | .NotEq => some ⟨neD, fun X h => og_ne h⟩
  | .Lt => some ⟨ltD, fun X h => og_lt h⟩
  | .LtE => some ⟨leD, fun X h => og_le h⟩
  | .Gt => some ⟨gtD, fun X h => og_gt h⟩
  | .GtE => some ⟨geD, fun X h => og_ge h⟩
  | .Is => some ⟨isD, fun X h => og_is⟩
  | .IsNot => some ⟨isNotD, fun X h => og_isNot⟩
  | .In => some ⟨inD, fun X h => og_in h⟩
  | .NotIn => some ⟨notInD, fun X h => og_notIn h⟩
/-- a built-in by data -/
structure Bl (x : Str) where
  g : List Dt → Option Slot
  ok : x ≠ ("__name__" : Str) ∧ (x == ("__debug__" : Str)) = false ∧ ((∃ id, bootBuiltins x = some (.builtin id) ∧ ∀ X : Cx, X.calm = true → X.A.units + 70 < cLine → CallR X (.builtin id) (rGs X.K X.mg g)) ∨ (∃ t, bootBuiltins x = some (.type t) ∧ ∀ X : Cx, X.calm = true → X.A.units + 70 < cLine → CallR X (.type t) (rGs X.K X.mg g)))
def blOf (x : Str) : Option (Bl x) :=
  if h : x = "len" then some ⟨lenD, by subst h; exact ⟨by decide +kernel, by decide +kernel, .inl ⟨_, rfl, fun X _ _ => cg_len⟩⟩⟩
  else if h : x = "tuple" then some ⟨tupleD, by subst h; exact ⟨by decide +kernel, by decide +kernel, .inr ⟨_, rfl, fun X _ _ => cg_tuple⟩⟩⟩
  else if h : x = "list" then some ⟨listD, by subst h; exact ⟨by decide +kernel, by decide +kernel, .inr ⟨_, rfl, fun X _ _ => cg_list⟩⟩⟩
  else if h : x = "abs" then some ⟨absD, by subst h; exact ⟨by decide +kernel, by decide +kernel, .inl ⟨_, rfl, fun X _ _ => cg_abs⟩⟩⟩
  else if h : x = "int" then some ⟨intD, by subst h; exact ⟨by decide +kernel, by decide +kernel, .inr ⟨_, rfl, fun X _ _ => cg_int⟩⟩⟩
  else if h : x = "str" then some ⟨strD, by subst h; exact ⟨by decide +kernel, by decide +kernel, .inr ⟨_, rfl, fun X _ _ => cg_str⟩⟩⟩
  else if h : x = "all" then some ⟨allD, by subst h; exact ⟨by decide +kernel, by decide +kernel, .inl ⟨_, rfl, fun X hc _ => cg_all hc⟩⟩⟩
  else if h : x = "any" then some ⟨anyD, by subst h; exact ⟨by decide +kernel, by decide +kernel, .inl ⟨_, rfl, fun X hc _ => cg_any hc⟩⟩⟩
  else if h : x = "sum" then some ⟨sumD, by subst h; exact ⟨by decide +kernel, by decide +kernel, .inl ⟨_, rfl, fun X hc _ => cg_sum hc⟩⟩⟩
  else if h : x = "sorted" then some ⟨sortedD, by subst h; exact ⟨by decide +kernel, by decide +kernel, .inl ⟨_, rfl, fun X hc hu => cg_sorted hc hu⟩⟩⟩
  else if h : x = "min" then some ⟨minD, by subst h; exact ⟨by decide +kernel, by decide +kernel, .inl ⟨_, rfl, fun X hc hu => cg_min hc hu⟩⟩⟩
  else if h : x = "max" then some ⟨maxD, by subst h; exact ⟨by decide +kernel, by decide +kernel, .inl ⟨_, rfl, fun X hc _ => cg_max hc⟩⟩⟩
  else if h : x = "dict" then some ⟨dictD, by subst h; exact ⟨by decide +kernel, by decide +kernel, .inr ⟨_, rfl, fun X hc hu => cg_dict hc hu⟩⟩⟩
  else none
end
end E2
end

section
set_option Elab.async false
set_option linter.all false
set_option maxRecDepth 100000
set_option maxHeartbeats 4000000
/-! E24: the compile function of expressions. -/
namespace E2
open PySem PySem.Spec PyProof.Rows L2
section
variable {T : Tbl}
def tyOf (x : Str) : Option {t : Ty // x = Str.ofString t.name} :=
  if h : x = "int" then some ⟨.int, h⟩ else if h : x = "bool" then some ⟨.bool, h⟩ else if h : x = "str" then some ⟨.str, h⟩ else if h : x = "tuple" then some ⟨.tuple, h⟩ else if h : x = "list" then some ⟨.list, h⟩ else if h : x = "dict" then some ⟨.dict, h⟩ else none
def tysOf : (es : List Expr) → Option {z : List Ty × List Pos // z.2.length = z.1.length ∧ es = (z.1.zip z.2).map fun q => .Name (Str.ofString q.1.name) q.2}
  | [] => some ⟨([], []), rfl, rfl⟩
  | .Name x p :: es => match tyOf x, tysOf es with
    | some ⟨t, h⟩, some ⟨(ts, ps), hl, he⟩ => some ⟨(t :: ts, p :: ps), congrArg (· + 1) hl, by subst h he; rfl⟩
    | _, _ => none
  | _ :: _ => none
/-- isinstance -/
def cIsi (r : Rec T) (v : Vw) (e c : Expr) (p pos : Pos) : Option (CE T v (.Call (.Name "isinstance" p) [e, c] [] pos)) :=
  match cOp r v e with
  | some ⟨o, ho⟩ => if hu : unstar e = true ∧ (isGl v.sc "isinstance" && T.bl.contains ("isinstance" : Str)) = true then (match c with
    | .Name x p2 => match tyOf x with
      | some ⟨t, h⟩ => if hf : (isGl v.sc x && T.bl.contains x) = true then some ⟨fIsi [t] o, fun X W c => by
          subst h
          exact sv_is1 (c.fr hu.2) (c.fr hf) (ho X W c) (star_cons hu.1)⟩ else none
      | none => none
    | .Tuple es k p2 => match tysOf es with
      | some ⟨(ts, ps), hl, he⟩ => if hf : (ts.all fun t => isGl v.sc (Str.ofString t.name) && T.bl.contains (Str.ofString t.name)) = true ∧ ts.length ≤ 100 then some ⟨fIsi ts o, fun X W c => by
          subst he
          exact sv_isT (c.fr hu.2) hl (fun t ht => c.fr (List.all_eq_true.mp hf.1 t ht)) hf.2 (ho X W c) (fun es => star_cons hu.1)⟩ else none
      | none => none
    | _ => none) else none
  | none => none
/-- what is walked -/
def unSet : Expr → Bool
  | .Set _ _ _ => false
  | _ => true
def cIt1 (r : Rec T) (v : Vw) (tg e : Expr) : Option (CI T v tg e) := match cSh r v e with
  | some ⟨f, h⟩ => some ⟨fItems f, fun X W c => si_one (h X W c)⟩
  | none => none
def cIt (r : Rec T) (v : Vw) (tg : Expr) : (e : Expr) → Option (CI T v tg e)
  | .Call (.Name x p) es [] pos =>
    if hz : x = "zip" ∧ (isGl v.sc x && T.bl.contains x) = true then (match tg, es with
      | .Tuple ts k tp, [a, b] => match cSh r v a, cSh r v b with
        | some ⟨f, hf⟩, some ⟨g, hg⟩ => if hu : unstar a = true ∧ unstar b = true then some ⟨fZip2 f g, fun X W c => by
            obtain ⟨rfl, hz⟩ := hz
            exact si_zip2 (c.fr hz) (hf X W c) (hg X W c) (star_cons hu.1) (star_cons hu.2)⟩ else none
        | _, _ => none
      | .Tuple ts k tp, [a, b, d] => match cSh r v a, cSh r v b, cSh r v d with
        | some ⟨f, hf⟩, some ⟨g, hg⟩, some ⟨h, hh⟩ => if hu : unstar a = true ∧ unstar b = true ∧ unstar d = true then some ⟨fZip3 f g h, fun X W c => by
            obtain ⟨rfl, hz⟩ := hz
            exact si_zip3 (c.fr hz) (hf X W c) (hg X W c) (hh X W c) (star_cons hu.1) (star_cons hu.2.1) (star_cons hu.2.2)⟩ else none
        | _, _, _ => none
      | _, _ => none)
    else if hz : x = "enumerate" ∧ (isGl v.sc x && T.bl.contains x) = true then (match tg, es with
      | .Tuple ts k tp, [a] => match cSh r v a with
        | some ⟨f, hf⟩ => if hu : unstar a = true then some ⟨fEnum f, fun X W c => by
            obtain ⟨rfl, hz⟩ := hz
            exact si_enum (c.fr hz) (hf X W c) (star_cons hu)⟩ else none
        | none => none
      | _, _ => none)
    else if hz : x = "reversed" ∧ (isGl v.sc x && T.bl.contains x) = true then (match es with
      | [a] => match cSh r v a with
        | some ⟨f, hf⟩ => if hu : unstar a = true then some ⟨fRevI f, fun X W c => by
            obtain ⟨rfl, hz⟩ := hz
            exact si_rev (c.fr hz) (hf X W c) (star_cons hu)⟩ else none
        | none => none
      | _ => none)
    else if hz : x = "range" ∧ (isGl v.sc x && T.bl.contains x) = true then (match es with
      | [a] => match cSh r v a with
        | some ⟨f, hf⟩ => if hu : unstar a = true then some ⟨fRng1 f, fun X W c => by
            obtain ⟨rfl, hz⟩ := hz
            exact si_rng1 (c.fr hz) (hf X W c) (star_cons hu)⟩ else none
        | none => none
      | [a, b] => match cSh r v a, cSh r v b with
        | some ⟨f, hf⟩, some ⟨g, hg⟩ => if hu : unstar a = true ∧ unstar b = true then some ⟨fRng2 f g, fun X W c => by
            obtain ⟨rfl, hz⟩ := hz
            exact si_rng2 (c.fr hz) (hf X W c) (hg X W c) (by rw [star_cons hu.1, star_cons hu.2]; rfl) (by rw [star_cons hu.2]; rfl)⟩ else none
        | _, _ => none
      | _ => none)
    else cIt1 r v tg _
  | e => cIt1 r v tg e
/-- targets -/
def cTgs (v : Vw) (A : List Nat) (rec : (tg : Expr) → Option (CG T v A tg)) : (es : List Expr) → Option (CGs T v A es)
  | [] => some ⟨gsNil, fun X W c => sgs_nil, fun ds ρ ρ' h => by cases ds <;> first | rfl | cases h⟩
  | e :: es => match rec e, cTgs v A rec es with
    | some ⟨g, h⟩, some ⟨gs, hs, hl⟩ => if hu : unstar e = true then some ⟨gsCons g gs, fun X W c => sgs_cons (h X W c) (hs X W c) (asg_cons hu), fun ds ρ ρ' h => by
        cases ds with
        | nil => cases h
        | cons d ds =>
          obtain ⟨ρ1, _, h2⟩ := Option.bind_eq_some_iff.mp (show (g d ρ).bind (gs ds) = some ρ' from h)
          exact congrArg (· + 1) (hl ds ρ1 ρ' h2)⟩ else none
    | _, _ => none
def cTg (v : Vw) (A : List Nat) : Nat → (tg : Expr) → Option (CG T v A tg)
  | 0, _ => none
  | _ + 1, .Name x pos => match hi : ixOf x v.N with
    | some i => if h : isLoc v.sc x = true ∧ (v.fn x || v.sc.names.lookup x == some .local) = true ∧ i ∈ A then some ⟨gAsg i, fun X W c => sg_name c.nd (by rw [c.N]; exact ixOf_get hi) (c.loc h.1) (c.fnl h.2.1) h.2.2⟩ else none
    | none => none
  | n + 1, .Tuple es k pos => match cTgs v A (cTg v A n) es with
    | some ⟨gs, hs, hl⟩ => if hu : es.all unstar = true then some ⟨gTupA gs, fun X W c => sg_tup c.calm (hs X W c) (asg_len hu).1 (asg_len hu).2 hl⟩ else none
    | none => none
  | _, _ => none
/-- the own names of a comprehension's block -/
def ownOf (N : List Str) (scope : Scope) : List (Str × Nat) := scope.names.filterMap fun (n, k) => if k == .local || k == .cell then (ixOf n N).map (n, ·) else none
def blkB (N : List Str) (sc scope : Scope) (own : List (Str × Nat)) : Bool :=
  scope.kind == .function && (scope.names.all fun y => scope.names.lookup y.1 == some y.2) && (own.all fun p => N[p.2]? == some p.1) &&
  (scope.names.all fun y => !(y.2 == .free) || (sc.names.lookup y.1 == some .cell || sc.names.lookup y.1 == some .free)) &&
  (scope.names.all fun y => !(y.2 == .local || y.2 == .cell) || ((own.map (·.1)).contains y.1 || !N.contains y.1))
theorem blkB_ok {N : List Str} {sc scope : Scope} {own : List (Str × Nat)} (h : blkB N sc scope own = true) : BlkOk N sc scope own := by
  unfold blkB at h
  simp only [Bool.and_eq_true, List.all_eq_true, beq_iff_eq, Bool.or_eq_true, Bool.not_eq_true', beq_eq_false_iff_ne, List.contains_iff_mem] at h
  obtain ⟨⟨⟨⟨h1, h2⟩, h3⟩, h4⟩, h5⟩ := h
  refine ⟨h1, h2, h3, fun y hy e => ?_, fun y hy e => ?_⟩
  · rcases h4 y hy with z | z
    · exact absurd e z
    · exact z
  · rcases h5 y hy with z | z
    · simp at z
      rcases e with e | e
      · exact absurd e z.1
      · exact absurd e z.2
    · rcases z with z | z
      · exact .inl z
      · exact .inr (by simpa using z)
end
end E2
end

section
set_option Elab.async false
set_option linter.all false
set_option maxRecDepth 100000
set_option maxHeartbeats 4000000
/-! E25: the compile function of expressions, the last part. -/
namespace E2
open PySem PySem.Spec PyProof.Rows L2
/-- a method of lists -/
structure Mt (x : Str) where
  m : List Dt → List Dt → Option (List Dt × Dt)
  ok : ∃ (id : String) (r : V → List V → Hp → VK → Prop), PySem.Slot "list" x id ∧ typeOf (.builtin id) = pure (.type "method_descriptor") ∧ (∀ X : Cx, MtR X id r) ∧ ∀ K mg, MOk K mg m r
def mtOf (x : Str) : Option (Mt x) :=
  if h : x = "append" then some ⟨mAppend, by subst h; exact ⟨_, _, PySem.F.slot_list_append, PySem.F.type_list_append, fun X => mt_append, fun K mg => mk_append⟩⟩
  else if h : x = "extend" then some ⟨mExtend, by subst h; exact ⟨_, _, PySem.F.slot_list_extend, PySem.F.type_list_extend, fun X => mt_extL, fun K mg => mk_extend⟩⟩
  else if h : x = "pop" then some ⟨mPop, by subst h; exact ⟨_, _, PySem.F.slot_list_pop, PySem.F.type_list_pop, fun X => mt_pop2, fun K mg => mk_pop⟩⟩
  else none
theorem few_args {es : List Expr} {env : PySem.Env} {pos : Pos} (h : es.all unstar = true) (hl : es.length < 29) :
    ((backTo pos (starEach es env)).all (fun x => !x.1) && (backToKw pos (keywordEach [] env)).all (fun x => x.1.isSome) && decide (es.length + ([] : List Keyword).length + (if ([] : List Keyword).isEmpty then 0 else 1) < 30)) = true := by
  rw [star_len h]
  have : decide (es.length + ([] : List Keyword).length + (if ([] : List Keyword).isEmpty then 0 else 1) < 30) = true := by
    apply decide_eq_true
    show es.length + 0 + 0 < 30
    omega
  rw [this]
  rfl
section
variable {T : Tbl}
def cMeth (r : Rec T) (v : Vw) (x : Str) (p1 : Pos) (m : Str) (ap : Pos) : (es : List Expr) → (pos : Pos) → Option (CE T v (.Call (.Attribute (.Name x p1) m ap) es [] pos))
  | [], pos => match slotOf v x, mtOf m with
    | some ⟨i, h1, h2, h3, h4⟩, some M => if hl : (ap.endLine == pos.line) = true then some ⟨fMeth i [] M.m, fun X W c => by
        obtain ⟨id, rr, s1, s2, s3, s4⟩ := M.ok
        refine PE.imp (pe_bm0 PySem.F.plainAttrs_list s1 s2 (s3 X) (pe_var (by rw [c.N]; exact h1) (c.vis h2) h3 h4) rfl hl) fun σ H Q h => ?_
        obtain ⟨y, hy, ty, q⟩ := meth_imp (fs := []) (s4 X.K X.mg) h
        obtain ⟨G, ρ, st, q⟩ := q
        exact ⟨y, hy, ty, (Pst.pure (a := ([] : List (Option Dt))) q st) [] .nil⟩⟩ else none
    | _, _ => none
  | e :: es, pos => match slotOf v x, mtOf m, cShs r v (e :: es) with
    | some ⟨i, h1, h2, h3, h4⟩, some M, some ⟨fs, hf, _⟩ => if hl : (ap.endLine == pos.line) = true ∧ (e :: es).all unstar = true ∧ (e :: es).length < 29 then some ⟨fMeth i fs M.m, fun X W c => by
        obtain ⟨id, rr, s1, s2, s3, s4⟩ := M.ok
        have hu := Bool.and_eq_true_iff.mp (show (unstar e && es.all unstar) = true from hl.2.1)
        exact PE.imp (pe_bm PySem.F.plainAttrs_list s1 s2 (s3 X) (pe_var (by rw [c.N]; exact h1) (c.vis h2) h3 h4) (hf X W c) rfl (few_args hl.2.1 hl.2.2) hl.1 (star_cons hu.1) (star_any hu.2)) fun σ H Q h => meth_imp (s4 X.K X.mg) h⟩ else none
    | _, _, _ => none
/-- f(e, ..) -/
def cCall (r : Rec T) (v : Vw) (x : Str) (p : Pos) : (es : List Expr) → (pos : Pos) → Option (CE T v (.Call (.Name x p) es [] pos))
  | [], pos => match lookP x T.fns with
    | some ⟨F, hF⟩ => if h : isGl v.sc x = true ∧ (x == ("__debug__" : Str)) = false ∧ 0 = F.n then some ⟨fCall F [], fun X W c => by
        obtain ⟨k, f, fd, ps, h1, h2, h3, h4, h5⟩ := c.fns _ hF
        exact sv_call0 h1 h2 (c.gl h.1) h3 h4 h5 c.tk h.2.2 h.2.1⟩ else none
    | none => none
  | e :: es, pos => match cArgs r v (e :: es) with
    | some ⟨os, ho, hl⟩ => (match slotOf v x with
     | some ⟨i, h1, h2, h3, h4⟩ => if h : (e :: es).all unstar = true then some ⟨fCallV T.fns i os, fun X W c => by
          have hu := Bool.and_eq_true_iff.mp (show (unstar e && es.all unstar) = true from h)
          exact sv_callV c.fns c.tk (by rw [c.N]; exact h1) (c.vis h2) h3 h4 (ho X W c) (star_cons hu.1) (star_any hu.2)⟩ else none
     | none => match lookP x T.fns with
      | some ⟨F, hF⟩ => if h : isGl v.sc x = true ∧ (x == ("__debug__" : Str)) = false ∧ os.length = F.n ∧ (e :: es).all unstar = true then some ⟨fCall F os, fun X W c => by
          obtain ⟨k, f, fd, ps, h1, h2, h3, h4, h5⟩ := c.fns _ hF
          have hu := Bool.and_eq_true_iff.mp (show (unstar e && es.all unstar) = true from h.2.2.2)
          exact sv_call h1 h2 (c.gl h.1) h3 h4 h5 c.tk (ho X W c) h.2.2.1 h.2.1 (star_cons hu.1) (star_any hu.2)⟩ else none
      | none => match blOf x with
        | some B => if h : (isGl v.sc x && T.bl.contains x) = true ∧ (e :: es).all unstar = true then some ⟨fB os B.g, fun X W c => by
            obtain ⟨h1, h2, h3⟩ := B.ok
            have hu := Bool.and_eq_true_iff.mp (show (unstar e && es.all unstar) = true from h.2)
            rcases h3 with ⟨id, h4, h5⟩ | ⟨t, h4, h5⟩
            · exact sv_bltn (h5 X c.calm c.un) (c.fr h.1) h4 h1 h2 (ho X W c) (star_cons hu.1) (star_any hu.2)
            · exact sv_type (h5 X c.calm c.un) (c.fr h.1) h4 h1 h2 (ho X W c) (star_cons hu.1) (star_any hu.2)⟩ else none
        | none => none)
    | none => none
/-- the keywords' values -/
def cKws (r : Rec T) (v : Vw) : (kws : List Keyword) → Option {os : List Op // (∀ X W, CxOk T v X W → PK X kws (tOs X.K X.mg W os)) ∧ os.length = kws.length}
  | [] => some ⟨[], fun X W c => pks_nil, rfl⟩
  | ⟨nm, e, kp⟩ :: kws => match cOp r v e, cKws r v kws with
    | some ⟨o, h⟩, some ⟨os, hs, hl⟩ => some ⟨o :: os, fun X W c => pks_cons (h X W c) (hs X W c), congrArg (· + 1) hl⟩
    | _, _ => none
def lookK (x : Str) (as : List (Option Str)) : (l : List (Str × FS × List Str × List Nat)) → Option {q : Str × FS × List Str × List Nat // q ∈ l ∧ q.1 = x ∧ as = q.2.2.1.map some}
  | [] => none
  | q :: l => if h : q.1 = x ∧ as = q.2.2.1.map some then some ⟨q, List.mem_cons_self, h⟩ else match lookK x as l with
    | some ⟨p, h1, h2⟩ => some ⟨p, List.mem_cons_of_mem _ h1, h2⟩
    | none => none
/-- f(k = e, ..) -/
def cCallK (r : Rec T) (v : Vw) (x : Str) (p : Pos) (kws : List Keyword) (pos : Pos) : Option (CE T v (.Call (.Name x p) [] kws pos)) :=
  match lookK x (kws.map (·.arg)) T.kw, cKws r v kws with
  | some ⟨⟨y, F, ks, is⟩, hq, h1, h2⟩, some ⟨os, ho, hl⟩ => if h : isGl v.sc x = true ∧ (x == ("__debug__" : Str)) = false ∧ is.length = F.n ∧ (∀ i ∈ is, i < os.length) ∧ os.length = ks.length then some ⟨fCallK F is os, fun X W c => by
      obtain ⟨k, f, fd, ps, a1, a2, a3, a4, a5⟩ := c.kw _ hq
      have h1 : y = x := h1
      subst h1
      exact sv_callK a1 a2 (c.gl h.1) a3 a4 a5 c.tk (ho X W c) h.2.2.1 h.2.2.2.1 h.2.2.2.2 h2 h.2.1⟩ else none
  | _, _ => none
def cPart (r : Rec T) (v : Vw) : (e : Option Expr) → Option {f : Env → R (Option Int × Env) // ∀ X W, CxOk T v X W → PO X e (tP X.K X.mg W f)}
  | none => some ⟨fNoP, fun X W c => sp_none⟩
  | some e => match cSh r v e with
    | some ⟨f, h⟩ => some ⟨fPart f, fun X W c => sp_some (h X W c)⟩
    | none => none
/-- and, or: as values -/
def cBoolV (r : Rec T) (v : Vw) (pos : Pos) : (op : BoolOp) → (es : List Expr) → Option (CE T v (.BoolOp op es pos))
  | _, [] => none
  | op, [a] => match (r v a).1 with
    | some ⟨f, h⟩ => some ⟨f, fun X W c => pe_one (h X W c)⟩
    | none => none
  | .And, a :: b :: rest => match (r v a).1, cBoolV r v pos .And (b :: rest) with
    | some ⟨f, h⟩, some ⟨g, hg⟩ => some ⟨fAndV f g, fun X W c => sv_and (h X W c) (hg X W c)⟩
    | _, _ => none
  | .Or, a :: b :: rest => match (r v a).1, cBoolV r v pos .Or (b :: rest) with
    | some ⟨f, h⟩, some ⟨g, hg⟩ => some ⟨fOrV f g, fun X W c => sv_or (h X W c) (hg X W c)⟩
    | _, _ => none
/-- and, or: as tests -/
def cBoolT (r : Rec T) (v : Vw) (pos : Pos) : (op : BoolOp) → (es : List Expr) → Option {t : ET // ∀ X W, CxOk T v X W → PW X (.BoolOp op es pos) (tT X.K X.mg W t)}
  | _, [] => none
  | .And, [a] => match (r v a).2 with
    | some ⟨f, h⟩ => some ⟨f, fun X W c => pw_and1 (h X W c)⟩
    | none => none
  | .Or, [a] => match (r v a).2 with
    | some ⟨f, h⟩ => some ⟨f, fun X W c => pw_or1 (h X W c)⟩
    | none => none
  | .And, a :: b :: rest => match (r v a).2, cBoolT r v pos .And (b :: rest) with
    | some ⟨f, h⟩, some ⟨g, hg⟩ => some ⟨fAndT f g, fun X W c => sw_and (h X W c) (hg X W c)⟩
    | _, _ => none
  | .Or, a :: b :: rest => match (r v a).2, cBoolT r v pos .Or (b :: rest) with
    | some ⟨f, h⟩, some ⟨g, hg⟩ => some ⟨fOrT f g, fun X W c => sw_or (h X W c) (hg X W c)⟩
    | _, _ => none
def cIfs (r : Rec T) (v : Vw) : (ifs : List Expr) → Option {t : ET // ∀ X W, CxOk T v X W → PTs X ifs (tT X.K X.mg W t)}
  | [] => some ⟨fYes, fun X W c => spts_nil⟩
  | [a] => match (r v a).2 with
    | some ⟨t, h⟩ => some ⟨t, fun X W c => pts_one (h X W c)⟩
    | none => none
  | _ => none
/-- a comprehension with one for: its parts -/
structure LcP (T : Tbl) (v : Vw) (elt tg iter : Expr) (ifs : List Expr) (scope : Scope) where
  it : Env → R (List Dt × Env)
  g : Dt → Env → Option Env
  t : ET
  f : EE
  own : List (Str × Nat)
  ok : ∀ X W, CxOk T v X W → BlkOk X.N X.env.scope scope own ∧ PI X tg iter (tI X.K X.mg W it) ∧ (∀ (s : Shared) (H : Hp) (C : Addr) (cl : List (Str × Addr)) (fp : List Addr), PG (X.blk s H scope (compEnvC scope cl C X.env) fp) tg (tG X.K X.mg (own.map (·.2)) g)) ∧
    (∀ (s : Shared) (H : Hp) (C : Addr) (cl : List (Str × Addr)) (fp : List Addr), PTs (X.blk s H scope (compEnvC scope cl C X.env) fp) ifs (tT X.K X.mg W0 t)) ∧
    (∀ (s : Shared) (H : Hp) (C : Addr) (cl : List (Str × Addr)) (fp : List Addr), PE (X.blk s H scope (compEnvC scope cl C X.env) fp) elt (tE X.K X.mg W0 f)) ∧ ∀ x, foldedSetIterable iter X.env x = pure x
def cLc (r : Rec T) (v : Vw) (elt tg iter : Expr) (ifs : List Expr) (scope : Scope) : Option (LcP T v elt tg iter ifs scope) :=
  match cIt r v tg iter, cTg (T := T) (v.blk scope) ((ownOf v.N scope).map (·.2)) 5 tg, cIfs r (v.blk scope) ifs, cSh r (v.blk scope) elt with
  | some ⟨it, h1⟩, some ⟨g, h2⟩, some ⟨t, h3⟩, some ⟨f, h4⟩ => if hb : blkB v.N v.sc scope (ownOf v.N scope) = true ∧ unSet iter = true then some ⟨it, g, t, f, ownOf v.N scope, fun X W c =>
      ⟨by rw [c.N, c.sc]; exact blkB_ok hb.1, h1 X W c, fun s H C cl fp => h2 _ _ (c.blk s H scope C cl fp), fun s H C cl fp => h3 _ _ (c.blk s H scope C cl fp), fun s H C cl fp => h4 _ _ (c.blk s H scope C cl fp), fold_no (by cases iter <;> first | rfl | cases hb.2)⟩⟩ else none
  | _, _, _, _ => none
def LcP.fn {v : Vw} {elt tg iter : Expr} {ifs : List Expr} {scope : Scope} (L : LcP T v elt tg iter ifs scope) : EV := fLc L.it L.g L.t L.f (L.own.map (·.2))
def tgNames : Nat → Expr → List Str
  | _, .Name x _ => [x]
  | n + 1, .Tuple es _ _ => es.flatMap (tgNames n)
  | _, _ => []
/-- a comprehension with two fors: its parts -/
structure LcP2 (T : Tbl) (v : Vw) (elt tg iter : Expr) (ifs : List Expr) (tg1 iter1 : Expr) (ifs1 : List Expr) (scope : Scope) where
  it : Env → R (List Dt × Env)
  g : Dt → Env → Option Env
  t : ET
  it1 : Env → R (List Dt × Env)
  g1 : Dt → Env → Option Env
  t1 : ET
  f : EE
  own : List (Str × Nat)
  vs1 : List Nat
  sub : ∀ i ∈ vs1, i ∈ own.map (·.2)
  ok : ∀ X W, CxOk T v X W → BlkOk X.N X.env.scope scope own ∧ PI X tg iter (tI X.K X.mg W it) ∧ (∀ (s : Shared) (H : Hp) (C : Addr) (cl : List (Str × Addr)) (fp : List Addr), PG (X.blk s H scope (compEnvC scope cl C X.env) fp) tg (tG X.K X.mg (own.map (·.2)) g)) ∧
    (∀ (s : Shared) (H : Hp) (C : Addr) (cl : List (Str × Addr)) (fp : List Addr), PTs (X.blk s H scope (compEnvC scope cl C X.env) fp) ifs (tT X.K X.mg W0 t)) ∧
    (∀ (s : Shared) (H : Hp) (C : Addr) (cl : List (Str × Addr)) (fp : List Addr), PI (X.blk s H scope (compEnvC scope cl C X.env) fp) tg1 iter1 (tI X.K X.mg W0 it1)) ∧
    (∀ (s : Shared) (H : Hp) (C : Addr) (cl : List (Str × Addr)) (fp : List Addr), PG (X.blk s H scope (compEnvC scope cl C X.env) fp) tg1 (tG X.K X.mg vs1 g1)) ∧
    (∀ (s : Shared) (H : Hp) (C : Addr) (cl : List (Str × Addr)) (fp : List Addr), PTs (X.blk s H scope (compEnvC scope cl C X.env) fp) ifs1 (tT X.K X.mg W0 t1)) ∧
    (∀ (s : Shared) (H : Hp) (C : Addr) (cl : List (Str × Addr)) (fp : List Addr), PE (X.blk s H scope (compEnvC scope cl C X.env) fp) elt (tE X.K X.mg W0 f)) ∧ (∀ x, foldedSetIterable iter X.env x = pure x) ∧ ∀ env x, foldedSetIterable iter1 env x = pure x
def own1 (own : List (Str × Nat)) (tg1 : Expr) : List Nat := (own.filter fun p => (tgNames 5 tg1).contains p.1).map (·.2)
theorem own1_sub (own : List (Str × Nat)) (tg1 : Expr) : ∀ i ∈ own1 own tg1, i ∈ own.map (·.2) := fun i h => by
  obtain ⟨p, hp, rfl⟩ := List.mem_map.mp h
  exact List.mem_map.mpr ⟨p, (List.mem_filter.mp hp).1, rfl⟩
def cLc2 (r : Rec T) (v : Vw) (elt tg iter : Expr) (ifs : List Expr) (tg1 iter1 : Expr) (ifs1 : List Expr) (scope : Scope) : Option (LcP2 T v elt tg iter ifs tg1 iter1 ifs1 scope) :=
  match cIt r v tg iter, cTg (T := T) (v.blk scope) ((ownOf v.N scope).map (·.2)) 5 tg, cIfs r (v.blk scope) ifs, cIt r (v.blk scope) tg1 iter1, cTg (T := T) (v.blk scope) (own1 (ownOf v.N scope) tg1) 5 tg1, cIfs r (v.blk scope) ifs1, cSh r (v.blk scope) elt with
  | some ⟨it, h1⟩, some ⟨g, h2⟩, some ⟨t, h3⟩, some ⟨it1, k1⟩, some ⟨g1, k2⟩, some ⟨t1, k3⟩, some ⟨f, h4⟩ => if hb : blkB v.N v.sc scope (ownOf v.N scope) = true ∧ unSet iter = true ∧ unSet iter1 = true then some ⟨it, g, t, it1, g1, t1, f, ownOf v.N scope, own1 (ownOf v.N scope) tg1, own1_sub _ _, fun X W c =>
      ⟨by rw [c.N, c.sc]; exact blkB_ok hb.1, h1 X W c, fun s H C cl fp => h2 _ _ (c.blk s H scope C cl fp), fun s H C cl fp => h3 _ _ (c.blk s H scope C cl fp), fun s H C cl fp => k1 _ _ (c.blk s H scope C cl fp), fun s H C cl fp => k2 _ _ (c.blk s H scope C cl fp), fun s H C cl fp => k3 _ _ (c.blk s H scope C cl fp),
        fun s H C cl fp => h4 _ _ (c.blk s H scope C cl fp), fold_no (by cases iter <;> first | rfl | cases hb.2.1), fun env => fold_no (by cases iter1 <;> first | rfl | cases hb.2.2)⟩⟩ else none
  | _, _, _, _, _, _, _ => none
def LcP2.fn {v : Vw} {elt tg iter : Expr} {ifs : List Expr} {tg1 iter1 : Expr} {ifs1 : List Expr} {scope : Scope} (L : LcP2 T v elt tg iter ifs tg1 iter1 ifs1 scope) : EV := fLc2 L.it L.g L.t L.it1 L.g1 L.t1 L.f (L.own.map (·.2)) L.vs1
def stepV (r : Rec T) (v : Vw) : (e : Expr) → Option (CE T v e)
  | .Name x pos => cName v x pos
  | .Constant (.int i) j pos => some ⟨fC (.int i), fun X W c => sv_const pe_int fun G => .int i⟩
  | .Constant (.bool b) j pos => some ⟨fC (.bl b), fun X W c => sv_const pe_bl fun G => .bl b⟩
  | .Constant .none j pos => some ⟨fC .non, fun X W c => sv_const pe_non fun G => .non⟩
  | .Constant (.str x) j pos => some ⟨fC (.str x), fun X W c => sv_const pe_str fun G => .str x⟩
  | .BinOp a op b pos => match bOp op, cOp r v a, cOp r v b with
    | some ⟨g, hg⟩, some ⟨o1, h1⟩, some ⟨o2, h2⟩ => some ⟨f2 o1 o2 g, fun X W c => sv_bin (hg X) (rG_ok g) (h1 X W c) (h2 X W c)⟩
    | _, _, _ => none
  | .UnaryOp .Not a pos => match cOp r v a with
    | some ⟨o, h⟩ => some ⟨fNotV o, fun X W c => sv_not (h X W c)⟩
    | none => none
  | .UnaryOp .USub a pos => match cOp r v a with
    | some ⟨o, h⟩ => some ⟨f1 o negD, fun X W c => sv_neg (h X W c)⟩
    | none => none
  | .BoolOp op es pos => cBoolV r v pos op es
  | .Compare a [op] [b] pos => match kOp op, cOp r v a, cOp r v b with
    | some ⟨g, hg⟩, some ⟨o1, h1⟩, some ⟨o2, h2⟩ => if hs : unSet b = true then some ⟨f2 o1 o2 g, fun X W c => sv_cmp (hg X c.un) (rG_ok g) (h1 X W c) (h2 X W c) (marks_no (by cases b <;> first | rfl | cases hs))⟩ else none
    | _, _, _ => none
  | .Compare a [op, op'] [b, d] pos => match kOp op, kOp op', cOp r v a, cOp r v b, cOp r v d with
    | some ⟨g, hg⟩, some ⟨g', hg'⟩, some ⟨o1, h1⟩, some ⟨o2, h2⟩, some ⟨o3, h3⟩ => if hs : unSet d = true then some ⟨fChain o1 o2 o3 g g', fun X W c => sv_chain (hg X c.un) (hg' X c.un) (h1 X W c) (h2 X W c) (h3 X W c) (lmarks_no (by cases d <;> first | rfl | cases hs))⟩ else none
    | _, _, _, _, _ => none
  | .IfExp t a b pos => match (r v t).2, (r v a).1, (r v b).1 with
    | some ⟨t, ht⟩, some ⟨f, hf⟩, some ⟨g, hg⟩ => some ⟨fIfV t f g, fun X W c => sv_if (ht X W c) (hf X W c) (hg X W c)⟩
    | _, _, _ => none
  | .Subscript e (.Slice none none (some (.UnaryOp .USub (.Constant (.int 1) k p1) p2)) p3) pos => match cOp r v e with
    | some ⟨o, h⟩ => some ⟨f1 o revD, fun X W c => sv_rev (h X W c)⟩
    | none => none
  | .Subscript e (.Slice lo hi none p2) pos => match cOp r v e, cPart r v lo, cPart r v hi with
    | some ⟨o, h⟩, some ⟨fl, hl⟩, some ⟨fh, hh⟩ => some ⟨fSl o fl fh, fun X W c => sv_slice (h X W c) (hl X W c) (hh X W c)⟩
    | _, _, _ => none
  | .Subscript a b pos => match cOp r v a, cOp r v b with
    | some ⟨o1, h1⟩, some ⟨o2, h2⟩ => if hp : plainIx b = true then some ⟨f2 o1 o2 ixD, fun X W c => PE.imp (pe_ix (og_ix (mg := X.mg) c.un) (h1 X W c) (h2 X W c) (plain_ix hp)) fun _ _ _ h => two_imp (rG_ok ixD) h⟩ else none
    | _, _ => none
  | .Tuple es k pos => match cShs r v es with
    | some ⟨fs, hf, hl⟩ => if hz : fs.length ≤ 16777216 then some ⟨fSeq (fun ds => .sh (.tup ds)) fs, fun X W c => sv_tup (hf X W c) (by rw [sizeLine_eq]; exact hz)⟩ else none
    | none => none
  | .List es pos => match cShs r v es with
    | some ⟨fs, hf, hl⟩ => if hz : fs.length ≤ 16777216 then some ⟨fSeq (fun ds => .ow (.lst ds)) fs, fun X W c => sv_lst (hf X W c) (by rw [sizeLine_eq]; exact hz)⟩ else none
    | none => none
  | .Dict [] [] pos => some ⟨fDct0, fun X W c => sv_dct0⟩
  | .Dict [some a] [b] pos => match cSh r v a, cSh r v b with
    | some ⟨f, hf⟩, some ⟨g, hg⟩ => some ⟨fD1 f g, fun X W c => sv_D1 (by have := c.un; omega) (hf X W c) (hg X W c)⟩
    | _, _ => none
  | .ListComp elt [⟨tg, iter, ifs, 0⟩] scope pos => match cLc r v elt tg iter ifs scope with
    | some L => some ⟨L.fn, fun X W c => by
        obtain ⟨h1, h2, h3, h4, h5, h6⟩ := L.ok X W c
        exact PE.imp (pe_lc c.calm c.nd h2 h1 h3 h4 h5 h6) fun _ _ _ h => lc_imp h⟩
    | none => none
  | .ListComp elt [⟨tg, iter, ifs, 0⟩, ⟨tg1, iter1, ifs1, 0⟩] scope pos => match cLc2 r v elt tg iter ifs tg1 iter1 ifs1 scope with
    | some L => some ⟨L.fn, fun X W c => by
        obtain ⟨h1, h2, h3, h4, k1, k2, k3, h5, h6, k4⟩ := L.ok X W c
        exact PE.imp (pe_lc2 c.calm c.nd h2 h1 L.sub h3 h4 k1 k2 k3 h5 h6 k4) fun _ _ _ h => lc2_imp L.sub h⟩
    | none => none
  | .Call (.Name x p) [.Call (.Name y p2) [e] [] pos2] [] pos => if h : x = "sorted" ∧ y = "set" ∧ (isGl v.sc x && T.bl.contains x) = true ∧ (isGl v.sc y && T.bl.contains y) = true ∧ unstar e = true then (match cOp r v e with
      | some ⟨o, ho⟩ => some ⟨fB [o] setSortD, fun X W c => by
          obtain ⟨rfl, rfl, h1, h2, h3⟩ := h
          exact sv_setSort c.calm c.un (c.fr h1) (c.fr h2) (ho X W c) (star_cons h3)⟩
      | none => none)
    else cCall r v x p [.Call (.Name y p2) [e] [] pos2] pos
  | .Call (.Name x p) [e, d] [] pos => if h : x = "isinstance" then (match cIsi r v e d p pos with
      | some ⟨f, hf⟩ => some ⟨f, fun X W c => by subst h; exact hf X W c⟩
      | none => none)
    else cCall r v x p [e, d] pos
  | .Call (.Name x p) es [] pos => cCall r v x p es pos
  | .Call (.Name x p) [] (k :: kws) pos => cCallK r v x p (k :: kws) pos
  | .Call (.Attribute (.Name x p1) m ap) [e] [] pos => if h : m = "count" then (match slotOf v x, cSh r v e with
      | some ⟨i, h1, h2, h3, h4⟩, some ⟨f, hf⟩ => if hl : (ap.endLine == pos.line) = true ∧ unstar e = true then some ⟨fRecv isLstR i f countD, fun X W c => by
          subst h
          exact sv_count c.un (pe_var (by rw [c.N]; exact h1) (c.vis h2) h3 h4) (hf X W c) rfl hl.1 (star_cons hl.2) (few_args (es := [e]) (by simp [hl.2]) (by simp))⟩ else none
      | _, _ => none)
    else cMeth r v x p1 m ap [e] pos
  | .Call (.Attribute (.Name x p1) m ap) es [] pos => cMeth r v x p1 m ap es pos
  | _ => none
def stepT (r : Rec T) (v : Vw) : (e : Expr) → Option (CT T v e)
  | .UnaryOp .Not a pos => match (r v a).2 with
    | some ⟨t, h⟩ => some ⟨fNotT t, fun X W c => st_not (h X W c)⟩
    | none => none
  | .BoolOp op es pos => match cBoolT r v pos op es with
    | some ⟨t, h⟩ => some ⟨t, fun X W c => (h X W c).pt⟩
    | none => none
  | .Compare a [op] [b] pos => match kOp op, cOp r v a, cOp r v b with
    | some ⟨g, hg⟩, some ⟨o1, h1⟩, some ⟨o2, h2⟩ => if hs : unSet b = true then some ⟨fTe (f2 o1 o2 g), fun X W c => st_cmp (hg X c.un) (h1 X W c) (h2 X W c) (marks_no (by cases b <;> first | rfl | cases hs))⟩ else none
    | _, _, _ => none
  | .Compare a [op, op'] [b, d] pos => match kOp op, kOp op', cOp r v a, cOp r v b, cOp r v d with
    | some ⟨g, hg⟩, some ⟨g', hg'⟩, some ⟨o1, h1⟩, some ⟨o2, h2⟩, some ⟨o3, h3⟩ => if hs : unSet d = true then some ⟨fTe (fChain o1 o2 o3 g g'), fun X W c => st_chain (hg X c.un) (hg' X c.un) (h1 X W c) (h2 X W c) (h3 X W c) (lmarks_no (by cases d <;> first | rfl | cases hs))⟩ else none
    | _, _, _, _, _ => none
  | e => match cOp r v e with
    | some ⟨o, h⟩ => if hp : plainTest e = true then some ⟨fTr o, fun X W c => st_truth (h X W c) (plain_test hp)⟩ else none
    | none => none
def cVT (T : Tbl) : Nat → Rec T
  | 0 => fun _ _ => (none, none)
  | n + 1 => fun v e => (stepV (cVT T n) v e, stepT (cVT T n) v e)
end
end E2
end

section
set_option Elab.async false
set_option linter.all false
set_option maxRecDepth 100000
set_option maxHeartbeats 4000000
/-! E26: the compile function of statements. -/
namespace E2
open PySem PySem.Spec PyProof.Rows L2
def bkOf (sc : Scope) : ScopeKind := if sc.kind.isAnnotationScope then .function else sc.kind
def swB (sc s : Scope) (t : Str) (tp p : Pos) : Bool := bkOf sc == .function && sc.names.lookup t == some .local && tp.line == p.line && !(s.names.any fun (n, k) => n == t && (k == .local || k == .cell))
theorem swaps_lc {a : Expr} {gs : List Comprehension} {s : Scope} {p tp : Pos} {t : Str} {l : Nat} {env : PySem.Env} : swapsWith (.ListComp a gs s p) (some (.Name t tp)) l env = pure (swB env.scope s t tp p) := rfl
def isLc (sc : Scope) (x : Str) : Bool := sc.names.lookup x == some .local
/-- a local name on line l -/
def onL (sc : Scope) (l : Nat) : Expr → Option Str
  | .Name x p => if isLc sc x && p.line == l then some x else none
  | _ => none
def lines (es : List Expr) : Nat := Option.getD (Option.map (fun e => e.pos.line) (List.head? es)) 0
def idsL (sc : Scope) (es : List Expr) : List Str := List.filterMap (onL sc (lines es)) es
def starry : Expr → Bool
  | .Starred .. => true
  | _ => false
/-- not a store that the model might do in another order -/
def plainT (sc : Scope) (ts vs : List Expr) : Bool := !(List.length ts == 2 || List.length ts == 3) || List.length vs != List.length ts || bkOf sc != .function
def twiceT (sc : Scope) (ts : List Expr) : Bool := List.length (idsL sc ts) != List.length ts || List.length (List.eraseDups (idsL sc ts)) != List.length (idsL sc ts)
def swT (sc : Scope) (ts vs : List Expr) : Option (Option (List Str)) :=
  if plainT sc ts vs = true then some none
  else if List.any vs starry = true then some none
  else if twiceT sc ts = true then some none
  else if List.all vs (foldedForSure 8) = true then some none
  else if List.all vs (constantsAlone 8) = true then none
  else some (some (idsL sc ts))
theorem swT_ok {ts vs : List Expr} {k1 k2 : Nat} {p1 p2 : Pos} {env : PySem.Env} {r : Option (List Str)} (h : swT env.scope ts vs = some r) : swappedStores [.Tuple ts k1 p1] (.Tuple vs k2 p2) env = pure r := by
  unfold swT at h
  unfold swappedStores
  split at h
  · rename_i c1
    cases h
    exact (if_pos c1).trans rfl
  · rename_i c1
    refine (if_neg c1).trans ?_
    split at h
    · rename_i c2
      cases h
      exact (if_pos c2).trans rfl
    · rename_i c2
      refine (if_neg c2).trans ?_
      split at h
      · rename_i c3
        cases h
        exact (if_pos c3).trans rfl
      · rename_i c3
        refine (if_neg c3).trans ?_
        split at h
        · rename_i c4
          cases h
          exact (if_pos c4).trans rfl
        · rename_i c4
          refine (if_neg c4).trans ?_
          split at h
          · cases h
          · rename_i c5
            cases h
            exact (if_neg c5).trans rfl
theorem swN_ok {t e : Expr} {env : PySem.Env} (h : (match t with | .Tuple _ _ _ => false | .List _ _ => false | _ => true) = true) : swappedStores [t] e env = pure none := by
  cases t <;> first | (cases h; done) | (cases e <;> rfl)
end E2
end

section
set_option Elab.async false
set_option linter.all false
set_option maxRecDepth 100000
set_option maxHeartbeats 4000000
/-! E27: the compile function of statements. -/
namespace E2
open PySem PySem.Spec PyProof.Rows L2
theorem asg_sub {o i : Expr} {p2 : Pos} {env : PySem.Env} (h : plainIx i = true) : ∀ v, assign (.Subscript o i p2) env v = (do
      let ov ← holding [v] (eval o env)
      let iv ← holding [v, ov] (eval i env)
      standAt p2
      holding [v, ov, iv] (setItem ov iv v)
      release [v, ov, iv] []) := by
  intro v
  cases i <;> first | (cases h; done) | rfl
theorem aug_store {i : Expr} (h : plainIx i = true) : ∀ ov iv new, augStore i ov iv new = (do holding [new, ov, iv] (setItem ov iv new); release [new, ov, iv] []; pure .next) := by
  intros
  cases i <;> first | (cases h; done) | rfl
def augOf : (op : Operator) → Option {o : Aug // o.op = op}
  | .Add => some ⟨.add, rfl⟩
  | .Sub => some ⟨.sub, rfl⟩
  | _ => none
structure CxS (T : Tbl) (v : Vw) (X : Cx) (W : WX) : Prop where
  c : CxOk T v X W
  pas : PassesOwn (model X.prog X.w) X.A X.env X.xe
  fn : ∀ x, v.fn x = true
  stk : X.stack = X.env :: X.outer
  frm : X.env.frame = some X.env.locals
theorem CxS.tr {T : Tbl} {v : Vw} {X : Cx} {W V : WX} (c : CxS T v X W) (pn : List (Addr × Obj)) (xe : Value → Shared → Prop) (tk : Takes (X.tr pn xe) V) (pas : PassesOwn (model X.prog X.w) X.A X.env xe) : CxS T v (X.tr pn xe) V := ⟨c.c.tr pn xe tk, pas, c.fn, c.stk, c.frm⟩
abbrev CSt (T : Tbl) (v : Vw) (A : List Nat) (st : Stmt) := {f : SF // ∀ X W, CxS T v X W → PS X st (tS X.K X.mg W A f)}
abbrev CSs (T : Tbl) (v : Vw) (A : List Nat) (st : List Stmt) := {f : SF // ∀ X W, CxS T v X W → PSs X st (tS X.K X.mg W A f)}
def bigN : Nat := 1000000
section
variable {T : Tbl}
/-- x = e, a plain name -/
def cAsgN (r : Rec T) (v : Vw) (A : List Nat) (x : Str) (p : Pos) : (e : Expr) → (pos : Pos) → Option (CSt T v A (.Assign [.Name x p] e pos))
  | .ListComp elt [⟨tg, iter, ifs, 0⟩] scope lp, pos => match hi : ixOf x v.N, cLc r v elt tg iter ifs scope with
    | some i, some L => if h : isLoc v.sc x = true ∧ i ∈ A then (if hs : swB v.sc scope x p lp = true then (if hl : (v.sc.names.lookup x == some .local) = true then some ⟨fAsg i L.fn, fun X W c => by
          obtain ⟨h1, h2, h3, h4, h5, h6⟩ := L.ok X W c.c
          have hN : X.N[i]? = some x := by rw [c.c.N]; exact ixOf_get hi
          refine PS.imp (ps_setLc c.c.calm c.c.nd hN (by rw [c.c.sc]; exact beq_iff_eq.mp hl) (by rw [swaps_lc, c.c.sc, hs]) h2 h1 h3 h4 h5 h6) fun D σ H h' => ?_
          exact lc_imp (asg_imp h.2 h')⟩ else none)
        else some ⟨fAsg i L.fn, fun X W c => by
          obtain ⟨h1, h2, h3, h4, h5, h6⟩ := L.ok X W c.c
          have hN : X.N[i]? = some x := by rw [c.c.N]; exact ixOf_get hi
          refine PS.imp (ps_set c.c.nd hN (c.c.loc h.1) (pe_lc c.c.calm c.c.nd h2 h1 h3 h4 h5 h6) (by rw [swaps_lc, c.c.sc]; rw [Bool.not_eq_true] at hs; rw [hs]) (.inl (by rw [c.c.fn]; exact c.fn x))) fun D σ H h' => ?_
          exact lc_imp (asg_imp h.2 h')⟩) else none
    | _, _ => none
  | .ListComp elt [⟨tg, iter, ifs, 0⟩, ⟨tg1, iter1, ifs1, 0⟩] scope lp, pos => match hi : ixOf x v.N, cLc2 r v elt tg iter ifs tg1 iter1 ifs1 scope with
    | some i, some L => if h : isLoc v.sc x = true ∧ i ∈ A then (if hs : swB v.sc scope x p lp = true then (if hl : (v.sc.names.lookup x == some .local) = true then some ⟨fAsg i L.fn, fun X W c => by
          obtain ⟨h1, h2, h3, h4, k1, k2, k3, h5, h6, k4⟩ := L.ok X W c.c
          have hN : X.N[i]? = some x := by rw [c.c.N]; exact ixOf_get hi
          refine PS.imp (ps_setLc2 c.c.calm c.c.nd hN (by rw [c.c.sc]; exact beq_iff_eq.mp hl) (by rw [swaps_lc, c.c.sc, hs]) h2 h1 L.sub h3 h4 k1 k2 k3 h5 h6 k4) fun D σ H h' => ?_
          exact lc2_imp L.sub (asg_imp h.2 h')⟩ else none)
        else some ⟨fAsg i L.fn, fun X W c => by
          obtain ⟨h1, h2, h3, h4, k1, k2, k3, h5, h6, k4⟩ := L.ok X W c.c
          have hN : X.N[i]? = some x := by rw [c.c.N]; exact ixOf_get hi
          refine PS.imp (ps_set c.c.nd hN (c.c.loc h.1) (pe_lc2 c.c.calm c.c.nd h2 h1 L.sub h3 h4 k1 k2 k3 h5 h6 k4) (by rw [swaps_lc, c.c.sc]; rw [Bool.not_eq_true] at hs; rw [hs]) (.inl (by rw [c.c.fn]; exact c.fn x))) fun D σ H h' => ?_
          exact lc2_imp L.sub (asg_imp h.2 h')⟩) else none
    | _, _ => none
  | e, pos => match hi : ixOf x v.N, (r v e).1 with
    | some i, some ⟨f, hf⟩ => if h : isLoc v.sc x = true ∧ i ∈ A ∧ unComp e = true then some ⟨fAsg i f, fun X W c => ss_asg c.c.nd (by rw [c.c.N]; exact ixOf_get hi) (c.c.loc h.1) (hf X W c.c) (swaps_no h.2.2) (.inl (by rw [c.c.fn]; exact c.fn x)) h.2.1⟩ else none
    | _, _ => none
/-- a, b = c, d -/
def cPar (r : Rec T) (v : Vw) (A : List Nat) (ts vs : List Expr) (k1 k2 : Nat) (p1 p2 pos : Pos) : Option (CSt T v A (.Assign [.Tuple ts k1 p1] (.Tuple vs k2 p2) pos)) :=
  match hw : swT v.sc ts vs with
  | some none => match cSh r v (.Tuple vs k2 p2), cTg (T := T) v A 6 (.Tuple ts k1 p1) with
    | some ⟨f, hf⟩, some ⟨g, hg⟩ => some ⟨fAsgT f g, fun X W c => ss_asgT (hf X W c.c) (hg X W c.c) rfl (swT_ok (by rw [c.c.sc]; exact hw)) rfl⟩
    | _, _ => none
  | some (some _) => (match ts, vs with
    | [.Name x px, .Name y py], [a, b] => match hi : ixOf x v.N, hj : ixOf y v.N, (r v a).1, (r v b).1 with
      | some i, some j, some ⟨f, hf⟩, some ⟨g, hg⟩ => if h : swT v.sc [.Name x px, .Name y py] [a, b] = some (some [x, y]) ∧ i ≠ j ∧ i ∈ A ∧ j ∈ A ∧ (v.sc.names.lookup x == some .local) = true ∧ (v.sc.names.lookup y == some .local) = true ∧ unstar a = true ∧ unstar b = true then
          some ⟨fParV i j f g, fun X W c => by
            obtain ⟨h1, h2, h3, h4, h5, h6, h7, h8⟩ := h
            exact ss_parV c.c.calm c.c.nd (by rw [c.c.N]; exact ixOf_get hi) (by rw [c.c.N]; exact ixOf_get hj) h2 (by rw [c.c.sc]; exact beq_iff_eq.mp h5) (by rw [c.c.sc]; exact beq_iff_eq.mp h6) (hf X W c.c) (hg X W c.c) (star_cons h7) (star_cons h8) (swT_ok (by rw [c.c.sc]; exact h1)) h3 h4⟩ else none
      | _, _, _, _ => none
    | [.Name x px, .Name y py, .Name z pz], [a, b, d] => match hi : ixOf x v.N, hj : ixOf y v.N, hk : ixOf z v.N, (r v a).1, (r v b).1, (r v d).1 with
      | some i, some j, some l, some ⟨f, hf⟩, some ⟨g, hg⟩, some ⟨q, hq⟩ => if h : swT v.sc [.Name x px, .Name y py, .Name z pz] [a, b, d] = some (some [x, y, z]) ∧ (i ≠ j ∧ i ≠ l ∧ j ≠ l) ∧ (i ∈ A ∧ j ∈ A ∧ l ∈ A) ∧ (v.sc.names.lookup x == some .local) = true ∧ (v.sc.names.lookup y == some .local) = true ∧ (v.sc.names.lookup z == some .local) = true ∧ unstar a = true ∧ unstar b = true ∧ unstar d = true then
          some ⟨fParV3 i j l f g q, fun X W c => by
            obtain ⟨h1, ⟨h2, h2', h2''⟩, ⟨h3, h4, h4'⟩, h5, h6, h6', h7, h8, h9⟩ := h
            exact ss_parV3 c.c.calm c.c.nd (by rw [c.c.N]; exact ixOf_get hi) (by rw [c.c.N]; exact ixOf_get hj) (by rw [c.c.N]; exact ixOf_get hk) h2 h2' h2'' (by rw [c.c.sc]; exact beq_iff_eq.mp h5) (by rw [c.c.sc]; exact beq_iff_eq.mp h6) (by rw [c.c.sc]; exact beq_iff_eq.mp h6')
              (hf X W c.c) (hg X W c.c) (hq X W c.c) (star_cons h7) (star_cons h8) (star_cons h9) (swT_ok (by rw [c.c.sc]; exact h1)) h3 h4 h4'⟩ else none
      | _, _, _, _, _, _ => none
    | _, _ => none)
  | none => none
def cAsg (r : Rec T) (v : Vw) (A : List Nat) : (tg e : Expr) → (pos : Pos) → Option (CSt T v A (.Assign [tg] e pos))
  | .Name x p, e, pos => cAsgN r v A x p e pos
  | .Tuple ts k1 p1, .Tuple vs k2 p2, pos => cPar r v A ts vs k1 k2 p1 p2 pos
  | .Tuple ts k1 p1, e, pos => match cSh r v e, cTg (T := T) v A 6 (.Tuple ts k1 p1) with
    | some ⟨f, hf⟩, some ⟨g, hg⟩ => if h : unTuple e = true then some ⟨fAsgT f g, fun X W c => ss_asgT (hf X W c.c) (hg X W c.c) (by
        show swapsWith e (some (.Tuple ts k1 p1)) pos.line X.env = pure false
        cases e <;> first | rfl | (simp [swapsWith])) (swap_stores h) rfl⟩ else none
    | _, _ => none
  | .Subscript (.Name x p1) i p2, e, pos => match slotOf v x, cSh r v i, cSh r v e with
    | some ⟨n, h1, h2, h3, h4⟩, some ⟨fk, hk⟩, some ⟨fv, hv⟩ => if h : plainIx i = true then some ⟨fSet n fk fv, fun X W c => ss_set (by have := c.c.un; omega) (by rw [c.c.N]; exact h1) (c.c.vis h2) h3 h4 (hv X W c.c) (hk X W c.c) (by
        show swapsWith e (some (.Subscript (.Name x p1) i p2)) pos.line X.env = pure false
        cases e <;> first | rfl | (simp [swapsWith])) (swN_ok rfl) (asg_sub h)⟩ else none
    | _, _, _ => none
  | _, _, _ => none
/-- a clause's suite -/
def cSu (v : Vw) (A : List Nat) (n : Str) : (st : List Stmt) → Option {su : Su // (∀ j ∈ su.to, j ∈ A) ∧ ∀ X W, CxS T v X W → ∀ i, X.N[i]? = some n → Vis X.env.scope n → (n == ("__debug__" : Str)) = false → (n == ("__classdict__" : Str)) = false → Fr X ("isinstance" : Str) → Fr X ("ValueError" : Str) →
      (∃ b0 b1, st = b0 :: b1) ∧ ∀ (x : Addr) (ox : Obj) (cls : Value) (d : Option Addr) (pn : List (Addr × Obj)), Zc cls d ox → (∃ vs, ox.data = .fields vs) → PSs (X.suite x ((x, ox) :: pn)) st (suT X.K i su x cls d)}
  | [.Return (some (.IfExp (.Call (.Name y1 p1) [.Name y2 p2, .Name y3 p3] [] p4) (.Constant (.str a) j1 q1) (.Constant (.str b) j2 q2) q3)) q4] => if h : y1 = "isinstance" ∧ y2 = n ∧ y3 = "ValueError" then some ⟨.ret a b, by simp [Su.to], fun X W c i hN hv hd hcd fi fv => by
      obtain ⟨rfl, rfl, rfl⟩ := h
      exact ⟨⟨_, _, rfl⟩, su_ret hN hv hd hcd fi fv⟩⟩ else none
  | [.Assign [.Name z q1] (.Call (.Name y1 p1) [.Name y2 p2, .Name y3 p3] [] p4) q2] => match hj : ixOf z v.N with
    | some j => if h : (y1 = "isinstance" ∧ y2 = n ∧ y3 = "ValueError") ∧ isLoc v.sc z = true ∧ j ∈ A then some ⟨.one j, by simp [Su.to, h.2.2], fun X W c i hN hv hd hcd fi fv => by
        obtain ⟨⟨rfl, rfl, rfl⟩, h2, h3⟩ := h
        exact ⟨⟨_, _, rfl⟩, su_one hN hv hd hcd fi fv c.c.nd (by rw [c.c.N]; exact ixOf_get hj) (c.c.loc h2) (.inl (by rw [c.c.fn]; exact c.fn z))⟩⟩ else none
    | none => none
  | [.Assign [.Name z q1] (.List [.Constant (.str w) j1 q4, .Call (.Name y1 p1) [.Name y2 p2, .Name y3 p3] [] p4] q3) q2] => match hj : ixOf z v.N with
    | some j => if h : (y1 = "isinstance" ∧ y2 = n ∧ y3 = "ValueError") ∧ isLoc v.sc z = true ∧ j ∈ A then some ⟨.two j w, by simp [Su.to, h.2.2], fun X W c i hN hv hd hcd fi fv => by
        obtain ⟨⟨rfl, rfl, rfl⟩, h2, h3⟩ := h
        exact ⟨⟨_, _, rfl⟩, su_two hN hv hd hcd fi fv c.c.nd (by rw [c.c.N]; exact ixOf_get hj) (c.c.loc h2) (.inl (by rw [c.c.fn]; exact c.fn z))⟩⟩ else none
    | none => none
  | _ => none
def cHands (v : Vw) (A : List Nat) : (hds : List ExceptHandler) → Option {hs : List (Str × Nat × Su) // ∀ X W, CxS T v X W → ∃ l, HandsOk X hds l ∧ HRel X T.ex A l hs}
  | [] => some ⟨[], fun X W c => ⟨[], .nil, .nil⟩⟩
  | .ExceptHandler (some (.Name y p1)) (some n) st p2 :: hds => match slotOf v n, cSu (T := T) v A n st, cHands v A hds with
    | some ⟨i, h1, h2, h3, h4⟩, some ⟨su, t1, t2⟩, some ⟨hs, hh⟩ => if h : (isGl v.sc y = true ∧ y ∈ T.ex ∧ (y == ("__debug__" : Str)) = false) ∧ i ∈ A ∧ (v.sc.names.lookup n == some .local) = true ∧ (isGl v.sc "isinstance" && T.bl.contains ("isinstance" : Str)) = true ∧ (isGl v.sc "ValueError" && T.bl.contains ("ValueError" : Str)) = true then
        some ⟨(y, i, su) :: hs, fun X W c => by
          obtain ⟨⟨g1, g2, g3⟩, g4, g5, g6, g7⟩ := h
          have hN : X.N[i]? = some n := by rw [c.c.N]; exact h1
          obtain ⟨⟨b0, b1, e0⟩, t3⟩ := t2 X W c i hN (c.c.vis h2) h3 h4 (c.c.fr g6) (c.c.fr g7)
          obtain ⟨l, k1, k2⟩ := hh X W c
          obtain ⟨C, hC, F⟩ := c.c.xf y g2
          subst e0
          exact ⟨_, .cons hN (by show X.env.scope.names.lookup n = _; rw [c.c.sc]; exact beq_iff_eq.mp g5) ⟨c.c.gl g1, g3, .inl hC⟩ t3 k1, .cons hC g2 g4 t1 k2⟩⟩ else none
    | _, _, _ => none
  | _ => none
def RecS (T : Tbl) (A : List Nat) := (v : Vw) → (st : List Stmt) → Option (CSs T v A st)
def stepS (r : Rec T) (A : List Nat) (rs : RecS T A) (v : Vw) : (st : Stmt) → Option (CSt T v A st)
  | .Pass pos => some ⟨fNil, fun X W c => ss_pass⟩
  | .Break pos => some ⟨fBrk, fun X W c => ss_break⟩
  | .Continue pos => some ⟨fCnt, fun X W c => ss_continue⟩
  | .Expr (.Constant (.str x) j p) pos => some ⟨fNil, fun X W c => ss_doc⟩
  | .Expr e pos => match cSh r v e with
    | some ⟨f, h⟩ => if hc : unComp e = true then some ⟨fDrop f, fun X W c => ss_expr (h X W c.c) (swaps_no hc)⟩ else none
    | none => none
  | .AugAssign (.Subscript (.Name x p1) i p2) op e pos => match augOf op, slotOf v x, cSh r v i, cSh r v e with
    | some ⟨o, ho⟩, some ⟨n, h1, h2, h3, h4⟩, some ⟨fk, hk⟩, some ⟨fv, hv⟩ => if h : plainIx i = true then some ⟨fAugS o n fk fv, fun X W c => by
        subst ho
        exact ss_augS (by have := c.c.un; omega) (by rw [c.c.N]; exact h1) (c.c.vis h2) h3 h4 (hv X W c.c) (hk X W c.c) (aug_store h)⟩ else none
    | _, _, _, _ => none
  | .Return none pos => some ⟨fRetN, fun X W c => ss_retN⟩
  | .Return (some e) pos => match (r v e).1 with
    | some ⟨f, h⟩ => some ⟨fRet f, fun X W c => ss_ret (h X W c.c)⟩
    | none => none
  | .If t a b pos => match (r v t).2, rs v a, rs v b with
    | some ⟨t, ht⟩, some ⟨f, hf⟩, some ⟨g, hg⟩ => some ⟨fIf t f g, fun X W c => ss_if (ht X W c.c) (hf X W c) (hg X W c)⟩
    | _, _, _ => none
  | .Try body (h0 :: hds) [] [] pos => match rs v body, cHands (T := T) v A (h0 :: hds) with
    | some ⟨f, hf⟩, some ⟨hs, hh⟩ => some ⟨fTry T.ex f hs, fun X W c => by
        obtain ⟨l, k1, k2⟩ := hh X W c
        exact PS.imp (ps_hands (tb := fun V => tS X.K X.mg V A f) c.c.nd c.stk c.frm c.c.tk (fun V pn xe tk pas => hf (X.tr pn xe) V (c.tr pn xe tk pas)) k1) fun D σ H h => try_imp k2 c.c.xf c.c.xm h⟩
    | _, _ => none
  | .While t a [] pos => match (r v t).2, rs v a with
    | some ⟨t, ht⟩, some ⟨f, hf⟩ => some ⟨whileS t f bigN, fun X W c => ss_while bigN c.pas (ht X W c.c) (hf X W c)⟩
    | _, _ => none
  | .For tg it a [] pos => match cIt r v tg it, cTg (T := T) v A 6 tg, rs v a with
    | some ⟨fi, hi⟩, some ⟨g, hg⟩, some ⟨f, hf⟩ => if hs : unSet it = true then some ⟨fFor fi g f, fun X W c => ss_for c.pas c.c.calm (hi X W c.c) (hg X W c.c) (hf X W c) (fold_no (by cases it <;> first | rfl | cases hs))⟩ else none
    | _, _, _ => none
  | .Assign [tg] e pos => cAsg r v A tg e pos
  | .Raise (some (.Call (.Name x p) [] [] p2)) none pos => if h : isGl v.sc x = true ∧ x ∈ T.ex ∧ (x == ("__debug__" : Str)) = false then some ⟨fRaise x, fun X W c => ss_raise c.c.calm c.c.tk ⟨c.c.gl h.1, c.c.ex x h.2.1⟩ h.2.2⟩ else none
  | _ => none
def seqS (v : Vw) (A : List Nat) (r1 : (st : Stmt) → Option (CSt T v A st)) : (st : List Stmt) → Option (CSs T v A st)
  | [] => some ⟨fNil, fun X W c => ss_nil⟩
  | s :: ss => match r1 s, seqS v A r1 ss with
    | some ⟨f, hf⟩, some ⟨g, hg⟩ => some ⟨fSeq2 f g, fun X W c => ss_cons (hf X W c) (hg X W c)⟩
    | _, _ => none
def cSS (T : Tbl) (A : List Nat) : Nat → RecS T A
  | 0 => fun _ _ => none
  | n + 1 => fun v st => seqS v A (stepS (cVT T 12) A (cSS T A n) v) st
end
end E2
end

section
set_option Elab.async false
set_option linter.all false
set_option maxRecDepth 100000
set_option maxHeartbeats 4000000
/-! E40: all defs of a row at once, by levels. -/
namespace E2
open PySem PySem.Spec PyProof.Rows L2
/-- a def -/
structure DD where
  x : Str
  ps : List Str
  N : List Str
  A : List Nat
  cst : List Bool
  params : Arguments
  body : List Stmt
  scope : Scope
  kw : List (List Str × List Nat)
structure DDok (d : DD) : Prop where
  sc : FnScope d.N d.ps d.scope
  len : d.cst.length = d.ps.length
  a : ∀ i : Nat, d.cst[i]? = some true → i ∉ d.A
  bind : ∀ (kV doc pm : Value) (an : Option Addr) (cdv ct : Value) (us : List Value), us.length = d.ps.length → bindArgs (PySem.W.fnOf d.x d.x d.params d.body d.scope .none kV doc pm an cdv ct) ⟨us, []⟩ = pure (d.ps.zip us)
  bindk : ∀ q ∈ d.kw, ∀ (kV doc pm : Value) (an : Option Addr) (cdv ct : Value) (ws : List Value), ws.length = q.1.length → bindArgs (PySem.W.fnOf d.x d.x d.params d.body d.scope .none kV doc pm an cdv ct) ⟨[], q.1.zip ws⟩ = pure (d.ps.zip (sel q.2 ws))
/-- a row -/
structure RowD where
  ds : List DD
  bl : List Str
  cs : List (Str × Int)
  ex : List Str
def sfOf (T : Tbl) (d : DD) : SF := match cSS T d.A 12 ⟨d.N, d.scope, fun _ => true⟩ d.body with
  | some z => z.1
  | none => fun _ => .bad
def semF (T : Tbl) (d : DD) : FS := fnS d.ps.length (d.N.length - d.ps.length) d.cst (sfOf T d)
def badF (d : DD) : FS := fnS d.ps.length (d.N.length - d.ps.length) d.cst fun _ => .bad
def RowD.tbl (R : RowD) : Nat → Tbl
  | 0 => ⟨R.ds.map fun d => (d.x, badF d), R.bl, R.cs.map fun p => (p.1, .int p.2), R.ex, R.ds.flatMap fun d => d.kw.map fun q => (d.x, badF d, q.1, q.2)⟩
  | n + 1 => ⟨R.ds.map fun d => (d.x, semF (R.tbl n) d), R.bl, R.cs.map fun p => (p.1, .int p.2), R.ex, R.ds.flatMap fun d => d.kw.map fun q => (d.x, semF (R.tbl n) d, q.1, q.2)⟩
def RowD.at_ (R : RowD) : Nat → DD → FS
  | 0, d => badF d
  | n + 1, d => semF (R.tbl n) d
theorem RowD.fns (R : RowD) : ∀ n, (R.tbl n).fns = R.ds.map fun d => (d.x, R.at_ n d)
  | 0 => rfl
  | _ + 1 => rfl
theorem RowD.bls (R : RowD) : ∀ n, (R.tbl n).bl = R.bl
  | 0 => rfl
  | _ + 1 => rfl
theorem RowD.css (R : RowD) : ∀ n, (R.tbl n).cs = R.cs.map fun p => (p.1, .int p.2)
  | 0 => rfl
  | _ + 1 => rfl
theorem RowD.exs (R : RowD) : ∀ n, (R.tbl n).ex = R.ex
  | 0 => rfl
  | _ + 1 => rfl
theorem RowD.kws (R : RowD) : ∀ n, (R.tbl n).kw = R.ds.flatMap fun d => d.kw.map fun q => (d.x, R.at_ n d, q.1, q.2)
  | 0 => rfl
  | _ + 1 => rfl
/-! ### the head's facts -/
def RowD.fa (R : RowD) : List He.Fa := R.ds.map (fun d => .glo d.x) ++ (R.bl.map .free ++ (R.cs.map (fun p => .int p.1 p.2) ++ (R.ex.map .glo ++ (R.ex.map .exc ++ R.ex.flatMap fun x => R.ex.map fun y => .exm x y (x == y)))))
def RowD.fn (R : RowD) : List He.DefD := R.ds.map fun d => ⟨(d.x, none), d.x, d.x, d.params, d.body, d.scope, [], []⟩
section
variable {P : Program} {w : World} {K : PySem.W.Frag} {mg : Str → Option Value} {base h : Heap} {R : RowD}
/-- what isinstance of a caught exception asks of its class -/
def excB (K : PySem.W.Frag) (x : Str) : Bool :=
  He.eqO (PySem.W.findIn K (.ref (He.ga K x)) "__getattribute__") (some (some (.builtin "BaseException.__getattribute__"))) && (He.eqO (PySem.W.findIn K (.ref (He.ga K x)) "__getattr__") (some none) && (decide (PySem.W.subIn K (.ref (He.ga K x)) (.type "BaseException") = some true) &&
    (PySem.W.hasDictIn K (He.ga K x) && (He.eqO (PySem.W.findIn K (.ref (He.ga K x)) "__class__") (some (some (.builtin "object.__class__"))) && (He.eqO (PySem.W.specialIn K (.builtin "object.__class__") "__get__") (some (some (.builtin "getset_descriptor.__get__"))) &&
      (decide (PySem.W.takesIn K (.builtin "object.__class__") = some true) && (decide (PySem.W.mroIn K (He.ga K x) (.type "object") = some true) && decide (PySem.W.kitOne K (.ref (He.ga K x)) (.type "ValueError") = some true))))))))
theorem excB_ok {x : Str} (h : excB K x = true) : ExF K (He.ga K x) := by
  unfold excB at h
  obtain ⟨h1, h⟩ := Bool.and_eq_true_iff.mp h
  obtain ⟨h2, h⟩ := Bool.and_eq_true_iff.mp h
  obtain ⟨h3, h⟩ := Bool.and_eq_true_iff.mp h
  obtain ⟨h4, h⟩ := Bool.and_eq_true_iff.mp h
  obtain ⟨h5, h⟩ := Bool.and_eq_true_iff.mp h
  obtain ⟨h6, h⟩ := Bool.and_eq_true_iff.mp h
  obtain ⟨h7, h⟩ := Bool.and_eq_true_iff.mp h
  obtain ⟨h8, h9⟩ := Bool.and_eq_true_iff.mp h
  exact ⟨⟨He.eqO_ok h1, He.eqO_ok h2, of_decide_eq_true h3, h4, He.eqO_ok h5, He.eqO_ok h6, of_decide_eq_true h7, of_decide_eq_true h8⟩, of_decide_eq_true h9⟩
/-- what the head says of a row -/
structure HeadOk (R : RowD) (K : PySem.W.Frag) (mg : Str → Option Value) : Prop where
  defs : ∀ d ∈ R.ds, ∃ (f : Addr) (fd : FuncData), mg d.x = some (.ref f) ∧ FunD K d.x d.x d.params d.body d.scope [] [] f fd
  bl : ∀ x ∈ R.bl, mg x = none
  cs : ∀ p ∈ R.cs, ∃ t, mg p.1 = some (.int p.2 t)
  ex : ∀ x ∈ R.ex, ∃ C : Addr, mg x = some (.ref C) ∧ PySem.W.excIn K C He.veBase "ValueError.__new__" = true ∧ PySem.W.keepIn K (.ref C) = true ∧ PySem.W.subIn K (.ref C) (.type "BaseException") = some true ∧ PySem.W.typeIn K (.ref C) = some (.type "type")
  xf : ∀ y ∈ R.ex, ∃ C, mg y = some (.ref C) ∧ ExF K C
  xm : ∀ y ∈ R.ex, ∀ z ∈ R.ex, ∀ C D, mg y = some (.ref C) → mg z = some (.ref D) → PySem.W.exmOne K (.ref C) (.ref D) = some (y == z)
theorem exGlo (X : K.In h) (G : h.Ns mainGlobals mg) (c : He.SaysD R.fa R.fn K) {x : Str} (hx : x ∈ R.ex) : mg x = some (.ref (He.ga K x)) :=
  He.glo_ok X G (c.facts (f := .glo x) (List.mem_append.mpr (.inr (List.mem_append.mpr (.inr (List.mem_append.mpr (.inr (List.mem_append.mpr (.inl (List.mem_map.mpr ⟨x, hx, rfl⟩))))))))))
theorem headOk (X : K.In h) (G : h.Ns mainGlobals mg) (c : He.SaysD R.fa R.fn K) (xb : ∀ x ∈ R.ex, excB K x = true) : HeadOk R K mg where
  defs := fun d hd => by
    obtain ⟨fd, F⟩ := c.defs (d := ⟨(d.x, none), d.x, d.x, d.params, d.body, d.scope, [], []⟩) (List.mem_map.mpr ⟨d, hd, rfl⟩)
    exact ⟨_, fd, He.glo_ok X G (c.facts (f := .glo d.x) (List.mem_append.mpr (.inl (List.mem_map.mpr ⟨d, hd, rfl⟩)))), F⟩
  bl := fun x hx => He.free_ok X G (c.facts (f := .free x) (List.mem_append.mpr (.inr (List.mem_append.mpr (.inl (List.mem_map.mpr ⟨x, hx, rfl⟩))))))
  cs := fun p hp => He.int_ok X G (c.facts (f := .int p.1 p.2) (List.mem_append.mpr (.inr (List.mem_append.mpr (.inr (List.mem_append.mpr (.inl (List.mem_map.mpr ⟨p, hp, rfl⟩))))))))
  ex := fun x hx => by
    have g := He.glo_ok X G (c.facts (f := .glo x) (List.mem_append.mpr (.inr (List.mem_append.mpr (.inr (List.mem_append.mpr (.inr (List.mem_append.mpr (.inl (List.mem_map.mpr ⟨x, hx, rfl⟩))))))))))
    obtain ⟨e1, e2, e3, e4⟩ := He.exc_ok (c.facts (f := .exc x) (List.mem_append.mpr (.inr (List.mem_append.mpr (.inr (List.mem_append.mpr (.inr (List.mem_append.mpr (.inr (List.mem_append.mpr (.inl (List.mem_map.mpr ⟨x, hx, rfl⟩))))))))))))
    exact ⟨_, g, e1, e2, e3, e4⟩
  xf := fun x hx => ⟨_, exGlo X G c hx, excB_ok (xb x hx)⟩
  xm := fun y hy z hz C D e1 e2 => by
    rw [exGlo X G c hy] at e1
    rw [exGlo X G c hz] at e2
    cases e1
    cases e2
    exact He.exm_ok (c.facts (f := .exm y z (y == z)) (List.mem_append.mpr (.inr (List.mem_append.mpr (.inr (List.mem_append.mpr (.inr (List.mem_append.mpr (.inr (List.mem_append.mpr (.inr (List.mem_flatMap.mpr ⟨y, hy, List.mem_map.mpr ⟨z, hz, rfl⟩⟩))))))))))))
theorem bindsK {x qual : Str} {params : Arguments} {body : List Stmt} {scope : Scope} {kws : List (Str × V)} {f : Addr} {fd : FuncData} {ps ks : List Str} {is : List Nat} (F : FunD K x qual params body scope [] kws f fd)
    (h : ∀ (kV doc pm : Value) (an : Option Addr) (cdv ct : Value) (ws : List Value), ws.length = ks.length → bindArgs (PySem.W.fnOf x qual params body scope .none kV doc pm an cdv ct) ⟨[], ks.zip ws⟩ = pure (ps.zip (sel is ws))) : BindK K fd ps ks is := by
  obtain ⟨oc, od, dV, kV, doc, pm, an, cdv, ct, osl, rfl, lk, hcd, hD, hK⟩ := F.ex
  rcases hD with ⟨_, rfl⟩ | ⟨e, _⟩
  · exact fun s ws _ hl => .of_eq (h kV doc pm an cdv ct ws hl)
  · exact absurd rfl e
theorem ps_bad {X : Cx} {W : WX} {A : List Nat} {body : List Stmt} : PSs X body (tS X.K X.mg W A fun _ => .bad) := ⟨fun _ _ _ _ _ _ ⟨_, _, _, q⟩ => q.elim⟩
/-- ALL DEFS -/
theorem sem_ok (oks : ∀ d ∈ R.ds, DDok d) (hd : HeadOk R K mg) : ∀ (n : Nat) (d : DD), d ∈ R.ds → ∀ (f : Addr) (fd : FuncData), FunD K d.x d.x d.params d.body d.scope [] [] f fd → FnOk P w K mg base (L2.CX P w) (n + 1) f fd d.ps (spOf K mg (R.at_ n d)) := by
  intro n
  induction n with
  | zero => exact fun d hm f fd F => def_ok F (oks d hm).sc (oks d hm).len (oks d hm).a fun cdv Ar outer s H E hr => ps_bad
  | succ n ih =>
    intro d hm f fd F
    refine def_ok F (oks d hm).sc (oks d hm).len (oks d hm).a fun cdv Ar outer s H E hr => ?_
    show PSs _ d.body (tS K mg (WE0 E) d.A (sfOf (R.tbl n) d))
    unfold sfOf
    split
    · rename_i z hz
      refine z.2 (cxOf (L2.CX P w) P w K mg base d.N d.x d.scope f cdv Ar outer s H E) (WE0 E) ⟨⟨rfl, rfl, rfl, rfl, by have := hr.un; show (Ar.deeper _).units + 70 < cLine; omega, takes_of rfl rfl rfl rfl, (oks d hm).sc.nd, fun p hp => ?_, fun x hx => ?_, fun p hp => ?_, fun x hx => ?_, fun q hq => ?_, fun x hx => ?_, fun y hy z hz => ?_⟩, passes_of rfl, fun _ => rfl, rfl, rfl⟩
      · rw [R.fns] at hp
        obtain ⟨d', hd', rfl⟩ := List.mem_map.mp hp
        obtain ⟨f', fd', g, F'⟩ := hd.defs d' hd'
        exact ⟨n + 1, f', fd', d'.ps, ih d' hd' f' fd' F', hr, g, F'.kp, F'.bindsN (oks d' hd').bind⟩
      · rw [R.bls] at hx
        exact hd.bl x hx
      · rw [R.css] at hp
        obtain ⟨p', hp', rfl⟩ := List.mem_map.mp hp
        obtain ⟨t, g⟩ := hd.cs p' hp'
        exact ⟨.int p'.2, _, g, ⟨t, rfl⟩, fun G => .int _⟩
      · rw [R.exs] at hx
        obtain ⟨C, g, e1, e2, e3, e4⟩ := hd.ex x hx
        exact ⟨C, _, _, _, _, g, PySem.F.excBase_ValueError, e1, e2, raises_own e3 e4⟩
      · rw [R.kws] at hq
        obtain ⟨d', hd', hq⟩ := List.mem_flatMap.mp hq
        obtain ⟨q', hq', rfl⟩ := List.mem_map.mp hq
        obtain ⟨f', fd', g, F'⟩ := hd.defs d' hd'
        exact ⟨n + 1, f', fd', d'.ps, ih d' hd' f' fd' F', hr, g, F'.kp, bindsK F' ((oks d' hd').bindk q' hq')⟩
      · rw [R.exs] at hx
        exact hd.xf x hx
      · rw [R.exs] at hy hz
        exact hd.xm y hy z hz
    · exact ps_bad
end
end E2
end

section
set_option Elab.async false
set_option linter.all false
set_option maxRecDepth 100000
set_option maxHeartbeats 4000000
/-! E41: the head's hook without lists; a law's end. -/
namespace E2
open PySem PySem.Spec PyProof.Rows L2
def isLst (o : Obj) : Bool := match o.cls with
  | .type c => c == "list"
  | _ => false
def noL (g : Addr → Option Obj) (a : Addr) : Option Obj := match g a with
  | some o => if isLst o = true then none else some o
  | none => none
theorem noL_some {g : Addr → Option Obj} {a : Addr} {o : Obj} (h : noL g a = some o) : g a = some o ∧ isLst o = false := by
  unfold noL at h
  split at h
  · split at h
    · cases h
    · rename_i q
      cases h
      exact ⟨‹_›, by simpa using q⟩
  · cases h
def obsL (n : Nat) (fa : List He.Fa) (fn : List He.DefD) (g : Addr → Option Obj) : He.AlD := He.obsD fa fn (He.frG (noL g) (He.asD g n))
abbrev AlL : Type := He.AlD × Bool
def obsE (n : Nat) (fa : List He.Fa) (fn : List He.DefD) (ex : List Str) (g : Addr → Option Obj) : AlL := (obsL n fa fn g, ex.all (excB (He.frG (noL g) (He.asD g n))))
def hookL (n : Nat) (fa : List He.Fa) (fn : List He.DefD) (ex : List Str) : PySem.W.Hook where
  α := AlL
  obs s := obsE n fa fn ex s.heap.get?
  val _ := (He.valD fn, true)
  says _ h := ∃ K : PySem.W.Frag, K.In h ∧ He.SaysD fa fn K ∧ (∀ x ∈ ex, excB K x = true) ∧ ∀ a o, K.lookup a = some o → isLst o = false
  of _ s e := ⟨He.frG (noL s.heap.get?) (He.asD s.heap.get? n), fun _ _ z => (noL_some (He.frG_at _ z)).1, congrArg (fun z : AlL => z.1) e, fun x hx => List.all_eq_true.mp (congrArg (fun z : AlL => z.2) e) x hx, fun _ _ z => (noL_some (He.frG_at _ z)).2⟩
  keeps _ _ _ := fun ⟨K, h1, h2, h3⟩ k => ⟨K, PySem.W.Frag.In.keeps h1 k, h2, h3⟩
theorem obsL_eq {n : Nat} {fa : List He.Fa} {fn : List He.DefD} {ex : List Str} {g : Addr → Option Obj} {s : Shared} (h : ∀ a, g a = s.heap.get? a) : obsE n fa fn ex g = (hookL n fa fn ex).obs s := by
  rw [show g = s.heap.get? from funext h]
  rfl
theorem law_end {R : RowD} {n : Nat} {d : DD} (hd : d ∈ R.ds) (hx : d.x = ("law" : Str)) (hps : d.ps = [("script" : Str)]) (oks : ∀ d ∈ R.ds, DDok d) (plain : ∀ ns : List Int, ns.length ≤ 63 → ∃ ρ, (R.at_ n d).run [.sh (.lst (ns.map .int))] = .ok (.sh (.bl true), ρ))
    {P : Program} {w : World} {h : Heap} {mg : Str → Option Value} {fa : Addr} (Y : (hookL 4 R.fa R.fn R.ex).says w h) (G : h.Ns mainGlobals mg) (hmg : mg ("law" : Str) = some (.ref fa)) : ∃ (K : PySem.W.Frag) (fd : FuncData) (sp : Sp), K.In h ∧ (∀ (s : Shared) (u : Value), BindsTo s fd ⟨[u], []⟩ [(("script" : Str), u)]) ∧
      (∀ (H : Hp) (a : Addr) (ns : List Int), ns.length ≤ 63 → Only H → SqL K H a (ns.map V.int) → sp [.ref a] H (fun v _ => v = .bl true) fun _ _ _ => False) ∧
      ∀ base : Heap, K.In base → base.Ns mainGlobals mg → FnOk P w K mg base (L2.CX P w) (n + 1) fa fd [("script" : Str)] sp := by
  obtain ⟨K, KX, c, xb, nl⟩ := Y
  have hh := headOk (R := R) KX G c xb
  obtain ⟨f, fd, g, F⟩ := hh.defs d hd
  rw [hx, hmg] at g
  cases g
  refine ⟨K, fd, spOf K mg (R.at_ n d), KX, fun s u => ?_, fun H a ns hl _ hS => ?_, fun base _ _ => ?_⟩
  · have := FunD.bindsA (ps := d.ps) F (oks d hd).bind s [u] (by rw [hps]; rfl)
    rw [hps] at this
    exact this
  · have hR : Rd H a (.lst (ns.map V.int)) := by
      rcases hS with z | ⟨o, its, m, e, hc, _⟩
      · exact z
      · have := nl a o e
        unfold isLst at this
        rw [hc] at this
        cases this
    have hn : (R.at_ n d).n = 1 := by
      have : d.ps.length = 1 := by rw [hps]; rfl
      cases n <;> exact this
    obtain ⟨ρ, hr⟩ := plain ns hl
    refine ⟨by rw [hn]; rfl, H, [.sh (.lst (ns.map .int))], ⟨.refl H, rfl, fun i s hs => ?_, fun i j p ⟨⟨d1, e1⟩, _⟩ => ?_⟩, ?_⟩
    · cases i with
      | zero => cases hs; exact ⟨.ref a, rfl, .lst hR (rp_intsV K mg H ns)⟩
      | succ i => simp at hs
    · cases i with
      | zero => cases e1
      | succ i => simp at e1
    · rw [hr]
      intro G' H' e st o v hv
      cases (show Rp K mg G' v (.bl true) from hv)
      rfl
  · have := sem_ok (P := P) (w := w) (base := base) oks hh n d hd fa fd F
    rw [hps] at this
    exact this
theorem cx_none {P : Program} {w : World} (H : Hp) (s : Shared) (e : Value) (s' : Shared) : L2.CX P w [] H s (fun _ _ _ => False) e s' → False := fun ⟨_, _, _, _, _, _, _, _, _, _, _, _, z⟩ => z
end E2
namespace E2
theorem a_ok {cst : List Bool} {A : List Nat} (h : ((List.range cst.length).all fun i => !(cst[i]? == some true) || !A.contains i) = true) (i : Nat) (hi : cst[i]? = some true) : i ∉ A := by
  have hl : i < cst.length := (List.getElem?_eq_some_iff.mp hi).1
  have := List.all_eq_true.mp h i (List.mem_range.mpr hl)
  rw [hi] at this
  simpa using this
end E2
namespace E2
open PySem PySem.Spec PyProof.Rows L2
theorem law_walk {l : PySem.W.OpenLaw} {m k : Nat} {q : Program} {loose : List Str} {XP : (Str → Option Value) → Heap → Prop} {YP : World → Heap → Prop} {d : DefRec} {x : Str} (h1 : l.most = some m) (h2 : m ≤ sizeLine) (h3 : d.params.defaults = []) (h4 : Room k callerA)
    (all : ∀ (w : World) (mg : Str → Option Value) (fa : Addr) (h : Heap), YP w h → h.Ns mainGlobals mg → mg d.name = some (.ref fa) → ∃ (K : PySem.W.Frag) (fd : FuncData) (sp : Sp), K.In h ∧ (∀ (s : Shared) (u : Value), BindsTo s fd ⟨[u], []⟩ [(x, u)]) ∧
      (∀ (H : Hp) (a : Addr) (ns : List Int), ns.length ≤ m → Only H → SqL K H a (ns.map V.int) → sp [.ref a] H (fun v _ => v = .bl true) fun _ _ _ => False) ∧ ∀ base : Heap, K.In base → base.Ns mainGlobals mg → FnOk l.prog w K mg base (L2.CX l.prog w) k fa fd [x] sp) :
    PySem.W.WalkO q loose XP YP l.row.toRowW d [] (fun f vs => PySem.call f vs) := by
  refine Att.attach_call h1 h3 fun w s0 s1 mg mb fa ob pm cd doc a us ns gr y e1 e2 e3 e4 e5 e6 e7 e8 => ?_
  obtain ⟨K, fd, sp, k1, k2, k3, k4⟩ := all w mg fa s1.heap y gr.T.g e4
  refine law_call k1 gr.T.g gr.T.b gr.T.builtins gr.T.nolimit e8 e5 e6 (Nat.le_trans e7 h2) h4 k4 k2 (fun H o s => k3 H a ns e7 o s) fun H v s2 z => cx_none H s1 v s2 z
end E2
end
end

section
set_option Elab.async false
set_option linter.all false
set_option maxRecDepth 100000
set_option maxHeartbeats 0
namespace LW
open PySem PySem.Spec PyProof.Rows L2 E2
def top (i : Nat) : Stmt := PySem.Challenge.pw_eachjustonce_k03_main_stretches.main.body.getD i (.Pass ⟨0, 0, 0, 0⟩)
def mk (x : Str) (i : Nat) (ps N : List Str) (A : List Nat) (cst : List Bool) (kw : List (List Str × List Nat)) : DD := ⟨x, ps, N, A, cst, defArgs (top i), defBody (top i), defScope (top i), kw⟩
def d_is_number : DD := mk "is_number" 3 ["thing"] ["thing"] [0] [false] []
def d_is_within : DD := mk "is_within" 4 ["thing", "least", "most"] ["thing", "least", "most"] [0, 1, 2] [false, false, false] []
def d_sure_within : DD := mk "sure_within" 5 ["thing", "least", "most"] ["thing", "least", "most"] [0, 1, 2] [false, false, false] []
def d_is_long : DD := mk "is_long" 6 ["thing", "length"] ["thing", "length"] [0, 1] [false, false] []
def d_ascends : DD := mk "ascends" 7 ["row"] ["row", "one", "other"] [0, 1, 2] [false] []
def d_tupled : DD := mk "tupled" 8 ["value"] ["value", "own"] [0, 1] [false] []
def d_common_of : DD := mk "common_of" 9 ["one", "other"] ["one", "other"] [0, 1] [false, false] []
def d_least_of : DD := mk "least_of" 10 ["one", "other"] ["one", "other"] [0, 1] [false, false] []
def d_primes_of : DD := mk "primes_of" 11 ["number"] ["number", "found", "left", "own"] [0, 1, 2, 3] [false] []
def d_prime_row : DD := mk "prime_row" 12 ["number"] ["number", "prime", "found", "left"] [0, 1, 2, 3] [false] []
def d_is_group : DD := mk "is_group" 16 ["thing"] ["thing", "own"] [0, 1] [false] []
def d_size_of : DD := mk "size_of" 17 ["group"] ["group", "found", "own"] [0, 1, 2] [false] []
def d_sure_group : DD := mk "sure_group" 18 ["value"] ["value", "group"] [0, 1] [false] []
def d_is_member_in : DD := mk "is_member_in" 19 ["group", "thing"] ["group", "thing", "own", "by"] [0, 1, 2, 3] [false, false] []
def d_nought_of : DD := mk "nought_of" 20 ["group"] ["group"] [0] [false] []
def d_g_plus : DD := mk "g_plus" 21 ["group", "one", "other"] ["group", "one", "other", "a", "b", "by"] [0, 1, 2, 3, 4, 5] [false, false, false] []
def d_g_often : DD := mk "g_often" 22 ["group", "one", "many"] ["group", "one", "many", "a", "by"] [0, 1, 2, 3, 4] [false, false, false] []
def d_g_order : DD := mk "g_order" 23 ["group", "one"] ["group", "one", "found", "a", "by"] [0, 1, 2, 3, 4] [false, false] []
def d_is_lot_in : DD := mk "is_lot_in" 25 ["group", "thing"] ["group", "thing", "own"] [0, 1, 2] [false, false] []
def d_sure_lot : DD := mk "sure_lot" 26 ["group", "value"] ["group", "value", "lot"] [0, 1, 2] [false, false] []
def d_sum_of_lots : DD := mk "sum_of_lots" 27 ["group", "one", "other"] ["group", "one", "other", "found", "a", "b"] [0, 1, 2, 3, 4, 5] [false, false, false] []
def d_span_of : DD := mk "span_of" 28 ["group", "rows"] ["group", "rows", "found", "fresh", "later", "own", "step", "goal"] [0, 1, 2, 3, 4, 5, 6, 7] [false, false] []
def d_is_closed : DD := mk "is_closed" 29 ["group", "lot"] ["group", "lot"] [0, 1] [false, false] []
def d_lot_sum : DD := mk "lot_sum" 30 ["group", "one", "other"] ["group", "one", "other", "own", "first"] [0, 1, 2, 3, 4] [false, false, false] []
def d_is_subgroup : DD := mk "is_subgroup" 31 ["group", "lot"] ["group", "lot", "own"] [0, 1, 2] [false, false] [(["group", "lot"], [0, 1])]
def d_is_stretch_in : DD := mk "is_stretch_in" 34 ["group", "thing"] ["group", "thing"] [0, 1] [false, false] []
def d_sure_stretch : DD := mk "sure_stretch" 35 ["group", "value"] ["group", "value", "stretch"] [0, 1, 2] [false, false] []
def d_lot_of_stretch : DD := mk "lot_of_stretch" 36 ["group", "stretch"] ["group", "stretch", "many"] [0, 1, 2] [false, false] []
def d_is_round_stretch : DD := mk "is_round_stretch" 37 ["group", "stretch"] ["group", "stretch"] [0, 1] [false, false] []
def d_is_stretch : DD := mk "is_stretch" 38 ["group", "thing"] ["group", "thing"] [0, 1] [false, false] [(["group", "thing"], [0, 1])]
def d_stretch_lot : DD := mk "stretch_lot" 39 ["group", "stretch"] ["group", "stretch", "own"] [0, 1, 2] [false, false] [(["group", "stretch"], [0, 1])]
def d_does_come_round : DD := mk "does_come_round" 40 ["group", "stretch"] ["group", "stretch", "own"] [0, 1, 2] [false, false] [(["group", "stretch"], [0, 1])]
def d_stretch_parts : DD := mk "stretch_parts" 41 ["group", "stretch"] ["group", "stretch", "own", "found", "prime", "member", "many"] [0, 1, 2, 3, 4, 5, 6] [false, false] [(["group", "stretch"], [0, 1])]
def d_lot_stretches : DD := mk "lot_stretches" 42 ["group", "lot"] ["group", "lot", "own", "first", "goods", "one"] [0, 1, 2, 3, 4, 5] [false, false] [(["group", "lot"], [0, 1])]
def d_stretch_times : DD := mk "stretch_times" 43 ["group", "stretch", "many"] ["group", "stretch", "many", "own", "first"] [0, 1, 2, 3, 4] [false, false, false] [(["group", "stretch", "many"], [0, 1, 2])]
def d__law_box : DD := mk "_law_box" 45 ["script", "k"] ["script", "k", "bit_so"] [0, 1, 2] [false, false] []
def d__law_take : DD := mk "_law_take" 46 ["tin", "below_so"] ["tin", "below_so", "once_so", "wide_so", "twice_so", "drawn_so"] [1, 2, 3, 4, 5] [true, false] []
def d__law_cells : DD := mk "_law_cells" 47 ["script", "most_so"] ["script", "most_so", "cells_so", "k", "bit_so", "at_so"] [0, 1, 2, 3, 4, 5] [false, false] []
def d__law_of : DD := mk "_law_of" 48 ["tin", "goods_so"] ["tin", "goods_so"] [1] [true, false] []
def d__law_same : DD := mk "_law_same" 49 ["got", "due"] ["got", "due", "mine", "its"] [0, 1, 2, 3] [false, false] []
def d__law_groups : DD := mk "_law_groups" 50 [] [] [] [] []
def d__law_size : DD := mk "_law_size" 51 ["group_so"] ["group_so", "found", "by_so"] [0, 1, 2] [false] []
def d__law_group : DD := mk "_law_group" 52 ["tin", "most_so"] ["tin", "most_so", "own"] [1, 2] [true, false] []
def d__law_members : DD := mk "_law_members" 53 ["group_so"] ["group_so", "found", "by_so", "later_so", "own", "k"] [0, 1, 2, 3, 4, 5] [false] []
def d__law_plus : DD := mk "_law_plus" 54 ["group_so", "one", "two"] ["group_so", "one", "two", "a", "b", "by_so"] [0, 1, 2, 3, 4, 5] [false, false, false] []
def d__law_often : DD := mk "_law_often" 55 ["group_so", "one", "many_so"] ["group_so", "one", "many_so", "a", "by_so"] [0, 1, 2, 3, 4] [false, false, false] []
def d__law_nought : DD := mk "_law_nought" 56 ["group_so"] ["group_so"] [0] [false] []
def d__law_order : DD := mk "_law_order" 57 ["group_so", "one"] ["group_so", "one", "lap", "here", "many_so"] [0, 1, 2, 3, 4] [false, false] []
def d__law_member : DD := mk "_law_member" 58 ["tin", "group_so"] ["tin", "group_so", "by_so"] [1, 2] [true, false] []
def d__law_lot : DD := mk "_law_lot" 59 ["tin", "group_so", "most_so"] ["tin", "group_so", "most_so", "k"] [1, 2, 3] [true, false, false] []
def d__law_moved : DD := mk "_law_moved" 60 ["group_so", "lot_so", "one"] ["group_so", "lot_so", "one", "own"] [0, 1, 2, 3] [false, false, false] []
def d__law_keepers : DD := mk "_law_keepers" 61 ["group_so", "lot_so"] ["group_so", "lot_so", "own"] [0, 1, 2] [false, false] []
def d__law_steps_lot : DD := mk "_law_steps_lot" 62 ["group_so", "one", "many_so"] ["group_so", "one", "many_so", "k"] [0, 1, 2, 3] [false, false, false] []
def d__law_times : DD := mk "_law_times" 63 ["group_so", "stretch_so", "many_so"] ["group_so", "stretch_so", "many_so", "caught", "told_so", "slip_so"] [0, 1, 2, 3, 4, 5] [false, false, false] []
def d__law_right : DD := mk "_law_right" 64 ["tin"] ["tin", "group_so", "a", "order_so", "many_so", "fine", "got", "parts_so", "some_so", "due", "k", "later_so", "things_so", "own", "lot_so", "here", "whole_so", "ahead_so", "product_so", "member_so", "p", "one", "its"] [1, 2, 3, 4, 5, 6, 7, 8, 9, 10, 11, 12, 13, 14, 15, 16, 17, 18, 19, 20, 21, 22] [true] []
def d_law : DD := mk "law" 65 ["script"] ["script", "tin", "lap"] [0, 1, 2] [false] []
def dsL0 : List DD := [d_is_number, d_is_within, d_sure_within, d_is_long, d_ascends, d_tupled, d_common_of, d_least_of, d_primes_of, d_prime_row, d_is_group, d_size_of, d_sure_group, d_is_member_in, d_nought_of, d_g_plus, d_g_often, d_g_order, d_is_lot_in, d_sure_lot]
def dsL1 : List DD := [d_sum_of_lots, d_span_of, d_is_closed, d_lot_sum, d_is_subgroup, d_is_stretch_in, d_sure_stretch, d_lot_of_stretch, d_is_round_stretch, d_is_stretch, d_stretch_lot, d_does_come_round, d_stretch_parts, d_lot_stretches, d_stretch_times, d__law_box, d__law_take, d__law_cells, d__law_of, d__law_same]
def dsL2 : List DD := [d__law_groups, d__law_size, d__law_group, d__law_members, d__law_plus, d__law_often, d__law_nought, d__law_order, d__law_member, d__law_lot, d__law_moved, d__law_keepers, d__law_steps_lot, d__law_times, d__law_right, d_law]
def dsL : List DD := dsL0 ++ dsL1 ++ dsL2
def blL0 : List Str := ["ValueError", "abs", "all", "bool", "enumerate", "int", "isinstance", "len", "list", "range", "set", "sorted", "str", "tuple", "zip"]
def blL : List Str := blL0
def csL0 : List (Str × Int) := [(("MOST_GROUP" : Str), (256 : Int)), (("MOST_PLACES" : Str), (4 : Int)), (("MOST_BY" : Str), (1000000 : Int))]
def csL : List (Str × Int) := csL0
def exL0 : List Str := ["Unfit"]
def exL : List Str := exL0
def RR : RowD := ⟨dsL, blL, csL, exL⟩
def loose0 : List Str := ["is_number", "is_within", "sure_within", "is_long", "ascends", "tupled", "common_of", "least_of", "primes_of", "prime_row", "is_group", "size_of", "sure_group", "is_member_in", "nought_of", "g_plus", "g_often", "g_order", "is_lot_in", "sure_lot"]
def loose1 : List Str := ["sum_of_lots", "span_of", "is_closed", "lot_sum", "is_subgroup", "is_stretch_in", "sure_stretch", "lot_of_stretch", "is_round_stretch", "is_stretch", "stretch_lot", "does_come_round", "stretch_parts", "lot_stretches", "stretch_times", "_law_box", "_law_take", "_law_cells", "_law_of", "_law_same"]
def loose2 : List Str := ["_law_groups", "_law_size", "_law_group", "_law_members", "_law_plus", "_law_often", "_law_nought", "_law_order", "_law_member", "_law_lot", "_law_moved", "_law_keepers", "_law_steps_lot", "_law_times", "_law_right", "MOST_GROUP", "MOST_PLACES", "MOST_BY", "Unfit"]
def loose : List Str := loose0 ++ loose1 ++ loose2
theorem ok_is_number : DDok d_is_number := ⟨⟨rfl, rfl, rfl, by decide +kernel, rfl, by decide +kernel, by decide +kernel⟩, rfl, a_ok (by decide +kernel), fun _ _ _ _ _ _ us hl => match us, hl with | [_], _ => rfl, fun _ h => nomatch h⟩
theorem ok_is_within : DDok d_is_within := ⟨⟨rfl, rfl, rfl, by decide +kernel, rfl, by decide +kernel, by decide +kernel⟩, rfl, a_ok (by decide +kernel), fun _ _ _ _ _ _ us hl => match us, hl with | [_, _, _], _ => rfl, fun _ h => nomatch h⟩
theorem ok_sure_within : DDok d_sure_within := ⟨⟨rfl, rfl, rfl, by decide +kernel, rfl, by decide +kernel, by decide +kernel⟩, rfl, a_ok (by decide +kernel), fun _ _ _ _ _ _ us hl => match us, hl with | [_, _, _], _ => rfl, fun _ h => nomatch h⟩
theorem ok_is_long : DDok d_is_long := ⟨⟨rfl, rfl, rfl, by decide +kernel, rfl, by decide +kernel, by decide +kernel⟩, rfl, a_ok (by decide +kernel), fun _ _ _ _ _ _ us hl => match us, hl with | [_, _], _ => rfl, fun _ h => nomatch h⟩
theorem ok_ascends : DDok d_ascends := ⟨⟨rfl, rfl, rfl, by decide +kernel, rfl, by decide +kernel, by decide +kernel⟩, rfl, a_ok (by decide +kernel), fun _ _ _ _ _ _ us hl => match us, hl with | [_], _ => rfl, fun _ h => nomatch h⟩
theorem ok_tupled : DDok d_tupled := ⟨⟨rfl, rfl, rfl, by decide +kernel, rfl, by decide +kernel, by decide +kernel⟩, rfl, a_ok (by decide +kernel), fun _ _ _ _ _ _ us hl => match us, hl with | [_], _ => rfl, fun _ h => nomatch h⟩
theorem ok_common_of : DDok d_common_of := ⟨⟨rfl, rfl, rfl, by decide +kernel, rfl, by decide +kernel, by decide +kernel⟩, rfl, a_ok (by decide +kernel), fun _ _ _ _ _ _ us hl => match us, hl with | [_, _], _ => rfl, fun _ h => nomatch h⟩
theorem ok_least_of : DDok d_least_of := ⟨⟨rfl, rfl, rfl, by decide +kernel, rfl, by decide +kernel, by decide +kernel⟩, rfl, a_ok (by decide +kernel), fun _ _ _ _ _ _ us hl => match us, hl with | [_, _], _ => rfl, fun _ h => nomatch h⟩
theorem ok_primes_of : DDok d_primes_of := ⟨⟨rfl, rfl, rfl, by decide +kernel, rfl, by decide +kernel, by decide +kernel⟩, rfl, a_ok (by decide +kernel), fun _ _ _ _ _ _ us hl => match us, hl with | [_], _ => rfl, fun _ h => nomatch h⟩
theorem ok_prime_row : DDok d_prime_row := ⟨⟨rfl, rfl, rfl, by decide +kernel, rfl, by decide +kernel, by decide +kernel⟩, rfl, a_ok (by decide +kernel), fun _ _ _ _ _ _ us hl => match us, hl with | [_], _ => rfl, fun _ h => nomatch h⟩
theorem ok_is_group : DDok d_is_group := ⟨⟨rfl, rfl, rfl, by decide +kernel, rfl, by decide +kernel, by decide +kernel⟩, rfl, a_ok (by decide +kernel), fun _ _ _ _ _ _ us hl => match us, hl with | [_], _ => rfl, fun _ h => nomatch h⟩
theorem ok_size_of : DDok d_size_of := ⟨⟨rfl, rfl, rfl, by decide +kernel, rfl, by decide +kernel, by decide +kernel⟩, rfl, a_ok (by decide +kernel), fun _ _ _ _ _ _ us hl => match us, hl with | [_], _ => rfl, fun _ h => nomatch h⟩
theorem ok_sure_group : DDok d_sure_group := ⟨⟨rfl, rfl, rfl, by decide +kernel, rfl, by decide +kernel, by decide +kernel⟩, rfl, a_ok (by decide +kernel), fun _ _ _ _ _ _ us hl => match us, hl with | [_], _ => rfl, fun _ h => nomatch h⟩
theorem ok_is_member_in : DDok d_is_member_in := ⟨⟨rfl, rfl, rfl, by decide +kernel, rfl, by decide +kernel, by decide +kernel⟩, rfl, a_ok (by decide +kernel), fun _ _ _ _ _ _ us hl => match us, hl with | [_, _], _ => rfl, fun _ h => nomatch h⟩
theorem ok_nought_of : DDok d_nought_of := ⟨⟨rfl, rfl, rfl, by decide +kernel, rfl, by decide +kernel, by decide +kernel⟩, rfl, a_ok (by decide +kernel), fun _ _ _ _ _ _ us hl => match us, hl with | [_], _ => rfl, fun _ h => nomatch h⟩
theorem ok_g_plus : DDok d_g_plus := ⟨⟨rfl, rfl, rfl, by decide +kernel, rfl, by decide +kernel, by decide +kernel⟩, rfl, a_ok (by decide +kernel), fun _ _ _ _ _ _ us hl => match us, hl with | [_, _, _], _ => rfl, fun _ h => nomatch h⟩
theorem ok_g_often : DDok d_g_often := ⟨⟨rfl, rfl, rfl, by decide +kernel, rfl, by decide +kernel, by decide +kernel⟩, rfl, a_ok (by decide +kernel), fun _ _ _ _ _ _ us hl => match us, hl with | [_, _, _], _ => rfl, fun _ h => nomatch h⟩
theorem ok_g_order : DDok d_g_order := ⟨⟨rfl, rfl, rfl, by decide +kernel, rfl, by decide +kernel, by decide +kernel⟩, rfl, a_ok (by decide +kernel), fun _ _ _ _ _ _ us hl => match us, hl with | [_, _], _ => rfl, fun _ h => nomatch h⟩
theorem ok_is_lot_in : DDok d_is_lot_in := ⟨⟨rfl, rfl, rfl, by decide +kernel, rfl, by decide +kernel, by decide +kernel⟩, rfl, a_ok (by decide +kernel), fun _ _ _ _ _ _ us hl => match us, hl with | [_, _], _ => rfl, fun _ h => nomatch h⟩
theorem ok_sure_lot : DDok d_sure_lot := ⟨⟨rfl, rfl, rfl, by decide +kernel, rfl, by decide +kernel, by decide +kernel⟩, rfl, a_ok (by decide +kernel), fun _ _ _ _ _ _ us hl => match us, hl with | [_, _], _ => rfl, fun _ h => nomatch h⟩
theorem ok_sum_of_lots : DDok d_sum_of_lots := ⟨⟨rfl, rfl, rfl, by decide +kernel, rfl, by decide +kernel, by decide +kernel⟩, rfl, a_ok (by decide +kernel), fun _ _ _ _ _ _ us hl => match us, hl with | [_, _, _], _ => rfl, fun _ h => nomatch h⟩
theorem ok_span_of : DDok d_span_of := ⟨⟨rfl, rfl, rfl, by decide +kernel, rfl, by decide +kernel, by decide +kernel⟩, rfl, a_ok (by decide +kernel), fun _ _ _ _ _ _ us hl => match us, hl with | [_, _], _ => rfl, fun _ h => nomatch h⟩
theorem ok_is_closed : DDok d_is_closed := ⟨⟨rfl, rfl, rfl, by decide +kernel, rfl, by decide +kernel, by decide +kernel⟩, rfl, a_ok (by decide +kernel), fun _ _ _ _ _ _ us hl => match us, hl with | [_, _], _ => rfl, fun _ h => nomatch h⟩
theorem ok_lot_sum : DDok d_lot_sum := ⟨⟨rfl, rfl, rfl, by decide +kernel, rfl, by decide +kernel, by decide +kernel⟩, rfl, a_ok (by decide +kernel), fun _ _ _ _ _ _ us hl => match us, hl with | [_, _, _], _ => rfl, fun _ h => nomatch h⟩
theorem ok_is_subgroup : DDok d_is_subgroup := ⟨⟨rfl, rfl, rfl, by decide +kernel, rfl, by decide +kernel, by decide +kernel⟩, rfl, a_ok (by decide +kernel), fun _ _ _ _ _ _ us hl => match us, hl with | [_, _], _ => rfl, List.forall_mem_cons.mpr ⟨fun _ _ _ _ _ _ ws hl => match ws, hl with | [_, _], _ => rfl, fun _ h => nomatch h⟩⟩
theorem ok_is_stretch_in : DDok d_is_stretch_in := ⟨⟨rfl, rfl, rfl, by decide +kernel, rfl, by decide +kernel, by decide +kernel⟩, rfl, a_ok (by decide +kernel), fun _ _ _ _ _ _ us hl => match us, hl with | [_, _], _ => rfl, fun _ h => nomatch h⟩
theorem ok_sure_stretch : DDok d_sure_stretch := ⟨⟨rfl, rfl, rfl, by decide +kernel, rfl, by decide +kernel, by decide +kernel⟩, rfl, a_ok (by decide +kernel), fun _ _ _ _ _ _ us hl => match us, hl with | [_, _], _ => rfl, fun _ h => nomatch h⟩
theorem ok_lot_of_stretch : DDok d_lot_of_stretch := ⟨⟨rfl, rfl, rfl, by decide +kernel, rfl, by decide +kernel, by decide +kernel⟩, rfl, a_ok (by decide +kernel), fun _ _ _ _ _ _ us hl => match us, hl with | [_, _], _ => rfl, fun _ h => nomatch h⟩
theorem ok_is_round_stretch : DDok d_is_round_stretch := ⟨⟨rfl, rfl, rfl, by decide +kernel, rfl, by decide +kernel, by decide +kernel⟩, rfl, a_ok (by decide +kernel), fun _ _ _ _ _ _ us hl => match us, hl with | [_, _], _ => rfl, fun _ h => nomatch h⟩
theorem ok_is_stretch : DDok d_is_stretch := ⟨⟨rfl, rfl, rfl, by decide +kernel, rfl, by decide +kernel, by decide +kernel⟩, rfl, a_ok (by decide +kernel), fun _ _ _ _ _ _ us hl => match us, hl with | [_, _], _ => rfl, List.forall_mem_cons.mpr ⟨fun _ _ _ _ _ _ ws hl => match ws, hl with | [_, _], _ => rfl, fun _ h => nomatch h⟩⟩
theorem ok_stretch_lot : DDok d_stretch_lot := ⟨⟨rfl, rfl, rfl, by decide +kernel, rfl, by decide +kernel, by decide +kernel⟩, rfl, a_ok (by decide +kernel), fun _ _ _ _ _ _ us hl => match us, hl with | [_, _], _ => rfl, List.forall_mem_cons.mpr ⟨fun _ _ _ _ _ _ ws hl => match ws, hl with | [_, _], _ => rfl, fun _ h => nomatch h⟩⟩
theorem ok_does_come_round : DDok d_does_come_round := ⟨⟨rfl, rfl, rfl, by decide +kernel, rfl, by decide +kernel, by decide +kernel⟩, rfl, a_ok (by decide +kernel), fun _ _ _ _ _ _ us hl => match us, hl with | [_, _], _ => rfl, List.forall_mem_cons.mpr ⟨fun _ _ _ _ _ _ ws hl => match ws, hl with | [_, _], _ => rfl, fun _ h => nomatch h⟩⟩
theorem ok_stretch_parts : DDok d_stretch_parts := ⟨⟨rfl, rfl, rfl, by decide +kernel, rfl, by decide +kernel, by decide +kernel⟩, rfl, a_ok (by decide +kernel), fun _ _ _ _ _ _ us hl => match us, hl with | [_, _], _ => rfl, List.forall_mem_cons.mpr ⟨fun _ _ _ _ _ _ ws hl => match ws, hl with | [_, _], _ => rfl, fun _ h => nomatch h⟩⟩
theorem ok_lot_stretches : DDok d_lot_stretches := ⟨⟨rfl, rfl, rfl, by decide +kernel, rfl, by decide +kernel, by decide +kernel⟩, rfl, a_ok (by decide +kernel), fun _ _ _ _ _ _ us hl => match us, hl with | [_, _], _ => rfl, List.forall_mem_cons.mpr ⟨fun _ _ _ _ _ _ ws hl => match ws, hl with | [_, _], _ => rfl, fun _ h => nomatch h⟩⟩
theorem ok_stretch_times : DDok d_stretch_times := ⟨⟨rfl, rfl, rfl, by decide +kernel, rfl, by decide +kernel, by decide +kernel⟩, rfl, a_ok (by decide +kernel), fun _ _ _ _ _ _ us hl => match us, hl with | [_, _, _], _ => rfl, List.forall_mem_cons.mpr ⟨fun _ _ _ _ _ _ ws hl => match ws, hl with | [_, _, _], _ => rfl, fun _ h => nomatch h⟩⟩
theorem ok__law_box : DDok d__law_box := ⟨⟨rfl, rfl, rfl, by decide +kernel, rfl, by decide +kernel, by decide +kernel⟩, rfl, a_ok (by decide +kernel), fun _ _ _ _ _ _ us hl => match us, hl with | [_, _], _ => rfl, fun _ h => nomatch h⟩
theorem ok__law_take : DDok d__law_take := ⟨⟨rfl, rfl, rfl, by decide +kernel, rfl, by decide +kernel, by decide +kernel⟩, rfl, a_ok (by decide +kernel), fun _ _ _ _ _ _ us hl => match us, hl with | [_, _], _ => rfl, fun _ h => nomatch h⟩
theorem ok__law_cells : DDok d__law_cells := ⟨⟨rfl, rfl, rfl, by decide +kernel, rfl, by decide +kernel, by decide +kernel⟩, rfl, a_ok (by decide +kernel), fun _ _ _ _ _ _ us hl => match us, hl with | [_, _], _ => rfl, fun _ h => nomatch h⟩
theorem ok__law_of : DDok d__law_of := ⟨⟨rfl, rfl, rfl, by decide +kernel, rfl, by decide +kernel, by decide +kernel⟩, rfl, a_ok (by decide +kernel), fun _ _ _ _ _ _ us hl => match us, hl with | [_, _], _ => rfl, fun _ h => nomatch h⟩
theorem ok__law_same : DDok d__law_same := ⟨⟨rfl, rfl, rfl, by decide +kernel, rfl, by decide +kernel, by decide +kernel⟩, rfl, a_ok (by decide +kernel), fun _ _ _ _ _ _ us hl => match us, hl with | [_, _], _ => rfl, fun _ h => nomatch h⟩
theorem ok__law_groups : DDok d__law_groups := ⟨⟨rfl, rfl, rfl, by decide +kernel, rfl, by decide +kernel, by decide +kernel⟩, rfl, a_ok (by decide +kernel), fun _ _ _ _ _ _ us hl => match us, hl with | [], _ => rfl, fun _ h => nomatch h⟩
theorem ok__law_size : DDok d__law_size := ⟨⟨rfl, rfl, rfl, by decide +kernel, rfl, by decide +kernel, by decide +kernel⟩, rfl, a_ok (by decide +kernel), fun _ _ _ _ _ _ us hl => match us, hl with | [_], _ => rfl, fun _ h => nomatch h⟩
theorem ok__law_group : DDok d__law_group := ⟨⟨rfl, rfl, rfl, by decide +kernel, rfl, by decide +kernel, by decide +kernel⟩, rfl, a_ok (by decide +kernel), fun _ _ _ _ _ _ us hl => match us, hl with | [_, _], _ => rfl, fun _ h => nomatch h⟩
theorem ok__law_members : DDok d__law_members := ⟨⟨rfl, rfl, rfl, by decide +kernel, rfl, by decide +kernel, by decide +kernel⟩, rfl, a_ok (by decide +kernel), fun _ _ _ _ _ _ us hl => match us, hl with | [_], _ => rfl, fun _ h => nomatch h⟩
theorem ok__law_plus : DDok d__law_plus := ⟨⟨rfl, rfl, rfl, by decide +kernel, rfl, by decide +kernel, by decide +kernel⟩, rfl, a_ok (by decide +kernel), fun _ _ _ _ _ _ us hl => match us, hl with | [_, _, _], _ => rfl, fun _ h => nomatch h⟩
theorem ok__law_often : DDok d__law_often := ⟨⟨rfl, rfl, rfl, by decide +kernel, rfl, by decide +kernel, by decide +kernel⟩, rfl, a_ok (by decide +kernel), fun _ _ _ _ _ _ us hl => match us, hl with | [_, _, _], _ => rfl, fun _ h => nomatch h⟩
theorem ok__law_nought : DDok d__law_nought := ⟨⟨rfl, rfl, rfl, by decide +kernel, rfl, by decide +kernel, by decide +kernel⟩, rfl, a_ok (by decide +kernel), fun _ _ _ _ _ _ us hl => match us, hl with | [_], _ => rfl, fun _ h => nomatch h⟩
theorem ok__law_order : DDok d__law_order := ⟨⟨rfl, rfl, rfl, by decide +kernel, rfl, by decide +kernel, by decide +kernel⟩, rfl, a_ok (by decide +kernel), fun _ _ _ _ _ _ us hl => match us, hl with | [_, _], _ => rfl, fun _ h => nomatch h⟩
theorem ok__law_member : DDok d__law_member := ⟨⟨rfl, rfl, rfl, by decide +kernel, rfl, by decide +kernel, by decide +kernel⟩, rfl, a_ok (by decide +kernel), fun _ _ _ _ _ _ us hl => match us, hl with | [_, _], _ => rfl, fun _ h => nomatch h⟩
theorem ok__law_lot : DDok d__law_lot := ⟨⟨rfl, rfl, rfl, by decide +kernel, rfl, by decide +kernel, by decide +kernel⟩, rfl, a_ok (by decide +kernel), fun _ _ _ _ _ _ us hl => match us, hl with | [_, _, _], _ => rfl, fun _ h => nomatch h⟩
theorem ok__law_moved : DDok d__law_moved := ⟨⟨rfl, rfl, rfl, by decide +kernel, rfl, by decide +kernel, by decide +kernel⟩, rfl, a_ok (by decide +kernel), fun _ _ _ _ _ _ us hl => match us, hl with | [_, _, _], _ => rfl, fun _ h => nomatch h⟩
theorem ok__law_keepers : DDok d__law_keepers := ⟨⟨rfl, rfl, rfl, by decide +kernel, rfl, by decide +kernel, by decide +kernel⟩, rfl, a_ok (by decide +kernel), fun _ _ _ _ _ _ us hl => match us, hl with | [_, _], _ => rfl, fun _ h => nomatch h⟩
theorem ok__law_steps_lot : DDok d__law_steps_lot := ⟨⟨rfl, rfl, rfl, by decide +kernel, rfl, by decide +kernel, by decide +kernel⟩, rfl, a_ok (by decide +kernel), fun _ _ _ _ _ _ us hl => match us, hl with | [_, _, _], _ => rfl, fun _ h => nomatch h⟩
theorem ok__law_times : DDok d__law_times := ⟨⟨rfl, rfl, rfl, by decide +kernel, rfl, by decide +kernel, by decide +kernel⟩, rfl, a_ok (by decide +kernel), fun _ _ _ _ _ _ us hl => match us, hl with | [_, _, _], _ => rfl, fun _ h => nomatch h⟩
theorem ok__law_right : DDok d__law_right := ⟨⟨rfl, rfl, rfl, by decide +kernel, rfl, by decide +kernel, by decide +kernel⟩, rfl, a_ok (by decide +kernel), fun _ _ _ _ _ _ us hl => match us, hl with | [_], _ => rfl, fun _ h => nomatch h⟩
theorem ok_law : DDok d_law := ⟨⟨rfl, rfl, rfl, by decide +kernel, rfl, by decide +kernel, by decide +kernel⟩, rfl, a_ok (by decide +kernel), fun _ _ _ _ _ _ us hl => match us, hl with | [_], _ => rfl, fun _ h => nomatch h⟩
theorem oks0 : ∀ d ∈ dsL0, DDok d := List.forall_mem_cons.mpr ⟨ok_is_number, List.forall_mem_cons.mpr ⟨ok_is_within, List.forall_mem_cons.mpr ⟨ok_sure_within, List.forall_mem_cons.mpr ⟨ok_is_long, List.forall_mem_cons.mpr ⟨ok_ascends, List.forall_mem_cons.mpr ⟨ok_tupled, List.forall_mem_cons.mpr ⟨ok_common_of, List.forall_mem_cons.mpr ⟨ok_least_of, List.forall_mem_cons.mpr ⟨ok_primes_of, List.forall_mem_cons.mpr ⟨ok_prime_row, List.forall_mem_cons.mpr ⟨ok_is_group, List.forall_mem_cons.mpr ⟨ok_size_of, List.forall_mem_cons.mpr ⟨ok_sure_group, List.forall_mem_cons.mpr ⟨ok_is_member_in, List.forall_mem_cons.mpr ⟨ok_nought_of, List.forall_mem_cons.mpr ⟨ok_g_plus, List.forall_mem_cons.mpr ⟨ok_g_often, List.forall_mem_cons.mpr ⟨ok_g_order, List.forall_mem_cons.mpr ⟨ok_is_lot_in, List.forall_mem_cons.mpr ⟨ok_sure_lot, fun _ h => nomatch h⟩⟩⟩⟩⟩⟩⟩⟩⟩⟩⟩⟩⟩⟩⟩⟩⟩⟩⟩⟩
theorem oks1 : ∀ d ∈ dsL1, DDok d := List.forall_mem_cons.mpr ⟨ok_sum_of_lots, List.forall_mem_cons.mpr ⟨ok_span_of, List.forall_mem_cons.mpr ⟨ok_is_closed, List.forall_mem_cons.mpr ⟨ok_lot_sum, List.forall_mem_cons.mpr ⟨ok_is_subgroup, List.forall_mem_cons.mpr ⟨ok_is_stretch_in, List.forall_mem_cons.mpr ⟨ok_sure_stretch, List.forall_mem_cons.mpr ⟨ok_lot_of_stretch, List.forall_mem_cons.mpr ⟨ok_is_round_stretch, List.forall_mem_cons.mpr ⟨ok_is_stretch, List.forall_mem_cons.mpr ⟨ok_stretch_lot, List.forall_mem_cons.mpr ⟨ok_does_come_round, List.forall_mem_cons.mpr ⟨ok_stretch_parts, List.forall_mem_cons.mpr ⟨ok_lot_stretches, List.forall_mem_cons.mpr ⟨ok_stretch_times, List.forall_mem_cons.mpr ⟨ok__law_box, List.forall_mem_cons.mpr ⟨ok__law_take, List.forall_mem_cons.mpr ⟨ok__law_cells, List.forall_mem_cons.mpr ⟨ok__law_of, List.forall_mem_cons.mpr ⟨ok__law_same, fun _ h => nomatch h⟩⟩⟩⟩⟩⟩⟩⟩⟩⟩⟩⟩⟩⟩⟩⟩⟩⟩⟩⟩
theorem oks2 : ∀ d ∈ dsL2, DDok d := List.forall_mem_cons.mpr ⟨ok__law_groups, List.forall_mem_cons.mpr ⟨ok__law_size, List.forall_mem_cons.mpr ⟨ok__law_group, List.forall_mem_cons.mpr ⟨ok__law_members, List.forall_mem_cons.mpr ⟨ok__law_plus, List.forall_mem_cons.mpr ⟨ok__law_often, List.forall_mem_cons.mpr ⟨ok__law_nought, List.forall_mem_cons.mpr ⟨ok__law_order, List.forall_mem_cons.mpr ⟨ok__law_member, List.forall_mem_cons.mpr ⟨ok__law_lot, List.forall_mem_cons.mpr ⟨ok__law_moved, List.forall_mem_cons.mpr ⟨ok__law_keepers, List.forall_mem_cons.mpr ⟨ok__law_steps_lot, List.forall_mem_cons.mpr ⟨ok__law_times, List.forall_mem_cons.mpr ⟨ok__law_right, List.forall_mem_cons.mpr ⟨ok_law, fun _ h => nomatch h⟩⟩⟩⟩⟩⟩⟩⟩⟩⟩⟩⟩⟩⟩⟩⟩
theorem oks : ∀ d : DD, d ∈ RR.ds → DDok d := (fun d (h : d ∈ _) => (List.mem_append.mp h).elim ((fun d (h : d ∈ _) => (List.mem_append.mp h).elim (oks0 d) (oks1 d)) d) (oks2 d))
abbrev Ro : PySem.W.OpenRow := PySem.W.OpenLaw.row PySem.Challenge.rw_eachjustonce_k03_main_stretches
abbrev hkL : PySem.W.Hook := hookL 4 RR.fa RR.fn RR.ex
def obs1 (s : PySem.W.SharedT) : AlL := obsE 4 RR.fa RR.fn RR.ex (HandSHeadRun.getT s)
theorem obs1_eq (s : PySem.W.SharedT) : obs1 s = hkL.obs s.abs := obsL_eq (HandSHeadRun.getT_eq s)
theorem run1 (w : World) : HandSHeadRun.RunEq Ro (PySem.W.view Ro.prog [65]) hkL obs1 4000 loose w := by
  intro os
  kernel_rfl
theorem lawIn : d_law ∈ RR.ds := by
  show d_law ∈ dsL
  unfold dsL
  simp only [List.mem_append]
  first | exact .inr (by simp [dsL2]) | exact (by simp [dsL0])
end LW
end

section
set_option Elab.async false
set_option linter.all false
set_option maxRecDepth 100000
set_option maxHeartbeats 4000000
/-! E50: evaluation of combinators. -/
namespace E2
open PySem PySem.Spec PyProof.Rows L2
theorem run_at (R : RowD) (n : Nat) (d : DD) (α : Env) : (R.at_ (n + 1) d).run α = bodyR d.cst α (sfOf (R.tbl n) d (α ++ List.replicate (d.N.length - d.ps.length) .dead)) := rfl
@[simp] theorem cst_at (R : RowD) (n : Nat) (d : DD) : (R.at_ n d).cst = d.cst := by cases n <;> rfl
section
variable {α β : Type} {ρ ρ' : Env} {d e : Dt} {s : Slot} {a : α} {i : Nat} {o o1 o2 o3 : Op} {os : List Op} {f g : EV} {h k : EE} {t u : ET} {p q : SF} {b c : Bool}
@[simp] theorem x_bind (g : α → Env → R (β × Env)) : R.bind (.ok (a, ρ)) g = g a ρ := rfl
@[simp] theorem x_map (g : α → β) : R.map g (.ok (a, ρ)) = .ok (g a, ρ) := rfl
@[simp] theorem x_sbind (g : α → Env → SO) : sbind (.ok (a, ρ)) g = g a ρ := rfl
@[simp] theorem x_then : SO.then (.nxt ρ) p = p ρ := rfl
@[simp] theorem x_thenR : SO.then (.ret s ρ) p = .ret s ρ := rfl
@[simp] theorem x_thenB : SO.then (.brk ρ) p = .brk ρ := rfl
@[simp] theorem x_thenC : SO.then (.cnt ρ) p = .cnt ρ := rfl
@[simp] theorem x_turn : SO.turn (.nxt ρ) p = p ρ := rfl
@[simp] theorem x_turnC : SO.turn (.cnt ρ) p = p ρ := rfl
@[simp] theorem x_turnB : SO.turn (.brk ρ) p = .nxt ρ := rfl
@[simp] theorem x_turnR : SO.turn (.ret s ρ) p = .ret s ρ := rfl
@[simp] theorem x_seq2 : fSeq2 p q ρ = (p ρ).then q := rfl
@[simp] theorem x_nil : fNil ρ = .nxt ρ := rfl
@[simp] theorem x_brk : fBrk ρ = .brk ρ := rfl
@[simp] theorem x_cnt : fCnt ρ = .cnt ρ := rfl
@[simp] theorem x_asg : fAsg i f ρ = sbind (f ρ) fun s ρ' => .nxt (ρ'.set i s) := rfl
@[simp] theorem x_ret : fRet f ρ = sbind (f ρ) fun s ρ' => .ret s ρ' := rfl
@[simp] theorem x_drop : fDrop h ρ = sbind (h ρ) fun _ ρ' => .nxt ρ' := rfl
@[simp] theorem x_if : fIf t p q ρ = sbind (t ρ) fun b ρ1 => if b then p ρ1 else q ρ1 := rfl
@[simp] theorem x_for (it : Env → R (List Dt × Env)) (g : Dt → Env → Option Env) : fFor it g p ρ = sbind (it ρ) fun items ρ1 => forS g p items ρ1 := rfl
@[simp] theorem x_c : fC d ρ = .ok (.sh d, ρ) := rfl
@[simp] theorem x_name : fName i ρ = match ρ[i]? with
  | some (.sh d) => .ok (.sh d, ρ)
  | some (.ow d) => .ok (.ow d, ρ.set i .dead)
  | _ => .bad := rfl
@[simp] theorem x_eName : eName i ρ = match ρ[i]? with
  | some (.sh d) => .ok (d, ρ)
  | some (.ow d) => .ok (d, ρ.set i (.sh d))
  | _ => .bad := rfl
@[simp] theorem x_share : share f ρ = (f ρ).bind shr := rfl
@[simp] theorem x_shrS : shr (.sh d) ρ = .ok (d, ρ) := rfl
@[simp] theorem x_shrO : shr (.ow d) ρ = .ok (d, ρ) := rfl
@[simp] theorem x_sl : Op.run (.sl i) ρ = match ρ[i]? with
  | some (.sh _) => .ok (none, ρ)
  | some (.ow _) => .ok (none, ρ)
  | _ => .bad := rfl
@[simp] theorem x_ex : Op.run (.ex h) ρ = (h ρ).map some := rfl
@[simp] theorem x_resS (a : Option Dt) : Op.res (.sl i) a ρ = ρ[i]?.bind Slot.dt? := rfl
@[simp] theorem x_resE (a : Option Dt) : Op.res (.ex h) a ρ = a := rfl
@[simp] theorem x_dtS : Slot.dt? (.sh d) = some d := rfl
@[simp] theorem x_dtO : Slot.dt? (.ow d) = some d := rfl
@[simp] theorem x_ops0 : runOps [] ρ = .ok ([], ρ) := rfl
@[simp] theorem x_ops : runOps (o :: os) ρ = (o.run ρ).bind fun a ρ1 => (runOps os ρ1).map (a :: ·) := rfl
@[simp] theorem x_all0 : resAll [] [] ρ = some [] := rfl
@[simp] theorem x_all (a : Option Dt) (as : List (Option Dt)) : resAll (o :: os) (a :: as) ρ = match o.res a ρ, resAll os as ρ with
    | some d, some ds => some (d :: ds)
    | _, _ => none := rfl
@[simp] theorem x_fB (g : List Dt → Option Slot) : fB os g ρ = (runOps os ρ).bind fun as ρ1 => match resAll os as ρ1 with
  | some ds => (match g ds with
    | some s => .ok (s, ρ1)
    | none => .bad)
  | none => .bad := rfl
@[simp] theorem x_f2 (g : Dt → Dt → Option Slot) : f2 o1 o2 g ρ = fB [o1, o2] (fun ds => match ds with
  | [d, e] => g d e
  | _ => none) ρ := rfl
@[simp] theorem x_f1 (g : Dt → Option Slot) : f1 o1 g ρ = fB [o1] (fun ds => match ds with
  | [d] => g d
  | _ => none) ρ := rfl
@[simp] theorem x_seq (mk : List Dt → Slot) (fs : List EE) : fSeq mk fs ρ = (runOps (fs.map .ex) ρ).bind fun as ρ1 => match resAll (fs.map .ex) as ρ1 with
  | some ds => .ok (mk ds, ρ1)
  | none => .bad := rfl
@[simp] theorem x_isi (ts : List Ty) : fIsi ts o ρ = f1 o (isiD ts) ρ := rfl
@[simp] theorem x_isiI (ts : List Ty) (i : Int) : isiD ts (.int i) = some (.sh (.bl (ts.any (isTy (.int i))))) := rfl
@[simp] theorem x_isiB (ts : List Ty) : isiD ts (.bl b) = some (.sh (.bl (ts.any (isTy (.bl b))))) := rfl
@[simp] theorem x_isiT (ts : List Ty) (ds : List Dt) : isiD ts (.tup ds) = some (.sh (.bl (ts.any (isTy (.tup ds))))) := rfl
@[simp] theorem x_isiL (ts : List Ty) (ds : List Dt) : isiD ts (.lst ds) = some (.sh (.bl (ts.any (isTy (.lst ds))))) := rfl
@[simp] theorem x_tr : fTr o ρ = (o.run ρ).bind fun a ρ1 => match (o.res a ρ1).bind truD with
  | some b => .ok (b, ρ1)
  | none => .bad := rfl
@[simp] theorem x_te : fTe f ρ = (f ρ).bind fun s ρ1 => match s with
  | .sh (.bl b) => .ok (b, ρ1)
  | _ => .bad := rfl
@[simp] theorem x_truB : truD (.bl b) = some b := rfl
@[simp] theorem x_truSB : truS (.sh (.bl b)) = some b := rfl
@[simp] theorem x_notT : fNotT t ρ = (t ρ).bind fun b ρ1 => .ok (!b, ρ1) := rfl
@[simp] theorem x_andT : fAndT t u ρ = (t ρ).bind fun b ρ1 => if b then u ρ1 else .ok (false, ρ1) := rfl
@[simp] theorem x_orT : fOrT t u ρ = (t ρ).bind fun b ρ1 => if b then .ok (true, ρ1) else u ρ1 := rfl
@[simp] theorem x_andV : fAndV f g ρ = (f ρ).bind fun s ρ1 => match truS s with
  | some true => g ρ1
  | some false => .ok (s, ρ1)
  | none => .bad := rfl
@[simp] theorem x_orV : fOrV f g ρ = (f ρ).bind fun s ρ1 => match truS s with
  | some true => .ok (s, ρ1)
  | some false => g ρ1
  | none => .bad := rfl
@[simp] theorem x_notV : fNotV o ρ = f1 o (fun d => match truD d with
  | some b => shB (!b)
  | none => none) ρ := rfl
@[simp] theorem x_ifV : fIfV t f g ρ = (t ρ).bind fun b ρ1 => if b then f ρ1 else g ρ1 := rfl
@[simp] theorem x_shB : shB b = some (.sh (.bl b)) := rfl
@[simp] theorem x_shI (i : Int) : shI i = some (.sh (.int i)) := rfl
@[simp] theorem x_yes : fYes ρ = .ok (true, ρ) := rfl
@[simp] theorem x_gAsg : gAsg i d ρ = some (ρ.set i (.sh d)) := rfl
@[simp] theorem x_gs0 : gsNil [] ρ = some ρ := rfl
@[simp] theorem x_gs (g : Dt → Env → Option Env) (gs : List Dt → Env → Option Env) (ds : List Dt) : gsCons g gs (d :: ds) ρ = (g d ρ).bind (gs ds) := rfl
@[simp] theorem x_gT (gs : List Dt → Env → Option Env) (ds : List Dt) : gTupA gs (.tup ds) ρ = gs ds ρ := rfl
@[simp] theorem x_items : fItems h ρ = (h ρ).bind fun d ρ1 => match itemsOf d with
  | some ds => .ok (ds, ρ1)
  | none => .bad := rfl
@[simp] theorem x_itT (ds : List Dt) : itemsOf (.tup ds) = some ds := rfl
@[simp] theorem x_itL (ds : List Dt) : itemsOf (.lst ds) = some ds := rfl
@[simp] theorem x_sqT (ds : List Dt) : seqOf (.tup ds) = some ds := rfl
@[simp] theorem x_sqL (ds : List Dt) : seqOf (.lst ds) = some ds := rfl
@[simp] theorem x_call (F : FS) : fCall F os ρ = (runOps os ρ).bind fun as ρ1 => match E2.take F.cst os as ρ1 [] with
  | some (ρ2, α2) => (match F.run α2 with
    | .ok (s, α3) => .ok (s, giveBack os α2 α3 ρ2)
    | .err x fs α3 => .err x fs (giveBack os α2 α3 ρ2)
    | .bad => .bad)
  | none => .bad := rfl
@[simp] theorem x_take0 (ρ α : Env) : E2.take [] [] [] ρ α = some (ρ, α) := rfl
@[simp] theorem x_takeE (cs : List Bool) (as : List (Option Dt)) (ρ α : Env) : E2.take (b :: cs) (.ex h :: os) (some d :: as) ρ α = E2.take cs os as ρ (α ++ [.sh d]) := rfl
@[simp] theorem x_takeS (cs : List Bool) (a : Option Dt) (as : List (Option Dt)) (ρ α : Env) : E2.take (c :: cs) (.sl i :: os) (a :: as) ρ α = match ρ[i]? with
    | some (.sh d) => E2.take cs os as ρ (α ++ [.sh d])
    | some (.ow d) => if c then E2.take cs os as (ρ.set i .dead) (α ++ [.ow d]) else E2.take cs os as (ρ.set i (.sh d)) (α ++ [.sh d])
    | _ => none := rfl
@[simp] theorem x_gb0 (ρ : Env) : giveBack [] [] [] ρ = ρ := rfl
@[simp] theorem x_gbO (α2 α3 ρ : Env) : giveBack (.sl i :: os) (.ow d :: α2) (s :: α3) ρ = giveBack os α2 α3 (ρ.set i s) := rfl
@[simp] theorem x_gbS (α2 α3 ρ : Env) : giveBack (.sl i :: os) (.sh d :: α2) (s :: α3) ρ = giveBack os α2 α3 ρ := rfl
@[simp] theorem x_gbE (s' : Slot) (α2 α3 ρ : Env) : giveBack (.ex h :: os) (s' :: α2) (s :: α3) ρ = giveBack os α2 α3 ρ := rfl
@[simp] theorem x_body (cs : List Bool) (α : Env) : bodyR cs α (.ret s ρ) = .ok (s, outs cs α ρ) := rfl
@[simp] theorem x_bodyN (cs : List Bool) (α : Env) : bodyR cs α (.nxt ρ) = .ok (.sh .non, outs cs α ρ) := rfl
@[simp] theorem x_outs0 (α ρ : Env) : outs [] α ρ = [] := by cases α <;> rfl
@[simp] theorem x_outs (cs : List Bool) (α ρ : Env) (s' : Slot) : outs (c :: cs) (s :: α) (s' :: ρ) = outS c s s' :: outs cs α ρ := rfl
@[simp] theorem x_outF : outS false s s' = .dead := by cases s <;> rfl
@[simp] theorem x_outT (s' : Slot) : outS true (.ow d) s' = s' := rfl
end
end E2
end

section
set_option Elab.async false
set_option linter.all false
set_option maxRecDepth 100000
set_option maxHeartbeats 0
namespace LW
open PySem PySem.Spec PyProof.Rows L2 E2
/-- is_number -/
def b_is_number (n : Nat) : SF := (fSeq2 (fRet (fAndV (fIsi [.int] (.sl 0)) (fNotV (.ex (share (fIsi [.bool] (.sl 0))))))) fNil)
theorem e_is_number (n : Nat) : sfOf (RR.tbl (n + 1)) d_is_number = b_is_number n := by kernel_rfl
theorem r_is_number (n : Nat) (a0 : E2.Slot) : (RR.at_ (n + 2) d_is_number).run [a0] = bodyR [false] [a0] (b_is_number n [a0]) := by rw [run_at, e_is_number]; rfl
@[simp] theorem c_is_number : d_is_number.cst = [false] := rfl
/-- is_within -/
def b_is_within (n : Nat) : SF := (fSeq2 (fRet (fAndV (fCall (RR.at_ (n + 1) d_is_number) [(.sl 0)]) (fChain (.sl 1) (.sl 0) (.sl 2) leD leD))) fNil)
theorem e_is_within (n : Nat) : sfOf (RR.tbl (n + 1)) d_is_within = b_is_within n := by kernel_rfl
theorem r_is_within (n : Nat) (a0 a1 a2 : E2.Slot) : (RR.at_ (n + 2) d_is_within).run [a0, a1, a2] = bodyR [false, false, false] [a0, a1, a2] (b_is_within n [a0, a1, a2]) := by rw [run_at, e_is_within]; rfl
@[simp] theorem c_is_within : d_is_within.cst = [false, false, false] := rfl
/-- sure_within -/
def b_sure_within (n : Nat) : SF := (fSeq2 (fIf (fNotT (fTr (.ex (share (fCall (RR.at_ (n + 1) d_is_within) [(.sl 0), (.sl 1), (.sl 2)]))))) (fSeq2 (fRaise "Unfit") fNil) fNil) (fSeq2 (fRet (fName 0)) fNil))
theorem e_sure_within (n : Nat) : sfOf (RR.tbl (n + 1)) d_sure_within = b_sure_within n := by kernel_rfl
theorem r_sure_within (n : Nat) (a0 a1 a2 : E2.Slot) : (RR.at_ (n + 2) d_sure_within).run [a0, a1, a2] = bodyR [false, false, false] [a0, a1, a2] (b_sure_within n [a0, a1, a2]) := by rw [run_at, e_sure_within]; rfl
@[simp] theorem c_sure_within : d_sure_within.cst = [false, false, false] := rfl
/-- is_long -/
def b_is_long (n : Nat) : SF := (fSeq2 (fRet (fAndV (fIsi [.tuple] (.sl 0)) (f2 (.ex (share (fB [(.sl 0)] lenD))) (.sl 1) eqD))) fNil)
theorem e_is_long (n : Nat) : sfOf (RR.tbl (n + 1)) d_is_long = b_is_long n := by kernel_rfl
theorem r_is_long (n : Nat) (a0 a1 : E2.Slot) : (RR.at_ (n + 2) d_is_long).run [a0, a1] = bodyR [false, false] [a0, a1] (b_is_long n [a0, a1]) := by rw [run_at, e_is_long]; rfl
@[simp] theorem c_is_long : d_is_long.cst = [false, false] := rfl
/-- ascends -/
def b_ascends (n : Nat) : SF := (fSeq2 (fRet (fB [(.ex (share (fLc (fZip2 (eName 0) (share (fSl (.sl 0) (fPart (share (fC (.int 1)))) fNoP))) (gTupA (gsCons (gAsg 1) (gsCons (gAsg 2) gsNil))) fYes (share (f2 (.sl 1) (.sl 2) ltD)) [1, 2])))] allD)) fNil)
theorem e_ascends (n : Nat) : sfOf (RR.tbl (n + 1)) d_ascends = b_ascends n := by kernel_rfl
theorem r_ascends (n : Nat) (a0 : E2.Slot) : (RR.at_ (n + 2) d_ascends).run [a0] = bodyR [false] [a0] (b_ascends n [a0, .dead, .dead]) := by rw [run_at, e_ascends]; rfl
@[simp] theorem c_ascends : d_ascends.cst = [false] := rfl
/-- tupled -/
def b_tupled (n : Nat) : SF := (fSeq2 (fRet (fIfV (fTr (.ex (share (fIsi [.list, .tuple] (.sl 0))))) (fB [(.ex (share (fLc (fItems (eName 0)) (gAsg 1) fYes (share (fCall (RR.at_ (n + 1) d_tupled) [(.sl 1)])) [1])))] tupleD) (fName 0))) fNil)
theorem e_tupled (n : Nat) : sfOf (RR.tbl (n + 1)) d_tupled = b_tupled n := by kernel_rfl
theorem r_tupled (n : Nat) (a0 : E2.Slot) : (RR.at_ (n + 2) d_tupled).run [a0] = bodyR [false] [a0] (b_tupled n [a0, .dead]) := by rw [run_at, e_tupled]; rfl
@[simp] theorem c_tupled : d_tupled.cst = [false] := rfl
/-- common_of -/
def b_common_of (n : Nat) : SF := (fSeq2 (whileS (fTe (f2 (.sl 1) (.ex (share (fC (.int 0)))) neD)) (fSeq2 (fParV 0 1 (fName 1) (f2 (.sl 0) (.sl 1) modD)) fNil) bigN) (fSeq2 (fRet (fB [(.sl 0)] absD)) fNil))
theorem e_common_of (n : Nat) : sfOf (RR.tbl (n + 1)) d_common_of = b_common_of n := by kernel_rfl
theorem r_common_of (n : Nat) (a0 a1 : E2.Slot) : (RR.at_ (n + 2) d_common_of).run [a0, a1] = bodyR [false, false] [a0, a1] (b_common_of n [a0, a1]) := by rw [run_at, e_common_of]; rfl
@[simp] theorem c_common_of : d_common_of.cst = [false, false] := rfl
/-- least_of -/
def b_least_of (n : Nat) : SF := (fSeq2 (fRet (f2 (.ex (share (f2 (.sl 0) (.ex (share (fCall (RR.at_ (n + 1) d_common_of) [(.sl 0), (.sl 1)]))) fdivD))) (.sl 1) mulD)) fNil)
theorem e_least_of (n : Nat) : sfOf (RR.tbl (n + 1)) d_least_of = b_least_of n := by kernel_rfl
theorem r_least_of (n : Nat) (a0 a1 : E2.Slot) : (RR.at_ (n + 2) d_least_of).run [a0, a1] = bodyR [false, false] [a0, a1] (b_least_of n [a0, a1]) := by rw [run_at, e_least_of]; rfl
@[simp] theorem c_least_of : d_least_of.cst = [false, false] := rfl
/-- primes_of -/
def b_primes_of (n : Nat) : SF := (fSeq2 (fParV3 1 2 3 (fSeq (fun ds => .ow (.lst ds)) []) (fName 0) (fC (.int 2))) (fSeq2 (whileS (fTe (f2 (.ex (share (f2 (.sl 3) (.sl 3) mulD))) (.sl 2) leD)) (fSeq2 (fIf (fTe (f2 (.ex (share (f2 (.sl 2) (.sl 3) modD))) (.ex (share (fC (.int 0)))) eqD)) (fSeq2 (fDrop (share (fMeth 1 [(eName 3)] mAppend))) (fSeq2 (whileS (fTe (f2 (.ex (share (f2 (.sl 2) (.sl 3) modD))) (.ex (share (fC (.int 0)))) eqD)) (fSeq2 (fAsg 2 (f2 (.sl 2) (.sl 3) fdivD)) fNil) bigN) fNil)) fNil) (fSeq2 (fAsg 3 (f2 (.sl 3) (.ex (share (fC (.int 1)))) addD)) fNil)) bigN) (fSeq2 (fRet (f2 (.sl 1) (.ex (share (fIfV (fTe (f2 (.sl 2) (.ex (share (fC (.int 1)))) gtD)) (fSeq (fun ds => .ow (.lst ds)) [(eName 2)]) (fSeq (fun ds => .ow (.lst ds)) [])))) addD)) fNil)))
theorem e_primes_of (n : Nat) : sfOf (RR.tbl (n + 1)) d_primes_of = b_primes_of n := by kernel_rfl
theorem r_primes_of (n : Nat) (a0 : E2.Slot) : (RR.at_ (n + 2) d_primes_of).run [a0] = bodyR [false] [a0] (b_primes_of n [a0, .dead, .dead, .dead]) := by rw [run_at, e_primes_of]; rfl
@[simp] theorem c_primes_of : d_primes_of.cst = [false] := rfl
/-- prime_row -/
def b_prime_row (n : Nat) : SF := (fSeq2 (fParV 2 3 (fSeq (fun ds => .ow (.lst ds)) []) (fName 0)) (fSeq2 (fFor (fItems (share (fCall (RR.at_ (n + 1) d_primes_of) [(.sl 0)]))) (gAsg 1) (fSeq2 (whileS (fTe (f2 (.ex (share (f2 (.sl 3) (.sl 1) modD))) (.ex (share (fC (.int 0)))) eqD)) (fSeq2 (fDrop (share (fMeth 2 [(eName 1)] mAppend))) (fSeq2 (fAsg 3 (f2 (.sl 3) (.sl 1) fdivD)) fNil)) bigN) fNil)) (fSeq2 (fRet (fName 2)) fNil)))
theorem e_prime_row (n : Nat) : sfOf (RR.tbl (n + 1)) d_prime_row = b_prime_row n := by kernel_rfl
theorem r_prime_row (n : Nat) (a0 : E2.Slot) : (RR.at_ (n + 2) d_prime_row).run [a0] = bodyR [false] [a0] (b_prime_row n [a0, .dead, .dead, .dead]) := by rw [run_at, e_prime_row]; rfl
@[simp] theorem c_prime_row : d_prime_row.cst = [false] := rfl
/-- is_group -/
def b_is_group (n : Nat) : SF := (fSeq2 (fIf (fOrT (fNotT (fTr (.ex (share (fIsi [.tuple] (.sl 0)))))) (fNotT (fTe (fChain (.ex (share (fC (.int 1)))) (.ex (share (fB [(.sl 0)] lenD))) (.ex (share (fC (.int 4)))) leD leD)))) (fSeq2 (fRet (fC (.bl false))) fNil) fNil) (fSeq2 (fRet (fAndV (fB [(.ex (share (fLc (fItems (eName 0)) (gAsg 1) fYes (share (fCall (RR.at_ (n + 1) d_is_within) [(.sl 1), (.ex (share (fC (.int 2)))), (.ex (share (fC (.int 256))))])) [1])))] allD) (f2 (.ex (share (fCall (RR.at_ (n + 1) d_size_of) [(.sl 0)]))) (.ex (share (fC (.int 256)))) leD))) fNil))
theorem e_is_group (n : Nat) : sfOf (RR.tbl (n + 1)) d_is_group = b_is_group n := by kernel_rfl
theorem r_is_group (n : Nat) (a0 : E2.Slot) : (RR.at_ (n + 2) d_is_group).run [a0] = bodyR [false] [a0] (b_is_group n [a0, .dead]) := by rw [run_at, e_is_group]; rfl
@[simp] theorem c_is_group : d_is_group.cst = [false] := rfl
/-- size_of -/
def b_size_of (n : Nat) : SF := (fSeq2 (fAsg 1 (fC (.int 1))) (fSeq2 (fFor (fItems (eName 0)) (gAsg 2) (fSeq2 (fAsg 1 (f2 (.sl 1) (.sl 2) mulD)) fNil)) (fSeq2 (fRet (fName 1)) fNil)))
theorem e_size_of (n : Nat) : sfOf (RR.tbl (n + 1)) d_size_of = b_size_of n := by kernel_rfl
theorem r_size_of (n : Nat) (a0 : E2.Slot) : (RR.at_ (n + 2) d_size_of).run [a0] = bodyR [false] [a0] (b_size_of n [a0, .dead, .dead]) := by rw [run_at, e_size_of]; rfl
@[simp] theorem c_size_of : d_size_of.cst = [false] := rfl
/-- sure_group -/
def b_sure_group (n : Nat) : SF := (fSeq2 (fAsg 1 (fCall (RR.at_ (n + 1) d_tupled) [(.sl 0)])) (fSeq2 (fIf (fNotT (fTr (.ex (share (fCall (RR.at_ (n + 1) d_is_group) [(.sl 1)]))))) (fSeq2 (fRaise "Unfit") fNil) fNil) (fSeq2 (fRet (fName 1)) fNil)))
theorem e_sure_group (n : Nat) : sfOf (RR.tbl (n + 1)) d_sure_group = b_sure_group n := by kernel_rfl
theorem r_sure_group (n : Nat) (a0 : E2.Slot) : (RR.at_ (n + 2) d_sure_group).run [a0] = bodyR [false] [a0] (b_sure_group n [a0, .dead]) := by rw [run_at, e_sure_group]; rfl
@[simp] theorem c_sure_group : d_sure_group.cst = [false] := rfl
/-- is_member_in -/
def b_is_member_in (n : Nat) : SF := (fSeq2 (fIf (fNotT (fTr (.ex (share (fCall (RR.at_ (n + 1) d_is_long) [(.sl 1), (.ex (share (fB [(.sl 0)] lenD)))]))))) (fSeq2 (fRet (fC (.bl false))) fNil) fNil) (fSeq2 (fRet (fB [(.ex (share (fLc (fZip2 (eName 1) (eName 0)) (gTupA (gsCons (gAsg 2) (gsCons (gAsg 3) gsNil))) fYes (share (fCall (RR.at_ (n + 1) d_is_within) [(.sl 2), (.ex (share (fC (.int 0)))), (.ex (share (f2 (.sl 3) (.ex (share (fC (.int 1)))) subD)))])) [2, 3])))] allD)) fNil))
theorem e_is_member_in (n : Nat) : sfOf (RR.tbl (n + 1)) d_is_member_in = b_is_member_in n := by kernel_rfl
theorem r_is_member_in (n : Nat) (a0 a1 : E2.Slot) : (RR.at_ (n + 2) d_is_member_in).run [a0, a1] = bodyR [false, false] [a0, a1] (b_is_member_in n [a0, a1, .dead, .dead]) := by rw [run_at, e_is_member_in]; rfl
@[simp] theorem c_is_member_in : d_is_member_in.cst = [false, false] := rfl
/-- nought_of -/
def b_nought_of (n : Nat) : SF := (fSeq2 (fRet (f2 (.ex (share (fSeq (fun ds => .sh (.tup ds)) [(share (fC (.int 0)))]))) (.ex (share (fB [(.sl 0)] lenD))) mulD)) fNil)
theorem e_nought_of (n : Nat) : sfOf (RR.tbl (n + 1)) d_nought_of = b_nought_of n := by kernel_rfl
theorem r_nought_of (n : Nat) (a0 : E2.Slot) : (RR.at_ (n + 2) d_nought_of).run [a0] = bodyR [false] [a0] (b_nought_of n [a0]) := by rw [run_at, e_nought_of]; rfl
@[simp] theorem c_nought_of : d_nought_of.cst = [false] := rfl
/-- g_plus -/
def b_g_plus (n : Nat) : SF := (fSeq2 (fRet (fB [(.ex (share (fLc (fZip3 (eName 1) (eName 2) (eName 0)) (gTupA (gsCons (gAsg 3) (gsCons (gAsg 4) (gsCons (gAsg 5) gsNil)))) fYes (share (f2 (.ex (share (f2 (.sl 3) (.sl 4) addD))) (.sl 5) modD)) [3, 4, 5])))] tupleD)) fNil)
theorem e_g_plus (n : Nat) : sfOf (RR.tbl (n + 1)) d_g_plus = b_g_plus n := by kernel_rfl
theorem r_g_plus (n : Nat) (a0 a1 a2 : E2.Slot) : (RR.at_ (n + 2) d_g_plus).run [a0, a1, a2] = bodyR [false, false, false] [a0, a1, a2] (b_g_plus n [a0, a1, a2, .dead, .dead, .dead]) := by rw [run_at, e_g_plus]; rfl
@[simp] theorem c_g_plus : d_g_plus.cst = [false, false, false] := rfl
/-- g_often -/
def b_g_often (n : Nat) : SF := (fSeq2 (fRet (fB [(.ex (share (fLc (fZip2 (eName 1) (eName 0)) (gTupA (gsCons (gAsg 3) (gsCons (gAsg 4) gsNil))) fYes (share (f2 (.ex (share (f2 (.sl 3) (.sl 2) mulD))) (.sl 4) modD)) [3, 4])))] tupleD)) fNil)
theorem e_g_often (n : Nat) : sfOf (RR.tbl (n + 1)) d_g_often = b_g_often n := by kernel_rfl
theorem r_g_often (n : Nat) (a0 a1 a2 : E2.Slot) : (RR.at_ (n + 2) d_g_often).run [a0, a1, a2] = bodyR [false, false, false] [a0, a1, a2] (b_g_often n [a0, a1, a2, .dead, .dead]) := by rw [run_at, e_g_often]; rfl
@[simp] theorem c_g_often : d_g_often.cst = [false, false, false] := rfl
/-- g_order -/
def b_g_order (n : Nat) : SF := (fSeq2 (fAsg 2 (fC (.int 1))) (fSeq2 (fFor (fZip2 (eName 1) (eName 0)) (gTupA (gsCons (gAsg 3) (gsCons (gAsg 4) gsNil))) (fSeq2 (fAsg 2 (fCall (RR.at_ (n + 1) d_least_of) [(.sl 2), (.ex (share (f2 (.sl 4) (.ex (share (fCall (RR.at_ (n + 1) d_common_of) [(.sl 3), (.sl 4)]))) fdivD)))])) fNil)) (fSeq2 (fRet (fName 2)) fNil)))
theorem e_g_order (n : Nat) : sfOf (RR.tbl (n + 1)) d_g_order = b_g_order n := by kernel_rfl
theorem r_g_order (n : Nat) (a0 a1 : E2.Slot) : (RR.at_ (n + 2) d_g_order).run [a0, a1] = bodyR [false, false] [a0, a1] (b_g_order n [a0, a1, .dead, .dead, .dead]) := by rw [run_at, e_g_order]; rfl
@[simp] theorem c_g_order : d_g_order.cst = [false, false] := rfl
/-- is_lot_in -/
def b_is_lot_in (n : Nat) : SF := (fSeq2 (fIf (fOrT (fNotT (fTr (.ex (share (fIsi [.tuple] (.sl 1)))))) (fOrT (fTe (f2 (.sl 1) (.ex (share (fSeq (fun ds => .sh (.tup ds)) []))) eqD)) (fNotT (fTr (.ex (share (fB [(.ex (share (fLc (fItems (eName 1)) (gAsg 2) fYes (share (fCall (RR.at_ (n + 1) d_is_member_in) [(.sl 0), (.sl 2)])) [2])))] allD))))))) (fSeq2 (fRet (fC (.bl false))) fNil) fNil) (fSeq2 (fRet (fCall (RR.at_ (n + 1) d_ascends) [(.sl 1)])) fNil))
theorem e_is_lot_in (n : Nat) : sfOf (RR.tbl (n + 1)) d_is_lot_in = b_is_lot_in n := by kernel_rfl
theorem r_is_lot_in (n : Nat) (a0 a1 : E2.Slot) : (RR.at_ (n + 2) d_is_lot_in).run [a0, a1] = bodyR [false, false] [a0, a1] (b_is_lot_in n [a0, a1, .dead]) := by rw [run_at, e_is_lot_in]; rfl
@[simp] theorem c_is_lot_in : d_is_lot_in.cst = [false, false] := rfl
/-- sure_lot -/
def b_sure_lot (n : Nat) : SF := (fSeq2 (fAsg 2 (fCall (RR.at_ (n + 1) d_tupled) [(.sl 1)])) (fSeq2 (fIf (fNotT (fTr (.ex (share (fCall (RR.at_ (n + 1) d_is_lot_in) [(.sl 0), (.sl 2)]))))) (fSeq2 (fRaise "Unfit") fNil) fNil) (fSeq2 (fRet (fName 2)) fNil)))
theorem e_sure_lot (n : Nat) : sfOf (RR.tbl (n + 1)) d_sure_lot = b_sure_lot n := by kernel_rfl
theorem r_sure_lot (n : Nat) (a0 a1 : E2.Slot) : (RR.at_ (n + 2) d_sure_lot).run [a0, a1] = bodyR [false, false] [a0, a1] (b_sure_lot n [a0, a1, .dead]) := by rw [run_at, e_sure_lot]; rfl
@[simp] theorem c_sure_lot : d_sure_lot.cst = [false, false] := rfl
/-- sum_of_lots -/
def b_sum_of_lots (n : Nat) : SF := (fSeq2 (fAsg 3 fDct0) (fSeq2 (fFor (fItems (eName 1)) (gAsg 4) (fSeq2 (fFor (fItems (eName 2)) (gAsg 5) (fSeq2 (fSet 3 (share (fCall (RR.at_ (n + 1) d_g_plus) [(.sl 0), (.sl 4), (.sl 5)])) (share (fC (.bl true)))) fNil)) fNil)) (fSeq2 (fRet (fB [(.ex (share (fB [(.sl 3)] sortedD)))] tupleD)) fNil)))
theorem e_sum_of_lots (n : Nat) : sfOf (RR.tbl (n + 1)) d_sum_of_lots = b_sum_of_lots n := by kernel_rfl
theorem r_sum_of_lots (n : Nat) (a0 a1 a2 : E2.Slot) : (RR.at_ (n + 2) d_sum_of_lots).run [a0, a1, a2] = bodyR [false, false, false] [a0, a1, a2] (b_sum_of_lots n [a0, a1, a2, .dead, .dead, .dead]) := by rw [run_at, e_sum_of_lots]; rfl
@[simp] theorem c_sum_of_lots : d_sum_of_lots.cst = [false, false, false] := rfl
/-- span_of -/
def b_span_of (n : Nat) : SF := (fSeq2 (fParV 2 3 (fD1 (share (fCall (RR.at_ (n + 1) d_nought_of) [(.sl 0)])) (share (fC (.bl true)))) (fSeq (fun ds => .ow (.lst ds)) [(share (fCall (RR.at_ (n + 1) d_nought_of) [(.sl 0)]))])) (fSeq2 (whileS (fTe (f2 (.sl 3) (.ex (share (fSeq (fun ds => .ow (.lst ds)) []))) neD)) (fSeq2 (fAsg 4 (fSeq (fun ds => .ow (.lst ds)) [])) (fSeq2 (fFor (fItems (eName 3)) (gAsg 5) (fSeq2 (fFor (fItems (eName 1)) (gAsg 6) (fSeq2 (fAsg 7 (fCall (RR.at_ (n + 1) d_g_plus) [(.sl 0), (.sl 5), (.sl 6)])) (fSeq2 (fIf (fTe (f2 (.sl 7) (.sl 2) notInD)) (fSeq2 (fSet 2 (eName 7) (share (fC (.bl true)))) (fSeq2 (fDrop (share (fMeth 4 [(eName 7)] mAppend))) fNil)) fNil) fNil))) fNil)) (fSeq2 (fAsg 3 (fName 4)) fNil))) bigN) (fSeq2 (fRet (fB [(.ex (share (fB [(.sl 2)] sortedD)))] tupleD)) fNil)))
theorem e_span_of (n : Nat) : sfOf (RR.tbl (n + 1)) d_span_of = b_span_of n := by kernel_rfl
theorem r_span_of (n : Nat) (a0 a1 : E2.Slot) : (RR.at_ (n + 2) d_span_of).run [a0, a1] = bodyR [false, false] [a0, a1] (b_span_of n [a0, a1, .dead, .dead, .dead, .dead, .dead, .dead]) := by rw [run_at, e_span_of]; rfl
@[simp] theorem c_span_of : d_span_of.cst = [false, false] := rfl
/-- is_closed -/
def b_is_closed (n : Nat) : SF := (fSeq2 (fRet (fAndV (f2 (.ex (share (f2 (.sl 1) (.ex (share (fC (.int 0)))) ixD))) (.ex (share (fCall (RR.at_ (n + 1) d_nought_of) [(.sl 0)]))) eqD) (f2 (.ex (share (fB [(.ex (share (fCall (RR.at_ (n + 1) d_span_of) [(.sl 0), (.sl 1)])))] lenD))) (.ex (share (fB [(.sl 1)] lenD))) eqD))) fNil)
theorem e_is_closed (n : Nat) : sfOf (RR.tbl (n + 1)) d_is_closed = b_is_closed n := by kernel_rfl
theorem r_is_closed (n : Nat) (a0 a1 : E2.Slot) : (RR.at_ (n + 2) d_is_closed).run [a0, a1] = bodyR [false, false] [a0, a1] (b_is_closed n [a0, a1]) := by rw [run_at, e_is_closed]; rfl
@[simp] theorem c_is_closed : d_is_closed.cst = [false, false] := rfl
/-- lot_sum -/
def b_lot_sum (n : Nat) : SF := (fSeq2 (fAsg 3 (fCall (RR.at_ (n + 1) d_sure_group) [(.sl 0)])) (fSeq2 (fAsg 4 (fCall (RR.at_ (n + 1) d_sure_lot) [(.sl 3), (.sl 1)])) (fSeq2 (fRet (fCall (RR.at_ (n + 1) d_sum_of_lots) [(.sl 3), (.sl 4), (.ex (share (fCall (RR.at_ (n + 1) d_sure_lot) [(.sl 3), (.sl 2)])))])) fNil)))
theorem e_lot_sum (n : Nat) : sfOf (RR.tbl (n + 1)) d_lot_sum = b_lot_sum n := by kernel_rfl
theorem r_lot_sum (n : Nat) (a0 a1 a2 : E2.Slot) : (RR.at_ (n + 2) d_lot_sum).run [a0, a1, a2] = bodyR [false, false, false] [a0, a1, a2] (b_lot_sum n [a0, a1, a2, .dead, .dead]) := by rw [run_at, e_lot_sum]; rfl
@[simp] theorem c_lot_sum : d_lot_sum.cst = [false, false, false] := rfl
/-- is_subgroup -/
def b_is_subgroup (n : Nat) : SF := (fSeq2 (fAsg 2 (fCall (RR.at_ (n + 1) d_sure_group) [(.sl 0)])) (fSeq2 (fRet (fCall (RR.at_ (n + 1) d_is_closed) [(.sl 2), (.ex (share (fCall (RR.at_ (n + 1) d_sure_lot) [(.sl 2), (.sl 1)])))])) fNil))
theorem e_is_subgroup (n : Nat) : sfOf (RR.tbl (n + 1)) d_is_subgroup = b_is_subgroup n := by kernel_rfl
theorem r_is_subgroup (n : Nat) (a0 a1 : E2.Slot) : (RR.at_ (n + 2) d_is_subgroup).run [a0, a1] = bodyR [false, false] [a0, a1] (b_is_subgroup n [a0, a1, .dead]) := by rw [run_at, e_is_subgroup]; rfl
@[simp] theorem c_is_subgroup : d_is_subgroup.cst = [false, false] := rfl
/-- is_stretch_in -/
def b_is_stretch_in (n : Nat) : SF := (fSeq2 (fIf (fOrT (fNotT (fTr (.ex (share (fCall (RR.at_ (n + 1) d_is_long) [(.sl 1), (.ex (share (fC (.int 2))))]))))) (fNotT (fTr (.ex (share (fCall (RR.at_ (n + 1) d_is_member_in) [(.sl 0), (.ex (share (f2 (.sl 1) (.ex (share (fC (.int 0)))) ixD)))])))))) (fSeq2 (fRet (fC (.bl false))) fNil) fNil) (fSeq2 (fRet (fCall (RR.at_ (n + 1) d_is_within) [(.ex (share (f2 (.sl 1) (.ex (share (fC (.int 1)))) ixD))), (.ex (share (fC (.int 2)))), (.ex (share (fCall (RR.at_ (n + 1) d_g_order) [(.sl 0), (.ex (share (f2 (.sl 1) (.ex (share (fC (.int 0)))) ixD)))])))])) fNil))
theorem e_is_stretch_in (n : Nat) : sfOf (RR.tbl (n + 1)) d_is_stretch_in = b_is_stretch_in n := by kernel_rfl
theorem r_is_stretch_in (n : Nat) (a0 a1 : E2.Slot) : (RR.at_ (n + 2) d_is_stretch_in).run [a0, a1] = bodyR [false, false] [a0, a1] (b_is_stretch_in n [a0, a1]) := by rw [run_at, e_is_stretch_in]; rfl
@[simp] theorem c_is_stretch_in : d_is_stretch_in.cst = [false, false] := rfl
/-- sure_stretch -/
def b_sure_stretch (n : Nat) : SF := (fSeq2 (fAsg 2 (fCall (RR.at_ (n + 1) d_tupled) [(.sl 1)])) (fSeq2 (fIf (fNotT (fTr (.ex (share (fCall (RR.at_ (n + 1) d_is_stretch_in) [(.sl 0), (.sl 2)]))))) (fSeq2 (fRaise "Unfit") fNil) fNil) (fSeq2 (fRet (fName 2)) fNil)))
theorem e_sure_stretch (n : Nat) : sfOf (RR.tbl (n + 1)) d_sure_stretch = b_sure_stretch n := by kernel_rfl
theorem r_sure_stretch (n : Nat) (a0 a1 : E2.Slot) : (RR.at_ (n + 2) d_sure_stretch).run [a0, a1] = bodyR [false, false] [a0, a1] (b_sure_stretch n [a0, a1, .dead]) := by rw [run_at, e_sure_stretch]; rfl
@[simp] theorem c_sure_stretch : d_sure_stretch.cst = [false, false] := rfl
/-- lot_of_stretch -/
def b_lot_of_stretch (n : Nat) : SF := (fSeq2 (fRet (fB [(.ex (share (fB [(.ex (share (fLc (fRng1 (share (f2 (.sl 1) (.ex (share (fC (.int 1)))) ixD))) (gAsg 2) fYes (share (fCall (RR.at_ (n + 1) d_g_often) [(.sl 0), (.ex (share (f2 (.sl 1) (.ex (share (fC (.int 0)))) ixD))), (.sl 2)])) [2])))] sortedD)))] tupleD)) fNil)
theorem e_lot_of_stretch (n : Nat) : sfOf (RR.tbl (n + 1)) d_lot_of_stretch = b_lot_of_stretch n := by kernel_rfl
theorem r_lot_of_stretch (n : Nat) (a0 a1 : E2.Slot) : (RR.at_ (n + 2) d_lot_of_stretch).run [a0, a1] = bodyR [false, false] [a0, a1] (b_lot_of_stretch n [a0, a1, .dead]) := by rw [run_at, e_lot_of_stretch]; rfl
@[simp] theorem c_lot_of_stretch : d_lot_of_stretch.cst = [false, false] := rfl
/-- is_round_stretch -/
def b_is_round_stretch (n : Nat) : SF := (fSeq2 (fRet (f2 (.ex (share (fCall (RR.at_ (n + 1) d_g_order) [(.sl 0), (.ex (share (f2 (.sl 1) (.ex (share (fC (.int 0)))) ixD)))]))) (.ex (share (f2 (.sl 1) (.ex (share (fC (.int 1)))) ixD))) eqD)) fNil)
theorem e_is_round_stretch (n : Nat) : sfOf (RR.tbl (n + 1)) d_is_round_stretch = b_is_round_stretch n := by kernel_rfl
theorem r_is_round_stretch (n : Nat) (a0 a1 : E2.Slot) : (RR.at_ (n + 2) d_is_round_stretch).run [a0, a1] = bodyR [false, false] [a0, a1] (b_is_round_stretch n [a0, a1]) := by rw [run_at, e_is_round_stretch]; rfl
@[simp] theorem c_is_round_stretch : d_is_round_stretch.cst = [false, false] := rfl
/-- is_stretch -/
def b_is_stretch (n : Nat) : SF := (fSeq2 (fRet (fCall (RR.at_ (n + 1) d_is_stretch_in) [(.ex (share (fCall (RR.at_ (n + 1) d_sure_group) [(.sl 0)]))), (.sl 1)])) fNil)
theorem e_is_stretch (n : Nat) : sfOf (RR.tbl (n + 1)) d_is_stretch = b_is_stretch n := by kernel_rfl
theorem r_is_stretch (n : Nat) (a0 a1 : E2.Slot) : (RR.at_ (n + 2) d_is_stretch).run [a0, a1] = bodyR [false, false] [a0, a1] (b_is_stretch n [a0, a1]) := by rw [run_at, e_is_stretch]; rfl
@[simp] theorem c_is_stretch : d_is_stretch.cst = [false, false] := rfl
/-- stretch_lot -/
def b_stretch_lot (n : Nat) : SF := (fSeq2 (fAsg 2 (fCall (RR.at_ (n + 1) d_sure_group) [(.sl 0)])) (fSeq2 (fRet (fCall (RR.at_ (n + 1) d_lot_of_stretch) [(.sl 2), (.ex (share (fCall (RR.at_ (n + 1) d_sure_stretch) [(.sl 2), (.sl 1)])))])) fNil))
theorem e_stretch_lot (n : Nat) : sfOf (RR.tbl (n + 1)) d_stretch_lot = b_stretch_lot n := by kernel_rfl
theorem r_stretch_lot (n : Nat) (a0 a1 : E2.Slot) : (RR.at_ (n + 2) d_stretch_lot).run [a0, a1] = bodyR [false, false] [a0, a1] (b_stretch_lot n [a0, a1, .dead]) := by rw [run_at, e_stretch_lot]; rfl
@[simp] theorem c_stretch_lot : d_stretch_lot.cst = [false, false] := rfl
/-- does_come_round -/
def b_does_come_round (n : Nat) : SF := (fSeq2 (fAsg 2 (fCall (RR.at_ (n + 1) d_sure_group) [(.sl 0)])) (fSeq2 (fRet (fCall (RR.at_ (n + 1) d_is_round_stretch) [(.sl 2), (.ex (share (fCall (RR.at_ (n + 1) d_sure_stretch) [(.sl 2), (.sl 1)])))])) fNil))
theorem e_does_come_round (n : Nat) : sfOf (RR.tbl (n + 1)) d_does_come_round = b_does_come_round n := by kernel_rfl
theorem r_does_come_round (n : Nat) (a0 a1 : E2.Slot) : (RR.at_ (n + 2) d_does_come_round).run [a0, a1] = bodyR [false, false] [a0, a1] (b_does_come_round n [a0, a1, .dead]) := by rw [run_at, e_does_come_round]; rfl
@[simp] theorem c_does_come_round : d_does_come_round.cst = [false, false] := rfl
/-- stretch_parts -/
def b_stretch_parts (n : Nat) : SF := (fSeq2 (fAsg 2 (fCall (RR.at_ (n + 1) d_sure_group) [(.sl 0)])) (fSeq2 (fAsgT (share (fCall (RR.at_ (n + 1) d_sure_stretch) [(.sl 2), (.sl 1)])) (gTupA (gsCons (gAsg 5) (gsCons (gAsg 6) gsNil)))) (fSeq2 (fAsg 3 (fSeq (fun ds => .ow (.lst ds)) [])) (fSeq2 (fFor (fItems (share (fCall (RR.at_ (n + 1) d_prime_row) [(.sl 6)]))) (gAsg 4) (fSeq2 (fDrop (share (fMeth 3 [(share (fSeq (fun ds => .sh (.tup ds)) [(eName 5), (eName 4)]))] mAppend))) (fSeq2 (fAsg 5 (fCall (RR.at_ (n + 1) d_g_often) [(.sl 2), (.sl 5), (.sl 4)])) fNil))) (fSeq2 (fRet (fB [(.sl 3)] tupleD)) fNil)))))
theorem e_stretch_parts (n : Nat) : sfOf (RR.tbl (n + 1)) d_stretch_parts = b_stretch_parts n := by kernel_rfl
theorem r_stretch_parts (n : Nat) (a0 a1 : E2.Slot) : (RR.at_ (n + 2) d_stretch_parts).run [a0, a1] = bodyR [false, false] [a0, a1] (b_stretch_parts n [a0, a1, .dead, .dead, .dead, .dead, .dead]) := by rw [run_at, e_stretch_parts]; rfl
@[simp] theorem c_stretch_parts : d_stretch_parts.cst = [false, false] := rfl
/-- lot_stretches -/
def b_lot_stretches (n : Nat) : SF := (fSeq2 (fAsg 2 (fCall (RR.at_ (n + 1) d_sure_group) [(.sl 0)])) (fSeq2 (fAsg 3 (fCall (RR.at_ (n + 1) d_sure_lot) [(.sl 2), (.sl 1)])) (fSeq2 (fAsg 4 (fLc (fItems (eName 3)) (gAsg 5) (fTe (fChain (.ex (share (fC (.int 2)))) (.ex (share (fB [(.sl 3)] lenD))) (.ex (share (fCall (RR.at_ (n + 1) d_g_order) [(.sl 2), (.sl 5)]))) leD leD)) (share (fSeq (fun ds => .sh (.tup ds)) [(eName 5), (share (fB [(.sl 3)] lenD))])) [5])) (fSeq2 (fRet (fLc (fItems (eName 4)) (gAsg 5) (fTe (f2 (.ex (share (fCall (RR.at_ (n + 1) d_lot_of_stretch) [(.sl 2), (.sl 5)]))) (.sl 3) eqD)) (eName 5) [5])) fNil))))
theorem e_lot_stretches (n : Nat) : sfOf (RR.tbl (n + 1)) d_lot_stretches = b_lot_stretches n := by kernel_rfl
theorem r_lot_stretches (n : Nat) (a0 a1 : E2.Slot) : (RR.at_ (n + 2) d_lot_stretches).run [a0, a1] = bodyR [false, false] [a0, a1] (b_lot_stretches n [a0, a1, .dead, .dead, .dead, .dead]) := by rw [run_at, e_lot_stretches]; rfl
@[simp] theorem c_lot_stretches : d_lot_stretches.cst = [false, false] := rfl
/-- stretch_times -/
def b_stretch_times (n : Nat) : SF := (fSeq2 (fAsg 3 (fCall (RR.at_ (n + 1) d_sure_group) [(.sl 0)])) (fSeq2 (fAsg 4 (fCall (RR.at_ (n + 1) d_sure_stretch) [(.sl 3), (.sl 1)])) (fSeq2 (fRet (fCall (RR.at_ (n + 1) d_sure_stretch) [(.sl 3), (.ex (share (fSeq (fun ds => .sh (.tup ds)) [(share (fCall (RR.at_ (n + 1) d_g_often) [(.sl 3), (.ex (share (f2 (.sl 4) (.ex (share (fC (.int 0)))) ixD))), (.ex (share (fCall (RR.at_ (n + 1) d_sure_within) [(.sl 2), (.ex (share (fC (.int 1)))), (.ex (share (fC (.int 1000000))))])))])), (share (f2 (.sl 4) (.ex (share (fC (.int 1)))) ixD))])))])) fNil)))
theorem e_stretch_times (n : Nat) : sfOf (RR.tbl (n + 1)) d_stretch_times = b_stretch_times n := by kernel_rfl
theorem r_stretch_times (n : Nat) (a0 a1 a2 : E2.Slot) : (RR.at_ (n + 2) d_stretch_times).run [a0, a1, a2] = bodyR [false, false, false] [a0, a1, a2] (b_stretch_times n [a0, a1, a2, .dead, .dead]) := by rw [run_at, e_stretch_times]; rfl
@[simp] theorem c_stretch_times : d_stretch_times.cst = [false, false, false] := rfl
/-- _law_box -/
def b__law_box (n : Nat) : SF := (fSeq2 (fAsg 2 (fIfV (fTe (f2 (.sl 1) (.ex (share (fB [(.sl 0)] lenD))) ltD)) (f2 (.sl 0) (.sl 1) ixD) (fC (.int 0)))) (fSeq2 (fRet (fSeq (fun ds => .ow (.lst ds)) [(share (f2 (.ex (share (fB [(.sl 2)] absD))) (.ex (share (fB [(.ex (share (f2 (.ex (share (fB [(.sl 2)] absD))) (.ex (share (f2 (.ex (share (fC (.int 10)))) (.ex (share (fC (.int 18)))) powD))) geD)))] intD))) mulD)), (share (f2 (.ex (share (f2 (.ex (share (f2 (.ex (share (fB [(.sl 2)] intD))) (.ex (share (fC (.int 2305843009213693951)))) modD))) (.ex (share (f2 (.ex (share (fC (.int 39373)))) (.sl 1) mulD))) addD))) (.ex (share (fC (.int 25172003)))) addD)), (share (fC (.int 0)))])) fNil))
theorem e__law_box (n : Nat) : sfOf (RR.tbl (n + 1)) d__law_box = b__law_box n := by kernel_rfl
theorem r__law_box (n : Nat) (a0 a1 : E2.Slot) : (RR.at_ (n + 2) d__law_box).run [a0, a1] = bodyR [false, false] [a0, a1] (b__law_box n [a0, a1, .dead]) := by rw [run_at, e__law_box]; rfl
@[simp] theorem c__law_box : d__law_box.cst = [false, false] := rfl
/-- _law_take -/
def b__law_take (n : Nat) : SF := (fSeq2 (fIf (fTe (f2 (.ex (share (f2 (.sl 0) (.ex (share (fC (.int 0)))) ixD))) (.ex (share (fC (.int 0)))) gtD)) (fSeq2 (fAsg 5 (f2 (.ex (share (fB [(.ex (share (f2 (.sl 0) (.ex (share (fC (.int 0)))) ixD)))] intD))) (.sl 1) modD)) (fSeq2 (fSet 0 (share (fC (.int 0))) (share (f2 (.ex (share (f2 (.sl 0) (.ex (share (fC (.int 0)))) ixD))) (.sl 1) fdivD))) (fSeq2 (fRet (fName 5)) fNil))) fNil) (fSeq2 (fSet 0 (share (fC (.int 2))) (share (f2 (.ex (share (f2 (.sl 0) (.ex (share (fC (.int 2)))) ixD))) (.ex (share (fC (.int 1)))) addD))) (fSeq2 (fAsg 2 (f2 (.ex (share (fB [(.ex (share (f2 (.ex (share (f2 (.ex (share (f2 (.sl 0) (.ex (share (fC (.int 1)))) ixD))) (.ex (share (f2 (.ex (share (fC (.int 48271)))) (.ex (share (f2 (.sl 0) (.ex (share (fC (.int 2)))) ixD))) mulD))) addD))) (.ex (share (f2 (.ex (share (fC (.int 39373)))) (.ex (share (f2 (.sl 0) (.ex (share (fC (.int 2)))) ixD))) addD))) mulD)))] intD))) (.ex (share (fC (.int 2147483647)))) modD)) (fSeq2 (fAsg 3 (f2 (.ex (share (f2 (.ex (share (fB [(.sl 2)] intD))) (.ex (share (fC (.int 40009)))) modD))) (.ex (share (fC (.int 7)))) addD)) (fSeq2 (fAsg 4 (f2 (.ex (share (fB [(.ex (share (f2 (.ex (share (f2 (.ex (share (f2 (.sl 2) (.ex (share (f2 (.sl 0) (.ex (share (fC (.int 2)))) ixD))) addD))) (.ex (share (f2 (.ex (share (f2 (.sl 0) (.ex (share (fC (.int 1)))) ixD))) (.ex (share (fC (.int 1000003)))) fdivD))) addD))) (.sl 3) mulD)))] intD))) (.ex (share (fC (.int 2147483629)))) modD)) (fSeq2 (fRet (f2 (.ex (share (fB [(.ex (share (f2 (.ex (share (f2 (.ex (share (fB [(.ex (share (f2 (.ex (share (f2 (.sl 4) (.ex (share (fC (.int 48271)))) mulD))) (.sl 2) addD)))] intD))) (.ex (share (fC (.int 2147483587)))) modD))) (.ex (share (fC (.int 64)))) fdivD)))] intD))) (.sl 1) modD)) fNil))))))
theorem e__law_take (n : Nat) : sfOf (RR.tbl (n + 1)) d__law_take = b__law_take n := by kernel_rfl
theorem r__law_take (n : Nat) (a0 a1 : E2.Slot) : (RR.at_ (n + 2) d__law_take).run [a0, a1] = bodyR [true, false] [a0, a1] (b__law_take n [a0, a1, .dead, .dead, .dead, .dead]) := by rw [run_at, e__law_take]; rfl
@[simp] theorem c__law_take : d__law_take.cst = [true, false] := rfl
/-- _law_cells -/
def b__law_cells (n : Nat) : SF := (fSeq2 (fAsg 2 (fOrV (fB [(.ex (share (fSl (.sl 0) fNoP (fPart (eName 1)))))] listD) (fSeq (fun ds => .ow (.lst ds)) [(share (fC (.int 0)))]))) (fSeq2 (fFor (fEnum (share (fSl (.sl 0) (fPart (eName 1)) (fPart (share (fC (.int 63))))))) (gTupA (gsCons (gAsg 3) (gsCons (gAsg 4) gsNil))) (fSeq2 (fAsg 5 (f2 (.ex (share (fB [(.sl 3)] intD))) (.sl 1) modD)) (fSeq2 (fSet 2 (eName 5) (share (f2 (.ex (share (f2 (.sl 2) (.sl 5) ixD))) (.ex (share (f2 (.sl 4) (.ex (share (f2 (.sl 3) (.ex (share (fC (.int 2)))) addD))) mulD))) addD))) fNil))) (fSeq2 (fRet (fName 2)) fNil)))
theorem e__law_cells (n : Nat) : sfOf (RR.tbl (n + 1)) d__law_cells = b__law_cells n := by kernel_rfl
theorem r__law_cells (n : Nat) (a0 a1 : E2.Slot) : (RR.at_ (n + 2) d__law_cells).run [a0, a1] = bodyR [false, false] [a0, a1] (b__law_cells n [a0, a1, .dead, .dead, .dead, .dead]) := by rw [run_at, e__law_cells]; rfl
@[simp] theorem c__law_cells : d__law_cells.cst = [false, false] := rfl
/-- _law_of -/
def b__law_of (n : Nat) : SF := (fSeq2 (fRet (f2 (.sl 1) (.ex (share (fCall (RR.at_ (n + 1) d__law_take) [(.sl 0), (.ex (share (fB [(.sl 1)] lenD)))]))) ixD)) fNil)
theorem e__law_of (n : Nat) : sfOf (RR.tbl (n + 1)) d__law_of = b__law_of n := by kernel_rfl
theorem r__law_of (n : Nat) (a0 a1 : E2.Slot) : (RR.at_ (n + 2) d__law_of).run [a0, a1] = bodyR [true, false] [a0, a1] (b__law_of n [a0, a1]) := by rw [run_at, e__law_of]; rfl
@[simp] theorem c__law_of : d__law_of.cst = [true, false] := rfl
/-- _law_same -/
def b__law_same (n : Nat) : SF := (fSeq2 (fIf (fTr (.ex (share (fIsi [.list, .tuple] (.sl 1))))) (fSeq2 (fIf (fOrT (fTe (f2 (.ex (share (fIsi [.list] (.sl 0)))) (.ex (share (fIsi [.list] (.sl 1)))) neD)) (fTe (f2 (.ex (share (fIsi [.tuple] (.sl 0)))) (.ex (share (fIsi [.tuple] (.sl 1)))) neD))) (fSeq2 (fRet (fC (.bl false))) fNil) fNil) (fSeq2 (fRet (fAndV (f2 (.ex (share (fB [(.sl 0)] lenD))) (.ex (share (fB [(.sl 1)] lenD))) eqD) (fB [(.ex (share (fLc (fZip2 (eName 0) (eName 1)) (gTupA (gsCons (gAsg 2) (gsCons (gAsg 3) gsNil))) fYes (share (fCall (RR.at_ (n + 1) d__law_same) [(.sl 2), (.sl 3)])) [2, 3])))] allD))) fNil)) fNil) (fSeq2 (fIf (fTe (f2 (.sl 1) (.ex (share (fC .non))) isD)) (fSeq2 (fRet (f2 (.sl 0) (.ex (share (fC .non))) isD)) fNil) fNil) (fSeq2 (fIf (fTr (.ex (share (fIsi [.bool, .str] (.sl 1))))) (fSeq2 (fRet (fAndV (f2 (.ex (share (fIsi [.bool] (.sl 0)))) (.ex (share (fIsi [.bool] (.sl 1)))) eqD) (fAndV (f2 (.ex (share (fIsi [.str] (.sl 0)))) (.ex (share (fIsi [.str] (.sl 1)))) eqD) (f2 (.sl 0) (.sl 1) eqD)))) fNil) fNil) (fSeq2 (fRet (fAndV (fIsi [.int] (.sl 0)) (fAndV (fNotV (.ex (share (fIsi [.bool] (.sl 0))))) (f2 (.sl 0) (.sl 1) eqD)))) fNil))))
theorem e__law_same (n : Nat) : sfOf (RR.tbl (n + 1)) d__law_same = b__law_same n := by kernel_rfl
theorem r__law_same (n : Nat) (a0 a1 : E2.Slot) : (RR.at_ (n + 2) d__law_same).run [a0, a1] = bodyR [false, false] [a0, a1] (b__law_same n [a0, a1, .dead, .dead]) := by rw [run_at, e__law_same]; rfl
@[simp] theorem c__law_same : d__law_same.cst = [false, false] := rfl
/-- _law_groups -/
def b__law_groups (n : Nat) : SF := (fSeq2 (fRet (fSeq (fun ds => .ow (.lst ds)) [(share (fSeq (fun ds => .sh (.tup ds)) [(share (fC (.int 2)))])), (share (fSeq (fun ds => .sh (.tup ds)) [(share (fC (.int 3)))])), (share (fSeq (fun ds => .sh (.tup ds)) [(share (fC (.int 4)))])), (share (fSeq (fun ds => .sh (.tup ds)) [(share (fC (.int 2))), (share (fC (.int 2)))])), (share (fSeq (fun ds => .sh (.tup ds)) [(share (fC (.int 5)))])), (share (fSeq (fun ds => .sh (.tup ds)) [(share (fC (.int 6)))])), (share (fSeq (fun ds => .sh (.tup ds)) [(share (fC (.int 7)))])), (share (fSeq (fun ds => .sh (.tup ds)) [(share (fC (.int 8)))])), (share (fSeq (fun ds => .sh (.tup ds)) [(share (fC (.int 2))), (share (fC (.int 4)))])), (share (fSeq (fun ds => .sh (.tup ds)) [(share (fC (.int 2))), (share (fC (.int 2))), (share (fC (.int 2)))])), (share (fSeq (fun ds => .sh (.tup ds)) [(share (fC (.int 9)))])), (share (fSeq (fun ds => .sh (.tup ds)) [(share (fC (.int 3))), (share (fC (.int 3)))])), (share (fSeq (fun ds => .sh (.tup ds)) [(share (fC (.int 10)))])), (share (fSeq (fun ds => .sh (.tup ds)) [(share (fC (.int 11)))])), (share (fSeq (fun ds => .sh (.tup ds)) [(share (fC (.int 12)))])), (share (fSeq (fun ds => .sh (.tup ds)) [(share (fC (.int 2))), (share (fC (.int 6)))])), (share (fSeq (fun ds => .sh (.tup ds)) [(share (fC (.int 13)))])), (share (fSeq (fun ds => .sh (.tup ds)) [(share (fC (.int 15)))])), (share (fSeq (fun ds => .sh (.tup ds)) [(share (fC (.int 16)))])), (share (fSeq (fun ds => .sh (.tup ds)) [(share (fC (.int 4))), (share (fC (.int 4)))])), (share (fSeq (fun ds => .sh (.tup ds)) [(share (fC (.int 2))), (share (fC (.int 8)))])), (share (fSeq (fun ds => .sh (.tup ds)) [(share (fC (.int 2))), (share (fC (.int 2))), (share (fC (.int 4)))])), (share (fSeq (fun ds => .sh (.tup ds)) [(share (fC (.int 2))), (share (fC (.int 2))), (share (fC (.int 2))), (share (fC (.int 2)))])), (share (fSeq (fun ds => .sh (.tup ds)) [(share (fC (.int 18)))])), (share (fSeq (fun ds => .sh (.tup ds)) [(share (fC (.int 3))), (share (fC (.int 6)))])), (share (fSeq (fun ds => .sh (.tup ds)) [(share (fC (.int 20)))])), (share (fSeq (fun ds => .sh (.tup ds)) [(share (fC (.int 2))), (share (fC (.int 10)))])), (share (fSeq (fun ds => .sh (.tup ds)) [(share (fC (.int 24)))])), (share (fSeq (fun ds => .sh (.tup ds)) [(share (fC (.int 2))), (share (fC (.int 12)))])), (share (fSeq (fun ds => .sh (.tup ds)) [(share (fC (.int 2))), (share (fC (.int 2))), (share (fC (.int 6)))])), (share (fSeq (fun ds => .sh (.tup ds)) [(share (fC (.int 25)))])), (share (fSeq (fun ds => .sh (.tup ds)) [(share (fC (.int 5))), (share (fC (.int 5)))])), (share (fSeq (fun ds => .sh (.tup ds)) [(share (fC (.int 27)))])), (share (fSeq (fun ds => .sh (.tup ds)) [(share (fC (.int 3))), (share (fC (.int 9)))])), (share (fSeq (fun ds => .sh (.tup ds)) [(share (fC (.int 3))), (share (fC (.int 3))), (share (fC (.int 3)))])), (share (fSeq (fun ds => .sh (.tup ds)) [(share (fC (.int 30)))])), (share (fSeq (fun ds => .sh (.tup ds)) [(share (fC (.int 32)))])), (share (fSeq (fun ds => .sh (.tup ds)) [(share (fC (.int 2))), (share (fC (.int 16)))])), (share (fSeq (fun ds => .sh (.tup ds)) [(share (fC (.int 4))), (share (fC (.int 8)))])), (share (fSeq (fun ds => .sh (.tup ds)) [(share (fC (.int 36)))])), (share (fSeq (fun ds => .sh (.tup ds)) [(share (fC (.int 6))), (share (fC (.int 6)))]))])) fNil)
theorem e__law_groups (n : Nat) : sfOf (RR.tbl (n + 1)) d__law_groups = b__law_groups n := by kernel_rfl
theorem r__law_groups (n : Nat) : (RR.at_ (n + 2) d__law_groups).run [] = bodyR [] [] (b__law_groups n []) := by rw [run_at, e__law_groups]; rfl
@[simp] theorem c__law_groups : d__law_groups.cst = [] := rfl
/-- _law_size -/
def b__law_size (n : Nat) : SF := (fSeq2 (fAsg 1 (fC (.int 1))) (fSeq2 (fFor (fItems (eName 0)) (gAsg 2) (fSeq2 (fAsg 1 (f2 (.sl 1) (.sl 2) mulD)) fNil)) (fSeq2 (fRet (fName 1)) fNil)))
theorem e__law_size (n : Nat) : sfOf (RR.tbl (n + 1)) d__law_size = b__law_size n := by kernel_rfl
theorem r__law_size (n : Nat) (a0 : E2.Slot) : (RR.at_ (n + 2) d__law_size).run [a0] = bodyR [false] [a0] (b__law_size n [a0, .dead, .dead]) := by rw [run_at, e__law_size]; rfl
@[simp] theorem c__law_size : d__law_size.cst = [false] := rfl
/-- _law_group -/
def b__law_group (n : Nat) : SF := (fSeq2 (fRet (fCall (RR.at_ (n + 1) d__law_of) [(.sl 0), (.ex (share (fLc (fItems (share (fCall (RR.at_ (n + 1) d__law_groups) []))) (gAsg 2) (fTe (f2 (.ex (share (fCall (RR.at_ (n + 1) d__law_size) [(.sl 2)]))) (.sl 1) leD)) (eName 2) [2])))])) fNil)
theorem e__law_group (n : Nat) : sfOf (RR.tbl (n + 1)) d__law_group = b__law_group n := by kernel_rfl
theorem r__law_group (n : Nat) (a0 a1 : E2.Slot) : (RR.at_ (n + 2) d__law_group).run [a0, a1] = bodyR [true, false] [a0, a1] (b__law_group n [a0, a1, .dead]) := by rw [run_at, e__law_group]; rfl
@[simp] theorem c__law_group : d__law_group.cst = [true, false] := rfl
/-- _law_members -/
def b__law_members (n : Nat) : SF := (fSeq2 (fAsg 1 (fSeq (fun ds => .ow (.lst ds)) [(share (fSeq (fun ds => .sh (.tup ds)) []))])) (fSeq2 (fFor (fItems (eName 0)) (gAsg 2) (fSeq2 (fAsg 3 (fSeq (fun ds => .ow (.lst ds)) [])) (fSeq2 (fFor (fItems (eName 1)) (gAsg 4) (fSeq2 (fDrop (share (fMeth 3 [(share (fLc (fRng1 (eName 2)) (gAsg 5) fYes (share (f2 (.sl 4) (.ex (share (fSeq (fun ds => .sh (.tup ds)) [(eName 5)]))) addD)) [5]))] mExtend))) fNil)) (fSeq2 (fAsg 1 (fName 3)) fNil)))) (fSeq2 (fRet (fName 1)) fNil)))
theorem e__law_members (n : Nat) : sfOf (RR.tbl (n + 1)) d__law_members = b__law_members n := by kernel_rfl
theorem r__law_members (n : Nat) (a0 : E2.Slot) : (RR.at_ (n + 2) d__law_members).run [a0] = bodyR [false] [a0] (b__law_members n [a0, .dead, .dead, .dead, .dead, .dead]) := by rw [run_at, e__law_members]; rfl
@[simp] theorem c__law_members : d__law_members.cst = [false] := rfl
/-- _law_plus -/
def b__law_plus (n : Nat) : SF := (fSeq2 (fRet (fB [(.ex (share (fLc (fZip3 (eName 1) (eName 2) (eName 0)) (gTupA (gsCons (gAsg 3) (gsCons (gAsg 4) (gsCons (gAsg 5) gsNil)))) fYes (share (f2 (.ex (share (f2 (.sl 3) (.sl 4) addD))) (.sl 5) modD)) [3, 4, 5])))] tupleD)) fNil)
theorem e__law_plus (n : Nat) : sfOf (RR.tbl (n + 1)) d__law_plus = b__law_plus n := by kernel_rfl
theorem r__law_plus (n : Nat) (a0 a1 a2 : E2.Slot) : (RR.at_ (n + 2) d__law_plus).run [a0, a1, a2] = bodyR [false, false, false] [a0, a1, a2] (b__law_plus n [a0, a1, a2, .dead, .dead, .dead]) := by rw [run_at, e__law_plus]; rfl
@[simp] theorem c__law_plus : d__law_plus.cst = [false, false, false] := rfl
/-- _law_often -/
def b__law_often (n : Nat) : SF := (fSeq2 (fRet (fB [(.ex (share (fLc (fZip2 (eName 1) (eName 0)) (gTupA (gsCons (gAsg 3) (gsCons (gAsg 4) gsNil))) fYes (share (f2 (.ex (share (f2 (.sl 3) (.sl 2) mulD))) (.sl 4) modD)) [3, 4])))] tupleD)) fNil)
theorem e__law_often (n : Nat) : sfOf (RR.tbl (n + 1)) d__law_often = b__law_often n := by kernel_rfl
theorem r__law_often (n : Nat) (a0 a1 a2 : E2.Slot) : (RR.at_ (n + 2) d__law_often).run [a0, a1, a2] = bodyR [false, false, false] [a0, a1, a2] (b__law_often n [a0, a1, a2, .dead, .dead]) := by rw [run_at, e__law_often]; rfl
@[simp] theorem c__law_often : d__law_often.cst = [false, false, false] := rfl
/-- _law_nought -/
def b__law_nought (n : Nat) : SF := (fSeq2 (fRet (f2 (.ex (share (fSeq (fun ds => .sh (.tup ds)) [(share (fC (.int 0)))]))) (.ex (share (fB [(.sl 0)] lenD))) mulD)) fNil)
theorem e__law_nought (n : Nat) : sfOf (RR.tbl (n + 1)) d__law_nought = b__law_nought n := by kernel_rfl
theorem r__law_nought (n : Nat) (a0 : E2.Slot) : (RR.at_ (n + 2) d__law_nought).run [a0] = bodyR [false] [a0] (b__law_nought n [a0]) := by rw [run_at, e__law_nought]; rfl
@[simp] theorem c__law_nought : d__law_nought.cst = [false] := rfl
/-- _law_order -/
def b__law_order (n : Nat) : SF := (fSeq2 (fParV 3 4 (fName 1) (fC (.int 1))) (fSeq2 (fFor (fRng1 (share (fCall (RR.at_ (n + 1) d__law_size) [(.sl 0)]))) (gAsg 2) (fSeq2 (fIf (fTe (f2 (.sl 3) (.ex (share (fCall (RR.at_ (n + 1) d__law_nought) [(.sl 0)]))) eqD)) (fSeq2 fBrk fNil) fNil) (fSeq2 (fParV 3 4 (fCall (RR.at_ (n + 1) d__law_plus) [(.sl 0), (.sl 3), (.sl 1)]) (f2 (.sl 4) (.ex (share (fC (.int 1)))) addD)) fNil))) (fSeq2 (fRet (fName 4)) fNil)))
theorem e__law_order (n : Nat) : sfOf (RR.tbl (n + 1)) d__law_order = b__law_order n := by kernel_rfl
theorem r__law_order (n : Nat) (a0 a1 : E2.Slot) : (RR.at_ (n + 2) d__law_order).run [a0, a1] = bodyR [false, false] [a0, a1] (b__law_order n [a0, a1, .dead, .dead, .dead]) := by rw [run_at, e__law_order]; rfl
@[simp] theorem c__law_order : d__law_order.cst = [false, false] := rfl
/-- _law_member -/
def b__law_member (n : Nat) : SF := (fSeq2 (fRet (fB [(.ex (share (fLc (fItems (eName 1)) (gAsg 2) fYes (share (fCall (RR.at_ (n + 1) d__law_take) [(.sl 0), (.sl 2)])) [2])))] tupleD)) fNil)
theorem e__law_member (n : Nat) : sfOf (RR.tbl (n + 1)) d__law_member = b__law_member n := by kernel_rfl
theorem r__law_member (n : Nat) (a0 a1 : E2.Slot) : (RR.at_ (n + 2) d__law_member).run [a0, a1] = bodyR [true, false] [a0, a1] (b__law_member n [a0, a1, .dead]) := by rw [run_at, e__law_member]; rfl
@[simp] theorem c__law_member : d__law_member.cst = [true, false] := rfl
/-- _law_lot -/
def b__law_lot (n : Nat) : SF := (fSeq2 (fRet (fB [(.ex (share (fB [(.ex (share (fLc (fRng1 (share (f2 (.ex (share (fC (.int 1)))) (.ex (share (fCall (RR.at_ (n + 1) d__law_take) [(.sl 0), (.sl 2)]))) addD))) (gAsg 3) fYes (share (fCall (RR.at_ (n + 1) d__law_member) [(.sl 0), (.sl 1)])) [3])))] setSortD)))] tupleD)) fNil)
theorem e__law_lot (n : Nat) : sfOf (RR.tbl (n + 1)) d__law_lot = b__law_lot n := by kernel_rfl
theorem r__law_lot (n : Nat) (a0 a1 a2 : E2.Slot) : (RR.at_ (n + 2) d__law_lot).run [a0, a1, a2] = bodyR [true, false, false] [a0, a1, a2] (b__law_lot n [a0, a1, a2, .dead]) := by rw [run_at, e__law_lot]; rfl
@[simp] theorem c__law_lot : d__law_lot.cst = [true, false, false] := rfl
/-- _law_moved -/
def b__law_moved (n : Nat) : SF := (fSeq2 (fRet (fB [(.ex (share (fB [(.ex (share (fLc (fItems (eName 1)) (gAsg 3) fYes (share (fCall (RR.at_ (n + 1) d__law_plus) [(.sl 0), (.sl 3), (.sl 2)])) [3])))] sortedD)))] tupleD)) fNil)
theorem e__law_moved (n : Nat) : sfOf (RR.tbl (n + 1)) d__law_moved = b__law_moved n := by kernel_rfl
theorem r__law_moved (n : Nat) (a0 a1 a2 : E2.Slot) : (RR.at_ (n + 2) d__law_moved).run [a0, a1, a2] = bodyR [false, false, false] [a0, a1, a2] (b__law_moved n [a0, a1, a2, .dead]) := by rw [run_at, e__law_moved]; rfl
@[simp] theorem c__law_moved : d__law_moved.cst = [false, false, false] := rfl
/-- _law_keepers -/
def b__law_keepers (n : Nat) : SF := (fSeq2 (fRet (fB [(.ex (share (fLc (fItems (share (fCall (RR.at_ (n + 1) d__law_members) [(.sl 0)]))) (gAsg 2) (fTe (f2 (.ex (share (fCall (RR.at_ (n + 1) d__law_moved) [(.sl 0), (.sl 1), (.sl 2)]))) (.sl 1) eqD)) (eName 2) [2])))] tupleD)) fNil)
theorem e__law_keepers (n : Nat) : sfOf (RR.tbl (n + 1)) d__law_keepers = b__law_keepers n := by kernel_rfl
theorem r__law_keepers (n : Nat) (a0 a1 : E2.Slot) : (RR.at_ (n + 2) d__law_keepers).run [a0, a1] = bodyR [false, false] [a0, a1] (b__law_keepers n [a0, a1, .dead]) := by rw [run_at, e__law_keepers]; rfl
@[simp] theorem c__law_keepers : d__law_keepers.cst = [false, false] := rfl
/-- _law_steps_lot -/
def b__law_steps_lot (n : Nat) : SF := (fSeq2 (fRet (fB [(.ex (share (fB [(.ex (share (fLc (fRng1 (eName 2)) (gAsg 3) fYes (share (fCall (RR.at_ (n + 1) d__law_often) [(.sl 0), (.sl 1), (.sl 3)])) [3])))] sortedD)))] tupleD)) fNil)
theorem e__law_steps_lot (n : Nat) : sfOf (RR.tbl (n + 1)) d__law_steps_lot = b__law_steps_lot n := by kernel_rfl
theorem r__law_steps_lot (n : Nat) (a0 a1 a2 : E2.Slot) : (RR.at_ (n + 2) d__law_steps_lot).run [a0, a1, a2] = bodyR [false, false, false] [a0, a1, a2] (b__law_steps_lot n [a0, a1, a2, .dead]) := by rw [run_at, e__law_steps_lot]; rfl
@[simp] theorem c__law_steps_lot : d__law_steps_lot.cst = [false, false, false] := rfl
/-- _law_times -/
def b__law_times (n : Nat) : SF := (fSeq2 (fAsgT (share (fSeq (fun ds => .sh (.tup ds)) [(share (fC .non)), (share (fC .non))])) (gTupA (gsCons (gAsg 3) (gsCons (gAsg 4) gsNil)))) (fSeq2 (fTry (RR.tbl (n + 1)).ex (fSeq2 (fAsg 4 (fCallK (RR.at_ (n + 1) d_stretch_times) [0, 1, 2] [(.sl 0), (.sl 1), (.sl 2)])) fNil) [("Unfit", 5, .two 3 "unfit")]) (fSeq2 (fRet (fIfV (fTe (f2 (.sl 3) (.ex (share (fC .non))) isD)) (fName 4) (fName 3))) fNil)))
theorem e__law_times (n : Nat) : sfOf (RR.tbl (n + 1)) d__law_times = b__law_times n := by kernel_rfl
theorem r__law_times (n : Nat) (a0 a1 a2 : E2.Slot) : (RR.at_ (n + 2) d__law_times).run [a0, a1, a2] = bodyR [false, false, false] [a0, a1, a2] (b__law_times n [a0, a1, a2, .dead, .dead, .dead]) := by rw [run_at, e__law_times]; rfl
@[simp] theorem c__law_times : d__law_times.cst = [false, false, false] := rfl
/-- _law_right -/
def b__law_right (n : Nat) : SF := (fSeq2 (fAsg 1 (fCall (RR.at_ (n + 1) d__law_group) [(.sl 0), (.ex (share (fC (.int 36))))])) (fSeq2 (fAsg 2 (fCall (RR.at_ (n + 1) d__law_member) [(.sl 0), (.sl 1)])) (fSeq2 (fAsg 3 (fCall (RR.at_ (n + 1) d__law_order) [(.sl 1), (.sl 2)])) (fSeq2 (fIf (fTe (f2 (.sl 3) (.ex (share (fC (.int 1)))) eqD)) (fSeq2 (fRet (fCall (RR.at_ (n + 1) d__law_same) [(.ex (share (fSeq (fun ds => .ow (.lst ds)) [(share (fCall (RR.at_ (n + 1) d_is_stretch) [(.sl 1), (.ex (share (fSeq (fun ds => .sh (.tup ds)) [(eName 2), (share (fC (.int 1)))])))])), (share (fCall (RR.at_ (n + 1) d_is_stretch) [(.sl 1), (.ex (share (fSeq (fun ds => .sh (.tup ds)) [(eName 2), (share (fC (.int 2)))])))]))]))), (.ex (share (fSeq (fun ds => .ow (.lst ds)) [(share (fC (.bl false))), (share (fC (.bl false)))])))])) fNil) fNil) (fSeq2 (fAsg 4 (f2 (.ex (share (fC (.int 2)))) (.ex (share (fCall (RR.at_ (n + 1) d__law_take) [(.sl 0), (.ex (share (f2 (.sl 3) (.ex (share (fC (.int 1)))) subD)))]))) addD)) (fSeq2 (fParV 13 14 (fSeq (fun ds => .sh (.tup ds)) [(eName 2), (eName 4)]) (fCall (RR.at_ (n + 1) d__law_steps_lot) [(.sl 1), (.sl 2), (.sl 4)])) (fSeq2 (fAsg 5 (f2 (.sl 4) (.sl 3) eqD)) (fSeq2 (fAsg 6 (fSeq (fun ds => .ow (.lst ds)) [(share (fCallK (RR.at_ (n + 1) d_is_stretch) [0, 1] [(.sl 1), (.sl 13)])), (share (fCallK (RR.at_ (n + 1) d_stretch_lot) [0, 1] [(.sl 1), (.ex (share (fB [(.sl 13)] listD)))])), (share (fCallK (RR.at_ (n + 1) d_does_come_round) [0, 1] [(.sl 1), (.sl 13)])), (share (fCallK (RR.at_ (n + 1) d_is_subgroup) [0, 1] [(.sl 1), (.sl 14)]))])) (fSeq2 (fIf (fOrT (fNotT (fTr (.ex (share (fCall (RR.at_ (n + 1) d__law_same) [(.sl 6), (.ex (share (fSeq (fun ds => .ow (.lst ds)) [(share (fC (.bl true))), (eName 14), (eName 5), (eName 5)])))]))))) (fOrT (fTe (f2 (.ex (share (fB [(.sl 14)] lenD))) (.sl 4) neD)) (fTe (f2 (.ex (share (f2 (.ex (share (fB [(.ex (share (fCall (RR.at_ (n + 1) d__law_keepers) [(.sl 1), (.sl 14)])))] lenD))) (.ex (share (fC (.int 1)))) gtD))) (.sl 5) neD)))) (fSeq2 (fRet (fC (.bl false))) fNil) fNil) (fSeq2 (fAsg 7 (fCallK (RR.at_ (n + 1) d_stretch_parts) [0, 1] [(.sl 1), (.sl 13)])) (fSeq2 (fAsgT (share (fSeq (fun ds => .sh (.tup ds)) [(share (fSeq (fun ds => .sh (.tup ds)) [(share (fCall (RR.at_ (n + 1) d__law_nought) [(.sl 1)]))])), (eName 2), (share (fC (.int 1))), (share (fC (.int 1)))])) (gTupA (gsCons (gAsg 15) (gsCons (gAsg 16) (gsCons (gAsg 17) (gsCons (gAsg 18) gsNil)))))) (fSeq2 (fFor (fItems (eName 7)) (gTupA (gsCons (gAsg 19) (gsCons (gAsg 20) gsNil))) (fSeq2 (fIf (fOrT (fTe (f2 (.sl 19) (.sl 16) neD)) (fOrT (fTe (f2 (.sl 20) (.sl 17) ltD)) (fOrT (fTe (f2 (.ex (share (fLc (fRng2 (share (fC (.int 2))) (eName 20)) (gAsg 10) (fTe (f2 (.ex (share (f2 (.sl 20) (.sl 10) modD))) (.ex (share (fC (.int 0)))) eqD)) (eName 10) [10]))) (.ex (share (fSeq (fun ds => .ow (.lst ds)) []))) neD)) (fTe (f2 (.ex (share (fCall (RR.at_ (n + 1) d_is_stretch) [(.sl 1), (.ex (share (fSeq (fun ds => .sh (.tup ds)) [(eName 19), (eName 20)])))]))) (.ex (share (fC (.bl true)))) isNotD))))) (fSeq2 (fRet (fC (.bl false))) fNil) fNil) (fSeq2 (fAsg 15 (fCall (RR.at_ (n + 1) d_lot_sum) [(.sl 1), (.sl 15), (.ex (share (fCall (RR.at_ (n + 1) d_stretch_lot) [(.sl 1), (.ex (share (fSeq (fun ds => .sh (.tup ds)) [(eName 19), (eName 20)])))])))])) (fSeq2 (fParV3 16 17 18 (fCall (RR.at_ (n + 1) d__law_often) [(.sl 1), (.sl 19), (.sl 20)]) (fName 20) (f2 (.sl 18) (.sl 20) mulD)) (fSeq2 (fIf (fTe (f2 (.ex (share (fB [(.sl 15)] lenD))) (.sl 18) neD)) (fSeq2 (fRet (fC (.bl false))) fNil) fNil) fNil))))) (fSeq2 (fIf (fOrT (fTe (f2 (.sl 18) (.sl 4) neD)) (fNotT (fTr (.ex (share (fCall (RR.at_ (n + 1) d__law_same) [(.sl 15), (.sl 14)])))))) (fSeq2 (fRet (fC (.bl false))) fNil) fNil) (fSeq2 (fAsg 8 (fCall (RR.at_ (n + 1) d__law_of) [(.sl 0), (.ex (share (fSeq (fun ds => .ow (.lst ds)) [(eName 14), (share (fCall (RR.at_ (n + 1) d__law_moved) [(.sl 1), (.sl 14), (.sl 2)])), (share (fCall (RR.at_ (n + 1) d__law_lot) [(.sl 0), (.sl 1), (.ex (share (fC (.int 5))))]))])))])) (fSeq2 (fAsg 9 (fLc (fItems (share (fCall (RR.at_ (n + 1) d__law_members) [(.sl 1)]))) (gAsg 21) (fAndT (fTe (fChain (.ex (share (fC (.int 2)))) (.ex (share (fB [(.sl 8)] lenD))) (.ex (share (fCall (RR.at_ (n + 1) d__law_order) [(.sl 1), (.sl 21)]))) leD leD)) (fTe (f2 (.ex (share (fCall (RR.at_ (n + 1) d__law_steps_lot) [(.sl 1), (.sl 21), (.ex (share (fB [(.sl 8)] lenD)))]))) (.sl 8) eqD))) (share (fSeq (fun ds => .sh (.tup ds)) [(eName 21), (share (fB [(.sl 8)] lenD))])) [21])) (fSeq2 (fAsg 10 (f2 (.ex (share (fC (.int 1)))) (.ex (share (fCall (RR.at_ (n + 1) d__law_take) [(.sl 0), (.ex (share (fC (.int 40))))]))) addD)) (fSeq2 (fAsg 11 (fCall (RR.at_ (n + 1) d__law_often) [(.sl 1), (.sl 2), (.sl 10)])) (fSeq2 (fAsg 6 (fSeq (fun ds => .ow (.lst ds)) [(share (fCallK (RR.at_ (n + 1) d_lot_stretches) [0, 1] [(.sl 1), (.sl 8)])), (share (fCall (RR.at_ (n + 1) d__law_times) [(.sl 1), (.sl 13), (.sl 10)]))])) (fSeq2 (fIf (fNotT (fTr (.ex (share (fCall (RR.at_ (n + 1) d__law_same) [(.sl 6), (.ex (share (fSeq (fun ds => .ow (.lst ds)) [(eName 9), (share (fIfV (fTe (f2 (.ex (share (fCall (RR.at_ (n + 1) d__law_order) [(.sl 1), (.sl 11)]))) (.sl 4) geD)) (fSeq (fun ds => .sh (.tup ds)) [(eName 11), (eName 4)]) (fSeq (fun ds => .ow (.lst ds)) [(share (fC (.str "unfit"))), (share (fC (.bl true)))])))])))]))))) (fSeq2 (fRet (fC (.bl false))) fNil) fNil) (fSeq2 (fAsg 12 (fSeq (fun ds => .ow (.lst ds)) [(share (fSeq (fun ds => .sh (.tup ds)) [(eName 2), (share (fC (.int 1)))])), (share (fSeq (fun ds => .sh (.tup ds)) [(eName 2), (share (f2 (.sl 3) (.ex (share (fC (.int 1)))) addD))])), (share (fSeq (fun ds => .ow (.lst ds)) [(eName 2), (eName 4)])), (share (fSeq (fun ds => .sh (.tup ds)) [(eName 2)])), (share (fSeq (fun ds => .sh (.tup ds)) [(eName 2), (share (fC (.bl true)))])), (share (fSeq (fun ds => .sh (.tup ds)) [(eName 4), (eName 2)])), (share (fC .non)), (share (fSeq (fun ds => .sh (.tup ds)) [(share (fSeq (fun ds => .sh (.tup ds)) [(eName 2)])), (eName 4)]))])) (fSeq2 (fRet (fCall (RR.at_ (n + 1) d__law_same) [(.ex (share (fLc (fItems (eName 12)) (gAsg 22) fYes (share (fCall (RR.at_ (n + 1) d_is_stretch) [(.sl 1), (.sl 22)])) [22]))), (.ex (share (f2 (.ex (share (fSeq (fun ds => .ow (.lst ds)) [(share (fC (.bl false)))]))) (.ex (share (fC (.int 8)))) mulD)))])) fNil)))))))))))))))))))))
theorem e__law_right (n : Nat) : sfOf (RR.tbl (n + 1)) d__law_right = b__law_right n := by kernel_rfl
theorem r__law_right (n : Nat) (a0 : E2.Slot) : (RR.at_ (n + 2) d__law_right).run [a0] = bodyR [true] [a0] (b__law_right n [a0, .dead, .dead, .dead, .dead, .dead, .dead, .dead, .dead, .dead, .dead, .dead, .dead, .dead, .dead, .dead, .dead, .dead, .dead, .dead, .dead, .dead, .dead]) := by rw [run_at, e__law_right]; rfl
@[simp] theorem c__law_right : d__law_right.cst = [true] := rfl
/-- law -/
def b_law (n : Nat) : SF := (fSeq2 (fAsg 1 (fCall (RR.at_ (n + 1) d__law_box) [(.ex (share (fCall (RR.at_ (n + 1) d__law_cells) [(.sl 0), (.ex (share (fC (.int 1))))]))), (.ex (share (fC (.int 0))))])) (fSeq2 (fIf (fNotT (fTr (.ex (share (fB [(.ex (share (fLc (fRng1 (share (fC (.int 7)))) (gAsg 2) fYes (share (fCall (RR.at_ (n + 1) d__law_right) [(.sl 1)])) [2])))] allD))))) (fSeq2 (fRet (fC (.bl false))) fNil) fNil) (fSeq2 (fRet (fCall (RR.at_ (n + 1) d__law_same) [(.ex (share (fSeq (fun ds => .ow (.lst ds)) [(share (fCall (RR.at_ (n + 1) d_stretch_parts) [(.ex (share (fSeq (fun ds => .sh (.tup ds)) [(share (fC (.int 24)))]))), (.ex (share (fSeq (fun ds => .sh (.tup ds)) [(share (fSeq (fun ds => .sh (.tup ds)) [(share (fC (.int 1)))])), (share (fC (.int 12)))])))])), (share (fCall (RR.at_ (n + 1) d_lot_stretches) [(.ex (share (fSeq (fun ds => .sh (.tup ds)) [(share (fC (.int 6)))]))), (.ex (share (fSeq (fun ds => .sh (.tup ds)) [(share (fSeq (fun ds => .sh (.tup ds)) [(share (fC (.int 0)))])), (share (fSeq (fun ds => .sh (.tup ds)) [(share (fC (.int 1)))])), (share (fSeq (fun ds => .sh (.tup ds)) [(share (fC (.int 5)))]))])))])), (share (fCall (RR.at_ (n + 1) d_lot_stretches) [(.ex (share (fSeq (fun ds => .sh (.tup ds)) [(share (fC (.int 5)))]))), (.ex (share (fSeq (fun ds => .sh (.tup ds)) [(share (fSeq (fun ds => .sh (.tup ds)) [(share (fC (.int 0)))])), (share (fSeq (fun ds => .sh (.tup ds)) [(share (fC (.int 2)))]))])))]))]))), (.ex (share (fSeq (fun ds => .ow (.lst ds)) [(share (fSeq (fun ds => .sh (.tup ds)) [(share (fSeq (fun ds => .sh (.tup ds)) [(share (fSeq (fun ds => .sh (.tup ds)) [(share (fC (.int 1)))])), (share (fC (.int 2)))])), (share (fSeq (fun ds => .sh (.tup ds)) [(share (fSeq (fun ds => .sh (.tup ds)) [(share (fC (.int 2)))])), (share (fC (.int 2)))])), (share (fSeq (fun ds => .sh (.tup ds)) [(share (fSeq (fun ds => .sh (.tup ds)) [(share (fC (.int 4)))])), (share (fC (.int 3)))]))])), (share (fSeq (fun ds => .ow (.lst ds)) [])), (share (fSeq (fun ds => .ow (.lst ds)) [(share (fSeq (fun ds => .sh (.tup ds)) [(share (fSeq (fun ds => .sh (.tup ds)) [(share (fC (.int 2)))])), (share (fC (.int 2)))]))]))])))])) fNil)))
theorem e_law (n : Nat) : sfOf (RR.tbl (n + 1)) d_law = b_law n := by kernel_rfl
theorem r_law (n : Nat) (a0 : E2.Slot) : (RR.at_ (n + 2) d_law).run [a0] = bodyR [false] [a0] (b_law n [a0, .dead, .dead]) := by rw [run_at, e_law]; rfl
@[simp] theorem c_law : d_law.cst = [false] := rfl
end LW
end

section
set_option Elab.async false
set_option linter.all false
set_option maxRecDepth 100000
set_option maxHeartbeats 4000000
/-! E51: comprehensions and loops, evaluated. -/
namespace E2
open PySem PySem.Spec PyProof.Rows L2
inductive All2 {α β : Type} (P : α → β → Prop) : List α → List β → Prop
  | nil : All2 P [] []
  | cons {a b as bs} : P a b → All2 P as bs → All2 P (a :: as) (b :: bs)
theorem All2.len {α β : Type} {P : α → β → Prop} : ∀ {as : List α} {bs : List β}, All2 P as bs → as.length = bs.length
  | _, _, .nil => rfl
  | _, _, .cons _ h => congrArg (· + 1) h.len
theorem All2.map {α β : Type} {g : α → β} : ∀ {as : List α} {bs : List β}, All2 (fun a b => b = g a) as bs → bs = as.map g
  | _, _, .nil => rfl
  | _, _, .cons h t => by rw [h, t.map]; rfl
theorem All2.mono {α β : Type} {P Q : α → β → Prop} (i : ∀ a b, P a b → Q a b) : ∀ {as : List α} {bs : List β}, All2 P as bs → All2 Q as bs
  | _, _, .nil => .nil
  | _, _, .cons h t => .cons (i _ _ h) (t.mono i)
theorem lcS_gen {a : Dt → Env → Option Env} {f : EE} {vs : List Nat} {I : Nat → Env → Prop} {P : Dt → Dt → Prop} : ∀ (ds : List Dt), (∀ k d ρ, d ∈ ds → I k ρ → ∃ ρ1 ρ2 y, a d ρ = some ρ1 ∧ f ρ1 = .ok (y, ρ2) ∧ I (k + 1) (wipeD ρ2 vs) ∧ P d y) →
    ∀ acc ρ k, I k ρ → ∃ ys ρ', lcS a fYes f vs ds acc ρ = .ok (acc ++ ys, ρ') ∧ I (k + ds.length) ρ' ∧ All2 P ds ys
  | [], _, acc, ρ, k, h => ⟨[], ρ, by simp [lcS], h, .nil⟩
  | d :: ds, step, acc, ρ, k, h => by
    obtain ⟨ρ1, ρ2, y, e1, e2, h2, p⟩ := step k d ρ List.mem_cons_self h
    obtain ⟨ys, ρ', e3, h3, ps⟩ := lcS_gen ds (fun k e ρ he => step k e ρ (List.mem_cons_of_mem _ he)) (acc ++ [y]) _ (k + 1) h2
    refine ⟨y :: ys, ρ', ?_, by rw [List.length_cons, show k + (ds.length + 1) = k + 1 + ds.length by omega]; exact h3, .cons p ps⟩
    simp only [lcS, e1, x_yes, e2, e3, List.append_assoc, List.singleton_append]
/-- pure -/
theorem lcS_map {a : Dt → Env → Option Env} {f : EE} {vs : List Nat} {ρ : Env} (y : Dt → Dt) (ds : List Dt) (step : ∀ d, d ∈ ds → ∃ ρ1 ρ2, a d ρ = some ρ1 ∧ f ρ1 = .ok (y d, ρ2) ∧ wipeD ρ2 vs = ρ) : lcS a fYes f vs ds [] ρ = .ok (ds.map y, ρ) := by
  obtain ⟨ys, ρ', e, rfl, p⟩ := lcS_gen (a := a) (f := f) (vs := vs) (I := fun _ σ => σ = ρ) (P := fun d z => z = y d) ds (fun k d σ hd hσ => by
    subst hσ
    obtain ⟨ρ1, ρ2, e1, e2, e3⟩ := step d hd
    exact ⟨ρ1, ρ2, _, e1, e2, e3, rfl⟩) [] ρ 0 rfl
  rw [e, p.map, List.nil_append]
/-- with a test -/
theorem lcS_if {a : Dt → Env → Option Env} {t : ET} {f : EE} {vs : List Nat} {ρ : Env} (c : Dt → Bool) (y : Dt → Dt) : ∀ (ds : List Dt) (acc : List Dt), (∀ d, d ∈ ds → ∃ ρ1 ρ2, a d ρ = some ρ1 ∧ t ρ1 = .ok (c d, ρ2) ∧ (c d = false → wipeD ρ2 vs = ρ) ∧ (c d = true → ∃ ρ3, f ρ2 = .ok (y d, ρ3) ∧ wipeD ρ3 vs = ρ)) → lcS a t f vs ds acc ρ = .ok (acc ++ (ds.filter c).map y, ρ)
  | [], acc, _ => by simp [lcS]
  | d :: ds, acc, step => by
    obtain ⟨ρ1, ρ2, e1, e2, h1, h2⟩ := step d List.mem_cons_self
    have ih := fun acc => lcS_if c y ds acc fun e he => step e (List.mem_cons_of_mem _ he)
    cases hc : c d with
    | false =>
      rw [hc] at e2
      simp only [lcS, e1, e2, h1 hc, ih, List.filter_cons, hc, Bool.false_eq_true, if_false]
    | true =>
      rw [hc] at e2
      obtain ⟨ρ3, e3, e4⟩ := h2 hc
      simp only [lcS, e1, e2, e3, e4, ih, List.filter_cons, hc, if_true, List.map_cons, List.append_assoc, List.singleton_append]
section
variable {ρ : Env} {it it1 : Env → R (List Dt × Env)} {a a1 : Dt → Env → Option Env} {t t1 : ET} {f : EE} {vs vs1 : List Nat} {g h k : EE}
@[simp] theorem x_lc : fLc it a t f vs ρ = (it ρ).bind fun items ρ1 => if items.length ≤ 16777216 then (match lcS a t f vs items [] (wipeD ρ1 vs) with
  | .ok (acc, ρ2) => .ok (.ow (.lst acc), restore ρ1 ρ2 vs)
  | _ => .bad) else .bad := rfl
@[simp] theorem x_lc2 : fLc2 it a t it1 a1 t1 f vs vs1 ρ = (it ρ).bind fun items ρ1 => match lcS2 a t it1 a1 t1 f vs vs1 items [] (wipeD ρ1 vs) with
  | .ok (acc, ρ2) => .ok (.ow (.lst acc), restore ρ1 ρ2 vs)
  | _ => .bad := rfl
@[simp] theorem x_w0 : wipeD ρ [] = ρ := rfl
@[simp] theorem x_w (v : Nat) : wipeD ρ (v :: vs) = (wipeD ρ vs).set v .dead := rfl
@[simp] theorem x_rs0 (old : Env) : restore old ρ [] = ρ := rfl
@[simp] theorem x_rs (old : Env) (v : Nat) : restore old ρ (v :: vs) = match old[v]? with
    | some s => (restore old ρ vs).set v s
    | none => restore old ρ vs := rfl
@[simp] theorem x_z2 : fZip2 g h ρ = (g ρ).bind fun d1 ρ1 => (h ρ1).bind fun d2 ρ2 => match seqOf d1, seqOf d2 with
  | some a, some b => .ok (zip2D a b, ρ2)
  | _, _ => .bad := rfl
@[simp] theorem x_z3 : fZip3 g h k ρ = (g ρ).bind fun d1 ρ1 => (h ρ1).bind fun d2 ρ2 => (k ρ2).bind fun d3 ρ3 => match seqOf d1, seqOf d2, seqOf d3 with
  | some a, some b, some c => .ok (zip3D a b c, ρ3)
  | _, _, _ => .bad := rfl
@[simp] theorem x_add (i j : Int) : addD (.int i) (.int j) = some (.sh (.int (i + j))) := rfl
@[simp] theorem x_sub (i j : Int) : subD (.int i) (.int j) = some (.sh (.int (i - j))) := rfl
theorem x_mod {i j : Int} (h : 0 < j) : modD (.int i) (.int j) = some (.sh (.int (i % j))) := by simp [modD, h]
@[simp] theorem x_lt (i j : Int) : ltD (.int i) (.int j) = some (.sh (.bl (decide (i < j)))) := rfl
@[simp] theorem x_le (i j : Int) : leD (.int i) (.int j) = some (.sh (.bl (decide (i ≤ j)))) := rfl
@[simp] theorem x_gt (i j : Int) : gtD (.int i) (.int j) = some (.sh (.bl (decide (j < i)))) := rfl
@[simp] theorem x_ge (i j : Int) : geD (.int i) (.int j) = some (.sh (.bl (decide (j ≤ i)))) := rfl
@[simp] theorem x_eqI (i j : Int) : eqD (.int i) (.int j) = some (.sh (.bl (decide (i = j)))) := by
  simp [eqD, flat, eqP, py, PyData.eqv]
  rfl
@[simp] theorem x_tupL (ds : List Dt) : tupleD [.lst ds] = some (.sh (.tup ds)) := rfl
@[simp] theorem x_tupT (ds : List Dt) : tupleD [.tup ds] = some (.sh (.tup ds)) := rfl
@[simp] theorem x_lenL (ds : List Dt) : lenD [.lst ds] = some (.sh (.int ds.length)) := rfl
@[simp] theorem x_lenT (ds : List Dt) : lenD [.tup ds] = some (.sh (.int ds.length)) := rfl
end
end E2
end

section
set_option Elab.async false
set_option linter.all false
set_option maxRecDepth 100000
set_option maxHeartbeats 400000
/-! P1: what the package's small functions tell. -/
namespace E2
open PySem PySem.Spec PyProof.Rows L2
theorem lcS_all2 {a : Dt → Env → Option Env} {f : EE} {vs : List Nat} {ρ : Env} {R : Dt → Dt → Prop} (step : ∀ d e, R d e → ∃ ρ1 ρ2, a d ρ = some ρ1 ∧ f ρ1 = .ok (e, ρ2) ∧ wipeD ρ2 vs = ρ) : ∀ {ds es : List Dt}, All2 R ds es → ∀ acc, lcS a fYes f vs ds acc ρ = .ok (acc ++ es, ρ)
  | _, _, .nil, acc => by simp [lcS]
  | _, _, .cons h t, acc => by
    obtain ⟨ρ1, ρ2, e1, e2, e3⟩ := step _ _ h
    simp only [lcS, e1, x_yes, e2, e3, lcS_all2 step t, List.append_assoc, List.singleton_append]
theorem bools_map {α : Type} (c : α → Bool) : ∀ l : List α, boolsD (l.map fun x => .bl (c x)) = some (l.map c)
  | [] => rfl
  | x :: l => by
    show (boolsD (l.map fun x => .bl (c x))).map (c x :: ·) = _
    rw [bools_map c l]; rfl
theorem all_map {α : Type} (c : α → Bool) (l : List α) : allD [.lst (l.map fun x => .bl (c x))] = some (.sh (.bl (l.all c))) := by
  simp only [allD, bools_map, x_shB]
  rw [List.all_map]; rfl
theorem any_map {α : Type} (c : α → Bool) (l : List α) : anyD [.lst (l.map fun x => .bl (c x))] = some (.sh (.bl (l.any c))) := by
  simp only [anyD, bools_map, x_shB]
  rw [List.any_map]; rfl
theorem alike_tz (a b : List Int) : PySem.W.alike (py (tz a)) (py (tz b)) = true := by
  unfold tz
  rw [py, py, pyAll_ints, pyAll_ints, PySem.W.alike]
  exact alike_ints a b
theorem flat_tz (n : Nat) (a : List Int) : flat (n + 1) (tz a) = true := by simp [tz, flat, flat_ints]
theorem lt_py (a b : List Int) : PySem.W.dataLt (py (tz a)) (py (tz b)) = decide (a < b) := by
  unfold tz
  rw [py, py, pyAll_ints, pyAll_ints, PySem.W.dataLt_tuple]
  exact PySem.W.dataLt_ints a b
theorem x_ltT (a b : List Int) : ltD (tz a) (tz b) = some (.sh (.bl (decide (a < b)))) := by
  show cmpD _ _ (.tup _) (.tup _) = _
  unfold cmpD
  have h1 := flat_tz 59 a
  have h2 := flat_tz 59 b
  have h3 := alike_tz a b
  have h4 := lt_py a b
  simp only [tz] at h1 h2 h3 h4
  simp [h1, h2, h3, h4, notNon]
theorem cut1 {α : Type} (xs : List α) : cutD xs (some 1) none = xs.tail := by
  cases xs with
  | nil => simp [cutD]
  | cons x xs => simp [cutD, HT.sIx]; try omega
/-- the sums of a tuple's zip -/
def zp (op : Int → Int → Int) : List Int → List Int → List Int → List Int
  | a :: as, b :: bs, g :: gs => op a b % g :: zp op as bs gs
  | _, _, _ => []
def fz (op : Int → Int → Int) : Dt → Dt
  | .tup [.int a, .int b, .int g] => .int (op a b % g)
  | d => d
theorem zp_map (op : Int → Int → Int) : ∀ (a b g : List Int), (zip3D (a.map Dt.int) (b.map .int) (g.map .int)).map (fz op) = (zp op a b g).map .int
  | [], _, _ => by simp [zip3D, zp]
  | _ :: _, [], _ => by simp [zip3D, zp]
  | _ :: _, _ :: _, [] => by simp [zip3D, zp]
  | a :: as, b :: bs, g :: gs => by
    have := zp_map op as bs gs
    simp only [List.map_cons, zip3D, zp, fz, this]
theorem zip3_mem : ∀ {a b g : List Int} {d : Dt}, d ∈ zip3D (a.map Dt.int) (b.map .int) (g.map .int) → ∃ x y z, d = .tup [.int x, .int y, .int z] ∧ z ∈ g
  | [], _, _, _, h => by simp [zip3D] at h
  | _ :: _, [], _, _, h => by simp [zip3D] at h
  | _ :: _, _ :: _, [], _, h => by simp [zip3D] at h
  | a :: as, b :: bs, g :: gs, d, h => by
    rcases List.mem_cons.mp (show d ∈ .tup [.int a, .int b, .int g] :: zip3D (as.map Dt.int) (bs.map .int) (gs.map .int) from h) with rfl | h
    · exact ⟨a, b, g, rfl, List.mem_cons_self⟩
    · obtain ⟨x, y, z, e, m⟩ := zip3_mem h
      exact ⟨x, y, z, e, List.mem_cons_of_mem _ m⟩
theorem zip3_le (a b g : List Int) : (zip3D (a.map Dt.int) (b.map .int) (g.map .int)).length ≤ g.length := by
  induction a generalizing b g with
  | nil => simp [zip3D]
  | cons x a ih => cases b <;> cases g <;> simp [zip3D]; exact ih _ _
def pos (g : List Int) : Prop := ∀ x ∈ g, 0 < x
def Tu : Nat → Dt → Dt → Prop
  | 0, d, e => ∃ i, d = .int i ∧ e = .int i
  | k + 1, d, e => (∃ i, d = .int i ∧ e = .int i) ∨ ∃ ds es, (d = .tup ds ∨ d = .lst ds) ∧ e = .tup es ∧ ds.length ≤ 16777216 ∧ All2 (Tu k) ds es
def prod (g : List Int) : Int := g.foldl (· * ·) 1
structure Grp (g : List Int) : Prop where
  ne : g ≠ []
  len : g.length ≤ 4
  each : ∀ x ∈ g, 2 ≤ x ∧ x ≤ 256
  sz : prod g ≤ 256
/-- a member -/
def isM : List Int → List Int → Bool
  | x :: xs, g :: gs => decide (0 ≤ x) && decide (x ≤ g - 1) && isM xs gs
  | [], [] => true
  | _, _ => false
end E2
namespace LW
open PySem PySem.Spec PyProof.Rows L2 E2
theorem s_is_number {n : Nat} (h : 2 ≤ n) (i : Int) : (RR.at_ n d_is_number).run [.sh (.int i)] = .ok (.sh (.bl true), [.dead]) := by
  obtain ⟨n, rfl⟩ := Nat.exists_eq_add_of_le' h
  rw [r_is_number]
  simp [b_is_number, isTy]
theorem s_is_within {n : Nat} (h : 3 ≤ n) (i a b : Int) : (RR.at_ n d_is_within).run [.sh (.int i), .sh (.int a), .sh (.int b)] = .ok (.sh (.bl (decide (a ≤ i) && decide (i ≤ b))), [.dead, .dead, .dead]) := by
  obtain ⟨n, rfl⟩ := Nat.exists_eq_add_of_le' h
  rw [show n + 3 = (n + 1) + 2 from rfl, r_is_within]
  have := s_is_number (n := n + 1 + 1) (by omega) i
  by_cases q : a ≤ i <;> simp [b_is_within, this, fChain, q]
theorem s_is_long {n : Nat} (h : 2 ≤ n) (ds : List Dt) (k : Int) : (RR.at_ n d_is_long).run [.sh (.tup ds), .sh (.int k)] = .ok (.sh (.bl (decide ((ds.length : Int) = k))), [.dead, .dead]) := by
  obtain ⟨n, rfl⟩ := Nat.exists_eq_add_of_le' h
  rw [r_is_long]
  simp [b_is_long, isTy]
theorem s_tupled : ∀ (k : Nat) {n : Nat} (h : k + 2 ≤ n) {d e : Dt}, Tu k d e → (RR.at_ n d_tupled).run [.sh d] = .ok (.sh e, [.dead]) := by
  have base : ∀ (n : Nat) (i : Int), (RR.at_ (n + 2) d_tupled).run [.sh (.int i)] = .ok (.sh (.int i), [.dead]) := fun n i => by
    rw [r_tupled]
    simp [b_tupled, isTy]
  intro k
  induction k with
  | zero =>
    intro n h d e ⟨i, e1, e2⟩
    obtain ⟨n, rfl⟩ := Nat.exists_eq_add_of_le' h
    subst e1 e2
    exact base n i
  | succ k ih =>
    intro n h d e hT
    obtain ⟨n, rfl⟩ := Nat.exists_eq_add_of_le' (show 2 ≤ n by omega)
    rcases hT with ⟨i, e1, e2⟩ | ⟨ds, es, e1, e2, hl, h2⟩
    · subst e1 e2
      exact base n i
    · subst e2
      have key : ∀ s, lcS (gAsg 1) fYes (share (fCall (RR.at_ (n + 1) d_tupled) [.sl 1])) [1] ds [] [s, .dead] = .ok (es, [s, .dead]) := fun s => by
        rw [lcS_all2 (R := Tu k) (fun d e he => ?_) h2, List.nil_append]
        have := ih (n := n + 1) (by omega) he
        simp [this]
      rcases e1 with e1 | e1
      all_goals
        subst e1
        rw [r_tupled]
        simp [b_tupled, isTy, hl, key]
theorem s_ascends {n : Nat} (h : 2 ≤ n) (L : List (List Int)) (hl : L.length ≤ 100000) : (RR.at_ n d_ascends).run [.sh (.tup (L.map tz))] = .ok (.sh (.bl ((L.zip (L.tail)).all fun p => decide (p.1 < p.2))), [.dead]) := by
  obtain ⟨n, rfl⟩ := Nat.exists_eq_add_of_le' h
  rw [r_ascends]
  have e1 : zip2D (L.map tz) ((L.map tz).tail) = (L.zip (L.tail)).map fun p => .tup [tz p.1, tz p.2] := by
    rw [← List.map_tail]
    generalize L.tail = M
    clear hl
    induction L generalizing M with
    | nil => simp [zip2D]
    | cons x L ih => cases M <;> simp [zip2D]; exact ih _
  have e2 : ((L.zip (L.tail)).map fun p => Dt.tup [tz p.1, tz p.2]).length ≤ 16777216 := by simp; omega
  have key : ∀ s, lcS (gTupA (gsCons (gAsg 1) (gsCons (gAsg 2) gsNil))) fYes (share (f2 (.sl 1) (.sl 2) ltD)) [1, 2] ((L.zip (L.tail)).map fun p => .tup [tz p.1, tz p.2]) [] [s, .dead, .dead] = .ok ((L.zip (L.tail)).map (fun p => .bl (decide (p.1 < p.2))), [s, .dead, .dead]) := fun s => by
    have := lcS_all2 (a := gTupA (gsCons (gAsg 1) (gsCons (gAsg 2) gsNil))) (f := share (f2 (.sl 1) (.sl 2) ltD)) (vs := [1, 2]) (ρ := [s, .dead, .dead]) (R := fun d e => ∃ p : List Int × List Int, d = .tup [tz p.1, tz p.2] ∧ e = .bl (decide (p.1 < p.2)))
      (fun d e ⟨p, h1, h2⟩ => by subst h1 h2; simp [x_ltT]) (ds := (L.zip (L.tail)).map fun p => .tup [tz p.1, tz p.2]) (es := (L.zip (L.tail)).map (fun p => .bl (decide (p.1 < p.2)))) (by
        generalize L.zip (L.tail) = M
        induction M with
        | nil => exact .nil
        | cons p M ih => exact .cons ⟨p, rfl, rfl⟩ ih) []
    rw [this, List.nil_append]
  simp only [List.length_map] at e2
  simp [b_ascends, fSl, fPart, fNoP, slD, cut1, e1, key, all_map, show L.length ≤ 16777217 by omega]
theorem mul_small {i j : Int} (h1 : -1000 ≤ j) (h2 : j ≤ 1000) : mulD (.int i) (.int j) = some (.sh (.int (i * j))) := by
  have : mulOk i j = true := by
    unfold mulOk
    simp only [Bool.or_eq_true, Bool.and_eq_true, decide_eq_true_eq]
    omega
  simp [mulD, this]
theorem prod_loop : ∀ (g : List Int) (a : E2.Slot) (k : Int) (x : E2.Slot), (∀ y ∈ g, -1000 ≤ y ∧ y ≤ 1000) → ∃ y, forS (gAsg 2) (fSeq2 (fAsg 1 (f2 (.sl 1) (.sl 2) mulD)) fNil) (g.map Dt.int) [a, .sh (.int k), x] = .nxt [a, .sh (.int (g.foldl (· * ·) k)), y]
  | [], a, k, x, _ => ⟨x, by simp [forS]⟩
  | i :: g, a, k, x, h => by
    obtain ⟨y, hy⟩ := prod_loop g a (k * i) (.sh (.int i)) fun y hy => h y (List.mem_cons_of_mem _ hy)
    have hi := h i List.mem_cons_self
    exact ⟨y, by simp [forS, mul_small hi.1 hi.2, hy]⟩
theorem s_size_of {n : Nat} (h : 2 ≤ n) {g : List Int} (hg : Grp g) : (RR.at_ n d_size_of).run [.sh (tz g)] = .ok (.sh (.int (prod g)), [.dead]) := by
  obtain ⟨n, rfl⟩ := Nat.exists_eq_add_of_le' h
  obtain ⟨y, hy⟩ := prod_loop g (.sh (tz g)) 1 .dead fun y hy => by have := hg.each y hy; omega
  rw [r_size_of]
  simp [b_size_of, tz] at hy ⊢
  simp [hy, prod]
theorem s_is_group {n : Nat} (h : 5 ≤ n) {g : List Int} (hg : Grp g) : (RR.at_ n d_is_group).run [.sh (tz g)] = .ok (.sh (.bl true), [.dead]) := by
  obtain ⟨n, rfl⟩ := Nat.exists_eq_add_of_le' (show 2 ≤ n by omega)
  rw [r_is_group]
  have h1 := s_size_of (n := n + 1) (by omega) hg
  have h2 := hg.len
  have h3 : 1 ≤ g.length := List.length_pos_iff.mpr hg.ne
  have key : ∀ s, lcS (gAsg 1) fYes (share (fCall (RR.at_ (n + 1) d_is_within) [(.sl 1), (.ex (share (fC (.int 2)))), (.ex (share (fC (.int 256))))])) [1] (g.map .int) [] [s, .dead] = .ok (g.map (fun x => .bl (decide (2 ≤ x) && decide (x ≤ 256))), [s, .dead]) := fun s => by
    have := lcS_all2 (a := gAsg 1) (f := share (fCall (RR.at_ (n + 1) d_is_within) [(.sl 1), (.ex (share (fC (.int 2)))), (.ex (share (fC (.int 256))))])) (vs := [1]) (ρ := [s, .dead]) (R := fun d e => ∃ x : Int, d = .int x ∧ e = .bl (decide (2 ≤ x) && decide (x ≤ 256)))
      (fun d e ⟨x, h1, h2⟩ => by subst h1 h2; simp [s_is_within (n := n + 1) (by omega)]) (ds := g.map .int) (es := g.map (fun x => .bl (decide (2 ≤ x) && decide (x ≤ 256)))) (by
        clear hg h1 h2 h3
        induction g with
        | nil => exact .nil
        | cons p M ih => exact .cons ⟨p, rfl, rfl⟩ ih) []
    rw [this, List.nil_append]
  have all : (g.all fun x => decide (2 ≤ x) && decide (x ≤ 256)) = true := by
    rw [List.all_eq_true]
    intro x hx
    have := hg.each x hx
    simp [this]
  have hs := hg.sz
  simp [tz] at h1
  have h4 : (1 : Int) ≤ (g.length : Int) := by omega
  have h5 : (g.length : Int) ≤ 4 := by omega
  have h6 : g.length ≤ 16777216 := by omega
  simp [b_is_group, tz, isTy, fChain, h4, h5, h6, key, all_map, all, h1, hs]
theorem all2_map {α : Type} {R : Dt → Dt → Prop} {x y : α → Dt} : ∀ {l : List α}, (∀ a ∈ l, R (x a) (y a)) → All2 R (l.map x) (l.map y)
  | [], _ => .nil
  | a :: l, h => .cons (h a List.mem_cons_self) (all2_map fun b hb => h b (List.mem_cons_of_mem _ hb))
theorem s_sure_group {n : Nat} (h : 6 ≤ n) {g : List Int} (hg : Grp g) {d : Dt} (ht : Tu 2 d (tz g)) : (RR.at_ n d_sure_group).run [.sh d] = .ok (.sh (tz g), [.dead]) := by
  obtain ⟨n, rfl⟩ := Nat.exists_eq_add_of_le' (show 2 ≤ n by omega)
  rw [r_sure_group]
  have h1 := s_tupled 2 (n := n + 1) (by omega) ht
  have h2 := s_is_group (n := n + 1) (by omega) hg
  simp [b_sure_group, h1, h2]
theorem isM_len : ∀ {a g : List Int}, isM a g = true → a.length = g.length
  | [], [], _ => rfl
  | [], _ :: _, h => by simp [isM] at h
  | _ :: _, [], h => by simp [isM] at h
  | x :: xs, g :: gs, h => by
    simp only [isM, Bool.and_eq_true] at h
    simp [isM_len h.2]
theorem isM_zip : ∀ {a g : List Int}, isM a g = true → ((a.zip g).all fun p => decide (0 ≤ p.1) && decide (p.1 ≤ p.2 - 1)) = true
  | [], [], _ => rfl
  | [], _ :: _, h => by simp [isM] at h
  | _ :: _, [], h => by simp [isM] at h
  | x :: xs, g :: gs, h => by
    simp only [isM, Bool.and_eq_true] at h
    simp only [List.zip_cons_cons, List.all_cons, Bool.and_eq_true]
    exact ⟨h.1, isM_zip h.2⟩
theorem zip2_ints : ∀ a g : List Int, zip2D (a.map Dt.int) (g.map .int) = (a.zip g).map fun p => .tup [.int p.1, .int p.2]
  | [], _ => by simp [zip2D]
  | _ :: _, [] => by simp [zip2D]
  | a :: as, g :: gs => by simp [zip2D, zip2_ints as gs]
theorem s_is_member_in {n : Nat} (h : 4 ≤ n) {g a : List Int} (hl : g.length ≤ 100) (hm : isM a g = true) : (RR.at_ n d_is_member_in).run [.sh (tz g), .sh (tz a)] = .ok (.sh (.bl true), [.dead, .dead]) := by
  obtain ⟨n, rfl⟩ := Nat.exists_eq_add_of_le' (show 2 ≤ n by omega)
  rw [r_is_member_in]
  have e := isM_len hm
  have h1 := s_is_long (n := n + 1) (by omega) (a.map .int) g.length
  have hz := isM_zip hm
  have key : ∀ s s', lcS (gTupA (gsCons (gAsg 2) (gsCons (gAsg 3) gsNil))) fYes (share (fCall (RR.at_ (n + 1) d_is_within) [(.sl 2), (.ex (share (fC (.int 0)))), (.ex (share (f2 (.sl 3) (.ex (share (fC (.int 1)))) subD)))])) [2, 3] ((a.zip g).map fun p => .tup [.int p.1, .int p.2]) [] [s, s', .dead, .dead] = .ok ((a.zip g).map (fun p => .bl (decide (0 ≤ p.1) && decide (p.1 ≤ p.2 - 1))), [s, s', .dead, .dead]) := fun s s' => by
    rw [lcS_all2 (R := fun d e => ∃ p : Int × Int, d = .tup [.int p.1, .int p.2] ∧ e = .bl (decide (0 ≤ p.1) && decide (p.1 ≤ p.2 - 1))) (fun d e ⟨p, h1, h2⟩ => by
      subst h1 h2
      simp [s_is_within (n := n + 1) (by omega)]) (all2_map fun p _ => ⟨p, rfl, rfl⟩) [], List.nil_append]
  have hq : (a.zip g).length ≤ 16777216 := by simp; omega
  simp [e] at h1
  simp [b_is_member_in, tz, h1, e, zip2_ints, key, show g.length ≤ 16777216 by omega, all_map, hz]
theorem s_g_plus {n : Nat} (h : 2 ≤ n) {g : List Int} (hg : pos g) (hl : g.length ≤ 100) (a b : List Int) : (RR.at_ n d_g_plus).run [.sh (tz g), .sh (tz a), .sh (tz b)] = .ok (.sh (tz (zp (· + ·) a b g)), [.dead, .dead, .dead]) := by
  obtain ⟨n, rfl⟩ := Nat.exists_eq_add_of_le' h
  rw [r_g_plus]
  have hz := zip3_le a b g
  simp [b_g_plus, tz]
  rw [if_pos (by omega), lcS_map (y := fz (· + ·))]
  · simp [zp_map]
  · intro d hd
    obtain ⟨x, y, z, rfl, hz⟩ := zip3_mem hd
    simp [fz, x_mod (hg z hz)]
/-- a lot -/
structure Lot (g : List Int) (L : List (List Int)) : Prop where
  ne : L ≠ []
  mem : ∀ a ∈ L, isM a g = true
  up : ((L.zip L.tail).all fun p => decide (p.1 < p.2)) = true
  len : L.length ≤ 256
theorem eq_nil {ds : List Dt} (h : ds ≠ []) (hf : flatAll 59 ds = true) : eqD (.tup ds) (.tup []) = some (.sh (.bl false)) := by
  cases ds with
  | nil => exact absurd rfl h
  | cons d ds =>
    have : eqP (.tup (d :: ds)) (.tup []) = false := by simp [eqP, py, pyAll, PyData.eqv, PyData.eqvAll]
    simp only [flatAll, Bool.and_eq_true] at hf
    simp [eqD, flat, hf.1, hf.2, flatAll, this]
theorem s_is_lot_in {n : Nat} (h : 5 ≤ n) {g : List Int} (hl : g.length ≤ 100) {L : List (List Int)} (hL : Lot g L) : (RR.at_ n d_is_lot_in).run [.sh (tz g), .sh (.tup (L.map tz))] = .ok (.sh (.bl true), [.dead, .dead]) := by
  obtain ⟨n, rfl⟩ := Nat.exists_eq_add_of_le' (show 2 ≤ n by omega)
  rw [r_is_lot_in]
  have hlen := hL.len
  have h1 := s_ascends (n := n + 1) (by omega) L (by omega)
  rw [hL.up] at h1
  have h2 := eq_nil (ds := L.map tz) (by simpa using hL.ne) (flat_tzs 58 L)
  have key : ∀ s, lcS (gAsg 2) fYes (share (fCall (RR.at_ (n + 1) d_is_member_in) [(.sl 0), (.sl 2)])) [2] (L.map tz) [] [.sh (tz g), s, .dead] = .ok (L.map (fun _ => .bl true), [.sh (tz g), s, .dead]) := fun s => by
    rw [lcS_all2 (R := fun d e => ∃ a, isM a g = true ∧ d = tz a ∧ e = .bl true) (fun d e ⟨a, h0, h1, h2⟩ => by
      subst h1 h2
      simp [s_is_member_in (n := n + 1) (by omega) hl h0]) (all2_map fun a ha => ⟨a, hL.mem a ha, rfl, rfl⟩) [], List.nil_append]
  simp [b_is_lot_in, isTy, h2, key, show L.length ≤ 16777216 by omega, h1, all_map]
theorem s_sure_lot {n : Nat} (h : 6 ≤ n) {g : List Int} (hl : g.length ≤ 100) {L : List (List Int)} (hL : Lot g L) {d : Dt} (ht : Tu 3 d (.tup (L.map tz))) : (RR.at_ n d_sure_lot).run [.sh (tz g), .sh d] = .ok (.sh (.tup (L.map tz)), [.dead, .dead]) := by
  obtain ⟨n, rfl⟩ := Nat.exists_eq_add_of_le' (show 2 ≤ n by omega)
  rw [r_sure_lot]
  have h1 := s_tupled 3 (n := n + 1) (by omega) ht
  have h2 := s_is_lot_in (n := n + 1) (by omega) hl hL
  simp [b_sure_lot, h1, h2]
end LW
end

section
set_option Elab.async false
set_option linter.all false
set_option maxRecDepth 100000
set_option maxHeartbeats 400000
/-! P2: gaps, sums of lots. -/
namespace E2
open PySem PySem.Spec PyProof.Rows L2
theorem lcJ_all2 {a : Dt → Env → Option Env} {f : EE} {vs : List Nat} {ρ : Env} {R : Dt → Dt → Prop} (step : ∀ d e, R d e → ∃ ρ1 ρ2, a d ρ = some ρ1 ∧ f ρ1 = .ok (e, ρ2) ∧ wipeD ρ2 vs = ρ) : ∀ {ds es : List Dt}, All2 R ds es → ∀ acc, acc.length + es.length ≤ 16777216 → lcJ a fYes f vs ds acc ρ = .ok (acc ++ es, ρ)
  | _, _, .nil, acc, _ => by simp [lcJ]
  | _, _, .cons (b := e) h t, acc, hl => by
    obtain ⟨ρ1, ρ2, e1, e2, e3⟩ := step _ _ h
    simp only [List.length_cons] at hl
    have ih := lcJ_all2 step t (acc ++ [e]) (by simp; omega)
    simp only [lcJ, e1, x_yes, e2, e3, if_pos (show acc.length < 16777216 by omega), ih, List.append_assoc, List.singleton_append]
theorem lcS2_all2 {a a1 : Dt → Env → Option Env} {it1 : Env → R (List Dt × Env)} {f : EE} {vs vs1 : List Nat} {ρ : Env} {S : Dt → List Dt → Prop}
    (step : ∀ d es, S d es → ∃ ρ1 items ρ3 ρ4, a d ρ = some ρ1 ∧ it1 ρ1 = .ok (items, ρ3) ∧ (∀ acc, acc.length + es.length ≤ 16777216 → lcJ a1 fYes f vs1 items acc (wipeD ρ3 vs1) = .ok (acc ++ es, ρ4)) ∧ wipeD ρ4 vs = ρ) :
    ∀ {ds : List Dt} {ess : List (List Dt)}, All2 S ds ess → ∀ acc, acc.length + ess.flatten.length ≤ 16777216 → lcS2 a fYes it1 a1 fYes f vs vs1 ds acc ρ = .ok (acc ++ ess.flatten, ρ)
  | _, _, .nil, acc, _ => by simp [lcS2]
  | _, _, .cons (b := es) (bs := ess) h t, acc, hl => by
    obtain ⟨ρ1, items, ρ3, ρ4, e1, e2, e3, e4⟩ := step _ _ h
    rw [List.flatten_cons, List.length_append] at hl
    have ih := lcS2_all2 step t (acc ++ es) (by simp only [List.length_append]; omega)
    simp only [lcS2, e1, x_yes, e2, e3 acc (by omega), e4, ih, List.flatten_cons, List.append_assoc]
theorem all2_mapG {α β : Type} {R : Dt → β → Prop} {x : α → Dt} {y : α → β} : ∀ {l : List α}, (∀ a ∈ l, R (x a) (y a)) → All2 R (l.map x) (l.map y)
  | [], _ => .nil
  | a :: l, h => .cons (h a List.mem_cons_self) (all2_mapG fun b hb => h b (List.mem_cons_of_mem _ hb))
theorem tupI_tz (k : List Int) : tupI (tz k) = some k := by
  show intsD (k.map .int) = some k
  induction k with
  | nil => rfl
  | cons i k ih =>
    show (intsD (k.map .int)).map (i :: ·) = _
    rw [ih]; rfl
theorem tupIs_tz : ∀ ks : List (List Int), tupIs (ks.map tz) = some ks
  | [] => rfl
  | k :: ks => by simp only [List.map_cons, tupIs, tupI_tz, tupIs_tz ks]
theorem setSort_tz {ks : List (List Int)} (h1 : (dd ks).length ≤ 62) (h2 : ∀ k ∈ ks, k ≠ []) : setSortD [.lst (ks.map tz)] = some (.ow (.lst ((setI ks).map tz))) := by
  have : (ks.all fun k => decide (k ≠ [])) = true := List.all_eq_true.mpr fun k hk => by simpa using h2 k hk
  simp only [setSortD, tupIs_tz]
  rw [if_pos ⟨h1, this⟩]
/-- pairs' differences, sums -/
def prs (op : Int → Int → Int) (g : List Int) (A B : List (List Int)) : List (List Int) := (A.map fun a => B.map fun b => zp op a b g).flatten
theorem prs_map (op : Int → Int → Int) (g : List Int) (A B : List (List Int)) : (A.map fun a => B.map fun b => tz (zp op a b g)).flatten = (prs op g A B).map tz := by
  unfold prs
  rw [List.map_flatten, List.map_map]
  congr 1
  refine List.map_congr_left fun a _ => ?_
  simp
theorem prs_len (op : Int → Int → Int) (g : List Int) (A B : List (List Int)) : (prs op g A B).length = A.length * B.length := by
  unfold prs
  induction A with
  | nil => simp
  | cons a A ih => simp [ih, Nat.succ_mul, Nat.add_comm]
theorem mem_prs {op : Int → Int → Int} {g : List Int} {A B : List (List Int)} {x : List Int} : x ∈ prs op g A B ↔ ∃ a ∈ A, ∃ b ∈ B, x = zp op a b g := by
  unfold prs
  simp only [List.mem_flatten, List.mem_map]
  constructor
  · rintro ⟨l, ⟨a, ha, rfl⟩, hx⟩
    obtain ⟨b, hb, rfl⟩ := List.mem_map.mp hx
    exact ⟨a, ha, b, hb, rfl⟩
  · rintro ⟨a, ha, b, hb, rfl⟩
    exact ⟨_, ⟨a, ha, rfl⟩, List.mem_map.mpr ⟨b, hb, rfl⟩⟩
theorem zp_len {op : Int → Int → Int} : ∀ {a b g : List Int}, a.length = g.length → b.length = g.length → (zp op a b g).length = g.length
  | [], [], [], _, _ => rfl
  | a :: as, b :: bs, g :: gs, h1, h2 => by simp only [zp, List.length_cons]; rw [zp_len (by simpa using h1) (by simpa using h2)]
  | [], _ :: _, [], _, h => by simp at h
  | _ :: _, _, [], h, _ => by simp at h
  | [], _, _ :: _, h, _ => by simp at h
  | _ :: _, [], _ :: _, _, h => by simp at h
/-- its members -/
theorem zp_mem {op : Int → Int → Int} : ∀ {a b g : List Int}, a.length = g.length → b.length = g.length → pos g → isM (zp op a b g) g = true
  | [], [], [], _, _, _ => rfl
  | a :: as, b :: bs, g :: gs, h1, h2, hp => by
    have h0 : 0 < g := hp g List.mem_cons_self
    have := Int.emod_nonneg (op a b) (show g ≠ 0 by omega)
    have := Int.emod_lt_of_pos (op a b) h0
    simp only [zp, isM, Bool.and_eq_true, decide_eq_true_eq]
    exact ⟨⟨by omega, by omega⟩, zp_mem (by simpa using h1) (by simpa using h2) fun x hx => hp x (List.mem_cons_of_mem _ hx)⟩
  | [], _ :: _, [], _, h, _ => by simp at h
  | _ :: _, _, [], h, _, _ => by simp at h
  | [], _, _ :: _, h, _, _ => by simp at h
  | _ :: _, [], _ :: _, _, h, _ => by simp at h
/-- all members of a group -/
def mems : List Int → List (List Int)
  | [] => [[]]
  | g :: gs => ((List.range g.toNat).map fun (i : Nat) => (mems gs).map fun r => ((i : Nat) : Int) :: r).flatten
theorem mem_mems : ∀ {a g : List Int}, isM a g = true → a ∈ mems g
  | [], [], _ => by simp [mems]
  | [], _ :: _, h => by simp [isM] at h
  | _ :: _, [], h => by simp [isM] at h
  | x :: xs, g :: gs, h => by
    simp only [isM, Bool.and_eq_true, decide_eq_true_eq] at h
    simp only [mems, List.mem_flatten, List.mem_map]
    refine ⟨_, ⟨x.toNat, List.mem_range.mpr (by omega), rfl⟩, List.mem_map.mpr ⟨xs, mem_mems h.2, ?_⟩⟩
    have : ((x.toNat : Nat) : Int) = x := by omega
    rw [this]
theorem dd_le {ks M : List (List Int)} (h : ∀ k ∈ ks, k ∈ M) : (dd ks).length ≤ M.length := nodup_le (dd_nodup ks) fun x hx => h x (mem_dd.mp hx)
end E2
namespace LW
open PySem PySem.Spec PyProof.Rows L2 E2
end LW
end

section
set_option Elab.async false
set_option linter.all false
set_option maxRecDepth 100000
set_option maxHeartbeats 400000
/-! P3: sums of lots; what is told of lots. -/
namespace E2
open PySem PySem.Spec PyProof.Rows L2
@[simp] theorem x_set (i : Nat) (fk fv : EE) (ρ : Env) : fSet i fk fv ρ = sbind (fv ρ) fun v ρ1 => match ρ1[i]? with
  | some (.ow _) => sbind (fk ρ1) fun k ρ2 => (match ρ2[i]? with
    | some (.ow d) => (match setD d k v with
      | some d' => .nxt (ρ2.set i (.ow d'))
      | none => .bad)
    | _ => .bad)
  | _ => .bad := rfl
@[simp] theorem x_dct0 (ρ : Env) : fDct0 ρ = .ok (.ow (.dct [] []), ρ) := rfl
@[simp] theorem x_asgT (f : EE) (g : Dt → Env → Option Env) (ρ : Env) : fAsgT f g ρ = sbind (f ρ) fun d ρ1 => match g d ρ1 with
  | some ρ2 => .nxt ρ2
  | none => .bad := rfl
def putI (K : List (List Int)) (k : List Int) : List (List Int) := if k ∈ K then K else K ++ [k]
def dT (K : List (List Int)) : Dt := .dct (K.map tz) (K.map fun _ => .bl true)
theorem tz_inj {a b : List Int} (h : tz a = tz b) : a = b := by
  have : ∀ {a b : List Int}, a.map Dt.int = b.map .int → a = b := fun {a b} h => by
    induction a generalizing b with
    | nil => cases b <;> simp at h; rfl
    | cons x a ih =>
      cases b with
      | nil => simp at h
      | cons y b =>
        simp only [List.map_cons, List.cons.injEq, Dt.int.injEq] at h
        rw [h.1, ih h.2]
  exact this (by simpa [tz] using h)
theorem same_tz (a b : List Int) : same (tz a) (tz b) = decide (a = b) := by
  by_cases h : a = b
  · subst h; simp [(same_iff (tz a) (tz a)).mpr rfl]
  · rw [decide_eq_false h]
    cases q : same (tz a) (tz b) with
    | false => rfl
    | true => exact absurd (tz_inj ((same_iff _ _).mp q)) h
theorem dput_tz : ∀ (K : List (List Int)) (k : List Int), dPut (K.map tz) (K.map fun _ => .bl true) (tz k) (.bl true) = ((putI K k).map tz, (putI K k).map fun _ => .bl true)
  | [], k => by simp [dPut, putI]
  | x :: K, k => by
    have ih := dput_tz K k
    simp only [List.map_cons, dPut, same_tz, decide_eq_true_eq]
    by_cases h : x = k
    · subst h; simp [putI]
    · rw [if_neg h, ih]
      by_cases h2 : k ∈ K <;> simp [putI, h2, show ¬ k = x from fun z => h z.symm]
theorem keyT_tz (k : List Int) : (keyT (tz k)).isSome = true := by
  have : ∀ k : List Int, keyAs (k.map .int) = some (k.map .inl) := fun k => by
    induction k with
    | nil => rfl
    | cons i k ih => simp only [List.map_cons, keyAs, keyA, ih]
  simp [keyT, tz, this]
theorem fits_tz (K : List (List Int)) (k : List Int) : keyFits (K.map tz) (tz k) = true := by
  unfold keyFits
  rw [Bool.or_eq_true, Bool.and_eq_true, Bool.and_eq_true]
  exact .inr ⟨keyT_tz k, by rw [List.all_map, List.all_eq_true]; exact fun x _ => keyT_tz x⟩
theorem set_dT {K : List (List Int)} (k : List Int) (h : K.length < 16777216) : setD (dT K) (tz k) (.bl true) = some (dT (putI K k)) := by
  show (if keyFits (K.map tz) (tz k) && decide ((K.map tz).length < 16777216) then some (Dt.dct (dPut (K.map tz) (K.map fun _ => .bl true) (tz k) (.bl true)).1 (dPut (K.map tz) (K.map fun _ => .bl true) (tz k) (.bl true)).2) else none) = _
  rw [fits_tz, dput_tz]
  simp [h, dT]
theorem putI_len (K : List (List Int)) (k : List Int) : (putI K k).length ≤ K.length + 1 := by
  unfold putI
  split <;> simp
theorem putI_nodup {K : List (List Int)} (h : K.Nodup) (k : List Int) : (putI K k).Nodup := by
  unfold putI
  split
  · exact h
  · rename_i q
    exact List.nodup_append.mpr ⟨h, by simp, fun x hx y hy e => q (by
      rw [List.mem_singleton.mp hy] at e
      exact e ▸ hx)⟩
theorem mem_putI {K : List (List Int)} {k x : List Int} : x ∈ putI K k ↔ x ∈ K ∨ x = k := by
  unfold putI
  split
  · rename_i q
    exact ⟨.inl, fun z => z.elim id fun e => e ▸ q⟩
  · simp
def kd (K ks : List (List Int)) : List (List Int) := ks.foldl putI K
theorem kd_nodup : ∀ {ks K : List (List Int)}, K.Nodup → (kd K ks).Nodup
  | [], _, h => h
  | k :: ks, K, h => kd_nodup (ks := ks) (putI_nodup h k)
theorem mem_kd {x : List Int} : ∀ {ks K : List (List Int)}, x ∈ kd K ks ↔ x ∈ K ∨ x ∈ ks
  | [], K => by simp [kd]
  | k :: ks, K => by
    show x ∈ kd (putI K k) ks ↔ _
    rw [mem_kd (ks := ks), mem_putI, List.mem_cons, or_assoc]
theorem kd_len : ∀ {ks K : List (List Int)}, (kd K ks).length ≤ K.length + ks.length
  | [], K => by simp [kd]
  | k :: ks, K => by
    have := kd_len (ks := ks) (K := putI K k)
    have := putI_len K k
    show (kd (putI K k) ks).length ≤ _
    simp only [List.length_cons]
    omega
theorem kd_app (K a b : List (List Int)) : kd K (a ++ b) = kd (kd K a) b := by unfold kd; rw [List.foldl_append]
theorem kd_sort (ks : List (List Int)) : sortI (kd [] ks) = setI ks := by
  unfold setI
  exact sortI_eq ((List.perm_ext_iff_of_nodup (kd_nodup .nil) (dd_nodup ks)).mpr fun x => by rw [mem_kd, mem_dd]; simp)
theorem sorted_dT {K : List (List Int)} (h : ∀ k ∈ K, k ≠ []) : sortedD [dT K] = some (.ow (.lst ((sortI K).map tz))) := by
  show (if sortOk (K.map tz) then some (Slot.ow (.lst (sortD (K.map tz)))) else none) = _
  rw [if_pos (sortOk_tz h), sortD_tz]
end E2
namespace LW
open PySem PySem.Spec PyProof.Rows L2 E2
theorem sums_inner {n : Nat} (h : 2 ≤ n + 1) {g : List Int} (hg : pos g) (hl : g.length ≤ 100) (s1 s2 : E2.Slot) (a : List Int) : ∀ (B K : List (List Int)) (x : E2.Slot), K.length + B.length ≤ 100000 → ∃ x', forS (gAsg 5) (fSeq2 (fSet 3 (share (fCall (RR.at_ (n + 1) d_g_plus) [(.sl 0), (.sl 4), (.sl 5)])) (share (fC (.bl true)))) fNil) (B.map tz) [.sh (tz g), s1, s2, .ow (dT K), .sh (tz a), x] =
    .nxt [.sh (tz g), s1, s2, .ow (dT (kd K (B.map fun b => zp (· + ·) a b g))), .sh (tz a), x']
  | [], K, x, _ => ⟨x, by simp [forS, kd]⟩
  | b :: B, K, x, hK => by
    simp only [List.length_cons] at hK
    have := putI_len K (zp (· + ·) a b g)
    obtain ⟨x', e⟩ := sums_inner h hg hl s1 s2 a B (putI K (zp (· + ·) a b g)) (.sh (tz b)) (by omega)
    refine ⟨x', ?_⟩
    have hs := set_dT (K := K) (zp (· + ·) a b g) (by omega)
    simp [forS, s_g_plus h hg hl, hs, e, kd]
theorem sums_outer {n : Nat} (h : 2 ≤ n + 1) {g : List Int} (hg : pos g) (hl : g.length ≤ 100) (s1 : E2.Slot) (B : List (List Int)) : ∀ (A K : List (List Int)) (x y : E2.Slot), K.length + A.length * B.length ≤ 100000 → ∃ x' y', forS (gAsg 4) (fSeq2 (fFor (fItems (eName 2)) (gAsg 5) (fSeq2 (fSet 3 (share (fCall (RR.at_ (n + 1) d_g_plus) [(.sl 0), (.sl 4), (.sl 5)])) (share (fC (.bl true)))) fNil)) fNil) (A.map tz) [.sh (tz g), s1, .sh (.tup (B.map tz)), .ow (dT K), x, y] =
    .nxt [.sh (tz g), s1, .sh (.tup (B.map tz)), .ow (dT (kd K (prs (· + ·) g A B))), x', y']
  | [], K, x, y, _ => ⟨x, y, by simp [forS, kd, prs]⟩
  | a :: A, K, x, y, hK => by
    rw [List.length_cons, Nat.succ_mul] at hK
    obtain ⟨y1, e1⟩ := sums_inner h hg hl s1 (.sh (.tup (B.map tz))) a B K y (by omega)
    have hk := kd_len (ks := B.map fun b => zp (· + ·) a b g) (K := K)
    rw [List.length_map] at hk
    obtain ⟨x', y', e2⟩ := sums_outer h hg hl s1 B A (kd K (B.map fun b => zp (· + ·) a b g)) (.sh (tz a)) y1 (by omega)
    refine ⟨x', y', ?_⟩
    have e3 : prs (· + ·) g (a :: A) B = (B.map fun b => zp (· + ·) a b g) ++ prs (· + ·) g A B := by simp [prs]
    simp only [List.map_cons, forS, x_gAsg]
    rw [e3, kd_app]
    simp [e1, e2]
theorem s_sum_of_lots {n : Nat} (h : 4 ≤ n) {g : List Int} (hg : pos g) (hne : g ≠ []) (hl : g.length ≤ 100) {A B : List (List Int)} (hA : ∀ a ∈ A, isM a g = true) (hB : ∀ a ∈ B, isM a g = true) (zA : A.length ≤ 256) (zB : B.length ≤ 256) :
    (RR.at_ n d_sum_of_lots).run [.sh (tz g), .sh (.tup (A.map tz)), .sh (.tup (B.map tz))] = .ok (.sh (.tup ((setI (prs (· + ·) g A B)).map tz)), [.dead, .dead, .dead]) := by
  obtain ⟨n, rfl⟩ := Nat.exists_eq_add_of_le' (show 2 ≤ n by omega)
  rw [r_sum_of_lots]
  have hq : A.length * B.length ≤ 256 * 256 := Nat.mul_le_mul zA zB
  obtain ⟨x, y, e⟩ := sums_outer (n := n) (by omega) hg hl (.sh (.tup (A.map tz))) B A [] .dead .dead (by simp; omega)
  have h2 : ∀ k ∈ kd [] (prs (· + ·) g A B), k ≠ [] := fun k hk => by
    rw [mem_kd] at hk
    rcases hk with hk | hk
    · cases hk
    obtain ⟨a, ha, b, hb, rfl⟩ := mem_prs.mp hk
    have := zp_len (op := (· + ·)) (isM_len (hA a ha)) (isM_len (hB b hb))
    intro e
    rw [e] at this
    exact hne (List.length_eq_zero_iff.mp this.symm)
  have hs := sorted_dT h2
  rw [kd_sort] at hs
  have e0 : dT [] = .dct [] [] := rfl
  rw [e0] at e
  simp [b_sum_of_lots, e, hs]
end LW
end

section
set_option Elab.async false
set_option linter.all false
set_option maxRecDepth 100000
set_option maxHeartbeats 400000
/-! P4: gaps_lot, is_gaps_all, sums_number, has_no_own_sums. -/
namespace E2
open PySem PySem.Spec PyProof.Rows L2
theorem pos_of {g : List Int} (h : Grp g) : pos g := fun x hx => by have := h.each x hx; omega
theorem dictOf_tz : ∀ (ks K : List (List Int)), (ks.map fun k => (tz k, Dt.bl true)).foldl (fun z p => dPut z.1 z.2 p.1 p.2) (K.map tz, K.map fun _ => .bl true) = ((kd K ks).map tz, (kd K ks).map fun _ => .bl true)
  | [], K => rfl
  | k :: ks, K => by
    rw [List.map_cons, List.foldl_cons]
    simp only [dput_tz]
    rw [dictOf_tz ks (putI K k)]
    rfl
theorem pairs_tz : ∀ ks : List (List Int), pairsD (ks.map fun k => .tup [tz k, .bl true]) = some (ks.map fun k => (tz k, .bl true))
  | [] => rfl
  | k :: ks => by simp only [List.map_cons, pairsD, pairs_tz ks, Option.map_some]
theorem dict_tz (ks : List (List Int)) : dictD [.lst (ks.map fun k => .tup [tz k, .bl true])] = some (.ow (dT (kd [] ks))) := by
  have h : ((ks.map fun k => (tz k, Dt.bl true)).all fun p => (keyT p.1).isSome) = true := by
    rw [List.all_map, List.all_eq_true]
    exact fun k _ => keyT_tz k
  have e := dictOf_tz ks []
  simp only [dictD, pairs_tz]
  rw [if_pos (by rw [h, Bool.or_true])]
  unfold dictOf
  rw [show (([] : List Dt), ([] : List Dt)) = (([] : List (List Int)).map tz, ([] : List (List Int)).map fun _ => .bl true) from rfl, e]
  rfl
theorem find_dT : ∀ (K : List (List Int)) (k : List Int), (dFind (K.map tz) (K.map fun _ => .bl true) (tz k)).isSome = decide (k ∈ K)
  | [], k => by simp [dFind]
  | x :: K, k => by
    simp only [List.map_cons, dFind, same_tz, decide_eq_true_eq]
    by_cases h : x = k
    · subst h; simp
    · rw [if_neg h, find_dT K k]
      simp [show ¬ k = x from fun z => h z.symm]
theorem in_dT (K : List (List Int)) (k : List Int) : inD (tz k) (dT K) = some (.sh (.bl (decide (k ∈ K)))) := by
  have : inO (tz k) (dT K) = some (decide (k ∈ K)) := by
    show (dGet (K.map tz) (K.map fun _ => .bl true) (tz k)).map Option.isSome = _
    unfold dGet
    rw [if_pos (fits_tz K k)]
    simp only [Option.map_some, find_dT]
  simp only [inD, this, x_shB]
end E2
namespace LW
open PySem PySem.Spec PyProof.Rows L2 E2
section
variable {n : Nat} {g : List Int} {L : List (List Int)} {d d' : Dt}
end
end LW
end

section
set_option Elab.async false
set_option linter.all false
set_option maxRecDepth 100000
set_option maxHeartbeats 1000000
/-! P5: the law's draws. -/
namespace E2
open PySem PySem.Spec PyProof.Rows L2
theorem mul_ok {i j : Int} (h1 : -1000000000000000 ≤ j) (h2 : j ≤ 1000000000000000) : mulD (.int i) (.int j) = some (.sh (.int (i * j))) := by
  have : mulOk i j = true := by
    unfold mulOk
    simp only [Bool.or_eq_true, Bool.and_eq_true, decide_eq_true_eq]
    omega
  simp [mulD, this]
theorem x_fdiv {i j : Int} (h1 : 0 < j) (h2 : j ≤ 1000000) : fdivD (.int i) (.int j) = some (.sh (.int (i / j))) := by
  have : j.natAbs.log2 < 9000 := Nat.lt_trans ((Nat.log2_lt (by omega)).mpr (show j.natAbs < 2 ^ 20 by omega)) (by decide)
  simp [fdivD, h1, this]
theorem x_fdiv7 {i : Int} : fdivD (.int i) (.int 1000003) = some (.sh (.int (i / 1000003))) := by
  have : (1000003 : Int).natAbs.log2 < 9000 := by decide +kernel
  simp only [fdivD, this]
  simp
@[simp] theorem x_int (i : Int) : intD [.int i] = some (.sh (.int i)) := rfl
@[simp] theorem x_intB (b : Bool) : intD [.bl b] = some (.sh (.int (if b then 1 else 0))) := rfl
@[simp] theorem x_abs (i : Int) : absD [.int i] = some (.sh (.int (if i < 0 then -i else i))) := rfl
theorem ix30 (x y z : Dt) : ixD (.lst [x, y, z]) (.int 0) = some (.sh x) := rfl
theorem ix31 (x y z : Dt) : ixD (.lst [x, y, z]) (.int 1) = some (.sh y) := rfl
theorem ix32 (x y z : Dt) : ixD (.lst [x, y, z]) (.int 2) = some (.sh z) := rfl
theorem set30 (x y z v : Dt) : setD (.lst [x, y, z]) (.int 0) v = some (.lst [v, y, z]) := rfl
theorem set32 (x y z v : Dt) : setD (.lst [x, y, z]) (.int 2) v = some (.lst [x, y, v]) := rfl
/-- the law's source of draws -/
def TinOk (k : Nat) (d : Dt) : Prop := ∃ a b c : Int, d = .lst [.int a, .int b, .int c] ∧ 0 ≤ c ∧ c ≤ k
theorem TinOk.mono {k m : Nat} {d : Dt} (h : TinOk k d) (l : k ≤ m) : TinOk m d := let ⟨a, b, c, e, h1, h2⟩ := h; ⟨a, b, c, e, h1, by omega⟩
end E2
namespace LW
open PySem PySem.Spec PyProof.Rows L2 E2
theorem s_take {n : Nat} (h : 2 ≤ n) {k : Nat} {d : Dt} (ht : TinOk k d) (hk : k ≤ 1000000) {b : Int} (hb : 0 < b) (hb2 : b ≤ 1000000) : ∃ (r : Int) (d' : Dt), 0 ≤ r ∧ r < b ∧ TinOk (k + 1) d' ∧ (RR.at_ n d__law_take).run [.ow d, .sh (.int b)] = .ok (.sh (.int r), [.ow d', .dead]) := by
  obtain ⟨n, rfl⟩ := Nat.exists_eq_add_of_le' h
  obtain ⟨x, y, c, rfl, h1, h2⟩ := ht
  rw [r__law_take]
  by_cases q : 0 < x
  · refine ⟨x % b, .lst [.int (x / b), .int y, .int c], Int.emod_nonneg _ (by omega), Int.emod_lt_of_pos _ hb, ⟨_, _, _, rfl, h1, by omega⟩, ?_⟩
    simp [b__law_take, ix30, q, x_mod hb, x_fdiv hb hb2, set30]
  · have q2 : ∃ o w u : Int, 0 ≤ w ∧ w ≤ 50000 ∧ o = (y + 48271 * (c + 1)) * (39373 + (c + 1)) % 2147483647 ∧ w = o % 40009 + 7 ∧ u = (o + (c + 1) + y / 1000003) * w % 2147483629 := ⟨_, _, _, by omega, by omega, rfl, rfl, rfl⟩
    obtain ⟨o, w, u, w1, w2, ho, hw, hu⟩ := q2
    refine ⟨((u * 48271 + o) % 2147483587 / 64) % b, .lst [.int x, .int y, .int (c + 1)], Int.emod_nonneg _ (by omega), Int.emod_lt_of_pos _ hb, ⟨_, _, _, rfl, by omega, by omega⟩, ?_⟩
    have m1 : mulD (.int 48271) (.int (c + 1)) = some (.sh (.int (48271 * (c + 1)))) := mul_ok (by omega) (by omega)
    have m2 : mulD (.int (y + 48271 * (c + 1))) (.int (39373 + (c + 1))) = some (.sh (.int ((y + 48271 * (c + 1)) * (39373 + (c + 1))))) := mul_ok (by omega) (by omega)
    have m3 : mulD (.int (o + (c + 1) + y / 1000003)) (.int w) = some (.sh (.int ((o + (c + 1) + y / 1000003) * w))) := mul_ok (by omega) (by omega)
    have m4 : mulD (.int u) (.int 48271) = some (.sh (.int (u * 48271))) := mul_ok (by omega) (by omega)
    have f1 : ∀ i, fdivD (.int i) (.int 64) = some (.sh (.int (i / 64))) := fun i => x_fdiv (by omega) (by omega)
    have d1 : ∀ i, modD (.int i) (.int 2147483647) = some (.sh (.int (i % 2147483647))) := fun i => x_mod (by omega)
    have d2 : ∀ i, modD (.int i) (.int 40009) = some (.sh (.int (i % 40009))) := fun i => x_mod (by omega)
    have d3 : ∀ i, modD (.int i) (.int 2147483629) = some (.sh (.int (i % 2147483629))) := fun i => x_mod (by omega)
    have d4 : ∀ i, modD (.int i) (.int 2147483587) = some (.sh (.int (i % 2147483587))) := fun i => x_mod (by omega)
    simp [b__law_take, ix30, ix31, ix32, q, x_mod hb, f1, d1, d2, d3, d4, x_fdiv7, set32, m1, m2, m3, m4, ← ho, ← hw, ← hu]
end LW
end

section
set_option Elab.async false
set_option linter.all false
set_option maxRecDepth 100000
set_option maxHeartbeats 1000000
/-! P6: the law's small functions. -/
namespace E2
open PySem PySem.Spec PyProof.Rows L2
theorem lcS_st {a : Dt → Env → Option Env} {f : EE} {vs : List Nat} {I : Nat → Env → Prop} {P : Dt → Dt → Prop} {m : Nat} : ∀ (ds : List Dt), (∀ k d ρ, k < m → d ∈ ds → I k ρ → ∃ ρ1 ρ2 y, a d ρ = some ρ1 ∧ f ρ1 = .ok (y, ρ2) ∧ I (k + 1) (wipeD ρ2 vs) ∧ P d y) →
    ∀ acc ρ k, k + ds.length ≤ m → I k ρ → ∃ ys ρ', lcS a fYes f vs ds acc ρ = .ok (acc ++ ys, ρ') ∧ I (k + ds.length) ρ' ∧ All2 P ds ys
  | [], _, acc, ρ, k, _, h => ⟨[], ρ, by simp [lcS], h, .nil⟩
  | d :: ds, step, acc, ρ, k, hk, h => by
    rw [List.length_cons] at hk
    obtain ⟨ρ1, ρ2, y, e1, e2, h2, p⟩ := step k d ρ (by omega) List.mem_cons_self h
    obtain ⟨ys, ρ', e3, h3, ps⟩ := lcS_st ds (fun k e ρ hk he => step k e ρ hk (List.mem_cons_of_mem _ he)) (acc ++ [y]) _ (k + 1) (by omega) h2
    refine ⟨y :: ys, ρ', ?_, by rw [List.length_cons, show k + (ds.length + 1) = k + 1 + ds.length by omega]; exact h3, .cons p ps⟩
    simp only [lcS, e1, x_yes, e2, e3, List.append_assoc, List.singleton_append]
theorem all2_isM : ∀ {g : List Int} {ys : List Dt}, All2 (fun d y => ∃ x r : Int, d = .int x ∧ y = .int r ∧ 0 ≤ r ∧ r ≤ x - 1) (g.map Dt.int) ys → ∃ a : List Int, ys = a.map Dt.int ∧ isM a g = true
  | [], _, .nil => ⟨[], rfl, rfl⟩
  | g :: gs, _, .cons ⟨x, r, e1, e2, e3, e4⟩ t => by
    cases e1
    obtain ⟨a, rfl, h⟩ := all2_isM t
    refine ⟨r :: a, by rw [e2]; rfl, ?_⟩
    simp [isM, h, e3, e4]
end E2
namespace LW
open PySem PySem.Spec PyProof.Rows L2 E2
theorem s_law_plus {n : Nat} (h : 2 ≤ n) {g : List Int} (hg : pos g) (hl : g.length ≤ 100) (a b : List Int) : (RR.at_ n d__law_plus).run [.sh (tz g), .sh (tz a), .sh (tz b)] = .ok (.sh (tz (zp (· + ·) a b g)), [.dead, .dead, .dead]) := by
  obtain ⟨n, rfl⟩ := Nat.exists_eq_add_of_le' h
  rw [r__law_plus]
  have hz := zip3_le a b g
  simp [b__law_plus, tz]
  rw [if_pos (by omega), lcS_map (y := fz (· + ·))]
  · simp [zp_map]
  · intro d hd
    obtain ⟨x, y, z, rfl, hz⟩ := zip3_mem hd
    simp [fz, x_mod (hg z hz)]
def zero (g : List Int) : List Int := List.replicate g.length 0
theorem s_nought {n : Nat} (h : 2 ≤ n) {g : List Int} (hl : g.length ≤ 100) : (RR.at_ n d__law_nought).run [.sh (tz g)] = .ok (.sh (tz (zero g)), [.dead]) := by
  obtain ⟨n, rfl⟩ := Nat.exists_eq_add_of_le' h
  rw [r__law_nought]
  have e : mulD (.tup [.int 0]) (.int (g.length : Int)) = some (.sh (tz (zero g))) := by
    have h1 : (g.length : Int) ≤ 1000 := by omega
    have h2 : (-1000 : Int) ≤ (g.length : Int) := by omega
    have h3 : repL [Dt.int 0] (g.length : Int) = (zero g).map .int := by
      unfold repL zero
      rw [Int.toNat_natCast, List.map_replicate]
      clear h1 h2 hl h
      generalize g.length = m
      induction m with
      | zero => rfl
      | succ m ih => rw [List.replicate_succ, List.flatten_cons, ih, List.replicate_succ]; rfl
    simp [mulD, h1, h2, h3, tz]
  have e' := e
  simp [tz] at e'
  simp [b__law_nought, tz, e']
theorem s_law_size {n : Nat} (h : 2 ≤ n) {g : List Int} (hg : Grp g) : (RR.at_ n d__law_size).run [.sh (tz g)] = .ok (.sh (.int (prod g)), [.dead]) := by
  obtain ⟨n, rfl⟩ := Nat.exists_eq_add_of_le' h
  obtain ⟨y, hy⟩ := prod_loop g (.sh (tz g)) 1 .dead fun y hy => by have := hg.each y hy; omega
  rw [r__law_size]
  simp [b__law_size, tz] at hy ⊢
  simp [hy, prod]
/-! ### with draws -/
theorem s_of {n : Nat} (h : 3 ≤ n) {k : Nat} {d : Dt} (ht : TinOk k d) (hk : k ≤ 1000000) {ds : List Dt} (h1 : ds ≠ []) (h2 : ds.length ≤ 1000) : ∃ (z d' : Dt), z ∈ ds ∧ TinOk (k + 1) d' ∧ (RR.at_ n d__law_of).run [.ow d, .sh (.lst ds)] = .ok (.sh z, [.ow d', .dead]) := by
  obtain ⟨n, rfl⟩ := Nat.exists_eq_add_of_le' (show 2 ≤ n by omega)
  have hp := List.length_pos_iff.mpr h1
  obtain ⟨r, d', r1, r2, r3, r4⟩ := s_take (n := n + 1) (by omega) ht hk (b := (ds.length : Int)) (by omega) (by omega)
  have hlt : r.toNat < ds.length := by omega
  refine ⟨ds[r.toNat], d', List.getElem_mem hlt, r3, ?_⟩
  rw [r__law_of]
  have e : ixD (.lst ds) (.int r) = some (.sh ds[r.toNat]) := by
    have : atI ds r = some ds[r.toNat] := by
      unfold atI ixN
      have c1 : ¬ r < 0 := by omega
      simp [c1, hlt, r1, r2]
    simp [ixD, this]
  simp [b__law_of, r4, e]
theorem s_member {n : Nat} (h : 3 ≤ n) {k : Nat} {d : Dt} (ht : TinOk k d) {g : List Int} (hg : Grp g) (hk : k + g.length ≤ 1000000) : ∃ (a : List Int) (d' : Dt), isM a g = true ∧ TinOk (k + g.length) d' ∧ (RR.at_ n d__law_member).run [.ow d, .sh (tz g)] = .ok (.sh (tz a), [.ow d', .dead]) := by
  obtain ⟨n, rfl⟩ := Nat.exists_eq_add_of_le' (show 2 ≤ n by omega)
  obtain ⟨ys, ρ', e1, ⟨d', hd', rfl⟩, e3⟩ := lcS_st (a := gAsg 2) (f := share (fCall (RR.at_ (n + 1) d__law_take) [(.sl 0), (.sl 2)])) (vs := [2]) (I := fun m ρ => ∃ d, TinOk (k + m) d ∧ ρ = [.ow d, .sh (tz g), .dead]) (P := fun d y => ∃ x r : Int, d = .int x ∧ y = .int r ∧ 0 ≤ r ∧ r ≤ x - 1) (m := g.length) (g.map Dt.int)
    (fun m z ρ hm hz hI => by
      obtain ⟨d, hd, rfl⟩ := hI
      obtain ⟨x, hx, rfl⟩ := List.mem_map.mp hz
      have hx2 := hg.each x hx
      obtain ⟨r, d', r1, r2, r3, r4⟩ := s_take (n := n + 1) (by omega) hd (by omega) (b := x) (by omega) (by omega)
      refine ⟨_, [.ow d', .sh (tz g), .sh (.int x)], .int r, rfl, ?_, ⟨d', r3, rfl⟩, x, r, rfl, rfl, r1, by omega⟩
      simp [r4]) [] [.ow d, .sh (tz g), .dead] 0 (by simp) ⟨d, ht, rfl⟩
  obtain ⟨a, rfl, ha⟩ := all2_isM e3
  have hl := hg.len
  refine ⟨a, d', ha, by simpa using hd', ?_⟩
  rw [r__law_member]
  simp [tz] at e1
  simp [b__law_member, tz, e1, show g.length ≤ 16777216 by omega]
end LW
end

section
set_option Elab.async false
set_option linter.all false
set_option maxRecDepth 100000
set_option maxHeartbeats 1000000
/-! P7: mixed, lot, flat, sums, moved. -/
namespace E2
open PySem PySem.Spec PyProof.Rows L2
/-- the slot holds d -/
def Holds1 (s : Slot) (d : Dt) : Prop := s = .ow d ∨ s = .sh d
theorem tu_tz (k : Nat) (a : List Int) {d : Dt} (h : d = tz a ∨ d = .lst (a.map .int)) (hl : a.length ≤ 16777216) : Tu (k + 1) d (tz a) := by
  refine .inr ⟨a.map Dt.int, a.map Dt.int, h, rfl, by simpa using hl, ?_⟩
  clear hl h
  induction a with
  | nil => exact .nil
  | cons i a ih =>
    refine .cons ?_ ih
    cases k with
    | zero => exact ⟨i, rfl, rfl⟩
    | succ k => exact .inl ⟨i, rfl, rfl⟩
end E2
namespace LW
open PySem PySem.Spec PyProof.Rows L2 E2
theorem all2_tu : ∀ {L : List (List Int)} {ys : List Dt}, All2 (fun d y => ∃ a : List Int, d = tz a ∧ (y = tz a ∨ y = .lst (a.map .int)) ∧ a.length ≤ 10000) (L.map tz) ys → All2 (Tu 2) ys (L.map tz)
  | [], _, .nil => .nil
  | a :: L, _, .cons ⟨b, e1, e2, hb⟩ t => by
    cases tz_inj e1
    exact .cons (tu_tz 1 a e2 (by omega)) (all2_tu t)
end LW
end

section
set_option Elab.async false
set_option linter.all false
set_option maxRecDepth 100000
set_option maxHeartbeats 1000000
/-! P8: lot, flat, sums, moved. -/
namespace E2
open PySem PySem.Spec PyProof.Rows L2 LW
theorem up_zip : ∀ {l : List (List Int)}, l.Pairwise (fun a b => a < b) → ((l.zip l.tail).all fun p => decide (p.1 < p.2)) = true
  | [], _ => rfl
  | [_], _ => rfl
  | a :: b :: l, h => by
    have h1 := List.pairwise_cons.mp h
    have h2 := up_zip h1.2
    simp only [List.tail_cons, List.zip_cons_cons, List.all_cons, Bool.and_eq_true, decide_eq_true_eq]
    exact ⟨h1.1 b List.mem_cons_self, by simpa using h2⟩
theorem setI_lt (ks : List (List Int)) : (setI ks).Pairwise fun a b => a < b := by
  have h1 := sortI_up (dd ks)
  have h2 : (sortI (dd ks)).Nodup := (sortI_perm _).nodup_iff.mpr (dd_nodup ks)
  refine (List.Pairwise.and h1 h2).imp fun {a b} ⟨x, y⟩ => ?_
  unfold leI at x
  rw [decide_eq_true_eq] at x
  rcases List.le_iff_lt_or_eq.mp x with z | z
  · exact z
  · exact absurd z y
theorem mem_setI {ks : List (List Int)} {x : List Int} : x ∈ setI ks ↔ x ∈ ks := by
  unfold setI
  rw [mem_sortI, mem_dd]
theorem setI_len (ks : List (List Int)) : (setI ks).length = (dd ks).length := (sortI_perm _).length_eq
theorem setI_lot {g : List Int} {ks : List (List Int)} (h0 : ks ≠ []) (h : ∀ a ∈ ks, isM a g = true) (hl : ks.length ≤ 256) : Lot g (setI ks) where
  ne := fun e => by
    cases ks with
    | nil => exact h0 rfl
    | cons k ks =>
      have : k ∈ setI (k :: ks) := mem_setI.mpr List.mem_cons_self
      rw [e] at this
      cases this
  mem := fun a ha => h a (mem_setI.mp ha)
  up := up_zip (setI_lt ks)
  len := by
    rw [setI_len]
    exact Nat.le_trans (nodup_le (dd_nodup ks) fun x hx => mem_dd.mp hx) hl
@[simp] theorem x_rng1 (f : EE) (ρ : Env) : fRng1 f ρ = (f ρ).bind fun d ρ1 => match d with
  | .int j => if rOk j then .ok (rangeD 0 j.toNat, ρ1) else .bad
  | _ => .bad := rfl
theorem rng_len (i : Int) (m : Nat) : (rangeD i m).length = m := by unfold rangeD; simp
theorem rOk_small {i : Int} (h1 : 0 ≤ i) (h2 : i ≤ 1000000) : rOk i = true := by
  unfold rOk
  simp only [Bool.and_eq_true, decide_eq_true_eq]
  omega
theorem all2_rows {α : Type} {Q : List Int → Prop} : ∀ {ds : List α} {ys : List Dt}, All2 (fun _ y => ∃ a, y = tz a ∧ Q a) ds ys → ∃ as : List (List Int), ys = as.map tz ∧ (∀ a ∈ as, Q a) ∧ as.length = ds.length
  | _, _, .nil => ⟨[], rfl, ⟨(fun _ h => nomatch h), rfl⟩⟩
  | _, _, .cons ⟨a, e, q⟩ t => by
    obtain ⟨as, rfl, h, hl⟩ := all2_rows t
    refine ⟨a :: as, by rw [e]; rfl, fun x hx => ?_, congrArg (· + 1) hl⟩
    rcases List.mem_cons.mp hx with rfl | hx
    · exact q
    · exact h x hx
theorem isM_ne {a g : List Int} (h : isM a g = true) (hg : g ≠ []) : a ≠ [] := fun e => by
  have := isM_len h
  rw [e] at this
  exact hg (List.length_eq_zero_iff.mp this.symm)
end E2
namespace LW
open PySem PySem.Spec PyProof.Rows L2 E2
theorem s_lot {n : Nat} (h : 4 ≤ n) {k : Nat} {d : Dt} (ht : TinOk k d) {g : List Int} (hg : Grp g) (hm : (mems g).length ≤ 62) {b : Int} (hb : 0 < b) (hb2 : b ≤ 200) (hk : k ≤ 100000) : ∃ (L : List (List Int)) (d' : Dt), Lot g L ∧ TinOk (k + 1000) d' ∧ (RR.at_ n d__law_lot).run [.ow d, .sh (tz g), .sh (.int b)] = .ok (.sh (.tup (L.map tz)), [.ow d', .dead, .dead]) := by
  obtain ⟨n, rfl⟩ := Nat.exists_eq_add_of_le' (show 2 ≤ n by omega)
  have hl := hg.len
  obtain ⟨r, d1, r1, r2, r3, r4⟩ := s_take (n := n + 1) (by omega) ht (by omega) hb (by omega)
  obtain ⟨ys, ρ', e1, ⟨d', hd', rfl⟩, e3⟩ := lcS_st (a := gAsg 3) (f := share (fCall (RR.at_ (n + 1) d__law_member) [(.sl 0), (.sl 1)])) (vs := [3]) (I := fun m ρ => ∃ d, TinOk (k + 1 + g.length * m) d ∧ ρ = [.ow d, .sh (tz g), .sh (.int b), .dead]) (P := fun _ y => ∃ a, y = tz a ∧ isM a g = true) (m := (1 + r).toNat) (rangeD 0 (1 + r).toNat)
    (fun m z ρ hm hz hI => by
      obtain ⟨d, hd, rfl⟩ := hI
      have hq : g.length * m ≤ 4 * 200 := Nat.mul_le_mul hl (by omega)
      obtain ⟨a, d', a1, a2, a3⟩ := s_member (n := n + 1) (by omega) hd hg (by omega)
      refine ⟨_, [.ow d', .sh (tz g), .sh (.int b), .sh z], tz a, rfl, ?_, ⟨d', by rw [Nat.mul_succ, ← Nat.add_assoc]; exact a2, rfl⟩, a, rfl, a1⟩
      simp [a3]) [] [.ow d1, .sh (tz g), .sh (.int b), .dead] 0 (by rw [rng_len]; omega) ⟨d1, by simpa using r3, rfl⟩
  obtain ⟨as, rfl, ha, hal⟩ := all2_rows e3
  rw [rng_len] at hal hd'
  have hq : g.length * (0 + (1 + r).toNat) ≤ 4 * 200 := Nat.mul_le_mul hl (by omega)
  have hdd : (dd as).length ≤ 62 := Nat.le_trans (dd_le (M := mems g) fun x hx => mem_mems (ha x hx)) hm
  refine ⟨setI as, d', setI_lot (fun e => by rw [e] at hal; simp at hal; omega) ha (by omega), hd'.mono (by omega), ?_⟩
  rw [r__law_lot]
  have hs := setSort_tz hdd fun x hx => isM_ne (ha x hx) hg.ne
  simp at e1
  have hr : rOk (1 + r) = true := rOk_small (by omega) (by omega)
  simp [b__law_lot, r4, hr, rng_len, show (1 + r).toNat ≤ 16777216 by omega, e1, hs]
end LW
end

section
set_option Elab.async false
set_option linter.all false
set_option maxRecDepth 100000
set_option maxHeartbeats 1000000
/-! P9: flat, sums, moved. -/
namespace E2
open PySem PySem.Spec PyProof.Rows L2 LW
@[simp] theorem x_meth (i : Nat) (fs : List EE) (m : List Dt → List Dt → Option (List Dt × Dt)) (ρ : Env) : fMeth i fs m ρ = if isLstS ρ[i]? then (runOps (fs.map .ex) ρ).bind fun as ρ1 => match ρ1[i]?, resAll (fs.map .ex) as ρ1 with
  | some (.ow (.lst xs)), some ds => (match m xs ds with
    | some (xs', r) => .ok (.sh r, ρ1.set i (.ow (.lst xs')))
    | none => .bad)
  | _, _ => .bad else .bad := rfl
theorem ext_ok {xs ds : List Dt} (h : xs.length + ds.length ≤ 16777216) : mExtend xs [.lst ds] = some (xs ++ ds, .non) := by simp [mExtend, h]
end E2
namespace LW
open PySem PySem.Spec PyProof.Rows L2 E2
theorem flat_loop : ∀ (ess : List (List Dt)) (s : E2.Slot) (acc : List Dt) (x : E2.Slot), acc.length + ess.flatten.length ≤ 16777216 → ∃ x', forS (gAsg 2) (fSeq2 (fDrop (share (fMeth 1 [(eName 2)] mExtend))) fNil) (ess.map Dt.lst) [s, .ow (.lst acc), x] = .nxt [s, .ow (.lst (acc ++ ess.flatten)), x']
  | [], s, acc, x, _ => ⟨x, by simp [forS]⟩
  | es :: ess, s, acc, x, h => by
    rw [List.flatten_cons, List.length_append] at h
    obtain ⟨x', e⟩ := flat_loop ess s (acc ++ es) (.sh (.lst es)) (by rw [List.length_append]; omega)
    refine ⟨x', ?_⟩
    have he := ext_ok (xs := acc) (ds := es) (by omega)
    simp [forS, isLstS, he, e]
theorem sorted_tz {ks : List (List Int)} (h : ∀ k ∈ ks, k ≠ []) : sortedD [.lst (ks.map tz)] = some (.ow (.lst ((sortI ks).map tz))) := by
  show (if sortOk (ks.map tz) then some (Slot.ow (.lst (sortD (ks.map tz)))) else none) = _
  rw [if_pos (sortOk_tz h), sortD_tz]
theorem s_moved {n : Nat} (h : 4 ≤ n) {g : List Int} (hg : Grp g) {A : List (List Int)} {s : List Int} (hA : ∀ a ∈ A, isM a g = true) (hs : isM s g = true) (zA : A.length ≤ 256) :
    (RR.at_ n d__law_moved).run [.sh (tz g), .sh (.tup (A.map tz)), .sh (tz s)] = .ok (.sh (.tup ((sortI (A.map fun a => zp (· + ·) a s g)).map tz)), [.dead, .dead, .dead]) := by
  obtain ⟨n, rfl⟩ := Nat.exists_eq_add_of_le' (show 2 ≤ n by omega)
  have hl := hg.len
  have key : ∀ s1, lcS (gAsg 3) fYes (share (fCall (RR.at_ (n + 1) d__law_plus) [(.sl 0), (.sl 3), (.sl 2)])) [3] (A.map tz) [] [.sh (tz g), s1, .sh (tz s), .dead] = .ok ((A.map fun a => zp (· + ·) a s g).map tz, [.sh (tz g), s1, .sh (tz s), .dead]) := fun s1 => by
    rw [List.map_map, lcS_all2 (R := fun d e => ∃ a, d = tz a ∧ e = tz (zp (· + ·) a s g)) (fun d e ⟨b, h1, h2⟩ => by
      subst h1 h2
      simp [s_law_plus (n := n + 1) (by omega) (pos_of hg) (show g.length ≤ 100 by omega)]) (all2_map fun b _ => ⟨b, rfl, rfl⟩) [], List.nil_append]
    rfl
  have hs := sorted_tz (ks := A.map fun a => zp (· + ·) a s g) fun k hk => by
    obtain ⟨a, ha, rfl⟩ := List.mem_map.mp hk
    exact isM_ne (zp_mem (isM_len (hA a ha)) (isM_len hs) (pos_of hg)) hg.ne
  rw [r__law_moved]
  simp only [List.map_map] at key hs
  simp [b__law_moved, show A.length ≤ 16777216 by omega, key, hs]
end LW
end

section
set_option Elab.async false
set_option linter.all false
set_option maxRecDepth 100000
set_option maxHeartbeats 1000000
/-! P10: same, cells, box. -/
namespace E2
open PySem PySem.Spec PyProof.Rows L2 LW
/-- ints, bools, in tuples and lists -/
def Tree : Nat → Dt → Prop
  | 0, d => (∃ i, d = .int i) ∨ ∃ b, d = .bl b
  | k + 1, d => ((∃ i, d = .int i) ∨ ∃ b, d = .bl b) ∨ ∃ ds, (d = .tup ds ∨ d = .lst ds) ∧ ds.length ≤ 16777216 ∧ ∀ e ∈ ds, Tree k e
theorem eq_bl (a b : Bool) : eqD (.bl a) (.bl b) = some (.sh (.bl (a == b))) := by cases a <;> cases b <;> rfl
theorem ne_bl (a b : Bool) : neD (.bl a) (.bl b) = some (.sh (.bl (!(a == b)))) := by cases a <;> cases b <;> rfl
theorem zip_self : ∀ ds : List Dt, zip2D ds ds = ds.map fun d => .tup [d, d]
  | [] => rfl
  | d :: ds => by simp [zip2D, zip_self ds]
end E2
namespace LW
open PySem PySem.Spec PyProof.Rows L2 E2
theorem s_same : ∀ (k : Nat) {n : Nat} (h : k + 2 ≤ n) {d : Dt}, Tree k d → (RR.at_ n d__law_same).run [.sh d, .sh d] = .ok (.sh (.bl true), [.dead, .dead]) := by
  have base : ∀ (n : Nat) (d : Dt), ((∃ i, d = .int i) ∨ ∃ b, d = .bl b) → (RR.at_ (n + 2) d__law_same).run [.sh d, .sh d] = .ok (.sh (.bl true), [.dead, .dead]) := fun n d hd => by
    rw [r__law_same]
    rcases hd with ⟨i, rfl⟩ | ⟨b, rfl⟩
    · have hi : isD (.int i) .non = some (.sh (.bl false)) := rfl
      simp [b__law_same, isTy, hi]
    · have hi : isD (.bl b) .non = some (.sh (.bl false)) := rfl
      simp [b__law_same, isTy, hi, eq_bl]
  intro k
  induction k with
  | zero =>
    intro n h d hd
    obtain ⟨n, rfl⟩ := Nat.exists_eq_add_of_le' h
    exact base n d hd
  | succ k ih =>
    intro n h d hd
    obtain ⟨n, rfl⟩ := Nat.exists_eq_add_of_le' (show 2 ≤ n by omega)
    rcases hd with hd | ⟨ds, hd, hl, hs⟩
    · exact base n d hd
    · have key : ∀ s, lcS (gTupA (gsCons (gAsg 2) (gsCons (gAsg 3) gsNil))) fYes (share (fCall (RR.at_ (n + 1) d__law_same) [(.sl 2), (.sl 3)])) [2, 3] (ds.map fun d => .tup [d, d]) [] [s, s, .dead, .dead] = .ok (ds.map fun _ => .bl true, [s, s, .dead, .dead]) := fun s => by
        rw [lcS_all2 (R := fun d e => ∃ z, Tree k z ∧ d = .tup [z, z] ∧ e = .bl true) (fun d e ⟨z, h0, h1, h2⟩ => by
          subst h1 h2
          simp [ih (n := n + 1) (by omega) h0]) (all2_map fun z hz => ⟨z, hs z hz, rfl, rfl⟩) [], List.nil_append]
      have ha := all_map (fun _ : Dt => true) ds
      have h1 : (ds.all fun _ => true) = true := by simp
      rw [h1] at ha
      rw [r__law_same]
      rcases hd with rfl | rfl
      · simp [b__law_same, isTy, ne_bl, zip_self, hl, key, ha]
      · simp [b__law_same, isTy, ne_bl, zip_self, hl, key, ha]
theorem s_box {n : Nat} (h : 2 ≤ n) (x : Int) : ∃ d, TinOk 0 d ∧ (RR.at_ n d__law_box).run [.sh (.lst [.int x]), .sh (.int 0)] = .ok (.ow d, [.dead, .dead]) := by
  obtain ⟨n, rfl⟩ := Nat.exists_eq_add_of_le' h
  have hp : powD (.int 10) (.int 18) = some (.sh (.int 1000000000000000000)) := by kernel_rfl
  have hm : mulD (.int 39373) (.int 0) = some (.sh (.int 0)) := mul_ok (by omega) (by omega)
  have hi : ixD (.lst [.int x]) (.int 0) = some (.sh (.int x)) := rfl
  have hd : modD (.int x) (.int 2305843009213693951) = some (.sh (.int (x % 2305843009213693951))) := x_mod (by omega)
  refine ⟨.lst [.int ((if x < 0 then -x else x) * (if (1000000000000000000 : Int) ≤ (if x < 0 then -x else x) then 1 else 0)), .int (x % 2305843009213693951 + 0 + 25172003), .int 0], ⟨_, _, _, rfl, by omega, by omega⟩, ?_⟩
  have hmu : mulD (.int (if x < 0 then -x else x)) (.int (if (1000000000000000000 : Int) ≤ (if x < 0 then -x else x) then 1 else 0)) = some (.sh (.int ((if x < 0 then -x else x) * (if (1000000000000000000 : Int) ≤ (if x < 0 then -x else x) then 1 else 0)))) := mul_ok (by split <;> omega) (by split <;> omega)
  rw [r__law_box]
  simp [b__law_box, hi, hp, hm, hd, hmu]
end LW
end

section
set_option Elab.async false
set_option linter.all false
set_option maxRecDepth 100000
set_option maxHeartbeats 1000000
/-! P11: cells. -/
namespace E2
open PySem PySem.Spec PyProof.Rows L2 LW
theorem cut_map {α β : Type} (f : α → β) (l : List α) (a b : Option Int) : cutD (l.map f) a b = (cutD l a b).map f := by
  unfold cutD
  rw [List.length_map, List.map_take, List.map_drop]
theorem cut_len {α : Type} (l : List α) (a b : Option Int) : (cutD l a b).length ≤ l.length := by
  unfold cutD
  rw [List.length_take, List.length_drop]
  omega
@[simp] theorem x_sl' (o : Op) (lo hi : Env → R (Option Int × Env)) (ρ : Env) : fSl o lo hi ρ = (o.run ρ).bind fun a ρ1 => (lo ρ1).bind fun l ρ2 => (hi ρ2).bind fun h ρ3 => match o.res a ρ3 with
  | some d => (match slD d l h with
    | some s => .ok (s, ρ3)
    | none => .bad)
  | none => .bad := rfl
@[simp] theorem x_noP (ρ : Env) : fNoP ρ = .ok (none, ρ) := rfl
@[simp] theorem x_part (f : EE) (ρ : Env) : fPart f ρ = (f ρ).bind fun d ρ1 => match d with
  | .int i => .ok (some i, ρ1)
  | _ => .bad := rfl
@[simp] theorem x_slL (xs : List Dt) (lo hi : Option Int) : slD (.lst xs) lo hi = some (.ow (.lst (cutD xs lo hi))) := rfl
@[simp] theorem x_listL (xs : List Dt) : listD [.lst xs] = some (.ow (.lst xs)) := rfl
@[simp] theorem x_truOL (xs : List Dt) : truS (.ow (.lst xs)) = some (!xs.isEmpty) := rfl
@[simp] theorem x_enum (f : EE) (ρ : Env) : fEnum f ρ = (f ρ).bind fun d ρ1 => match d with
  | .lst ds => .ok (enumD 0 ds, ρ1)
  | .tup ds => .ok (enumD 0 ds, ρ1)
  | _ => .bad := rfl
end E2
namespace LW
open PySem PySem.Spec PyProof.Rows L2 E2
theorem cells_loop : ∀ (r : List Int) (i : Nat) (s : E2.Slot) (c : Int) (x y z : E2.Slot), i + r.length ≤ 1000 → ∃ (c' : Int) (x' y' z' : E2.Slot), forS (gTupA (gsCons (gAsg 3) (gsCons (gAsg 4) gsNil))) (fSeq2 (fAsg 5 (f2 (.ex (share (fB [(.sl 3)] intD))) (.sl 1) modD)) (fSeq2 (fSet 2 (eName 5) (share (f2 (.ex (share (f2 (.sl 2) (.sl 5) ixD))) (.ex (share (f2 (.sl 4) (.ex (share (f2 (.sl 3) (.ex (share (fC (.int 2)))) addD))) mulD))) addD))) fNil)) (enumD i (r.map Dt.int)) [s, .sh (.int 1), .ow (.lst [.int c]), x, y, z] =
    .nxt [s, .sh (.int 1), .ow (.lst [.int c']), x', y', z']
  | [], i, s, c, x, y, z, _ => ⟨c, x, y, z, by simp [enumD, forS]⟩
  | b :: r, i, s, c, x, y, z, h => by
    rw [List.length_cons] at h
    obtain ⟨c', x', y', z', e⟩ := cells_loop r (i + 1) s (c + b * ((i : Int) + 2)) (.sh (.int i)) (.sh (.int b)) (.sh (.int 0)) (by omega)
    refine ⟨c', x', y', z', ?_⟩
    have h1 : modD (.int (i : Int)) (.int 1) = some (.sh (.int 0)) := by rw [x_mod (by omega)]; simp
    have h2 : mulD (.int b) (.int ((i : Int) + 2)) = some (.sh (.int (b * ((i : Int) + 2)))) := mul_ok (by omega) (by omega)
    have h3 : ixD (.lst [.int c]) (.int 0) = some (.sh (.int c)) := rfl
    have h4 : ∀ v, setD (.lst [.int c]) (.int 0) v = some (.lst [v]) := fun v => rfl
    simp [enumD, forS, h1, h2, h3, h4, e]
theorem s_cells {n : Nat} (h : 2 ≤ n) {ns : List Int} (hl : ns.length ≤ 63) : ∃ x, (RR.at_ n d__law_cells).run [.sh (.lst (ns.map .int)), .sh (.int 1)] = .ok (.ow (.lst [.int x]), [.dead, .dead]) := by
  obtain ⟨n, rfl⟩ := Nat.exists_eq_add_of_le' h
  have key : ∀ s c, ∃ (c' : Int) (x' y' z' : E2.Slot), forS (gTupA (gsCons (gAsg 3) (gsCons (gAsg 4) gsNil))) (fSeq2 (fAsg 5 (f2 (.ex (share (fB [(.sl 3)] intD))) (.sl 1) modD)) (fSeq2 (fSet 2 (eName 5) (share (f2 (.ex (share (f2 (.sl 2) (.sl 5) ixD))) (.ex (share (f2 (.sl 4) (.ex (share (f2 (.sl 3) (.ex (share (fC (.int 2)))) addD))) mulD))) addD))) fNil)) (enumD 0 ((cutD ns (some 1) (some 63)).map Dt.int)) [s, .sh (.int 1), .ow (.lst [.int c]), .dead, .dead, .dead] =
    .nxt [s, .sh (.int 1), .ow (.lst [.int c']), x', y', z'] := fun s c => cells_loop _ 0 s c _ _ _ (by have := cut_len ns (some 1) (some 63); omega)
  cases ns with
  | nil =>
    obtain ⟨c', x', y', z', e⟩ := key (.sh (.lst [])) 0
    refine ⟨c', ?_⟩
    rw [r__law_cells]
    have h0 : cutD ([] : List Dt) none (some 1) = [] := by simp [E2.cutD]
    have h1 : cutD ([] : List Dt) (some 1) (some 63) = (cutD ([] : List Int) (some 1) (some 63)).map .int := cut_map Dt.int [] _ _
    simp [b__law_cells, h0, h1, e]
  | cons x r =>
    obtain ⟨c', x', y', z', e⟩ := key (.sh (.lst ((x :: r).map .int))) x
    refine ⟨c', ?_⟩
    rw [r__law_cells]
    have h0 : cutD (Dt.int x :: r.map Dt.int) none (some 1) = [.int x] := by
      simp [E2.cutD, HT.sIx]
    have h1 : cutD (Dt.int x :: r.map Dt.int) (some 1) (some 63) = (cutD (x :: r) (some 1) (some 63)).map .int := cut_map Dt.int (x :: r) _ _
    simp at e
    simp [b__law_cells, h0, h1, e]
end LW
end

section
set_option Elab.async false
set_option linter.all false
set_option maxRecDepth 100000
set_option maxHeartbeats 1000000
/-! P12: the menu of groups. -/
namespace LW
open PySem PySem.Spec PyProof.Rows L2 E2
def menuL : List (List Int) := [[2], [3], [4], [2, 2], [5], [6], [7], [8], [2, 4], [2, 2, 2], [9], [3, 3], [10], [11], [12], [2, 6], [13], [15], [16], [4, 4], [2, 8], [2, 2, 4], [2, 2, 2, 2], [18], [3, 6], [20], [2, 10], [24], [2, 12], [2, 2, 6], [25], [5, 5], [27], [3, 9], [3, 3, 3], [30], [32], [2, 16], [4, 8], [36], [6, 6]]
/-- the law's groups, and those of a prime size beside them -/
def menu : List (List Int) := menuL ++ [[17], [19], [23], [29], [31]]
theorem menuL_sub {g : List Int} (h : g ∈ menuL) : g ∈ menu := List.mem_append.mpr (.inl h)
def grpB (g : List Int) : Bool := !g.isEmpty && decide (g.length ≤ 4) && (g.all fun x => decide (2 ≤ x) && decide (x ≤ 256)) && decide (prod g ≤ 36) && decide ((mems g).length ≤ 36) && decide (((mems g).length : Int) = prod g)
theorem menu_ok : (menu.all grpB) = true := by decide +kernel
theorem grp_of {g : List Int} (h : g ∈ menu) : Grp g ∧ (mems g).length ≤ 36 ∧ ((mems g).length : Int) = prod g ∧ prod g ≤ 36 := by
  have := List.all_eq_true.mp menu_ok g h
  unfold grpB at this
  simp only [Bool.and_eq_true, decide_eq_true_eq, List.all_eq_true, Bool.not_eq_true', List.isEmpty_eq_false_iff] at this
  obtain ⟨⟨⟨⟨⟨h1, h2⟩, h3⟩, h4⟩, h5⟩, h6⟩ := this
  exact ⟨⟨h1, h2, h3, by omega⟩, h5, h6, h4⟩
theorem s_groups {n : Nat} (h : 2 ≤ n) : (RR.at_ n d__law_groups).run [] = .ok (.ow (.lst (menuL.map tz)), []) := by
  obtain ⟨n, rfl⟩ := Nat.exists_eq_add_of_le' h
  rw [r__law_groups]
  kernel_rfl
theorem s_group {n : Nat} (h : 4 ≤ n) {k : Nat} {d : Dt} (ht : TinOk k d) (hk : k ≤ 1000000) : ∃ (g : List Int) (d' : Dt), g ∈ menu ∧ TinOk (k + 1) d' ∧ (RR.at_ n d__law_group).run [.ow d, .sh (.int 36)] = .ok (.sh (tz g), [.ow d', .dead]) := by
  obtain ⟨n, rfl⟩ := Nat.exists_eq_add_of_le' (show 2 ≤ n by omega)
  obtain ⟨z, d', hz, h2, h3⟩ := s_of (n := n + 1) (by omega) ht hk (ds := menuL.map tz) (by decide) (by decide)
  obtain ⟨g, hg, rfl⟩ := List.mem_map.mp hz
  refine ⟨g, d', menuL_sub hg, h2, ?_⟩
  have key : lcS (gAsg 2) (fTe (f2 (.ex (share (fCall (RR.at_ (n + 1) d__law_size) [(.sl 2)]))) (.sl 1) leD)) (eName 2) [2] (menuL.map tz) [] [.ow d, .sh (.int 36), .dead] = .ok (menuL.map tz, [.ow d, .sh (.int 36), .dead]) := by
    rw [lcS_if (c := fun _ => true) (y := id) (menuL.map tz) [] fun e he => by
      obtain ⟨q, hq, rfl⟩ := List.mem_map.mp he
      obtain ⟨q1, q2, q3, q4⟩ := grp_of (menuL_sub hq)
      have := s_law_size (n := n + 1) (by omega) q1
      refine ⟨_, [.ow d, .sh (.int 36), .sh (tz q)], rfl, by simp [this, q4], (fun z => nomatch z), fun _ => ⟨_, rfl, rfl⟩⟩]
    simp
  have hl : (menuL.map tz).length ≤ 16777216 := by decide
  rw [r__law_group]
  simp only [List.length_map] at hl
  simp [b__law_group, s_groups (n := n + 1) (by omega), hl, key, h3]
end LW
end

section
set_option Elab.async false
set_option linter.all false
set_option maxRecDepth 100000
set_option maxHeartbeats 1000000
/-! P13: members. -/
namespace E2
open PySem PySem.Spec PyProof.Rows L2 LW
def stepM (M : List (List Int)) (g : Int) : List (List Int) := (M.map fun a => (List.range g.toNat).map fun (i : Nat) => a ++ [(i : Int)]).flatten
def memsL (g : List Int) : List (List Int) := g.foldl stepM [[]]
theorem isM_snoc : ∀ {a h : List Int} {x y : Int}, isM a h = true → 0 ≤ x → x ≤ y - 1 → isM (a ++ [x]) (h ++ [y]) = true
  | [], [], x, y, _, h1, h2 => by simp [isM, h1, h2]
  | [], _ :: _, _, _, h, _, _ => by simp [isM] at h
  | _ :: _, [], _, _, h, _, _ => by simp [isM] at h
  | a :: as, g :: gs, x, y, h, h1, h2 => by
    simp only [isM, Bool.and_eq_true] at h
    simp only [List.cons_append, isM, Bool.and_eq_true]
    exact ⟨h.1, isM_snoc h.2 h1 h2⟩
theorem stepM_mem {M : List (List Int)} {h : List Int} {y : Int} (hM : ∀ a ∈ M, isM a h = true) : ∀ a ∈ stepM M y, isM a (h ++ [y]) = true := fun a ha => by
  unfold stepM at ha
  simp only [List.mem_flatten, List.mem_map] at ha
  obtain ⟨l, ⟨b, hb, rfl⟩, hl⟩ := ha
  obtain ⟨i, hi, rfl⟩ := List.mem_map.mp hl
  have := List.mem_range.mp hi
  exact isM_snoc (hM b hb) (by omega) (by omega)
theorem foldM_mem : ∀ (g h : List Int) (M : List (List Int)), (∀ a ∈ M, isM a h = true) → ∀ a ∈ g.foldl stepM M, isM a (h ++ g) = true
  | [], h, M, hM => by simpa using hM
  | y :: g, h, M, hM => by
    have := foldM_mem g (h ++ [y]) (stepM M y) (stepM_mem hM)
    simpa using this
theorem memsL_mem {g a : List Int} (h : a ∈ memsL g) : isM a g = true := by
  have := foldM_mem g [] [[]] (fun a ha => by rw [List.mem_singleton.mp ha]; rfl) a h
  simpa using this
end E2
namespace LW
open PySem PySem.Spec PyProof.Rows L2 E2
abbrev innerB : SF := fSeq2 (fDrop (share (fMeth 3 [(share (fLc (fRng1 (eName 2)) (gAsg 5) fYes (share (f2 (.sl 4) (.ex (share (fSeq (fun ds => .sh (.tup ds)) [(eName 5)]))) addD)) [5]))] mExtend))) fNil
theorem snoc_tz (a : List Int) (i : Int) (h : a.length ≤ 1000) : addD (tz a) (.tup [.int i]) = some (.sh (tz (a ++ [i]))) := by
  simp [tz, addD, show a.length + 1 ≤ 16777216 by omega]
theorem mem_inner (s0 s1 : E2.Slot) (y : Int) (hy : 0 ≤ y ∧ y ≤ 256) : ∀ (M acc : List (List Int)) (x z : E2.Slot), (∀ a ∈ M, a.length ≤ 1000) → acc.length + (stepM M y).length ≤ 16777216 → ∃ x', forS (gAsg 4) innerB (M.map tz) [s0, s1, .sh (.int y), .ow (.lst (acc.map tz)), x, .dead] =
    .nxt [s0, s1, .sh (.int y), .ow (.lst ((acc ++ stepM M y).map tz)), x', .dead]
  | [], acc, x, z, _, _ => ⟨x, by simp [forS, stepM]⟩
  | a :: M, acc, x, z, hM, hl => by
    have e0 : stepM (a :: M) y = ((List.range y.toNat).map fun (i : Nat) => a ++ [(i : Int)]) ++ stepM M y := by simp [stepM]
    rw [e0, List.length_append, List.length_map, List.length_range] at hl
    have ha := hM a List.mem_cons_self
    obtain ⟨x', e⟩ := mem_inner s0 s1 y hy M (acc ++ ((List.range y.toNat).map fun (i : Nat) => a ++ [(i : Int)])) (.sh (tz a)) z (fun b hb => hM b (List.mem_cons_of_mem _ hb)) (by simp; omega)
    refine ⟨x', ?_⟩
    have key : lcS (gAsg 5) fYes (share (f2 (.sl 4) (.ex (share (fSeq (fun ds => .sh (.tup ds)) [(eName 5)]))) addD)) [5] (rangeD 0 y.toNat) [] [s0, s1, .sh (.int y), .ow (.lst (acc.map tz)), .sh (tz a), .dead] = .ok (((List.range y.toNat).map fun (i : Nat) => a ++ [(i : Int)]).map tz, [s0, s1, .sh (.int y), .ow (.lst (acc.map tz)), .sh (tz a), .dead]) := by
      unfold rangeD
      have := lcS_all2 (a := gAsg 5) (f := share (f2 (.sl 4) (.ex (share (fSeq (fun ds => .sh (.tup ds)) [(eName 5)]))) addD)) (vs := [5]) (ρ := [s0, s1, .sh (.int y), .ow (.lst (acc.map tz)), .sh (tz a), .dead]) (R := fun d e => ∃ i : Int, d = .int i ∧ e = tz (a ++ [i])) (fun d e ⟨i, h1, h2⟩ => by
        subst h1 h2
        simp [snoc_tz a i ha]) (all2_map (l := List.range y.toNat) (x := fun (i : Nat) => Dt.int (0 + (i : Int))) (y := fun (i : Nat) => tz (a ++ [(i : Int)])) fun i _ => ⟨(i : Int), by simp, rfl⟩) []
      rw [this, List.nil_append, List.map_map]
      rfl
    have hr : rOk y = true := rOk_small (by omega) (by omega)
    have hx := ext_ok (xs := acc.map tz) (ds := ((List.range y.toNat).map fun (i : Nat) => a ++ [(i : Int)]).map tz) (by simp; omega)
    rw [List.map_map] at hx
    rw [e0, ← List.append_assoc]
    rw [List.map_append (l₁ := acc)] at e
    simp only [List.map_cons, forS, x_gAsg]
    simp [isLstS, hr, rng_len, show y.toNat ≤ 16777216 by omega, key, hx] at e ⊢
    exact e
theorem fold_len : ∀ (g : List Int) (M : List (List Int)) (c : Nat), (∀ a ∈ M, a.length ≤ c) → ∀ a ∈ g.foldl stepM M, a.length ≤ c + g.length
  | [], M, c, h => by simpa using h
  | y :: g, M, c, h => by
    have := fold_len g (stepM M y) (c + 1) fun a ha => by
      unfold stepM at ha
      simp only [List.mem_flatten, List.mem_map] at ha
      obtain ⟨l, ⟨b, hb, rfl⟩, hl⟩ := ha
      obtain ⟨i, _, rfl⟩ := List.mem_map.mp hl
      have := h b hb
      simp; omega
    intro a ha
    have := this a ha
    simp only [List.length_cons]
    omega
theorem stepM_len (M : List (List Int)) (y : Int) : (stepM M y).length = M.length * y.toNat := by
  unfold stepM
  induction M with
  | nil => simp
  | cons a M ih => simp only [List.map_cons, List.flatten_cons, List.length_append, List.length_map, List.length_range, ih, List.length_cons, Nat.succ_mul]; omega
abbrev outerB : SF := fSeq2 (fAsg 3 (fSeq (fun ds => .ow (.lst ds)) [])) (fSeq2 (fFor (fItems (eName 1)) (gAsg 4) innerB) (fSeq2 (fAsg 1 (fName 3)) fNil))
theorem mem_outer (s0 : E2.Slot) : ∀ (g : List Int) (M : List (List Int)) (c : Nat) (x y z : E2.Slot), (∀ a ∈ M, a.length ≤ c) → c + g.length ≤ 1000 → (∀ q ∈ g, 0 ≤ q ∧ q ≤ 36) → M.length * 36 ^ g.length ≤ 16777216 → 36 ^ g.length ≤ 16777216 → ∃ x' y' z', forS (gAsg 2) outerB (g.map Dt.int) [s0, .ow (.lst (M.map tz)), x, y, z, .dead] = .nxt [s0, .ow (.lst ((g.foldl stepM M).map tz)), x', y', z', .dead]
  | [], M, c, x, y, z, _, _, _, _, _ => ⟨x, y, z, by simp [forS]⟩
  | q :: g, M, c, x, y, z, hM, hc, hq, hl, hl2 => by
    rw [List.length_cons] at hc
    rw [List.length_cons, Nat.pow_succ] at hl hl2
    have h1 := hq q List.mem_cons_self
    have hp : 0 < 36 ^ g.length := Nat.pow_pos (by decide)
    have h5 : M.length * q.toNat ≤ M.length * 36 := Nat.mul_le_mul_left _ (by omega)
    have h6 : M.length * q.toNat * 36 ^ g.length ≤ M.length * 36 * 36 ^ g.length := Nat.mul_le_mul_right _ h5
    have h7 : M.length * 36 * 36 ^ g.length = M.length * (36 ^ g.length * 36) := by rw [Nat.mul_assoc, Nat.mul_comm 36]
    have h8 : M.length * q.toNat ≤ M.length * q.toNat * 36 ^ g.length := Nat.le_mul_of_pos_right _ hp
    obtain ⟨x1, e1⟩ := mem_inner s0 (.sh (.lst (M.map tz))) q ⟨h1.1, by omega⟩ M [] z .dead (fun a ha => by have := hM a ha; omega) (by rw [stepM_len]; simp; omega)
    obtain ⟨x', y', z', e2⟩ := mem_outer s0 g (stepM M q) (c + 1) (.sh (.int q)) .dead x1 (fun a ha => by
      have := fold_len [q] M c hM a ha
      simpa using this) (by omega) (fun r hr => hq r (List.mem_cons_of_mem _ hr)) (by rw [stepM_len]; omega) (by omega)
    refine ⟨x', y', z', ?_⟩
    simp only [List.map_cons, forS, x_gAsg]
    simp at e1
    simp [e1, e2]
theorem s_members {n : Nat} (h : 2 ≤ n) {g : List Int} (hg : ∀ q ∈ g, 0 ≤ q ∧ q ≤ 36) (hl : g.length ≤ 4) : (RR.at_ n d__law_members).run [.sh (tz g)] = .ok (.ow (.lst ((memsL g).map tz)), [.dead]) := by
  obtain ⟨n, rfl⟩ := Nat.exists_eq_add_of_le' h
  have hp : 36 ^ g.length ≤ 36 ^ 4 := Nat.pow_le_pow_right (by decide) hl
  obtain ⟨x', y', z', e⟩ := mem_outer (.sh (tz g)) g [[]] 0 .dead .dead .dead (fun a ha => by rw [List.mem_singleton.mp ha]; simp) (by omega) hg (by simp; omega) (by omega)
  rw [r__law_members]
  have e0 : (([[]] : List (List Int)).map tz) = [.tup []] := rfl
  rw [e0] at e
  simp only [tz] at e
  have e1 := e
  simp [b__law_members, tz, memsL]
  simp [e1]
end LW
end

section
set_option Elab.async false
set_option linter.all false
set_option maxRecDepth 100000
set_option maxHeartbeats 1000000
/-! P14: span. -/
namespace E2
open PySem PySem.Spec PyProof.Rows L2 LW
def growS (g m : List Int) (S : List (List Int)) : List (List Int) := setI (S ++ prs (· + ·) g S [m])
def spanN (g m : List Int) : Nat → List (List Int) → List (List Int)
  | 0, S => S
  | k + 1, S => if growS g m S = S then S else spanN g m k (growS g m S)
theorem eq_lsts (A B : List (List Int)) : eqD (.lst (A.map tz)) (.lst (B.map tz)) = some (.sh (.bl (decide (A = B)))) := by
  have key : ∀ a b : List Int, PyData.eqv (py (tz a)) (py (tz b)) = decide (a = b) := by
    intro a b
    unfold tz
    rw [py, py, pyAll_ints, pyAll_ints]
    induction a generalizing b with
    | nil => cases b <;> simp [PyData.eqv, PyData.eqvAll]
    | cons x a ih =>
      cases b with
      | nil => simp [PyData.eqv, PyData.eqvAll]
      | cons y b =>
        have := ih b
        simp only [PyData.eqv] at this
        simp only [List.map_cons, PyData.eqv, PyData.eqvAll, this]
        by_cases h : x = y <;> simp [h]
  have key2 : ∀ A B : List (List Int), PyData.eqvAll (pyAll (A.map tz)) (pyAll (B.map tz)) = decide (A = B) := by
    intro A
    induction A with
    | nil => intro B; cases B <;> simp [pyAll, PyData.eqvAll]
    | cons a A ih =>
      intro B
      cases B with
      | nil => simp [pyAll, PyData.eqvAll]
      | cons b B =>
        simp only [List.map_cons, pyAll, PyData.eqvAll, key, ih]
        by_cases h : a = b <;> simp [h]
  unfold eqD eqP
  rw [py, py, PyData.eqv, key2]
  simp [flat, flat_tzs 58]
end E2
namespace LW
open PySem PySem.Spec PyProof.Rows L2 E2
theorem growS_mem {g m : List Int} {S : List (List Int)} (hg : Grp g) (hm : isM m g = true) (hS : ∀ a ∈ S, isM a g = true) : ∀ a ∈ S ++ prs (· + ·) g S [m], isM a g = true := fun a ha => by
  rcases List.mem_append.mp ha with ha | ha
  · exact hS a ha
  · obtain ⟨b, hb, c, hc, rfl⟩ := mem_prs.mp ha
    rw [List.mem_singleton.mp hc]
    exact zp_mem (isM_len (hS b hb)) (isM_len hm) (pos_of hg)
end LW
namespace LW
open PySem PySem.Spec PyProof.Rows L2 E2
theorem growS_ok {g m : List Int} {S : List (List Int)} (hg : Grp g) (hmm : (mems g).length ≤ 62) (hm : isM m g = true) (hS : ∀ a ∈ S, isM a g = true) : (∀ a ∈ growS g m S, isM a g = true) ∧ (growS g m S).length ≤ 256 := by
  have hmem := growS_mem hg hm hS
  refine ⟨fun a ha => hmem a (mem_setI.mp ha), ?_⟩
  unfold growS
  rw [setI_len]
  have := dd_le (M := mems g) fun k hk => mem_mems (hmem k hk)
  omega
theorem zero_mem {g : List Int} (hg : pos g) : isM (zero g) g = true := by
  unfold zero
  induction g with
  | nil => rfl
  | cons x g ih =>
    have := hg x List.mem_cons_self
    rw [List.length_cons, List.replicate_succ]
    simp [isM, ih fun y hy => hg y (List.mem_cons_of_mem _ hy)]
    omega
end LW
end

section
set_option Elab.async false
set_option linter.all false
set_option maxRecDepth 100000
set_option maxHeartbeats 1000000
/-! P15: the groups' arithmetic. -/
namespace LW
open PySem PySem.Spec PyProof.Rows L2 E2
theorem isM_cons {a g : List Int} {q : Int} (h : isM a (q :: g) = true) : ∃ x b, a = x :: b ∧ 0 ≤ x ∧ x < q ∧ isM b g = true := by
  cases a with
  | nil => simp [isM] at h
  | cons x b =>
    simp only [isM, Bool.and_eq_true, decide_eq_true_eq] at h
    exact ⟨x, b, rfl, h.1.1, by omega, h.2⟩
theorem isM_nil {a : List Int} (h : isM a [] = true) : a = [] := by
  cases a with
  | nil => rfl
  | cons x b => simp [isM] at h
theorem ind3 {P : List Int → List Int → List Int → List Int → Prop} (nil : P [] [] [] []) (cons : ∀ x y z q a b c g, 0 ≤ x → x < q → 0 ≤ y → y < q → 0 ≤ z → z < q → P a b c g → P (x :: a) (y :: b) (z :: c) (q :: g)) : ∀ {g a b c : List Int}, isM a g = true → isM b g = true → isM c g = true → P a b c g
  | [], a, b, c, h1, h2, h3 => by rw [isM_nil h1, isM_nil h2, isM_nil h3]; exact nil
  | q :: g, a, b, c, h1, h2, h3 => by
    obtain ⟨x, a, rfl, x1, x2, h1⟩ := isM_cons h1
    obtain ⟨y, b, rfl, y1, y2, h2⟩ := isM_cons h2
    obtain ⟨z, c, rfl, z1, z2, h3⟩ := isM_cons h3
    exact cons x y z q a b c g x1 x2 y1 y2 z1 z2 (ind3 nil cons h1 h2 h3)
theorem sub_moved {a b s g : List Int} (h1 : isM a g = true) (h2 : isM b g = true) (h3 : isM s g = true) : zp (· - ·) (zp (· + ·) a s g) (zp (· + ·) b s g) g = zp (· - ·) a b g :=
  ind3 (P := fun a b s g => zp (· - ·) (zp (· + ·) a s g) (zp (· + ·) b s g) g = zp (· - ·) a b g) rfl (fun x y z q a b c g _ _ _ _ _ _ ih => by
    simp only [zp, ih]
    rw [← Int.sub_emod, show x + z - (y + z) = x - y by omega]) h1 h2 h3
theorem add_comm' {a b g : List Int} (h1 : isM a g = true) (h2 : isM b g = true) : zp (· + ·) a b g = zp (· + ·) b a g :=
  ind3 (P := fun a b _ g => zp (· + ·) a b g = zp (· + ·) b a g) rfl (fun x y z q a b c g _ _ _ _ _ _ ih => by simp only [zp, ih, Int.add_comm x y]) h1 h2 h2
theorem add_assoc' {a b c g : List Int} (h1 : isM a g = true) (h2 : isM b g = true) (h3 : isM c g = true) : zp (· + ·) (zp (· + ·) a b g) c g = zp (· + ·) a (zp (· + ·) b c g) g :=
  ind3 (P := fun a b c g => zp (· + ·) (zp (· + ·) a b g) c g = zp (· + ·) a (zp (· + ·) b c g) g) rfl (fun x y z q a b c g _ _ _ _ _ _ ih => by
    simp only [zp, ih]
    rw [Int.emod_add_emod, Int.add_emod_emod, Int.add_assoc]) h1 h2 h3
theorem zero_cons (q : Int) (g : List Int) : zero (q :: g) = 0 :: zero g := by simp [zero, List.replicate_succ]
theorem neg_sub {a b g : List Int} (h1 : isM a g = true) (h2 : isM b g = true) : zp (· - ·) (zp (· - ·) (zero g) a g) (zp (· - ·) (zero g) b g) g = zp (· - ·) b a g :=
  ind3 (P := fun a b _ g => zp (· - ·) (zp (· - ·) (zero g) a g) (zp (· - ·) (zero g) b g) g = zp (· - ·) b a g) rfl (fun x y z q a b c g _ _ _ _ _ _ ih => by
    rw [zero_cons]
    simp only [zp, ih]
    rw [← Int.sub_emod, show 0 - x - (0 - y) = y - x by omega]) h1 h2 h2
theorem add_neg {a b g : List Int} (h1 : isM a g = true) (h2 : isM b g = true) : zp (· + ·) a (zp (· - ·) (zero g) b g) g = zp (· - ·) a b g :=
  ind3 (P := fun a b _ g => zp (· + ·) a (zp (· - ·) (zero g) b g) g = zp (· - ·) a b g) rfl (fun x y z q a b c g _ _ _ _ _ _ ih => by
    rw [zero_cons]
    simp only [zp, ih]
    rw [Int.add_emod_emod, show x + (0 - y) = x - y by omega]) h1 h2 h2
theorem neg_add {a b g : List Int} (h1 : isM a g = true) (h2 : isM b g = true) : zp (· + ·) (zp (· - ·) (zero g) a g) (zp (· - ·) (zero g) b g) g = zp (· - ·) (zero g) (zp (· + ·) a b g) g :=
  ind3 (P := fun a b _ g => zp (· + ·) (zp (· - ·) (zero g) a g) (zp (· - ·) (zero g) b g) g = zp (· - ·) (zero g) (zp (· + ·) a b g) g) rfl (fun x y z q a b c g _ _ _ _ _ _ ih => by
    rw [zero_cons]
    simp only [zp, ih]
    rw [← Int.add_emod, Int.sub_emod_emod, show 0 - x + (0 - y) = 0 - (x + y) by omega]) h1 h2 h2
theorem neg_neg {a g : List Int} (h1 : isM a g = true) : zp (· - ·) (zero g) (zp (· - ·) (zero g) a g) g = a :=
  ind3 (P := fun a _ _ g => zp (· - ·) (zero g) (zp (· - ·) (zero g) a g) g = a) rfl (fun x y z q a b c g h1 h2 _ _ _ _ ih => by
    rw [zero_cons]
    simp only [zp, ih]
    rw [Int.sub_emod_emod, show 0 - (0 - x) = x by omega, Int.emod_eq_of_lt h1 h2]) h1 h1 h1
end LW
end

section
set_option Elab.async false
set_option linter.all false
set_option maxRecDepth 100000
set_option maxHeartbeats 1000000
/-! P16: gaps and sums of lots that are moved, turned. -/
namespace LW
open PySem PySem.Spec PyProof.Rows L2 E2
theorem setI_ext {A B : List (List Int)} (h : ∀ x, x ∈ A ↔ x ∈ B) : setI A = setI B := by
  unfold setI
  exact sortI_eq ((List.perm_ext_iff_of_nodup (dd_nodup A) (dd_nodup B)).mpr fun x => by rw [mem_dd, mem_dd]; exact h x)
theorem prs_ext {op : Int → Int → Int} {g : List Int} {A B A' B' : List (List Int)} (h1 : ∀ x, x ∈ A ↔ x ∈ A') (h2 : ∀ x, x ∈ B ↔ x ∈ B') : ∀ x, x ∈ prs op g A B ↔ x ∈ prs op g A' B' := fun x => by
  rw [mem_prs, mem_prs]
  constructor
  · rintro ⟨a, ha, b, hb, e⟩; exact ⟨a, (h1 a).mp ha, b, (h2 b).mp hb, e⟩
  · rintro ⟨a, ha, b, hb, e⟩; exact ⟨a, (h1 a).mpr ha, b, (h2 b).mpr hb, e⟩
section
variable {g s : List Int} {L : List (List Int)}
def moved (g s : List Int) (L : List (List Int)) : List (List Int) := sortI (L.map fun a => zp (· + ·) a s g)
def turned (g : List Int) (L : List (List Int)) : List (List Int) := sortI (L.map fun a => zp (· - ·) (zero g) a g)
theorem mem_moved {x : List Int} : x ∈ moved g s L ↔ ∃ a ∈ L, x = zp (· + ·) a s g := by
  unfold moved
  rw [mem_sortI, List.mem_map]
  exact ⟨fun ⟨a, h, e⟩ => ⟨a, h, e.symm⟩, fun ⟨a, h, e⟩ => ⟨a, h, e.symm⟩⟩
theorem mem_turned {x : List Int} : x ∈ turned g L ↔ ∃ a ∈ L, x = zp (· - ·) (zero g) a g := by
  unfold turned
  rw [mem_sortI, List.mem_map]
  exact ⟨fun ⟨a, h, e⟩ => ⟨a, h, e.symm⟩, fun ⟨a, h, e⟩ => ⟨a, h, e.symm⟩⟩
/-- (a) -/
theorem gaps_moved (hL : ∀ a ∈ L, isM a g = true) (hs : isM s g = true) : setI (prs (· - ·) g (moved g s L) (moved g s L)) = setI (prs (· - ·) g L L) := setI_ext fun x => by
  rw [mem_prs, mem_prs]
  constructor
  · rintro ⟨a, ha, b, hb, rfl⟩
    obtain ⟨a', ha', rfl⟩ := mem_moved.mp ha
    obtain ⟨b', hb', rfl⟩ := mem_moved.mp hb
    exact ⟨a', ha', b', hb', sub_moved (hL a' ha') (hL b' hb') hs⟩
  · rintro ⟨a, ha, b, hb, rfl⟩
    exact ⟨_, mem_moved.mpr ⟨a, ha, rfl⟩, _, mem_moved.mpr ⟨b, hb, rfl⟩, (sub_moved (hL a ha) (hL b hb) hs).symm⟩
theorem gaps_turned (hL : ∀ a ∈ L, isM a g = true) : setI (prs (· - ·) g (turned g L) (turned g L)) = setI (prs (· - ·) g L L) := setI_ext fun x => by
  rw [mem_prs, mem_prs]
  constructor
  · rintro ⟨a, ha, b, hb, rfl⟩
    obtain ⟨a', ha', rfl⟩ := mem_turned.mp ha
    obtain ⟨b', hb', rfl⟩ := mem_turned.mp hb
    exact ⟨b', hb', a', ha', neg_sub (hL a' ha') (hL b' hb')⟩
  · rintro ⟨a, ha, b, hb, rfl⟩
    exact ⟨_, mem_turned.mpr ⟨b, hb, rfl⟩, _, mem_turned.mpr ⟨a, ha, rfl⟩, (neg_sub (hL b hb) (hL a ha)).symm⟩
/-- (c) -/
theorem sums_turned (hL : ∀ a ∈ L, isM a g = true) : setI (prs (· + ·) g L (turned g L)) = setI (prs (· - ·) g L L) := setI_ext fun x => by
  rw [mem_prs, mem_prs]
  constructor
  · rintro ⟨a, ha, b, hb, rfl⟩
    obtain ⟨b', hb', rfl⟩ := mem_turned.mp hb
    exact ⟨a, ha, b', hb', add_neg (hL a ha) (hL b' hb')⟩
  · rintro ⟨a, ha, b, hb, rfl⟩
    exact ⟨a, ha, _, mem_turned.mpr ⟨b, hb, rfl⟩, (add_neg (hL a ha) (hL b hb)).symm⟩
/-- (b) -/
theorem own_turned (hg : pos g) (hL : ∀ a ∈ L, isM a g = true) : ((turned g L).any fun a => decide (a ∈ prs (· + ·) g (turned g L) (turned g L))) = (L.any fun a => decide (a ∈ prs (· + ·) g L L)) := by
  rw [Bool.eq_iff_iff, List.any_eq_true, List.any_eq_true]
  simp only [decide_eq_true_eq]
  constructor
  · rintro ⟨x, hx, h⟩
    obtain ⟨a, ha, rfl⟩ := mem_turned.mp hx
    obtain ⟨y, hy, z, hz, e⟩ := mem_prs.mp h
    obtain ⟨b, hb, rfl⟩ := mem_turned.mp hy
    obtain ⟨c, hc, rfl⟩ := mem_turned.mp hz
    rw [neg_add (hL b hb) (hL c hc)] at e
    have hm : isM (zp (· + ·) b c g) g = true := zp_mem (isM_len (hL b hb)) (isM_len (hL c hc)) hg
    have e2 := congrArg (fun z => zp (· - ·) (zero g) z g) e
    rw [neg_neg (hL a ha), neg_neg hm] at e2
    exact ⟨a, ha, mem_prs.mpr ⟨b, hb, c, hc, e2⟩⟩
  · rintro ⟨a, ha, h⟩
    obtain ⟨b, hb, c, hc, e⟩ := mem_prs.mp h
    exact ⟨_, mem_turned.mpr ⟨a, ha, rfl⟩, mem_prs.mpr ⟨_, mem_turned.mpr ⟨b, hb, rfl⟩, _, mem_turned.mpr ⟨c, hc, rfl⟩, by rw [neg_add (hL b hb) (hL c hc), e]⟩⟩
end
end LW
end

section
set_option Elab.async false
set_option linter.all false
set_option maxRecDepth 100000
set_option maxHeartbeats 1000000
/-! P17: all gaps of a great lot. -/
namespace LW
open PySem PySem.Spec PyProof.Rows L2 E2
theorem meet {A B M : List (List Int)} (hA : A.Nodup) (hB : B.Nodup) (sA : ∀ x ∈ A, x ∈ M) (sB : ∀ x ∈ B, x ∈ M) (h : M.length < A.length + B.length) : ∃ x, x ∈ A ∧ x ∈ B := by
  refine Classical.byContradiction fun no => ?_
  have nd : (A ++ B).Nodup := List.nodup_append.mpr ⟨hA, hB, fun x hx y hy e => no ⟨x, hx, e ▸ hy⟩⟩
  have := nodup_le nd fun x hx => (List.mem_append.mp hx).elim (sA x) (sB x)
  rw [List.length_append] at this
  omega
theorem sub_add_cancel {a s g : List Int} (h1 : isM a g = true) (h2 : isM s g = true) : zp (· - ·) (zp (· + ·) s a g) a g = s :=
  ind3 (P := fun a s _ g => zp (· - ·) (zp (· + ·) s a g) a g = s) rfl (fun x y z q a b c g _ _ h1 h2 _ _ ih => by
    simp only [zp, ih]
    rw [Int.emod_sub_emod, show y + x - x = y by omega, Int.emod_eq_of_lt h1 h2]) h1 h2 h2
theorem gaps_all {g : List Int} {L : List (List Int)} (hg : pos g) (nd : L.Nodup) (hL : ∀ a ∈ L, isM a g = true) (h : (mems g).length < 2 * L.length) {x : List Int} (hx : isM x g = true) : x ∈ prs (· - ·) g L L := by
  have inj : ((L.map fun a => zp (· + ·) x a g)).Nodup := by
    refine List.pairwise_map.mpr (List.Pairwise.imp_of_mem (fun {a b} ha hb ne e => ne ?_) nd)
    have e2 : zp (· + ·) a x g = zp (· + ·) b x g := by rw [add_comm' (hL a ha) hx, add_comm' (hL b hb) hx, e]
    have := congrArg (fun z => zp (· - ·) z x g) e2
    simpa [sub_add_cancel hx (hL a ha), sub_add_cancel hx (hL b hb)] using this
  obtain ⟨y, hy, hy2⟩ := meet (M := mems g) nd inj (fun a ha => mem_mems (hL a ha)) (fun z hz => by
    obtain ⟨a, ha, rfl⟩ := List.mem_map.mp hz
    exact mem_mems (zp_mem (isM_len hx) (isM_len (hL a ha)) hg)) (by rw [List.length_map]; omega)
  obtain ⟨a, ha, rfl⟩ := List.mem_map.mp hy2
  exact mem_prs.mpr ⟨_, hy, a, ha, (sub_add_cancel (hL a ha) hx).symm⟩
end LW
end

section
set_option Elab.async false
set_option linter.all false
set_option maxRecDepth 100000
set_option maxHeartbeats 1000000
/-! P18: the span is closed. -/
namespace LW
open PySem PySem.Spec PyProof.Rows L2 E2
theorem setI_nodup (ks : List (List Int)) : (setI ks).Nodup := (sortI_perm _).nodup_iff.mpr (dd_nodup ks)
theorem setI_setI (ks : List (List Int)) : setI (setI ks) = setI ks := setI_ext fun _ => mem_setI
theorem sub_of_len {A B : List (List Int)} (nA : A.Nodup) (h : ∀ x ∈ A, x ∈ B) (hl : B.length ≤ A.length) : ∀ x ∈ B, x ∈ A := fun x hx => by
  refine Classical.byContradiction fun no => ?_
  have := nodup_le (l := x :: A) (D := B) (List.nodup_cons.mpr ⟨no, nA⟩) fun y hy => by
    rcases List.mem_cons.mp hy with rfl | hy
    · exact hx
    · exact h y hy
  simp only [List.length_cons] at this
  omega
theorem grow_len {g m : List Int} {S : List (List Int)} (hS : setI S = S) (ne : growS g m S ≠ S) : S.length + 1 ≤ (growS g m S).length := by
  refine Classical.byContradiction fun no => ne ?_
  have nS : S.Nodup := hS ▸ setI_nodup S
  have h1 : ∀ x ∈ S, x ∈ growS g m S := fun x hx => mem_setI.mpr (List.mem_append.mpr (.inl hx))
  have h2 := sub_of_len nS h1 (by omega)
  have : setI (growS g m S) = setI S := setI_ext fun x => ⟨h2 x, h1 x⟩
  unfold growS at this ⊢
  rw [setI_setI] at this
  rw [this, hS]
theorem span_fix {g m : List Int} : ∀ (k : Nat) (S : List (List Int)), setI S = S → growS g m (spanN g m k S) = spanN g m k S ∨ S.length + k ≤ (spanN g m k S).length
  | 0, S, _ => .inr (Nat.le_refl _)
  | k + 1, S, hS => by
    unfold spanN
    split
    · rename_i q; exact .inl q
    · rename_i q
      have h1 := grow_len hS q
      rcases span_fix k (growS g m S) (setI_setI _) with h | h
      · exact .inl h
      · exact .inr (by omega)
theorem span_mem {g m : List Int} (hg : Grp g) (hm : isM m g = true) : ∀ (k : Nat) (S : List (List Int)), (∀ a ∈ S, isM a g = true) → ∀ a ∈ spanN g m k S, isM a g = true
  | 0, S, hS => hS
  | k + 1, S, hS => by
    unfold spanN
    split
    · exact hS
    · exact span_mem hg hm k _ fun a ha => growS_mem hg hm hS a (mem_setI.mp ha)
theorem span_sub {g m : List Int} : ∀ (k : Nat) (S : List (List Int)), ∀ a ∈ S, a ∈ spanN g m k S
  | 0, S => fun a h => h
  | k + 1, S => fun a h => by
    unfold spanN
    split
    · exact h
    · exact span_sub k _ a (mem_setI.mpr (List.mem_append.mpr (.inl h)))
theorem span_set {g m : List Int} : ∀ (k : Nat) (S : List (List Int)), setI S = S → setI (spanN g m k S) = spanN g m k S
  | 0, S, h => h
  | k + 1, S, h => by
    unfold spanN
    split
    · exact h
    · exact span_set k _ (setI_setI _)
end LW
end

section
set_option Elab.async false
set_option linter.all false
set_option maxRecDepth 100000
set_option maxHeartbeats 1000000
/-! P19: multiples. -/
namespace LW
open PySem PySem.Spec PyProof.Rows L2 E2
def mulI (k : Int) : List Int → List Int → List Int
  | m :: ms, g :: gs => k * m % g :: mulI k ms gs
  | _, _ => []
theorem mul_zero' : ∀ {g m : List Int}, isM m g = true → mulI 0 m g = zero g
  | [], m, h => by rw [isM_nil h]; rfl
  | q :: g, m, h => by
    obtain ⟨x, m, rfl, _, _, h⟩ := isM_cons h
    rw [zero_cons, mulI, mul_zero' h]
    simp
theorem mul_succ' : ∀ {g m : List Int} (k : Int), isM m g = true → mulI (k + 1) m g = zp (· + ·) (mulI k m g) m g
  | [], m, k, h => by rw [isM_nil h]; rfl
  | q :: g, m, k, h => by
    obtain ⟨x, m, rfl, _, _, h⟩ := isM_cons h
    simp only [mulI, zp, mul_succ' k h]
    rw [Int.emod_add_emod, Int.add_mul, Int.one_mul]
theorem mul_sub' : ∀ {g m : List Int} (i j : Int), isM m g = true → zp (· - ·) (mulI i m g) (mulI j m g) g = mulI (i - j) m g
  | [], m, i, j, h => by rw [isM_nil h]; rfl
  | q :: g, m, i, j, h => by
    obtain ⟨x, m, rfl, _, _, h⟩ := isM_cons h
    simp only [mulI, zp, mul_sub' i j h]
    rw [← Int.sub_emod, Int.sub_mul]
theorem mul_add' : ∀ {g m : List Int} (i j : Int), isM m g = true → zp (· + ·) (mulI i m g) (mulI j m g) g = mulI (i + j) m g
  | [], m, i, j, h => by rw [isM_nil h]; rfl
  | q :: g, m, i, j, h => by
    obtain ⟨x, m, rfl, _, _, h⟩ := isM_cons h
    simp only [mulI, zp, mul_add' i j h]
    rw [← Int.add_emod, Int.add_mul]
theorem mul_per : ∀ {g m : List Int} (k t N : Int), (∀ q ∈ g, q ∣ N) → isM m g = true → mulI (k + t * N) m g = mulI k m g
  | [], m, k, t, N, _, h => by rw [isM_nil h]; rfl
  | q :: g, m, k, t, N, hN, h => by
    obtain ⟨x, m, rfl, _, _, h⟩ := isM_cons h
    simp only [mulI, mul_per k t N (fun r hr => hN r (List.mem_cons_of_mem _ hr)) h]
    obtain ⟨c, rfl⟩ := hN q List.mem_cons_self
    congr 1
    rw [show (k + t * (q * c)) * x = k * x + q * (t * c * x) by rw [Int.add_mul]; congr 1; simp [Int.mul_assoc, Int.mul_left_comm, Int.mul_comm]]
    rw [Int.add_mul_emod_self_left]
end LW
end

section
set_option Elab.async false
set_option linter.all false
set_option maxRecDepth 100000
set_option maxHeartbeats 1000000
/-! P20: the span is the multiples. -/
namespace LW
open PySem PySem.Spec PyProof.Rows L2 E2
theorem span_mul {g m : List Int} (hm : isM m g = true) : ∀ (k : Nat) (S : List (List Int)), (∀ a ∈ S, ∃ i : Int, a = mulI i m g) → ∀ a ∈ spanN g m k S, ∃ i : Int, a = mulI i m g
  | 0, S, h => h
  | k + 1, S, h => by
    unfold spanN
    split
    · exact h
    · refine span_mul hm k _ fun a ha => ?_
      rcases List.mem_append.mp (mem_setI.mp ha) with ha | ha
      · exact h a ha
      · obtain ⟨b, hb, c, hc, rfl⟩ := mem_prs.mp ha
        rw [List.mem_singleton.mp hc]
        obtain ⟨i, rfl⟩ := h b hb
        exact ⟨i + 1, (mul_succ' i hm).symm⟩
end LW
namespace LW
open PySem PySem.Spec PyProof.Rows L2 E2
theorem foldl_dvd : ∀ (g : List Int) (c : Int), c ∣ g.foldl (· * ·) c ∧ ∀ q ∈ g, q ∣ g.foldl (· * ·) c
  | [], c => ⟨Int.dvd_refl _, fun _ h => nomatch h⟩
  | x :: g, c => by
    obtain ⟨h1, h2⟩ := foldl_dvd g (c * x)
    refine ⟨Int.dvd_trans (Int.dvd_mul_right c x) h1, fun q hq => ?_⟩
    rcases List.mem_cons.mp hq with rfl | hq
    · exact Int.dvd_trans (Int.dvd_mul_left c q) h1
    · exact h2 q hq
theorem dvd_prod {g : List Int} : ∀ q ∈ g, q ∣ prod g := (foldl_dvd g 1).2
def spanOf (g m : List Int) : List (List Int) := spanN g m (prod g).toNat [zero g]
section
variable {g m : List Int}
theorem span_facts (hg : g ∈ menu) (hm : isM m g = true) : setI (spanOf g m) = spanOf g m ∧ (∀ a ∈ spanOf g m, isM a g = true) ∧ ∀ a, a ∈ spanOf g m ↔ ∃ i : Int, a = mulI i m g := by
  obtain ⟨G, q1, q2, q3⟩ := grp_of hg
  have hz := zero_mem (pos_of G)
  have s0 : setI [zero g] = [zero g] := by
    have h1 : setI [zero g] = sortI [zero g] := rfl
    have h2 : (sortI [zero g]).Perm [zero g] := sortI_perm _
    rw [h1]
    exact List.perm_singleton.mp h2
  have e1 : setI (spanOf g m) = spanOf g m := span_set _ _ s0
  have e2 : ∀ a ∈ spanOf g m, isM a g = true := span_mem G hm _ _ fun a ha => by rw [List.mem_singleton.mp ha]; exact hz
  have e3 : growS g m (spanOf g m) = spanOf g m := by
    rcases span_fix (g := g) (m := m) (prod g).toNat [zero g] s0 with h | h
    · exact h
    · have nd : (spanOf g m).Nodup := e1 ▸ setI_nodup _
      have := nodup_le nd fun a ha => mem_mems (e2 a ha)
      have h : [zero g].length + (prod g).toNat ≤ (spanOf g m).length := h
      simp only [List.length_singleton] at h
      omega
  have e4 : ∀ k : Nat, mulI (k : Int) m g ∈ spanOf g m := fun k => by
    induction k with
    | zero => rw [show ((0 : Nat) : Int) = 0 from rfl, mul_zero' hm]; exact span_sub _ _ _ (List.mem_singleton.mpr rfl)
    | succ k ih =>
      rw [← e3]
      refine mem_setI.mpr (List.mem_append.mpr (.inr (mem_prs.mpr ⟨_, ih, m, List.mem_singleton.mpr rfl, ?_⟩)))
      rw [← mul_succ' _ hm]; rfl
  refine ⟨e1, e2, fun a => ⟨span_mul hm _ _ (fun a ha => ⟨0, by rw [List.mem_singleton.mp ha, mul_zero' hm]⟩) a, ?_⟩⟩
  rintro ⟨i, rfl⟩
  have hp : 0 < prod g := by
    have h := mem_mems hz
    have := List.length_pos_of_mem h
    omega
  have h1 := Int.emod_nonneg i (show prod g ≠ 0 by omega)
  have h2 := Int.emod_add_mul_ediv i (prod g)
  have h3 := mul_per (i % prod g) (i / prod g) (prod g) dvd_prod hm
  rw [show i % prod g + i / prod g * prod g = i by rw [Int.mul_comm]; exact h2] at h3
  rw [h3, show i % prod g = (((i % prod g).toNat : Nat) : Int) by omega]
  exact e4 _
end
end LW
end

section
set_option Elab.async false
set_option linter.all false
set_option maxRecDepth 100000
set_option maxHeartbeats 1000000
/-! P21: gaps and sums of a span, of a moved one. -/
namespace LW
open PySem PySem.Spec PyProof.Rows L2 E2
section
variable {g m s : List Int}
/-- (d) -/
theorem gaps_span (hg : g ∈ menu) (hm : isM m g = true) : setI (prs (· - ·) g (spanOf g m) (spanOf g m)) = spanOf g m := by
  obtain ⟨h1, h2, h3⟩ := span_facts hg hm
  refine Eq.trans (setI_ext fun x => ?_) h1
  rw [mem_prs]
  constructor
  · rintro ⟨a, ha, b, hb, rfl⟩
    obtain ⟨i, rfl⟩ := (h3 a).mp ha
    obtain ⟨j, rfl⟩ := (h3 b).mp hb
    exact (h3 _).mpr ⟨i - j, mul_sub' i j hm⟩
  · intro hx
    obtain ⟨i, rfl⟩ := (h3 x).mp hx
    refine ⟨_, hx, mulI 0 m g, (h3 _).mpr ⟨0, rfl⟩, ?_⟩
    rw [mul_sub' i 0 hm, Int.sub_zero]
theorem own_span (hg : g ∈ menu) (hm : isM m g = true) : ((spanOf g m).any fun a => decide (a ∈ prs (· + ·) g (spanOf g m) (spanOf g m))) = true := by
  obtain ⟨h1, h2, h3⟩ := span_facts hg hm
  rw [List.any_eq_true]
  have hz : mulI 0 m g ∈ spanOf g m := (h3 _).mpr ⟨0, rfl⟩
  exact ⟨_, hz, decide_eq_true (mem_prs.mpr ⟨_, hz, _, hz, by rw [mul_add' 0 0 hm]; rfl⟩)⟩
/-- (e) -/
theorem own_coset (hg : g ∈ menu) (hm : isM m g = true) (hs : isM s g = true) (no : s ∉ spanOf g m) : ((moved g s (spanOf g m)).any fun a => decide (a ∈ prs (· + ·) g (moved g s (spanOf g m)) (moved g s (spanOf g m)))) = false := by
  obtain ⟨h1, h2, h3⟩ := span_facts hg hm
  obtain ⟨G, _, _, _⟩ := grp_of hg
  cases q : ((moved g s (spanOf g m)).any fun a => decide (a ∈ prs (· + ·) g (moved g s (spanOf g m)) (moved g s (spanOf g m)))) with
  | false => rfl
  | true =>
    refine absurd ?_ no
    rw [List.any_eq_true] at q
    obtain ⟨x, hx, hd⟩ := q
    obtain ⟨y, hy, z, hz, e⟩ := mem_prs.mp (of_decide_eq_true hd)
    obtain ⟨a, ha, rfl⟩ := mem_moved.mp hx
    obtain ⟨b, hb, rfl⟩ := mem_moved.mp hy
    obtain ⟨c, hc, rfl⟩ := mem_moved.mp hz
    have hp := pos_of G
    have mb : isM (zp (· + ·) b s g) g = true := zp_mem (isM_len (h2 b hb)) (isM_len hs) hp
    have mc : isM (zp (· + ·) c s g) g = true := zp_mem (isM_len (h2 c hc)) (isM_len hs) hp
    have e2 := congrArg (fun z => zp (· - ·) z (zp (· + ·) b s g) g) e
    have e3 : zp (· - ·) (zp (· + ·) a s g) (zp (· + ·) b s g) g = zp (· - ·) (zp (· + ·) (zp (· + ·) b s g) (zp (· + ·) c s g) g) (zp (· + ·) b s g) g := e2
    rw [sub_moved (h2 a ha) (h2 b hb) hs, add_comm' mb mc, sub_add_cancel mb mc] at e3
    have e4 : s = zp (· - ·) (zp (· - ·) a b g) c g := by rw [e3, add_comm' (h2 c hc) hs, sub_add_cancel (h2 c hc) hs]
    obtain ⟨i, rfl⟩ := (h3 a).mp ha
    obtain ⟨j, rfl⟩ := (h3 b).mp hb
    obtain ⟨k, rfl⟩ := (h3 c).mp hc
    rw [e4, mul_sub' i j hm, mul_sub' (i - j) k hm]
    exact (h3 _).mpr ⟨_, rfl⟩
end
end LW
end

section
set_option Elab.async false
set_option linter.all false
set_option maxRecDepth 100000
set_option maxHeartbeats 1000000
/-! P22: lots of the law; members of tuples. -/
namespace E2
open PySem PySem.Spec PyProof.Rows L2 LW
theorem eqP_tz : ∀ a b : List Int, eqP (tz a) (tz b) = decide (a = b) := by
  intro a b
  unfold eqP tz
  rw [py, py, pyAll_ints, pyAll_ints]
  induction a generalizing b with
  | nil => cases b <;> simp [PyData.eqv, PyData.eqvAll]
  | cons x a ih =>
    cases b with
    | nil => simp [PyData.eqv, PyData.eqvAll]
    | cons y b =>
      have := ih b
      simp only [PyData.eqv] at this
      simp only [List.map_cons, PyData.eqv, PyData.eqvAll, this]
      by_cases h : x = y <;> simp [h]
theorem any_tz (k : List Int) (L : List (List Int)) : ((L.map tz).any fun z => eqP z (tz k)) = decide (k ∈ L) := by
  rw [List.any_map, Bool.eq_iff_iff, List.any_eq_true, decide_eq_true_eq]
  constructor
  · rintro ⟨x, hx, e⟩
    have e : eqP (tz x) (tz k) = true := e
    rw [eqP_tz, decide_eq_true_eq] at e
    exact e ▸ hx
  · intro h
    exact ⟨k, h, by show eqP (tz k) (tz k) = true; rw [eqP_tz]; simp⟩
theorem inO_tz (k : List Int) (L : List (List Int)) : inO (tz k) (.tup (L.map tz)) = some (decide (k ∈ L)) := by
  unfold inO
  have h1 : flat 60 (tz k) = true := flat_tz 59 k
  have h2 : flat 60 (.tup (L.map tz)) = true := by simp [flat, flat_tzs 58]
  simp only
  rw [h1, h2, any_tz]
  rfl
theorem in_tup (k : List Int) (L : List (List Int)) : inD (tz k) (.tup (L.map tz)) = some (.sh (.bl (decide (k ∈ L)))) := by simp only [inD, inO_tz, x_shB]
theorem notin_tup (k : List Int) (L : List (List Int)) : notInD (tz k) (.tup (L.map tz)) = some (.sh (.bl (!decide (k ∈ L)))) := by simp only [notInD, inO_tz, x_shB]
theorem ne_lsts (A B : List (List Int)) : neD (.lst (A.map tz)) (.lst (B.map tz)) = some (.sh (.bl (!decide (A = B)))) := by
  have := eq_lsts A B
  unfold eqD at this
  unfold neD
  split at this
  · rename_i h
    rw [if_pos h]
    have e : eqP (.lst (A.map tz)) (.lst (B.map tz)) = decide (A = B) := by simpa using this
    rw [e]
  · cases this
theorem shr_holds {s : Slot} {m : Dt} (h : Holds1 s m) (ρ : Env) : shr s ρ = .ok (m, ρ) := by
  rcases h with rfl | rfl <;> rfl
theorem up_pair : ∀ {l : List (List Int)}, ((l.zip l.tail).all fun p => decide (p.1 < p.2)) = true → l.Pairwise (fun a b => a < b)
  | [], _ => .nil
  | [_], _ => List.pairwise_singleton _ _
  | a :: b :: l, h => by
    simp only [List.tail_cons, List.zip_cons_cons, List.all_cons, Bool.and_eq_true, decide_eq_true_eq] at h
    have ih : (b :: l).Pairwise (fun a b => a < b) := up_pair (by simpa using h.2)
    refine List.pairwise_cons.mpr ⟨fun c hc => ?_, ih⟩
    rcases List.mem_cons.mp hc with rfl | hc
    · exact h.1
    · exact List.lt_trans h.1 ((List.pairwise_cons.mp ih).1 c hc)
theorem sort_nodup {ks : List (List Int)} (h : ks.Nodup) : sortI ks = setI ks := by
  unfold setI
  exact sortI_eq ((List.perm_ext_iff_of_nodup h (dd_nodup ks)).mpr fun x => mem_dd.symm)
theorem tu_lot (L : List (List Int)) (h : L.length ≤ 16777216) (h2 : ∀ a ∈ L, a.length ≤ 16777216) : Tu 3 (.tup (L.map tz)) (.tup (L.map tz)) := by
  refine .inr ⟨_, _, .inl rfl, rfl, by simpa using h, ?_⟩
  induction L with
  | nil => exact .nil
  | cons a L ih =>
    exact .cons (tu_tz 1 a (.inl rfl) (h2 a List.mem_cons_self)) (ih (by simp at h; omega) fun b hb => h2 b (List.mem_cons_of_mem _ hb))
end E2
namespace LW
open PySem PySem.Spec PyProof.Rows L2 E2
theorem Lot.nodup {g : List Int} {L : List (List Int)} (h : Lot g L) : L.Nodup :=
  (up_pair h.up).imp fun {a b} hlt e => by subst e; exact List.lt_irrefl a hlt
theorem Lot.tu {g : List Int} {L : List (List Int)} (hg : Grp g) (h : Lot g L) : Tu 3 (.tup (L.map tz)) (.tup (L.map tz)) := by
  have := h.len
  have hl := hg.len
  exact tu_lot L (by omega) fun a ha => by have := isM_len (h.mem a ha); omega
theorem sorted_lot {g : List Int} {ks : List (List Int)} (nd : ks.Nodup) (h0 : ks ≠ []) (h : ∀ a ∈ ks, isM a g = true) (hl : ks.length ≤ 256) : Lot g (sortI ks) := by
  rw [sort_nodup nd]
  exact setI_lot h0 h hl
section
variable {g s m : List Int} {L : List (List Int)}
theorem moved_lot (hg : Grp g) (hL : Lot g L) (hs : isM s g = true) : Lot g (moved g s L) := by
  refine sorted_lot ?_ (fun e => hL.ne (by simpa using e)) (fun a ha => ?_) (by simpa using hL.len)
  · refine List.pairwise_map.mpr (List.Pairwise.imp_of_mem (fun {a b} ha hb ne e => ne ?_) hL.nodup)
    have := congrArg (fun z => zp (· - ·) z s g) e
    simpa [sub_add_cancel hs (hL.mem a ha), sub_add_cancel hs (hL.mem b hb)] using this
  · obtain ⟨b, hb, rfl⟩ := List.mem_map.mp ha
    exact zp_mem (isM_len (hL.mem b hb)) (isM_len hs) (pos_of hg)
theorem turned_lot (hg : Grp g) (hL : Lot g L) : Lot g (turned g L) := by
  refine sorted_lot ?_ (fun e => hL.ne (by simpa using e)) (fun a ha => ?_) (by simpa using hL.len)
  · refine List.pairwise_map.mpr (List.Pairwise.imp_of_mem (fun {a b} ha hb ne e => ne ?_) hL.nodup)
    have := congrArg (fun z => zp (· - ·) (zero g) z g) e
    simpa [neg_neg (hL.mem a ha), neg_neg (hL.mem b hb)] using this
  · obtain ⟨b, hb, rfl⟩ := List.mem_map.mp ha
    exact zp_mem (isM_len (zero_mem (pos_of hg))) (isM_len (hL.mem b hb)) (pos_of hg)
theorem span_lot (hg : g ∈ menu) (hm : isM m g = true) : Lot g (spanOf g m) := by
  obtain ⟨h1, h2, h3⟩ := span_facts hg hm
  obtain ⟨_, hz, _, _⟩ := grp_of hg
  rw [← h1]
  refine setI_lot (fun e => ?_) h2 ?_
  · have : mulI 0 m g ∈ spanOf g m := (h3 _).mpr ⟨0, rfl⟩
    rw [e] at this
    cases this
  · rw [← h1, setI_len]
    have := dd_le (M := mems g) fun k hk => mem_mems (h2 k hk)
    omega
theorem mems_ok : (menu.all fun g => decide (mems g).Nodup && (mems g).all fun a => isM a g) = true := by decide +kernel
theorem gaps_size (hg : g ∈ menu) (hL : Lot g L) (h : prod g < 2 * (L.length : Int)) : ((setI (prs (· - ·) g L L)).length : Int) = prod g := by
  obtain ⟨G, hz, he, _⟩ := grp_of hg
  have ok := List.all_eq_true.mp mems_ok g hg
  rw [Bool.and_eq_true, decide_eq_true_eq, List.all_eq_true] at ok
  have h1 : (setI (prs (· - ·) g L L)).length ≤ (mems g).length := nodup_le (setI_nodup _) fun x hx => by
    obtain ⟨a, ha, b, hb, rfl⟩ := mem_prs.mp (mem_setI.mp hx)
    exact mem_mems (zp_mem (isM_len (hL.mem a ha)) (isM_len (hL.mem b hb)) (pos_of G))
  have h2 : (mems g).length ≤ (setI (prs (· - ·) g L L)).length := nodup_le ok.1 fun x hx => mem_setI.mpr (gaps_all (pos_of G) hL.nodup hL.mem (by omega) (ok.2 x hx))
  omega
theorem own_none (S : List (List Int)) : decide ((L.filter fun a => decide (a ∈ S)) = []) = !(L.any fun a => decide (a ∈ S)) := by
  rw [Bool.eq_iff_iff]
  simp [List.filter_eq_nil_iff]
end
end LW
end

section
set_option Elab.async false
set_option linter.all false
set_option maxRecDepth 100000
set_option maxHeartbeats 1000000
/-! Q1: for all laws: trees, filters, sets that are told. -/
namespace E2
open PySem PySem.Spec PyProof.Rows L2 LW
@[simp] theorem x_augS (o : Aug) (i : Nat) (fk fv : EE) (ρ : E2.Env) : fAugS o i fk fv ρ = match ρ[i]? with
  | some (.ow (.lst _)) => sbind (fk ρ) fun k ρ1 => (match ρ1[i]?, k with
    | some (.ow (.lst ds)), .int j => if 0 ≤ j then (match ds[j.toNat]? with
      | some (.int a) => sbind (fv ρ1) fun v ρ2 => (match ρ2[i]?, v with
        | some (.ow d2), .int b => (match setD d2 (.int j) (.int (o.f a b)) with
          | some d' => .nxt (ρ2.set i (.ow d'))
          | none => .bad)
        | _, _ => .bad)
      | _ => .bad) else .bad
    | _, _ => .bad)
  | _ => .bad := rfl
@[simp] theorem x_recv (p : Slot → Bool) (i : Nat) (f : EE) (g : Dt → Dt → Option Slot) (ρ : E2.Env) : fRecv p i f g ρ = match ρ[i]? with
  | some s => if p s then f2 (.sl i) (.ex f) g ρ else .bad
  | none => .bad := rfl
@[simp] theorem x_callK (F : FS) (is : List Nat) (os : List Op) (ρ : E2.Env) : fCallK F is os ρ = (runOps os ρ).bind fun as ρ1 => match E2.take F.cst (sel is os) (sel is as) ρ1 [] with
  | some (ρ2, α2) => (match F.run α2 with
    | .ok (s, α3) => .ok (s, giveBack (sel is os) α2 α3 ρ2)
    | .err x fs α3 => .err x fs (giveBack (sel is os) α2 α3 ρ2)
    | .bad => .bad)
  | none => .bad := rfl
theorem eq_tups (A B : List (List Int)) : eqD (.tup (A.map tz)) (.tup (B.map tz)) = some (.sh (.bl (decide (A = B)))) := by
  have := eq_lsts A B
  unfold eqD eqP at this ⊢
  simp only [flat, py, PyData.eqv] at this ⊢
  exact this
theorem lcS_filt {a : Dt → E2.Env → Option E2.Env} {t : ET} {f : EE} {vs : List Nat} {ρ : E2.Env} (c : List Int → Bool) : ∀ (L : List (List Int)) (acc : List Dt), (∀ k, k ∈ L → ∃ ρ1 ρ2, a (tz k) ρ = some ρ1 ∧ t ρ1 = .ok (c k, ρ2) ∧ (c k = false → wipeD ρ2 vs = ρ) ∧ (c k = true → ∃ ρ3, f ρ2 = .ok (tz k, ρ3) ∧ wipeD ρ3 vs = ρ)) → lcS a t f vs (L.map tz) acc ρ = .ok (acc ++ (L.filter c).map tz, ρ)
  | [], acc, _ => by simp [lcS]
  | d :: ds, acc, step => by
    obtain ⟨ρ1, ρ2, e1, e2, h1, h2⟩ := step d List.mem_cons_self
    have ih := fun acc => lcS_filt c ds acc fun e he => step e (List.mem_cons_of_mem _ he)
    cases hc : c d with
    | false =>
      rw [hc] at e2
      simp only [List.map_cons, lcS, e1, e2, h1 hc, ih, List.filter_cons, hc, Bool.false_eq_true, if_false]
    | true =>
      rw [hc] at e2
      obtain ⟨ρ3, e3, e4⟩ := h2 hc
      simp only [List.map_cons, lcS, e1, e2, e3, e4, ih, List.filter_cons, hc, if_true, List.map_cons, List.append_assoc, List.singleton_append]
/-- how often -/
def cn (W : List (List Int)) (m : List Int) : Nat := W.countP fun x => decide (x = m)
theorem count_tz (W : List (List Int)) (m : List Int) : countD (.lst (W.map tz)) (tz m) = some (.sh (.int (cn W m))) := by
  have h1 : flat 60 (tz m) = true := flat_tz 59 m
  have h2 : flat 60 (.lst (W.map tz)) = true := by simp [flat, flat_tzs 58]
  simp only [countD, h1, h2, Bool.and_self, if_true, shI, List.countP_map, cn]
  have : ((fun z => eqP z (tz m)) ∘ tz) = fun x => decide (x = m) := funext fun x => eqP_tz x m
  rw [this]
theorem tree_b (k : Nat) (b : Bool) : Tree k (.bl b) := by cases k with
  | zero => exact .inr ⟨b, rfl⟩
  | succ k => exact .inl (.inr ⟨b, rfl⟩)
theorem tree_i (k : Nat) (i : Int) : Tree k (.int i) := by cases k with
  | zero => exact .inl ⟨i, rfl⟩
  | succ k => exact .inl (.inl ⟨i, rfl⟩)
theorem tree_tz (k : Nat) {a : List Int} (h : a.length ≤ 16777216) : Tree (k + 1) (tz a) := .inr ⟨_, .inl rfl, by simpa using h, fun e he => by
  obtain ⟨i, _, rfl⟩ := List.mem_map.mp he
  exact tree_i k i⟩
theorem tree_lot (k : Nat) {L : List (List Int)} (h : L.length ≤ 16777216) (h2 : ∀ a ∈ L, a.length ≤ 16777216) : Tree (k + 2) (.tup (L.map tz)) := .inr ⟨_, .inl rfl, by simpa using h, fun e he => by
  obtain ⟨a, ha, rfl⟩ := List.mem_map.mp he
  exact tree_tz k (h2 a ha)⟩
theorem tree_lst (k : Nat) {ds : List Dt} (h : ds.length ≤ 16777216) (h2 : ∀ e ∈ ds, Tree k e) : Tree (k + 1) (.lst ds) := .inr ⟨_, .inr rfl, h, h2⟩
theorem sortI_is {ks js : List (List Int)} (h : ks.Perm js) (u : js.Pairwise (fun a b => a < b)) : sortI ks = js := by
  refine List.Perm.eq_of_pairwise (fun a b _ _ h1 h2 => leI_anti h1 h2) (sortI_up ks) (u.imp fun {a b} z => ?_) ((sortI_perm ks).trans h)
  unfold leI
  rw [decide_eq_true_eq]
  exact List.le_of_lt z
theorem up_nodup {Y : List (List Int)} (u : Y.Pairwise (fun a b => a < b)) : Y.Nodup := u.imp fun {a b} hlt e => by subst e; exact List.lt_irrefl a hlt
/-- an ascending list with these members -/
theorem setI_up {X Y : List (List Int)} (u : Y.Pairwise (fun a b => a < b)) (h : ∀ x, x ∈ X ↔ x ∈ Y) : setI X = Y :=
  sortI_is ((List.perm_ext_iff_of_nodup (dd_nodup X) (up_nodup u)).mpr fun x => by rw [mem_dd]; exact h x) u
theorem up_eq {X Y : List (List Int)} (u : X.Pairwise (fun a b => a < b)) (v : Y.Pairwise (fun a b => a < b)) (h : ∀ x, x ∈ X ↔ x ∈ Y) : X = Y := by
  rw [← setI_up u fun x => Iff.rfl, ← setI_up v fun x => h x]
theorem setI_is {X Y : List (List Int)} (h : ((X.all fun x => decide (x ∈ Y)) && (Y.all fun x => decide (x ∈ X)) && ((Y.zip Y.tail).all fun p => decide (p.1 < p.2))) = true) : setI X = Y := by
  rw [Bool.and_eq_true, Bool.and_eq_true, List.all_eq_true, List.all_eq_true] at h
  exact setI_up (up_pair h.2) fun x => ⟨fun hx => of_decide_eq_true (h.1.1 x hx), fun hx => of_decide_eq_true (h.1.2 x hx)⟩
end E2
namespace LW
open PySem PySem.Spec PyProof.Rows L2 E2
theorem any_setI (L P : List (List Int)) : (L.any fun a => decide (a ∈ setI P)) = L.any fun a => decide (a ∈ P) := by simp only [mem_setI]
theorem tu_g {g : List Int} (hg : Grp g) : Tu 2 (tz g) (tz g) := tu_tz 1 g (.inl rfl) (by have := hg.len; omega)
theorem lot_is {g : List Int} {L : List (List Int)} (h : (!L.isEmpty && (L.all fun a => isM a g) && ((L.zip L.tail).all fun p => decide (p.1 < p.2)) && decide (L.length ≤ 256)) = true) : Lot g L := by
  simp only [Bool.and_eq_true, decide_eq_true_eq, List.all_eq_true] at h
  refine ⟨fun e => ?_, h.1.1.2, List.all_eq_true.mpr (by simpa using h.1.2), h.2⟩
  subst e
  simp at h
theorem Lot.pw {g : List Int} {L : List (List Int)} (h : Lot g L) : L.Pairwise (fun a b => a < b) := up_pair h.up
theorem Lot.set {g : List Int} {L : List (List Int)} (h : Lot g L) : setI L = L := setI_up h.pw fun _ => Iff.rfl
/-- what is known of the groups of the menu -/
theorem menu_small : (menu.all fun g => (g.all fun q => decide (0 ≤ q) && decide (q ≤ 36)) && decide ((memsL g).length ≤ 1000) && decide (((memsL g).length : Int) = prod g) && (((memsL g).zip (memsL g).tail).all fun p => decide (p.1 < p.2)) && ((mems g).all fun w => decide (w ∈ memsL g))) = true := by decide +kernel
structure MenuFacts (g : List Int) : Prop where
  q : ∀ q ∈ g, 0 ≤ q ∧ q ≤ 36
  z : (memsL g).length ≤ 1000
  n : ((memsL g).length : Int) = prod g
  up : (memsL g).Pairwise (fun a b => a < b)
  all : ∀ a, isM a g = true → a ∈ memsL g
theorem menu_facts {g : List Int} (hg : g ∈ menu) : MenuFacts g := by
  have ok := List.all_eq_true.mp menu_small g hg
  simp only [Bool.and_eq_true, List.all_eq_true, decide_eq_true_eq] at ok
  obtain ⟨⟨⟨⟨h1, h2⟩, h3⟩, h4⟩, h5⟩ := ok
  exact ⟨h1, h2, h3, up_pair (List.all_eq_true.mpr (by simpa using h4)), fun a ha => h5 a (mem_mems ha)⟩
theorem mem_memsL {g a : List Int} (hg : g ∈ menu) : a ∈ memsL g ↔ isM a g = true := ⟨memsL_mem, (menu_facts hg).all a⟩
end LW
end

section
set_option linter.all false
set_option maxHeartbeats 1000000
/-! N1: finite abelian groups, sets as predicates, Kneser. -/
namespace KN
open Classical
noncomputable def dc (p : Prop) : Bool := @decide p (propDecidable p)
theorem of_dc {p : Prop} (h : dc p = true) : p := @of_decide_eq_true p (propDecidable p) h
theorem to_dc {p : Prop} (h : p) : dc p = true := @decide_eq_true p (propDecidable p) h
theorem no_dc {p : Prop} (h : ¬ p) : dc p = false := @decide_eq_false p (propDecidable p) h
structure Ab (α : Type) where
  add : α → α → α
  zero : α
  neg : α → α
  all : List α
  comm : ∀ a b, add a b = add b a
  assoc : ∀ a b c, add (add a b) c = add a (add b c)
  zadd : ∀ a, add zero a = a
  nadd : ∀ a, add (neg a) a = zero
  mem : ∀ a, a ∈ all
  nd : all.Nodup
theorem nodup_len {α : Type} : ∀ {A B : List α}, A.Nodup → (∀ x ∈ A, x ∈ B) → A.length ≤ B.length
  | [], _, _, _ => Nat.zero_le _
  | a :: A, B, h, s => by
    have h1 := List.nodup_cons.mp h
    have hb : a ∈ B := s a List.mem_cons_self
    have ih := nodup_len (A := A) (B := B.erase a) h1.2 fun x hx => (List.mem_erase_of_ne fun e => h1.1 (by rw [← e]; exact hx)).mpr (s x (List.mem_cons_of_mem _ hx))
    rw [List.length_erase_of_mem hb] at ih
    have : 0 < B.length := List.length_pos_of_mem hb
    rw [List.length_cons]
    omega
/-! ### sums over lists -/
theorem sum_ge {α : Type} (f : α → Nat) (p : α → Bool) (k : Nat) (h : ∀ a, p a = true → k ≤ f a) : ∀ l : List α, k * l.countP p ≤ (l.map f).sum
  | [] => by simp
  | a :: l => by
    have ih := sum_ge f p k h l
    rw [List.countP_cons, List.map_cons, List.sum_cons]
    cases q : p a with
    | false => simp; omega
    | true =>
      have := h a q
      simp [Nat.mul_add]
      omega
theorem sum_le {α : Type} (f : α → Nat) (p : α → Bool) (k : Nat) (h : ∀ a, f a ≤ k) (h0 : ∀ a, p a = false → f a = 0) : ∀ l : List α, (l.map f).sum ≤ k * l.countP p
  | [] => by simp
  | a :: l => by
    have ih := sum_le f p k h h0 l
    rw [List.countP_cons, List.map_cons, List.sum_cons]
    cases q : p a with
    | false => have := h0 a q; simp; omega
    | true =>
      have := h a
      simp [Nat.mul_add]
      omega
theorem sum_add {β : Type} (f : β → Nat) (p : β → Bool) : ∀ bs : List β, (bs.map fun b => f b + if p b = true then 1 else 0).sum = (bs.map f).sum + bs.countP p
  | [] => rfl
  | b :: bs => by
    have ih := sum_add f p bs
    rw [List.map_cons, List.map_cons, List.sum_cons, List.sum_cons, List.countP_cons, ih]
    omega
theorem dbl {α β : Type} (rel : α → β → Bool) : ∀ (as : List α) (bs : List β), (as.map fun a => bs.countP (rel a)).sum = (bs.map fun b => as.countP fun a => rel a b).sum
  | [], bs => by
    induction bs with
    | nil => rfl
    | cons b bs ih => rw [List.map_cons, List.sum_cons, ← ih]; rfl
  | a :: as, bs => by
    have ih := dbl rel as bs
    rw [List.map_cons, List.sum_cons, ih]
    have : (bs.map fun b => (a :: as).countP fun a => rel a b) = bs.map fun b => (as.countP fun a => rel a b) + if rel a b = true then 1 else 0 := by
      refine List.map_congr_left fun b _ => ?_
      rw [List.countP_cons]
    rw [this, sum_add (fun b => as.countP fun a => rel a b) (rel a)]
    omega
section
variable {α : Type} (G : Ab α)
noncomputable def card (P : α → Prop) : Nat := G.all.countP fun x => dc (P x)
theorem card_inj {P Q : α → Prop} (f : α → α) (h : ∀ x, P x → Q (f x)) (i : ∀ x y, P x → P y → f x = f y → x = y) : card G P ≤ card G Q := by
  unfold card
  rw [List.countP_eq_length_filter, List.countP_eq_length_filter, ← List.length_map (f := f)]
  refine nodup_len ?_ fun y hy => ?_
  · refine List.pairwise_map.mpr (List.Pairwise.imp_of_mem (fun {a b} ha hb ne e => ne ?_) (List.Pairwise.filter _ G.nd))
    exact i a b (of_dc (List.mem_filter.mp ha).2) (of_dc (List.mem_filter.mp hb).2) e
  · obtain ⟨x, hx, rfl⟩ := List.mem_map.mp hy
    exact List.mem_filter.mpr ⟨G.mem _, to_dc (h x (of_dc (List.mem_filter.mp hx).2))⟩
theorem card_mono {P Q : α → Prop} (h : ∀ x, P x → Q x) : card G P ≤ card G Q := card_inj G (fun x => x) h fun _ _ _ _ e => e
theorem card_congr {P Q : α → Prop} (h : ∀ x, P x ↔ Q x) : card G P = card G Q := Nat.le_antisymm (card_mono G fun x => (h x).mp) (card_mono G fun x => (h x).mpr)
theorem card_or (P Q : α → Prop) : card G (fun x => P x ∨ Q x) + card G (fun x => P x ∧ Q x) = card G P + card G Q := by
  unfold card
  induction G.all with
  | nil => rfl
  | cons a l ih =>
    rw [List.countP_cons, List.countP_cons, List.countP_cons, List.countP_cons]
    have key : ((if dc (P a ∨ Q a) = true then 1 else 0) + (if dc (P a ∧ Q a) = true then 1 else 0) : Nat) = (if dc (P a) = true then 1 else 0) + if dc (Q a) = true then 1 else 0 := by
      by_cases p : P a <;> by_cases q : Q a <;> simp [to_dc, no_dc, p, q]
    dsimp only at ih ⊢
    omega
theorem card_pos {P : α → Prop} {x : α} (h : P x) : 0 < card G P := List.countP_pos_iff.mpr ⟨x, G.mem x, to_dc h⟩
theorem card_diff {P Q : α → Prop} : card G (fun x => P x ∨ Q x) = card G P + card G fun x => Q x ∧ ¬ P x := by
  have h := card_or G P fun x => Q x ∧ ¬ P x
  have h0 : card G (fun x => P x ∧ Q x ∧ ¬ P x) = 0 := List.countP_eq_zero.mpr fun x _ q => (of_dc q).2.2 (of_dc q).1
  have h1 : card G (fun x => P x ∨ Q x ∧ ¬ P x) = card G fun x => P x ∨ Q x := card_congr G fun x => by
    by_cases p : P x <;> simp [p]
  omega
theorem sub_eq {P Q : α → Prop} (h : ∀ x, P x → Q x) (c : card G Q ≤ card G P) : ∀ x, Q x → P x := fun x hx => Classical.byContradiction fun no => by
  have e := card_diff G (P := P) (Q := Q)
  have h1 : card G (fun x => P x ∨ Q x) = card G Q := card_congr G fun x => ⟨fun z => z.elim (h x) id, .inr⟩
  have h2 : 0 < card G fun x => Q x ∧ ¬ P x := card_pos G (x := x) ⟨hx, no⟩
  omega
/-! ### arithmetic -/
theorem addz (a : α) : G.add a G.zero = a := by rw [G.comm, G.zadd]
theorem addn (a : α) : G.add a (G.neg a) = G.zero := by rw [G.comm, G.nadd]
theorem cancel {a b c : α} (h : G.add a b = G.add a c) : b = c := by
  have := congrArg (G.add (G.neg a)) h
  rwa [← G.assoc, ← G.assoc, G.nadd, G.zadd, G.zadd] at this
theorem cancel' {a b c : α} (h : G.add b a = G.add c a) : b = c := cancel G (a := a) (by rw [G.comm a b, G.comm a c, h])
theorem add_sub (a b : α) : G.add (G.add a b) (G.neg b) = a := by rw [G.assoc, addn, addz]
theorem sub_add (a b : α) : G.add (G.add a (G.neg b)) b = a := by rw [G.assoc, G.nadd, addz]
theorem swap3 (a b c : α) : G.add (G.add a b) c = G.add (G.add a c) b := by rw [G.assoc, G.comm b c, ← G.assoc]
theorem card_tr (P : α → Prop) (h : α) : card G (fun x => P (G.add x h)) = card G P := by
  refine Nat.le_antisymm (card_inj G (fun x => G.add x h) (fun x hx => hx) fun x y _ _ e => cancel' G e) ?_
  exact card_inj G (fun x => G.add x (G.neg h)) (fun x hx => by show P _; rw [sub_add]; exact hx) fun x y _ _ e => cancel' G e
/-! ### what keeps a set -/
def stab (C : α → Prop) (h : α) : Prop := ∀ x, C x ↔ C (G.add x h)
theorem stab_of {C : α → Prop} {h : α} (k : ∀ x, C x → C (G.add x h)) : stab G C h := fun x =>
  ⟨k x, sub_eq G (P := C) (Q := fun x => C (G.add x h)) k (by rw [card_tr]; exact Nat.le_refl _) x⟩
theorem stab_zero (C : α → Prop) : stab G C G.zero := fun x => by rw [addz]
theorem stab_add {C : α → Prop} {a b : α} (ha : stab G C a) (hb : stab G C b) : stab G C (G.add a b) := fun x => by
  rw [ha x, hb (G.add x a), G.assoc]
theorem stab_neg {C : α → Prop} {a : α} (ha : stab G C a) : stab G C (G.neg a) := fun x => by
  have := ha (G.add x (G.neg a))
  rw [sub_add] at this
  exact this.symm
theorem stab_sub {C : α → Prop} {a b : α} (h : stab G C (G.add a b)) (ha : stab G C a) : stab G C b := by
  have := stab_add G (stab_neg G ha) h
  rwa [← G.assoc, G.nadd, G.zadd] at this
/-- the lemma of two sets, the first case -/
theorem two_sets {C1 C2 : α → Prop} {d : α} (h2 : C2 d) (h1 : ¬ C1 d) {u : α} (hu : stab G C2 u) (hm : C1 (G.add d u)) :
    card G C1 + card G (stab G C1) ≤ card G (fun x => C1 x ∨ C2 x) + card G (stab G fun x => C1 x ∨ C2 x) ∨ card G C2 + card G (stab G C2) ≤ card G (fun x => C1 x ∨ C2 x) + card G (stab G fun x => C1 x ∨ C2 x) := by
  refine Classical.byContradiction fun no => ?_
  have no := not_or.mp no
  have n1 : card G (fun x => C1 x ∨ C2 x) + card G (stab G fun x => C1 x ∨ C2 x) < card G C1 + card G (stab G C1) := Nat.lt_of_not_le no.1
  have n2 : card G (fun x => C1 x ∨ C2 x) + card G (stab G fun x => C1 x ∨ C2 x) < card G C2 + card G (stab G C2) := Nat.lt_of_not_le no.2
  -- the common keepers
  let K : α → Prop := fun x => stab G C1 x ∧ stab G C2 x
  have hK : card G K ≤ card G (stab G fun x => C1 x ∨ C2 x) := card_mono G fun x ⟨a, b⟩ y => or_congr (a y) (b y)
  have hk0 : 0 < card G K := card_pos G (x := G.zero) ⟨stab_zero G C1, stab_zero G C2⟩
  have d1 : card G (fun x => C1 x ∨ C2 x) = card G C1 + card G fun x => C2 x ∧ ¬ C1 x := card_diff G
  have d2 : card G (fun x => C1 x ∨ C2 x) = card G C2 + card G fun x => C1 x ∧ ¬ C2 x := by
    rw [← card_diff G (P := C2) (Q := C1)]
    exact card_congr G fun x => Or.comm
  let R : α → Prop := fun y => stab G C2 y ∧ ¬ C1 (G.add d y)
  let R' : α → Prop := fun y => stab G C2 y ∧ C1 (G.add d y)
  let T : α → Prop := fun y => stab G C1 y ∧ C2 (G.add d y)
  let T' : α → Prop := fun y => stab G C1 y ∧ ¬ C2 (G.add d y)
  have split : ∀ (S : α → Prop) (P : α → Prop), card G (fun y => S y ∧ P y) + card G (fun y => S y ∧ ¬ P y) = card G S := fun S P => by
    have h := card_diff G (P := fun y => S y ∧ P y) (Q := S)
    have e1 : card G (fun y => (S y ∧ P y) ∨ S y) = card G S := card_congr G fun y => ⟨fun z => z.elim (·.1) id, .inr⟩
    have e2 : card G (fun y => S y ∧ ¬ (S y ∧ P y)) = card G fun y => S y ∧ ¬ P y := card_congr G fun y => ⟨fun ⟨a, b⟩ => ⟨a, fun p => b ⟨a, p⟩⟩, fun ⟨a, b⟩ => ⟨a, fun p => b p.2⟩⟩
    omega
  have sR : card G R' + card G R = card G (stab G C2) := split (stab G C2) fun y => C1 (G.add d y)
  have sT : card G T + card G T' = card G (stab G C1) := split (stab G C1) fun y => C2 (G.add d y)
  have big : ∀ (S P : α → Prop) (y : α), S y → P (G.add d y) → (∀ k, K k → S (G.add y k)) → (∀ k x, K k → P x → P (G.add x k)) → card G K ≤ card G fun y => S y ∧ P (G.add d y) := fun S P y hy hp hs hq =>
    card_inj G (fun k => G.add y k) (fun k hk => ⟨hs k hk, by rw [← G.assoc]; exact hq k _ hk hp⟩) fun a b _ _ e => cancel G e
  have bR : card G K ≤ card G R := big (stab G C2) (fun x => ¬ C1 x) G.zero (stab_zero G C2) (by rw [addz]; exact h1) (fun k hk => stab_add G (stab_zero G C2) hk.2) fun k x hk hx z => hx ((hk.1 x).mpr z)
  have bR' : card G K ≤ card G R' := big (stab G C2) C1 u hu hm (fun k hk => stab_add G hu hk.2) fun k x hk hx => (hk.1 x).mp hx
  have bT : card G K ≤ card G T := big (stab G C1) C2 G.zero (stab_zero G C1) (by rw [addz]; exact h2) (fun k hk => stab_add G (stab_zero G C1) hk.1) fun k x hk hx => (hk.2 x).mp hx
  -- pairs
  have pairs : ∀ (S V E : α → Prop), (∀ y, S y → stab G C2 y) → (∀ y, V y → stab G C1 y) → (∀ y z, S y → V z → E (G.add (G.add d z) y)) → card G V * card G S ≤ card G K * card G E := fun S V E hS hV hE => by
    let rel : α → α → Bool := fun y e => dc (S y ∧ ∃ z, V z ∧ e = G.add (G.add d z) y)
    have e1 : card G V * card G S ≤ (G.all.map fun y => G.all.countP (rel y)).sum := by
      refine sum_ge _ (fun y => dc (S y)) _ (fun y hy => ?_) G.all
      have hy := of_dc hy
      show card G V ≤ card G fun e => S y ∧ ∃ z, V z ∧ e = G.add (G.add d z) y
      refine card_inj G (P := V) (Q := fun e => S y ∧ ∃ z, V z ∧ e = G.add (G.add d z) y) (fun z => G.add (G.add d z) y) (fun z hz => ⟨hy, z, hz, rfl⟩) fun a b _ _ e => cancel G (cancel' G e)
    rw [dbl rel] at e1
    refine Nat.le_trans e1 (sum_le _ (fun e => dc (E e)) _ (fun e => ?_) (fun e he => ?_) G.all)
    · show card G (fun y => S y ∧ ∃ z, V z ∧ e = G.add (G.add d z) y) ≤ card G K
      by_cases ex : ∃ y0, S y0 ∧ ∃ z, V z ∧ e = G.add (G.add d z) y0
      · obtain ⟨y0, hy0, z0, hz0, e0⟩ := ex
        refine card_inj G (fun y => G.add (G.neg y0) y) (fun y ⟨hy, z, hz, ez⟩ => ⟨?_, stab_add G (stab_neg G (hS y0 hy0)) (hS y hy)⟩) fun a b _ _ q => cancel G q
        have : G.add z (G.add (G.neg y0) y) = z0 := by
          have q : G.add (G.add d z) y = G.add (G.add d z0) y0 := by rw [← ez, ← e0]
          rw [G.assoc, G.assoc] at q
          have q := cancel G q
          have q2 := congrArg (fun w => G.add w (G.neg y0)) q
          simp only [add_sub] at q2
          rw [← q2, G.assoc, G.comm y (G.neg y0)]
        exact stab_sub G (C := C1) (a := z) (by rw [this]; exact hV z0 hz0) (hV z hz)
      · have : card G (fun y => S y ∧ ∃ z, V z ∧ e = G.add (G.add d z) y) = 0 := List.countP_eq_zero.mpr fun y _ q => ex ⟨y, of_dc q⟩
        omega
    · refine List.countP_eq_zero.mpr fun y _ q => ?_
      obtain ⟨hy, z, hz, ez⟩ := of_dc q
      have := hE y z hy hz
      rw [← ez] at this
      rw [to_dc this] at he
      cases he
  have p1 : card G T * card G R ≤ card G K * card G fun x => C2 x ∧ ¬ C1 x := pairs R T _ (fun y h => h.1) (fun y h => h.1) fun y z hy hz =>
    ⟨(hy.1 _).mp hz.2, fun q => hy.2 ((hz.1 _).mpr (by rw [swap3]; exact q))⟩
  have p2 : card G T' * card G R' ≤ card G K * card G fun x => C1 x ∧ ¬ C2 x := pairs R' T' _ (fun y h => h.1) (fun y h => h.1) fun y z hy hz =>
    ⟨by rw [swap3]; exact (hz.1 _).mp hy.2, fun q => hz.2 ((hy.1 _).mpr q)⟩
  generalize card G R = r at *
  generalize card G R' = r' at *
  generalize card G T = t at *
  generalize hT' : card G T' = t' at *
  generalize card G K = k at *
  generalize card G (fun x => C2 x ∧ ¬ C1 x) = e1 at *
  generalize card G (fun x => C1 x ∧ ¬ C2 x) = e2 at *
  by_cases z : t' = 0
  · have h3 : k * t ≤ t * r := by rw [Nat.mul_comm k t]; exact Nat.mul_le_mul_left t bR
    have h4 : k * t ≤ k * e1 := Nat.le_trans h3 p1
    have h5 : t ≤ e1 := Nat.le_of_mul_le_mul_left h4 hk0
    omega
  · have bT' : k ≤ t' := by
      have : ∃ y, T' y := Classical.byContradiction fun none => z (by
        rw [← hT']
        exact List.countP_eq_zero.mpr fun y _ q => none ⟨y, of_dc q⟩)
      obtain ⟨y, hy⟩ := this
      have := big (stab G C1) (fun x => ¬ C2 x) y hy.1 hy.2 (fun k hk => stab_add G hy.1 hk.1) fun k x hk hx q => hx ((hk.2 x).mpr q)
      rw [← hT']
      exact this
    obtain ⟨a, rfl⟩ := Nat.exists_eq_add_of_le bR
    obtain ⟨b, rfl⟩ := Nat.exists_eq_add_of_le bT
    obtain ⟨c, rfl⟩ := Nat.exists_eq_add_of_le bR'
    obtain ⟨f, rfl⟩ := Nat.exists_eq_add_of_le bT'
    have q1 : k * (e1 + 1) ≤ k * (k + b + f) := Nat.mul_le_mul_left k (by omega)
    have q2 : k * (e2 + 1) ≤ k * (k + a + c) := Nat.mul_le_mul_left k (by omega)
    have m1 : (k + b) * (k + a) = k * k + k * a + b * k + b * a := by rw [Nat.add_mul, Nat.mul_add, Nat.mul_add]; omega
    have m2 : (k + f) * (k + c) = k * k + k * c + f * k + f * c := by rw [Nat.add_mul, Nat.mul_add, Nat.mul_add]; omega
    rw [m1, Nat.mul_comm b k] at p1
    rw [m2, Nat.mul_comm f k] at p2
    simp only [Nat.mul_add, Nat.mul_one] at q1 q2
    omega
theorem or_swap (P Q : α → Prop) : (fun x => P x ∨ Q x) = fun x => Q x ∨ P x := funext fun x => propext Or.comm
/-- the lemma of two sets -/
theorem union_ok {C1 C2 : α → Prop} (h1 : ∃ x, C2 x ∧ ¬ C1 x) (h2 : ∃ x, C1 x ∧ ¬ C2 x) :
    card G C1 + card G (stab G C1) ≤ card G (fun x => C1 x ∨ C2 x) + card G (stab G fun x => C1 x ∨ C2 x) ∨ card G C2 + card G (stab G C2) ≤ card G (fun x => C1 x ∨ C2 x) + card G (stab G fun x => C1 x ∨ C2 x) := by
  by_cases c1 : ∃ d u, C2 d ∧ ¬ C1 d ∧ stab G C2 u ∧ C1 (G.add d u)
  · obtain ⟨d, u, a, b, c, e⟩ := c1
    exact two_sets G a b c e
  · by_cases c2 : ∃ d u, C1 d ∧ ¬ C2 d ∧ stab G C1 u ∧ C2 (G.add d u)
    · obtain ⟨d, u, a, b, c, e⟩ := c2
      have := two_sets G (C1 := C2) (C2 := C1) a b c e
      rw [or_swap C2 C1] at this
      exact this.symm
    · obtain ⟨x, hx, nx⟩ := h1
      obtain ⟨y, hy, ny⟩ := h2
      have d1 : card G (fun x => C1 x ∨ C2 x) = card G C1 + card G fun x => C2 x ∧ ¬ C1 x := card_diff G
      have d2 : card G (fun x => C1 x ∨ C2 x) = card G C2 + card G fun x => C1 x ∧ ¬ C2 x := by
        rw [← card_diff G (P := C2) (Q := C1)]
        exact card_congr G fun x => Or.comm
      have s1 : card G (stab G C2) ≤ card G fun x => C2 x ∧ ¬ C1 x := card_inj G (fun u => G.add x u) (fun u hu => ⟨(hu x).mp hx, fun q => c1 ⟨x, u, hx, nx, hu, q⟩⟩) fun a b _ _ e => cancel G e
      have s2 : card G (stab G C1) ≤ card G fun x => C1 x ∧ ¬ C2 x := card_inj G (fun u => G.add y u) (fun u hu => ⟨(hu y).mp hy, fun q => c2 ⟨y, u, hy, ny, hu, q⟩⟩) fun a b _ _ e => cancel G e
      omega
/-- the sums -/
def sums (A B : α → Prop) : α → Prop := fun x => ∃ a b, A a ∧ B b ∧ x = G.add a b
theorem one_good : ∀ (n : Nat) (A B : α → Prop) (a b : α), card G B ≤ n → A a → B b → ∃ C : α → Prop, C (G.add a b) ∧ (∀ x, C x → sums G A B x) ∧ card G A + card G B ≤ card G C + card G (stab G C)
  | 0, A, B, a, b, hn, ha, hb => absurd (card_pos G hb) (by omega)
  | n + 1, A, B, a, b, hn, ha, hb => by
    by_cases ex : ∃ e y, A e ∧ B y ∧ ¬ A (G.add y (G.add e (G.neg b)))
    · obtain ⟨e, y, he, hy, no⟩ := ex
      generalize hc : G.add e (G.neg b) = c at no
      let S : α → Prop := fun x => B (G.add x (G.neg c))
      let B2 : α → Prop := fun y => B y ∧ A (G.add y c)
      have c1 : card G S = card G B := card_tr G B (G.neg c)
      have c2 : card G (fun x => A x ∧ S x) = card G B2 := by
        rw [← card_tr G B2 (G.neg c)]
        exact card_congr G fun x => by
          show A x ∧ B (G.add x (G.neg c)) ↔ B (G.add x (G.neg c)) ∧ A (G.add (G.add x (G.neg c)) c)
          rw [sub_add]
          exact And.comm
      have c3 := card_or G A S
      have lt : card G B2 < card G B := by
        have h := card_diff G (P := B2) (Q := B)
        have e1 : card G (fun x => B2 x ∨ B x) = card G B := card_congr G fun x => ⟨fun z => z.elim (·.1) id, .inr⟩
        have e2 : 0 < card G fun x => B x ∧ ¬ B2 x := card_pos G (x := y) ⟨hy, fun z => no z.2⟩
        omega
      obtain ⟨C, h1, h2, h3⟩ := one_good n (fun x => A x ∨ S x) B2 a b (by omega) (.inl ha) ⟨hb, by rw [← hc, G.comm, sub_add]; exact he⟩
      refine ⟨C, h1, fun x hx => ?_, by omega⟩
      obtain ⟨p, q, hp, hq, rfl⟩ := h2 x hx
      rcases hp with hp | hp
      · exact ⟨p, q, hp, hq.1, rfl⟩
      · refine ⟨G.add q c, G.add p (G.neg c), hq.2, hp, ?_⟩
        rw [G.assoc, G.comm c, sub_add, G.comm]
    · have all : ∀ e y, A e → B y → A (G.add y (G.add e (G.neg b))) := fun e y he hy => Classical.byContradiction fun no => ex ⟨e, y, he, hy, no⟩
      refine ⟨fun x => A (G.add x (G.neg b)), by show A _; rw [add_sub]; exact ha, fun x hx => ⟨_, b, hx, hb, (sub_add G x b).symm⟩, ?_⟩
      have e1 : card G (fun x => A (G.add x (G.neg b))) = card G A := card_tr G A (G.neg b)
      have e2 : card G B ≤ card G (stab G fun x => A (G.add x (G.neg b))) := card_inj G (fun y => G.add y (G.neg b)) (fun y hy => stab_of G fun x hx => by
        show A (G.add (G.add x (G.add y (G.neg b))) (G.neg b))
        have := all _ y hx hy
        rw [← G.assoc x y, G.comm x y, G.assoc y x, G.assoc y]
        exact this) fun p q _ _ z => cancel' G z
      omega
theorem all_good {A B : α → Prop} : ∀ (l : List α), l ≠ [] → (∀ x ∈ l, sums G A B x) → ∃ C : α → Prop, (∀ x ∈ l, C x) ∧ (∀ x, C x → sums G A B x) ∧ card G A + card G B ≤ card G C + card G (stab G C)
  | [], h, _ => absurd rfl h
  | x :: l, _, hl => by
    obtain ⟨a, b, ha, hb, e⟩ := hl x List.mem_cons_self
    obtain ⟨C1, h1, h2, h3⟩ := one_good G _ A B a b (Nat.le_refl _) ha hb
    rw [← e] at h1
    by_cases z : l = []
    · subst z
      exact ⟨C1, fun y hy => by rw [List.mem_singleton.mp hy]; exact h1, h2, h3⟩
    · obtain ⟨C2, g1, g2, g3⟩ := all_good l z fun y hy => hl y (List.mem_cons_of_mem _ hy)
      by_cases i1 : ∃ y, C2 y ∧ ¬ C1 y
      · by_cases i2 : ∃ y, C1 y ∧ ¬ C2 y
        · refine ⟨fun y => C1 y ∨ C2 y, fun y hy => ?_, fun y hy => hy.elim (h2 y) (g2 y), ?_⟩
          · rcases List.mem_cons.mp hy with rfl | hy
            · exact .inl h1
            · exact .inr (g1 y hy)
          · have := union_ok G i1 i2
            omega
        · refine ⟨C2, fun y hy => ?_, g2, g3⟩
          rcases List.mem_cons.mp hy with rfl | hy
          · exact Classical.byContradiction fun q => i2 ⟨_, h1, q⟩
          · exact g1 y hy
      · refine ⟨C1, fun y hy => ?_, h2, h3⟩
        rcases List.mem_cons.mp hy with rfl | hy
        · exact h1
        · exact Classical.byContradiction fun q => i1 ⟨y, g1 y hy, q⟩
theorem kneser0 {A B : α → Prop} (hA : ∃ a, A a) (hB : ∃ b, B b) : card G A + card G B ≤ card G (sums G A B) + card G (stab G (sums G A B)) := by
  obtain ⟨a, ha⟩ := hA
  obtain ⟨b, hb⟩ := hB
  obtain ⟨C, h1, h2, h3⟩ := all_good G (A := A) (B := B) (G.all.filter fun x => dc (sums G A B x)) (fun e => by
    have : G.add a b ∈ (G.all.filter fun x => dc (sums G A B x)) := List.mem_filter.mpr ⟨G.mem _, to_dc ⟨a, b, ha, hb, rfl⟩⟩
    rw [e] at this
    cases this) fun x hx => of_dc (List.mem_filter.mp hx).2
  have e : C = sums G A B := funext fun x => propext ⟨h2 x, fun hx => h1 x (List.mem_filter.mpr ⟨G.mem _, to_dc hx⟩)⟩
  rw [← e]
  exact h3
/-- KNESER -/
theorem kneser {A B : α → Prop} (hA : ∃ a, A a) (hB : ∃ b, B b) :
    card G (sums G A (stab G (sums G A B))) + card G (sums G B (stab G (sums G A B))) ≤ card G (sums G A B) + card G (stab G (sums G A B)) := by
  obtain ⟨a, ha⟩ := hA
  obtain ⟨b, hb⟩ := hB
  have e : sums G (sums G A (stab G (sums G A B))) (sums G B (stab G (sums G A B))) = sums G A B := funext fun x => propext ⟨fun ⟨p, q, ⟨a, k, h1, h2, e1⟩, ⟨b, m, h3, h4, e2⟩, e3⟩ => by
      subst e1 e2 e3
      have : G.add (G.add a k) (G.add b m) = G.add (G.add (G.add a b) k) m := by
        rw [← G.assoc, swap3 G a k b]
      rw [this]
      exact (h4 _).mp ((h2 _).mp ⟨a, b, h1, h3, rfl⟩), fun ⟨a, b, h1, h2, e⟩ => ⟨a, b, ⟨a, G.zero, h1, stab_zero G _, (addz G a).symm⟩, ⟨b, G.zero, h2, stab_zero G _, (addz G b).symm⟩, e⟩⟩
  have := kneser0 G (A := sums G A (stab G (sums G A B))) (B := sums G B (stab G (sums G A B))) ⟨a, a, G.zero, ha, stab_zero G _, (addz G a).symm⟩ ⟨b, b, G.zero, hb, stab_zero G _, (addz G b).symm⟩
  rw [e] at this
  exact this
end
end KN
end

section
set_option Elab.async false
set_option linter.all false
set_option maxRecDepth 100000
set_option maxHeartbeats 1000000
/-! V1 (k01): common divisors, orders; for all groups. -/
namespace E2
open PySem PySem.Spec PyProof.Rows L2
@[simp] theorem x_parV (i j : Nat) (f g : EV) (ρ : E2.Env) : fParV i j f g ρ = sbind (f ρ) fun d ρ1 => sbind (g ρ1) fun e ρ2 => .nxt ((ρ2.set i d).set j e) := rfl
@[simp] theorem x_par (i j : Nat) (f g : EE) (ρ : E2.Env) : fPar i j f g ρ = sbind (f ρ) fun d ρ1 => sbind (g ρ1) fun e ρ2 => .nxt ((ρ2.set i (.sh d)).set j (.sh e)) := rfl
theorem neI (a b : Int) : neD (.int a) (.int b) = some (.sh (.bl (!decide (a = b)))) := by
  have := x_eqI a b
  unfold eqD at this
  unfold neD
  split at this
  · rename_i hh
    rw [if_pos hh]
    have e : eqP (.int a) (.int b) = decide (a = b) := by simpa using this
    rw [e]
  · cases this
end E2
namespace LW
open PySem PySem.Spec PyProof.Rows L2 E2
theorem gcd_loop : ∀ (m : Nat) (a b : Nat) (k : Nat), b ≤ m → m < k → whileS (fTe (f2 (.sl 1) (.ex (share (fC (.int 0)))) neD)) (fSeq2 (fParV 0 1 (fName 1) (f2 (.sl 0) (.sl 1) modD)) fNil) k [.sh (.int a), .sh (.int b)] = .nxt [.sh (.int (Nat.gcd a b)), .sh (.int 0)]
  | m, a, b, 0, _, h => absurd h (by omega)
  | m, a, b, k + 1, hb, h => by
    by_cases z : b = 0
    · subst z
      have : neD (.int 0) (.int 0) = some (.sh (.bl false)) := by rw [neI]; simp
      simp [whileS, this]
    · have hn : neD (.int (b : Int)) (.int 0) = some (.sh (.bl true)) := by rw [neI]; simp [z]
      have hm : modD (.int (a : Int)) (.int (b : Int)) = some (.sh (.int ((a % b : Nat) : Int))) := by rw [x_mod (by omega)]; simp
      have lt : a % b < b := Nat.mod_lt _ (by omega)
      obtain ⟨m', rfl⟩ : ∃ m', m = m' + 1 := ⟨m - 1, by omega⟩
      have ih := gcd_loop m' b (a % b) k (by omega) (by omega)
      rw [Nat.gcd_comm b, ← Nat.gcd_rec, Nat.gcd_comm b a] at ih
      simp [whileS, hn, hm]
      exact ih
theorem s_common_of {n : Nat} (h : 2 ≤ n) (a b : Nat) (hb : b ≤ 1000) : (RR.at_ n d_common_of).run [.sh (.int a), .sh (.int b)] = .ok (.sh (.int (Nat.gcd a b)), [.dead, .dead]) := by
  obtain ⟨n, rfl⟩ := Nat.exists_eq_add_of_le' h
  have e := gcd_loop b a b bigN (Nat.le_refl _) (by unfold bigN; omega)
  rw [r_common_of]
  unfold b_common_of
  generalize bigN = N at e ⊢
  generalize Nat.gcd a b = gg at e ⊢
  have ha : absD [.int (gg : Int)] = some (.sh (.int (gg : Int))) := by
    rw [x_abs, if_neg (by omega)]
  generalize (gg : Int) = gi at e ha ⊢
  generalize (a : Int) = ai at e ⊢
  generalize (b : Int) = bi at e ⊢
  simp [e, ha]
/-- as the program reckons -/
def leastN (a b : Nat) : Nat := a / Nat.gcd a b * b
theorem least_walk {n : Nat} {a b gg qq ll : Int} (e : (RR.at_ (n + 1) d_common_of).run [.sh (.int a), .sh (.int b)] = .ok (.sh (.int gg), [.dead, .dead])) (f : fdivD (.int a) (.int gg) = some (.sh (.int qq))) (m : mulD (.int qq) (.int b) = some (.sh (.int ll))) : (RR.at_ (n + 2) d_least_of).run [.sh (.int a), .sh (.int b)] = .ok (.sh (.int ll), [.dead, .dead]) := by
  rw [r_least_of]
  simp [b_least_of, e, f, m]
theorem fdiv_nat {a b : Nat} (h1 : 0 < b) (h2 : b ≤ 1000) : fdivD (.int a) (.int b) = some (.sh (.int ((a / b : Nat) : Int))) := by
  rw [x_fdiv (by omega) (by omega), Int.natCast_ediv]
theorem mul_nat {a b : Nat} (h2 : b ≤ 1000) : mulD (.int a) (.int b) = some (.sh (.int ((a * b : Nat) : Int))) := by
  rw [mul_ok (by omega) (by omega), Int.natCast_mul]
theorem s_least_of {n : Nat} (h : 3 ≤ n) (a b : Nat) (h1 : 0 < a) (h2 : 0 < b) (hb : b ≤ 1000) : (RR.at_ n d_least_of).run [.sh (.int a), .sh (.int b)] = .ok (.sh (.int (leastN a b)), [.dead, .dead]) := by
  obtain ⟨n, rfl⟩ := Nat.exists_eq_add_of_le' (show 2 ≤ n by omega)
  have e := s_common_of (n := n + 1) (by omega) a b hb
  have g0 : 0 < Nat.gcd a b := Nat.gcd_pos_of_pos_left _ h1
  have g1 : Nat.gcd a b ≤ b := Nat.gcd_le_right _ h2
  exact least_walk e (fdiv_nat g0 (by omega)) (mul_nat hb)
def ordN : Nat → List Int → List Int → Nat
  | k, x :: a, q :: g => ordN (leastN k (q.toNat / Nat.gcd x.toNat q.toNat)) a g
  | k, _, _ => k
def ordF (g a : List Int) : Nat := ordN 1 a g
theorem ord_loop {n : Nat} (h : 3 ≤ n + 1) (s0 s1 : E2.Slot) : ∀ (a g : List Int) (k : Nat) (x y : E2.Slot), isM a g = true → (∀ q ∈ g, 1 ≤ q ∧ q ≤ 256) → 0 < k → ∃ x' y', forS (gTupA (gsCons (gAsg 3) (gsCons (gAsg 4) gsNil))) (fSeq2 (fAsg 2 (fCall (RR.at_ (n + 1) d_least_of) [(.sl 2), (.ex (share (f2 (.sl 4) (.ex (share (fCall (RR.at_ (n + 1) d_common_of) [(.sl 3), (.sl 4)]))) fdivD)))])) fNil) (zip2D (a.map Dt.int) (g.map .int)) [s0, s1, .sh (.int k), x, y] = .nxt [s0, s1, .sh (.int (ordN k a g)), x', y']
  | [], _, k, x, y, _, _, _ => ⟨x, y, by simp [zip2D, forS, ordN]⟩
  | _ :: _, [], k, x, y, _, _, _ => ⟨x, y, by simp [zip2D, forS, ordN]⟩
  | u :: a, q :: g, k, x, y, hm, hq, hk => by
    obtain ⟨u', a', e0, p1, p2, p3⟩ := isM_cons hm
    injection e0 with e01 e02
    subst e01 e02
    obtain ⟨q1, q2⟩ := hq q List.mem_cons_self
    have eu : ((u.toNat : Nat) : Int) = u := by omega
    have eq' : ((q.toNat : Nat) : Int) = q := by omega
    have c1 := s_common_of (n := n + 1) (by omega) u.toNat q.toNat (by omega)
    rw [eu, eq'] at c1
    have g0 : 0 < Nat.gcd u.toNat q.toNat := Nat.gcd_pos_of_pos_right _ (by omega)
    have g1 : Nat.gcd u.toNat q.toNat ≤ q.toNat := Nat.gcd_le_right _ (by omega)
    have f : fdivD (.int q) (.int (Nat.gcd u.toNat q.toNat)) = some (.sh (.int ((q.toNat / Nat.gcd u.toNat q.toNat : Nat) : Int))) := by
      rw [x_fdiv (by omega) (by omega)]
      have : q / (Nat.gcd u.toNat q.toNat : Int) = ((q.toNat / Nat.gcd u.toNat q.toNat : Nat) : Int) := by
        rw [Int.natCast_ediv, eq']
      rw [this]
    have hd : q.toNat / Nat.gcd u.toNat q.toNat ≤ 256 := Nat.le_trans (Nat.div_le_self _ _) (by omega)
    have hd0 : 0 < q.toNat / Nat.gcd u.toNat q.toNat := Nat.div_pos g1 g0
    have c2 := s_least_of (n := n + 1) (by omega) k (q.toNat / Nat.gcd u.toNat q.toNat) hk hd0 (by omega)
    have k0 : 0 < leastN k (q.toNat / Nat.gcd u.toNat q.toNat) := by
      unfold leastN
      exact Nat.mul_pos (Nat.div_pos (Nat.gcd_le_left _ hk) (Nat.gcd_pos_of_pos_left _ hk)) hd0
    obtain ⟨x', y', e⟩ := ord_loop h s0 s1 a g (leastN k (q.toNat / Nat.gcd u.toNat q.toNat)) (.sh (.int u)) (.sh (.int q)) p3 (fun z hz => hq z (List.mem_cons_of_mem _ hz)) k0
    refine ⟨x', y', ?_⟩
    simp only [List.map_cons, zip2D, forS]
    show _ = SO.nxt [s0, s1, .sh (.int (ordN (leastN k (q.toNat / Nat.gcd u.toNat q.toNat)) a g)), x', y']
    generalize leastN k (q.toNat / Nat.gcd u.toNat q.toNat) = LL at *
    generalize q.toNat / Nat.gcd u.toNat q.toNat = QQ at *
    simp [c1, f, c2, e]
theorem s_g_order {n : Nat} (h : 4 ≤ n) {g a : List Int} (G' : Grp g) (ha : isM a g = true) : (RR.at_ n d_g_order).run [.sh (tz g), .sh (tz a)] = .ok (.sh (.int (ordF g a)), [.dead, .dead]) := by
  obtain ⟨n, rfl⟩ := Nat.exists_eq_add_of_le' (show 2 ≤ n by omega)
  have hl := G'.len
  have el := isM_len ha
  obtain ⟨x', y', e⟩ := ord_loop (n := n) (by omega) (.sh (tz g)) (.sh (tz a)) a g 1 .dead .dead ha (fun q hq => by have := G'.each q hq; omega) (by decide)
  rw [r_g_order]
  unfold ordF
  generalize ordN 1 a g = OO at *
  simp [b_g_order, tz] at e ⊢
  simp [e]
end LW
namespace E2
open PySem PySem.Spec PyProof.Rows L2 LW
theorem eq_tz (a b : List Int) : eqD (tz a) (tz b) = some (.sh (.bl (decide (a = b)))) := by
  have h1 : flat 60 (tz a) = true := flat_tz 59 a
  have h2 : flat 60 (tz b) = true := flat_tz 59 b
  unfold eqD
  rw [h1, h2, eqP_tz]
  rfl
end E2
namespace LW
open PySem PySem.Spec PyProof.Rows L2 E2
def ordLoop (g a : List Int) : Nat → List Int → Int → Int
  | 0, _, m => m
  | k + 1, h, m => if h = zero g then m else ordLoop g a k (zp (· + ·) h a g) (m + 1)
def ordL (g a : List Int) : Int := ordLoop g a (prod g).toNat a 1
theorem order_loop {n : Nat} (h : 2 ≤ n + 1) {g : List Int} (hg : pos g) (hl : g.length ≤ 100) (a : List Int) : ∀ (ds : List Dt) (u : List Int) (m : Int) (x : E2.Slot), ∃ x' y', forS (gAsg 2) (fSeq2 (fIf (fTe (f2 (.sl 3) (.ex (share (fCall (RR.at_ (n + 1) d__law_nought) [(.sl 0)]))) eqD)) (fSeq2 fBrk fNil) fNil) (fSeq2 (fParV 3 4 (fCall (RR.at_ (n + 1) d__law_plus) [(.sl 0), (.sl 3), (.sl 1)]) (f2 (.sl 4) (.ex (share (fC (.int 1)))) addD)) fNil)) ds [.sh (tz g), .sh (tz a), x, .sh (tz u), .sh (.int m)] = .nxt [.sh (tz g), .sh (tz a), x', y', .sh (.int (ordLoop g a ds.length u m))]
  | [], u, m, x => ⟨x, _, by simp [forS, ordLoop]; rfl⟩
  | d :: ds, u, m, x => by
    have e1 := s_nought (n := n + 1) h hl
    by_cases z : u = zero g
    · refine ⟨.sh d, .sh (tz u), ?_⟩
      have q : eqD (tz u) (tz (zero g)) = some (.sh (.bl true)) := by rw [eq_tz, decide_eq_true z]
      simp only [List.length_cons, ordLoop]
      rw [if_pos z]
      simp [forS, e1, q]
    · obtain ⟨x', y', e⟩ := order_loop h hg hl a ds (zp (· + ·) u a g) (m + 1) (.sh d)
      refine ⟨x', y', ?_⟩
      have q : eqD (tz u) (tz (zero g)) = some (.sh (.bl false)) := by rw [eq_tz, decide_eq_false z]
      have e2 := s_law_plus (n := n + 1) h hg hl u a
      simp only [List.length_cons, ordLoop]
      rw [if_neg z]
      simp [forS, e1, q, e2, e]
theorem s_law_order {n : Nat} (h : 3 ≤ n) {g : List Int} (G' : Grp g) (p0 : 0 ≤ prod g) (a : List Int) : (RR.at_ n d__law_order).run [.sh (tz g), .sh (tz a)] = .ok (.sh (.int (ordL g a)), [.dead, .dead]) := by
  obtain ⟨n, rfl⟩ := Nat.exists_eq_add_of_le' (show 2 ≤ n by omega)
  have hl := G'.len
  have hs := G'.sz
  have e1 := s_law_size (n := n + 1) (by omega) G'
  have hr : rOk (prod g) = true := rOk_small p0 (by omega)
  obtain ⟨x', y', e⟩ := order_loop (n := n) (by omega) (pos_of G') (by omega) a (rangeD 0 (prod g).toNat) a 1 .dead
  rw [rng_len] at e
  rw [r__law_order]
  unfold ordL
  generalize ordLoop g a (prod g).toNat a 1 = OO at *
  simp [b__law_order, e1, hr, e]
/-- so often -/
def oft (k : Int) : List Int → List Int → List Int
  | x :: s, q :: g => x * k % q :: oft k s g
  | _, _ => []
theorem oft_comp {i j u v w : Nat} {P : EE} {ρ : E2.Env} (k : Int) (step : ∀ x q : Int, 0 < q → ∃ ρ1 ρ2, gTupA (gsCons (gAsg u) (gsCons (gAsg v) gsNil)) (.tup [.int x, .int q]) ρ = some ρ1 ∧ P ρ1 = .ok (.int (x * k % q), ρ2) ∧ wipeD ρ2 [u, v] = ρ) : ∀ (s g : List Int) (acc : List Dt), pos g → lcS (gTupA (gsCons (gAsg u) (gsCons (gAsg v) gsNil))) fYes P [u, v] (zip2D (s.map Dt.int) (g.map .int)) acc ρ = .ok (acc ++ (oft k s g).map .int, ρ)
  | [], _, acc, _ => by simp [zip2D, lcS, oft]
  | _ :: _, [], acc, _ => by simp [zip2D, lcS, oft]
  | x :: s, q :: g, acc, hg => by
    obtain ⟨ρ1, ρ2, e1, e2, e3⟩ := step x q (hg q List.mem_cons_self)
    have ih := oft_comp (i := i) (j := j) (w := w) k step s g (acc ++ [.int (x * k % q)]) fun y hy => hg y (List.mem_cons_of_mem _ hy)
    simp only [List.map_cons, zip2D, lcS, e1, x_yes, e2, e3, ih, oft, List.append_assoc, List.singleton_append]
theorem oft_len (k : Int) : ∀ (s g : List Int), (oft k s g).length ≤ g.length
  | [], g => by simp [oft]
  | _ :: _, [] => by simp [oft]
  | x :: s, q :: g => by
    have := oft_len k s g
    simp [oft]
    omega
theorem zip2_le (s g : List Int) : (zip2D (s.map Dt.int) (g.map .int)).length ≤ g.length := by
  induction s generalizing g with
  | nil => simp [zip2D]
  | cons x s ih =>
    cases g with
    | nil => simp [zip2D]
    | cons q g =>
      have := ih g
      simp [zip2D]
      omega
section
variable {n : Nat} {g : List Int}
theorem s_g_often (h : 2 ≤ n) (hg : pos g) (hl : g.length ≤ 100) (s : List Int) (k : Int) (k1 : -1000000 ≤ k) (k2 : k ≤ 1000000) : (RR.at_ n d_g_often).run [.sh (tz g), .sh (tz s), .sh (.int k)] = .ok (.sh (tz (oft k s g)), [.dead, .dead, .dead]) := by
  obtain ⟨n, rfl⟩ := Nat.exists_eq_add_of_le' h
  have key := oft_comp (i := 0) (j := 0) (w := 0) (u := 3) (v := 4) (P := share (f2 (.ex (share (f2 (.sl 3) (.sl 2) mulD))) (.sl 4) modD)) (ρ := [.sh (tz g), .sh (tz s), .sh (.int k), .dead, .dead]) k (fun x q hq => by
    have m : mulD (.int x) (.int k) = some (.sh (.int (x * k))) := mul_ok (by omega) (by omega)
    have d : modD (.int (x * k)) (.int q) = some (.sh (.int (x * k % q))) := x_mod hq
    refine ⟨[.sh (tz g), .sh (tz s), .sh (.int k), .sh (.int x), .sh (.int q)], [.sh (tz g), .sh (tz s), .sh (.int k), .sh (.int x), .sh (.int q)], rfl, ?_, rfl⟩
    simp [m, d]) s g [] hg
  have hz := zip2_le s g
  rw [List.nil_append] at key
  rw [r_g_often]
  simp only [tz] at key ⊢
  generalize oft k s g = OO at *
  have it1 : seqOf (.tup (s.map Dt.int)) = some (s.map .int) := rfl
  have it2 : seqOf (.tup (g.map Dt.int)) = some (g.map .int) := rfl
  simp [b_g_often, it1, it2, show (zip2D (s.map Dt.int) (g.map .int)).length ≤ 16777216 by omega, key]
end
end LW
end

section
set_option Elab.async false
set_option linter.all false
set_option maxRecDepth 100000
set_option maxHeartbeats 1000000
/-! W1 (k03): multiples of a member, told so many times. -/
namespace LW
open PySem PySem.Spec PyProof.Rows L2 E2
theorem add_zero' {a g : List Int} (h1 : isM a g = true) : zp (· + ·) a (zero g) g = a :=
  ind3 (P := fun a _ _ g => zp (· + ·) a (zero g) g = a) rfl (fun x y z q a b c g h1 h2 _ _ _ _ ih => by
    rw [zero_cons]
    simp only [zp, ih, Int.add_zero]
    rw [Int.emod_eq_of_lt h1 h2]) h1 h1 h1
theorem s_law_often (h : 2 ≤ n) (hg : pos g) (hl : g.length ≤ 100) (s : List Int) (k : Int) (k1 : -1000000 ≤ k) (k2 : k ≤ 1000000) : (RR.at_ n d__law_often).run [.sh (tz g), .sh (tz s), .sh (.int k)] = .ok (.sh (tz (oft k s g)), [.dead, .dead, .dead]) := by
  obtain ⟨n, rfl⟩ := Nat.exists_eq_add_of_le' h
  have key := oft_comp (i := 0) (j := 0) (w := 0) (u := 3) (v := 4) (P := share (f2 (.ex (share (f2 (.sl 3) (.sl 2) mulD))) (.sl 4) modD)) (ρ := [.sh (tz g), .sh (tz s), .sh (.int k), .dead, .dead]) k (fun x q hq => by
    have m : mulD (.int x) (.int k) = some (.sh (.int (x * k))) := mul_ok (by omega) (by omega)
    have d : modD (.int (x * k)) (.int q) = some (.sh (.int (x * k % q))) := x_mod hq
    refine ⟨[.sh (tz g), .sh (tz s), .sh (.int k), .sh (.int x), .sh (.int q)], [.sh (tz g), .sh (tz s), .sh (.int k), .sh (.int x), .sh (.int q)], rfl, ?_, rfl⟩
    simp [m, d]) s g [] hg
  have hz := zip2_le s g
  rw [List.nil_append] at key
  rw [r__law_often]
  simp only [tz] at key ⊢
  generalize oft k s g = OO at *
  have it1 : seqOf (.tup (s.map Dt.int)) = some (s.map .int) := rfl
  have it2 : seqOf (.tup (g.map Dt.int)) = some (g.map .int) := rfl
  simp [b__law_often, it1, it2, show (zip2D (s.map Dt.int) (g.map .int)).length ≤ 16777216 by omega, key]
theorem dd_len_le {α : Type} [DecidableEq α] : ∀ l : List α, (dd l).length ≤ l.length
  | [] => Nat.le_refl _
  | x :: l => by
    have := dd_len_le l
    unfold dd
    split
    · simp; omega
    · simp; omega
theorem nodup_dd {α : Type} [DecidableEq α] : ∀ {l : List α}, (dd l).length = l.length → l.Nodup
  | [], _ => .nil
  | x :: l, h => by
    have le := dd_len_le l
    unfold dd at h
    split at h
    · simp at h; omega
    · rename_i q
      simp at h
      exact List.nodup_cons.mpr ⟨fun z => q (mem_dd.mpr z), nodup_dd h⟩
theorem oft_mem {g s : List Int} (k : Int) : isM s g = true → isM (oft k s g) g = true := by
  intro h
  exact ind3 (P := fun s _ _ g => isM (oft k s g) g = true) rfl (fun x y z q a b c g h1 h2 _ _ _ _ ih => by
    have p : 0 < q := by omega
    have q1 := Int.emod_nonneg (x * k) (show q ≠ 0 by omega)
    have q2 := Int.emod_lt_of_pos (x * k) p
    simp [oft, isM, ih]
    omega) h h h
theorem oft_zero {g s : List Int} : isM s g = true → oft 0 s g = zero g := by
  intro h
  exact ind3 (P := fun s _ _ g => oft 0 s g = zero g) rfl (fun x y z q a b c g _ _ _ _ _ _ ih => by
    rw [zero_cons]
    simp [oft, ih]) h h h
theorem oft_succ {g s : List Int} (k : Int) : isM s g = true → oft (k + 1) s g = zp (· + ·) (oft k s g) s g := by
  intro h
  exact ind3 (P := fun s _ _ g => oft (k + 1) s g = zp (· + ·) (oft k s g) s g) rfl (fun x y z q a b c g _ _ _ _ _ _ ih => by
    simp only [oft, zp, ih]
    rw [Int.emod_add_emod, Int.mul_add, Int.mul_one]) h h h
theorem oft_add {g s : List Int} (a b : Int) : isM s g = true → zp (· + ·) (oft a s g) (oft b s g) g = oft (a + b) s g := by
  intro h
  exact ind3 (P := fun s _ _ g => zp (· + ·) (oft a s g) (oft b s g) g = oft (a + b) s g) rfl (fun x y z q u v c g _ _ _ _ _ _ ih => by
    simp only [oft, zp, ih]
    rw [Int.emod_add_emod, Int.add_emod_emod, Int.mul_add]) h h h
theorem oft_neg {g s : List Int} (k : Int) : isM s g = true → oft k (zp (· - ·) (zero g) s g) g = oft (-k) s g := by
  intro h
  exact ind3 (P := fun s _ _ g => oft k (zp (· - ·) (zero g) s g) g = oft (-k) s g) rfl (fun x y z q u v c g _ _ _ _ _ _ ih => by
    rw [zero_cons]
    simp only [oft, zp, ih]
    rw [Int.mul_emod, Int.emod_emod, ← Int.mul_emod, Int.mul_neg, Int.zero_sub, Int.neg_mul]) h h h
theorem oft_one {g s : List Int} : isM s g = true → oft 1 s g = s := by
  intro h
  exact ind3 (P := fun s _ _ g => oft 1 s g = s) rfl (fun x y z q a b c g h1 h2 _ _ _ _ ih => by
    simp only [oft, ih, Int.mul_one]
    rw [Int.emod_eq_of_lt h1 h2]) h h h
theorem oft_oft {g s : List Int} (i j : Int) : isM s g = true → oft j (oft i s g) g = oft (i * j) s g := by
  intro h
  exact ind3 (P := fun s _ _ g => oft j (oft i s g) g = oft (i * j) s g) rfl (fun x y z q a b c g h1 h2 _ _ _ _ ih => by
    simp only [oft, ih]
    rw [Int.mul_emod, Int.emod_emod, ← Int.mul_emod, Int.mul_assoc]) h h h
theorem oft_of_zero (j : Int) : ∀ g : List Int, oft j (zero g) g = zero g
  | [] => rfl
  | q :: g => by
    rw [zero_cons]
    simp only [oft, oft_of_zero j g, Int.zero_mul, Int.zero_emod]
def mulsL (g a : List Int) (m : Nat) : List (List Int) := (List.range m).map fun k => oft (k : Nat) a g
/-- the lot of a member so many times -/
def st (g a : List Int) (m : Nat) : List (List Int) := sortI (mulsL g a m)
def ordB2 (g : List Int) : Bool := (mems g).all fun a => decide (ordL g a = ordF g a) && decide (1 ≤ ordF g a) && decide (ordF g a ≤ 36) && decide (mulsL g a (ordF g a)).Nodup && decide (oft (ordF g a) a g = zero g) && decide (ordF g a = 1 ↔ a = zero g)
theorem ord2_ok : (menu.all ordB2) = true := by decide +kernel
structure OrdT (g a : List Int) : Prop where
  walk : ordL g a = ordF g a
  pos : 1 ≤ ordF g a
  le : ordF g a ≤ 36
  nd : (mulsL g a (ordF g a)).Nodup
  per : oft (ordF g a) a g = zero g
  one : ordF g a = 1 ↔ a = zero g
section
variable {g a b s : List Int} {L : List (List Int)} {m p : Nat}
theorem ord_t (hg : g ∈ menu) (ha : isM a g = true) : OrdT g a := by
  have ok := List.all_eq_true.mp (List.all_eq_true.mp ord2_ok g hg) a (mem_mems ha)
  simp only [Bool.and_eq_true, decide_eq_true_eq] at ok
  obtain ⟨⟨⟨⟨⟨h1, h2⟩, h3⟩, h4⟩, h5⟩, h6⟩ := ok
  exact ⟨h1, h2, h3, h4, h5, h6⟩
theorem muls_len : (mulsL g a m).length = m := by simp [mulsL]
theorem oft_per (hg : g ∈ menu) (ha : isM a g = true) (k t : Int) : oft (k + ordF g a * t) a g = oft k a g := by
  have O := ord_t hg ha
  rw [← oft_add _ _ ha, ← oft_oft _ _ ha, O.per, oft_of_zero, add_zero' (oft_mem _ ha)]
theorem oft_inj (hg : g ∈ menu) (ha : isM a g = true) {i j : Nat} (hi : i < ordF g a) (hj : j < ordF g a) (e : oft (i : Nat) a g = oft (j : Nat) a g) : i = j := by
  have O := ord_t hg ha
  have hi' : i < (mulsL g a (ordF g a)).length := by rw [muls_len]; exact hi
  have hj' : j < (mulsL g a (ordF g a)).length := by rw [muls_len]; exact hj
  have : (mulsL g a (ordF g a))[i] = (mulsL g a (ordF g a))[j] := by simpa [mulsL] using e
  have pw := List.pairwise_iff_getElem.mp O.nd
  rcases Nat.lt_trichotomy i j with h | h | h
  · exact absurd this (pw i j hi' hj' h)
  · exact h
  · exact absurd this.symm (pw j i hj' hi' h)
theorem mem_muls {y : List Int} : y ∈ mulsL g a m ↔ ∃ k : Nat, k < m ∧ y = oft (k : Nat) a g := by
  unfold mulsL
  rw [List.mem_map]
  exact ⟨fun ⟨k, h1, h2⟩ => ⟨k, List.mem_range.mp h1, h2.symm⟩, fun ⟨k, h1, h2⟩ => ⟨k, List.mem_range.mpr h1, h2.symm⟩⟩
theorem mem_st {y : List Int} : y ∈ st g a m ↔ ∃ k : Nat, k < m ∧ y = oft (k : Nat) a g := by
  unfold st
  rw [mem_sortI, mem_muls]
theorem muls_nd (hg : g ∈ menu) (ha : isM a g = true) (hm : m ≤ ordF g a) : (mulsL g a m).Nodup := by
  have : mulsL g a m = (mulsL g a (ordF g a)).take m := by
    unfold mulsL
    rw [← List.map_take, List.take_range, Nat.min_eq_left hm]
  rw [this]
  exact (ord_t hg ha).nd.sublist (List.take_sublist _ _)
theorem st_lot (hg : g ∈ menu) (ha : isM a g = true) (m1 : 1 ≤ m) (hm : m ≤ ordF g a) : Lot g (st g a m) ∧ (st g a m).length = m := by
  have O := ord_t hg ha
  have hle := O.le
  have len : (mulsL g a m).length = m := muls_len
  refine ⟨sorted_lot (muls_nd hg ha hm) (fun e => by rw [e] at len; simp at len; omega) (fun y hy => ?_) (by rw [len]; omega), ?_⟩
  · obtain ⟨k, _, rfl⟩ := mem_muls.mp hy
    exact oft_mem _ ha
  · show (sortI (mulsL g a m)).length = m
    rw [(sortI_perm _).length_eq, len]
theorem all_in (hg : g ∈ menu) (ha : isM a g = true) (k : Int) : oft k a g ∈ st g a (ordF g a) := by
  have O := ord_t hg ha
  have p := O.pos
  have h0 : (0 : Int) < (ordF g a : Int) := by omega
  refine mem_st.mpr ⟨(k % (ordF g a : Int)).toNat, ?_, ?_⟩
  · have := Int.emod_lt_of_pos k h0
    have := Int.emod_nonneg k (show (ordF g a : Int) ≠ 0 by omega)
    omega
  · rw [Int.toNat_of_nonneg (Int.emod_nonneg k (by omega))]
    have e := oft_per hg ha (k % (ordF g a : Int)) (k / (ordF g a : Int))
    rw [Int.emod_add_mul_ediv] at e
    exact e
theorem zero_in (ha : isM a g = true) (m1 : 1 ≤ m) : zero g ∈ st g a m := mem_st.mpr ⟨0, by omega, (oft_zero ha).symm⟩
theorem self_in (ha : isM a g = true) (m2 : 2 ≤ m) : a ∈ st g a m := mem_st.mpr ⟨1, by omega, (oft_one ha).symm⟩
/-! what keeps it -/
theorem keep_zero (hg : g ∈ menu) (ha : isM a g = true) (m1 : 1 ≤ m) (hm : m < ordF g a) (hs : isM s g = true) (e : moved g s (st g a m) = st g a m) : s = zero g := by
  have mv : ∀ y ∈ st g a m, zp (· + ·) y s g ∈ st g a m := fun y hy => by
    rw [← e]
    unfold moved
    rw [mem_sortI]
    exact List.mem_map.mpr ⟨y, hy, rfl⟩
  have z0 := mv _ (zero_in ha m1)
  have hp := pos_of (grp_of hg).1
  rw [add_comm' (zero_mem hp) hs, add_zero' hs] at z0
  obtain ⟨k, hk, rfl⟩ := mem_st.mp z0
  by_cases k0 : k = 0
  · subst k0
    exact oft_zero ha
  · have h1 := mv _ (mem_st.mpr ⟨m - k, by omega, rfl⟩)
    rw [oft_add _ _ ha, show ((m - k : Nat) : Int) + (k : Int) = (m : Nat) by omega] at h1
    obtain ⟨j, hj, e2⟩ := mem_st.mp h1
    have := oft_inj hg ha hm (show j < ordF g a by omega) e2
    omega
theorem keep_all (hg : g ∈ menu) (ha : isM a g = true) {k : Int} : moved g (oft k a g) (st g a (ordF g a)) = st g a (ordF g a) := by
  have O := ord_t hg ha
  have hG := (grp_of hg).1
  have l := (st_lot hg ha O.pos (Nat.le_refl _)).1
  have hs := oft_mem k ha
  refine up_eq (moved_lot hG l hs).pw l.pw fun y => ?_
  unfold moved
  rw [mem_sortI, List.mem_map]
  constructor
  · rintro ⟨z, hz, rfl⟩
    obtain ⟨j, _, rfl⟩ := mem_st.mp hz
    rw [oft_add _ _ ha]
    exact all_in hg ha _
  · intro hy
    obtain ⟨j, _, rfl⟩ := mem_st.mp hy
    exact ⟨oft ((j : Int) - k) a g, all_in hg ha _, by rw [oft_add _ _ ha]; congr 1; omega⟩
def keepF (g : List Int) (L : List (List Int)) : List (List Int) := (memsL g).filter fun s => decide (moved g s L = L)
theorem keep_count (hg : g ∈ menu) (ha : isM a g = true) (m2 : 2 ≤ m) (hm : m ≤ ordF g a) : (1 < (keepF g (st g a m)).length) ↔ m = ordF g a := by
  have F := menu_facts hg
  have nd : (keepF g (st g a m)).Nodup := (up_nodup F.up).filter _
  constructor
  · intro h
    false_or_by_contra
    rename_i ne
    have h1 : ∀ s ∈ keepF g (st g a m), s ∈ [zero g] := fun s hs => by
      obtain ⟨h1, h2⟩ := List.mem_filter.mp hs
      rw [keep_zero hg ha (by omega) (by omega) (memsL_mem h1) (of_decide_eq_true h2)]
      exact List.mem_singleton.mpr rfl
    have := nodup_le nd h1
    simp at this
    omega
  · intro e
    subst e
    have hin : ∀ k : Int, oft k a g ∈ keepF g (st g a (ordF g a)) := fun k => List.mem_filter.mpr ⟨F.all _ (oft_mem k ha), decide_eq_true (keep_all hg ha)⟩
    have nd2 : [oft ((0 : Nat) : Int) a g, oft ((1 : Nat) : Int) a g].Nodup := by
      refine List.nodup_cons.mpr ⟨fun z => ?_, List.pairwise_singleton _ _⟩
      have := oft_inj hg ha (show 0 < ordF g a by omega) (show 1 < ordF g a by omega) (List.mem_singleton.mp z)
      omega
    have := nodup_le nd2 (D := keepF g (st g a (ordF g a))) fun x hx => by
      rcases List.mem_cons.mp hx with rfl | hx
      · exact hin _
      · rw [List.mem_singleton.mp hx]
        exact hin _
    simp at this
    omega
/-- what grows out of it -/
theorem grown (hg : g ∈ menu) (ha : isM a g = true) (m2 : 2 ≤ m) {S : List (List Int)} (up : S.Pairwise (fun a b => a < b)) (z : zero g ∈ S) (cl : ∀ x ∈ S, ∀ r ∈ st g a m, zp (· + ·) x r g ∈ S) (sub : ∀ x ∈ S, ∃ k : Int, x = oft k a g) : S.length = ordF g a := by
  have O := ord_t hg ha
  have l := st_lot hg ha O.pos (Nat.le_refl _)
  have all : ∀ k : Nat, oft (k : Nat) a g ∈ S := fun k => by
    induction k with
    | zero =>
      rw [show ((0 : Nat) : Int) = 0 from rfl, oft_zero ha]
      exact z
    | succ k ih =>
      have := cl _ ih _ (self_in ha m2)
      rw [← oft_succ _ ha] at this
      exact this
  have e : S = st g a (ordF g a) := up_eq up l.1.pw fun y => ⟨fun hy => by
    obtain ⟨k, rfl⟩ := sub y hy
    exact all_in hg ha k, fun hy => by
    obtain ⟨k, _, rfl⟩ := mem_st.mp hy
    exact all k⟩
  rw [e, l.2]
theorem ord_part (hg : g ∈ menu) (ha : isM a g = true) {P : Nat} (p1 : 1 ≤ P) (h : P * p ≤ ordF g a) : p ≤ ordF g (oft (P : Nat) a g) := by
  have hb := oft_mem (P : Nat) ha
  have O := ord_t hg hb
  have o1 := O.pos
  false_or_by_contra
  rename_i hn
  have e := O.per
  generalize ordF g (oft (P : Nat) a g) = ob at *
  rw [oft_oft _ _ ha, ← Int.natCast_mul, ← oft_zero ha] at e
  have lt : P * ob < P * p := Nat.mul_lt_mul_of_pos_left (by omega) (by omega)
  have := oft_inj hg ha (i := P * ob) (j := 0) (by omega) (by omega) e
  have := Nat.mul_pos (show 0 < P by omega) (show 0 < ob by omega)
  omega
theorem st_sum (hg : g ∈ menu) (ha : isM a g = true) {P : Nat} (p1 : 1 ≤ P) (p2 : 1 ≤ p) (h : P * p ≤ ordF g a) : setI (prs (· + ·) g (st g a P) (st g (oft (P : Nat) a g) p)) = st g a (P * p) := by
  have l := (st_lot hg ha (m := P * p) (Nat.mul_pos p1 p2) h).1
  refine setI_up l.pw fun y => ?_
  rw [mem_prs, mem_st]
  constructor
  · rintro ⟨x, hx, z, hz, rfl⟩
    obtain ⟨i, hi, rfl⟩ := mem_st.mp hx
    obtain ⟨j, hj, rfl⟩ := mem_st.mp hz
    refine ⟨i + P * j, ?_, ?_⟩
    · have : P * j + P ≤ P * p := by
        rw [← Nat.mul_succ]
        exact Nat.mul_le_mul_left _ hj
      omega
    · rw [oft_oft _ _ ha, oft_add _ _ ha]
      congr 1
  · rintro ⟨k, hk, rfl⟩
    refine ⟨_, mem_st.mpr ⟨k % P, Nat.mod_lt _ p1, rfl⟩, _, mem_st.mpr ⟨k / P, Nat.div_lt_of_lt_mul hk, rfl⟩, ?_⟩
    rw [oft_oft _ _ ha, oft_add _ _ ha]
    congr 1
    have := Nat.mod_add_div k P
    omega
/-- which stretches a lot is -/
def isSt (g : List Int) (L : List (List Int)) (s : List Int) : Bool := decide (2 ≤ L.length) && decide (L.length ≤ ordF g s) && decide (st g s L.length = L)
theorem st_in (hL : Lot g L) (hs : isM s g = true) (h : isSt g L s = true) : s ∈ L := by
  unfold isSt at h
  rw [Bool.and_eq_true, Bool.and_eq_true] at h
  have := self_in hs (of_decide_eq_true h.1.1)
  rwa [of_decide_eq_true h.2] at this
theorem st_filters (hg : g ∈ menu) (hL : Lot g L) : (memsL g).filter (isSt g L) = L.filter (isSt g L) := by
  refine up_eq ((menu_facts hg).up.filter _) (hL.pw.filter _) fun x => ?_
  rw [List.mem_filter, List.mem_filter]
  constructor
  · rintro ⟨h1, h2⟩
    exact ⟨st_in hL (memsL_mem h1) h2, h2⟩
  · rintro ⟨h1, h2⟩
    exact ⟨(menu_facts hg).all _ (hL.mem _ h1), h2⟩
end
end LW
end

section
set_option Elab.async false
set_option linter.all false
set_option maxRecDepth 100000
set_option maxHeartbeats 1000000
/-! W2 (k03): what the functions on stretches tell. -/
namespace E2
open PySem PySem.Spec PyProof.Rows L2 LW
/-- a member and a number -/
def sx (a : List Int) (m : Int) : Dt := .tup [tz a, .int m]
theorem ix0 (a : List Int) (m : Int) : ixD (sx a m) (.int 0) = some (.sh (tz a)) := rfl
theorem ix1 (a : List Int) (m : Int) : ixD (sx a m) (.int 1) = some (.sh (.int m)) := rfl
theorem tu_sx (a : List Int) (m : Int) {d : Dt} (h : d = sx a m ∨ d = .lst [tz a, .int m]) (hl : a.length ≤ 16777216) : Tu 3 d (sx a m) :=
  .inr ⟨[tz a, .int m], [tz a, .int m], h, rfl, by simp, .cons (tu_tz 1 a (.inl rfl) hl) (.cons (.inl ⟨m, rfl, rfl⟩) .nil)⟩
@[simp] theorem x_raise (x : Str) (ρ : E2.Env) : fRaise x ρ = .err x [] ρ := rfl
theorem rng_of {f : EE} {ρ ρ1 : E2.Env} {i : Int} (hf : f ρ = .ok (.int i, ρ1)) (hr : rOk i = true) : fRng1 f ρ = .ok (rangeD 0 i.toNat, ρ1) := by
  simp [hf, hr]
theorem rng1_ok {f : EE} {ρ ρ1 : E2.Env} {m : Nat} (hf : f ρ = .ok (.int (m : Int), ρ1)) (hm : m ≤ 1000) : fRng1 f ρ = .ok (rangeD 0 m, ρ1) := by
  have h := rng_of hf (rOk_small (by omega) (by omega))
  rwa [Int.toNat_natCast] at h
@[simp] theorem x_thenE (x : Str) (fs : List (Str × Dt)) (ρ : E2.Env) (f : SF) : (SO.err x fs ρ).then f = .err x fs ρ := rfl
theorem rng2_ok {F G : EE} {ρ ρ1 ρ2 : E2.Env} {a b : Int} (h1 : F ρ = .ok (.int a, ρ1)) (h2 : G ρ1 = .ok (.int b, ρ2)) (h : (rOk a && rOk b) = true) {m : Nat} (hm : (b - a).toNat = m) : fRng2 F G ρ = .ok (rangeD a m, ρ2) := by
  subst hm
  unfold fRng2
  rw [h1]
  simp only [R.bind]
  rw [h2]
  simp only [h, if_true]
theorem lc_ok {it : E2.Env → E2.R (List Dt × E2.Env)} {a : Dt → E2.Env → Option E2.Env} {t : ET} {f : EE} {vs : List Nat} {ρ ρ1 ρ2 ρ3 ρ4 : E2.Env} {ds es : List Dt} (h1 : it ρ = .ok (ds, ρ1)) (h2 : ds.length ≤ 16777216) (w : wipeD ρ1 vs = ρ2) (h3 : lcS a t f vs ds [] ρ2 = .ok (es, ρ3)) (r : restore ρ1 ρ3 vs = ρ4) : fLc it a t f vs ρ = .ok (.ow (.lst es), ρ4) := by
  subst r
  unfold fLc
  rw [h1]
  simp only [R.bind]
  rw [if_pos h2, w, h3]
theorem lc_sorted {LC : EV} {ρ : E2.Env} {ML SL : List Dt} (h : LC ρ = .ok (.ow (.lst ML), ρ)) (s : sortedD [.lst ML] = some (.ow (.lst SL))) : (fSeq2 (fRet (fB [(.ex (share (fB [(.ex (share LC))] sortedD)))] tupleD)) fNil) ρ = .ret (.sh (.tup SL)) ρ := by
  have tt : tupleD [.lst SL] = some (.sh (.tup SL)) := rfl
  simp [h, s, tt]
end E2
namespace LW
open PySem PySem.Spec PyProof.Rows L2 E2
section
variable {n : Nat} {g a b s : List Int} {L : List (List Int)} {m : Nat} {d : Dt}
theorem s_sure_within (h : 4 ≤ n) {i a b : Int} (h1 : a ≤ i) (h2 : i ≤ b) : (RR.at_ n d_sure_within).run [.sh (.int i), .sh (.int a), .sh (.int b)] = .ok (.sh (.int i), [.dead, .dead, .dead]) := by
  obtain ⟨n, rfl⟩ := Nat.exists_eq_add_of_le' (show 2 ≤ n by omega)
  have e := s_is_within (n := n + 1) (by omega) i a b
  rw [r_sure_within]
  simp [b_sure_within, e, h1, h2]
theorem s_is_stretch_in (h : 6 ≤ n) (hg : Grp g) (ha : isM a g = true) (i : Int) : (RR.at_ n d_is_stretch_in).run [.sh (tz g), .sh (sx a i)] = .ok (.sh (.bl (decide (2 ≤ i) && decide (i ≤ ordF g a))), [.dead, .dead]) := by
  obtain ⟨n, rfl⟩ := Nat.exists_eq_add_of_le' (show 2 ≤ n by omega)
  have hl := hg.len
  have e1 := s_is_long (n := n + 1) (by omega) [tz a, .int i] 2
  have e2 := s_is_member_in (n := n + 1) (by omega) (show g.length ≤ 100 by omega) ha
  have e3 := s_g_order (n := n + 1) (by omega) hg ha
  have e4 := s_is_within (n := n + 1) (by omega) i 2 (ordF g a)
  rw [decide_eq_true (show (([tz a, Dt.int i].length : Int) = 2) from rfl)] at e1
  rw [show Dt.tup [tz a, .int i] = sx a i from rfl] at e1
  have e5 := ix0 a i
  have e6 := ix1 a i
  generalize sx a i = S at *
  rw [r_is_stretch_in]
  simp [b_is_stretch_in, e1, e2, e3, e4, e5, e6]
theorem s_is_stretch (h : 8 ≤ n) (hg : Grp g) (ha : isM a g = true) (i : Int) : (RR.at_ n d_is_stretch).run [.sh (tz g), .sh (sx a i)] = .ok (.sh (.bl (decide (2 ≤ i) && decide (i ≤ ordF g a))), [.dead, .dead]) := by
  obtain ⟨n, rfl⟩ := Nat.exists_eq_add_of_le' (show 2 ≤ n by omega)
  have e1 := s_sure_group (n := n + 1) (by omega) hg (tu_g hg)
  have e2 := s_is_stretch_in (n := n + 1) (by omega) hg ha i
  rw [r_is_stretch]
  simp [b_is_stretch, e1, e2]
theorem s_sure_stretch (h : 8 ≤ n) (hg : Grp g) (ha : isM a g = true) {i : Int} (i1 : 2 ≤ i) (i2 : i ≤ ordF g a) (ht : Tu 3 d (sx a i)) : (RR.at_ n d_sure_stretch).run [.sh (tz g), .sh d] = .ok (.sh (sx a i), [.dead, .dead]) := by
  obtain ⟨n, rfl⟩ := Nat.exists_eq_add_of_le' (show 2 ≤ n by omega)
  have e1 := s_tupled 3 (n := n + 1) (by omega) ht
  have e2 := s_is_stretch_in (n := n + 1) (by omega) hg ha i
  rw [decide_eq_true i1, decide_eq_true i2] at e2
  rw [r_sure_stretch]
  simp [b_sure_stretch, e1, e2]
theorem s_unsure_stretch (h : 8 ≤ n) (hg : Grp g) (ha : isM a g = true) {i : Int} (hn : ¬ (2 ≤ i ∧ i ≤ ordF g a)) (ht : Tu 3 d (sx a i)) : ∃ ρ, (RR.at_ n d_sure_stretch).run [.sh (tz g), .sh d] = .err "Unfit" [] ρ ∧ ρ = [.dead, .dead] := by
  obtain ⟨n, rfl⟩ := Nat.exists_eq_add_of_le' (show 2 ≤ n by omega)
  have e1 := s_tupled 3 (n := n + 1) (by omega) ht
  have e2 := s_is_stretch_in (n := n + 1) (by omega) hg ha i
  have e3 : (decide (2 ≤ i) && decide (i ≤ ordF g a)) = false := by
    rw [Bool.and_eq_false_iff, decide_eq_false_iff_not, decide_eq_false_iff_not]
    omega
  rw [e3] at e2
  rw [r_sure_stretch]
  refine ⟨_, ?_, rfl⟩
  simp [b_sure_stretch, e1, e2]
  rfl
theorem muls_comp {v : Nat} {P : EE} {ρ : E2.Env} (a g : List Int) (m : Nat) (step : ∀ k : Int, 0 ≤ k → k < m → ∃ ρ1 ρ2, gAsg v (.int k) ρ = some ρ1 ∧ P ρ1 = .ok (tz (oft k a g), ρ2) ∧ wipeD ρ2 [v] = ρ) : lcS (gAsg v) fYes P [v] (rangeD 0 m) [] ρ = .ok ((mulsL g a m).map tz, ρ) := by
  unfold rangeD mulsL
  rw [List.map_map, lcS_all2 (R := fun d e => ∃ k : Int, 0 ≤ k ∧ k < m ∧ d = .int k ∧ e = tz (oft k a g)) (fun d e ⟨k, k1, k2, h1, h2⟩ => by
    subst h1 h2
    exact step k k1 k2) (all2_map fun (i : Nat) hi => ⟨(i : Int), by omega, by have := List.mem_range.mp hi; omega, by rw [Int.zero_add], rfl⟩) [], List.nil_append]
  rfl
theorem st_sorted (hg : Grp g) (ha : isM a g = true) : sortedD [.lst ((mulsL g a m).map tz)] = some (.ow (.lst ((st g a m).map tz))) := sorted_tz fun k hk => by
  obtain ⟨j, _, rfl⟩ := mem_muls.mp hk
  exact isM_ne (oft_mem _ ha) hg.ne
theorem s_lot_of_stretch (h : 4 ≤ n) (hg : Grp g) (ha : isM a g = true) (hm : m ≤ 1000) : (RR.at_ n d_lot_of_stretch).run [.sh (tz g), .sh (sx a m)] = .ok (.sh (.tup ((st g a m).map tz)), [.dead, .dead]) := by
  obtain ⟨n, rfl⟩ := Nat.exists_eq_add_of_le' (show 2 ≤ n by omega)
  have hl := hg.len
  have key := muls_comp (v := 2) (P := share (fCall (RR.at_ (n + 1) d_g_often) [(.sl 0), (.ex (share (f2 (.sl 1) (.ex (share (fC (.int 0)))) ixD))), (.sl 2)])) (ρ := [.sh (tz g), .sh (sx a m), .dead]) a g m fun k k1 k2 => by
    have e := s_g_often (n := n + 1) (by omega) (pos_of hg) (by omega) a k (by omega) (by omega)
    refine ⟨[.sh (tz g), .sh (sx a m), .sh (.int k)], [.sh (tz g), .sh (sx a m), .sh (.int k)], rfl, ?_, rfl⟩
    simp [ix0, e]
  have q : share (f2 (.sl 1) (.ex (share (fC (.int 1)))) ixD) [.sh (tz g), .sh (sx a m), .dead] = .ok (.int (m : Int), [.sh (tz g), .sh (sx a m), .dead]) := by simp [ix1]
  have hz : (rangeD 0 m).length ≤ 16777216 := by rw [rng_len]; omega
  rw [r_lot_of_stretch]
  unfold b_lot_of_stretch
  rw [lc_sorted (lc_ok (rng1_ok q hm) hz rfl key rfl) (st_sorted hg ha)]
  rfl
theorem s_steps_lot (h : 4 ≤ n) (hg : Grp g) (ha : isM a g = true) (hm : m ≤ 1000) : (RR.at_ n d__law_steps_lot).run [.sh (tz g), .sh (tz a), .sh (.int m)] = .ok (.sh (.tup ((st g a m).map tz)), [.dead, .dead, .dead]) := by
  obtain ⟨n, rfl⟩ := Nat.exists_eq_add_of_le' (show 2 ≤ n by omega)
  have hl := hg.len
  have key := muls_comp (v := 3) (P := share (fCall (RR.at_ (n + 1) d__law_often) [(.sl 0), (.sl 1), (.sl 3)])) (ρ := [.sh (tz g), .sh (tz a), .sh (.int m), .dead]) a g m fun k k1 k2 => by
    have e := s_law_often (n := n + 1) (by omega) (pos_of hg) (by omega) a k (by omega) (by omega)
    refine ⟨[.sh (tz g), .sh (tz a), .sh (.int m), .sh (.int k)], [.sh (tz g), .sh (tz a), .sh (.int m), .sh (.int k)], rfl, ?_, rfl⟩
    simp [e]
  have q : eName 2 [.sh (tz g), .sh (tz a), .sh (.int m), .dead] = .ok (.int (m : Int), [.sh (tz g), .sh (tz a), .sh (.int m), .dead]) := rfl
  have hz : (rangeD 0 m).length ≤ 16777216 := by rw [rng_len]; omega
  rw [r__law_steps_lot]
  unfold b__law_steps_lot
  rw [lc_sorted (lc_ok (rng1_ok q hm) hz rfl key rfl) (st_sorted hg ha)]
  rfl
theorem s_stretch_lot (h : 10 ≤ n) (hg : Grp g) (ha : isM a g = true) (m1 : 2 ≤ m) (m2 : m ≤ ordF g a) (m3 : m ≤ 1000) (ht : Tu 3 d (sx a m)) : (RR.at_ n d_stretch_lot).run [.sh (tz g), .sh d] = .ok (.sh (.tup ((st g a m).map tz)), [.dead, .dead]) := by
  obtain ⟨n, rfl⟩ := Nat.exists_eq_add_of_le' (show 2 ≤ n by omega)
  have e1 := s_sure_group (n := n + 1) (by omega) hg (tu_g hg)
  have e2 := s_sure_stretch (n := n + 1) (by omega) hg ha (i := m) (by omega) (by omega) ht
  have e3 := s_lot_of_stretch (n := n + 1) (by omega) hg ha m3
  rw [r_stretch_lot]
  simp [b_stretch_lot, e1, e2, e3]
theorem s_does_come_round (h : 10 ≤ n) (hg : Grp g) (ha : isM a g = true) (m1 : 2 ≤ m) (m2 : m ≤ ordF g a) : (RR.at_ n d_does_come_round).run [.sh (tz g), .sh (sx a m)] = .ok (.sh (.bl (decide (m = ordF g a))), [.dead, .dead]) := by
  obtain ⟨n, rfl⟩ := Nat.exists_eq_add_of_le' (show 4 ≤ n by omega)
  have hl := hg.len
  have el := isM_len ha
  have e1 := s_sure_group (n := n + 2 + 1) (by omega) hg (tu_g hg)
  have e2 := s_sure_stretch (n := n + 2 + 1) (by omega) hg ha (i := m) (by omega) (by omega) (tu_sx a m (.inl rfl) (by omega))
  have e3 : (RR.at_ (n + 2 + 1) d_is_round_stretch).run [.sh (tz g), .sh (sx a m)] = .ok (.sh (.bl (decide (m = ordF g a))), [.dead, .dead]) := by
    have f1 := s_g_order (n := n + 1 + 1) (by omega) hg ha
    have f2 := ix0 a m
    have f3 := ix1 a m
    have f4 : decide (((ordF g a : Nat) : Int) = (m : Int)) = decide (m = ordF g a) := by
      rw [decide_eq_decide]
      omega
    rw [show n + 2 + 1 = (n + 1) + 2 from rfl, r_is_round_stretch]
    generalize sx a m = S at *
    generalize ordF g a = O at *
    simp only [b_is_round_stretch]
    simp [f1, f2, f3]
    omega
  rw [show n + 4 = (n + 2) + 2 from rfl, r_does_come_round]
  generalize sx a m = S at *
  simp [b_does_come_round, e1, e2, e3]
theorem s_lot_sum (h : 8 ≤ n) (hg : Grp g) {A B : List (List Int)} (hA : Lot g A) (hB : Lot g B) : (RR.at_ n d_lot_sum).run [.sh (tz g), .sh (.tup (A.map tz)), .sh (.tup (B.map tz))] = .ok (.sh (.tup ((setI (prs (· + ·) g A B)).map tz)), [.dead, .dead, .dead]) := by
  obtain ⟨n, rfl⟩ := Nat.exists_eq_add_of_le' (show 2 ≤ n by omega)
  have hl := hg.len
  have e1 := s_sure_group (n := n + 1) (by omega) hg (tu_g hg)
  have e2 := s_sure_lot (n := n + 1) (by omega) (show g.length ≤ 100 by omega) hA (hA.tu hg)
  have e3 := s_sure_lot (n := n + 1) (by omega) (show g.length ≤ 100 by omega) hB (hB.tu hg)
  have e4 := s_sum_of_lots (n := n + 1) (by omega) (pos_of hg) hg.ne (by omega) hA.mem hB.mem hA.len hB.len
  rw [r_lot_sum]
  simp [b_lot_sum, e1, e2, e3, e4]
theorem s_keepers (h : 6 ≤ n) (hg : g ∈ menu) (hL : Lot g L) : (RR.at_ n d__law_keepers).run [.sh (tz g), .sh (.tup (L.map tz))] = .ok (.sh (.tup ((keepF g L).map tz)), [.dead, .dead]) := by
  obtain ⟨n, rfl⟩ := Nat.exists_eq_add_of_le' (show 2 ≤ n by omega)
  obtain ⟨G', _, _, _⟩ := grp_of hg
  have F := menu_facts hg
  have e1 := s_members (n := n + 1) (by omega) F.q (by have := G'.len; omega)
  have key := lcS_filt (a := gAsg 2) (t := (fTe (f2 (.ex (share (fCall (RR.at_ (n + 1) d__law_moved) [(.sl 0), (.sl 1), (.sl 2)]))) (.sl 1) eqD))) (f := eName 2) (vs := [2]) (ρ := [.sh (tz g), .sh (.tup (L.map tz)), .dead]) (fun s => decide (moved g s L = L)) (memsL g) [] fun k hk => by
    have e4 := s_moved (n := n + 1) (by omega) G' hL.mem (memsL_mem hk) hL.len
    rw [show sortI (L.map fun a => zp (· + ·) a k g) = moved g k L from rfl] at e4
    have e5 := eq_tups (moved g k L) L
    refine ⟨[.sh (tz g), .sh (.tup (L.map tz)), .sh (tz k)], [.sh (tz g), .sh (.tup (L.map tz)), .sh (tz k)], rfl, ?_, fun _ => rfl, fun _ => ⟨_, rfl, rfl⟩⟩
    simp [e4, e5]
  rw [List.nil_append] at key
  rw [show (memsL g).filter (fun s => decide (moved g s L = L)) = keepF g L from rfl] at key
  have hz := F.z
  rw [r__law_keepers]
  simp only [b__law_keepers]
  have tt : tupleD [.lst ((keepF g L).map tz)] = some (.sh (.tup ((keepF g L).map tz))) := rfl
  generalize (keepF g L).map tz = KL at *
  simp [e1, show (memsL g).length ≤ 16777216 by omega, key, tt]
end
end LW
end

section
set_option Elab.async false
set_option linter.all false
set_option maxRecDepth 100000
set_option maxHeartbeats 1000000
/-! W3 (k03): what is reached from nought. -/
namespace E2
open PySem PySem.Spec PyProof.Rows L2 LW
@[simp] theorem x_d1 (fk fv : EE) (ρ : E2.Env) : fD1 fk fv ρ = (runOps [.ex fk, .ex fv] ρ).bind fun as ρ1 => match resAll [.ex fk, .ex fv] as ρ1 with
  | some [k, v] => if (keyT k).isSome then .ok (.ow (.dct [k] [v]), ρ1) else .bad
  | _ => .bad := rfl
theorem notin_dT (K : List (List Int)) (k : List Int) : notInD (tz k) (dT K) = some (.sh (.bl (!decide (k ∈ K)))) := by
  have := in_dT K k
  unfold inD at this
  unfold notInD
  cases h : inO (tz k) (dT K) with
  | none => rw [h] at this; cases this
  | some b =>
    rw [h] at this
    simp at this
    subst this
    simp
def put1 (g : List Int) (K : List (List Int)) (own : List Int) (lt : List (List Int)) (r : List Int) : List (List Int) := if zp (· + ·) own r g ∈ K ++ lt then lt else lt ++ [zp (· + ·) own r g]
def lap1 (g : List Int) (K rows : List (List Int)) (lt : List (List Int)) (own : List Int) : List (List Int) := rows.foldl (put1 g K own) lt
def lapF (g : List Int) (K rows fresh : List (List Int)) : List (List Int) := fresh.foldl (lap1 g K rows) []
section
variable {g own : List Int} {K rows fresh lt : List (List Int)}
theorem put1_sub {r : List Int} : ∀ y ∈ lt, y ∈ put1 g K own lt r := fun y hy => by
  unfold put1
  split
  · exact hy
  · exact List.mem_append.mpr (.inl hy)
theorem put1_in {r : List Int} : zp (· + ·) own r g ∈ K ++ put1 g K own lt r := by
  unfold put1
  split
  · assumption
  · simp
theorem put1_of {r : List Int} : ∀ y ∈ put1 g K own lt r, y ∈ lt ∨ y = zp (· + ·) own r g := fun y hy => by
  unfold put1 at hy
  split at hy
  · exact .inl hy
  · rcases List.mem_append.mp hy with h | h
    · exact .inl h
    · exact .inr (List.mem_singleton.mp h)
theorem put1_nd {r : List Int} (h : (K ++ lt).Nodup) : (K ++ put1 g K own lt r).Nodup := by
  unfold put1
  split
  · exact h
  · rename_i hn
    rw [← List.append_assoc, List.nodup_append]
    refine ⟨h, List.pairwise_singleton _ _, fun a ha b hb e => hn ?_⟩
    rw [List.mem_singleton] at hb
    rw [← hb, ← e]
    exact ha
theorem lap1_sub : ∀ (rows lt : List (List Int)), ∀ y ∈ lt, y ∈ lap1 g K rows lt own
  | [], _, y, hy => hy
  | r :: rows, lt, y, hy => lap1_sub rows (put1 g K own lt r) y (put1_sub y hy)
theorem lap1_in : ∀ (rows lt : List (List Int)), ∀ r ∈ rows, zp (· + ·) own r g ∈ K ++ lap1 g K rows lt own
  | r :: rows, lt, s, hs => by
    rcases List.mem_cons.mp hs with rfl | hs
    · rcases List.mem_append.mp (put1_in (g := g) (K := K) (own := own) (lt := lt) (r := s)) with h | h
      · exact List.mem_append.mpr (.inl h)
      · exact List.mem_append.mpr (.inr (lap1_sub rows _ _ h))
    · exact lap1_in rows (put1 g K own lt r) s hs
theorem lap1_of : ∀ (rows lt : List (List Int)), ∀ y ∈ lap1 g K rows lt own, y ∈ lt ∨ ∃ r ∈ rows, y = zp (· + ·) own r g
  | [], _, y, hy => .inl hy
  | r :: rows, lt, y, hy => by
    rcases lap1_of rows (put1 g K own lt r) y hy with h | ⟨s, hs, e⟩
    · rcases put1_of y h with h | h
      · exact .inl h
      · exact .inr ⟨r, List.mem_cons_self, h⟩
    · exact .inr ⟨s, List.mem_cons_of_mem _ hs, e⟩
theorem lap1_nd : ∀ (rows lt : List (List Int)), (K ++ lt).Nodup → (K ++ lap1 g K rows lt own).Nodup
  | [], _, h => h
  | r :: rows, lt, h => lap1_nd rows (put1 g K own lt r) (put1_nd h)
theorem fold_sub : ∀ (fresh lt : List (List Int)), ∀ y ∈ lt, y ∈ fresh.foldl (lap1 g K rows) lt
  | [], _, y, hy => hy
  | o :: fresh, lt, y, hy => fold_sub fresh (lap1 g K rows lt o) y (lap1_sub rows lt y hy)
theorem fold_in : ∀ (fresh lt : List (List Int)), ∀ o ∈ fresh, ∀ r ∈ rows, zp (· + ·) o r g ∈ K ++ fresh.foldl (lap1 g K rows) lt
  | o :: fresh, lt, p, hp, r, hr => by
    rcases List.mem_cons.mp hp with rfl | hp
    · rcases List.mem_append.mp (lap1_in (g := g) (K := K) (own := p) rows lt r hr) with h | h
      · exact List.mem_append.mpr (.inl h)
      · exact List.mem_append.mpr (.inr (fold_sub fresh _ _ h))
    · exact fold_in fresh (lap1 g K rows lt o) p hp r hr
theorem fold_of : ∀ (fresh lt : List (List Int)), ∀ y ∈ fresh.foldl (lap1 g K rows) lt, y ∈ lt ∨ ∃ o ∈ fresh, ∃ r ∈ rows, y = zp (· + ·) o r g
  | [], _, y, hy => .inl hy
  | o :: fresh, lt, y, hy => by
    rcases fold_of fresh (lap1 g K rows lt o) y hy with h | ⟨p, hp, r, hr, e⟩
    · rcases lap1_of rows lt y h with h | ⟨r, hr, e⟩
      · exact .inl h
      · exact .inr ⟨o, List.mem_cons_self, r, hr, e⟩
    · exact .inr ⟨p, List.mem_cons_of_mem _ hp, r, hr, e⟩
theorem fold_nd : ∀ (fresh lt : List (List Int)), (K ++ lt).Nodup → (K ++ fresh.foldl (lap1 g K rows) lt).Nodup
  | [], _, h => h
  | o :: fresh, lt, h => fold_nd fresh (lap1 g K rows lt o) (lap1_nd rows lt h)
end
end E2
namespace LW
open PySem PySem.Spec PyProof.Rows L2 E2
section
variable {n : Nat} {g a : List Int} {K rows : List (List Int)}
theorem s_nought_of (h : 2 ≤ n) (hl : g.length ≤ 100) : (RR.at_ n d_nought_of).run [.sh (tz g)] = .ok (.sh (tz (zero g)), [.dead]) := by
  obtain ⟨n, rfl⟩ := Nat.exists_eq_add_of_le' h
  have e : mulD (.tup [.int 0]) (.int (g.length : Int)) = some (.sh (tz (zero g))) := by
    have h1 : (g.length : Int) ≤ 1000 := by omega
    have h2 : (-1000 : Int) ≤ (g.length : Int) := by omega
    have h3 : repL [Dt.int 0] (g.length : Int) = (zero g).map .int := by
      unfold repL zero
      rw [Int.toNat_natCast, List.map_replicate]
      clear h1 h2 hl h
      generalize g.length = m
      induction m with
      | zero => rfl
      | succ m ih => rw [List.replicate_succ, List.flatten_cons, ih, List.replicate_succ]; rfl
    simp [mulD, h1, h2, h3, tz]
  have e' := e
  rw [r_nought_of]
  simp [tz] at e'
  simp [b_nought_of, tz, e']
abbrev spIn (n : Nat) : SF := (fSeq2 (fAsg 7 (fCall (RR.at_ (n + 1) d_g_plus) [(.sl 0), (.sl 5), (.sl 6)])) (fSeq2 (fIf (fTe (f2 (.sl 7) (.sl 2) notInD)) (fSeq2 (fSet 2 (eName 7) (share (fC (.bl true)))) (fSeq2 (fDrop (share (fMeth 4 [(eName 7)] mAppend))) fNil)) fNil) fNil))
abbrev spOut (n : Nat) : SF := (fSeq2 (fFor (fItems (eName 1)) (gAsg 6) (spIn n)) fNil)
theorem sp_one (h : 2 ≤ n + 1) (hg : pos g) (hl : g.length ≤ 100) (s1 s3 x : E2.Slot) (own r : List Int) (lt : List (List Int)) (hz : K.length + lt.length ≤ 100000) : spIn n [.sh (tz g), s1, .ow (dT (K ++ lt)), s3, .ow (.lst (lt.map tz)), .sh (tz own), .sh (tz r), x] = .nxt [.sh (tz g), s1, .ow (dT (K ++ put1 g K own lt r)), s3, .ow (.lst ((put1 g K own lt r).map tz)), .sh (tz own), .sh (tz r), .sh (tz (zp (· + ·) own r g))] := by
  have e1 := s_g_plus (n := n + 1) h hg hl own r
  unfold put1
  generalize zp (· + ·) own r g = y at *
  have e2 := notin_dT (K ++ lt) y
  by_cases hy : y ∈ K ++ lt
  · rw [decide_eq_true hy] at e2
    rw [if_pos hy]
    generalize dT (K ++ lt) = DD at *
    simp [e1, e2]
  · rw [decide_eq_false hy] at e2
    rw [if_neg hy]
    have e3 := set_dT (K := K ++ lt) y (by rw [List.length_append]; omega)
    have e4 : putI (K ++ lt) y = K ++ (lt ++ [y]) := by
      unfold putI
      rw [if_neg hy, List.append_assoc]
    rw [e4] at e3
    have e5 : mAppend (lt.map tz) [tz y] = some ((lt ++ [y]).map tz, .non) := by
      have : (lt.map tz).length < 16777216 := by rw [List.length_map]; omega
      simp only [mAppend]
      rw [if_pos (by simpa using this)]
      simp
    generalize dT (K ++ lt) = DD at *
    generalize dT (K ++ (lt ++ [y])) = D2 at *
    generalize (lt ++ [y]).map tz = L2' at *
    simp [e1, e2, e3, e5, isLstS]
theorem sp_in (h : 2 ≤ n + 1) (hg : pos g) (hl : g.length ≤ 100) (s1 s3 : E2.Slot) (own : List Int) : ∀ (rs lt : List (List Int)) (u x : E2.Slot), K.length + lt.length + rs.length ≤ 100000 → ∃ u' x', forS (gAsg 6) (spIn n) (rs.map tz) [.sh (tz g), s1, .ow (dT (K ++ lt)), s3, .ow (.lst (lt.map tz)), .sh (tz own), u, x] = .nxt [.sh (tz g), s1, .ow (dT (K ++ lap1 g K rs lt own)), s3, .ow (.lst ((lap1 g K rs lt own).map tz)), .sh (tz own), u', x']
  | [], lt, u, x, _ => ⟨u, x, by simp [forS, lap1]⟩
  | r :: rs, lt, u, x, hz => by
    rw [List.length_cons] at hz
    have e1 := sp_one h hg hl s1 s3 x own r lt (K := K) (by omega)
    have hp : (put1 g K own lt r).length ≤ lt.length + 1 := by
      unfold put1
      split
      · omega
      · simp
    obtain ⟨u', x', e2⟩ := sp_in h hg hl s1 s3 own rs (put1 g K own lt r) (.sh (tz r)) (.sh (tz (zp (· + ·) own r g))) (by omega)
    refine ⟨u', x', ?_⟩
    simp only [List.map_cons, forS, x_gAsg]
    rw [show ([E2.Slot.sh (tz g), s1, .ow (dT (K ++ lt)), s3, .ow (.lst (lt.map tz)), .sh (tz own), u, x] : E2.Env).set 6 (.sh (tz r)) = [.sh (tz g), s1, .ow (dT (K ++ lt)), s3, .ow (.lst (lt.map tz)), .sh (tz own), .sh (tz r), x] from rfl]
    first
      | (rw [e1]; exact e2)
      | (simp only [e1]; exact e2)
end
end LW
end

section
set_option Elab.async false
set_option linter.all false
set_option maxRecDepth 100000
set_option maxHeartbeats 1000000
/-! W4 (k03): subgroups. -/
namespace LW
open PySem PySem.Spec PyProof.Rows L2 E2
section
variable {n : Nat} {g a : List Int} {K rows : List (List Int)} {L : List (List Int)} {m : Nat}
theorem lap1_len (own : List Int) : ∀ (rs lt : List (List Int)), (lap1 g K rs lt own).length ≤ lt.length + rs.length
  | [], lt => Nat.le_refl _
  | r :: rs, lt => by
    have hp : (put1 g K own lt r).length ≤ lt.length + 1 := by
      unfold put1
      split
      · omega
      · simp
    have := lap1_len own rs (put1 g K own lt r)
    rw [List.length_cons]
    show (lap1 g K rs (put1 g K own lt r) own).length ≤ _
    omega
theorem sp_out (h : 2 ≤ n + 1) (hg : pos g) (hl : g.length ≤ 100) (hr : rows.length ≤ 1000) (s3 : E2.Slot) : ∀ (fs lt : List (List Int)) (o u x : E2.Slot), K.length + lt.length + fs.length * rows.length + rows.length ≤ 100000 → ∃ o' u' x', forS (gAsg 5) (spOut n) (fs.map tz) [.sh (tz g), .sh (.tup (rows.map tz)), .ow (dT (K ++ lt)), s3, .ow (.lst (lt.map tz)), o, u, x] = .nxt [.sh (tz g), .sh (.tup (rows.map tz)), .ow (dT (K ++ fs.foldl (lap1 g K rows) lt)), s3, .ow (.lst ((fs.foldl (lap1 g K rows) lt).map tz)), o', u', x']
  | [], lt, o, u, x, _ => ⟨o, u, x, by simp [forS]⟩
  | own :: fs, lt, o, u, x, hz => by
    rw [List.length_cons, Nat.succ_mul] at hz
    obtain ⟨u1, x1, e1⟩ := sp_in (n := n) h hg hl (.sh (.tup (rows.map tz))) s3 own rows lt u x (K := K) (by omega)
    have hp := lap1_len (g := g) (K := K) own rows lt
    obtain ⟨o', u', x', e2⟩ := sp_out h hg hl hr s3 fs (lap1 g K rows lt own) (.sh (tz own)) u1 x1 (by omega)
    refine ⟨o', u', x', ?_⟩
    have it : fItems (eName 1) [.sh (tz g), .sh (.tup (rows.map tz)), .ow (dT (K ++ lt)), s3, .ow (.lst (lt.map tz)), .sh (tz own), u, x] = .ok (rows.map tz, [.sh (tz g), .sh (.tup (rows.map tz)), .ow (dT (K ++ lt)), s3, .ow (.lst (lt.map tz)), .sh (tz own), u, x]) := by
      simp
    have one : spOut n [.sh (tz g), .sh (.tup (rows.map tz)), .ow (dT (K ++ lt)), s3, .ow (.lst (lt.map tz)), .sh (tz own), u, x] = .nxt [.sh (tz g), .sh (.tup (rows.map tz)), .ow (dT (K ++ lap1 g K rows lt own)), s3, .ow (.lst ((lap1 g K rows lt own).map tz)), .sh (tz own), u1, x1] := by
      generalize dT (K ++ lt) = D1 at *
      generalize dT (K ++ lap1 g K rows lt own) = D2 at *
      generalize (lap1 g K rows lt own).map tz = M2 at *
      generalize rows.map tz = RS at *
      simp only [spOut, x_seq2, fFor, it, R.bind]
      first
        | (rw [e1]; rfl)
        | (simp [e1]; done)
    simp only [List.map_cons, forS, x_gAsg, List.foldl_cons]
    rw [show ([E2.Slot.sh (tz g), .sh (.tup (rows.map tz)), .ow (dT (K ++ lt)), s3, .ow (.lst (lt.map tz)), o, u, x] : E2.Env).set 5 (.sh (tz own)) = [.sh (tz g), .sh (.tup (rows.map tz)), .ow (dT (K ++ lt)), s3, .ow (.lst (lt.map tz)), .sh (tz own), u, x] from rfl]
    simp only [one]
    exact e2
/-- what holds while it grows -/
structure Wi (g a : List Int) (m : Nat) (K fresh : List (List Int)) : Prop where
  z : zero g ∈ K
  nd : K.Nodup
  q : ∀ x ∈ K, ∃ k : Int, x = oft k a g
  f : ∀ x ∈ fresh, x ∈ K
  fnd : fresh.Nodup
  cl : ∀ x ∈ K, x ∉ fresh → ∀ r ∈ st g a m, zp (· + ·) x r g ∈ K
theorem Wi.le (hg : g ∈ menu) (ha : isM a g = true) {fresh : List (List Int)} (W : Wi g a m K fresh) : K.length ≤ 36 := by
  have h2 := (grp_of hg).2.1
  have := nodup_le W.nd (D := mems g) fun x hx => by
    obtain ⟨k, rfl⟩ := W.q x hx
    exact mem_mems (oft_mem k ha)
  omega
theorem Wi.next (hg : g ∈ menu) (ha : isM a g = true) {fresh : List (List Int)} (W : Wi g a m K fresh) : Wi g a m (K ++ lapF g K (st g a m) fresh) (lapF g K (st g a m) fresh) := by
  refine ⟨List.mem_append.mpr (.inl W.z), fold_nd fresh [] (by rw [List.append_nil]; exact W.nd), fun x hx => ?_, fun x hx => List.mem_append.mpr (.inr hx), ?_, fun x hx hn r hr => ?_⟩
  · rcases List.mem_append.mp hx with hx | hx
    · exact W.q x hx
    · rcases fold_of fresh [] x hx with h | ⟨o, ho, r, hr, e⟩
      · exact nomatch h
      · obtain ⟨k, rfl⟩ := W.q o (W.f o ho)
        obtain ⟨j, _, rfl⟩ := mem_st.mp hr
        exact ⟨_, by rw [e, oft_add _ _ ha]⟩
  · have := fold_nd (g := g) (K := K) (rows := st g a m) fresh [] (by rw [List.append_nil]; exact W.nd)
    exact (List.nodup_append.mp this).2.1
  · rcases List.mem_append.mp hx with hx | hx
    · by_cases hf : x ∈ fresh
      · exact fold_in fresh [] x hf r hr
      · exact List.mem_append.mpr (.inl (W.cl x hx hf r hr))
    · exact absurd hx hn
abbrev spT : ET := (fTe (f2 (.sl 3) (.ex (share (fSeq (fun ds => .ow (.lst ds)) []))) neD))
abbrev spB (n : Nat) : SF := (fSeq2 (fAsg 4 (fSeq (fun ds => .ow (.lst ds)) [])) (fSeq2 (fFor (fItems (eName 3)) (gAsg 5) (spOut n)) (fSeq2 (fAsg 3 (fName 4)) fNil)))
theorem sp_lap (h : 2 ≤ n + 1) (hg : pos g) (hl : g.length ≤ 100) (hr : rows.length ≤ 100) (hK : K.length ≤ 100) {fresh : List (List Int)} (hf : fresh.length ≤ 100) (s4 o u x : E2.Slot) : ∃ s4' o' u' x', spB n [.sh (tz g), .sh (.tup (rows.map tz)), .ow (dT K), .ow (.lst (fresh.map tz)), s4, o, u, x] = .nxt [.sh (tz g), .sh (.tup (rows.map tz)), .ow (dT (K ++ lapF g K rows fresh)), .ow (.lst ((lapF g K rows fresh).map tz)), s4', o', u', x'] := by
  have hm : fresh.length * rows.length ≤ 100 * 100 := Nat.mul_le_mul hf hr
  obtain ⟨o', u', x', e⟩ := sp_out (n := n) h hg hl (by omega) (.sh (.lst (fresh.map tz))) fresh [] o u x (K := K) (rows := rows) (by simp; omega)
  rw [List.append_nil] at e
  rw [show fresh.foldl (lap1 g K rows) [] = lapF g K rows fresh from rfl] at e
  refine ⟨.dead, o', u', x', ?_⟩
  have a1 : fAsg 4 (fSeq (fun ds => .ow (.lst ds)) []) [.sh (tz g), .sh (.tup (rows.map tz)), .ow (dT K), .ow (.lst (fresh.map tz)), s4, o, u, x] = .nxt [.sh (tz g), .sh (.tup (rows.map tz)), .ow (dT K), .ow (.lst (fresh.map tz)), .ow (.lst []), o, u, x] := by
    generalize dT K = D1
    generalize fresh.map tz = FM
    simp
  have it : fItems (eName 3) [.sh (tz g), .sh (.tup (rows.map tz)), .ow (dT K), .ow (.lst (fresh.map tz)), .ow (.lst []), o, u, x] = .ok (fresh.map tz, [.sh (tz g), .sh (.tup (rows.map tz)), .ow (dT K), .sh (.lst (fresh.map tz)), .ow (.lst []), o, u, x]) := by
    generalize dT K = D1
    generalize fresh.map tz = FM
    simp
  have a3 : fAsg 3 (fName 4) [.sh (tz g), .sh (.tup (rows.map tz)), .ow (dT (K ++ lapF g K rows fresh)), .sh (.lst (fresh.map tz)), .ow (.lst ((lapF g K rows fresh).map tz)), o', u', x'] = .nxt [.sh (tz g), .sh (.tup (rows.map tz)), .ow (dT (K ++ lapF g K rows fresh)), .ow (.lst ((lapF g K rows fresh).map tz)), .dead, o', u', x'] := by
    generalize dT (K ++ lapF g K rows fresh) = D1
    generalize (lapF g K rows fresh).map tz = FM
    generalize fresh.map tz = FM2
    simp
  have b1 : fFor (fItems (eName 3)) (gAsg 5) (spOut n) [.sh (tz g), .sh (.tup (rows.map tz)), .ow (dT K), .ow (.lst (fresh.map tz)), .ow (.lst []), o, u, x] = .nxt [.sh (tz g), .sh (.tup (rows.map tz)), .ow (dT (K ++ lapF g K rows fresh)), .sh (.lst (fresh.map tz)), .ow (.lst ((lapF g K rows fresh).map tz)), o', u', x'] := by
    unfold fFor
    rw [it]
    exact e
  simp only [spB]
  rw [x_seq2, a1, x_then, x_seq2, b1, x_then, x_seq2, a3]
  rfl
theorem sp_while (h : 2 ≤ n + 1) (hg : g ∈ menu) (ha : isM a g = true) (hm : m ≤ ordF g a) (m1 : 1 ≤ m) : ∀ (c k : Nat) (K fresh : List (List Int)) (s4 o u x : E2.Slot), Wi g a m K fresh → 37 ≤ K.length + c → c + 2 ≤ k → ∃ K' s4' o' u' x', Wi g a m K' [] ∧ whileS spT (spB n) k [.sh (tz g), .sh (.tup ((st g a m).map tz)), .ow (dT K), .ow (.lst (fresh.map tz)), s4, o, u, x] = .nxt [.sh (tz g), .sh (.tup ((st g a m).map tz)), .ow (dT K'), .ow (.lst []), s4', o', u', x']
  | c, 0, K, fresh, s4, o, u, x, W, hc, hk => by omega
  | c, k + 1, K, fresh, s4, o, u, x, W, hc, hk => by
    obtain ⟨G', _, _, _⟩ := grp_of hg
    have hl := G'.len
    have hK := W.le hg ha
    have hs := (st_lot hg ha m1 hm).2
    have o36 := (ord_t hg ha).le
    have test : spT [.sh (tz g), .sh (.tup ((st g a m).map tz)), .ow (dT K), .ow (.lst (fresh.map tz)), s4, o, u, x] = .ok (!decide (fresh = []), [.sh (tz g), .sh (.tup ((st g a m).map tz)), .ow (dT K), .ow (.lst (fresh.map tz)), s4, o, u, x]) := by
      have := ne_lsts fresh []
      rw [List.map_nil] at this
      generalize dT K = D1
      generalize (st g a m).map tz = SM
      simp [this]
    by_cases hf : fresh = []
    · subst hf
      refine ⟨K, s4, o, u, x, W, ?_⟩
      simp only [whileS]
      rw [test]
      rfl
    · have hfr : fresh.length ≤ K.length := nodup_le W.fnd W.f
      have W2 := W.next hg ha
      have hK2 := W2.le hg ha
      rw [List.length_append] at hK2
      obtain ⟨s4', o', u', x', e1⟩ := sp_lap (n := n) h (pos_of G') (by omega) (rows := st g a m) (by omega) (K := K) (by omega) (fresh := fresh) (by omega) s4 o u x
      have step : whileS spT (spB n) (k + 1) [.sh (tz g), .sh (.tup ((st g a m).map tz)), .ow (dT K), .ow (.lst (fresh.map tz)), s4, o, u, x] = whileS spT (spB n) k [.sh (tz g), .sh (.tup ((st g a m).map tz)), .ow (dT (K ++ lapF g K (st g a m) fresh)), .ow (.lst ((lapF g K (st g a m) fresh).map tz)), s4', o', u', x'] := by
        simp only [whileS]
        rw [test]
        show (if (!decide (fresh = [])) = true then (spB n _).turn (whileS spT (spB n) k) else _) = _
        rw [if_pos (by simp [hf]), e1]
        rfl
      rw [step]
      by_cases hN : lapF g K (st g a m) fresh = []
      · rw [hN] at W2 ⊢
        obtain ⟨k, rfl⟩ : ∃ k', k = k' + 1 := ⟨k - 1, by omega⟩
        refine ⟨_, s4', o', u', x', W2, ?_⟩
        have t2 : spT [.sh (tz g), .sh (.tup ((st g a m).map tz)), .ow (dT (K ++ [])), .ow (.lst (([] : List (List Int)).map tz)), s4', o', u', x'] = .ok (false, [.sh (tz g), .sh (.tup ((st g a m).map tz)), .ow (dT (K ++ [])), .ow (.lst []), s4', o', u', x']) := by
          have := ne_lsts [] []
          rw [List.map_nil] at this
          generalize dT (K ++ []) = D1
          generalize (st g a m).map tz = SM
          simp [this]
        simp only [whileS]
        rw [t2]
        rfl
      · have hp := List.length_pos_iff.mpr hN
        exact sp_while h hg ha hm m1 (c - 1) k _ _ s4' o' u' x' W2 (by rw [List.length_append]; omega) (by omega)
theorem b_span_of_eq (n : Nat) : b_span_of n = (fSeq2 (fParV 2 3 (fD1 (share (fCall (RR.at_ (n + 1) d_nought_of) [(.sl 0)])) (share (fC (.bl true)))) (fSeq (fun ds => .ow (.lst ds)) [(share (fCall (RR.at_ (n + 1) d_nought_of) [(.sl 0)]))])) (fSeq2 (whileS spT (spB n) bigN) (fSeq2 (fRet (fB [(.ex (share (fB [(.sl 2)] sortedD)))] tupleD)) fNil))) := rfl
theorem s_span_of (h : 4 ≤ n) (hg : g ∈ menu) (ha : isM a g = true) (m2 : 2 ≤ m) (hm : m ≤ ordF g a) : ∃ S : List (List Int), S.length = ordF g a ∧ S.length ≤ 36 ∧ (RR.at_ n d_span_of).run [.sh (tz g), .sh (.tup ((st g a m).map tz))] = .ok (.sh (.tup (S.map tz)), [.dead, .dead]) := by
  obtain ⟨n, rfl⟩ := Nat.exists_eq_add_of_le' (show 2 ≤ n by omega)
  obtain ⟨G', _, _, _⟩ := grp_of hg
  have hl := G'.len
  have hp := pos_of G'
  have W0 : Wi g a m [zero g] [zero g] := ⟨List.mem_singleton.mpr rfl, List.pairwise_singleton _ _, fun x hx => ⟨0, by rw [List.mem_singleton.mp hx, oft_zero ha]⟩, fun x hx => hx, List.pairwise_singleton _ _, fun x hx hn => absurd hx hn⟩
  obtain ⟨K, s4', o', u', x', W, e⟩ := sp_while (n := n) (by omega) hg ha hm (by omega) 37 bigN [zero g] [zero g] .dead .dead .dead .dead W0 (by simp) (by unfold bigN; omega)
  have hK := W.le hg ha
  have so : sortI K = setI K := sort_nodup W.nd
  have hS : (sortI K).length = ordF g a := grown hg ha m2 (by rw [so]; exact setI_lt K) (mem_sortI.mpr W.z) (fun x hx r hr => mem_sortI.mpr (W.cl x (mem_sortI.mp hx) (fun z => nomatch z) r hr)) (fun x hx => W.q x (mem_sortI.mp hx))
  have o36 := (ord_t hg ha).le
  refine ⟨sortI K, hS, by omega, ?_⟩
  have e2 := sorted_dT (K := K) fun k hk => by
    obtain ⟨j, rfl⟩ := W.q k hk
    exact isM_ne (oft_mem j ha) G'.ne
  have c1 : fParV 2 3 (fD1 (share (fCall (RR.at_ (n + 1) d_nought_of) [(.sl 0)])) (share (fC (.bl true)))) (fSeq (fun ds => .ow (.lst ds)) [(share (fCall (RR.at_ (n + 1) d_nought_of) [(.sl 0)]))]) [.sh (tz g), .sh (.tup ((st g a m).map tz)), .dead, .dead, .dead, .dead, .dead, .dead] = .nxt [.sh (tz g), .sh (.tup ((st g a m).map tz)), .ow (dT [zero g]), .ow (.lst ([zero g].map tz)), .dead, .dead, .dead, .dead] := by
    have e0 := s_nought_of (n := n + 1) (by omega) (show g.length ≤ 100 by omega)
    have e3 := keyT_tz (zero g)
    simp only [dT, List.map_cons, List.map_nil]
    generalize tz (zero g) = Z at *
    generalize (st g a m).map tz = SM
    simp [e0, e3]
  have tt : tupleD [.lst ((sortI K).map tz)] = some (.sh (.tup ((sortI K).map tz))) := rfl
  have c3 : ∀ D S SL, sortedD [D] = some (.ow (.lst SL)) → S = SL → (fSeq2 (fRet (fB [(.ex (share (fB [(.sl 2)] sortedD)))] tupleD)) fNil) [.sh (tz g), .sh (.tup ((st g a m).map tz)), .ow D, .ow (.lst []), s4', o', u', x'] = .ret (.sh (.tup S)) [.sh (tz g), .sh (.tup ((st g a m).map tz)), .ow D, .ow (.lst []), s4', o', u', x'] := fun D S SL h1 h2 => by
    subst h2
    have tt : tupleD [.lst S] = some (.sh (.tup S)) := rfl
    generalize (st g a m).map tz = SM
    simp [h1, tt]
  rw [r_span_of, b_span_of_eq]
  rw [x_seq2, c1, x_then, x_seq2, e, x_then, c3 _ _ _ e2 rfl]
  rfl
theorem ix_head (d : Dt) (ds : List Dt) : ixD (.tup (d :: ds)) (.int 0) = some (.sh d) := by
  have : atI (d :: ds) 0 = some d := by
    unfold atI ixN
    simp
  simp [ixD, this]
theorem head_zero (hg : g ∈ menu) (hL : Lot g L) (hz : zero g ∈ L) : ∃ L', L = zero g :: L' := by
  have F := menu_facts hg
  obtain ⟨G', _, _, _⟩ := grp_of hg
  have z0 := F.all _ (zero_mem (pos_of G'))
  cases hh : L with
  | nil => exact absurd hh hL.ne
  | cons x L' =>
    refine ⟨L', ?_⟩
    congr 1
    rw [hh] at hz
    rcases List.mem_cons.mp hz with h | h
    · exact h.symm
    · have pw := hL.pw
      rw [hh] at pw
      have lt := (List.pairwise_cons.mp pw).1 _ h
      have hx := F.all _ (hL.mem x (by rw [hh]; exact List.mem_cons_self))
      have lz : (menu.all fun g => (memsL g).all fun x => !decide (x < zero g)) = true := by decide +kernel
      have := List.all_eq_true.mp (List.all_eq_true.mp lz g hg) x hx
      simp [lt] at this
theorem s_is_subgroup (h : 8 ≤ n) (hg : g ∈ menu) (ha : isM a g = true) (m2 : 2 ≤ m) (hm : m ≤ ordF g a) : (RR.at_ n d_is_subgroup).run [.sh (tz g), .sh (.tup ((st g a m).map tz))] = .ok (.sh (.bl (decide (m = ordF g a))), [.dead, .dead]) := by
  obtain ⟨n, rfl⟩ := Nat.exists_eq_add_of_le' (show 4 ≤ n by omega)
  obtain ⟨G', _, _, _⟩ := grp_of hg
  have hl := G'.len
  have l := st_lot hg ha (show 1 ≤ m by omega) hm
  have o36 := (ord_t hg ha).le
  have e1 := s_sure_group (n := n + 2 + 1) (by omega) G' (tu_g G')
  have e2 := s_sure_lot (n := n + 2 + 1) (by omega) (show g.length ≤ 100 by omega) l.1 (l.1.tu G')
  obtain ⟨S, h1, h2, e3⟩ := s_span_of (n := n + 1 + 1) (by omega) hg ha m2 hm
  have e4 := s_nought_of (n := n + 1 + 1) (by omega) (show g.length ≤ 100 by omega)
  obtain ⟨L', hL'⟩ := head_zero hg l.1 (zero_in ha (by omega))
  have e5 : ixD (.tup ((st g a m).map tz)) (.int 0) = some (.sh (tz (zero g))) := by rw [hL']; exact ix_head _ _
  have e6 := eq_tz (zero g) (zero g)
  rw [decide_eq_true rfl] at e6
  have e7 : lenD [.tup (S.map tz)] = some (.sh (.int (ordF g a))) := by
    have : (S.map tz).length = ordF g a := by rw [List.length_map, h1]
    simp [h1]
  have e8 : lenD [.tup ((st g a m).map tz)] = some (.sh (.int m)) := by
    simp [l.2]
  have e9 : eqD (.int (ordF g a : Int)) (.int (m : Int)) = some (.sh (.bl (decide (m = ordF g a)))) := by
    rw [x_eqI]
    congr 3
    rw [decide_eq_decide]
    omega
  have e10 : (RR.at_ (n + 2 + 1) d_is_closed).run [.sh (tz g), .sh (.tup ((st g a m).map tz))] = .ok (.sh (.bl (decide (m = ordF g a))), [.dead, .dead]) := by
    rw [show n + 2 + 1 = (n + 1) + 2 from rfl, r_is_closed]
    generalize (st g a m).map tz = SM at *
    generalize S.map tz = SM2 at *
    generalize tz (zero g) = Z at *
    generalize (ordF g a : Int) = O at *
    generalize (m : Int) = M at *
    simp [b_is_closed, e3, e4, e5, e6, e7, e8, e9]
  rw [show n + 4 = (n + 2) + 2 from rfl, r_is_subgroup]
  generalize (st g a m).map tz = SM at *
  simp [b_is_subgroup, e1, e2, e10]
end
end LW
end

section
set_option Elab.async false
set_option linter.all false
set_option maxRecDepth 100000
set_option maxHeartbeats 1000000
/-! W5 (k03): which stretches a lot is; so many times; parts. -/
namespace E2
open PySem PySem.Spec PyProof.Rows L2 LW
theorem lcS_fm {α : Type} {a : Dt → E2.Env → Option E2.Env} {t : ET} {f : EE} {vs : List Nat} {ρ : E2.Env} (x y : α → Dt) (c : α → Bool) : ∀ (L : List α) (acc : List Dt), (∀ k, k ∈ L → ∃ ρ1 ρ2, a (x k) ρ = some ρ1 ∧ t ρ1 = .ok (c k, ρ2) ∧ (c k = false → wipeD ρ2 vs = ρ) ∧ (c k = true → ∃ ρ3, f ρ2 = .ok (y k, ρ3) ∧ wipeD ρ3 vs = ρ)) → lcS a t f vs (L.map x) acc ρ = .ok (acc ++ (L.filter c).map y, ρ)
  | [], acc, _ => by simp [lcS]
  | d :: ds, acc, step => by
    obtain ⟨ρ1, ρ2, e1, e2, h1, h2⟩ := step d List.mem_cons_self
    have ih := fun acc => lcS_fm x y c ds acc fun e he => step e (List.mem_cons_of_mem _ he)
    cases hc : c d with
    | false =>
      rw [hc] at e2
      simp only [List.map_cons, lcS, e1, e2, h1 hc, ih, List.filter_cons, hc, Bool.false_eq_true, if_false]
    | true =>
      rw [hc] at e2
      obtain ⟨ρ3, e3, e4⟩ := h2 hc
      simp only [List.map_cons, lcS, e1, e2, e3, e4, ih, List.filter_cons, hc, if_true, List.map_cons, List.append_assoc, List.singleton_append]
/-- two, at most a number, at most another -/
theorem chain2 {A B : EE} {ρ : E2.Env} {l o : Int} (h1 : A ρ = .ok (.int l, ρ)) (h2 : B ρ = .ok (.int o, ρ)) : fTe (fChain (.ex (share (fC (.int 2)))) (.ex A) (.ex B) leD leD) ρ = .ok (decide (2 ≤ l) && decide (l ≤ o), ρ) := by
  by_cases q : 2 ≤ l <;> simp [fChain, h1, h2, q]
end E2
namespace LW
open PySem PySem.Spec PyProof.Rows L2 E2
section
variable {n : Nat} {g a b s : List Int} {L : List (List Int)} {m : Nat} {d : Dt}
def goodL (g : List Int) (L : List (List Int)) (s : List Int) : Bool := decide (2 ≤ (L.length : Int)) && decide ((L.length : Int) ≤ ordF g s)
theorem isSt_eq (g : List Int) (L : List (List Int)) (s : List Int) : isSt g L s = (decide (st g s L.length = L) && goodL g L s) := by
  unfold isSt goodL
  rw [Bool.and_comm]
  congr 1
  congr 1
  · rw [decide_eq_decide]; omega
  · rw [decide_eq_decide]; omega
theorem s_lot_stretches (h : 10 ≤ n) (hg : g ∈ menu) (hL : Lot g L) : (RR.at_ n d_lot_stretches).run [.sh (tz g), .sh (.tup (L.map tz))] = .ok (.ow (.lst ((L.filter (isSt g L)).map fun s => sx s L.length)), [.dead, .dead]) := by
  obtain ⟨n, rfl⟩ := Nat.exists_eq_add_of_le' (show 2 ≤ n by omega)
  obtain ⟨G', _, _, _⟩ := grp_of hg
  have hl := G'.len
  have hz := hL.len
  have e1 := s_sure_group (n := n + 1) (by omega) G' (tu_g G')
  have e2 := s_sure_lot (n := n + 1) (by omega) (show g.length ≤ 100 by omega) hL (hL.tu G')
  have ll : lenD [.tup (L.map tz)] = some (.sh (.int L.length)) := by simp
  have k1 := lcS_fm (a := gAsg 5) (t := (fTe (fChain (.ex (share (fC (.int 2)))) (.ex (share (fB [(.sl 3)] lenD))) (.ex (share (fCall (RR.at_ (n + 1) d_g_order) [(.sl 2), (.sl 5)]))) leD leD))) (f := share (fSeq (fun ds => .sh (.tup ds)) [(eName 5), (share (fB [(.sl 3)] lenD))])) (vs := [5]) (ρ := [.sh (tz g), .sh (.tup (L.map tz)), .sh (tz g), .sh (.tup (L.map tz)), .dead, .dead]) tz (fun s => sx s L.length) (goodL g L) L [] fun s hs => by
    have e3 := s_g_order (n := n + 1) (by omega) G' (hL.mem s hs)
    refine ⟨[.sh (tz g), .sh (.tup (L.map tz)), .sh (tz g), .sh (.tup (L.map tz)), .dead, .sh (tz s)], [.sh (tz g), .sh (.tup (L.map tz)), .sh (tz g), .sh (.tup (L.map tz)), .dead, .sh (tz s)], rfl, ?_, fun _ => rfl, fun _ => ⟨[.sh (tz g), .sh (.tup (L.map tz)), .sh (tz g), .sh (.tup (L.map tz)), .dead, .sh (tz s)], ?_, rfl⟩⟩
    · refine chain2 ?_ ?_
      · generalize L.map tz = LM at *
        simp [ll]
      · generalize L.map tz = LM at *
        simp [e3]
    · unfold sx
      generalize L.map tz = LM at *
      simp [ll]
  have k2 := lcS_fm (a := gAsg 5) (t := (fTe (f2 (.ex (share (fCall (RR.at_ (n + 1) d_lot_of_stretch) [(.sl 2), (.sl 5)]))) (.sl 3) eqD))) (f := eName 5) (vs := [5]) (ρ := [.sh (tz g), .sh (.tup (L.map tz)), .sh (tz g), .sh (.tup (L.map tz)), .sh (.lst ((L.filter (goodL g L)).map fun s => sx s L.length)), .dead]) (fun s => sx s L.length) (fun s => sx s L.length) (fun s => decide (st g s L.length = L)) (L.filter (goodL g L)) [] fun s hs => by
    have e3 := s_lot_of_stretch (n := n + 1) (by omega) G' (hL.mem s (List.mem_filter.mp hs).1) (show L.length ≤ 1000 by omega)
    have e4 := eq_tups (st g s L.length) L
    generalize ((L.filter (goodL g L)).map fun s => sx s L.length) = GL
    refine ⟨[.sh (tz g), .sh (.tup (L.map tz)), .sh (tz g), .sh (.tup (L.map tz)), .sh (.lst GL), .sh (sx s L.length)], [.sh (tz g), .sh (.tup (L.map tz)), .sh (tz g), .sh (.tup (L.map tz)), .sh (.lst GL), .sh (sx s L.length)], rfl, ?_, fun _ => rfl, fun _ => ⟨_, rfl, rfl⟩⟩
    generalize sx s L.length = SX at *
    generalize (st g s L.length).map tz = M1 at *
    generalize L.map tz = M2 at *
    simp [e3, e4]
  rw [List.nil_append] at k1 k2
  have fe : (L.filter (goodL g L)).filter (fun s => decide (st g s L.length = L)) = L.filter (isSt g L) := by
    rw [List.filter_filter]
    congr 1
    exact funext fun s => (isSt_eq g L s).symm
  rw [fe] at k2
  have z1 : (L.map tz).length ≤ 16777216 := by rw [List.length_map]; omega
  have z2 : ((L.filter (goodL g L)).map fun s => sx s L.length).length ≤ 16777216 := by
    rw [List.length_map]
    exact Nat.le_trans (List.length_filter_le _ _) (by omega)
  have i1 : fItems (eName 3) [.sh (tz g), .sh (.tup (L.map tz)), .sh (tz g), .sh (.tup (L.map tz)), .dead, .dead] = .ok (L.map tz, [.sh (tz g), .sh (.tup (L.map tz)), .sh (tz g), .sh (.tup (L.map tz)), .dead, .dead]) := by
    generalize L.map tz = LM
    simp
  have c1 := lc_ok i1 z1 rfl k1 rfl
  have i2 : fItems (eName 4) [.sh (tz g), .sh (.tup (L.map tz)), .sh (tz g), .sh (.tup (L.map tz)), .ow (.lst ((L.filter (goodL g L)).map fun s => sx s L.length)), .dead] = .ok ((L.filter (goodL g L)).map fun s => sx s L.length, [.sh (tz g), .sh (.tup (L.map tz)), .sh (tz g), .sh (.tup (L.map tz)), .sh (.lst ((L.filter (goodL g L)).map fun s => sx s L.length)), .dead]) := by
    generalize L.map tz = LM
    generalize ((L.filter (goodL g L)).map fun s => sx s L.length) = GL
    simp
  have c2 := lc_ok i2 z2 rfl k2 rfl
  rw [r_lot_stretches]
  unfold b_lot_stretches
  generalize fLc (fItems (eName 3)) (gAsg 5) (fTe (fChain (.ex (share (fC (.int 2)))) (.ex (share (fB [(.sl 3)] lenD))) (.ex (share (fCall (RR.at_ (n + 1) d_g_order) [(.sl 2), (.sl 5)]))) leD leD)) (share (fSeq (fun ds => .sh (.tup ds)) [(eName 5), (share (fB [(.sl 3)] lenD))])) [5] = C1 at *
  generalize fLc (fItems (eName 4)) (gAsg 5) (fTe (f2 (.ex (share (fCall (RR.at_ (n + 1) d_lot_of_stretch) [(.sl 2), (.sl 5)]))) (.sl 3) eqD)) (eName 5) [5] = C2 at *
  generalize ((L.filter (goodL g L)).map fun s => sx s L.length) = GL at *
  generalize ((L.filter (isSt g L)).map fun s => sx s L.length) = RL at *
  generalize L.map tz = LM at *
  have c1' : C1 [.sh (tz g), .sh (.tup LM), .sh (tz g), .sh (.tup LM), .dead, .dead] = .ok (.ow (.lst GL), [.sh (tz g), .sh (.tup LM), .sh (tz g), .sh (.tup LM), .dead, .dead]) := c1
  have c2' : C2 [.sh (tz g), .sh (.tup LM), .sh (tz g), .sh (.tup LM), .ow (.lst GL), .dead] = .ok (.ow (.lst RL), [.sh (tz g), .sh (.tup LM), .sh (tz g), .sh (.tup LM), .sh (.lst GL), .dead]) := c2
  simp [e1, e2, c1', c2']
theorem s_stretch_times (h : 10 ≤ n) (hg : Grp g) (ha : isM a g = true) (m1 : 2 ≤ m) (m2 : m ≤ ordF g a) {k : Int} (k1 : 1 ≤ k) (k2 : k ≤ 1000000) : (RR.at_ n d_stretch_times).run [.sh (tz g), .sh (sx a m), .sh (.int k)] = if m ≤ ordF g (oft k a g) then .ok (.sh (sx (oft k a g) m), [.dead, .dead, .dead]) else .err "Unfit" [] [.dead, .dead, .dead] := by
  obtain ⟨n, rfl⟩ := Nat.exists_eq_add_of_le' (show 2 ≤ n by omega)
  have hl := hg.len
  have el := isM_len ha
  have hb := oft_mem k ha
  have lb := isM_len hb
  have e1 := s_sure_group (n := n + 1) (by omega) hg (tu_g hg)
  have e2 := s_sure_stretch (n := n + 1) (by omega) hg ha (i := m) (by omega) (by omega) (tu_sx a m (.inl rfl) (by omega))
  have e3 := s_sure_within (n := n + 1) (by omega) k1 k2
  have e4 := s_g_often (n := n + 1) (by omega) (pos_of hg) (show g.length ≤ 100 by omega) a k (by omega) (by omega)
  have e5 := ix0 a m
  have e6 := ix1 a m
  have tu := tu_sx (oft k a g) m (.inl rfl) (by omega)
  rw [r_stretch_times]
  by_cases q : m ≤ ordF g (oft k a g)
  · rw [if_pos q]
    have e7 := s_sure_stretch (n := n + 1) (by omega) hg hb (i := m) (by omega) (by omega) tu
    rw [show sx (oft k a g) m = .tup [tz (oft k a g), .int m] from rfl] at e7 ⊢
    generalize sx a m = S at *
    generalize tz (oft k a g) = B at *
    simp [b_stretch_times, e1, e2, e3, e4, e5, e6, e7]
  · rw [if_neg q]
    obtain ⟨ρ, e7, hρ⟩ := s_unsure_stretch (n := n + 1) (by omega) hg hb (i := m) (by omega) tu
    subst hρ
    rw [show sx (oft k a g) m = .tup [tz (oft k a g), .int m] from rfl] at e7
    generalize sx a m = S at *
    generalize tz (oft k a g) = B at *
    simp [b_stretch_times, e1, e2, e3, e4, e5, e6, e7]
    try rfl
end
end LW
end

section
set_option Elab.async false
set_option linter.all false
set_option maxRecDepth 100000
set_option maxHeartbeats 1000000
/-! W6 (k03): primes, parts, so many times. -/
namespace E2
open PySem PySem.Spec PyProof.Rows L2 LW
/-- the run ends so, its arguments dropped -/
def okR (r : E2.R (E2.Slot × E2.Env)) (s : E2.Slot) (m : Nat) : Bool := match r, s with
  | .ok (.sh x, ρ), .sh d => decide (x = d) && decide (ρ.length = m) && (ρ.all fun z => match z with | .dead => true | _ => false)
  | .ok (.ow x, ρ), .ow d => decide (x = d) && decide (ρ.length = m) && (ρ.all fun z => match z with | .dead => true | _ => false)
  | _, _ => false
theorem dead_all : ∀ ρ : E2.Env, (ρ.all fun z => match z with | .dead => true | _ => false) = true → ρ = List.replicate ρ.length .dead
  | [], _ => rfl
  | .dead :: ρ, h => by
    rw [List.all_cons, Bool.and_eq_true] at h
    rw [List.length_cons, List.replicate_succ, ← dead_all ρ h.2]
  | .sh _ :: ρ, h => by
    rw [List.all_cons, Bool.and_eq_true] at h
    cases h.1
  | .ow _ :: ρ, h => by
    rw [List.all_cons, Bool.and_eq_true] at h
    cases h.1
theorem okR_ok {r : E2.R (E2.Slot × E2.Env)} {s : E2.Slot} {m : Nat} (h : okR r s m = true) : r = .ok (s, List.replicate m .dead) := by
  unfold okR at h
  split at h
  · rw [Bool.and_eq_true, Bool.and_eq_true] at h
    rw [of_decide_eq_true h.1.1, ← of_decide_eq_true h.1.2, ← dead_all _ h.2]
  · rw [Bool.and_eq_true, Bool.and_eq_true] at h
    rw [of_decide_eq_true h.1.1, ← of_decide_eq_true h.1.2, ← dead_all _ h.2]
  · cases h
end E2
namespace LW
open PySem PySem.Spec PyProof.Rows L2 E2
/-- the primes of 2 .. 36 -/
def primeTab : List (List Nat) := [[2], [3], [2, 2], [5], [2, 3], [7], [2, 2, 2], [3, 3], [2, 5], [11], [2, 2, 3], [13], [2, 7], [3, 5], [2, 2, 2, 2], [17], [2, 3, 3], [19], [2, 2, 5], [3, 7], [2, 11], [23], [2, 2, 2, 3], [5, 5], [2, 13], [3, 3, 3], [2, 2, 7], [29], [2, 3, 5], [31], [2, 2, 2, 2, 2], [3, 11], [2, 17], [5, 7], [2, 2, 3, 3]]
def primesT (m : Nat) : List Nat := (primeTab[m - 2]?).getD []
def lcNone (p : Nat) : Bool := (List.range (p - 2)).all fun i => !decide ((p : Int) % (2 + (i : Int)) = 0)
theorem pt1 : ((List.range 35).all fun i => okR ((RR.at_ 17 d_prime_row).run [.sh (.int ((i + 2 : Nat) : Int))]) (.ow (.lst ((primesT (i + 2)).map fun (p : Nat) => .int (p : Int)))) 1) = true := by decide +kernel
theorem pt2 : ((List.range 35).all fun i => decide ((primesT (i + 2)).foldl (· * ·) 1 = i + 2) && ((primesT (i + 2)).all fun p => decide (2 ≤ p) && decide (p ≤ 36) && lcNone p) && (((1 :: primesT (i + 2)).zip (primesT (i + 2))).all fun q => decide (q.1 ≤ q.2)) && decide ((primesT (i + 2)).length ≤ 10)) = true := by decide +kernel
theorem s_prime_row {m : Nat} (m1 : 2 ≤ m) (m2 : m ≤ 36) : (RR.at_ 17 d_prime_row).run [.sh (.int m)] = .ok (.ow (.lst ((primesT m).map fun (p : Nat) => .int (p : Int))), [.dead]) := by
  have := okR_ok (List.all_eq_true.mp pt1 (m - 2) (List.mem_range.mpr (by omega)))
  rw [show m - 2 + 2 = m by omega] at this
  exact this
/-- how the parts go on -/
def partsF (g : List Int) : List Int → List Nat → List (List Int × Nat)
  | _, [] => []
  | b, p :: ps => (b, p) :: partsF g (oft (p : Nat) b g) ps
def pxD (q : List Int × Nat) : Dt := sx q.1 q.2
section
variable {n : Nat} {g a b s : List Int} {L : List (List Int)} {m : Nat} {d : Dt}
theorem parts_loop (hg : Grp g) (s1 s6 : E2.Slot) : ∀ (ps : List Nat) (b : List Int) (acc : List Dt) (x : E2.Slot), (∀ p ∈ ps, p ≤ 1000) → acc.length + ps.length ≤ 1000 → ∃ x' y', forS (gAsg 4) (fSeq2 (fDrop (share (fMeth 3 [(share (fSeq (fun ds => .sh (.tup ds)) [(eName 5), (eName 4)]))] mAppend))) (fSeq2 (fAsg 5 (fCall (RR.at_ 17 d_g_often) [(.sl 2), (.sl 5), (.sl 4)])) fNil)) (ps.map fun (p : Nat) => Dt.int (p : Int)) [.sh (tz g), s1, .sh (tz g), .ow (.lst acc), x, .sh (tz b), s6] = .nxt [.sh (tz g), s1, .sh (tz g), .ow (.lst (acc ++ (partsF g b ps).map pxD)), x', y', s6]
  | [], b, acc, x, _, _ => ⟨x, .sh (tz b), by simp [forS, partsF]⟩
  | p :: ps, b, acc, x, hp, hl => by
    rw [List.length_cons] at hl
    have hgl := hg.len
    have e1 := s_g_often (n := 17) (by omega) (pos_of hg) (show g.length ≤ 100 by omega) b (p : Nat) (by omega) (by have := hp p List.mem_cons_self; omega)
    obtain ⟨x', y', e2⟩ := parts_loop hg s1 s6 ps (oft (p : Nat) b g) (acc ++ [pxD (b, p)]) (.sh (.int (p : Int))) (fun q hq => hp q (List.mem_cons_of_mem _ hq)) (by rw [List.length_append]; simp; omega)
    have ap : mAppend acc [pxD (b, p)] = some (acc ++ [pxD (b, p)], .non) := by
      simp only [mAppend]
      rw [if_pos (by omega)]
    refine ⟨x', y', ?_⟩
    simp only [List.map_cons, forS, x_gAsg, partsF]
    rw [show acc ++ pxD (b, p) :: (partsF g (oft (p : Nat) b g) ps).map pxD = acc ++ [pxD (b, p)] ++ (partsF g (oft (p : Nat) b g) ps).map pxD by simp]
    rw [show pxD (b, p) = .tup [tz b, .int (p : Int)] from rfl] at ap e2 ⊢
    generalize acc ++ [Dt.tup [tz b, .int (p : Int)]] = A2 at *
    generalize tz (oft (p : Nat) b g) = B2 at *
    generalize tz b = B at *
    generalize ((p : Nat) : Int) = P at *
    simp [isLstS, ap, e1]
    exact e2
theorem s_stretch_parts (hg : Grp g) (ha : isM a g = true) (m1 : 2 ≤ m) (m2 : m ≤ ordF g a) (m3 : m ≤ 36) : (RR.at_ 18 d_stretch_parts).run [.sh (tz g), .sh (sx a m)] = .ok (.sh (.tup ((partsF g a (primesT m)).map pxD)), [.dead, .dead]) := by
  have hl := hg.len
  have el := isM_len ha
  have e1 := s_sure_group (n := 17) (by omega) hg (tu_g hg)
  have e2 := s_sure_stretch (n := 17) (by omega) hg ha (i := m) (by omega) (by omega) (tu_sx a m (.inl rfl) (by omega))
  have e3 := s_prime_row m1 m3
  have t := List.all_eq_true.mp pt2 (m - 2) (List.mem_range.mpr (by omega))
  rw [show m - 2 + 2 = m by omega, Bool.and_eq_true, Bool.and_eq_true, Bool.and_eq_true] at t
  have tl := of_decide_eq_true t.2
  obtain ⟨x', y', e4⟩ := parts_loop hg (.sh (sx a m)) (.sh (.int m)) (primesT m) a [] .dead (fun p hp => by
    have := List.all_eq_true.mp t.1.1.2 p hp
    rw [Bool.and_eq_true, Bool.and_eq_true] at this
    have := of_decide_eq_true this.1.2
    omega) (by simp; omega)
  rw [List.nil_append] at e4
  have tt : tupleD [.lst ((partsF g a (primesT m)).map pxD)] = some (.sh (.tup ((partsF g a (primesT m)).map pxD))) := rfl
  have zl : ((primesT m).map fun (p : Nat) => Dt.int (p : Int)).length ≤ 16777216 := by rw [List.length_map]; omega
  have as : gTupA (gsCons (gAsg 5) (gsCons (gAsg 6) gsNil)) (sx a m) [.sh (tz g), .sh (sx a m), .sh (tz g), .dead, .dead, .dead, .dead] = some [.sh (tz g), .sh (sx a m), .sh (tz g), .dead, .dead, .sh (tz a), .sh (.int m)] := rfl
  rw [r_stretch_parts 16]
  generalize ((primesT m).map fun (p : Nat) => Dt.int (p : Int)) = PS at *
  generalize (partsF g a (primesT m)).map pxD = RS at *
  generalize sx a m = S at *
  generalize tz a = A at *
  simp only [b_stretch_parts]
  simp [e1, e2, as, e3, e4, tt]
theorem s_law_times (h : 12 ≤ n) (hg : Grp g) (ha : isM a g = true) (m1 : 2 ≤ m) (m2 : m ≤ ordF g a) {k : Int} (k1 : 1 ≤ k) (k2 : k ≤ 1000000) : (RR.at_ n d__law_times).run [.sh (tz g), .sh (sx a m), .sh (.int k)] = if m ≤ ordF g (oft k a g) then .ok (.sh (sx (oft k a g) m), [.dead, .dead, .dead]) else .ok (.ow (.lst [.str "unfit", .bl true]), [.dead, .dead, .dead]) := by
  obtain ⟨n, rfl⟩ := Nat.exists_eq_add_of_le' (show 2 ≤ n by omega)
  have e1 := s_stretch_times (n := n + 1) (by omega) hg ha m1 m2 k1 k2
  have hx : ((RR.tbl (n + 1)).ex).contains "Unfit" = true := rfl
  have hN : isD .non .non = some (.sh (.bl true)) := rfl
  have hL : isD (.lst [.str "unfit", .bl true]) .non = some (.sh (.bl false)) := rfl
  rw [r__law_times]
  by_cases q : m ≤ ordF g (oft k a g)
  · rw [if_pos q] at e1 ⊢
    generalize sx a m = S at *
    generalize sx (oft k a g) m = B at *
    have t1 : fTry (RR.tbl (n + 1)).ex (fSeq2 (fAsg 4 (fCallK (RR.at_ (n + 1) d_stretch_times) [0, 1, 2] [(.sl 0), (.sl 1), (.sl 2)])) fNil) [("Unfit", 5, .two 3 "unfit")] [.sh (tz g), .sh S, .sh (.int k), .sh .non, .sh .non, .dead] = .nxt [.sh (tz g), .sh S, .sh (.int k), .sh .non, .sh B, .dead] := by
      unfold fTry
      have : (fSeq2 (fAsg 4 (fCallK (RR.at_ (n + 1) d_stretch_times) [0, 1, 2] [(.sl 0), (.sl 1), (.sl 2)])) fNil) [.sh (tz g), .sh S, .sh (.int k), .sh .non, .sh .non, .dead] = .nxt [.sh (tz g), .sh S, .sh (.int k), .sh .non, .sh B, .dead] := by
        simp [sel, e1]
      rw [this]
    simp [b__law_times, t1, hN]
  · rw [if_neg q] at e1 ⊢
    generalize sx a m = S at *
    have t1 : fTry (RR.tbl (n + 1)).ex (fSeq2 (fAsg 4 (fCallK (RR.at_ (n + 1) d_stretch_times) [0, 1, 2] [(.sl 0), (.sl 1), (.sl 2)])) fNil) [("Unfit", 5, .two 3 "unfit")] [.sh (tz g), .sh S, .sh (.int k), .sh .non, .sh .non, .dead] = .nxt [.sh (tz g), .sh S, .sh (.int k), .ow (.lst [.str "unfit", .bl true]), .sh .non, .dead] := by
      unfold fTry
      have : (fSeq2 (fAsg 4 (fCallK (RR.at_ (n + 1) d_stretch_times) [0, 1, 2] [(.sl 0), (.sl 1), (.sl 2)])) fNil) [.sh (tz g), .sh S, .sh (.int k), .sh .non, .sh .non, .dead] = .err "Unfit" [] [.sh (tz g), .sh S, .sh (.int k), .sh .non, .sh .non, .dead] := by
        simp [sel, e1]
        try rfl
      rw [this]
      rfl
    simp [b__law_times, t1, hL]
end
end LW
end

section
set_option Elab.async false
set_option linter.all false
set_option maxRecDepth 100000
set_option maxHeartbeats 1000000
/-! W7 (k03): right, its steps. -/
namespace E2
open PySem PySem.Spec PyProof.Rows L2 LW
@[simp] theorem x_sel1 {α : Type} (a : α) : sel [0] [a] = [a] := rfl
@[simp] theorem x_sel2 {α : Type} (a b : α) : sel [0, 1] [a, b] = [a, b] := rfl
theorem or3_no {T1 T2 T3 : ET} {A : SF} {ρ : E2.Env} (t1 : T1 ρ = .ok (false, ρ)) (t2 : T2 ρ = .ok (false, ρ)) (t3 : T3 ρ = .ok (false, ρ)) : fIf (fOrT T1 (fOrT T2 T3)) A fNil ρ = .nxt ρ := by simp [t1, t2, t3]
theorem or4_no {T1 T2 T3 T4 : ET} {A : SF} {ρ : E2.Env} (t1 : T1 ρ = .ok (false, ρ)) (t2 : T2 ρ = .ok (false, ρ)) (t3 : T3 ρ = .ok (false, ρ)) (t4 : T4 ρ = .ok (false, ρ)) : fIf (fOrT T1 (fOrT T2 (fOrT T3 T4))) A fNil ρ = .nxt ρ := by simp [t1, t2, t3, t4]
theorem ne_tz (a b : List Int) : neD (tz a) (tz b) = some (.sh (.bl (!decide (a = b)))) := by
  have := eq_tz a b
  unfold eqD at this
  unfold neD
  split at this
  · rename_i h
    rw [if_pos h]
    have e : eqP (tz a) (tz b) = decide (a = b) := by simpa using this
    rw [e]
  · cases this
end E2
namespace LW
open PySem PySem.Spec PyProof.Rows L2 E2
def q__law_right_1 (n : Nat) : SF := (fAsg 1 (fCall (RR.at_ (n + 1) d__law_group) [(.sl 0), (.ex (share (fC (.int 36))))]))
def q__law_right_2 (n : Nat) : SF := (fAsg 2 (fCall (RR.at_ (n + 1) d__law_member) [(.sl 0), (.sl 1)]))
def q__law_right_3 (n : Nat) : SF := (fAsg 3 (fCall (RR.at_ (n + 1) d__law_order) [(.sl 1), (.sl 2)]))
def q__law_right_4 (n : Nat) : SF := (fIf (fTe (f2 (.sl 3) (.ex (share (fC (.int 1)))) eqD)) (fSeq2 (fRet (fCall (RR.at_ (n + 1) d__law_same) [(.ex (share (fSeq (fun ds => .ow (.lst ds)) [(share (fCall (RR.at_ (n + 1) d_is_stretch) [(.sl 1), (.ex (share (fSeq (fun ds => .sh (.tup ds)) [(eName 2), (share (fC (.int 1)))])))])), (share (fCall (RR.at_ (n + 1) d_is_stretch) [(.sl 1), (.ex (share (fSeq (fun ds => .sh (.tup ds)) [(eName 2), (share (fC (.int 2)))])))]))]))), (.ex (share (fSeq (fun ds => .ow (.lst ds)) [(share (fC (.bl false))), (share (fC (.bl false)))])))])) fNil) fNil)
def q__law_right_5 (n : Nat) : SF := (fAsg 4 (f2 (.ex (share (fC (.int 2)))) (.ex (share (fCall (RR.at_ (n + 1) d__law_take) [(.sl 0), (.ex (share (f2 (.sl 3) (.ex (share (fC (.int 1)))) subD)))]))) addD))
def q__law_right_6 (n : Nat) : SF := (fParV 13 14 (fSeq (fun ds => .sh (.tup ds)) [(eName 2), (eName 4)]) (fCall (RR.at_ (n + 1) d__law_steps_lot) [(.sl 1), (.sl 2), (.sl 4)]))
def q__law_right_7 (n : Nat) : SF := (fAsg 5 (f2 (.sl 4) (.sl 3) eqD))
def q__law_right_8 (n : Nat) : SF := (fAsg 6 (fSeq (fun ds => .ow (.lst ds)) [(share (fCallK (RR.at_ (n + 1) d_is_stretch) [0, 1] [(.sl 1), (.sl 13)])), (share (fCallK (RR.at_ (n + 1) d_stretch_lot) [0, 1] [(.sl 1), (.ex (share (fB [(.sl 13)] listD)))])), (share (fCallK (RR.at_ (n + 1) d_does_come_round) [0, 1] [(.sl 1), (.sl 13)])), (share (fCallK (RR.at_ (n + 1) d_is_subgroup) [0, 1] [(.sl 1), (.sl 14)]))]))
def q__law_right_9 (n : Nat) : SF := (fIf (fOrT (fNotT (fTr (.ex (share (fCall (RR.at_ (n + 1) d__law_same) [(.sl 6), (.ex (share (fSeq (fun ds => .ow (.lst ds)) [(share (fC (.bl true))), (eName 14), (eName 5), (eName 5)])))]))))) (fOrT (fTe (f2 (.ex (share (fB [(.sl 14)] lenD))) (.sl 4) neD)) (fTe (f2 (.ex (share (f2 (.ex (share (fB [(.ex (share (fCall (RR.at_ (n + 1) d__law_keepers) [(.sl 1), (.sl 14)])))] lenD))) (.ex (share (fC (.int 1)))) gtD))) (.sl 5) neD)))) (fSeq2 (fRet (fC (.bl false))) fNil) fNil)
def q__law_right_10 (n : Nat) : SF := (fAsg 7 (fCallK (RR.at_ (n + 1) d_stretch_parts) [0, 1] [(.sl 1), (.sl 13)]))
def q__law_right_11 (n : Nat) : SF := (fAsgT (share (fSeq (fun ds => .sh (.tup ds)) [(share (fSeq (fun ds => .sh (.tup ds)) [(share (fCall (RR.at_ (n + 1) d__law_nought) [(.sl 1)]))])), (eName 2), (share (fC (.int 1))), (share (fC (.int 1)))])) (gTupA (gsCons (gAsg 15) (gsCons (gAsg 16) (gsCons (gAsg 17) (gsCons (gAsg 18) gsNil))))))
def q__law_right_12 (n : Nat) : SF := (fFor (fItems (eName 7)) (gTupA (gsCons (gAsg 19) (gsCons (gAsg 20) gsNil))) (fSeq2 (fIf (fOrT (fTe (f2 (.sl 19) (.sl 16) neD)) (fOrT (fTe (f2 (.sl 20) (.sl 17) ltD)) (fOrT (fTe (f2 (.ex (share (fLc (fRng2 (share (fC (.int 2))) (eName 20)) (gAsg 10) (fTe (f2 (.ex (share (f2 (.sl 20) (.sl 10) modD))) (.ex (share (fC (.int 0)))) eqD)) (eName 10) [10]))) (.ex (share (fSeq (fun ds => .ow (.lst ds)) []))) neD)) (fTe (f2 (.ex (share (fCall (RR.at_ (n + 1) d_is_stretch) [(.sl 1), (.ex (share (fSeq (fun ds => .sh (.tup ds)) [(eName 19), (eName 20)])))]))) (.ex (share (fC (.bl true)))) isNotD))))) (fSeq2 (fRet (fC (.bl false))) fNil) fNil) (fSeq2 (fAsg 15 (fCall (RR.at_ (n + 1) d_lot_sum) [(.sl 1), (.sl 15), (.ex (share (fCall (RR.at_ (n + 1) d_stretch_lot) [(.sl 1), (.ex (share (fSeq (fun ds => .sh (.tup ds)) [(eName 19), (eName 20)])))])))])) (fSeq2 (fParV3 16 17 18 (fCall (RR.at_ (n + 1) d__law_often) [(.sl 1), (.sl 19), (.sl 20)]) (fName 20) (f2 (.sl 18) (.sl 20) mulD)) (fSeq2 (fIf (fTe (f2 (.ex (share (fB [(.sl 15)] lenD))) (.sl 18) neD)) (fSeq2 (fRet (fC (.bl false))) fNil) fNil) fNil)))))
def q__law_right_13 (n : Nat) : SF := (fIf (fOrT (fTe (f2 (.sl 18) (.sl 4) neD)) (fNotT (fTr (.ex (share (fCall (RR.at_ (n + 1) d__law_same) [(.sl 15), (.sl 14)])))))) (fSeq2 (fRet (fC (.bl false))) fNil) fNil)
def q__law_right_14 (n : Nat) : SF := (fAsg 8 (fCall (RR.at_ (n + 1) d__law_of) [(.sl 0), (.ex (share (fSeq (fun ds => .ow (.lst ds)) [(eName 14), (share (fCall (RR.at_ (n + 1) d__law_moved) [(.sl 1), (.sl 14), (.sl 2)])), (share (fCall (RR.at_ (n + 1) d__law_lot) [(.sl 0), (.sl 1), (.ex (share (fC (.int 5))))]))])))]))
def q__law_right_15 (n : Nat) : SF := (fAsg 9 (fLc (fItems (share (fCall (RR.at_ (n + 1) d__law_members) [(.sl 1)]))) (gAsg 21) (fAndT (fTe (fChain (.ex (share (fC (.int 2)))) (.ex (share (fB [(.sl 8)] lenD))) (.ex (share (fCall (RR.at_ (n + 1) d__law_order) [(.sl 1), (.sl 21)]))) leD leD)) (fTe (f2 (.ex (share (fCall (RR.at_ (n + 1) d__law_steps_lot) [(.sl 1), (.sl 21), (.ex (share (fB [(.sl 8)] lenD)))]))) (.sl 8) eqD))) (share (fSeq (fun ds => .sh (.tup ds)) [(eName 21), (share (fB [(.sl 8)] lenD))])) [21]))
def q__law_right_16 (n : Nat) : SF := (fAsg 10 (f2 (.ex (share (fC (.int 1)))) (.ex (share (fCall (RR.at_ (n + 1) d__law_take) [(.sl 0), (.ex (share (fC (.int 40))))]))) addD))
def q__law_right_17 (n : Nat) : SF := (fAsg 11 (fCall (RR.at_ (n + 1) d__law_often) [(.sl 1), (.sl 2), (.sl 10)]))
def q__law_right_18 (n : Nat) : SF := (fAsg 6 (fSeq (fun ds => .ow (.lst ds)) [(share (fCallK (RR.at_ (n + 1) d_lot_stretches) [0, 1] [(.sl 1), (.sl 8)])), (share (fCall (RR.at_ (n + 1) d__law_times) [(.sl 1), (.sl 13), (.sl 10)]))]))
def q__law_right_19 (n : Nat) : SF := (fIf (fNotT (fTr (.ex (share (fCall (RR.at_ (n + 1) d__law_same) [(.sl 6), (.ex (share (fSeq (fun ds => .ow (.lst ds)) [(eName 9), (share (fIfV (fTe (f2 (.ex (share (fCall (RR.at_ (n + 1) d__law_order) [(.sl 1), (.sl 11)]))) (.sl 4) geD)) (fSeq (fun ds => .sh (.tup ds)) [(eName 11), (eName 4)]) (fSeq (fun ds => .ow (.lst ds)) [(share (fC (.str "unfit"))), (share (fC (.bl true)))])))])))]))))) (fSeq2 (fRet (fC (.bl false))) fNil) fNil)
def q__law_right_20 (n : Nat) : SF := (fAsg 12 (fSeq (fun ds => .ow (.lst ds)) [(share (fSeq (fun ds => .sh (.tup ds)) [(eName 2), (share (fC (.int 1)))])), (share (fSeq (fun ds => .sh (.tup ds)) [(eName 2), (share (f2 (.sl 3) (.ex (share (fC (.int 1)))) addD))])), (share (fSeq (fun ds => .ow (.lst ds)) [(eName 2), (eName 4)])), (share (fSeq (fun ds => .sh (.tup ds)) [(eName 2)])), (share (fSeq (fun ds => .sh (.tup ds)) [(eName 2), (share (fC (.bl true)))])), (share (fSeq (fun ds => .sh (.tup ds)) [(eName 4), (eName 2)])), (share (fC .non)), (share (fSeq (fun ds => .sh (.tup ds)) [(share (fSeq (fun ds => .sh (.tup ds)) [(eName 2)])), (eName 4)]))]))
def q__law_right_21 (n : Nat) : SF := (fRet (fCall (RR.at_ (n + 1) d__law_same) [(.ex (share (fLc (fItems (eName 12)) (gAsg 22) fYes (share (fCall (RR.at_ (n + 1) d_is_stretch) [(.sl 1), (.sl 22)])) [22]))), (.ex (share (f2 (.ex (share (fSeq (fun ds => .ow (.lst ds)) [(share (fC (.bl false)))]))) (.ex (share (fC (.int 8)))) mulD)))]))
theorem b__law_right_eq (n : Nat) : b__law_right n = (fSeq2 (q__law_right_1 n) (fSeq2 (q__law_right_2 n) (fSeq2 (q__law_right_3 n) (fSeq2 (q__law_right_4 n) (fSeq2 (q__law_right_5 n) (fSeq2 (q__law_right_6 n) (fSeq2 (q__law_right_7 n) (fSeq2 (q__law_right_8 n) (fSeq2 (q__law_right_9 n) (fSeq2 (q__law_right_10 n) (fSeq2 (q__law_right_11 n) (fSeq2 (q__law_right_12 n) (fSeq2 (q__law_right_13 n) (fSeq2 (q__law_right_14 n) (fSeq2 (q__law_right_15 n) (fSeq2 (q__law_right_16 n) (fSeq2 (q__law_right_17 n) (fSeq2 (q__law_right_18 n) (fSeq2 (q__law_right_19 n) (fSeq2 (q__law_right_20 n) (fSeq2 (q__law_right_21 n) fNil))))))))))))))))))))) := rfl
abbrev E23 (s0 s1 s2 s3 s4 s5 s6 s7 s8 s9 s10 s11 s12 s13 s14 s15 s16 s17 s18 s19 s20 : E2.Slot) : E2.Env := [s0, s1, s2, s3, s4, s5, s6, s7, s8, s9, s10, s11, s12, s13, s14, s15, s16, s17, s18, s19, s20, .dead, .dead]
abbrev dd' : E2.Slot := .dead
section
variable {g a b : List Int} {k m P p : Nat} {d : Dt} {L : List (List Int)}
theorem y1 (ht : TinOk k d) (hk : k ≤ 100000) : ∃ (g : List Int) (d' : Dt), g ∈ menu ∧ TinOk (k + 1) d' ∧ q__law_right_1 17 (E23 (.ow d) dd' dd' dd' dd' dd' dd' dd' dd' dd' dd' dd' dd' dd' dd' dd' dd' dd' dd' dd' dd') = .nxt (E23 (.ow d') (.sh (tz g)) dd' dd' dd' dd' dd' dd' dd' dd' dd' dd' dd' dd' dd' dd' dd' dd' dd' dd' dd') := by
  obtain ⟨g, d', h1, h2, h3⟩ := s_group (n := 18) (by omega) ht (by omega)
  exact ⟨g, d', h1, h2, by simp [q__law_right_1, h3]⟩
theorem y2 (ht : TinOk k d) (hk : k ≤ 100000) (hg : Grp g) : ∃ (a : List Int) (d' : Dt), isM a g = true ∧ TinOk (k + 4) d' ∧ q__law_right_2 17 (E23 (.ow d) (.sh (tz g)) dd' dd' dd' dd' dd' dd' dd' dd' dd' dd' dd' dd' dd' dd' dd' dd' dd' dd' dd') = .nxt (E23 (.ow d') (.sh (tz g)) (.sh (tz a)) dd' dd' dd' dd' dd' dd' dd' dd' dd' dd' dd' dd' dd' dd' dd' dd' dd' dd') := by
  have hl := hg.len
  obtain ⟨a, d', h1, h2, h3⟩ := s_member (n := 18) (by omega) ht hg (by omega)
  exact ⟨a, d', h1, h2.mono (by omega), by simp [q__law_right_2, h3]⟩
theorem y3 (hg : g ∈ menu) (ha : isM a g = true) (s0 : E2.Slot) : q__law_right_3 17 (E23 s0 (.sh (tz g)) (.sh (tz a)) dd' dd' dd' dd' dd' dd' dd' dd' dd' dd' dd' dd' dd' dd' dd' dd' dd' dd') = .nxt (E23 s0 (.sh (tz g)) (.sh (tz a)) (.sh (.int (ordF g a : Int))) dd' dd' dd' dd' dd' dd' dd' dd' dd' dd' dd' dd' dd' dd' dd' dd' dd') := by
  obtain ⟨G', _, q, _⟩ := grp_of hg
  have e := s_law_order (n := 18) (by omega) G' (by omega) a
  rw [(ord_t hg ha).walk] at e
  generalize (ordF g a : Int) = O at *
  simp [q__law_right_3, e]
theorem y4a (hg : g ∈ menu) (ha : isM a g = true) (h1 : ordF g a = 1) (s0 : E2.Slot) : ∃ ρ, q__law_right_4 17 (E23 s0 (.sh (tz g)) (.sh (tz a)) (.sh (.int (ordF g a : Int))) dd' dd' dd' dd' dd' dd' dd' dd' dd' dd' dd' dd' dd' dd' dd' dd' dd') = .ret (.sh (.bl true)) (s0 :: ρ) := by
  obtain ⟨G', _, q, _⟩ := grp_of hg
  have e1 := s_is_stretch (n := 18) (by omega) G' ha 1
  have e2 := s_is_stretch (n := 18) (by omega) G' ha 2
  rw [h1] at e1 e2
  rw [show (decide ((2 : Int) ≤ 1) && decide ((1 : Int) ≤ ((1 : Nat) : Int))) = false by decide] at e1
  rw [show (decide ((2 : Int) ≤ 2) && decide ((2 : Int) ≤ ((1 : Nat) : Int))) = false by decide] at e2
  have T := s_same 2 (n := 18) (by omega) (d := .lst [.bl false, .bl false]) (tree_lst 1 (by simp) fun e he => by
    simp only [List.mem_cons, List.not_mem_nil, or_false] at he
    rcases he with rfl | rfl
    · exact tree_b _ _
    · exact tree_b _ _)
  rw [show sx a 1 = .tup [tz a, .int 1] from rfl] at e1
  rw [show sx a 2 = .tup [tz a, .int 2] from rfl] at e2
  rw [h1]
  refine ⟨[.sh (tz g), .sh (tz a), .sh (.int 1), dd', dd', dd', dd', dd', dd', dd', dd', dd', dd', dd', dd', dd', dd', dd', dd', dd', .dead, .dead], ?_⟩
  simp [q__law_right_4, e1, e2, T]
theorem y4b {O : Int} (h1 : O ≠ 1) (s0 s1 s2 : E2.Slot) : q__law_right_4 17 (E23 s0 s1 s2 (.sh (.int O)) dd' dd' dd' dd' dd' dd' dd' dd' dd' dd' dd' dd' dd' dd' dd' dd' dd') = .nxt (E23 s0 s1 s2 (.sh (.int O)) dd' dd' dd' dd' dd' dd' dd' dd' dd' dd' dd' dd' dd' dd' dd' dd' dd') := by
  simp [q__law_right_4, h1]
theorem y5 (ht : TinOk k d) (hk : k ≤ 100000) {O : Int} (h1 : 2 ≤ O) (h2 : O ≤ 36) (s1 s2 : E2.Slot) : ∃ (m : Nat) (d' : Dt), 2 ≤ m ∧ (m : Int) ≤ O ∧ TinOk (k + 1) d' ∧ q__law_right_5 17 (E23 (.ow d) s1 s2 (.sh (.int O)) dd' dd' dd' dd' dd' dd' dd' dd' dd' dd' dd' dd' dd' dd' dd' dd' dd') = .nxt (E23 (.ow d') s1 s2 (.sh (.int O)) (.sh (.int (m : Int))) dd' dd' dd' dd' dd' dd' dd' dd' dd' dd' dd' dd' dd' dd' dd' dd') := by
  obtain ⟨r, d', r1, r2, t, e⟩ := s_take (n := 18) (by omega) ht (by omega) (b := O - 1) (by omega) (by omega)
  refine ⟨(2 + r).toNat, d', by omega, by omega, t, ?_⟩
  rw [Int.toNat_of_nonneg (by omega)]
  simp [q__law_right_5, e]
theorem y6a {A G : Dt} {S : List Dt} {M : Int} (e : (RR.at_ 18 d__law_steps_lot).run [.sh G, .sh A, .sh (.int M)] = .ok (.sh (.tup S), [.dead, .dead, .dead])) (s0 s3 : E2.Slot) : q__law_right_6 17 (E23 s0 (.sh G) (.sh A) s3 (.sh (.int M)) dd' dd' dd' dd' dd' dd' dd' dd' dd' dd' dd' dd' dd' dd' dd' dd') = .nxt (E23 s0 (.sh G) (.sh A) s3 (.sh (.int M)) dd' dd' dd' dd' dd' dd' dd' dd' (.sh (.tup [A, .int M])) (.sh (.tup S)) dd' dd' dd' dd' dd' dd') := by
  simp [q__law_right_6, e]
theorem y6 (hg : Grp g) (ha : isM a g = true) (hm : m ≤ 1000) (s0 s3 : E2.Slot) : q__law_right_6 17 (E23 s0 (.sh (tz g)) (.sh (tz a)) s3 (.sh (.int (m : Int))) dd' dd' dd' dd' dd' dd' dd' dd' dd' dd' dd' dd' dd' dd' dd' dd') = .nxt (E23 s0 (.sh (tz g)) (.sh (tz a)) s3 (.sh (.int (m : Int))) dd' dd' dd' dd' dd' dd' dd' dd' (.sh (sx a m)) (.sh (.tup ((st g a m).map tz))) dd' dd' dd' dd' dd' dd') :=
  y6a (s_steps_lot (n := 18) (by omega) hg ha hm) s0 s3
theorem y7 {M O : Int} (s0 s1 s2 s13 s14 : E2.Slot) : q__law_right_7 17 (E23 s0 s1 s2 (.sh (.int O)) (.sh (.int M)) dd' dd' dd' dd' dd' dd' dd' dd' s13 s14 dd' dd' dd' dd' dd' dd') = .nxt (E23 s0 s1 s2 (.sh (.int O)) (.sh (.int M)) (.sh (.bl (decide (M = O)))) dd' dd' dd' dd' dd' dd' dd' s13 s14 dd' dd' dd' dd' dd' dd') := by
  simp [q__law_right_7]
def got1 (g a : List Int) (m : Nat) : List Dt := [.bl true, .tup ((st g a m).map tz), .bl (decide (m = ordF g a)), .bl (decide (m = ordF g a))]
theorem y8 (hg : g ∈ menu) (ha : isM a g = true) (m2 : 2 ≤ m) (hm : m ≤ ordF g a) (s0 s2 s3 s4 s5 : E2.Slot) : q__law_right_8 17 (E23 s0 (.sh (tz g)) s2 s3 s4 s5 dd' dd' dd' dd' dd' dd' dd' (.sh (sx a m)) (.sh (.tup ((st g a m).map tz))) dd' dd' dd' dd' dd' dd') = .nxt (E23 s0 (.sh (tz g)) s2 s3 s4 s5 (.ow (.lst (got1 g a m))) dd' dd' dd' dd' dd' dd' (.sh (sx a m)) (.sh (.tup ((st g a m).map tz))) dd' dd' dd' dd' dd' dd') := by
  obtain ⟨G', _, q, _⟩ := grp_of hg
  have hl := G'.len
  have el := isM_len ha
  have o36 := (ord_t hg ha).le
  have e1 := s_is_stretch (n := 18) (by omega) G' ha m
  rw [decide_eq_true (show (2 : Int) ≤ (m : Int) by omega), decide_eq_true (show (m : Int) ≤ (ordF g a : Int) by omega)] at e1
  have e2 := s_stretch_lot (n := 18) (by omega) G' ha m2 hm (by omega) (d := .lst [tz a, .int m]) (tu_sx a m (.inr rfl) (by omega))
  have e3 := s_does_come_round (n := 18) (by omega) G' ha m2 hm
  have e4 := s_is_subgroup (n := 18) (by omega) hg ha m2 hm
  have e5 : listD [sx a m] = some (.ow (.lst [tz a, .int m])) := rfl
  unfold got1
  generalize decide (m = ordF g a) = F at *
  generalize (st g a m).map tz = S at *
  generalize sx a m = X at *
  generalize (m : Int) = M at *
  simp [q__law_right_8, e1, e2, e3, e4, e5]
theorem y9 (hg : g ∈ menu) (ha : isM a g = true) (m2 : 2 ≤ m) (hm : m ≤ ordF g a) (s0 s2 s3 s13 : E2.Slot) : q__law_right_9 17 (E23 s0 (.sh (tz g)) s2 s3 (.sh (.int (m : Int))) (.sh (.bl (decide (m = ordF g a)))) (.ow (.lst (got1 g a m))) dd' dd' dd' dd' dd' dd' s13 (.sh (.tup ((st g a m).map tz))) dd' dd' dd' dd' dd' dd') = .nxt (E23 s0 (.sh (tz g)) s2 s3 (.sh (.int (m : Int))) (.sh (.bl (decide (m = ordF g a)))) (.sh (.lst (got1 g a m))) dd' dd' dd' dd' dd' dd' s13 (.sh (.tup ((st g a m).map tz))) dd' dd' dd' dd' dd' dd') := by
  obtain ⟨G', _, q, _⟩ := grp_of hg
  have hl := G'.len
  have o36 := (ord_t hg ha).le
  have l := st_lot hg ha (show 1 ≤ m by omega) hm
  have T := s_same 3 (n := 18) (by omega) (d := .lst (got1 g a m)) (tree_lst 2 (by simp [got1]) fun e he => by
    simp only [got1, List.mem_cons, List.not_mem_nil, or_false] at he
    rcases he with rfl | rfl | rfl | rfl
    · exact tree_b _ _
    · exact tree_lot 0 (by have := l.1.len; omega) fun x hx => by have := isM_len (l.1.mem x hx); omega
    · exact tree_b _ _
    · exact tree_b _ _)
  have e1 := s_keepers (n := 18) (by omega) hg l.1
  have e2 : lenD [.tup ((st g a m).map tz)] = some (.sh (.int (m : Int))) := by simp [l.2]
  have kc := keep_count hg ha m2 hm
  have e3 : lenD [.tup ((keepF g (st g a m)).map tz)] = some (.sh (.int ((keepF g (st g a m)).length : Int))) := by simp
  have e4 : decide (((keepF g (st g a m)).length : Int) > 1) = decide (m = ordF g a) := by
    rw [decide_eq_decide, ← kc]
    omega
  have e5 := ne_bl (decide (m = ordF g a)) (decide (m = ordF g a))
  rw [show ((decide (m = ordF g a)) == (decide (m = ordF g a))) = true by simp] at e5
  have e6 : neD (.int (m : Int)) (.int (m : Int)) = some (.sh (.bl false)) := by rw [neI]; simp
  simp only [got1] at T ⊢
  generalize decide (m = ordF g a) = F at *
  generalize (keepF g (st g a m)).map tz = KS at *
  generalize ((keepF g (st g a m)).length : Int) = KL at *
  generalize (st g a m).map tz = S at *
  generalize (m : Int) = M at *
  have e4' : decide (1 < KL) = F := e4
  simp [q__law_right_9, T, e1, e2, e3, e4', e5, e6]
theorem y10 (hg : g ∈ menu) (ha : isM a g = true) (m2 : 2 ≤ m) (hm : m ≤ ordF g a) (s0 s2 s3 s4 s5 s6 s14 : E2.Slot) : q__law_right_10 17 (E23 s0 (.sh (tz g)) s2 s3 s4 s5 s6 dd' dd' dd' dd' dd' dd' (.sh (sx a m)) s14 dd' dd' dd' dd' dd' dd') = .nxt (E23 s0 (.sh (tz g)) s2 s3 s4 s5 s6 (.sh (.tup ((partsF g a (primesT m)).map pxD))) dd' dd' dd' dd' dd' (.sh (sx a m)) s14 dd' dd' dd' dd' dd' dd') := by
  obtain ⟨G', _, q, _⟩ := grp_of hg
  have o36 := (ord_t hg ha).le
  have e := s_stretch_parts G' ha m2 hm (by omega)
  generalize (partsF g a (primesT m)).map pxD = PS at *
  generalize sx a m = X at *
  simp [q__law_right_10, e]
theorem st_one (hg : g ∈ menu) (ha : isM a g = true) : st g a 1 = [zero g] := by
  have l := st_lot hg ha (Nat.le_refl 1) (ord_t hg ha).pos
  obtain ⟨L', e⟩ := head_zero hg l.1 (zero_in ha (Nat.le_refl 1))
  have := l.2
  rw [e, List.length_cons] at this
  rw [e, List.length_eq_zero_iff.mp (show L'.length = 0 by omega)]
theorem y11 (hg : g ∈ menu) (ha : isM a g = true) (s0 s3 s4 s5 s6 s7 s13 s14 : E2.Slot) : q__law_right_11 17 (E23 s0 (.sh (tz g)) (.sh (tz a)) s3 s4 s5 s6 s7 dd' dd' dd' dd' dd' s13 s14 dd' dd' dd' dd' dd' dd') = .nxt (E23 s0 (.sh (tz g)) (.sh (tz a)) s3 s4 s5 s6 s7 dd' dd' dd' dd' dd' s13 s14 (.sh (.tup ((st g a 1).map tz))) (.sh (tz a)) (.sh (.int 1)) (.sh (.int 1)) dd' dd') := by
  obtain ⟨G', _, q, _⟩ := grp_of hg
  have e := s_nought (n := 18) (by omega) (show g.length ≤ 100 by have := G'.len; omega)
  rw [st_one hg ha, List.map_cons, List.map_nil]
  simp [q__law_right_11, e]
end
end LW
end

section
set_option Elab.async false
set_option linter.all false
set_option maxRecDepth 100000
set_option maxHeartbeats 1000000
/-! W8 (k03): the loop over the parts. -/
namespace E2
open PySem PySem.Spec PyProof.Rows L2 LW
@[simp] theorem x_parV3 (i j k : Nat) (f g h : EV) (ρ : E2.Env) : fParV3 i j k f g h ρ = sbind (f ρ) fun d ρ1 => sbind (g ρ1) fun e ρ2 => sbind (h ρ2) fun c ρ3 => .nxt (((ρ3.set i d).set j e).set k c) := rfl
end E2
namespace LW
open PySem PySem.Spec PyProof.Rows L2 E2
abbrev lpT3 : ET := (fTe (f2 (.ex (share (fLc (fRng2 (share (fC (.int 2))) (eName 20)) (gAsg 10) (fTe (f2 (.ex (share (f2 (.sl 20) (.sl 10) modD))) (.ex (share (fC (.int 0)))) eqD)) (eName 10) [10]))) (.ex (share (fSeq (fun ds => .ow (.lst ds)) []))) neD))
abbrev lpT4 : ET := (fTe (f2 (.ex (share (fCall (RR.at_ (17 + 1) d_is_stretch) [(.sl 1), (.ex (share (fSeq (fun ds => .sh (.tup ds)) [(eName 19), (eName 20)])))]))) (.ex (share (fC (.bl true)))) isNotD))
abbrev lpA : SF := (fAsg 15 (fCall (RR.at_ (17 + 1) d_lot_sum) [(.sl 1), (.sl 15), (.ex (share (fCall (RR.at_ (17 + 1) d_stretch_lot) [(.sl 1), (.ex (share (fSeq (fun ds => .sh (.tup ds)) [(eName 19), (eName 20)])))])))]))
abbrev lpB : SF := (fParV3 16 17 18 (fCall (RR.at_ (17 + 1) d__law_often) [(.sl 1), (.sl 19), (.sl 20)]) (fName 20) (f2 (.sl 18) (.sl 20) mulD))
abbrev lpC : SF := (fIf (fTe (f2 (.ex (share (fB [(.sl 15)] lenD))) (.sl 18) neD)) (fSeq2 (fRet (fC (.bl false))) fNil) fNil)
abbrev lpBody : SF := (fSeq2 (fIf (fOrT (fTe (f2 (.sl 19) (.sl 16) neD)) (fOrT (fTe (f2 (.sl 20) (.sl 17) ltD)) (fOrT lpT3 lpT4))) (fSeq2 (fRet (fC (.bl false))) fNil) fNil) (fSeq2 lpA (fSeq2 lpB (fSeq2 lpC fNil))))
theorem q12_eq : q__law_right_12 17 = (fFor (fItems (eName 7)) (gTupA (gsCons (gAsg 19) (gsCons (gAsg 20) gsNil))) lpBody) := rfl
section
variable {g a b : List Int} {k m P p : Nat} {d : Dt} {L : List (List Int)}
variable (s0 s1 s2 s3 s4 s5 s6 s7 s13 s14 : E2.Slot)
theorem lp1 {B : List Int} {s15 s17 s18 s20 : E2.Slot} : fTe (f2 (.sl 19) (.sl 16) neD) (E23 s0 s1 s2 s3 s4 s5 s6 s7 dd' dd' dd' dd' dd' s13 s14 s15 (.sh (tz B)) s17 s18 (.sh (tz B)) s20) = .ok (false, E23 s0 s1 s2 s3 s4 s5 s6 s7 dd' dd' dd' dd' dd' s13 s14 s15 (.sh (tz B)) s17 s18 (.sh (tz B)) s20) := by
  have e := ne_tz B B
  rw [decide_eq_true rfl] at e
  generalize tz B = X at *
  simp [e]
theorem lp2 {A Q : Int} (h : A ≤ Q) {s15 s16 s18 s19 : E2.Slot} : fTe (f2 (.sl 20) (.sl 17) ltD) (E23 s0 s1 s2 s3 s4 s5 s6 s7 dd' dd' dd' dd' dd' s13 s14 s15 s16 (.sh (.int A)) s18 s19 (.sh (.int Q))) = .ok (false, E23 s0 s1 s2 s3 s4 s5 s6 s7 dd' dd' dd' dd' dd' s13 s14 s15 s16 (.sh (.int A)) s18 s19 (.sh (.int Q))) := by
  have h2 : ¬ Q < A := by omega
  simp [h, h2]
theorem lp3 (h : lcNone p = true) (p2 : 2 ≤ p) (p3 : p ≤ 36) {s15 s16 s17 s18 s19 : E2.Slot} : lpT3 (E23 s0 s1 s2 s3 s4 s5 s6 s7 dd' dd' dd' dd' dd' s13 s14 s15 s16 s17 s18 s19 (.sh (.int (p : Int)))) = .ok (false, E23 s0 s1 s2 s3 s4 s5 s6 s7 dd' dd' dd' dd' dd' s13 s14 s15 s16 s17 s18 s19 (.sh (.int (p : Int)))) := by
  have key : lcS (gAsg 10) (fTe (f2 (.ex (share (f2 (.sl 20) (.sl 10) modD))) (.ex (share (fC (.int 0)))) eqD)) (eName 10) [10] (rangeD 2 (p - 2)) [] (E23 s0 s1 s2 s3 s4 s5 s6 s7 dd' dd' dd' dd' dd' s13 s14 s15 s16 s17 s18 s19 (.sh (.int (p : Int)))) = .ok ([], E23 s0 s1 s2 s3 s4 s5 s6 s7 dd' dd' dd' dd' dd' s13 s14 s15 s16 s17 s18 s19 (.sh (.int (p : Int)))) := by
    rw [lcS_if (fun _ => false) id (rangeD 2 (p - 2)) [] fun e he => ?_]
    · simp
    obtain ⟨i, hi, rfl⟩ := List.mem_map.mp he
    have c := List.all_eq_true.mp h i hi
    rw [Bool.not_eq_true', decide_eq_false_iff_not] at c
    have e1 : modD (.int (p : Int)) (.int (2 + (i : Int))) = some (.sh (.int ((p : Int) % (2 + (i : Int))))) := x_mod (by omega)
    generalize (p : Int) = Q at *
    generalize (2 + (i : Int)) = J at *
    refine ⟨[s0, s1, s2, s3, s4, s5, s6, s7, dd', dd', .sh (.int J), dd', dd', s13, s14, s15, s16, s17, s18, s19, .sh (.int Q), .dead, .dead], [s0, s1, s2, s3, s4, s5, s6, s7, dd', dd', .sh (.int J), dd', dd', s13, s14, s15, s16, s17, s18, s19, .sh (.int Q), .dead, .dead], rfl, ?_, fun _ => rfl, fun z => nomatch z⟩
    generalize Q % J = R' at *
    simp [e1, c]
  have q1 : share (fC (.int 2)) (E23 s0 s1 s2 s3 s4 s5 s6 s7 dd' dd' dd' dd' dd' s13 s14 s15 s16 s17 s18 s19 (.sh (.int (p : Int)))) = .ok (.int 2, (E23 s0 s1 s2 s3 s4 s5 s6 s7 dd' dd' dd' dd' dd' s13 s14 s15 s16 s17 s18 s19 (.sh (.int (p : Int))))) := rfl
  have q2 : eName 20 (E23 s0 s1 s2 s3 s4 s5 s6 s7 dd' dd' dd' dd' dd' s13 s14 s15 s16 s17 s18 s19 (.sh (.int (p : Int)))) = .ok (.int (p : Int), (E23 s0 s1 s2 s3 s4 s5 s6 s7 dd' dd' dd' dd' dd' s13 s14 s15 s16 s17 s18 s19 (.sh (.int (p : Int))))) := rfl
  have hr : (rOk 2 && rOk (p : Int)) = true := by
    rw [rOk_small (i := 2) (by omega) (by omega), rOk_small (i := (p : Int)) (by omega) (by omega)]
    rfl
  have lc := lc_ok (rng2_ok q1 q2 hr (show ((p : Int) - 2).toNat = p - 2 by omega)) (by rw [rng_len]; omega) rfl key rfl
  have e5 : neD (.lst []) (.lst []) = some (.sh (.bl false)) := rfl
  have t : ∀ (C : EV) (ρ : E2.Env), C ρ = .ok (.ow (.lst []), ρ) → fTe (f2 (.ex (share C)) (.ex (share (fSeq (fun ds => .ow (.lst ds)) []))) neD) ρ = .ok (false, ρ) := fun C ρ h => by
    simp [h, e5]
  exact t _ _ lc
theorem lp4 {B : Dt} {Q : Int} (e : (RR.at_ 18 d_is_stretch).run [s1, .sh (.tup [B, .int Q])] = .ok (.sh (.bl true), [.dead, .dead])) (h1 : ∃ G, s1 = .sh G) {s15 s16 s17 s18 : E2.Slot} : lpT4 (E23 s0 s1 s2 s3 s4 s5 s6 s7 dd' dd' dd' dd' dd' s13 s14 s15 s16 s17 s18 (.sh B) (.sh (.int Q))) = .ok (false, E23 s0 s1 s2 s3 s4 s5 s6 s7 dd' dd' dd' dd' dd' s13 s14 s15 s16 s17 s18 (.sh B) (.sh (.int Q))) := by
  obtain ⟨G, rfl⟩ := h1
  have e6 : isNotD (.bl true) (.bl true) = some (.sh (.bl false)) := rfl
  simp [e, e6]
theorem lpa {G B H S R' : Dt} {Q : Int} (e1 : (RR.at_ 18 d_stretch_lot).run [.sh G, .sh (.tup [B, .int Q])] = .ok (.sh S, [.dead, .dead])) (e2 : (RR.at_ 18 d_lot_sum).run [.sh G, .sh H, .sh S] = .ok (.sh R', [.dead, .dead, .dead])) {s16 s17 s18 : E2.Slot} : lpA (E23 s0 (.sh G) s2 s3 s4 s5 s6 s7 dd' dd' dd' dd' dd' s13 s14 (.sh H) s16 s17 s18 (.sh B) (.sh (.int Q))) = .nxt (E23 s0 (.sh G) s2 s3 s4 s5 s6 s7 dd' dd' dd' dd' dd' s13 s14 (.sh R') s16 s17 s18 (.sh B) (.sh (.int Q))) := by
  simp [e1, e2]
theorem lpb {G B B' : Dt} {Q P' PQ : Int} (e1 : (RR.at_ 18 d__law_often).run [.sh G, .sh B, .sh (.int Q)] = .ok (.sh B', [.dead, .dead, .dead])) (e2 : mulD (.int P') (.int Q) = some (.sh (.int PQ))) {s15 s16 s17 : E2.Slot} : lpB (E23 s0 (.sh G) s2 s3 s4 s5 s6 s7 dd' dd' dd' dd' dd' s13 s14 s15 s16 s17 (.sh (.int P')) (.sh B) (.sh (.int Q))) = .nxt (E23 s0 (.sh G) s2 s3 s4 s5 s6 s7 dd' dd' dd' dd' dd' s13 s14 s15 (.sh B') (.sh (.int Q)) (.sh (.int PQ)) (.sh B) (.sh (.int Q))) := by
  simp [e1, e2]
theorem lpc {S : Dt} {PQ : Int} (e1 : lenD [S] = some (.sh (.int PQ))) {s16 s17 s19 s20 : E2.Slot} : lpC (E23 s0 s1 s2 s3 s4 s5 s6 s7 dd' dd' dd' dd' dd' s13 s14 (.sh S) s16 s17 (.sh (.int PQ)) s19 s20) = .nxt (E23 s0 s1 s2 s3 s4 s5 s6 s7 dd' dd' dd' dd' dd' s13 s14 (.sh S) s16 s17 (.sh (.int PQ)) s19 s20) := by
  have e6 : neD (.int PQ) (.int PQ) = some (.sh (.bl false)) := by rw [neI]; simp
  simp [e1, e6]
theorem lp_one (hg : g ∈ menu) (ha : isM a g = true) (p1 : 1 ≤ P) (p2 : 2 ≤ p) (p3 : p ≤ 36) (hp : lcNone p = true) (h : P * p ≤ ordF g a) {A : Nat} (hA : A ≤ p) : lpBody (E23 s0 (.sh (tz g)) s2 s3 s4 s5 s6 s7 dd' dd' dd' dd' dd' s13 s14 (.sh (.tup ((st g a P).map tz))) (.sh (tz (oft (P : Nat) a g))) (.sh (.int (A : Int))) (.sh (.int (P : Int))) (.sh (tz (oft (P : Nat) a g))) (.sh (.int (p : Int)))) = .nxt (E23 s0 (.sh (tz g)) s2 s3 s4 s5 s6 s7 dd' dd' dd' dd' dd' s13 s14 (.sh (.tup ((st g a (P * p)).map tz))) (.sh (tz (oft ((P * p : Nat) : Int) a g))) (.sh (.int (p : Int))) (.sh (.int ((P * p : Nat) : Int))) (.sh (tz (oft (P : Nat) a g))) (.sh (.int (p : Int)))) := by
  obtain ⟨G', _, q, _⟩ := grp_of hg
  have hl := G'.len
  have hb := oft_mem (P : Nat) ha
  have lb := isM_len hb
  have o36 := (ord_t hg ha).le
  have pp := ord_part hg ha p1 h
  have hP : P ≤ ordF g a := Nat.le_trans (Nat.le_mul_of_pos_right P (by omega)) h
  have l1 := st_lot hg ha p1 hP
  have l2 := st_lot hg hb (show 1 ≤ p by omega) pp
  have l3 := st_lot hg ha (show 1 ≤ P * p from Nat.mul_pos p1 (by omega)) h
  have t1 := lp1 s0 (.sh (tz g)) s2 s3 s4 s5 s6 s7 s13 s14 (B := oft (P : Nat) a g) (s15 := .sh (.tup ((st g a P).map tz))) (s17 := .sh (.int (A : Int))) (s18 := .sh (.int (P : Int))) (s20 := .sh (.int (p : Int)))
  have t2 := lp2 s0 (.sh (tz g)) s2 s3 s4 s5 s6 s7 s13 s14 (A := (A : Int)) (Q := (p : Int)) (by omega) (s15 := .sh (.tup ((st g a P).map tz))) (s16 := .sh (tz (oft (P : Nat) a g))) (s18 := .sh (.int (P : Int))) (s19 := .sh (tz (oft (P : Nat) a g)))
  have t3 := lp3 s0 (.sh (tz g)) s2 s3 s4 s5 s6 s7 s13 s14 hp p2 p3 (s15 := .sh (.tup ((st g a P).map tz))) (s16 := .sh (tz (oft (P : Nat) a g))) (s17 := .sh (.int (A : Int))) (s18 := .sh (.int (P : Int))) (s19 := .sh (tz (oft (P : Nat) a g)))
  have e4 := s_is_stretch (n := 18) (by omega) G' hb p
  rw [decide_eq_true (show (2 : Int) ≤ (p : Int) by omega), decide_eq_true (show (p : Int) ≤ (ordF g (oft (P : Nat) a g) : Int) by omega)] at e4
  have t4 := lp4 s0 (.sh (tz g)) s2 s3 s4 s5 s6 s7 s13 s14 e4 ⟨_, rfl⟩ (s15 := .sh (.tup ((st g a P).map tz))) (s16 := .sh (tz (oft (P : Nat) a g))) (s17 := .sh (.int (A : Int))) (s18 := .sh (.int (P : Int)))
  have e5 := s_stretch_lot (n := 18) (by omega) G' hb p2 pp (by omega) (tu_sx (oft (P : Nat) a g) p (.inl rfl) (by omega))
  have e6 := s_lot_sum (n := 18) (by omega) G' l1.1 l2.1
  rw [st_sum hg ha p1 (by omega) h] at e6
  have t5 := lpa s0 s2 s3 s4 s5 s6 s7 s13 s14 e5 e6 (s16 := .sh (tz (oft (P : Nat) a g))) (s17 := .sh (.int (A : Int))) (s18 := .sh (.int (P : Int)))
  have e7 := s_law_often (n := 18) (by omega) (pos_of G') (show g.length ≤ 100 by omega) (oft (P : Nat) a g) (p : Int) (by omega) (by omega)
  rw [oft_oft _ _ ha, ← Int.natCast_mul] at e7
  have e8 : mulD (.int (P : Int)) (.int (p : Int)) = some (.sh (.int ((P * p : Nat) : Int))) := by
    rw [mul_ok (by omega) (by omega), Int.natCast_mul]
  have t6 := lpb s0 s2 s3 s4 s5 s6 s7 s13 s14 e7 e8 (s15 := .sh (.tup ((st g a (P * p)).map tz))) (s16 := .sh (tz (oft (P : Nat) a g))) (s17 := .sh (.int (A : Int)))
  have e9 : lenD [.tup ((st g a (P * p)).map tz)] = some (.sh (.int ((P * p : Nat) : Int))) := by
    have := l3.2
    show some (E2.Slot.sh (.int (((st g a (P * p)).map tz).length : Int))) = _
    rw [List.length_map, this]
  have t7 := lpc s0 (.sh (tz g)) s2 s3 s4 s5 s6 s7 s13 s14 e9 (s16 := .sh (tz (oft ((P * p : Nat) : Int) a g))) (s17 := .sh (.int (p : Int))) (s19 := .sh (tz (oft (P : Nat) a g))) (s20 := .sh (.int (p : Int)))
  have t0 := or4_no (A := (fSeq2 (fRet (fC (.bl false))) fNil)) t1 t2 t3 t4
  unfold lpBody
  rw [x_seq2, t0, x_then, x_seq2, t5, x_then, x_seq2, t6, x_then, x_seq2, t7]
  rfl
theorem fold_ge : ∀ (ps : List Nat) (P : Nat), (∀ p ∈ ps, 2 ≤ p) → P ≤ ps.foldl (· * ·) P
  | [], P, _ => Nat.le_refl _
  | p :: ps, P, h => by
    have h1 := h p List.mem_cons_self
    have := fold_ge ps (P * p) fun q hq => h q (List.mem_cons_of_mem _ hq)
    exact Nat.le_trans (Nat.le_mul_of_pos_right P (by omega)) this
theorem lp_all (hg : g ∈ menu) (ha : isM a g = true) : ∀ (ps : List Nat) (P A : Nat) (s19 s20 : E2.Slot), 1 ≤ P → (∀ p ∈ ps, 2 ≤ p ∧ p ≤ 36 ∧ lcNone p = true) → (((A :: ps).zip ps).all fun q => decide (q.1 ≤ q.2)) = true → ps.foldl (· * ·) P ≤ ordF g a → ∃ s16 s17 s19' s20', forS (gTupA (gsCons (gAsg 19) (gsCons (gAsg 20) gsNil))) lpBody ((partsF g (oft (P : Nat) a g) ps).map pxD) (E23 s0 (.sh (tz g)) s2 s3 s4 s5 s6 s7 dd' dd' dd' dd' dd' s13 s14 (.sh (.tup ((st g a P).map tz))) (.sh (tz (oft (P : Nat) a g))) (.sh (.int (A : Int))) (.sh (.int (P : Int))) s19 s20) = .nxt (E23 s0 (.sh (tz g)) s2 s3 s4 s5 s6 s7 dd' dd' dd' dd' dd' s13 s14 (.sh (.tup ((st g a (ps.foldl (· * ·) P)).map tz))) s16 s17 (.sh (.int ((ps.foldl (· * ·) P : Nat) : Int))) s19' s20')
  | [], P, A, s19, s20, _, _, _, _ => ⟨_, _, s19, s20, rfl⟩
  | p :: ps, P, A, s19, s20, p1, hp, hc, hm => by
    rw [List.foldl_cons] at hm
    obtain ⟨h1, h2, h3⟩ := hp p List.mem_cons_self
    rw [List.zip_cons_cons, List.all_cons, Bool.and_eq_true] at hc
    have hA : A ≤ p := of_decide_eq_true hc.1
    have hle := fold_ge ps (P * p) fun q hq => (hp q (List.mem_cons_of_mem _ hq)).1
    have e := lp_one s0 s2 s3 s4 s5 s6 s7 s13 s14 hg ha p1 h1 h2 h3 (Nat.le_trans hle hm) hA
    obtain ⟨s16, s17, s19', s20', ih⟩ := lp_all hg ha ps (P * p) p (.sh (tz (oft (P : Nat) a g))) (.sh (.int (p : Int))) (Nat.mul_pos p1 (by omega)) (fun q hq => hp q (List.mem_cons_of_mem _ hq)) hc.2 hm
    refine ⟨s16, s17, s19', s20', ?_⟩
    have as : gTupA (gsCons (gAsg 19) (gsCons (gAsg 20) gsNil)) (pxD (oft (P : Nat) a g, p)) (E23 s0 (.sh (tz g)) s2 s3 s4 s5 s6 s7 dd' dd' dd' dd' dd' s13 s14 (.sh (.tup ((st g a P).map tz))) (.sh (tz (oft (P : Nat) a g))) (.sh (.int (A : Int))) (.sh (.int (P : Int))) s19 s20) = some (E23 s0 (.sh (tz g)) s2 s3 s4 s5 s6 s7 dd' dd' dd' dd' dd' s13 s14 (.sh (.tup ((st g a P).map tz))) (.sh (tz (oft (P : Nat) a g))) (.sh (.int (A : Int))) (.sh (.int (P : Int))) (.sh (tz (oft (P : Nat) a g))) (.sh (.int (p : Int)))) := rfl
    simp only [partsF, List.map_cons, forS, as, e, List.foldl_cons]
    rw [oft_oft _ _ ha, ← Int.natCast_mul]
    exact ih
theorem y12 (hg : g ∈ menu) (ha : isM a g = true) (m2 : 2 ≤ m) (hm : m ≤ ordF g a) : ∃ s16 s17 s19 s20, q__law_right_12 17 (E23 s0 (.sh (tz g)) s2 s3 s4 s5 s6 (.sh (.tup ((partsF g a (primesT m)).map pxD))) dd' dd' dd' dd' dd' s13 s14 (.sh (.tup ((st g a 1).map tz))) (.sh (tz a)) (.sh (.int 1)) (.sh (.int 1)) dd' dd') = .nxt (E23 s0 (.sh (tz g)) s2 s3 s4 s5 s6 (.sh (.tup ((partsF g a (primesT m)).map pxD))) dd' dd' dd' dd' dd' s13 s14 (.sh (.tup ((st g a m).map tz))) s16 s17 (.sh (.int (m : Int))) s19 s20) := by
  have o36 := (ord_t hg ha).le
  have t := List.all_eq_true.mp pt2 (m - 2) (List.mem_range.mpr (by omega))
  rw [show m - 2 + 2 = m by omega, Bool.and_eq_true, Bool.and_eq_true, Bool.and_eq_true] at t
  have tp := of_decide_eq_true t.1.1.1
  have tl := of_decide_eq_true t.2
  obtain ⟨s16, s17, s19, s20, e⟩ := lp_all s0 s2 s3 s4 s5 s6 (.sh (.tup ((partsF g a (primesT m)).map pxD))) s13 s14 hg ha (primesT m) 1 1 dd' dd' (Nat.le_refl 1) (fun p hp => by
    have := List.all_eq_true.mp t.1.1.2 p hp
    rw [Bool.and_eq_true, Bool.and_eq_true] at this
    exact ⟨of_decide_eq_true this.1.1, of_decide_eq_true this.1.2, this.2⟩) t.1.2 (by rw [tp]; exact hm)
  rw [tp, show (((1 : Nat) : Int)) = 1 from rfl, oft_one ha] at e
  refine ⟨s16, s17, s19, s20, ?_⟩
  rw [q12_eq]
  have it : fItems (eName 7) (E23 s0 (.sh (tz g)) s2 s3 s4 s5 s6 (.sh (.tup ((partsF g a (primesT m)).map pxD))) dd' dd' dd' dd' dd' s13 s14 (.sh (.tup ((st g a 1).map tz))) (.sh (tz a)) (.sh (.int 1)) (.sh (.int 1)) dd' dd') = .ok ((partsF g a (primesT m)).map pxD, E23 s0 (.sh (tz g)) s2 s3 s4 s5 s6 (.sh (.tup ((partsF g a (primesT m)).map pxD))) dd' dd' dd' dd' dd' s13 s14 (.sh (.tup ((st g a 1).map tz))) (.sh (tz a)) (.sh (.int 1)) (.sh (.int 1)) dd' dd') := by
    generalize (partsF g a (primesT m)).map pxD = PS
    generalize (st g a 1).map tz = S
    simp
  unfold fFor
  rw [it]
  exact e
theorem y13 {S : Dt} {M : Int} (T : (RR.at_ 18 d__law_same).run [.sh S, .sh S] = .ok (.sh (.bl true), [.dead, .dead])) (s16 s17 s19 s20 : E2.Slot) : q__law_right_13 17 (E23 s0 s1 s2 s3 (.sh (.int M)) s5 s6 s7 dd' dd' dd' dd' dd' s13 (.sh S) (.sh S) s16 s17 (.sh (.int M)) s19 s20) = .nxt (E23 s0 s1 s2 s3 (.sh (.int M)) s5 s6 s7 dd' dd' dd' dd' dd' s13 (.sh S) (.sh S) s16 s17 (.sh (.int M)) s19 s20) := by
  have e6 : neD (.int M) (.int M) = some (.sh (.bl false)) := by rw [neI]; simp
  simp [q__law_right_13, T, e6]
end
end LW
end

section
set_option Elab.async false
set_option linter.all false
set_option maxRecDepth 100000
set_option maxHeartbeats 1000000
/-! W9 (k03): what is no stretch; alike with words. -/
namespace E2
open PySem PySem.Spec PyProof.Rows L2 LW
theorem and2 {T1 T2 : ET} {ρ : E2.Env} {b1 b2 : Bool} (t1 : T1 ρ = .ok (b1, ρ)) (t2 : T2 ρ = .ok (b2, ρ)) : fAndT T1 T2 ρ = .ok (b1 && b2, ρ) := by
  cases b1 <;> simp [t1, t2]
end E2
namespace LW
open PySem PySem.Spec PyProof.Rows L2 E2
section
variable {n : Nat} {g a b : List Int} {k m : Nat} {d : Dt} {L : List (List Int)}
theorem same_seq {ds : List Dt} (hl : ds.length ≤ 16777216) (h : ∀ e ∈ ds, (RR.at_ (n + 1) d__law_same).run [.sh e, .sh e] = .ok (.sh (.bl true), [.dead, .dead])) : (RR.at_ (n + 2) d__law_same).run [.sh (.lst ds), .sh (.lst ds)] = .ok (.sh (.bl true), [.dead, .dead]) := by
  have key : ∀ s, lcS (gTupA (gsCons (gAsg 2) (gsCons (gAsg 3) gsNil))) fYes (share (fCall (RR.at_ (n + 1) d__law_same) [(.sl 2), (.sl 3)])) [2, 3] (ds.map fun d => .tup [d, d]) [] [s, s, .dead, .dead] = .ok (ds.map fun _ => .bl true, [s, s, .dead, .dead]) := fun s => by
    rw [lcS_all2 (R := fun d e => ∃ z, z ∈ ds ∧ d = .tup [z, z] ∧ e = .bl true) (fun d e ⟨z, h0, h1, h2⟩ => by
      subst h1 h2
      simp [h z h0]) (all2_map fun z hz => ⟨z, hz, rfl, rfl⟩) [], List.nil_append]
  have ha := all_map (fun _ : Dt => true) ds
  have h1 : (ds.all fun _ => true) = true := by simp
  rw [h1] at ha
  rw [r__law_same]
  simp [b__law_same, isTy, ne_bl, zip_self, hl, key, ha]
theorem word_ok : okR ((RR.at_ 16 d__law_same).run [.sh (.str "unfit"), .sh (.str "unfit")]) (.sh (.bl true)) 2 = true := by decide +kernel
theorem same_word : (RR.at_ 16 d__law_same).run [.sh (.str "unfit"), .sh (.str "unfit")] = .ok (.sh (.bl true), [.dead, .dead]) := okR_ok word_ok
theorem tree_sx (k : Nat) (a : List Int) (i : Int) (h : a.length ≤ 16777216) : Tree (k + 2) (sx a i) := .inr ⟨_, .inl rfl, by simp, fun e he => by
  simp only [List.mem_cons, List.not_mem_nil, or_false] at he
  rcases he with rfl | rfl
  · exact tree_tz k h
  · exact tree_i _ _⟩
/-! what is no stretch -/
theorem long_no (h : 2 ≤ n) (i : Int) {x : Dt} (hx : isiD [.tuple] x = some (.sh (.bl false))) : (RR.at_ n d_is_long).run [.sh x, .sh (.int i)] = .ok (.sh (.bl false), [.dead, .dead]) := by
  obtain ⟨n, rfl⟩ := Nat.exists_eq_add_of_le' h
  rw [r_is_long]
  simp [b_is_long, hx]
theorem member_no (h : 4 ≤ n) {x : Dt} (hx : isiD [.tuple] x = some (.sh (.bl false))) : (RR.at_ n d_is_member_in).run [.sh (tz g), .sh x] = .ok (.sh (.bl false), [.dead, .dead]) := by
  obtain ⟨n, rfl⟩ := Nat.exists_eq_add_of_le' (show 2 ≤ n by omega)
  have e := long_no (n := n + 1) (by omega) (g.length : Int) hx
  have l : lenD [tz g] = some (.sh (.int (g.length : Int))) := by simp [tz]
  rw [r_is_member_in]
  generalize (g.length : Int) = GL at *
  generalize tz g = G at *
  simp [b_is_member_in, e, l]
theorem stretch_no1 (h : 6 ≤ n) {x G : Dt} (e : ∀ k, 2 ≤ k → (RR.at_ k d_is_long).run [.sh x, .sh (.int 2)] = .ok (.sh (.bl false), [.dead, .dead])) : (RR.at_ n d_is_stretch_in).run [.sh G, .sh x] = .ok (.sh (.bl false), [.dead, .dead]) := by
  obtain ⟨n, rfl⟩ := Nat.exists_eq_add_of_le' (show 2 ≤ n by omega)
  have e := e (n + 1) (by omega)
  rw [r_is_stretch_in]
  simp [b_is_stretch_in, e]
theorem long_two (h : 2 ≤ n) (x y : Dt) : (RR.at_ n d_is_long).run [.sh (.tup [x, y]), .sh (.int 2)] = .ok (.sh (.bl true), [.dead, .dead]) := by
  have := s_is_long (n := n) h [x, y] 2
  rwa [decide_eq_true (show (([x, y].length : Int) = 2) from rfl)] at this
theorem stretch_no2 (h : 6 ≤ n) {x y G : Dt} (e : ∀ k, 4 ≤ k → (RR.at_ k d_is_member_in).run [.sh G, .sh x] = .ok (.sh (.bl false), [.dead, .dead])) : (RR.at_ n d_is_stretch_in).run [.sh G, .sh (.tup [x, y])] = .ok (.sh (.bl false), [.dead, .dead]) := by
  obtain ⟨n, rfl⟩ := Nat.exists_eq_add_of_le' (show 2 ≤ n by omega)
  have e := e (n + 1) (by omega)
  have e1 := long_two (n := n + 1) (by omega) x y
  have e2 := ix_head x [y]
  generalize Dt.tup [x, y] = X at *
  rw [r_is_stretch_in]
  simp [b_is_stretch_in, e, e1, e2]
theorem stretch_no3 (h : 6 ≤ n) (hg : Grp g) (ha : isM a g = true) (v : Bool) : (RR.at_ n d_is_stretch_in).run [.sh (tz g), .sh (.tup [tz a, .bl v])] = .ok (.sh (.bl false), [.dead, .dead]) := by
  obtain ⟨n, rfl⟩ := Nat.exists_eq_add_of_le' (show 4 ≤ n by omega)
  have hl := hg.len
  have e1 := long_two (n := n + 2 + 1) (by omega) (tz a) (.bl v)
  have e2 := s_is_member_in (n := n + 2 + 1) (by omega) (show g.length ≤ 100 by omega) ha
  have e3 := s_g_order (n := n + 2 + 1) (by omega) hg ha
  have e5 : ixD (.tup [tz a, .bl v]) (.int 0) = some (.sh (tz a)) := rfl
  have e6 : ixD (.tup [tz a, .bl v]) (.int 1) = some (.sh (.bl v)) := rfl
  have f1 : (RR.at_ (n + 2) d_is_number).run [.sh (.bl v)] = .ok (.sh (.bl false), [.dead]) := by
    rw [r_is_number]
    simp [b_is_number, isTy]
  have e4 : ∀ i j : Int, (RR.at_ (n + 2 + 1) d_is_within).run [.sh (.bl v), .sh (.int i), .sh (.int j)] = .ok (.sh (.bl false), [.dead, .dead, .dead]) := fun i j => by
    rw [show n + 2 + 1 = (n + 1) + 2 from rfl, r_is_within]
    simp [b_is_within, f1]
  rw [show n + 4 = (n + 2) + 2 from rfl, r_is_stretch_in]
  generalize Dt.tup [tz a, .bl v] = X at *
  generalize (ordF g a : Int) = O at *
  simp [b_is_stretch_in, e1, e2, e3, e4, e5, e6]
theorem member_one (h : 4 ≤ n) (hl : g.length ≤ 100) : (RR.at_ n d_is_member_in).run [.sh (tz g), .sh (.tup [tz a])] = .ok (.sh (.bl false), [.dead, .dead]) := by
  obtain ⟨n, rfl⟩ := Nat.exists_eq_add_of_le' (show 4 ≤ n by omega)
  have e1 := s_is_long (n := n + 2 + 1) (by omega) [tz a] (g.length : Int)
  have l : lenD [tz g] = some (.sh (.int (g.length : Int))) := by simp [tz]
  rw [show n + 4 = (n + 2) + 2 from rfl, r_is_member_in]
  by_cases h1 : g.length = 1
  · match g, h1 with
    | [q], _ =>
      rw [decide_eq_true (show ((([tz a] : List Dt).length : Int) = (([q] : List Int).length : Int)) from rfl)] at e1
      have f1 : (RR.at_ (n + 2) d_is_number).run [.sh (tz a)] = .ok (.sh (.bl false), [.dead]) := by
        rw [r_is_number]
        simp [b_is_number, isTy, tz]
      have e4 : ∀ i j : Int, (RR.at_ (n + 2 + 1) d_is_within).run [.sh (tz a), .sh (.int i), .sh (.int j)] = .ok (.sh (.bl false), [.dead, .dead, .dead]) := fun i j => by
        rw [show n + 2 + 1 = (n + 1) + 2 from rfl, r_is_within]
        simp [b_is_within, f1]
      have z : zip2D [tz a] ([q].map Dt.int) = [.tup [tz a, .int q]] := rfl
      have al : allD [.lst [.bl false]] = some (.sh (.bl false)) := rfl
      have sq : seqOf (.tup [tz a]) = some [tz a] := rfl
      have sq2 : seqOf (tz [q]) = some ([q].map Dt.int) := rfl
      generalize tz a = A at *
      simp [tz] at e1 l ⊢
      simp [b_is_member_in, e1, e4, l, al, zip2D, lcS]
  · rw [decide_eq_false (show ¬ ((([tz a] : List Dt).length : Int) = (g.length : Int)) by simp; omega)] at e1
    generalize (g.length : Int) = GL at *
    generalize tz g = G at *
    generalize Dt.tup [tz a] = X at *
    simp [b_is_member_in, e1, l]
theorem stretch_of (h : 8 ≤ n) (hg : Grp g) {x : Dt} (e : ∀ k, 6 ≤ k → (RR.at_ k d_is_stretch_in).run [.sh (tz g), .sh x] = .ok (.sh (.bl false), [.dead, .dead])) : (RR.at_ n d_is_stretch).run [.sh (tz g), .sh x] = .ok (.sh (.bl false), [.dead, .dead]) := by
  obtain ⟨n, rfl⟩ := Nat.exists_eq_add_of_le' (show 2 ≤ n by omega)
  have e1 := s_sure_group (n := n + 1) (by omega) hg (tu_g hg)
  have e2 := e (n + 1) (by omega)
  rw [r_is_stretch]
  simp [b_is_stretch, e1, e2]
def thingsL (a : List Int) (O M : Int) : List Dt := [.tup [tz a, .int 1], .tup [tz a, .int (O + 1)], .lst [tz a, .int M], .tup [tz a], .tup [tz a, .bl true], .tup [.int M, tz a], .non, .tup [.tup [tz a], .int M]]
theorem things_no (hg : Grp g) (ha : isM a g = true) (M : Int) : ∀ x ∈ thingsL a (ordF g a : Int) M, (RR.at_ 18 d_is_stretch).run [.sh (tz g), .sh x] = .ok (.sh (.bl false), [.dead, .dead]) := fun x hx => by
  have hl := hg.len
  simp only [thingsL, List.mem_cons, List.not_mem_nil, or_false] at hx
  rcases hx with rfl | rfl | rfl | rfl | rfl | rfl | rfl | rfl
  · have := s_is_stretch (n := 18) (by omega) hg ha 1
    rw [decide_eq_false (show ¬ ((2 : Int) ≤ 1) by omega)] at this
    exact this
  · have := s_is_stretch (n := 18) (by omega) hg ha (ordF g a + 1)
    rw [decide_eq_false (show ¬ ((ordF g a : Int) + 1 ≤ (ordF g a : Int)) by omega), Bool.and_false] at this
    exact this
  · exact stretch_of (by omega) hg fun k hk => stretch_no1 hk fun j hj => long_no hj 2 rfl
  · refine stretch_of (by omega) hg fun k hk => stretch_no1 hk fun j hj => ?_
    have := s_is_long (n := j) hj [tz a] 2
    rwa [decide_eq_false (show ¬ ((([tz a] : List Dt).length : Int) = 2) by simp)] at this
  · exact stretch_of (by omega) hg fun k hk => stretch_no3 hk hg ha true
  · exact stretch_of (by omega) hg fun k hk => stretch_no2 hk fun j hj => member_no hj rfl
  · exact stretch_of (by omega) hg fun k hk => stretch_no1 hk fun j hj => long_no hj 2 rfl
  · exact stretch_of (by omega) hg fun k hk => stretch_no2 hk fun j hj => member_one hj (by omega)
end
end LW
end

section
set_option Elab.async false
set_option linter.all false
set_option maxRecDepth 100000
set_option maxHeartbeats 1000000
/-! W10 (k03): right, the later steps. -/
namespace LW
open PySem PySem.Spec PyProof.Rows L2 E2
section
variable {g a b : List Int} {k m : Nat} {d : Dt} {L : List (List Int)}
variable (s0 s1 s2 s3 s4 s5 s6 s7 s8 s9 s10 s11 s12 s13 s14 s15 s16 s17 s18 s19 s20 : E2.Slot)
theorem y14 (ht : TinOk k d) (hk : k ≤ 90000) (hg : g ∈ menu) (ha : isM a g = true) (m1 : 1 ≤ m) (hm : m ≤ ordF g a) : ∃ (L : List (List Int)) (d' : Dt), Lot g L ∧ TinOk (k + 1001) d' ∧ q__law_right_14 17 (E23 (.ow d) (.sh (tz g)) (.sh (tz a)) s3 s4 s5 s6 s7 dd' dd' dd' dd' dd' s13 (.sh (.tup ((st g a m).map tz))) s15 s16 s17 s18 s19 s20) = .nxt (E23 (.ow d') (.sh (tz g)) (.sh (tz a)) s3 s4 s5 s6 s7 (.sh (.tup (L.map tz))) dd' dd' dd' dd' s13 (.sh (.tup ((st g a m).map tz))) s15 s16 s17 s18 s19 s20) := by
  obtain ⟨G', hz, _, _⟩ := grp_of hg
  have l := st_lot hg ha m1 hm
  have e1 := s_moved (n := 18) (by omega) G' l.1.mem ha l.1.len
  rw [show sortI ((st g a m).map fun x => zp (· + ·) x a g) = moved g a (st g a m) from rfl] at e1
  obtain ⟨X, d1, hX, t1, e2⟩ := s_lot (n := 18) (by omega) ht G' (by omega) (b := 5) (by omega) (by omega) (by omega)
  obtain ⟨z, d2, hz2, t2, e3⟩ := s_of (n := 18) (by omega) t1 (by omega) (ds := [st g a m, moved g a (st g a m), X].map fun L => .tup (L.map tz)) (by simp) (by simp)
  obtain ⟨L, hL, rfl⟩ := List.mem_map.mp hz2
  refine ⟨L, d2, ?_, t2, ?_⟩
  · simp only [List.mem_cons, List.not_mem_nil, or_false] at hL
    rcases hL with rfl | rfl | rfl
    · exact l.1
    · exact moved_lot G' l.1 ha
    · exact hX
  · simp only [List.map_cons, List.map_nil] at e3
    generalize (moved g a (st g a m)).map tz = M1 at *
    generalize (st g a m).map tz = M2 at *
    generalize X.map tz = M3 at *
    generalize L.map tz = M4 at *
    simp [q__law_right_14, e1, e2, e3]
theorem t15a {G S X : Dt} {LI : Int} (ll : lenD [S] = some (.sh (.int LI))) : share (fB [(.sl 8)] lenD) [s0, .sh G, s2, s3, s4, s5, s6, s7, .sh S, dd', dd', dd', dd', s13, s14, s15, s16, s17, s18, s19, s20, .sh X, .dead] = .ok (.int LI, [s0, .sh G, s2, s3, s4, s5, s6, s7, .sh S, dd', dd', dd', dd', s13, s14, s15, s16, s17, s18, s19, s20, .sh X, .dead]) := by
  simp [ll]
theorem t15b {G S X : Dt} {O1 : Int} (e3 : (RR.at_ 18 d__law_order).run [.sh G, .sh X] = .ok (.sh (.int O1), [.dead, .dead])) : share (fCall (RR.at_ 18 d__law_order) [(.sl 1), (.sl 21)]) [s0, .sh G, s2, s3, s4, s5, s6, s7, .sh S, dd', dd', dd', dd', s13, s14, s15, s16, s17, s18, s19, s20, .sh X, .dead] = .ok (.int O1, [s0, .sh G, s2, s3, s4, s5, s6, s7, .sh S, dd', dd', dd', dd', s13, s14, s15, s16, s17, s18, s19, s20, .sh X, .dead]) := by
  simp [e3]
theorem t15c {G S X M1 : Dt} {LI : Int} {BB : Bool} (ll : lenD [S] = some (.sh (.int LI))) (e4 : (RR.at_ 18 d__law_steps_lot).run [.sh G, .sh X, .sh (.int LI)] = .ok (.sh M1, [.dead, .dead, .dead])) (e5 : eqD M1 S = some (.sh (.bl BB))) : (fTe (f2 (.ex (share (fCall (RR.at_ 18 d__law_steps_lot) [(.sl 1), (.sl 21), (.ex (share (fB [(.sl 8)] lenD)))]))) (.sl 8) eqD)) [s0, .sh G, s2, s3, s4, s5, s6, s7, .sh S, dd', dd', dd', dd', s13, s14, s15, s16, s17, s18, s19, s20, .sh X, .dead] = .ok (BB, [s0, .sh G, s2, s3, s4, s5, s6, s7, .sh S, dd', dd', dd', dd', s13, s14, s15, s16, s17, s18, s19, s20, .sh X, .dead]) := by
  simp [ll, e4, e5]
theorem t15d {G S X : Dt} {LI : Int} (ll : lenD [S] = some (.sh (.int LI))) : (share (fSeq (fun ds => .sh (.tup ds)) [(eName 21), (share (fB [(.sl 8)] lenD))])) [s0, .sh G, s2, s3, s4, s5, s6, s7, .sh S, dd', dd', dd', dd', s13, s14, s15, s16, s17, s18, s19, s20, .sh X, .dead] = .ok (.tup [X, .int LI], [s0, .sh G, s2, s3, s4, s5, s6, s7, .sh S, dd', dd', dd', dd', s13, s14, s15, s16, s17, s18, s19, s20, .sh X, .dead]) := by
  simp [ll]
theorem y15 (hg : g ∈ menu) (hL : Lot g L) : q__law_right_15 17 (E23 s0 (.sh (tz g)) s2 s3 s4 s5 s6 s7 (.sh (.tup (L.map tz))) dd' dd' dd' dd' s13 s14 s15 s16 s17 s18 s19 s20) = .nxt (E23 s0 (.sh (tz g)) s2 s3 s4 s5 s6 s7 (.sh (.tup (L.map tz))) (.ow (.lst ((L.filter (isSt g L)).map fun s => sx s L.length))) dd' dd' dd' s13 s14 s15 s16 s17 s18 s19 s20) := by
  obtain ⟨G', hz, hn, _⟩ := grp_of hg
  have F := menu_facts hg
  have hl := G'.len
  have zL := hL.len
  have e1 := s_members (n := 18) (by omega) F.q (by omega)
  have ll : lenD [.tup (L.map tz)] = some (.sh (.int L.length)) := by simp
  have key := lcS_fm (a := gAsg 21) (t := (fAndT (fTe (fChain (.ex (share (fC (.int 2)))) (.ex (share (fB [(.sl 8)] lenD))) (.ex (share (fCall (RR.at_ 18 d__law_order) [(.sl 1), (.sl 21)]))) leD leD)) (fTe (f2 (.ex (share (fCall (RR.at_ 18 d__law_steps_lot) [(.sl 1), (.sl 21), (.ex (share (fB [(.sl 8)] lenD)))]))) (.sl 8) eqD)))) (f := (share (fSeq (fun ds => .sh (.tup ds)) [(eName 21), (share (fB [(.sl 8)] lenD))]))) (vs := [21]) (ρ := E23 s0 (.sh (tz g)) s2 s3 s4 s5 s6 s7 (.sh (.tup (L.map tz))) dd' dd' dd' dd' s13 s14 s15 s16 s17 s18 s19 s20) tz (fun s => sx s L.length) (isSt g L) (memsL g) [] fun s hs => by
    have ms := memsL_mem hs
    have O := ord_t hg ms
    have e3 := s_law_order (n := 18) (by omega) G' (by omega) s
    rw [O.walk] at e3
    have e4 := s_steps_lot (n := 18) (by omega) G' ms (show L.length ≤ 1000 by omega)
    have e5 := eq_tups (st g s L.length) L
    refine ⟨[s0, .sh (tz g), s2, s3, s4, s5, s6, s7, .sh (.tup (L.map tz)), dd', dd', dd', dd', s13, s14, s15, s16, s17, s18, s19, s20, .sh (tz s), .dead], [s0, .sh (tz g), s2, s3, s4, s5, s6, s7, .sh (.tup (L.map tz)), dd', dd', dd', dd', s13, s14, s15, s16, s17, s18, s19, s20, .sh (tz s), .dead], rfl, ?_, fun _ => rfl, fun _ => ⟨[s0, .sh (tz g), s2, s3, s4, s5, s6, s7, .sh (.tup (L.map tz)), dd', dd', dd', dd', s13, s14, s15, s16, s17, s18, s19, s20, .sh (tz s), .dead], ?_, rfl⟩⟩
    · have ie : isSt g L s = (goodL g L s && decide (st g s L.length = L)) := by rw [isSt_eq, Bool.and_comm]
      rw [ie]
      exact and2 (chain2 (t15a s0 s2 s3 s4 s5 s6 s7 s13 s14 s15 s16 s17 s18 s19 s20 ll) (t15b s0 s2 s3 s4 s5 s6 s7 s13 s14 s15 s16 s17 s18 s19 s20 e3)) (t15c s0 s2 s3 s4 s5 s6 s7 s13 s14 s15 s16 s17 s18 s19 s20 ll e4 e5)
    · exact t15d s0 s2 s3 s4 s5 s6 s7 s13 s14 s15 s16 s17 s18 s19 s20 ll
  rw [List.nil_append, st_filters hg hL] at key
  have z1 : ((memsL g).map tz).length ≤ 16777216 := by have := F.z; rw [List.length_map]; omega
  have i1 : fItems (share (fCall (RR.at_ 18 d__law_members) [(.sl 1)])) (E23 s0 (.sh (tz g)) s2 s3 s4 s5 s6 s7 (.sh (.tup (L.map tz))) dd' dd' dd' dd' s13 s14 s15 s16 s17 s18 s19 s20) = .ok ((memsL g).map tz, E23 s0 (.sh (tz g)) s2 s3 s4 s5 s6 s7 (.sh (.tup (L.map tz))) dd' dd' dd' dd' s13 s14 s15 s16 s17 s18 s19 s20) := by
    generalize L.map tz = LM at *
    generalize (memsL g).map tz = MM at *
    simp [e1]
  have c1 := lc_ok i1 z1 rfl key rfl
  have asg : ∀ (C : EV) (x : Dt) (s8 : E2.Slot), C (E23 s0 (.sh (tz g)) s2 s3 s4 s5 s6 s7 s8 dd' dd' dd' dd' s13 s14 s15 s16 s17 s18 s19 s20) = .ok (.ow x, E23 s0 (.sh (tz g)) s2 s3 s4 s5 s6 s7 s8 dd' dd' dd' dd' s13 s14 s15 s16 s17 s18 s19 s20) → fAsg 9 C (E23 s0 (.sh (tz g)) s2 s3 s4 s5 s6 s7 s8 dd' dd' dd' dd' s13 s14 s15 s16 s17 s18 s19 s20) = .nxt (E23 s0 (.sh (tz g)) s2 s3 s4 s5 s6 s7 s8 (.ow x) dd' dd' dd' s13 s14 s15 s16 s17 s18 s19 s20) := fun C x s8 h => by
    simp [h]
  exact asg _ _ _ c1
theorem y16 (ht : TinOk k d) (hk : k ≤ 100000) : ∃ (j : Int) (d' : Dt), 1 ≤ j ∧ j ≤ 40 ∧ TinOk (k + 1) d' ∧ q__law_right_16 17 (E23 (.ow d) s1 s2 s3 s4 s5 s6 s7 s8 s9 dd' dd' dd' s13 s14 s15 s16 s17 s18 s19 s20) = .nxt (E23 (.ow d') s1 s2 s3 s4 s5 s6 s7 s8 s9 (.sh (.int j)) dd' dd' s13 s14 s15 s16 s17 s18 s19 s20) := by
  obtain ⟨r, d', r1, r2, t, e⟩ := s_take (n := 18) (by omega) ht (by omega) (b := 40) (by omega) (by omega)
  refine ⟨1 + r, d', by omega, by omega, t, ?_⟩
  simp [q__law_right_16, e]
theorem y17 (hg : Grp g) {j : Int} (j1 : 1 ≤ j) (j2 : j ≤ 40) : q__law_right_17 17 (E23 s0 (.sh (tz g)) (.sh (tz a)) s3 s4 s5 s6 s7 s8 s9 (.sh (.int j)) dd' dd' s13 s14 s15 s16 s17 s18 s19 s20) = .nxt (E23 s0 (.sh (tz g)) (.sh (tz a)) s3 s4 s5 s6 s7 s8 s9 (.sh (.int j)) (.sh (tz (oft j a g))) dd' s13 s14 s15 s16 s17 s18 s19 s20) := by
  have hl := hg.len
  have e := s_law_often (n := 18) (by omega) (pos_of hg) (show g.length ≤ 100 by omega) a j (by omega) (by omega)
  simp [q__law_right_17, e]
theorem y18 {G S X R2 : Dt} {j : Int} {RL : List Dt} {S2 : E2.Slot} (e1 : (RR.at_ 18 d_lot_stretches).run [.sh G, .sh S] = .ok (.ow (.lst RL), [.dead, .dead])) (e2 : (RR.at_ 18 d__law_times).run [.sh G, .sh X, .sh (.int j)] = .ok (S2, [.dead, .dead, .dead])) (h : S2 = .sh R2 ∨ S2 = .ow R2) : q__law_right_18 17 (E23 s0 (.sh G) s2 s3 s4 s5 s6 s7 (.sh S) s9 (.sh (.int j)) s11 s12 (.sh X) s14 s15 s16 s17 s18 s19 s20) = .nxt (E23 s0 (.sh G) s2 s3 s4 s5 (.ow (.lst [.lst RL, R2])) s7 (.sh S) s9 (.sh (.int j)) s11 s12 (.sh X) s14 s15 s16 s17 s18 s19 s20) := by
  rcases h with rfl | rfl
  · simp [q__law_right_18, e1, e2]
  · simp [q__law_right_18, e1, e2]
theorem y19 {G B R2 : Dt} {RL : List Dt} {O2 M : Int} (T : (RR.at_ 18 d__law_same).run [.sh (.lst [.lst RL, R2]), .sh (.lst [.lst RL, R2])] = .ok (.sh (.bl true), [.dead, .dead])) (eo : (RR.at_ 18 d__law_order).run [.sh G, .sh B] = .ok (.sh (.int O2), [.dead, .dead])) (h : (M ≤ O2 ∧ R2 = .tup [B, .int M]) ∨ (¬ M ≤ O2 ∧ R2 = .lst [.str "unfit", .bl true])) : q__law_right_19 17 (E23 s0 (.sh G) s2 s3 (.sh (.int M)) s5 (.ow (.lst [.lst RL, R2])) s7 s8 (.ow (.lst RL)) s10 (.sh B) s12 s13 s14 s15 s16 s17 s18 s19 s20) = .nxt (E23 s0 (.sh G) s2 s3 (.sh (.int M)) s5 (.sh (.lst [.lst RL, R2])) s7 s8 (.sh (.lst RL)) s10 (.sh B) s12 s13 s14 s15 s16 s17 s18 s19 s20) := by
  rcases h with ⟨h, rfl⟩ | ⟨h, rfl⟩
  · simp [q__law_right_19, T, eo, h]
  · simp [q__law_right_19, T, eo, h]
theorem y20 {O M : Int} : q__law_right_20 17 (E23 s0 s1 (.sh (tz a)) (.sh (.int O)) (.sh (.int M)) s5 s6 s7 s8 s9 s10 s11 dd' s13 s14 s15 s16 s17 s18 s19 s20) = .nxt (E23 s0 s1 (.sh (tz a)) (.sh (.int O)) (.sh (.int M)) s5 s6 s7 s8 s9 s10 s11 (.ow (.lst (thingsL a O M))) s13 s14 s15 s16 s17 s18 s19 s20) := by
  unfold thingsL
  generalize tz a = A at *
  simp [q__law_right_20]
theorem y21 {G : Dt} {ds : List Dt} (h8 : ds.length = 8) (h : ∀ x ∈ ds, (RR.at_ 18 d_is_stretch).run [.sh G, .sh x] = .ok (.sh (.bl false), [.dead, .dead])) : ∃ ρ, q__law_right_21 17 (E23 s0 (.sh G) s2 s3 s4 s5 s6 s7 s8 s9 s10 s11 (.ow (.lst ds)) s13 s14 s15 s16 s17 s18 s19 s20) = .ret (.sh (.bl true)) (s0 :: ρ) := by
  have key : lcS (gAsg 22) fYes (share (fCall (RR.at_ (17 + 1) d_is_stretch) [(.sl 1), (.sl 22)])) [22] ds [] (E23 s0 (.sh G) s2 s3 s4 s5 s6 s7 s8 s9 s10 s11 (.sh (.lst ds)) s13 s14 s15 s16 s17 s18 s19 s20) = .ok (ds.map fun _ => .bl false, E23 s0 (.sh G) s2 s3 s4 s5 s6 s7 s8 s9 s10 s11 (.sh (.lst ds)) s13 s14 s15 s16 s17 s18 s19 s20) := by
    have := lcS_all2 (a := gAsg 22) (f := share (fCall (RR.at_ (17 + 1) d_is_stretch) [(.sl 1), (.sl 22)])) (vs := [22]) (ρ := E23 s0 (.sh G) s2 s3 s4 s5 s6 s7 s8 s9 s10 s11 (.sh (.lst ds)) s13 s14 s15 s16 s17 s18 s19 s20) (R := fun d e => d ∈ ds ∧ e = .bl false) (fun d e ⟨h1, h2⟩ => by
      subst h2
      have e := h d h1
      refine ⟨[s0, .sh G, s2, s3, s4, s5, s6, s7, s8, s9, s10, s11, .sh (.lst ds), s13, s14, s15, s16, s17, s18, s19, s20, .dead, .sh d], [s0, .sh G, s2, s3, s4, s5, s6, s7, s8, s9, s10, s11, .sh (.lst ds), s13, s14, s15, s16, s17, s18, s19, s20, .dead, .sh d], rfl, ?_, rfl⟩
      simp [e]) (ds := ds.map id) (es := ds.map fun _ => .bl false) (all2_map fun z hz => ⟨hz, rfl⟩) []
    rw [List.map_id, List.nil_append] at this
    exact this
  have it : fItems (eName 12) (E23 s0 (.sh G) s2 s3 s4 s5 s6 s7 s8 s9 s10 s11 (.ow (.lst ds)) s13 s14 s15 s16 s17 s18 s19 s20) = .ok (ds, E23 s0 (.sh G) s2 s3 s4 s5 s6 s7 s8 s9 s10 s11 (.sh (.lst ds)) s13 s14 s15 s16 s17 s18 s19 s20) := by simp
  have c1 : fLc (fItems (eName 12)) (gAsg 22) fYes (share (fCall (RR.at_ (17 + 1) d_is_stretch) [(.sl 1), (.sl 22)])) [22] (E23 s0 (.sh G) s2 s3 s4 s5 s6 s7 s8 s9 s10 s11 (.ow (.lst ds)) s13 s14 s15 s16 s17 s18 s19 s20) = .ok (.ow (.lst (ds.map fun _ => .bl false)), E23 s0 (.sh G) s2 s3 s4 s5 s6 s7 s8 s9 s10 s11 (.sh (.lst ds)) s13 s14 s15 s16 s17 s18 s19 s20) := lc_ok it (by omega) rfl key rfl
  have e8 : ds.map (fun _ => Dt.bl false) = List.replicate 8 (.bl false) := by
    rw [List.map_const', h8]
  rw [e8] at c1
  have T := s_same 2 (n := 18) (by omega) (d := .lst (List.replicate 8 (.bl false))) (tree_lst 1 (by simp) fun e he => by
    rw [(List.mem_replicate.mp he).2]
    exact tree_b _ _)
  have e9 : mulD (.lst [.bl false]) (.int 8) = some (.ow (.lst (List.replicate 8 (.bl false)))) := rfl
  refine ⟨[.sh G, s2, s3, s4, s5, s6, s7, s8, s9, s10, s11, .sh (.lst ds), s13, s14, s15, s16, s17, s18, s19, s20, .dead, .dead], ?_⟩
  have fin : ∀ (C : EV) (R8 : List Dt) (ρ ρ1 : E2.Env), C ρ = .ok (.ow (.lst R8), ρ1) → (RR.at_ 18 d__law_same).run [.sh (.lst R8), .sh (.lst R8)] = .ok (.sh (.bl true), [.dead, .dead]) → mulD (.lst [.bl false]) (.int 8) = some (.ow (.lst R8)) → (fRet (fCall (RR.at_ (17 + 1) d__law_same) [(.ex (share C)), (.ex (share (f2 (.ex (share (fSeq (fun ds => .ow (.lst ds)) [(share (fC (.bl false)))]))) (.ex (share (fC (.int 8)))) mulD)))])) ρ = .ret (.sh (.bl true)) ρ1 := fun C R8 ρ ρ1 h1 h2 h3 => by
    simp [h1, h2, h3]
  exact fin _ _ _ _ c1 T e9
end
end LW
end

section
set_option Elab.async false
set_option linter.all false
set_option maxRecDepth 100000
set_option maxHeartbeats 1000000
/-! W11 (k03): right, whole; the law. -/
namespace LW
open PySem PySem.Spec PyProof.Rows L2 E2
def q_law_1 (n : Nat) : SF := (fAsg 1 (fCall (RR.at_ (n + 1) d__law_box) [(.ex (share (fCall (RR.at_ (n + 1) d__law_cells) [(.sl 0), (.ex (share (fC (.int 1))))]))), (.ex (share (fC (.int 0))))]))
def q_law_2 (n : Nat) : SF := (fIf (fNotT (fTr (.ex (share (fB [(.ex (share (fLc (fRng1 (share (fC (.int 7)))) (gAsg 2) fYes (share (fCall (RR.at_ (n + 1) d__law_right) [(.sl 1)])) [2])))] allD))))) (fSeq2 (fRet (fC (.bl false))) fNil) fNil)
def q_law_3 (n : Nat) : SF := (fRet (fCall (RR.at_ (n + 1) d__law_same) [(.ex (share (fSeq (fun ds => .ow (.lst ds)) [(share (fCall (RR.at_ (n + 1) d_stretch_parts) [(.ex (share (fSeq (fun ds => .sh (.tup ds)) [(share (fC (.int 24)))]))), (.ex (share (fSeq (fun ds => .sh (.tup ds)) [(share (fSeq (fun ds => .sh (.tup ds)) [(share (fC (.int 1)))])), (share (fC (.int 12)))])))])), (share (fCall (RR.at_ (n + 1) d_lot_stretches) [(.ex (share (fSeq (fun ds => .sh (.tup ds)) [(share (fC (.int 6)))]))), (.ex (share (fSeq (fun ds => .sh (.tup ds)) [(share (fSeq (fun ds => .sh (.tup ds)) [(share (fC (.int 0)))])), (share (fSeq (fun ds => .sh (.tup ds)) [(share (fC (.int 1)))])), (share (fSeq (fun ds => .sh (.tup ds)) [(share (fC (.int 5)))]))])))])), (share (fCall (RR.at_ (n + 1) d_lot_stretches) [(.ex (share (fSeq (fun ds => .sh (.tup ds)) [(share (fC (.int 5)))]))), (.ex (share (fSeq (fun ds => .sh (.tup ds)) [(share (fSeq (fun ds => .sh (.tup ds)) [(share (fC (.int 0)))])), (share (fSeq (fun ds => .sh (.tup ds)) [(share (fC (.int 2)))]))])))]))]))), (.ex (share (fSeq (fun ds => .ow (.lst ds)) [(share (fSeq (fun ds => .sh (.tup ds)) [(share (fSeq (fun ds => .sh (.tup ds)) [(share (fSeq (fun ds => .sh (.tup ds)) [(share (fC (.int 1)))])), (share (fC (.int 2)))])), (share (fSeq (fun ds => .sh (.tup ds)) [(share (fSeq (fun ds => .sh (.tup ds)) [(share (fC (.int 2)))])), (share (fC (.int 2)))])), (share (fSeq (fun ds => .sh (.tup ds)) [(share (fSeq (fun ds => .sh (.tup ds)) [(share (fC (.int 4)))])), (share (fC (.int 3)))]))])), (share (fSeq (fun ds => .ow (.lst ds)) [])), (share (fSeq (fun ds => .ow (.lst ds)) [(share (fSeq (fun ds => .sh (.tup ds)) [(share (fSeq (fun ds => .sh (.tup ds)) [(share (fC (.int 2)))])), (share (fC (.int 2)))]))]))])))]))
theorem b_law_eq (n : Nat) : b_law n = (fSeq2 (q_law_1 n) (fSeq2 (q_law_2 n) (fSeq2 (q_law_3 n) fNil))) := rfl
section
variable {g a b : List Int} {k m : Nat} {d : Dt} {L : List (List Int)}
theorem s_right (ht : TinOk k d) (hk : k ≤ 50000) : ∃ d', TinOk (k + 1100) d' ∧ (RR.at_ 19 d__law_right).run [.ow d] = .ok (.sh (.bl true), [.ow d']) := by
  obtain ⟨g, d1, hg, t1, q1⟩ := y1 ht (by omega)
  obtain ⟨G', hz, hn, _⟩ := grp_of hg
  have hl := G'.len
  obtain ⟨a, d2, ha, t2, q2⟩ := y2 t1 (by omega) G'
  have O := ord_t hg ha
  have o36 := O.le
  have opos := O.pos
  have q3 := y3 hg ha (.ow d2)
  rw [r__law_right 17, b__law_right_eq]
  by_cases h1 : ordF g a = 1
  · obtain ⟨ρ, q4⟩ := y4a hg ha h1 (.ow d2)
    refine ⟨d2, t2.mono (by omega), ?_⟩
    rw [x_seq2, q1, x_then, x_seq2, q2, x_then, x_seq2, q3, x_then, x_seq2, q4]
    rfl
  · have q4 := y4b (O := (ordF g a : Int)) (by omega) (.ow d2) (.sh (tz g)) (.sh (tz a))
    obtain ⟨m, d3, m2, hm', t3, q5⟩ := y5 t2 (by omega) (O := (ordF g a : Int)) (by omega) (by omega) (.sh (tz g)) (.sh (tz a))
    have hm : m ≤ ordF g a := by omega
    have l := st_lot hg ha (show 1 ≤ m by omega) hm
    have q6 := y6 G' ha (show m ≤ 1000 by omega) (.ow d3) (.sh (.int (ordF g a : Int)))
    have q7 := y7 (M := (m : Int)) (O := (ordF g a : Int)) (.ow d3) (.sh (tz g)) (.sh (tz a)) (.sh (sx a m)) (.sh (.tup ((st g a m).map tz)))
    rw [show decide ((m : Int) = (ordF g a : Int)) = decide (m = ordF g a) by rw [decide_eq_decide]; omega] at q7
    have q8 := y8 hg ha m2 hm (.ow d3) (.sh (tz a)) (.sh (.int (ordF g a : Int))) (.sh (.int (m : Int))) (.sh (.bl (decide (m = ordF g a))))
    have q9 := y9 hg ha m2 hm (.ow d3) (.sh (tz a)) (.sh (.int (ordF g a : Int))) (.sh (sx a m))
    have q10 := y10 hg ha m2 hm (.ow d3) (.sh (tz a)) (.sh (.int (ordF g a : Int))) (.sh (.int (m : Int))) (.sh (.bl (decide (m = ordF g a)))) (.sh (.lst (got1 g a m))) (.sh (.tup ((st g a m).map tz)))
    have q11 := y11 hg ha (.ow d3) (.sh (.int (ordF g a : Int))) (.sh (.int (m : Int))) (.sh (.bl (decide (m = ordF g a)))) (.sh (.lst (got1 g a m))) (.sh (.tup ((partsF g a (primesT m)).map pxD))) (.sh (sx a m)) (.sh (.tup ((st g a m).map tz)))
    obtain ⟨s16, s17, s19, s20, q12⟩ := y12 (.ow d3) (.sh (tz a)) (.sh (.int (ordF g a : Int))) (.sh (.int (m : Int))) (.sh (.bl (decide (m = ordF g a)))) (.sh (.lst (got1 g a m))) (.sh (sx a m)) (.sh (.tup ((st g a m).map tz))) hg ha m2 hm
    have T13 := s_same 2 (n := 18) (by omega) (d := .tup ((st g a m).map tz)) (tree_lot 0 (by have := l.1.len; omega) fun x hx => by have := isM_len (l.1.mem x hx); omega)
    have q13 := y13 (.ow d3) (.sh (tz g)) (.sh (tz a)) (.sh (.int (ordF g a : Int))) (.sh (.bl (decide (m = ordF g a)))) (.sh (.lst (got1 g a m))) (.sh (.tup ((partsF g a (primesT m)).map pxD))) (.sh (sx a m)) (M := (m : Int)) T13 s16 s17 s19 s20
    obtain ⟨L, d4, hL, t4, q14⟩ := y14 (.sh (.int (ordF g a : Int))) (.sh (.int (m : Int))) (.sh (.bl (decide (m = ordF g a)))) (.sh (.lst (got1 g a m))) (.sh (.tup ((partsF g a (primesT m)).map pxD))) (.sh (sx a m)) (.sh (.tup ((st g a m).map tz))) s16 s17 (.sh (.int (m : Int))) s19 s20 t3 (by omega) hg ha (by omega) hm
    have zL := hL.len
    have q15 := y15 (.ow d4) (.sh (tz a)) (.sh (.int (ordF g a : Int))) (.sh (.int (m : Int))) (.sh (.bl (decide (m = ordF g a)))) (.sh (.lst (got1 g a m))) (.sh (.tup ((partsF g a (primesT m)).map pxD))) (.sh (sx a m)) (.sh (.tup ((st g a m).map tz))) (.sh (.tup ((st g a m).map tz))) s16 s17 (.sh (.int (m : Int))) s19 s20 hg hL
    obtain ⟨j, d5, j1, j2, t5, q16⟩ := y16 (.sh (tz g)) (.sh (tz a)) (.sh (.int (ordF g a : Int))) (.sh (.int (m : Int))) (.sh (.bl (decide (m = ordF g a)))) (.sh (.lst (got1 g a m))) (.sh (.tup ((partsF g a (primesT m)).map pxD))) (.sh (.tup (L.map tz))) (.ow (.lst ((L.filter (isSt g L)).map fun s => sx s L.length))) (.sh (sx a m)) (.sh (.tup ((st g a m).map tz))) (.sh (.tup ((st g a m).map tz))) s16 s17 (.sh (.int (m : Int))) s19 s20 t4 (by omega)
    have q17 := y17 (a := a) (.ow d5) (.sh (.int (ordF g a : Int))) (.sh (.int (m : Int))) (.sh (.bl (decide (m = ordF g a)))) (.sh (.lst (got1 g a m))) (.sh (.tup ((partsF g a (primesT m)).map pxD))) (.sh (.tup (L.map tz))) (.ow (.lst ((L.filter (isSt g L)).map fun s => sx s L.length))) (.sh (sx a m)) (.sh (.tup ((st g a m).map tz))) (.sh (.tup ((st g a m).map tz))) s16 s17 (.sh (.int (m : Int))) s19 s20 G' j1 j2
    have hb := oft_mem j ha
    have lb := isM_len hb
    have e1 := s_lot_stretches (n := 18) (by omega) hg hL
    have e2 := s_law_times (n := 18) (by omega) G' ha m2 hm (k := j) (by omega) (by omega)
    have eo := s_law_order (n := 18) (by omega) G' (by omega) (oft j a g)
    rw [(ord_t hg hb).walk] at eo
    have cases : ∃ (S2 : E2.Slot) (R2 : Dt), (RR.at_ 18 d__law_times).run [.sh (tz g), .sh (sx a m), .sh (.int j)] = .ok (S2, [.dead, .dead, .dead]) ∧ (S2 = .sh R2 ∨ S2 = .ow R2) ∧ (((m : Int) ≤ (ordF g (oft j a g) : Int) ∧ R2 = .tup [tz (oft j a g), .int (m : Int)]) ∨ (¬ (m : Int) ≤ (ordF g (oft j a g) : Int) ∧ R2 = .lst [.str "unfit", .bl true])) ∧ (RR.at_ 17 d__law_same).run [.sh R2, .sh R2] = .ok (.sh (.bl true), [.dead, .dead]) := by
      by_cases h : m ≤ ordF g (oft j a g)
      · rw [if_pos h] at e2
        exact ⟨_, sx (oft j a g) m, e2, .inl rfl, .inl ⟨by omega, rfl⟩, s_same 2 (n := 17) (by omega) (tree_sx 0 _ _ (by omega))⟩
      · rw [if_neg h] at e2
        refine ⟨_, .lst [.str "unfit", .bl true], e2, .inr rfl, .inr ⟨by omega, rfl⟩, same_seq (n := 15) (by simp) fun e he => ?_⟩
        simp only [List.mem_cons, List.not_mem_nil, or_false] at he
        rcases he with rfl | rfl
        · exact same_word
        · exact s_same 0 (n := 16) (by omega) (tree_b 0 true)
    obtain ⟨S2, R2, c1, c2, c3, c4⟩ := cases
    have T19 : (RR.at_ 18 d__law_same).run [.sh (.lst [.lst ((L.filter (isSt g L)).map fun s => sx s L.length), R2]), .sh (.lst [.lst ((L.filter (isSt g L)).map fun s => sx s L.length), R2])] = .ok (.sh (.bl true), [.dead, .dead]) := same_seq (n := 16) (by simp) fun e he => by
      simp only [List.mem_cons, List.not_mem_nil, or_false] at he
      rcases he with rfl | rfl
      · refine s_same 3 (n := 17) (by omega) (tree_lst 2 (by rw [List.length_map]; exact Nat.le_trans (List.length_filter_le _ _) (by omega)) fun e he => ?_)
        obtain ⟨s, hs, rfl⟩ := List.mem_map.mp he
        exact tree_sx 0 s _ (by have := isM_len (hL.mem s (List.mem_filter.mp hs).1); omega)
      · exact c4
    have q18 := y18 (.ow d5) (.sh (tz a)) (.sh (.int (ordF g a : Int))) (.sh (.int (m : Int))) (.sh (.bl (decide (m = ordF g a)))) (.sh (.lst (got1 g a m))) (.sh (.tup ((partsF g a (primesT m)).map pxD))) (.ow (.lst ((L.filter (isSt g L)).map fun s => sx s L.length))) (.sh (tz (oft j a g))) dd' (.sh (.tup ((st g a m).map tz))) (.sh (.tup ((st g a m).map tz))) s16 s17 (.sh (.int (m : Int))) s19 s20 e1 c1 c2
    have q19 := y19 (.ow d5) (.sh (tz a)) (.sh (.int (ordF g a : Int))) (.sh (.bl (decide (m = ordF g a)))) (.sh (.tup ((partsF g a (primesT m)).map pxD))) (.sh (.tup (L.map tz))) (.sh (.int j)) dd' (.sh (sx a m)) (.sh (.tup ((st g a m).map tz))) (.sh (.tup ((st g a m).map tz))) s16 s17 (.sh (.int (m : Int))) s19 s20 T19 eo c3
    have q20 := y20 (a := a) (O := (ordF g a : Int)) (M := (m : Int)) (.ow d5) (.sh (tz g)) (.sh (.bl (decide (m = ordF g a)))) (.sh (.lst [.lst ((L.filter (isSt g L)).map fun s => sx s L.length), R2])) (.sh (.tup ((partsF g a (primesT m)).map pxD))) (.sh (.tup (L.map tz))) (.sh (.lst ((L.filter (isSt g L)).map fun s => sx s L.length))) (.sh (.int j)) (.sh (tz (oft j a g))) (.sh (sx a m)) (.sh (.tup ((st g a m).map tz))) (.sh (.tup ((st g a m).map tz))) s16 s17 (.sh (.int (m : Int))) s19 s20
    obtain ⟨ρ, q21⟩ := y21 (.ow d5) (.sh (tz a)) (.sh (.int (ordF g a : Int))) (.sh (.int (m : Int))) (.sh (.bl (decide (m = ordF g a)))) (.sh (.lst [.lst ((L.filter (isSt g L)).map fun s => sx s L.length), R2])) (.sh (.tup ((partsF g a (primesT m)).map pxD))) (.sh (.tup (L.map tz))) (.sh (.lst ((L.filter (isSt g L)).map fun s => sx s L.length))) (.sh (.int j)) (.sh (tz (oft j a g))) (.sh (sx a m)) (.sh (.tup ((st g a m).map tz))) (.sh (.tup ((st g a m).map tz))) s16 s17 (.sh (.int (m : Int))) s19 s20 (ds := thingsL a (ordF g a : Int) (m : Int)) rfl (things_no G' ha (m : Int))
    refine ⟨d5, t5.mono (by omega), ?_⟩
    rw [x_seq2, q1, x_then, x_seq2, q2, x_then, x_seq2, q3, x_then, x_seq2, q4, x_then, x_seq2, q5, x_then, x_seq2, q6, x_then, x_seq2, q7, x_then, x_seq2, q8, x_then, x_seq2, q9, x_then, x_seq2, q10, x_then, x_seq2, q11, x_then, x_seq2, q12, x_then, x_seq2, q13, x_then, x_seq2, q14, x_then, x_seq2, q15, x_then, x_seq2, q16, x_then, x_seq2, q17, x_then, x_seq2, q18, x_then, x_seq2, q19, x_then, x_seq2, q20, x_then, x_seq2, q21]
    rfl
end
theorem h1 : okR ((RR.at_ 19 d_stretch_parts).run [.sh (tz [24]), .sh (sx [1] 12)]) (.sh (.tup [sx [1] 2, sx [2] 2, sx [4] 3])) 2 = true := by decide +kernel
theorem h2 : okR ((RR.at_ 19 d_lot_stretches).run [.sh (tz [6]), .sh (.tup [tz [0], tz [1], tz [5]])]) (.ow (.lst [])) 2 = true := by decide +kernel
theorem h3 : okR ((RR.at_ 19 d_lot_stretches).run [.sh (tz [5]), .sh (.tup [tz [0], tz [2]])]) (.ow (.lst [sx [2] 2])) 2 = true := by decide +kernel
def dueL : List Dt := [.tup [sx [1] 2, sx [2] 2, sx [4] 3], .lst [], .lst [sx [2] 2]]
theorem law3 (s t v : E2.Slot) : ∃ ρ, q_law_3 18 [s, t, v] = .ret (.sh (.bl true)) (s :: ρ) := by
  have e1 := okR_ok h1
  have e2 := okR_ok h2
  have e3 := okR_ok h3
  have T := s_same 4 (n := 19) (by omega) (d := .lst dueL) (tree_lst 3 (by simp [dueL]) fun e he => by
    simp only [dueL, List.mem_cons, List.not_mem_nil, or_false] at he
    rcases he with rfl | rfl | rfl
    · refine .inr ⟨_, .inl rfl, by simp, fun e he => ?_⟩
      simp only [List.mem_cons, List.not_mem_nil, or_false] at he
      rcases he with rfl | rfl | rfl
      · exact tree_sx 0 _ _ (by simp)
      · exact tree_sx 0 _ _ (by simp)
      · exact tree_sx 0 _ _ (by simp)
    · exact tree_lst 2 (by simp) fun e he => nomatch he
    · exact tree_lst 2 (by simp) fun e he => by
        rw [List.mem_singleton.mp he]
        exact tree_sx 0 _ _ (by simp))
  refine ⟨[t, v], ?_⟩
  simp only [dueL, sx, tz, List.map_cons, List.map_nil, List.replicate] at T e1 e2 e3
  simp [q_law_3, e1, e2, e3, T]
theorem plain (ns : List Int) (hl : ns.length ≤ 63) : ∃ ρ, (RR.at_ 20 d_law).run [.sh (.lst (ns.map .int))] = .ok (.sh (.bl true), ρ) := by
  obtain ⟨x, e0⟩ := s_cells (n := 18 + 1) (by omega) hl
  obtain ⟨d, t0, e1⟩ := s_box (n := 18 + 1) (by omega) x
  have q1 : q_law_1 18 [.sh (.lst (ns.map .int)), .dead, .dead] = .nxt [.sh (.lst (ns.map .int)), .ow d, .dead] := by
    simp [q_law_1, e0, e1]
  obtain ⟨ys, ρ', f1, ⟨d1, hd1, rfl⟩, f3⟩ := lcS_st (a := gAsg 2) (f := share (fCall (RR.at_ (18 + 1) d__law_right) [(.sl 1)])) (vs := [2]) (I := fun m ρ => ∃ d, TinOk (1100 * m) d ∧ ρ = [.sh (.lst (ns.map .int)), .ow d, .dead]) (P := fun d y => y = .bl true) (m := 7) (rangeD 0 7)
    (fun m z ρ hm hz hI => by
      obtain ⟨d, hd, rfl⟩ := hI
      obtain ⟨d', h1, h2⟩ := s_right hd (by omega)
      refine ⟨_, [.sh (.lst (ns.map .int)), .ow d', .sh z], .bl true, rfl, ?_, ⟨d', h1, rfl⟩, rfl⟩
      simp [h2]) [] [.sh (.lst (ns.map .int)), .ow d, .dead] 0 (by rw [rng_len]; omega) ⟨d, t0.mono (by omega), rfl⟩
  have f4 : ys = (rangeD 0 7).map fun _ => .bl true := All2.map f3
  have f5 := all_map (fun _ : Dt => true) (rangeD 0 7)
  rw [show ((rangeD 0 7).all fun _ => true) = true by simp] at f5
  rw [f4] at f1
  have hr : rOk 7 = true := rOk_small (by omega) (by omega)
  rw [List.nil_append] at f1
  have q2 : q_law_2 18 [.sh (.lst (ns.map .int)), .ow d, .dead] = .nxt [.sh (.lst (ns.map .int)), .ow d1, .dead] := by
    simp [q_law_2, hr, rng_len, f1, f5]
  obtain ⟨ρ, q3⟩ := law3 (.sh (.lst (ns.map .int))) (.ow d1) .dead
  rw [r_law, b_law_eq]
  rw [x_seq2, q1, x_then, x_seq2, q2, x_then, x_seq2, q3]
  exact ⟨_, rfl⟩
end LW
end

section
set_option Elab.async false
set_option linter.all false
set_option maxRecDepth 100000
set_option maxHeartbeats 0
open PySem PySem.W PySem.Calls PyProof.Rows
theorem law_of (plain : ∀ ns : List Int, ns.length ≤ 63 → ∃ ρ, (LW.RR.at_ 20 LW.d_law).run [.sh (.lst (ns.map .int))] = .ok (.sh (.bl true), ρ)) : PySem.Challenge.rw_eachjustonce_k03_main_stretches.Holds := by
  w_on
  o_law
  refine HandSHeadRun.head_any (r := LW.Ro) (q := view LW.Ro.prog [65]) (H := LW.hkL) (ob := LW.obs1)
    (M := 4000) (loose := LW.loose) (d := HandSHeadRun.topDef LW.Ro.prog 65) (kwd := [])
    LW.obs1_eq (by kernel_rfl) (fun s => by kernel_rfl) LW.run1 (by kernel_rfl) (by kernel_rfl) (by kernel_rfl)
    (by rfl) (by first | assumption | decide +kernel) (by decide +kernel) ⟨rfl, rfl, rfl, rfl, rfl, by decide +kernel⟩ ?A ?B
  case A => w_witness2
  case B =>
    refine E2.law_walk (l := PySem.Challenge.rw_eachjustonce_k03_main_stretches) (m := 63) (k := 21) (x := "script") rfl (by decide) (by kernel_rfl) ⟨rfl, by decide, by decide⟩ ?_
    intro w mg fa h Y G e
    refine E2.law_end LW.lawIn rfl rfl LW.oks plain Y G ?_
    rw [← e]
    exact congrArg mg (by kernel_rfl)
theorem PySem.Challenge.cw_eachjustonce_k03_main_stretches_holds : PySem.Challenge.rw_eachjustonce_k03_main_stretches.Holds :=
  law_of LW.plain
end
