import PyProof.Rows.All
import Wide.All
import OpenK.AllK
import Wide.FinOn
import HandS.ForMost
import HandS.Deep
import HandS.Lambda
import HandS.ForExc
import HandS.AnyAll
import KE.DatumOrd
import KE.KDictPairs
import HandS.More
import HandS.FStr
import HandS.RaiseMore
import PyProof.StrBlock2
import HandS.TryMany
import HandS.Style
import HandS.SortInts
import HandS.SetKeys
import HandS.TupAny
import HandS.DeepEq
import PyProof.P3In
import KE.GoesEnum
import HandS.Zip
import HandS.Conv
import PySem.Challenge.RW_tonguestack_k24_what_is_live_where
import HandS.EndTab
set_option Elab.async false
set_option linter.all false
set_option maxRecDepth 100000
set_option maxHeartbeats 4000000
namespace Z
open PySem PySem.Spec PyProof.Rows L2

/-! ### data: tuples by what they hold, what changes by its address -/
inductive D where
  | non
  | bl (b : Bool)
  | int (i : Int)
  | str (x : Str)
  | ty (n : String)
  | ref (a : Addr)
  | tup (ds : List D)
  | ct (ds : List D)
  | cl (ds : List D)

def TqT (K : PySem.W.Frag) (H : Hp) (a : Addr) (xs : List V) : Prop := H a = some (.tup xs)
def CqT (K : PySem.W.Frag) (a : Addr) (xs : List V) : Prop :=
  ∃ (o : Obj) (its : Array Value) (n : Nat), K.lookup a = some o ∧ o.cls = .type "tuple" ∧ o.data = .seq its n ∧ its.size ≤ sizeLine ∧ Vals xs its.toList
def CqL (K : PySem.W.Frag) (H : Hp) (a : Addr) (xs : List V) : Prop :=
  (∃ o, H a = some (.frz o (.lst xs))) ∨ ∃ (o : Obj) (its : Array Value) (n : Nat), K.lookup a = some o ∧ o.cls = .type "list" ∧ o.dict = none ∧ o.data = .seq its n ∧ its.size ≤ sizeLine ∧ Vals xs its.toList
theorem TqT.sq {K : PySem.W.Frag} {H : Hp} {a : Addr} {xs : List V} (h : TqT K H a xs) : SqT K H a xs := .inl (.inl h)
theorem CqT.sq {K : PySem.W.Frag} {H : Hp} {a : Addr} {xs : List V} (h : CqT K a xs) : SqT K H a xs := .inr h
theorem CqL.sq {K : PySem.W.Frag} {H : Hp} {a : Addr} {xs : List V} (h : CqL K H a xs) : SqL K H a xs := by
  rcases h with h | h
  · exact .inl (.inr h)
  · exact .inr h

mutual
inductive Rep (K : PySem.W.Frag) (H : Hp) : V → D → Prop
  | non : Rep K H .non .non
  | bl (b : Bool) : Rep K H (.bl b) (.bl b)
  | int (i : Int) : Rep K H (.int i) (.int i)
  | str (x : Str) : Rep K H (.str x) (.str x)
  | ty (n : String) : Rep K H (.ty n) (.ty n)
  | ref (a : Addr) : Rep K H (.ref a) (.ref a)
  | tup {a : Addr} {xs : List V} {ds : List D} : TqT K H a xs → Reps K H xs ds → Rep K H (.ref a) (.tup ds)
  | ct {a : Addr} {xs : List V} {ds : List D} : CqT K a xs → Reps K H xs ds → Rep K H (.ref a) (.ct ds)
  | cl {a : Addr} {xs : List V} {ds : List D} : CqL K H a xs → Reps K H xs ds → Rep K H (.ref a) (.cl ds)
inductive Reps (K : PySem.W.Frag) (H : Hp) : List V → List D → Prop
  | nil : Reps K H [] []
  | cons {v : V} {vs : List V} {d : D} {ds : List D} : Rep K H v d → Reps K H vs ds → Reps K H (v :: vs) (d :: ds)
end

def sta : HO → Prop
  | .tup _ => True
  | .frz _ (.lst _) => True
  | .ext _ => True
  | _ => False
def Tm (H H' : Hp) : Prop := ∀ a o, H a = some o → sta o → H' a = some o
theorem Tm.refl (H : Hp) : Tm H H := fun _ _ h _ => h
theorem Tm.trans {H H1 H2 : Hp} (a : Tm H H1) (b : Tm H1 H2) : Tm H H2 := fun x o h s => b x o (a x o h s) s
theorem Tm.tq {K : PySem.W.Frag} {H H' : Hp} {a : Addr} {xs : List V} (t : Tm H H') (h : TqT K H a xs) : TqT K H' a xs := t _ _ h trivial
theorem Tm.cq {K : PySem.W.Frag} {H H' : Hp} {a : Addr} {xs : List V} (t : Tm H H') (h : CqL K H a xs) : CqL K H' a xs := by
  rcases h with ⟨o, h⟩ | h
  · exact .inl ⟨o, t _ _ h trivial⟩
  · exact .inr h
mutual
theorem Rep.mono {K : PySem.W.Frag} {H H' : Hp} (t : Tm H H') : ∀ {d : D} {v : V}, Rep K H v d → Rep K H' v d
  | .non, _, .non => .non
  | .bl b, _, .bl _ => .bl b
  | .int b, _, .int _ => .int b
  | .str b, _, .str _ => .str b
  | .ty b, _, .ty _ => .ty b
  | .ref b, _, .ref _ => .ref b
  | .tup ds, _, .tup h r => .tup (t.tq h) (Reps.mono t r)
  | .ct ds, _, .ct h r => .ct h (Reps.mono t r)
  | .cl ds, _, .cl h r => .cl (t.cq h) (Reps.mono t r)
theorem Reps.mono {K : PySem.W.Frag} {H H' : Hp} (t : Tm H H') : ∀ {ds : List D} {vs : List V}, Reps K H vs ds → Reps K H' vs ds
  | [], _, .nil => .nil
  | _ :: _, _, .cons h r => .cons (Rep.mono t h) (Reps.mono t r)
end
section
variable {K : PySem.W.Frag} {H : Hp}
theorem Reps.length : ∀ {ds : List D} {vs : List V}, Reps K H vs ds → vs.length = ds.length
  | [], _, .nil => rfl
  | _ :: _, _, .cons _ r => by rw [List.length_cons, List.length_cons, r.length]
theorem Reps.append : ∀ {ds es : List D} {vs ws : List V}, Reps K H vs ds → Reps K H ws es → Reps K H (vs ++ ws) (ds ++ es)
  | [], _, _, _, .nil, s => s
  | _ :: _, _, _, _, .cons h r, s => .cons h (r.append s)
theorem Reps.get : ∀ {ds : List D} {vs : List V} {i : Nat} {d : D}, Reps K H vs ds → ds[i]? = some d → ∃ v, vs[i]? = some v ∧ Rep K H v d
  | _ :: _, _, 0, _, .cons h _, e => by
    cases e
    exact ⟨_, rfl, h⟩
  | _ :: _, _, i + 1, _, .cons _ r, e => by
    obtain ⟨v, h1, h2⟩ := Reps.get (i := i) r (by simpa using e)
    exact ⟨v, by simpa using h1, h2⟩
theorem Reps.set : ∀ {ds : List D} {vs : List V} (i : Nat) {v : V} {d : D}, Reps K H vs ds → Rep K H v d → Reps K H (vs.set i v) (ds.set i d)
  | [], _, _, _, _, .nil, _ => .nil
  | _ :: _, _, 0, _, _, .cons _ r, h => .cons h r
  | _ :: _, _, i + 1, _, _, .cons q r, h => .cons q (r.set i h)
theorem Reps.take : ∀ {ds : List D} {vs : List V} (n : Nat), Reps K H vs ds → Reps K H (vs.take n) (ds.take n)
  | _, _, 0, _ => by simpa using Reps.nil
  | [], _, _ + 1, .nil => .nil
  | _ :: _, _, n + 1, .cons h r => .cons h (r.take n)
theorem Reps.drop : ∀ {ds : List D} {vs : List V} (n : Nat), Reps K H vs ds → Reps K H (vs.drop n) (ds.drop n)
  | _, _, 0, r => r
  | [], _, _ + 1, .nil => .nil
  | _ :: _, _, n + 1, .cons _ r => r.drop n
theorem Reps.ints : ∀ ns : List Int, Reps K H (ns.map V.int) (ns.map D.int)
  | [] => .nil
  | n :: ns => .cons (.int n) (Reps.ints ns)
theorem Reps.of_ints : ∀ {ns : List Int} {vs : List V}, Reps K H vs (ns.map D.int) → vs = ns.map V.int
  | [], _, .nil => rfl
  | _ :: _, _, .cons (.int _) r => by rw [List.map_cons, Reps.of_ints r]
theorem Reps.dropLast {ds : List D} {vs : List V} (r : Reps K H vs ds) : Reps K H vs.dropLast ds.dropLast := by
  rw [List.dropLast_eq_take, List.dropLast_eq_take, r.length]
  exact r.take _
theorem Reps.reverse : ∀ {ds : List D} {vs : List V}, Reps K H vs ds → Reps K H vs.reverse ds.reverse
  | [], _, .nil => .nil
  | _ :: _, _, .cons h r => by
    rw [List.reverse_cons, List.reverse_cons]
    exact r.reverse.append (.cons h .nil)
end

/-! ### the heap of what changes -/
inductive MO where
  | lst (ds : List D)
  | dk (kvs : List (Key × D))
  | dt (kvs : List (List Key × D))
  | ldk (o : Obj) (xs : List (Key × V)) (kvs : List (Key × D))
  | ldt (o : Obj) (xs : List (List Key × V)) (kvs : List (List Key × D))
  | obj (C dx : Addr) (fs : List (Str × D))
abbrev Gp := Addr → Option MO
def put (G : Gp) (a : Addr) (m : MO) : Gp := fun b => if b = a then some m else G b
theorem put_same {G : Gp} {a : Addr} {m : MO} : put G a m a = some m := by unfold put; rw [if_pos rfl]
theorem put_ne {G : Gp} {a b : Addr} {m : MO} (h : b ≠ a) : put G a m b = G b := by unfold put; rw [if_neg h]
/-- pairs of a key and a value -/
inductive RepKV {κ : Type} (K : PySem.W.Frag) (H : Hp) : List (κ × V) → List (κ × D) → Prop
  | nil : RepKV K H [] []
  | cons {k : κ} {v : V} {d : D} {vs : List (κ × V)} {ds : List (κ × D)} : Rep K H v d → RepKV K H vs ds → RepKV K H ((k, v) :: vs) ((k, d) :: ds)
theorem RepKV.mono {κ : Type} {K : PySem.W.Frag} {H H' : Hp} (t : Tm H H') : ∀ {ds : List (κ × D)} {vs : List (κ × V)}, RepKV K H vs ds → RepKV K H' vs ds
  | [], _, .nil => .nil
  | _ :: _, _, .cons h r => .cons (h.mono t) (r.mono t)
def RepO (K : PySem.W.Frag) (H : Hp) (a : Addr) : MO → Prop
  | .lst ds => ∃ xs, H a = some (.lst xs) ∧ Reps K H xs ds
  | .dk kvs => ∃ xs, H a = some (.dK xs) ∧ RepKV K H xs kvs
  | .dt kvs => ∃ xs, H a = some (.dT xs) ∧ RepKV K H xs kvs
  | .ldk o xs kvs => H a = some (.frz o (.dK xs)) ∧ RepKV K H xs kvs
  | .ldt o xs kvs => H a = some (.frz o (.dT xs)) ∧ RepKV K H xs kvs
  | .obj C dx fs => ∃ xs, H a = some (.ins C dx xs) ∧ RepKV K H xs fs
/-- the tables of code objects of the law's defs that make lambdas -/
class Tbl where
  T : List (Addr × Str)
def Fr (H : Hp) (G : Gp) (H' : Hp) (G' : Gp) : Prop := ∀ b o, H b = some o → G b = none → (∀ ps, o ≠ .tbl ps) → H' b = some o ∧ G' b = none
theorem Fr.refl (H : Hp) (G : Gp) : Fr H G H G := fun _ _ h g _ => ⟨h, g⟩
theorem Fr.trans {H H1 H2 : Hp} {G G1 G2 : Gp} (a : Fr H G H1 G1) (b : Fr H1 G1 H2 G2) : Fr H G H2 G2 := fun x o h g n =>
  let ⟨h1, g1⟩ := a x o h g n
  b x o h1 g1 n
/-- what stands since a def was entered -/
class Bas where
  B : Hp → Gp → Prop
  keep : ∀ {H G H' G'}, B H G → Fr H G H' G' → B H' G'
@[reducible] def noBas : Bas := ⟨fun _ _ => True, fun _ _ => True.intro⟩
@[reducible] def frBas (H0 : Hp) (G0 : Gp) : Bas := ⟨fun H G => Fr H0 G0 H G, fun a b => a.trans b⟩
structure Sim0 [τ : Tbl] (K : PySem.W.Frag) (H : Hp) (G : Gp) : Prop where
  at_ : ∀ a m, G a = some m → RepO K H a m
  tabs : LamX.Tabs τ.T H
  apart : ∀ p ∈ τ.T, G p.1 = none
structure SimG [τ : Tbl] [β : Bas] (K : PySem.W.Frag) (H : Hp) (G : Gp) : Prop extends Sim0 K H G where
  base : β.B H G
instance [Tbl] [Bas] {K : PySem.W.Frag} {H : Hp} {G : Gp} : CoeFun (SimG K H G) (fun _ => ∀ a m, G a = some m → RepO K H a m) := ⟨fun s => s.at_⟩
theorem RepO.there {K : PySem.W.Frag} {H : Hp} {a : Addr} : ∀ {m : MO}, RepO K H a m → ∃ o, H a = some o ∧ ¬ sta o
  | .lst _, ⟨_, h, _⟩ => ⟨_, h, fun z => z⟩
  | .dk _, ⟨_, h, _⟩ => ⟨_, h, fun z => z⟩
  | .dt _, ⟨_, h, _⟩ => ⟨_, h, fun z => z⟩
  | .ldk _ _ _, ⟨h, _⟩ => ⟨_, h, fun z => z⟩
  | .ldt _ _ _, ⟨h, _⟩ => ⟨_, h, fun z => z⟩
  | .obj _ _ _, ⟨_, h, _⟩ => ⟨_, h, fun z => z⟩
section
variable [τ : Tbl] [β : Bas] {K : PySem.W.Frag} {H H' : Hp} {G G' : Gp}
theorem SimG.next (s : SimG K H G) (f : Fr H G H' G') (g : Sim0 K H' G') : SimG K H' G' := { g with base := β.keep s.base f }
theorem Sim0.none {p : Addr} (s : Sim0 K H G) (h : H p = none) : G p = none := by
  cases e : G p with
  | none => rfl
  | some m =>
    obtain ⟨o, ho, _⟩ := (s.at_ p m e).there
    rw [h] at ho
    cases ho
theorem SimG.none {p : Addr} (s : SimG K H G) (h : H p = none) : G p = none := s.toSim0.none h
theorem Sim0.tm (s : Sim0 K H G) (f : Fr H G H' G') : Tm H H' := fun a o h st => by
  cases e : G a with
  | none => exact (f a o h e (fun ps z => by rw [z] at st; exact st)).1
  | some m =>
    obtain ⟨o', ho, ns⟩ := (s.at_ a m e).there
    rw [h] at ho
    cases ho
    exact absurd st ns
theorem SimG.tm (s : SimG K H G) (f : Fr H G H' G') : Tm H H' := s.toSim0.tm f
end
theorem TabS.tm {H H' : Hp} {P : Addr} {q : Str} (t : LamX.TabS H P q) (m : Tm H H') (e : H' P = H P) : LamX.TabS H' P q := by
  obtain ⟨ps, h1, h2, h3⟩ := t
  refine ⟨ps, e.trans h1, h2, fun pos cv hc => ?_⟩
  obtain ⟨c, e1, e2⟩ := h3 pos cv hc
  exact ⟨c, e1, m c _ e2 True.intro⟩
theorem RepO.mono {K : PySem.W.Frag} {H H' : Hp} {a : Addr} (t : Tm H H') (e : H' a = H a) : ∀ {m : MO}, RepO K H a m → RepO K H' a m
  | .lst _, ⟨_, h, r⟩ => ⟨_, e.trans h, r.mono t⟩
  | .dk _, ⟨_, h, r⟩ => ⟨_, e.trans h, r.mono t⟩
  | .dt _, ⟨_, h, r⟩ => ⟨_, e.trans h, r.mono t⟩
  | .ldk _ _ _, ⟨h, r⟩ => ⟨e.trans h, r.mono t⟩
  | .ldt _ _ _, ⟨h, r⟩ => ⟨e.trans h, r.mono t⟩
  | .obj _ _ _, ⟨_, h, r⟩ => ⟨_, e.trans h, r.mono t⟩
/-- a tracked object changes, or a new one comes -/
theorem Tm.upd {H : Hp} {a : Addr} {o : HO} (h : ∀ u, H a = some u → ¬ sta u) : Tm H (upd H a o) := fun b u e st => by
  by_cases hb : b = a
  · subst hb
    exact absurd st (h u e)
  · rw [upd_ne hb]
    exact e
theorem Fr.put {H : Hp} {G : Gp} {a : Addr} {o : HO} {m : MO} (h : H a = Option.none ∨ ∃ n, G a = some n) : Fr H G (upd H a o) (put G a m) := fun b u e g _ => by
  have hb : b ≠ a := by
    rintro rfl
    rcases h with h | ⟨n, h⟩
    · rw [h] at e; cases e
    · rw [h] at g; cases g
  rw [upd_ne hb, put_ne hb]
  exact ⟨e, g⟩
/-- a new tuple: nothing that changes is new -/
theorem Fr.tup {H : Hp} {G : Gp} {a : Addr} {o : HO} (h : H a = Option.none) : Fr H G (upd H a o) G := fun b u e g _ => by
  have hb : b ≠ a := by
    rintro rfl
    rw [h] at e; cases e
  rw [upd_ne hb]
  exact ⟨e, g⟩
section
variable [τ : Tbl] [β : Bas] {K : PySem.W.Frag} {H H' : Hp} {G G' : Gp} {a : Addr} {o : HO} {m : MO}
theorem SimG.put (s : SimG K H G) (h : H a = Option.none ∨ ∃ n, G a = some n) (t : Tm H (upd H a o)) (new : RepO K (upd H a o) a m) : SimG K (upd H a o) (put G a m) := by
  have tb : ∀ p ∈ τ.T, p.1 ≠ a := fun p hp e => by
    obtain ⟨ps, h1, _⟩ := s.tabs p hp
    rcases h with h | ⟨n, h⟩
    · rw [e, h] at h1; cases h1
    · have := s.apart p hp
      rw [e, h] at this; cases this
  refine ⟨⟨fun b n e => ?_, fun p hp => TabS.tm (s.tabs p hp) t (upd_ne (tb p hp)), fun p hp => by rw [put_ne (tb p hp)]; exact s.apart p hp⟩, β.keep s.base (Fr.put h)⟩
  by_cases hb : b = a
  · subst hb
    rw [put_same] at e
    cases e
    exact new
  · rw [put_ne hb] at e
    exact (s b n e).mono t (upd_ne hb)
theorem SimG.keep (s : SimG K H G) (h : H a = Option.none) : SimG K (upd H a o) G := by
  have t : Tm H (L2.upd H a o) := Tm.upd fun u e => by rw [h] at e; cases e
  have nb : ∀ {b u}, H b = some u → b ≠ a := fun {b u} e z => by rw [z, h] at e; cases e
  refine ⟨⟨fun b n e => ?_, fun p hp => TabS.tm (s.tabs p hp) t (upd_ne (nb (s.tabs p hp).choose_spec.1)), s.apart⟩, β.keep s.base (Fr.tup h)⟩
  obtain ⟨u, hu, _⟩ := (s b n e).there
  exact (s b n e).mono t (upd_ne (nb hu))
end

/-! ### states -/
abbrev ZSt := List (Option D)
def SimS (K : PySem.W.Frag) (H : Hp) (σ : L2.St) (ρ : ZSt) : Prop := σ.length = ρ.length ∧ ∀ (i : Nat) (d : D), ρ[i]? = some (some d) → ∃ v, σ[i]? = some (some v) ∧ Rep K H v d
theorem SimS.mono {K : PySem.W.Frag} {H H' : Hp} {σ : L2.St} {ρ : ZSt} (t : Tm H H') (s : SimS K H σ ρ) : SimS K H' σ ρ := ⟨s.1, fun i d e =>
  let ⟨v, h1, h2⟩ := s.2 i d e
  ⟨v, h1, h2.mono t⟩⟩
theorem SimS.set {K : PySem.W.Frag} {H : Hp} {σ : L2.St} {ρ : ZSt} {i : Nat} {v : V} {d : D} (s : SimS K H σ ρ) (r : Rep K H v d) : SimS K H (σ.set i (some v)) (ρ.set i (some d)) := by
  refine ⟨by rw [List.length_set, List.length_set, s.1], fun j e h => ?_⟩
  by_cases hj : i = j
  · subst hj
    by_cases hl : i < ρ.length
    · rw [List.getElem?_set_self hl] at h
      cases h
      exact ⟨v, List.getElem?_set_self (by rw [s.1]; exact hl), r⟩
    · rw [List.getElem?_eq_none (by rw [List.length_set]; omega)] at h
      cases h
  · rw [List.getElem?_set_ne hj] at h ⊢
    exact s.2 j e h
theorem SimS.unset {K : PySem.W.Frag} {H : Hp} {σ : L2.St} {ρ : ZSt} {i : Nat} (s : SimS K H σ ρ) : SimS K H (σ.set i none) (ρ.set i none) := by
  refine ⟨by rw [List.length_set, List.length_set, s.1], fun j e h => ?_⟩
  by_cases hj : i = j
  · subst hj
    by_cases hl : i < ρ.length
    · rw [List.getElem?_set_self hl] at h
      cases h
    · rw [List.getElem?_eq_none (by rw [List.length_set]; omega)] at h
      cases h
  · rw [List.getElem?_set_ne hj] at h ⊢
    exact s.2 j e h

abbrev DK := D → Gp → Prop
abbrev DE := ZSt → Gp → DK → Prop
abbrev DT := ZSt → Gp → (Bool → Gp → Prop) → Prop
abbrev DA := ZSt → Gp → (List D → Gp → Prop) → Prop
structure ZEnds where
  nx : ZSt → Gp → Prop
  rt : DK
  bk : ZSt → Gp → Prop := fun _ _ => False
  ct : ZSt → Gp → Prop := fun _ _ => False
abbrev DS := ZEnds → ZSt → Gp → Prop

section
variable [τ : Tbl] [β : Bas]
def upE (K : PySem.W.Frag) (t : DE) : TE := fun σ H Q => ∃ ρ G Q0, SimS K H σ ρ ∧ SimG K H G ∧ t ρ G Q0 ∧ ∀ d G' v H', Q0 d G' → Fr H G H' G' → SimG K H' G' → Rep K H' v d → Q v H'
def upT (K : PySem.W.Frag) (t : DT) : TT := fun σ H Q => ∃ ρ G Q0, SimS K H σ ρ ∧ SimG K H G ∧ t ρ G Q0 ∧ ∀ b G' H', Q0 b G' → Fr H G H' G' → SimG K H' G' → Q b H'
def upA (K : PySem.W.Frag) (t : DA) : TA := fun σ H Q => ∃ ρ G Q0, SimS K H σ ρ ∧ SimG K H G ∧ t ρ G Q0 ∧ ∀ ds G' vs H', Q0 ds G' → Fr H G H' G' → SimG K H' G' → Reps K H' vs ds → Q vs H'
def upS (K : PySem.W.Frag) (t : DS) : TS := fun D σ H => ∃ ρ G Z, SimS K H σ ρ ∧ SimG K H G ∧ t Z ρ G ∧
  (∀ ρ' G' σ' H', Z.nx ρ' G' → Fr H G H' G' → SimG K H' G' → SimS K H' σ' ρ' → D.nx σ' H') ∧
  (∀ d G' v H', Z.rt d G' → Fr H G H' G' → SimG K H' G' → Rep K H' v d → D.rt v H') ∧
  (∀ ρ' G' σ' H', Z.bk ρ' G' → Fr H G H' G' → SimG K H' G' → SimS K H' σ' ρ' → D.bk σ' H') ∧
  (∀ ρ' G' σ' H', Z.ct ρ' G' → Fr H G H' G' → SimG K H' G' → SimS K H' σ' ρ' → D.ct σ' H')
def ZE (X : Cx) (e : Expr) (t : DE) : Prop := PE X e (upE X.K t)
def ZT (X : Cx) (e : Expr) (t : DT) : Prop := PT X e (upT X.K t)
def ZW (X : Cx) (e : Expr) (t : DT) : Prop := PW X e (upT X.K t)
def ZA (X : Cx) (es : List Expr) (t : DA) : Prop := PA X es (upA X.K t)
def ZS (X : Cx) (st : Stmt) (t : DS) : Prop := PS X st (upS X.K t)
def ZSs (X : Cx) (st : List Stmt) (t : DS) : Prop := PSs X st (upS X.K t)

end
theorem PEi {X : Cx} {e : Expr} {t t' : TE} (h : PE X e t) (i : ∀ σ H Q, t' σ H Q → t σ H Q) : PE X e t' := ⟨fun pins s σ H Q I q => h.run pins s σ H Q I (i σ H Q q)⟩
theorem PTi {X : Cx} {e : Expr} {t t' : TT} (h : PT X e t) (i : ∀ σ H Q, t' σ H Q → t σ H Q) : PT X e t' := ⟨fun pins s σ H Q I q => h.run pins s σ H Q I (i σ H Q q)⟩
theorem PWi {X : Cx} {e : Expr} {t t' : TT} (h : PW X e t) (i : ∀ σ H Q, t' σ H Q → t σ H Q) : PW X e t' := ⟨fun wh pins s σ H Q I q => h.run wh pins s σ H Q I (i σ H Q q)⟩
theorem PAi {X : Cx} {e : List Expr} {t t' : TA} (h : PA X e t) (i : ∀ σ H Q, t' σ H Q → t σ H Q) : PA X e t' := ⟨fun ps pins s σ H Q I q => h.run ps pins s σ H Q I (i σ H Q q)⟩
theorem PSi {X : Cx} {e : Stmt} {t t' : TS} (h : PS X e t) (i : ∀ D σ H, t' D σ H → t D σ H) : PS X e t' := ⟨fun pins s σ H D I q => h.run pins s σ H D I (i D σ H q)⟩
theorem PSsi {X : Cx} {e : List Stmt} {t t' : TS} (h : PSs X e t) (i : ∀ D σ H, t' D σ H → t D σ H) : PSs X e t' := ⟨fun pins s σ H D I q => h.run pins s σ H D I (i D σ H q)⟩

/-! ### names, constants -/
section
variable [τ : Tbl] [β : Bas] {X : Cx}
def zVar (i : Nat) : DE := fun ρ G Q => match ρ[i]? with
  | some (some d) => Q d G
  | _ => False
def zC (d : D) : DE := fun _ G Q => Q d G
theorem z_var (i : Nat) {x : Str} {pos : Pos} (hN : X.N[i]? = some x := by rfl) (hv : Vis X.env.scope x := by first | exact Or.inl rfl | exact Or.inr (Or.inl rfl) | exact Or.inr (Or.inr rfl)) (hd : (x == ("__debug__" : Str)) = false := by decide)
    (hcd : (x == ("__classdict__" : Str)) = false := by decide) : ZE X (.Name x pos) (zVar i) := PEi (pe_var hN hv hd hcd) fun σ H Q q => by
  obtain ⟨ρ, G, Q0, hs, hg, h, k⟩ := q
  unfold zVar at h
  split at h
  · rename_i d e
    obtain ⟨v, e1, r⟩ := hs.2 i d e
    exact ⟨v, e1, k d G v H h (Fr.refl H G) hg r⟩
  · cases h
theorem up_c {v : V} {d : D} {e : Expr} (h : PE X e (tC v)) (r : ∀ H, Rep X.K H v d) : ZE X e (zC d) := PEi h fun σ H Q q => by
  obtain ⟨ρ, G, Q0, hs, hg, h, k⟩ := q
  exact k d G v H h (Fr.refl H G) hg (r H)
theorem z_int {i j pos} : ZE X (.Constant (.int i) j pos) (zC (.int i)) := up_c pe_int fun _ => .int _
theorem z_bl {i j pos} : ZE X (.Constant (.bool i) j pos) (zC (.bl i)) := up_c pe_bl fun _ => .bl _
theorem z_str {i j pos} : ZE X (.Constant (.str i) j pos) (zC (.str i)) := up_c pe_str fun _ => .str _
theorem z_non {j pos} : ZE X (.Constant .none j pos) (zC .non) := up_c pe_non fun _ => .non
end
end Z

namespace Z
open PySem PySem.Spec PyProof.Rows L2
/-- a heap that is as G but at a -/
structure At (G : Gp) (a : Addr) (m : MO) (G' : Gp) : Prop where
  is : G' a = some m
  other : ∀ b, b ≠ a → G' b = G b
theorem At.put (G : Gp) (a : Addr) (m : MO) : At G a m (put G a m) := ⟨put_same, fun _ h => put_ne h⟩
def Ext (G G' : Gp) : Prop := ∀ b x, G b = some x → G' b = some x
theorem Ext.refl (G : Gp) : Ext G G := fun _ _ h => h
theorem Ext.trans {G G1 G2 : Gp} (a : Ext G G1) (b : Ext G1 G2) : Ext G G2 := fun x m h => b x m (a x m h)
theorem Ext.back {G G1 : Gp} (e : Ext G G1) {p : Addr} (h : G1 p = none) : G p = none := by
  cases q : G p with
  | none => rfl
  | some m =>
    rw [e p m q] at h
    cases h
theorem At.ext {G G' : Gp} {a : Addr} {m : MO} (h : At G a m G') (n : G a = none) : Ext G G' := fun b x e => by
  rw [h.other b (by rintro rfl; rw [n] at e; cases e)]
  exact e
/-- a heap that keeps all of G but what is at a -/
def Exb (a : Addr) (G G' : Gp) : Prop := ∀ b x, b ≠ a → G b = some x → G' b = some x
theorem Exb.refl (a : Addr) (G : Gp) : Exb a G G := fun _ _ _ h => h
theorem Exb.trans {a : Addr} {G G1 G2 : Gp} (x : Exb a G G1) (y : Exb a G1 G2) : Exb a G G2 := fun b m n h => y b m n (x b m n h)
theorem Ext.exb {a : Addr} {G G' : Gp} (e : Ext G G') : Exb a G G' := fun b m _ h => e b m h
theorem At.exb {G G' : Gp} {a : Addr} {m : MO} (h : At G a m G') : Exb a G G' := fun b x n e => by rw [h.other b n]; exact e
variable [τ : Tbl] [β : Bas]

abbrev CK (K : PySem.W.Frag) (H : Hp) (G : Gp) (Q0 : DK) (Q : VK) : Prop := ∀ d G' v H', Q0 d G' → Fr H G H' G' → SimG K H' G' → Rep K H' v d → Q v H'
theorem CK.go {K : PySem.W.Frag} {H H1 : Hp} {G G1 : Gp} {Q0 : DK} {Q : VK} (k : CK K H G Q0 Q) (f : Fr H G H1 G1) : CK K H1 G1 Q0 Q := fun d G' v H' q f' g r => k d G' v H' q (f.trans f') g r
theorem CK.at {K : PySem.W.Frag} {H : Hp} {G : Gp} {Q0 : DK} {Q : VK} (k : CK K H G Q0 Q) {d : D} {v : V} (q : Q0 d G) (g : SimG K H G) (r : Rep K H v d) : Q v H := k d G v H q (Fr.refl H G) g r
/-- a new tuple -/
theorem CK.tup {K : PySem.W.Frag} {H : Hp} {G : Gp} {Q0 : DK} {Q : VK} (k : CK K H G Q0 Q) {p : Addr} {xs : List V} {ds : List D} (hp : H p = none) (q : Q0 (.tup ds) G) (g : SimG K H G) (r : Reps K H xs ds) : Q (.ref p) (upd H p (.tup xs)) :=
  k _ G _ _ q (Fr.tup hp) (g.keep hp) (.tup upd_same (r.mono (Tm.upd fun u e => by rw [hp] at e; cases e)))
theorem tm_new {H : Hp} {p : Addr} {o : HO} (hp : H p = none) : Tm H (upd H p o) := Tm.upd fun u e => by rw [hp] at e; cases e
theorem tm_set {H : Hp} {p : Addr} {o u : HO} (hp : H p = some u) (n : ¬ sta u) : Tm H (upd H p o) := Tm.upd fun w e => by
  rw [hp] at e
  cases e
  exact n
/-- a new changing object -/
theorem CK.new {K : PySem.W.Frag} {H : Hp} {G : Gp} {Q0 : DK} {Q : VK} (k : CK K H G Q0 Q) {p : Addr} {o : HO} {m : MO} (hp : H p = none) (g : SimG K H G) (r : RepO K (upd H p o) p m) (q : ∀ G', G p = none → At G p m G' → Q0 (.ref p) G') : Q (.ref p) (upd H p o) :=
  k _ (put G p m) _ _ (q _ (g.none hp) (At.put G p m)) (Fr.put (.inl hp)) (g.put (.inl hp) (tm_new hp) r) (.ref p)
/-- one that stands changes -/
theorem CK.set {K : PySem.W.Frag} {H : Hp} {G : Gp} {Q0 : DK} {Q : VK} (k : CK K H G Q0 Q) {p : Addr} {o u : HO} {m n : MO} {v : V} {d : D} (hp : H p = some u) (hn : ¬ sta u) (hg : G p = some n) (g : SimG K H G) (r : RepO K (upd H p o) p m)
    (rv : Rep K (upd H p o) v d) (q : ∀ G', At G p m G' → Q0 d G') : Q v (upd H p o) :=
  k _ (put G p m) _ _ (q _ (At.put G p m)) (Fr.put (.inr ⟨n, hg⟩)) (g.put (.inr ⟨n, hg⟩) (tm_set hp hn) r) rv

abbrev Z2 := D → D → Gp → DK → Prop
def upR2 (K : PySem.W.Frag) (z : Z2) : R2 := fun x y H Q => ∃ d e G Q0, SimG K H G ∧ Rep K H x d ∧ Rep K H y e ∧ z d e G Q0 ∧ CK K H G Q0 Q
def ZOp (X : Cx) (f : Value → Value → Sem Value) (z : Z2) : Prop := OpR X f (upR2 X.K z)
def zOp (z : Z2) (ta tb : DE) : DE := fun ρ G Q => ta ρ G fun d G1 => tb ρ G1 fun e G2 => z d e G2 Q
theorem up_op {K : PySem.W.Frag} {z : Z2} {ta tb : DE} {σ : L2.St} {H : Hp} {Q : VK} (q : upE K (zOp z ta tb) σ H Q) : tOp (upR2 K z) (upE K ta) (upE K tb) σ H Q := by
  obtain ⟨ρ, G, Q0, hs, hg, h, k⟩ := q
  exact ⟨ρ, G, _, hs, hg, h, fun d G1 x H1 h1 f1 g1 r1 => ⟨ρ, G1, _, hs.mono (hg.tm f1), g1, h1, fun e G2 y H2 h2 f2 g2 r2 => ⟨d, e, G2, Q0, g2, r1.mono (g1.tm f2), r2, h2, CK.go k (f1.trans f2)⟩⟩⟩
theorem OpRi {X : Cx} {f : Value → Value → Sem Value} {r r' : R2} (h : OpR X f r) (i : ∀ x y H Q, r' x y H Q → r x y H Q) : OpR X f r' := fun pins s σ H x y v u Q I rx ry q => h pins s σ H x y v u Q I rx ry (i x y H Q q)
def zOr (z z' : Z2) : Z2 := fun d e G Q => z d e G Q ∨ z' d e G Q
theorem ZOp.or {X : Cx} {f : Value → Value → Sem Value} {z z' : Z2} (h : ZOp X f z) (h' : ZOp X f z') : ZOp X f (zOr z z') := OpRi (OpR.or h h') fun x y H Q q => by
  obtain ⟨d, e, G, Q0, g, rx, ry, h | h, k⟩ := q
  · exact .inl ⟨d, e, G, Q0, g, rx, ry, h, k⟩
  · exact .inr ⟨d, e, G, Q0, g, rx, ry, h, k⟩

section
variable {X : Cx} {a b : Expr} {ta tb : DE} {pos : Pos}
theorem z_op {op : Operator} {z : Z2} (ho : ZOp X (binaryOp op) z) (ha : ZE X a ta) (hb : ZE X b tb) : ZE X (.BinOp a op b pos) (zOp z ta tb) := PEi (pe_op ho ha hb) fun _ _ _ q => up_op q
theorem z_cmp {op : CmpOp} {z : Z2} (ho : ZOp X (compareOp op) z) (ha : ZE X a ta) (hb : ZE X b tb) (hm : behindInMarks op b = false := by rfl) : ZE X (.Compare a [op] [b] pos) (zOp z ta tb) := PEi (pe_cmpR ho ha hb hm) fun _ _ _ q => up_op q
/-- a value that is a bool, as a test -/
def zTest (t : DE) : DT := fun ρ G Q => t ρ G fun d G1 => match d with
  | .bl b => Q b G1
  | _ => False
theorem up_test {K : PySem.W.Frag} {t : DE} {σ : L2.St} {H : Hp} {Q : Bool → Hp → Prop} (q : upT K (zTest t) σ H Q) : tTest (upE K t) σ H Q := by
  obtain ⟨ρ, G, Q0, hs, hg, h, k⟩ := q
  refine ⟨ρ, G, _, hs, hg, h, fun d G1 x H1 h1 f1 g1 r1 => ?_⟩
  cases r1 with
  | bl b => exact ⟨b, rfl, k b G1 H1 h1 f1 g1⟩
  | _ => cases h1
theorem z_tcmp {op : CmpOp} {z : Z2} (ho : ZOp X (compareOp op) z) (ha : ZE X a ta) (hb : ZE X b tb) (hm : behindInMarks op b = false := by rfl) : ZT X (.Compare a [op] [b] pos) (zTest (zOp z ta tb)) := PTi (pt_cmpR ho ha hb hm) fun σ H Q q => by
  obtain ⟨ρ, G, Q0, hs, hg, h, k⟩ := up_test q
  exact up_op ⟨ρ, G, Q0, hs, hg, h, k⟩
/-- any value's truth -/
def zTru (t : DE) : DT := fun ρ G Q => t ρ G fun d G1 => match d with
  | .non => Q false G1
  | .bl b => Q b G1
  | .int i => Q (i != 0) G1
  | .str y => y.length ≤ sizeLine ∧ Q ((y.length : Int) != 0) G1
  | .tup ds => Q (!ds.isEmpty) G1
  | .ct ds => Q (!ds.isEmpty) G1
  | .cl ds => Q (!ds.isEmpty) G1
  | .ref p => match G1 p with
    | some (.lst ds) => Q (!ds.isEmpty) G1
    | some (.dk ds) => Q (!ds.isEmpty) G1
    | _ => False
  | _ => False
theorem Reps.isEmpty {K : PySem.W.Frag} {H : Hp} {xs : List V} {ds : List D} (r : Reps K H xs ds) : xs.isEmpty = ds.isEmpty := by cases r <;> rfl
theorem RepKV.isEmpty {κ : Type} {K : PySem.W.Frag} {H : Hp} {xs : List (κ × V)} {ds : List (κ × D)} (r : RepKV K H xs ds) : xs.isEmpty = ds.isEmpty := by cases r <;> rfl
theorem z_tru (ha : ZE X a ta) (he : ∀ whole, isTrue a X.env whole = (do let v ← whole; standAt a.pos; holding [v] (truthy v)) := by intro _; rfl) : ZT X a (zTru ta) := PTi (pt_truth ha he) fun σ H Q q => by
  obtain ⟨ρ, G, Q0, hs, hg, h, k⟩ := q
  refine ⟨ρ, G, _, hs, hg, h, fun d G1 x H1 h1 f1 g1 r1 => ?_⟩
  have fin : ∀ b, Q0 b G1 → Q b H1 := fun b q => k b G1 H1 q f1 g1
  cases r1 with
  | non => exact ⟨_, rfl, fin _ h1⟩
  | bl b => exact ⟨_, rfl, fin _ h1⟩
  | int i => exact ⟨_, rfl, fin _ h1⟩
  | str i => exact ⟨_, ⟨h1.1, rfl⟩, fin _ h1.2⟩
  | ty n => cases h1
  | tup hq r => exact ⟨_, .inr (.inl ⟨_, hq.sq, rfl⟩), fin _ (by rw [r.isEmpty]; exact h1)⟩
  | ct hq r => exact ⟨_, .inr (.inl ⟨_, hq.sq, rfl⟩), fin _ (by rw [r.isEmpty]; exact h1)⟩
  | cl hq r => exact ⟨_, .inl ⟨_, hq.sq, rfl⟩, fin _ (by rw [r.isEmpty]; exact h1)⟩
  | ref p =>
    simp only at h1
    split at h1
    · rename_i ds e
      obtain ⟨xs, hx, r⟩ := g1 p _ e
      exact ⟨_, .inl ⟨_, .inl (.inl hx), rfl⟩, fin _ (by rw [r.isEmpty]; exact h1)⟩
    · rename_i ds e
      obtain ⟨xs, hx, r⟩ := g1 p _ e
      exact ⟨_, .inr (.inr ⟨_, hx, rfl⟩), fin _ (by rw [r.isEmpty]; exact h1)⟩
    · cases h1

/-! ### and, or, not; a if c else b -/
variable {t u : DT} {rest : List Expr}
def zAnd (t u : DT) : DT := fun ρ G Q => t ρ G fun c G1 => if c = true then u ρ G1 Q else Q false G1
def zOrT (t u : DT) : DT := fun ρ G Q => t ρ G fun c G1 => if c = true then Q true G1 else u ρ G1 Q
def zNot (t : DT) : DT := fun ρ G Q => t ρ G fun c G1 => Q (!c) G1
theorem zw_and1 (ha : ZT X a t) : ZW X (.BoolOp .And [a] pos) t := pw_and1 ha
theorem zw_or1 (ha : ZT X a t) : ZW X (.BoolOp .Or [a] pos) t := pw_or1 ha
theorem zw_and (ha : ZT X a t) (hb : ZW X (.BoolOp .And (b :: rest) pos) u) : ZW X (.BoolOp .And (a :: b :: rest) pos) (zAnd t u) := PWi (pw_and ha hb) fun σ H Q q => by
  obtain ⟨ρ, G, Q0, hs, hg, h, k⟩ := q
  refine ⟨ρ, G, _, hs, hg, h, fun c G1 H1 h1 f1 g1 => ?_⟩
  cases c with
  | true =>
    rw [if_pos rfl] at h1 ⊢
    exact ⟨ρ, G1, Q0, hs.mono (hg.tm f1), g1, h1, fun b G' H' q f g => k b G' H' q (f1.trans f) g⟩
  | false =>
    rw [if_neg Bool.false_ne_true] at h1 ⊢
    exact k false G1 H1 h1 f1 g1
theorem zw_or (ha : ZT X a t) (hb : ZW X (.BoolOp .Or (b :: rest) pos) u) : ZW X (.BoolOp .Or (a :: b :: rest) pos) (zOrT t u) := PWi (pw_or ha hb) fun σ H Q q => by
  obtain ⟨ρ, G, Q0, hs, hg, h, k⟩ := q
  refine ⟨ρ, G, _, hs, hg, h, fun c G1 H1 h1 f1 g1 => ?_⟩
  cases c with
  | true =>
    rw [if_pos rfl] at h1 ⊢
    exact k true G1 H1 h1 f1 g1
  | false =>
    rw [if_neg Bool.false_ne_true] at h1 ⊢
    exact ⟨ρ, G1, Q0, hs.mono (hg.tm f1), g1, h1, fun b G' H' q f g => k b G' H' q (f1.trans f) g⟩
theorem z_not (ha : ZT X a t) : ZT X (.UnaryOp .Not a pos) (zNot t) := PTi (pt_not ha) fun σ H Q q => by
  obtain ⟨ρ, G, Q0, hs, hg, h, k⟩ := q
  exact ⟨ρ, G, _, hs, hg, h, fun c G1 H1 h1 f1 g1 => k (!c) G1 H1 h1 f1 g1⟩
theorem zw_t {e : Expr} (h : ZW X e t) : ZT X e t := PW.pt h
def zIf (t : DT) (ta tb : DE) : DE := fun ρ G Q => t ρ G fun c G1 => if c = true then ta ρ G1 Q else tb ρ G1 Q
theorem z_ifE {c : Expr} (hc : ZT X c t) (ha : ZE X a ta) (hb : ZE X b tb) : ZE X (.IfExp c a b pos) (zIf t ta tb) := PEi (pe_ifExp hc ha hb) fun σ H Q q => by
  obtain ⟨ρ, G, Q0, hs, hg, h, k⟩ := q
  refine ⟨ρ, G, _, hs, hg, h, fun c G1 H1 h1 f1 g1 => ?_⟩
  cases c with
  | true =>
    rw [if_pos rfl] at h1 ⊢
    exact ⟨ρ, G1, Q0, hs.mono (hg.tm f1), g1, h1, CK.go k f1⟩
  | false =>
    rw [if_neg Bool.false_ne_true] at h1 ⊢
    exact ⟨ρ, G1, Q0, hs.mono (hg.tm f1), g1, h1, CK.go k f1⟩
/-- and, or, not as values of bools -/
def zAndV (ta tb : DE) : DE := fun ρ G Q => ta ρ G fun d G1 => match d with
  | .bl c => if c = true then tb ρ G1 Q else Q (.bl false) G1
  | _ => False
def zOrV (ta tb : DE) : DE := fun ρ G Q => ta ρ G fun d G1 => match d with
  | .bl c => if c = true then Q (.bl true) G1 else tb ρ G1 Q
  | _ => False
def zNotV (ta : DE) : DE := fun ρ G Q => ta ρ G fun d G1 => match d with
  | .bl c => Q (.bl (!c)) G1
  | _ => False
theorem z_one {op} {t : DE} (h : ZE X a t) : ZE X (.BoolOp op [a] pos) t := pe_one h
theorem z_and (ha : ZE X a ta) (hb : ZE X (.BoolOp .And (b :: rest) pos) tb) : ZE X (.BoolOp .And (a :: b :: rest) pos) (zAndV ta tb) := PEi (pe_and ha hb) fun σ H Q q => by
  obtain ⟨ρ, G, Q0, hs, hg, h, k⟩ := q
  refine ⟨ρ, G, _, hs, hg, h, fun d G1 x H1 h1 f1 g1 r1 => ?_⟩
  cases r1 with
  | bl c =>
    refine ⟨c, rfl, ?_⟩
    cases c with
    | true => exact ⟨ρ, G1, Q0, hs.mono (hg.tm f1), g1, h1, CK.go k f1⟩
    | false => exact k _ G1 _ H1 h1 f1 g1 (.bl _)
  | _ => cases h1
theorem z_or (ha : ZE X a ta) (hb : ZE X (.BoolOp .Or (b :: rest) pos) tb) : ZE X (.BoolOp .Or (a :: b :: rest) pos) (zOrV ta tb) := PEi (pe_or ha hb) fun σ H Q q => by
  obtain ⟨ρ, G, Q0, hs, hg, h, k⟩ := q
  refine ⟨ρ, G, _, hs, hg, h, fun d G1 x H1 h1 f1 g1 r1 => ?_⟩
  cases r1 with
  | bl c =>
    refine ⟨c, rfl, ?_⟩
    cases c with
    | true => exact k _ G1 _ H1 h1 f1 g1 (.bl _)
    | false => exact ⟨ρ, G1, Q0, hs.mono (hg.tm f1), g1, h1, CK.go k f1⟩
  | _ => cases h1
theorem z_notV (ha : ZE X a ta) : ZE X (.UnaryOp .Not a pos) (zNotV ta) := PEi (pe_not ha) fun σ H Q q => by
  obtain ⟨ρ, G, Q0, hs, hg, h, k⟩ := q
  refine ⟨ρ, G, _, hs, hg, h, fun d G1 x H1 h1 f1 g1 r1 => ?_⟩
  cases r1 with
  | bl c => exact ⟨c, rfl, k _ G1 _ H1 h1 f1 g1 (.bl _)⟩
  | _ => cases h1

/-! ### argument lists, displays -/
variable {es : List Expr} {tA : DA}
def zNil : DA := fun _ G Q => Q [] G
def zCons (ta : DE) (tr : DA) : DA := fun ρ G Q => ta ρ G fun d G1 => tr ρ G1 fun ds G2 => Q (d :: ds) G2
theorem za_nil : ZA X [] zNil := PAi pa_nil fun σ H Q q => by
  obtain ⟨ρ, G, Q0, hs, hg, h, k⟩ := q
  exact k [] G [] H h (Fr.refl H G) hg .nil
theorem za_cons (ha : ZE X a ta) (hr : ZA X es tA) (hs : starEach (a :: es) X.env = (false, eval a X.env) :: starEach es X.env := by rfl) : ZA X (a :: es) (zCons ta tA) := PAi (pa_cons ha hr hs) fun σ H Q q => by
  obtain ⟨ρ, G, Q0, hs, hg, h, k⟩ := q
  exact ⟨ρ, G, _, hs, hg, h, fun d G1 x H1 h1 f1 g1 r1 => ⟨ρ, G1, _, hs.mono (hg.tm f1), g1, h1, fun ds G2 xs H2 h2 f2 g2 r2 => k _ G2 _ H2 h2 (f1.trans f2) g2 (.cons (r1.mono (g1.tm f2)) r2)⟩⟩
def zTup (ta : DA) : DE := fun ρ G Q => ta ρ G fun ds G1 => ds.length ≤ sizeLine ∧ Q (.tup ds) G1
def zLst (ta : DA) : DE := fun ρ G Q => ta ρ G fun ds G1 => ds.length ≤ sizeLine ∧ ∀ p G2, G1 p = none → At G1 p (.lst ds) G2 → Q (.ref p) G2
theorem z_tup {x1} (h : ZA X es tA) : ZE X (.Tuple es x1 pos) (zTup tA) := PEi (pe_tup h) fun σ H Q q => by
  obtain ⟨ρ, G, Q0, hs, hg, h, k⟩ := q
  exact ⟨ρ, G, _, hs, hg, h, fun ds G1 xs H1 h1 f1 g1 r1 => ⟨by rw [r1.length]; exact h1.1, fun p hp => CK.tup (CK.go k f1) hp h1.2 g1 r1⟩⟩
theorem z_lst (h : ZA X es tA) : ZE X (.List es pos) (zLst tA) := PEi (pe_lst h) fun σ H Q q => by
  obtain ⟨ρ, G, Q0, hs, hg, h, k⟩ := q
  exact ⟨ρ, G, _, hs, hg, h, fun ds G1 xs H1 h1 f1 g1 r1 => ⟨by rw [r1.length]; exact h1.1, fun p hp => CK.new (m := .lst ds) (CK.go k f1) hp g1 ⟨xs, upd_same, r1.mono (tm_new hp)⟩ fun G' n at_ => h1.2 p G' n at_⟩⟩

/-! ### calls of builtins -/
abbrev ZF := List D → Gp → DK → Prop
def upC (K : PySem.W.Frag) (z : ZF) : List V → Hp → VK → Prop := fun xs H Q => ∃ ds G Q0, SimG K H G ∧ Reps K H xs ds ∧ z ds G Q0 ∧ CK K H G Q0 Q
def ZCall (X : Cx) (f : Value) (z : ZF) : Prop := CallR X f (upC X.K z)
theorem CallRi {X : Cx} {f : Value} {r r' : List V → Hp → VK → Prop} (h : CallR X f r) (i : ∀ xs H Q, r' xs H Q → r xs H Q) : CallR X f r' := fun pins s σ H xs us Q I rx q => h pins s σ H xs us Q I rx (i xs H Q q)
def zfOr (z z' : ZF) : ZF := fun ds G Q => z ds G Q ∨ z' ds G Q
theorem ZCall.or {f : Value} {z z' : ZF} (h : ZCall X f z) (h' : ZCall X f z') : ZCall X f (zfOr z z') := CallRi (CallR.or h h') fun xs H Q q => by
  obtain ⟨ds, G, Q0, g, r, h | h, k⟩ := q
  · exact .inl ⟨ds, G, Q0, g, r, h, k⟩
  · exact .inr ⟨ds, G, Q0, g, r, h, k⟩
def zCB (z : ZF) (t : DA) : DE := fun ρ G Q => t ρ G fun ds G1 => z ds G1 Q
theorem up_cb {K : PySem.W.Frag} {z : ZF} {t : DA} {σ : L2.St} {H : Hp} {Q : VK} (q : upE K (zCB z t) σ H Q) : tCB (upC K z) (upA K t) σ H Q := by
  obtain ⟨ρ, G, Q0, hs, hg, h, k⟩ := q
  exact ⟨ρ, G, _, hs, hg, h, fun ds G1 xs H1 h1 f1 g1 r1 => ⟨ds, G1, Q0, g1, r1, h1, CK.go k f1⟩⟩
theorem z_callB {id : String} {x : Str} {p : Pos} {z : ZF} (hc : ZCall X (.builtin id) z) (hg : Gl X x) (hm : X.mg x = none) (hv : bootBuiltins x = some (.builtin id)) (ha : ZA X (a :: es) tA) (hn : x ≠ "__name__" := by decide)
    (hdb : (x == ("__debug__" : Str)) = false := by decide) (he : starEach (a :: es) X.env = (false, eval a X.env) :: starEach es X.env := by rfl) (hpl : (backTo pos (starEach es X.env)).any (·.1) = false := by rfl) :
    ZE X (.Call (.Name x p) (a :: es) [] pos) (zCB z tA) := PEi (pe_callB hc hg hm hv ha hn hdb he hpl) fun _ _ _ q => up_cb q
theorem z_callTy {T : String} {x : Str} {p : Pos} {z : ZF} (hc : ZCall X (.type T) z) (hg : Gl X x) (hm : X.mg x = none) (hv : bootBuiltins x = some (.type T)) (ha : ZA X (a :: es) tA) (hn : x ≠ "__name__" := by decide)
    (hdb : (x == ("__debug__" : Str)) = false := by decide) (he : starEach (a :: es) X.env = (false, eval a X.env) :: starEach es X.env := by rfl) (hpl : (backTo pos (starEach es X.env)).any (·.1) = false := by rfl) :
    ZE X (.Call (.Name x p) (a :: es) [] pos) (zCB z tA) := PEi (pe_callTy hc hg hm hv ha hn hdb he hpl) fun _ _ _ q => up_cb q

/-! ### calls of the program's defs -/
abbrev XKz := Value → Gp → Prop
abbrev ZSp := List D → Gp → DK → XKz → Prop
def upSp (K : PySem.W.Frag) (z : ZSp) : Sp := fun vs H Q E => ∃ ds G Q0 E0, Sim0 K H G ∧ Reps K H vs ds ∧ z ds G Q0 E0 ∧ (∀ d G' v H', Q0 d G' → Fr H G H' G' → Sim0 K H' G' → Rep K H' v d → Q v H') ∧ ∀ c G' dx H', E0 c G' → Fr H G H' G' → Sim0 K H' G' → E c dx H'
/-- what is wanted of an exception here: E0 told as E -/
def EOk (K : PySem.W.Frag) (E0 : XKz) (E : XK) : Prop := ∀ c G' dx H', E0 c G' → SimG K H' G' → E c dx H'
def zCall (z : ZSp) (E0 : XKz) (t : DA) : DE := fun ρ G Q => t ρ G fun ds G1 => z ds G1 Q E0
theorem up_call {K : PySem.W.Frag} {z : ZSp} {t : DA} {E0 : XKz} {E : XK} (hE : EOk K E0 E) {σ : L2.St} {H : Hp} {Q : VK} (q : upE K (zCall z E0 t) σ H Q) : tCall (upSp K z) [] E (upA K t) σ H Q := by
  obtain ⟨ρ, G, Q0, hs, hg, h, k⟩ := q
  exact ⟨ρ, G, _, hs, hg, h, fun ds G1 xs H1 h1 f1 g1 r1 => ⟨ds, G1, Q0, E0, g1.toSim0, by rw [List.append_nil]; exact r1, h1, fun d G' v H' q f g r => k d G' v H' q (f1.trans f) (g1.next f g) r, fun c G' dx H' q f g => hE c G' dx H' q (g1.next f g)⟩⟩
/-- no exception comes here -/
abbrev X0 : XKz := fun _ _ => False
theorem eok0 {K : PySem.W.Frag} {E : XK} : EOk K X0 E := fun _ _ _ _ h _ => h.elim
theorem z_call {k : Nat} {f : Addr} {fd : FuncData} {ps : List Str} {z : ZSp} {x : Str} {p : Pos} {E0 : XKz} {E : XK} (F : FnOk X.prog X.w X.K X.mg X.base (L2.CX X.prog X.w) k f fd ps (upSp X.K z)) (hr : Room k X.A) (hg : Gl X x) (hm : X.mg x = some (.ref f)) (hk : PySem.W.keepIn X.K (.ref f) = true) (hb : Binds X.K fd ps [])
    (hE : EOk X.K E0 E) (hx : Passes (L2.CX X.prog X.w) X E) (ha : ZA X (a :: es) tA) (hdb : (x == ("__debug__" : Str)) = false := by decide) (he : starEach (a :: es) X.env = (false, eval a X.env) :: starEach es X.env := by rfl) (hpl : (backTo pos (starEach es X.env)).any (·.1) = false := by rfl) :
    ZE X (.Call (.Name x p) (a :: es) [] pos) (zCall z E0 tA) := PEi (pe_call F hr hg hm hk hb .nil hx ha hdb he hpl) fun _ _ _ q => up_call hE q
/-- a call that lets nothing out -/
theorem z_call0 {k : Nat} {f : Addr} {fd : FuncData} {ps : List Str} {z : ZSp} {x : Str} {p : Pos} (F : FnOk X.prog X.w X.K X.mg X.base (L2.CX X.prog X.w) k f fd ps (upSp X.K z)) (hr : Room k X.A) (hg : Gl X x) (hm : X.mg x = some (.ref f)) (hk : PySem.W.keepIn X.K (.ref f) = true) (hb : Binds X.K fd ps [])
    (ha : ZA X (a :: es) tA) (hdb : (x == ("__debug__" : Str)) = false := by decide) (he : starEach (a :: es) X.env = (false, eval a X.env) :: starEach es X.env := by rfl) (hpl : (backTo pos (starEach es X.env)).any (·.1) = false := by rfl) :
    ZE X (.Call (.Name x p) (a :: es) [] pos) (zCall z X0 tA) := z_call (E := L2.E0) F hr hg hm hk hb eok0 (passL (X := X)) ha hdb he hpl
end

/-! ### statements -/
section
variable {X : Cx} {st : Stmt} {rest : List Stmt} {a b : Expr} {ta tb : DE} {pos : Pos} {t u : DS}
def zNext : DS := fun Z ρ G => Z.nx ρ G
def zSeq (t u : DS) : DS := fun Z ρ G => t { Z with nx := u Z } ρ G
abbrev SK (K : PySem.W.Frag) (H : Hp) (G : Gp) (Z : ZSt → Gp → Prop) (D : L2.St → Hp → Prop) : Prop := ∀ ρ' G' σ' H', Z ρ' G' → Fr H G H' G' → SimG K H' G' → SimS K H' σ' ρ' → D σ' H'
theorem SK.go {K : PySem.W.Frag} {H H1 : Hp} {G G1 : Gp} {Z : ZSt → Gp → Prop} {D : L2.St → Hp → Prop} (k : SK K H G Z D) (f : Fr H G H1 G1) : SK K H1 G1 Z D := fun ρ' G' σ' H' q f' g s => k ρ' G' σ' H' q (f.trans f') g s
theorem zs_nil : ZSs X [] zNext := PSsi pss_nil fun D σ H q => by
  obtain ⟨ρ, G, Z, hs, hg, h, k, _⟩ := q
  exact k ρ G σ H h (Fr.refl H G) hg hs
theorem zs_cons (h1 : ZS X st t) (h2 : ZSs X rest u) : ZSs X (st :: rest) (zSeq t u) := PSsi (pss_cons h1 h2) fun D σ H q => by
  obtain ⟨ρ, G, Z, hs, hg, h, k1, k2, k3, k4⟩ := q
  exact ⟨ρ, G, _, hs, hg, h, fun ρ' G' σ' H' h' f' g' s' => ⟨ρ', G', Z, s', g', h', SK.go k1 f', CK.go k2 f', SK.go k3 f', SK.go k4 f'⟩, k2, k3, k4⟩
theorem zs_one (h1 : ZS X st t) : ZSs X [st] t := pss_one h1
def zBreak : DS := fun Z ρ G => Z.bk ρ G
def zCont : DS := fun Z ρ G => Z.ct ρ G
theorem z_pass : ZS X (.Pass pos) zNext := PSi ps_pass fun D σ H q => by
  obtain ⟨ρ, G, Z, hs, hg, h, k, _⟩ := q
  exact k ρ G σ H h (Fr.refl H G) hg hs
theorem z_break : ZS X (.Break pos) zBreak := PSi ps_break fun D σ H q => by
  obtain ⟨ρ, G, Z, hs, hg, h, _, _, k, _⟩ := q
  exact k ρ G σ H h (Fr.refl H G) hg hs
theorem z_continue : ZS X (.Continue pos) zCont := PSi ps_continue fun D σ H q => by
  obtain ⟨ρ, G, Z, hs, hg, h, _, _, _, k⟩ := q
  exact k ρ G σ H h (Fr.refl H G) hg hs
def zDrop (te : DE) : DS := fun Z ρ G => te ρ G fun _ G1 => Z.nx ρ G1
theorem z_expr (he : ZE X a ta) (hs : swapsWith a none pos.line X.env = pure false := by rfl) : ZS X (.Expr a pos) (zDrop ta) := PSi (ps_expr he hs) fun D σ H q => by
  obtain ⟨ρ, G, Z, hs, hg, h, k, _⟩ := q
  exact ⟨ρ, G, _, hs, hg, h, fun d G1 x H1 h1 f1 g1 r1 => k ρ G1 σ H1 h1 f1 g1 (hs.mono (hg.tm f1))⟩
def zRet (te : DE) : DS := fun Z ρ G => te ρ G Z.rt
theorem z_ret (he : ZE X a ta) : ZS X (.Return (some a) pos) (zRet ta) := PSi (ps_ret he) fun D σ H q => by
  obtain ⟨ρ, G, Z, hs, hg, h, _, k, _⟩ := q
  exact ⟨ρ, G, _, hs, hg, h, k⟩
def zRetN : DS := fun Z _ G => Z.rt .non G
theorem z_retN : ZS X (.Return none pos) zRetN := PSi ps_retN fun D σ H q => by
  obtain ⟨ρ, G, Z, hs, hg, h, _, k, _⟩ := q
  exact k _ G _ H h (Fr.refl H G) hg .non
def zIfS (c : DT) (t u : DS) : DS := fun Z ρ G => c ρ G fun b G1 => if b = true then t Z ρ G1 else u Z ρ G1
theorem z_if {c : Expr} {sa sb : List Stmt} {tc : DT} (hc : ZT X c tc) (ha : ZSs X sa t) (hb : ZSs X sb u) : ZS X (.If c sa sb pos) (zIfS tc t u) := PSi (ps_if hc ha hb) fun D σ H q => by
  obtain ⟨ρ, G, Z, hs, hg, h, k1, k2, k3, k4⟩ := q
  refine ⟨ρ, G, _, hs, hg, h, fun c G1 H1 h1 f1 g1 => ?_⟩
  cases c with
  | true =>
    rw [if_pos rfl] at h1 ⊢
    exact ⟨ρ, G1, Z, hs.mono (hg.tm f1), g1, h1, SK.go k1 f1, CK.go k2 f1, SK.go k3 f1, SK.go k4 f1⟩
  | false =>
    rw [if_neg Bool.false_ne_true] at h1 ⊢
    exact ⟨ρ, G1, Z, hs.mono (hg.tm f1), g1, h1, SK.go k1 f1, CK.go k2 f1, SK.go k3 f1, SK.go k4 f1⟩
theorem z_doc {x j pos'} : ZS X (.Expr (.Constant (.str x) j pos) pos') zNext := PSi ps_doc fun D σ H q => by
  obtain ⟨ρ, G, Z, hs, hg, h, k, _⟩ := q
  exact k ρ G σ H h (Fr.refl H G) hg hs

/-! ### targets, assignments -/
abbrev DG := D → ZSt → Gp → (ZSt → Gp → Prop) → Prop
abbrev DGs := List D → ZSt → Gp → (ZSt → Gp → Prop) → Prop
def upG (K : PySem.W.Frag) (t : DG) : TG := fun v σ H Q => ∃ d ρ G Q0, Rep K H v d ∧ SimS K H σ ρ ∧ SimG K H G ∧ t d ρ G Q0 ∧ SK K H G Q0 Q
def upGs (K : PySem.W.Frag) (t : DGs) : TGs := fun vs σ H Q => ∃ ds ρ G Q0, Reps K H vs ds ∧ SimS K H σ ρ ∧ SimG K H G ∧ t ds ρ G Q0 ∧ SK K H G Q0 Q
def ZG (X : Cx) (e : Expr) (t : DG) : Prop := PG X e (upG X.K t)
def ZGs (X : Cx) (es : List Expr) (t : DGs) : Prop := PGs X es (upGs X.K t)
theorem PGi {e : Expr} {t t' : TG} (h : PG X e t) (i : ∀ v σ H Q, t' v σ H Q → t v σ H Q) : PG X e t' := ⟨fun pins s σ H v u Q I r q => h.run pins s σ H v u Q I r (i v σ H Q q)⟩
theorem PGsi {e : List Expr} {t t' : TGs} (h : PGs X e t) (i : ∀ v σ H Q, t' v σ H Q → t v σ H Q) : PGs X e t' := ⟨fun pins s σ H v u Q I r q => h.run pins s σ H v u Q I r (i v σ H Q q)⟩
def zName (i : Nat) : DG := fun d ρ G Q => Q (ρ.set i (some d)) G
theorem zg_name {i : Nat} {x : Str} (hN : X.N.Nodup) (hi : X.N[i]? = some x) (hx : Loc X.env.scope x) (hf : X.fn x = true ∨ X.env.scope.names.lookup x = some .local := by first | exact .inl rfl | exact .inr rfl | assumption) : ZG X (.Name x pos) (zName i) := PGi (pg_name hN hi hx hf) fun v σ H Q q => by
  obtain ⟨d, ρ, G, Q0, r, hs, hg, h, k⟩ := q
  exact k _ G _ H h (Fr.refl H G) hg (hs.set r)
def zgNil : DGs := fun ds ρ G Q => ds = [] ∧ Q ρ G
def zgCons (t : DG) (u : DGs) : DGs := fun ds ρ G Q => match ds with
  | d :: r => t d ρ G fun ρ' G' => u r ρ' G' Q
  | [] => False
theorem zgs_nil : ZGs X [] zgNil := PGsi pgs_nil fun v σ H Q q => by
  obtain ⟨d, ρ, G, Q0, r, hs, hg, ⟨e, h⟩, k⟩ := q
  subst e
  cases r
  exact ⟨rfl, k _ G _ H h (Fr.refl H G) hg hs⟩
theorem zgs_cons {e : Expr} {es : List Expr} {t : DG} {u : DGs} (h1 : ZG X e t) (h2 : ZGs X es u) (hs : (assignEach (e :: es) X.env).map (·.2) = assign e X.env :: (assignEach es X.env).map (·.2) := by rfl) : ZGs X (e :: es) (zgCons t u) := PGsi (pgs_cons h1 h2 hs) fun v σ H Q q => by
  obtain ⟨ds, ρ, G, Q0, r, hs, hg, h, k⟩ := q
  cases r with
  | nil => exact False.elim h
  | cons r1 r2 => exact ⟨_, _, rfl, _, ρ, G, _, r1, hs, hg, h, fun ρ' G' σ' H' h' f' g' s' => ⟨_, ρ', G', Q0, r2.mono (hg.tm f'), s', g', h', SK.go k f'⟩⟩
/-- a, b, .. = a tuple -/
def zgTup (n : Nat) (u : DGs) : DG := fun d ρ G Q => match d with
  | .tup ds => ds.length = n ∧ u ds ρ G Q
  | _ => False
theorem zg_tup {es : List Expr} {k : Nat} {t : DGs} {n : Nat} (hc : X.calm = true) (h : ZGs X es t) (hn : (assignEach es X.env).length = n := by rfl) (hst : (assignEach es X.env).findIdx? (·.1) = none := by rfl) : ZG X (.Tuple es k pos) (zgTup n t) := PGi (pg_tup hc h hn hst) fun v σ H Q q => by
  obtain ⟨d, ρ, G, Q0, r, hs, hg, h, k⟩ := q
  cases r with
  | tup hq r => exact ⟨_, _, rfl, hq.sq, by rw [r.length]; exact h.1, _, ρ, G, Q0, r, hs, hg, h.2, k⟩
  | _ => exact False.elim h
def zAsg (te : DE) (g : DG) : DS := fun Z ρ G => te ρ G fun d G1 => g d ρ G1 Z.nx
theorem up_asg {K : PySem.W.Frag} {te : DE} {g : DG} {D : Ends} {σ : L2.St} {H : Hp} (q : upS K (zAsg te g) D σ H) : tAsg (upE K te) (upG K g) D σ H := by
  obtain ⟨ρ, G, Z, hs, hg, h, k, _⟩ := q
  exact ⟨ρ, G, _, hs, hg, h, fun d G1 x H1 h1 f1 g1 r1 => ⟨d, ρ, G1, Z.nx, r1, hs.mono (hg.tm f1), g1, h1, SK.go k f1⟩⟩
theorem z_asg {tg e : Expr} {te : DE} {g : DG} (he : ZE X e te) (hg : ZG X tg g) (hs : swapsWithSole [tg] e pos.line X.env = pure false := by rfl) (hw : swappedStores [tg] e X.env = pure none := by rfl)
    (h1 : (assignEach [tg] X.env).map (·.2) = [assign tg X.env] := by rfl) : ZS X (.Assign [tg] e pos) (zAsg te g) := PSi (ps_asg he hg hs hw h1) fun D σ H q => up_asg q
theorem z_set {i : Nat} {x : Str} {e : Expr} {te : DE} {pos' : Pos} (hN : X.N.Nodup) (hi : X.N[i]? = some x) (hx : Loc X.env.scope x) (he : ZE X e te) (hs : swapsWith e (some (.Name x pos')) pos.line X.env = pure false := by rfl) (hf : X.fn x = true ∨ X.env.scope.names.lookup x = some .local := by first | exact .inl rfl | exact .inr rfl | assumption) :
    ZS X (.Assign [.Name x pos'] e pos) (zAsg te (zName i)) := PSi (ps_set hN hi hx he hs hf) fun D σ H q => by
  obtain ⟨ρ, G, Z, hs, hg, h, k, _⟩ := q
  exact ⟨ρ, G, _, hs, hg, h, fun d G1 x H1 h1 f1 g1 r1 => k _ G1 _ H1 h1 f1 g1 ((hs.mono (hg.tm f1)).set r1)⟩
/-- a, b = x, y -/
def zPar (i j : Nat) (ta : DA) : DS := fun Z ρ G => ta ρ G fun ds G1 => match ds with
  | [d, e] => Z.nx ((ρ.set i (some d)).set j (some e)) G1
  | _ => False
theorem z_par {i j : Nat} {x y : Str} {a b : Expr} {ta : DA} {px py pt : Pos} {kt k2 pt2} (hc : X.calm = true) (hN : X.N.Nodup) (hi : X.N[i]? = some x) (hj : X.N[j]? = some y) (hij : i ≠ j)
    (hx : X.env.scope.names.lookup x = some .local) (hy : X.env.scope.names.lookup y = some .local) (ha : ZA X [a, b] ta)
    (hw : swappedStores [.Tuple [.Name x px, .Name y py] kt pt] (.Tuple [a, b] k2 pt2) X.env = pure (some [x, y]))
    (hs : swapsWithSole [.Tuple [.Name x px, .Name y py] kt pt] (.Tuple [a, b] k2 pt2) pos.line X.env = pure false := by rfl) :
    ZS X (.Assign [.Tuple [.Name x px, .Name y py] kt pt] (.Tuple [a, b] k2 pt2) pos) (zPar i j ta) := PSi (ps_par hc hN hi hj hij hx hy ha hw hs) fun D σ H q => by
  obtain ⟨ρ, G, Z, hs, hg, h, k, _⟩ := q
  refine ⟨ρ, G, _, hs, hg, h, fun ds G1 xs H1 h1 f1 g1 r1 => ?_⟩
  cases r1 with
  | nil => cases h1
  | cons p r1 =>
    cases r1 with
    | nil => cases h1
    | cons p' r1 =>
      cases r1 with
      | nil => exact ⟨_, _, rfl, k _ G1 _ H1 h1 f1 g1 (((hs.mono (hg.tm f1)).set p).set p')⟩
      | cons p2 r2 => cases h1

/-! ### while -/
def zWhile (c : DT) (tb : DS) : DS := fun Z ρ G => ∃ W : Nat → ZSt → Gp → Prop, (∃ m, W m ρ G) ∧ ∀ m ρ' G', W m ρ' G' →
  c ρ' G' fun b G1 => if b = true then tb { Z with nx := fun ρ2 G2 => ∃ m', m' < m ∧ W m' ρ2 G2, ct := fun ρ2 G2 => ∃ m', m' < m ∧ W m' ρ2 G2, bk := Z.nx } ρ' G1 else Z.nx ρ' G1
theorem z_while {c : Expr} {body : List Stmt} {tc : DT} {tb : DS} (hp : PassesOwn (model X.prog X.w) X.A X.env X.xe) (hc : ZT X c tc) (hb : ZSs X body tb) : ZS X (.While c body [] pos) (zWhile tc tb) := PSi (ps_while hp hc hb) fun D σ H q => by
  obtain ⟨ρ, G, Z, hs, hg, ⟨W, ⟨m0, w0⟩, turn⟩, k1, k2, k3, k4⟩ := q
  refine ⟨fun m σ' H' => ∃ ρ' G', SimS X.K H' σ' ρ' ∧ SimG X.K H' G' ∧ Fr H G H' G' ∧ W m ρ' G', ⟨m0, ρ, G, hs, hg, Fr.refl H G, w0⟩, ?_⟩
  rintro m σ' H' ⟨ρ', G', hs', hg', f', w⟩
  refine ⟨ρ', G', _, hs', hg', turn m ρ' G' w, fun b G1 H1 h1 f1 g1 => ?_⟩
  cases b with
  | true =>
    rw [if_pos rfl] at h1 ⊢
    refine ⟨fun σ2 H2 => ∃ ρ2 G2, SimS X.K H2 σ2 ρ2 ∧ SimG X.K H2 G2 ∧ Fr H G H2 G2 ∧ ∃ m', m' < m ∧ W m' ρ2 G2, fun σ2 H2 ⟨ρ2, G2, s2, g2, f2, m', hm, w2⟩ => ⟨m', hm, ρ2, G2, s2, g2, f2, w2⟩, ?_⟩
    have ff := f'.trans f1
    have nn : SK X.K H1 G1 (fun ρ2 G2 => ∃ m', m' < m ∧ W m' ρ2 G2) (fun σ2 H2 => ∃ ρ2 G2, SimS X.K H2 σ2 ρ2 ∧ SimG X.K H2 G2 ∧ Fr H G H2 G2 ∧ ∃ m', m' < m ∧ W m' ρ2 G2) := fun ρ2 G2 σ2 H2 w2 f2 g2 s2 => ⟨ρ2, G2, s2, g2, ff.trans f2, w2⟩
    exact ⟨ρ', G1, _, hs'.mono (hg'.tm f1), g1, h1, nn, CK.go k2 ff, SK.go k1 ff, nn⟩
  | false =>
    rw [if_neg Bool.false_ne_true] at h1 ⊢
    exact k1 ρ' G1 σ' H1 h1 (f'.trans f1) g1 (hs'.mono (hg'.tm f1))
end
end Z

namespace Z
open PySem PySem.Spec PyProof.Rows L2
variable [τ : Tbl] [β : Bas]

/-! ### what a loop walks: its items, and what must stand at every turn -/
abbrev DI := ZSt → Gp → (List D → (Gp → Prop) → Gp → Prop) → Prop
structure ItOk (K : PySem.W.Frag) (Hs : Hp) (J : It) (items : List D) (live : Gp → Prop) : Prop where
  go : ∀ i H G, Tm Hs H → SimG K H G → live G → i < items.length → J.go i H
  yld : ∀ i d H G x H', Tm Hs H → SimG K H G → live G → items[i]? = some d → J.yld i H x H' → Fr H G H' G ∧ SimG K H' G ∧ Rep K H' x d
  stop : ∀ H G, Tm Hs H → SimG K H G → live G → J.stop items.length H
def upI (K : PySem.W.Frag) (t : DI) : TI := fun σ H R => ∃ ρ G Q0, SimS K H σ ρ ∧ SimG K H G ∧ t ρ G Q0 ∧ ∀ items live G' H' J, Q0 items live G' → Fr H G H' G' → SimG K H' G' → ItOk K H' J items live → R J H'
def ZI (X : Cx) (tg iter : Expr) (t : DI) : Prop := PI X tg iter (upI X.K t)
theorem PIi {X : Cx} {tg e : Expr} {t t' : TI} (h : PI X tg e t) (i : ∀ σ H Q, t' σ H Q → t σ H Q) : PI X tg e t' := ⟨fun pins s σ H R I q => h.run pins s σ H R I (i σ H R q)⟩

theorem itok_list {K : PySem.W.Frag} {Hs : Hp} {a : Addr} {ds : List D} : ItOk K Hs (Itl K a) ds (fun G => G a = some (.lst ds)) where
  go := fun i H G _ g l hi => by
    obtain ⟨xs, hx, r⟩ := g a _ l
    obtain ⟨v, hv, _⟩ := r.get (List.getElem?_eq_getElem hi)
    exact ⟨xs, v, SqL.of hx, hv⟩
  yld := fun i d H G x H' _ g l hi y => by
    obtain ⟨rfl, y⟩ := y
    obtain ⟨xs, hx, r⟩ := g a _ l
    obtain ⟨v, hv, rv⟩ := r.get hi
    have e := y xs (SqL.of hx)
    rw [hv] at e
    cases e
    exact ⟨Fr.refl _ _, g, rv⟩
  stop := fun H G _ g l => by
    obtain ⟨xs, hx, r⟩ := g a _ l
    exact ⟨xs, SqL.of hx, by rw [r.length]; exact Nat.le_refl _⟩
theorem itok_cl {K : PySem.W.Frag} {Hs : Hp} {a : Addr} {xs : List V} {ds : List D} (hq : CqL K Hs a xs) (r : Reps K Hs xs ds) : ItOk K Hs (Itl K a) ds (fun _ => True) where
  go := fun i H G t g l hi => by
    obtain ⟨v, hv, _⟩ := r.get (List.getElem?_eq_getElem hi)
    exact ⟨xs, v, (t.cq hq).sq, hv⟩
  yld := fun i d H G x H' t g l hi y => by
    obtain ⟨rfl, y⟩ := y
    obtain ⟨v, hv, rv⟩ := r.get hi
    have e := y xs (t.cq hq).sq
    rw [hv] at e
    cases e
    exact ⟨Fr.refl _ _, g, rv.mono t⟩
  stop := fun H G t g l => ⟨xs, (t.cq hq).sq, by rw [r.length]; exact Nat.le_refl _⟩
theorem itok_tup {K : PySem.W.Frag} {Hs : Hp} {a : Addr} {xs : List V} {ds : List D} (hq : TqT K Hs a xs) (r : Reps K Hs xs ds) : ItOk K Hs (Itt K a) ds (fun _ => True) where
  go := fun i H G t g l hi => by
    obtain ⟨v, hv, _⟩ := r.get (List.getElem?_eq_getElem hi)
    exact ⟨xs, v, (t.tq hq).sq, hv⟩
  yld := fun i d H G x H' t g l hi y => by
    obtain ⟨rfl, y⟩ := y
    obtain ⟨v, hv, rv⟩ := r.get hi
    have e := y xs (t.tq hq).sq
    rw [hv] at e
    cases e
    exact ⟨Fr.refl _ _, g, rv.mono t⟩
  stop := fun H G t g l => ⟨xs, (t.tq hq).sq, by rw [r.length]; exact Nat.le_refl _⟩
theorem itok_ct {K : PySem.W.Frag} {Hs : Hp} {a : Addr} {xs : List V} {ds : List D} (hq : CqT K a xs) (r : Reps K Hs xs ds) : ItOk K Hs (Itt K a) ds (fun _ => True) where
  go := fun i H G t g l hi => by
    obtain ⟨v, hv, _⟩ := r.get (List.getElem?_eq_getElem hi)
    exact ⟨xs, v, hq.sq, hv⟩
  yld := fun i d H G x H' t g l hi y => by
    obtain ⟨rfl, y⟩ := y
    obtain ⟨v, hv, rv⟩ := r.get hi
    have e := y xs hq.sq
    rw [hv] at e
    cases e
    exact ⟨Fr.refl _ _, g, rv.mono t⟩
  stop := fun H G t g l => ⟨xs, hq.sq, by rw [r.length]; exact Nat.le_refl _⟩
def rngD (lo : Int) (n : Nat) : List D := (List.range n).map fun i => D.int (lo + (i : Nat))
theorem rngD_len (lo : Int) (n : Nat) : (rngD lo n).length = n := by simp [rngD]
theorem rngD_get {lo : Int} {n i : Nat} {d : D} (h : (rngD lo n)[i]? = some d) : i < n ∧ d = .int (lo + (i : Nat)) := by
  have hi : i < n := by
    have := (List.getElem?_eq_some_iff.mp h).1
    rw [rngD_len] at this
    exact this
  refine ⟨hi, ?_⟩
  unfold rngD at h
  rw [List.getElem?_map, List.getElem?_range hi] at h
  cases h
  rfl
theorem itok_rng {K : PySem.W.Frag} {Hs : Hp} {lo : Int} {n : Nat} : ItOk K Hs (Itr lo n) (rngD lo n) (fun _ => True) where
  go := fun i H G t g l hi => by rw [rngD_len] at hi; exact hi
  yld := fun i d H G x H' t g l hi y => by
    obtain ⟨rfl, rfl⟩ := y
    obtain ⟨_, rfl⟩ := rngD_get hi
    exact ⟨Fr.refl _ _, g, .int _⟩
  stop := fun H G t g l => by rw [rngD_len]; exact Nat.le_refl n
def enD (ds : List D) : List D := ds.zipIdx.map fun p => .tup [.int (p.2 : Nat), p.1]
theorem enD_len (ds : List D) : (enD ds).length = ds.length := by simp [enD]
theorem enD_get {ds : List D} {i : Nat} {d : D} (h : (enD ds)[i]? = some d) : ∃ e, ds[i]? = some e ∧ d = .tup [.int (i : Nat), e] := by
  unfold enD at h
  rw [List.getElem?_map, List.getElem?_zipIdx] at h
  cases e : ds[i]? with
  | none => rw [e] at h; cases h
  | some x =>
    rw [e] at h
    simp only [Option.map_some, Nat.zero_add, Option.some.injEq] at h
    exact ⟨x, rfl, h.symm⟩
theorem itok_enum {K : PySem.W.Frag} {Hs : Hp} {a : Addr} {ds : List D} : ItOk K Hs (Ite K a) (enD ds) (fun G => G a = some (.lst ds)) where
  go := fun i H G _ g l hi => by
    rw [enD_len] at hi
    obtain ⟨xs, hx, r⟩ := g a _ l
    obtain ⟨v, hv, _⟩ := r.get (List.getElem?_eq_getElem hi)
    exact ⟨xs, v, SqL.of hx, hv⟩
  yld := fun i d H G x H' _ g l hi y => by
    obtain ⟨T, w, rfl, hT, rfl, y⟩ := y
    obtain ⟨e, he, rfl⟩ := enD_get hi
    obtain ⟨xs, hx, r⟩ := g a _ l
    obtain ⟨v, hv, rv⟩ := r.get he
    have e := y xs (SqL.of hx)
    rw [hv] at e
    cases e
    have t := tm_new (o := .tup [.int (i : Nat), w]) hT
    exact ⟨Fr.tup hT, g.keep hT, .tup upd_same (.cons (.int _) (.cons (rv.mono t) .nil))⟩
  stop := fun H G _ g l => by
    obtain ⟨xs, hx, r⟩ := g a _ l
    exact ⟨xs, SqL.of hx, by rw [r.length, enD_len]; exact Nat.le_refl _⟩
def zipD (ds es : List D) : List D := (ds.zip es).map fun p => .tup [p.1, p.2]
theorem zipD_get {ds es : List D} {i : Nat} {d : D} (h : (zipD ds es)[i]? = some d) : ∃ x y, ds[i]? = some x ∧ es[i]? = some y ∧ d = .tup [x, y] := by
  unfold zipD at h
  rw [List.getElem?_map] at h
  cases e : (ds.zip es)[i]? with
  | none => rw [e] at h; cases h
  | some p =>
    rw [e] at h
    simp only [Option.map_some, Option.some.injEq] at h
    obtain ⟨h1, h2⟩ := List.getElem?_zip_eq_some.mp e
    exact ⟨p.1, p.2, h1, h2, h.symm⟩
theorem zipD_len (ds es : List D) : (zipD ds es).length = min ds.length es.length := by simp [zipD]
theorem itok_zip {K : PySem.W.Frag} {Hs : Hp} {a b : Addr} {ds es : List D} : ItOk K Hs (Itz K a b) (zipD ds es) (fun G => G a = some (.lst ds) ∧ G b = some (.lst es)) where
  go := fun i H G _ g l hi => by
    rw [zipD_len] at hi
    obtain ⟨xs, hx, r⟩ := g a _ l.1
    obtain ⟨ys, hy, r2⟩ := g b _ l.2
    obtain ⟨v, hv, _⟩ := r.get (List.getElem?_eq_getElem (show i < ds.length by omega))
    obtain ⟨w, hw, _⟩ := r2.get (List.getElem?_eq_getElem (show i < es.length by omega))
    exact ⟨xs, ys, v, w, SqL.of hx, SqL.of hy, hv, hw⟩
  yld := fun i d H G x H' _ g l hi y => by
    obtain ⟨T, w, u, rfl, hT, rfl, y1, y2⟩ := y
    obtain ⟨e1, e2, he1, he2, rfl⟩ := zipD_get hi
    obtain ⟨xs, hx, r⟩ := g a _ l.1
    obtain ⟨ys, hy, r2⟩ := g b _ l.2
    obtain ⟨v, hv, rv⟩ := r.get he1
    obtain ⟨v2, hv2, rv2⟩ := r2.get he2
    have e := y1 xs (SqL.of hx)
    rw [hv] at e
    cases e
    have e := y2 ys (SqL.of hy)
    rw [hv2] at e
    cases e
    have t := tm_new (o := .tup [w, u]) hT
    exact ⟨Fr.tup hT, g.keep hT, .tup upd_same (.cons (rv.mono t) (.cons (rv2.mono t) .nil))⟩
  stop := fun H G _ g l => by
    obtain ⟨xs, hx, r⟩ := g a _ l.1
    obtain ⟨ys, hy, r2⟩ := g b _ l.2
    refine ⟨xs, ys, SqL.of hx, SqL.of hy, ?_⟩
    have h1 := r.length
    have h2 := r2.length
    rw [zipD_len]
    omega
theorem RepKV.len {κ : Type} {K : PySem.W.Frag} {H : Hp} : ∀ {ds : List (κ × D)} {vs : List (κ × V)}, RepKV K H vs ds → vs.length = ds.length
  | [], _, .nil => rfl
  | _ :: _, _, .cons _ r => by rw [List.length_cons, List.length_cons, r.len]
theorem RepKV.get {κ : Type} {K : PySem.W.Frag} {H : Hp} : ∀ {ds : List (κ × D)} {vs : List (κ × V)} {i : Nat} {k : κ} {d : D}, RepKV K H vs ds → ds[i]? = some (k, d) → ∃ v, vs[i]? = some (k, v) ∧ Rep K H v d
  | _ :: _, _, 0, _, _, .cons h _, e => by
    cases e
    exact ⟨_, rfl, h⟩
  | _ :: _, _, i + 1, _, _, .cons _ r, e => by
    obtain ⟨v, h1, h2⟩ := RepKV.get (i := i) r (by simpa using e)
    exact ⟨v, by simpa using h1, h2⟩
def kD : Key → D
  | .inl i => .int i
  | .inr x => .str x
theorem rep_kD {K : PySem.W.Frag} {H : Hp} : ∀ k : Key, Rep K H (kV k) (kD k)
  | .inl i => .int i
  | .inr x => .str x
theorem reps_kD {K : PySem.W.Frag} {H : Hp} : ∀ k : List Key, Reps K H (k.map kV) (k.map kD)
  | [] => .nil
  | k :: r => .cons (rep_kD k) (reps_kD r)
theorem itok_keys {K : PySem.W.Frag} {Hs : Hp} {a : Addr} {o : Obj} {xs : List (Key × V)} {kvs : List (Key × D)} : ItOk K Hs (Itk a o xs) (kvs.map fun p => kD p.1) (fun G => G a = some (.ldk o xs kvs)) where
  go := fun i H G _ g l hi => by
    obtain ⟨hx, r⟩ := g a _ l
    rw [List.length_map] at hi
    exact ⟨hx, by rw [r.len]; exact hi⟩
  yld := fun i d H G x H' _ g l hi y => by
    obtain ⟨rfl, k, v, hk, rfl⟩ := y
    obtain ⟨hx, r⟩ := g a _ l
    rw [List.getElem?_map] at hi
    cases e : kvs[i]? with
    | none => rw [e] at hi; cases hi
    | some p =>
      obtain ⟨k', d'⟩ := p
      rw [e] at hi
      simp only [Option.map_some, Option.some.injEq] at hi
      subst hi
      obtain ⟨v', hv', _⟩ := r.get e
      rw [hv'] at hk
      cases hk
      exact ⟨Fr.refl _ _, g, rep_kD _⟩
  stop := fun H G _ g l => by
    obtain ⟨hx, r⟩ := g a _ l
    exact ⟨hx, by rw [r.len, List.length_map]; exact Nat.le_refl _⟩
theorem itok_keysT {K : PySem.W.Frag} {Hs : Hp} {a : Addr} {o : Obj} {xs : List (List Key × V)} {kvs : List (List Key × D)} : ItOk K Hs (Itkt a o xs) (kvs.map fun p => .tup (p.1.map kD)) (fun G => G a = some (.ldt o xs kvs)) where
  go := fun i H G _ g l hi => by
    obtain ⟨hx, r⟩ := g a _ l
    rw [List.length_map] at hi
    exact ⟨hx, by rw [r.len]; exact hi⟩
  yld := fun i d H G x H' _ g l hi y => by
    obtain ⟨rfl, k, v, q, hk, rfl, hq⟩ := y
    obtain ⟨hx, r⟩ := g a _ l
    rw [List.getElem?_map] at hi
    cases e : kvs[i]? with
    | none => rw [e] at hi; cases hi
    | some p =>
      obtain ⟨k', d'⟩ := p
      rw [e] at hi
      simp only [Option.map_some, Option.some.injEq] at hi
      subst hi
      obtain ⟨v', hv', _⟩ := r.get e
      rw [hv'] at hk
      cases hk
      exact ⟨Fr.refl _ _, g, .tup hq (reps_kD _)⟩
  stop := fun H G _ g l => by
    obtain ⟨hx, r⟩ := g a _ l
    exact ⟨hx, by rw [r.len, List.length_map]; exact Nat.le_refl _⟩
def strD (x : Str) : List D := x.cps.toList.map fun c => .str ⟨#[c]⟩
theorem strD_len (x : Str) : (strD x).length = x.cps.size := by simp [strD]
theorem itok_str {K : PySem.W.Frag} {Hs : Hp} {x : Str} : ItOk K Hs (Its x) (strD x) (fun _ => True) where
  go := fun i H G _ g l hi => by rw [strD_len] at hi; exact hi
  yld := fun i d H G v H' _ g l hi y => by
    obtain ⟨rfl, c, hc, rfl⟩ := y
    unfold strD at hi
    rw [List.getElem?_map, Array.getElem?_toList, hc] at hi
    cases hi
    exact ⟨Fr.refl _ _, g, .str _⟩
  stop := fun H G _ g l => by rw [strD_len]; exact Nat.le_refl _

section
variable {X : Cx} {tg a b : Expr} {ta tb : DE} {tA : DA} {pos p : Pos}
/-- a list that stands (tracked or written) -/
def zList (te : DE) : DI := fun ρ G Q => te ρ G fun d G1 => match d with
  | .cl ds => Q ds (fun _ => True) G1
  | .ref a => match G1 a with
    | some (.lst ds) => Q ds (fun G => G a = some (.lst ds)) G1
    | _ => False
  | _ => False
theorem zi_list (h : ZE X a ta) : ZI X tg a (zList ta) := PIi (pi_list h) fun σ H R q => by
  obtain ⟨ρ, G, Q0, hs, hg, h, k⟩ := q
  refine ⟨ρ, G, _, hs, hg, h, fun d G1 x H1 h1 f1 g1 r1 => ?_⟩
  cases r1 with
  | cl hq r => exact ⟨_, rfl, ⟨_, hq.sq⟩, k _ _ G1 H1 _ h1 f1 g1 (itok_cl hq r)⟩
  | ref p =>
    simp only at h1
    split at h1
    · rename_i ds e
      obtain ⟨xs, hx, r⟩ := g1 p _ e
      exact ⟨_, rfl, ⟨_, SqL.of hx⟩, k _ _ G1 H1 _ h1 f1 g1 itok_list⟩
    · cases h1
  | _ => cases h1
def zTupI (te : DE) : DI := fun ρ G Q => te ρ G fun d G1 => match d with
  | .tup ds => Q ds (fun _ => True) G1
  | .ct ds => Q ds (fun _ => True) G1
  | _ => False
theorem zi_tup (h : ZE X a ta) : ZI X tg a (zTupI ta) := PIi (pi_tup h) fun σ H R q => by
  obtain ⟨ρ, G, Q0, hs, hg, h, k⟩ := q
  refine ⟨ρ, G, _, hs, hg, h, fun d G1 x H1 h1 f1 g1 r1 => ?_⟩
  cases r1 with
  | tup hq r => exact ⟨_, rfl, ⟨_, hq.sq⟩, k _ _ G1 H1 _ h1 f1 g1 (itok_tup hq r)⟩
  | ct hq r => exact ⟨_, rfl, ⟨_, hq.sq⟩, k _ _ G1 H1 _ h1 f1 g1 (itok_ct hq r)⟩
  | _ => cases h1
def zStrI (te : DE) : DI := fun ρ G Q => te ρ G fun d G1 => match d with
  | .str x => Q (strD x) (fun _ => True) G1
  | _ => False
theorem zi_str (h : ZE X a ta) : ZI X tg a (zStrI ta) := PIi (pi_str h) fun σ H R q => by
  obtain ⟨ρ, G, Q0, hs, hg, h, k⟩ := q
  refine ⟨ρ, G, _, hs, hg, h, fun d G1 x H1 h1 f1 g1 r1 => ?_⟩
  cases r1 with
  | str y => exact ⟨_, rfl, k _ _ G1 H1 _ h1 f1 g1 itok_str⟩
  | _ => cases h1
def zKeysI (te : DE) : DI := fun ρ G Q => te ρ G fun d G1 => match d with
  | .ref a => match G1 a with
    | some (.ldk o xs kvs) => Q (kvs.map fun p => kD p.1) (fun G => G a = some (.ldk o xs kvs)) G1
    | some (.ldt o xs kvs) => Q (kvs.map fun p => .tup (p.1.map kD)) (fun G => G a = some (.ldt o xs kvs)) G1
    | _ => False
  | _ => False
theorem zi_keys (h : ZE X a ta) : ZI X tg a (zKeysI ta) := PIi (pi_keys h) fun σ H R q => by
  obtain ⟨ρ, G, Q0, hs, hg, h, k⟩ := q
  refine ⟨ρ, G, _, hs, hg, h, fun d G1 x H1 h1 f1 g1 r1 => ?_⟩
  cases r1 with
  | ref p =>
    simp only at h1
    split at h1
    · rename_i o xs kvs e
      exact ⟨_, o, rfl, .inl ⟨xs, (g1 p _ e).1, k _ _ G1 H1 _ h1 f1 g1 itok_keys⟩⟩
    · rename_i o xs kvs e
      exact ⟨_, o, rfl, .inr ⟨xs, (g1 p _ e).1, k _ _ G1 H1 _ h1 f1 g1 itok_keysT⟩⟩
    · cases h1
  | _ => cases h1
def zRng1 (tA : DA) : DI := fun ρ G Q => tA ρ G fun ds G1 => match ds with
  | [.int n] => -(2 ^ 62) ≤ n ∧ n < 2 ^ 62 ∧ Q (rngD 0 n.toNat) (fun _ => True) G1
  | _ => False
theorem zi_rng1 (hg : Gl X "range") (hm : X.mg "range" = none) (ha : ZA X [a] tA) (hs : starEach [a] X.env = [(false, eval a X.env)] := by rfl) : ZI X tg (.Call (.Name "range" p) [a] [] pos) (zRng1 tA) := PIi (pi_range1 hg hm ha hs) fun σ H R q => by
  obtain ⟨ρ, G, Q0, hs, hg, h, k⟩ := q
  refine ⟨ρ, G, _, hs, hg, h, fun ds G1 xs H1 h1 f1 g1 r1 => ?_⟩
  cases r1 with
  | nil => cases h1
  | cons r r2 =>
    cases r2 with
    | nil =>
      cases r with
      | int n => exact ⟨n, rfl, h1.1, h1.2.1, k _ _ G1 H1 _ h1.2.2 f1 g1 itok_rng⟩
      | _ => cases h1
    | cons r3 r4 => cases r <;> cases h1
def zRng2 (tA : DA) : DI := fun ρ G Q => tA ρ G fun ds G1 => match ds with
  | [.int i, .int j] => (-(2 ^ 62) ≤ i ∧ i < 2 ^ 62 ∧ -(2 ^ 62) ≤ j ∧ j < 2 ^ 62) ∧ Q (rngD i (j - i).toNat) (fun _ => True) G1
  | _ => False
theorem zi_rng2 (hg : Gl X "range") (hm : X.mg "range" = none) (ha : ZA X [a, b] tA) (hs : starEach [a, b] X.env = [(false, eval a X.env), (false, eval b X.env)] := by rfl) (hs2 : starEach [b] X.env = [(false, eval b X.env)] := by rfl) :
    ZI X tg (.Call (.Name "range" p) [a, b] [] pos) (zRng2 tA) := PIi (pi_range2 hg hm ha hs hs2) fun σ H R q => by
  obtain ⟨ρ, G, Q0, hs, hg, h, k⟩ := q
  refine ⟨ρ, G, _, hs, hg, h, fun ds G1 xs H1 h1 f1 g1 r1 => ?_⟩
  match ds, xs, r1, h1 with
  | [.int i, .int j], _, .cons (.int _) (.cons (.int _) .nil), h1 => exact ⟨i, j, rfl, h1.1, k _ _ G1 H1 _ h1.2 f1 g1 itok_rng⟩
def zEnum (tA : DA) : DI := fun ρ G Q => tA ρ G fun ds G1 => match ds with
  | [.ref a] => match G1 a with
    | some (.lst ds) => Q (enD ds) (fun G => G a = some (.lst ds)) G1
    | _ => False
  | _ => False
theorem zi_enum {elts : List Expr} {kk : Nat} {tpos : Pos} (hg : Gl X "enumerate") (hm : X.mg "enumerate" = none) (ha : ZA X [a] tA) (hs : starEach [a] X.env = [(false, eval a X.env)] := by rfl) :
    ZI X (.Tuple elts kk tpos) (.Call (.Name "enumerate" p) [a] [] pos) (zEnum tA) := PIi (pi_enum hg hm ha hs) fun σ H R q => by
  obtain ⟨ρ, G, Q0, hs, hg, h, k⟩ := q
  refine ⟨ρ, G, _, hs, hg, h, fun ds G1 xs H1 h1 f1 g1 r1 => ?_⟩
  match ds, xs, r1, h1 with
  | [.ref q], _, .cons (.ref _) .nil, h1 =>
    simp only at h1
    split at h1
    · rename_i ds e
      obtain ⟨xs, hx, r⟩ := g1 q _ e
      exact ⟨q, xs, rfl, SqL.of hx, k _ _ G1 H1 _ h1 f1 g1 itok_enum⟩
    · cases h1
def zZip (tA : DA) : DI := fun ρ G Q => tA ρ G fun ds G1 => match ds with
  | [.ref a, .ref b] => match G1 a, G1 b with
    | some (.lst ds), some (.lst es) => Q (zipD ds es) (fun G => G a = some (.lst ds) ∧ G b = some (.lst es)) G1
    | _, _ => False
  | _ => False
theorem zi_zip {elts : List Expr} {kk : Nat} {tpos : Pos} (hg : Gl X "zip") (hm : X.mg "zip" = none) (ha : ZA X [a, b] tA) (hs : starEach [a, b] X.env = (false, eval a X.env) :: starEach [b] X.env := by rfl) (hpl : (backTo pos (starEach [b] X.env)).any (·.1) = false := by rfl) :
    ZI X (.Tuple elts kk tpos) (.Call (.Name "zip" p) [a, b] [] pos) (zZip tA) := PIi (pi_zip hg hm ha hs hpl) fun σ H R q => by
  obtain ⟨ρ, G, Q0, hs, hg, h, k⟩ := q
  refine ⟨ρ, G, _, hs, hg, h, fun ds G1 xs H1 h1 f1 g1 r1 => ?_⟩
  match ds, xs, r1, h1 with
  | [.ref q, .ref q2], _, .cons (.ref _) (.cons (.ref _) .nil), h1 =>
    simp only at h1
    split at h1
    · rename_i ds es e e2
      obtain ⟨xs, hx, r⟩ := g1 q _ e
      obtain ⟨ys, hy, r2⟩ := g1 q2 _ e2
      exact ⟨q, q2, xs, ys, rfl, SqL.of hx, SqL.of hy, k _ _ G1 H1 _ h1 f1 g1 itok_zip⟩
    · cases h1

/-! ### for -/
def zFor (zi : DI) (g : DG) (tb : DS) : DS := fun Z ρ G => zi ρ G fun items live G1 => ∃ P : Nat → ZSt → Gp → Prop, P 0 ρ G1 ∧
  (∀ i d ρ' G', items[i]? = some d → P i ρ' G' → live G' ∧ g d ρ' G' fun ρ2 G2 => tb { nx := P (i + 1), ct := P (i + 1), bk := Z.nx, rt := Z.rt } ρ2 G2) ∧
  ∀ ρ' G', P items.length ρ' G' → live G' ∧ Z.nx ρ' G'
theorem z_for {iter : Expr} {body : List Stmt} {wi : DI} {g : DG} {tb : DS} (hp : PassesOwn (model X.prog X.w) X.A X.env X.xe) (hc : X.calm = true) (hi : ZI X tg iter wi) (hg : ZG X tg g) (hb : ZSs X body tb)
    (hs : ∀ x, foldedSetIterable iter X.env x = pure x := by intro _; rfl) : ZS X (.For tg iter body [] pos) (zFor wi g tb) := PSi (ps_for hp hc hi hg hb hs) fun D σ H q => by
  obtain ⟨ρ, G, Z, hs, hg, h, k1, k2, k3, k4⟩ := q
  refine ⟨ρ, G, _, hs, hg, h, fun items live G1 H1 J h1 f1 g1 it => ?_⟩
  obtain ⟨P, p0, step, done⟩ := h1
  refine ⟨fun i m σ' H' => m = items.length - i ∧ i ≤ items.length ∧ ∃ ρ' G', SimS X.K H' σ' ρ' ∧ SimG X.K H' G' ∧ Fr H1 G1 H' G' ∧ P i ρ' G', ⟨_, rfl, Nat.zero_le _, ρ, G1, hs.mono (hg.tm f1), g1, Fr.refl _ _, p0⟩, ?_⟩
  rintro i m σ' H' ⟨rfl, hi, ρ', G', s', g', f', p'⟩
  have tm := g1.tm f'
  by_cases hlt : i < items.length
  · have hd := List.getElem?_eq_getElem hlt
    obtain ⟨lv, st⟩ := step i _ ρ' G' hd p'
    refine .inr ⟨it.go i H' G' tm g' lv hlt, fun σ2 H2 => ∃ ρ2 G2, SimS X.K H2 σ2 ρ2 ∧ SimG X.K H2 G2 ∧ Fr H1 G1 H2 G2 ∧ P (i + 1) ρ2 G2, fun σ2 H2 ⟨ρ2, G2, s2, g2, f2, p2⟩ => ⟨_, by omega, rfl, hlt, ρ2, G2, s2, g2, f2, p2⟩, fun x H2 y => ?_⟩
    obtain ⟨fy, gy, ry⟩ := it.yld i _ H' G' x H2 tm g' lv hd y
    refine ⟨_, ρ', G', _, ry, s'.mono (g'.tm fy), gy, st, fun ρ3 G3 σ3 H3 h3 f3 g3 s3 => ?_⟩
    have ff : Fr H1 G1 H3 G3 := (f'.trans fy).trans f3
    have nn : SK X.K H3 G3 (P (i + 1)) (fun σ2 H2 => ∃ ρ2 G2, SimS X.K H2 σ2 ρ2 ∧ SimG X.K H2 G2 ∧ Fr H1 G1 H2 G2 ∧ P (i + 1) ρ2 G2) := fun ρ4 G4 σ4 H4 p4 f4 g4 s4 => ⟨ρ4, G4, s4, g4, ff.trans f4, p4⟩
    exact ⟨ρ3, G3, _, s3, g3, h3, nn, CK.go k2 (f1.trans ff), SK.go k1 (f1.trans ff), nn⟩
  · have e : i = items.length := by omega
    subst e
    obtain ⟨lv, nx⟩ := done ρ' G' p'
    exact .inl ⟨it.stop H' G' tm g' lv, k1 ρ' G' σ' H' nx (f1.trans f') g' s'⟩

/-! ### comprehensions -/
def zwipe (ρ : ZSt) : List Nat → ZSt
  | [] => ρ
  | v :: vs => (zwipe ρ vs).set v none
theorem SimS.wipe {K : PySem.W.Frag} {H : Hp} {σ : L2.St} {ρ : ZSt} (s : SimS K H σ ρ) : ∀ vs : List Nat, SimS K H (wipe σ vs) (zwipe ρ vs)
  | [] => s
  | v :: vs => (SimS.wipe s vs).unset
/-- a target that stores into the block's own slots alone -/
def GRel (K : PySem.W.Frag) (vs : List Nat) (gv : TG) (g : DG) : Prop := ∀ d v ρ σ H G Q0 Q, Rep K H v d → SimS K H σ ρ → SimG K H G → g d ρ G Q0 →
  (∀ ρ' G' σ' H', Q0 ρ' G' → Fr H G H' G' → SimG K H' G' → SimS K H' σ' ρ' → wipe σ' vs = wipe σ vs → Q σ' H') → gv v σ H Q
def GsRel (K : PySem.W.Frag) (vs : List Nat) (gv : TGs) (g : DGs) : Prop := ∀ d v ρ σ H G Q0 Q, Reps K H v d → SimS K H σ ρ → SimG K H G → g d ρ G Q0 →
  (∀ ρ' G' σ' H', Q0 ρ' G' → Fr H G H' G' → SimG K H' G' → SimS K H' σ' ρ' → wipe σ' vs = wipe σ vs → Q σ' H') → gv v σ H Q
theorem wipe_set {σ : L2.St} {i : Nat} {x : Option V} : ∀ {vs : List Nat}, i ∈ vs → wipe (σ.set i x) vs = wipe σ vs
  | v :: vs, h => by
    by_cases hv : i ∈ vs
    · unfold wipe
      rw [wipe_set hv]
    · have e : i = v := by
        rcases List.mem_cons.mp h with e | e
        · exact e
        · exact absurd e hv
      subst e
      have out : ∀ {us : List Nat}, i ∉ us → wipe (σ.set i x) us = (wipe σ us).set i x := by
        intro us
        induction us with
        | nil => intro _; rfl
        | cons u us ih =>
          intro hu
          unfold wipe
          rw [ih (fun z => hu (List.mem_cons_of_mem _ z)), List.set_comm _ _ (fun z => hu (by rw [z]; exact List.mem_cons_self))]
      show (wipe (σ.set i x) vs).set i none = (wipe σ vs).set i none
      rw [out hv, List.set_set]
theorem grel_name {K : PySem.W.Frag} {vs : List Nat} {i : Nat} (h : i ∈ vs) : GRel K vs (gName i) (zName i) := fun d v ρ σ H G Q0 Q r s g q k => k _ G _ H q (Fr.refl H G) g (s.set r) (wipe_set h)
theorem gsrel_nil {K : PySem.W.Frag} {vs : List Nat} : GsRel K vs gNil zgNil := fun d v ρ σ H G Q0 Q r s g q k => by
  obtain ⟨rfl, q⟩ := q
  cases r
  exact ⟨rfl, k _ G _ H q (Fr.refl H G) g s rfl⟩
theorem gsrel_cons {K : PySem.W.Frag} {vs : List Nat} {gv : TG} {g : DG} {uv : TGs} {u : DGs} (h1 : GRel K vs gv g) (h2 : GsRel K vs uv u) : GsRel K vs (gCons gv uv) (zgCons g u) := fun d v ρ σ H G Q0 Q r s g q k => by
  cases r with
  | nil => exact q.elim
  | cons ra rb => exact ⟨_, _, rfl, h1 _ _ ρ σ H G _ _ ra s g q fun ρ' G' σ' H' q' f' g' s' w' => h2 _ _ ρ' σ' H' G' Q0 Q (rb.mono (g.tm f')) s' g' q' fun ρ2 G2 σ2 H2 q2 f2 g2 s2 w2 => k ρ2 G2 σ2 H2 q2 (f'.trans f2) g2 s2 (w2.trans w')⟩
theorem grel_tup {K : PySem.W.Frag} {vs : List Nat} {n : Nat} {uv : TGs} {u : DGs} (h : GsRel K vs uv u) : GRel K vs (gTup K n uv) (zgTup n u) := fun d v ρ σ H G Q0 Q r s g q k => by
  cases r with
  | tup hq r => exact ⟨_, _, rfl, hq.sq, by rw [r.length]; exact q.1, h _ _ ρ σ H G Q0 Q r s g q.2 k⟩
  | _ => exact False.elim q
def zYes : DT := fun _ G Q => Q true G
def ZTs (X : Cx) (ifs : List Expr) (t : DT) : Prop := PTs X ifs (upT X.K t)
theorem PTsi {ifs : List Expr} {t t' : TT} (h : PTs X ifs t) (i : ∀ σ H Q, t' σ H Q → t σ H Q) : PTs X ifs t' := ⟨fun pins s σ H Q I q => h.run pins s σ H Q I (i σ H Q q)⟩
theorem zts_nil : ZTs X [] zYes := PTsi pts_nil fun σ H Q q => by
  obtain ⟨ρ, G, Q0, hs, hg, h, k⟩ := q
  exact k true G H h (Fr.refl H G) hg
theorem zts_one {c : Expr} {t : DT} (h : ZT X c t) : ZTs X [c] t := pts_one h
theorem sim_own {K : PySem.W.Frag} {H : Hp} {G : Gp} {D : Addr} {xs ys : List V} (s : SimG K H G) (h : H D = some (.lst xs)) (n : G D = Option.none) (bb : β.B (upd H D (.lst ys)) G) : SimG K (upd H D (.lst ys)) G := by
  have t : Tm H (L2.upd H D (.lst ys)) := tm_set h fun z => z
  refine ⟨⟨fun b m e => ?_, fun p hp => TabS.tm (s.tabs p hp) t (upd_ne ?_), s.apart⟩, bb⟩
  · have hb : b ≠ D := by
      rintro rfl
      rw [n] at e; cases e
    exact (s b m e).mono t (upd_ne hb)
  · intro z
    obtain ⟨ps, h1, _⟩ := s.tabs p hp
    rw [z, h] at h1; cases h1
theorem sim_join {K : PySem.W.Frag} {H : Hp} {G : Gp} {D : Addr} {xs : List V} {m : MO} (s : SimG K H G) (h : H D = some (.lst xs)) (r : RepO K H D m) (bb : β.B H (put G D m)) : SimG K H (put G D m) := by
  refine ⟨⟨fun b n e => ?_, s.tabs, fun p hp => ?_⟩, bb⟩
  · by_cases hb : b = D
    · subst hb
      rw [put_same] at e
      cases e
      exact r
    · rw [put_ne hb] at e
      exact s b n e
  · have hb : p.1 ≠ D := by
      intro z
      obtain ⟨ps, h1, _⟩ := s.tabs p hp
      rw [z, h] at h1; cases h1
    rw [put_ne hb]
    exact s.apart p hp
def zLc (zi : DI) (g : DG) (tt : DT) (te : DE) (vs : List Nat) : DE := fun ρ G Q => zi ρ G fun items live G1 => ∃ P : Nat → List D → Gp → Prop, P 0 [] G1 ∧
  (∀ i d acc G', items[i]? = some d → P i acc G' → live G' ∧ acc.length < sizeLine ∧ g d (zwipe ρ vs) G' fun ρ2 G2 => tt ρ2 G2 fun b G3 => if b = true then te ρ2 G3 fun e G4 => P (i + 1) (acc ++ [e]) G4 else P (i + 1) acc G3) ∧
  ∀ acc G', P items.length acc G' → live G' ∧ ∀ p G2, G' p = none → At G' p (.lst acc) G2 → Q (.ref p) G2
theorem up_lc {K : PySem.W.Frag} {zi : DI} {gv : TG} {g : DG} {tt : DT} {te : DE} {vs : List Nat} (gr : GRel K vs gv g) {σ : L2.St} {H : Hp} {Q : VK} (q : upE K (zLc zi g tt te vs) σ H Q) : tLc (upI K zi) gv (upT K tt) (upE K te) vs σ H Q := by
  obtain ⟨ρ, G, Q0, hs, hg, h, k⟩ := q
  refine ⟨ρ, G, _, hs, hg, h, fun items live G1 H1 J h1 f1 g1 it D hD => ?_⟩
  obtain ⟨P, p0, step, done⟩ := h1
  have gD := g1.none hD
  -- the new list at D stands beside what the walk knows
  refine ⟨fun i m H' => m = items.length - i ∧ i ≤ items.length ∧ ∃ acc xs G', H' D = some (.lst xs) ∧ G' D = none ∧ Reps K H' xs acc ∧ SimG K H' G' ∧ Fr H1 G1 H' G' ∧ P i acc G',
    ⟨_, rfl, Nat.zero_le _, [], [], G1, upd_same, gD, .nil, g1.keep hD, Fr.tup hD, p0⟩, ?_⟩
  rintro i m H' ⟨rfl, hi, acc, xs, G', hL, nG, rL, g', f', p'⟩
  have tm := g1.tm f'
  by_cases hlt : i < items.length
  · have hd := List.getElem?_eq_getElem hlt
    obtain ⟨lv, sz, st⟩ := step i _ acc G' hd p'
    refine .inr ⟨it.go i H' G' tm g' lv hlt, fun H2 => ∃ acc xs G2, H2 D = some (.lst xs) ∧ G2 D = none ∧ Reps K H2 xs acc ∧ SimG K H2 G2 ∧ Fr H1 G1 H2 G2 ∧ P (i + 1) acc G2, fun H2 ⟨acc, xs, G2, a1, a2, a3, a4, a5, a6⟩ => ⟨_, by omega, rfl, hlt, acc, xs, G2, a1, a2, a3, a4, a5, a6⟩, fun x H2 y => ?_⟩
    obtain ⟨fy, gy, ry⟩ := it.yld i _ H' G' x H2 tm g' lv hd y
    have s2 : SimS K H2 σ ρ := (hs.mono (hg.tm f1)).mono (g1.tm (f'.trans fy))
    refine gr _ _ _ _ H2 G' _ _ ry (s2.wipe vs) gy st fun ρ3 G3 σ3 H3 h3 f3 g3 s3 w3 => ⟨?_, ?_⟩
    · have w : wipe (wipe σ vs) vs = wipe σ vs := by
        have : ∀ {σ : L2.St} (us : List Nat), (∀ u ∈ us, u ∈ vs) → wipe (wipe σ us) vs = wipe σ vs := by
          intro σ us
          induction us with
          | nil => intro _; rfl
          | cons u us ih =>
            intro hu
            show wipe ((wipe σ us).set u none) vs = wipe σ vs
            rw [wipe_set (hu u List.mem_cons_self)]
            exact ih fun z hz => hu z (List.mem_cons_of_mem _ hz)
        exact this vs fun _ z => z
      rw [w3, w]
    refine ⟨ρ3, G3, _, s3, g3, h3, fun b G4 H4 h4 f4 g4 => ?_⟩
    have f14 : Fr H' G' H4 G4 := (fy.trans f3).trans f4
    obtain ⟨hL4, nG4⟩ := f14 D _ hL nG (fun _ z => nomatch z)
    cases b with
    | false =>
      rw [if_neg Bool.false_ne_true] at h4
      dsimp only
      rw [if_neg Bool.false_ne_true]
      exact ⟨acc, xs, G4, hL4, nG4, rL.mono (g'.tm f14), g4, f'.trans f14, h4⟩
    | true =>
      rw [if_pos rfl] at h4
      dsimp only
      rw [if_pos rfl]
      refine ⟨ρ3, G4, _, s3.mono (g3.tm f4), g4, h4, fun e G5 v H5 h5 f5 g5 r5 => ?_⟩
      have f15 := f14.trans f5
      obtain ⟨hL5, nG5⟩ := f15 D _ hL nG (fun _ z => nomatch z)
      have t5 : Tm H5 (upd H5 D (.lst (xs ++ [v]))) := tm_set hL5 fun z => z
      have ff : Fr H1 G1 (upd H5 D (.lst (xs ++ [v]))) G5 := fun b o e' n nt => by
        have hb : b ≠ D := by
          rintro rfl
          rw [hD] at e'; cases e'
        rw [upd_ne hb]
        exact (f'.trans f15) b o e' n nt
      exact ⟨xs, hL5, by rw [rL.length]; exact sz, acc ++ [e], xs ++ [v], G5, upd_same, nG5, ((rL.mono (g'.tm f15)).append (.cons r5 .nil)).mono t5, sim_own g5 hL5 nG5 (β.keep g1.base ff), ff, h5⟩
  · have e : i = items.length := by omega
    subst e
    obtain ⟨lv, fin⟩ := done acc G' p'
    have ff : Fr H1 G1 H' (put G' D (.lst acc)) := fun b o eb n nt => by
      obtain ⟨x1, x2⟩ := f' b o eb n nt
      have hb : b ≠ D := by
        rintro rfl
        rw [hD] at eb; cases eb
      rw [put_ne hb]
      exact ⟨x1, x2⟩
    exact .inl ⟨it.stop H' G' tm g' lv, k _ (put G' D (.lst acc)) _ H' (fin D _ nG (At.put G' D (.lst acc))) (f1.trans ff) (sim_join g' hL (show RepO K H' D (.lst acc) from ⟨xs, hL, rL⟩) (β.keep g1.base ff)) (.ref D)⟩
theorem z_lc {elt tg iter : Expr} {ifs : List Expr} {scope : Scope} {own : List (Str × Nat)} {pos : Pos} {wi : DI} {gv : TG} {g : DG} {tt : DT} {te : DE} (hc : X.calm = true) (hN : X.N.Nodup) (hi : ZI X tg iter wi) (ok : BlkOk X.N X.env.scope scope own) (gr : GRel X.K (own.map (·.2)) gv g)
    (hg : ∀ (s : Shared) (H : Hp) (C : Addr) (cl : List (Str × Addr)) (fp : List Addr), PG (X.blk s H scope (compEnvC scope cl C X.env) fp) tg gv) (ht : ∀ (s : Shared) (H : Hp) (C : Addr) (cl : List (Str × Addr)) (fp : List Addr), ZTs (X.blk s H scope (compEnvC scope cl C X.env) fp) ifs tt)
    (he : ∀ (s : Shared) (H : Hp) (C : Addr) (cl : List (Str × Addr)) (fp : List Addr), ZE (X.blk s H scope (compEnvC scope cl C X.env) fp) elt te) (hs : ∀ x, foldedSetIterable iter X.env x = pure x := by intro _; rfl) :
    ZE X (.ListComp elt [⟨tg, iter, ifs, 0⟩] scope pos) (zLc wi g tt te (own.map (·.2))) := PEi (pe_lc (wi := upI X.K wi) (tt := upT X.K tt) (te := upE X.K te) hc hN hi ok hg ht he hs) fun σ H Q q => up_lc gr q
theorem z_setLc {i : Nat} {y : Str} {py : Pos} {elt tg iter : Expr} {ifs : List Expr} {scope : Scope} {own : List (Str × Nat)} {pos spos : Pos} {wi : DI} {gv : TG} {g : DG} {tt : DT} {te : DE} (hc : X.calm = true) (hN : X.N.Nodup) (hy : X.N[i]? = some y) (hyl : X.env.scope.names.lookup y = some .local)
    (hsw : swapsWith (.ListComp elt [⟨tg, iter, ifs, 0⟩] scope pos) (some (.Name y py)) spos.line X.env = pure true) (hi : ZI X tg iter wi) (ok : BlkOk X.N X.env.scope scope own) (gr : GRel X.K (own.map (·.2)) gv g)
    (hg : ∀ (s : Shared) (H : Hp) (C : Addr) (cl : List (Str × Addr)) (fp : List Addr), PG (X.blk s H scope (compEnvC scope cl C X.env) fp) tg gv) (ht : ∀ (s : Shared) (H : Hp) (C : Addr) (cl : List (Str × Addr)) (fp : List Addr), ZTs (X.blk s H scope (compEnvC scope cl C X.env) fp) ifs tt)
    (he : ∀ (s : Shared) (H : Hp) (C : Addr) (cl : List (Str × Addr)) (fp : List Addr), ZE (X.blk s H scope (compEnvC scope cl C X.env) fp) elt te) (hs : ∀ x, foldedSetIterable iter X.env x = pure x := by intro _; rfl) :
    ZS X (.Assign [.Name y py] (.ListComp elt [⟨tg, iter, ifs, 0⟩] scope pos) spos) (zAsg (zLc wi g tt te (own.map (·.2))) (zName i)) := PSi (ps_setLc (wi := upI X.K wi) (tt := upT X.K tt) (te := upE X.K te) hc hN hy hyl hsw hi ok hg ht he hs) fun D σ H q => by
  obtain ⟨ρ, G, Z, hs, hg, h, k, _⟩ := q
  exact up_lc gr ⟨ρ, G, _, hs, hg, h, fun d G1 x H1 h1 f1 g1 r1 => k _ G1 _ H1 h1 f1 g1 ((hs.mono (hg.tm f1)).set r1)⟩
end
end Z

namespace Z
open PySem PySem.Spec PyProof.Rows L2
variable [τ : Tbl] [β : Bas]

/-! ### ints -/
def dI0 (g : Int → Int → D) : Z2 := fun d e G Q => match d, e with
  | .int i, .int j => Q (g i j) G
  | _, _ => False
def dI (C : Int → Int → Prop) (g : Int → Int → D) : Z2 := fun d e G Q => match d, e with
  | .int i, .int j => C i j ∧ Q (g i j) G
  | _, _ => False
section
variable {X : Cx} {f : Value → Value → Sem Value}
theorem op_i0 {g : Int → Int → V} {g' : Int → Int → D} (h : OpR X f (rI0 g)) (hg : ∀ H i j, Rep X.K H (g i j) (g' i j)) : ZOp X f (dI0 g') := OpRi h fun x y H Q q => by
  obtain ⟨d, e, G, Q0, sg, rx, ry, h, k⟩ := q
  unfold dI0 at h
  split at h
  · rename_i i j
    cases rx
    cases ry
    exact ⟨i, j, rfl, rfl, CK.at k h sg (hg H i j)⟩
  · cases h
theorem op_iC {C : Int → Int → Prop} {g : Int → Int → V} {g' : Int → Int → D} (h : OpR X f (rI C g)) (hg : ∀ H i j, Rep X.K H (g i j) (g' i j)) : ZOp X f (dI C g') := OpRi h fun x y H Q q => by
  obtain ⟨d, e, G, Q0, sg, rx, ry, h, k⟩ := q
  unfold dI at h
  split at h
  · rename_i i j
    cases rx
    cases ry
    exact ⟨i, j, rfl, rfl, h.1, CK.at k h.2 sg (hg H i j)⟩
  · cases h
theorem zo_add : ZOp X (binaryOp .Add) (dI0 fun i j => .int (i + j)) := op_i0 op_add fun _ _ _ => .int _
theorem zo_sub : ZOp X (binaryOp .Sub) (dI0 fun i j => .int (i - j)) := op_i0 op_sub fun _ _ _ => .int _
theorem zo_mul : ZOp X (binaryOp .Mult) (dI CMul fun i j => .int (i * j)) := op_iC op_mul fun _ _ _ => .int _
theorem zo_div : ZOp X (binaryOp .FloorDiv) (dI CDivN fun i j => .int (i.fdiv j)) := op_iC op_fdivN fun _ _ _ => .int _
theorem zo_mod : ZOp X (binaryOp .Mod) (dI (fun _ j => j ≠ 0) fun i j => .int (i.fmod j)) := op_iC op_modN fun _ _ _ => .int _
theorem zo_pow : ZOp X (binaryOp .Pow) (dI CPow fun i j => .int (i ^ j.toNat)) := op_iC op_pow fun _ _ _ => .int _
theorem zo_lt : ZOp X (compareOp .Lt) (dI0 fun i j => .bl (decide (i < j))) := op_i0 op_lt fun _ _ _ => .bl _
theorem zo_le : ZOp X (compareOp .LtE) (dI0 fun i j => .bl (decide (i ≤ j))) := op_i0 op_le fun _ _ _ => .bl _
theorem zo_gt : ZOp X (compareOp .Gt) (dI0 fun i j => .bl (decide (j < i))) := op_i0 op_gt fun _ _ _ => .bl _
theorem zo_ge : ZOp X (compareOp .GtE) (dI0 fun i j => .bl (decide (j ≤ i))) := op_i0 op_ge fun _ _ _ => .bl _
end
/-- -a -/
def zNeg (ta : DE) : DE := fun ρ G Q => ta ρ G fun d G1 => match d with
  | .int i => Q (.int (-i)) G1
  | _ => False
theorem z_neg {X : Cx} {a : Expr} {ta : DE} {pos : Pos} (ha : ZE X a ta) : ZE X (.UnaryOp .USub a pos) (zNeg ta) := PEi (pe_un un_neg ha) fun σ H Q q => by
  obtain ⟨ρ, G, Q0, hs, hg, h, k⟩ := q
  refine ⟨ρ, G, _, hs, hg, h, fun d G1 x H1 h1 f1 g1 r1 => ?_⟩
  cases r1 with
  | int i => exact ⟨i, rfl, k _ G1 _ H1 h1 f1 g1 (.int _)⟩
  | _ => cases h1
/-- a < b < c -/
def zChain (z z' : Z2) (ta tb tc : DE) : DE := fun ρ G Q => ta ρ G fun x G1 => tb ρ G1 fun y G2 => z x y G2 fun c G3 => match c with
  | .bl k => if k = true then tc ρ G3 fun w G4 => z' y w G4 Q else Q (.bl false) G3
  | _ => False
theorem z_tchain {X : Cx} {a b c : Expr} {ta tb tc : DE} {pos : Pos} {op op' : CmpOp} {z z' : Z2} (ho : ZOp X (compareOp op) z) (ho' : ZOp X (compareOp op') z') (ha : ZE X a ta) (hb : ZE X b tb) (hc : ZE X c tc)
    (hm : lastMarks [op, op'] [b, c] = false := by with_unfolding_all rfl) : ZT X (.Compare a [op, op'] [b, c] pos) (zTest (zChain z z' ta tb tc)) := PTi (pt_chain ho ho' ha hb hc hm) fun σ H Q q => by
  obtain ⟨ρ, G, Q0, hs, hg, h, k⟩ := q
  refine ⟨ρ, G, _, hs, hg, h, fun d G1 x H1 h1 f1 g1 r1 => ⟨ρ, G1, _, hs.mono (hg.tm f1), g1, h1, fun e G2 y H2 h2 f2 g2 r2 => ?_⟩⟩
  refine ⟨d, e, G2, _, g2, r1.mono (g1.tm f2), r2, h2, fun c G3 v H3 h3 f3 g3 r3 => ?_⟩
  cases r3 with
  | bl b =>
    refine ⟨b, rfl, ?_⟩
    have f13 := f1.trans (f2.trans f3)
    cases b with
    | true =>
      rw [if_pos rfl]
      exact ⟨ρ, G3, _, hs.mono (hg.tm f13), g3, h3, fun w G4 u H4 h4 f4 g4 r4 => ⟨e, w, G4, _, g4, r2.mono ((g2.tm f3).trans (g3.tm f4)), r4, h4, fun d5 G5 v5 H5 h5 f5 g5 r5 => by
        cases r5 with
        | bl b5 => exact ⟨b5, rfl, k b5 G5 H5 h5 (f13.trans (f4.trans f5)) g5⟩
        | _ => cases h5⟩⟩
    | false =>
      rw [if_neg Bool.false_ne_true]
      exact ⟨false, rfl, k false G3 H3 h3 f13 g3⟩
  | _ => cases h3

/-! ### data as the semantics reads it -/
mutual
def pd : D → Option PyData
  | .non => some .none
  | .bl b => some (.bool b)
  | .int i => some (.int i)
  | .str x => some (.str x)
  | .tup ds => (pds ds).map .tuple
  | .ct ds => (pds ds).map .tuple
  | .cl ds => (pds ds).map .list
  | .ty _ => none
  | .ref _ => none
def pds : List D → Option (List PyData)
  | [] => some []
  | d :: ds => match pd d, pds ds with
    | some p, some ps => some (p :: ps)
    | _, _ => none
end
mutual
theorem Rep.dp {K : PySem.W.Frag} {H : Hp} : ∀ {d : D} {v : V} {p : PyData}, Rep K H v d → pd d = some p → Dp K H v p
  | .non, _, _, .non, e => by cases e; exact .non
  | .bl b, _, _, .bl _, e => by cases e; exact .bl _
  | .int b, _, _, .int _, e => by cases e; exact .int _
  | .str b, _, _, .str _, e => by cases e; exact .str _
  | .tup ds, _, p, .tup h r, e => by
    unfold pd at e
    cases q : pds ds with
    | none => rw [q] at e; cases e
    | some ps =>
      rw [q] at e
      cases e
      exact .tup h.sq (Reps.dp r q)
  | .ct ds, _, p, .ct h r, e => by
    unfold pd at e
    cases q : pds ds with
    | none => rw [q] at e; cases e
    | some ps =>
      rw [q] at e
      cases e
      exact .tup h.sq (Reps.dp r q)
  | .cl ds, _, p, .cl h r, e => by
    unfold pd at e
    cases q : pds ds with
    | none => rw [q] at e; cases e
    | some ps =>
      rw [q] at e
      cases e
      exact .lst h.sq (Reps.dp r q)
  | .ty _, _, _, _, e => by cases e
  | .ref _, _, _, _, e => by cases e
theorem Reps.dp {K : PySem.W.Frag} {H : Hp} : ∀ {ds : List D} {vs : List V} {ps : List PyData}, Reps K H vs ds → pds ds = some ps → DpAll K H vs ps
  | [], _, _, .nil, e => by cases e; exact .nil
  | d :: ds, _, ps, .cons h r, e => by
    unfold pds at e
    split at e
    · rename_i p qs e1 e2
      cases e
      exact .cons (Rep.dp h e1) (Reps.dp r e2)
    · cases e
end
/-- one list of what changes at the top -/
def pdT (G : Gp) (d : D) : Option PyData := match d with
  | .ref a => match G a with
    | some (.lst ds) => (pds ds).map .list
    | _ => none
  | d => pd d
theorem pdT_dp {K : PySem.W.Frag} {H : Hp} {G : Gp} {d : D} {v : V} {p : PyData} (g : SimG K H G) (r : Rep K H v d) (e : pdT G d = some p) : Dp K H v p := by
  unfold pdT at e
  split at e
  · rename_i a
    split at e
    · rename_i ds ha
      cases q : pds ds with
      | none => rw [q] at e; cases e
      | some ps =>
        rw [q] at e
        cases e
        obtain ⟨xs, hx, r'⟩ := g a _ ha
        cases r
        exact .lst (SqL.of hx) (r'.dp q)
    · cases e
  · exact r.dp e
def dEq : Z2 := fun d e G Q => match pdT G d, pdT G e with
  | some p, some q => SeqAt.shaped p = true ∧ SeqAt.shaped q = true ∧ Q (.bl (PyData.eqv p q)) G
  | _, _ => False
def dNe : Z2 := fun d e G Q => match pdT G d, pdT G e with
  | some p, some q => SeqAt.shaped p = true ∧ SeqAt.shaped q = true ∧ Q (.bl (!PyData.eqv p q)) G
  | _, _ => False
section
variable {X : Cx}
theorem zo_eq (hu : X.A.units + 64 < cLine) : ZOp X (compareOp .Eq) dEq := OpRi (op_eqD hu) fun x y H Q q => by
  obtain ⟨d, e, G, Q0, sg, rx, ry, h, k⟩ := q
  unfold dEq at h
  split at h
  · rename_i p q e1 e2
    exact ⟨p, q, pdT_dp sg rx e1, pdT_dp sg ry e2, h.1, h.2.1, CK.at k h.2.2 sg (.bl _)⟩
  · cases h
theorem zo_ne (hu : X.A.units + 64 < cLine) : ZOp X (compareOp .NotEq) dNe := OpRi (op_neD hu) fun x y H Q q => by
  obtain ⟨d, e, G, Q0, sg, rx, ry, h, k⟩ := q
  unfold dNe at h
  split at h
  · rename_i p q e1 e2
    exact ⟨p, q, pdT_dp sg rx e1, pdT_dp sg ry e2, h.1, h.2.1, CK.at k h.2.2 sg (.bl _)⟩
  · cases h
/-- in, not in: a list -/
def dIn (neg : Bool) : Z2 := fun d e G Q => match pd d, pdT G e with
  | some p, some (.list qs) => SeqAt.shaped p = true ∧ SeqAt.shaped (.list qs) = true ∧ Q (.bl (if neg then !(qs.any fun z => PyData.eqv z p) else qs.any fun z => PyData.eqv z p)) G
  | _, _ => False
theorem zo_in (hu : X.A.units + 65 < cLine) : ZOp X (compareOp .In) (dIn false) := OpRi (op_inD hu) fun x y H Q q => by
  obtain ⟨d, e, G, Q0, sg, rx, ry, h, k⟩ := q
  unfold dIn at h
  split at h
  · rename_i p qs e1 e2
    exact ⟨p, qs, rx.dp e1, pdT_dp sg ry e2, h.1, h.2.1, CK.at k h.2.2 sg (.bl _)⟩
  · cases h
theorem zo_notin (hu : X.A.units + 65 < cLine) : ZOp X (compareOp .NotIn) (dIn true) := OpRi (op_notInD hu) fun x y H Q q => by
  obtain ⟨d, e, G, Q0, sg, rx, ry, h, k⟩ := q
  unfold dIn at h
  split at h
  · rename_i p qs e1 e2
    exact ⟨p, qs, rx.dp e1, pdT_dp sg ry e2, h.1, h.2.1, CK.at k h.2.2 sg (.bl _)⟩
  · cases h
/-- in, not in: a tuple of flat things -/
def flD : D → Bool
  | .non => true
  | .bl _ => true
  | .int _ => true
  | .str _ => true
  | _ => false
def eqF (d e : D) : Bool := match pd d, pd e with
  | some p, some q => PyData.eqv p q
  | _, _ => false
theorem flat_rep {K : PySem.W.Frag} {H : Hp} {v : V} {d : D} (r : Rep K H v d) (h : flD d = true) : flatV v = true := by
  cases r <;> first | rfl | cases h
theorem eqF_rep {K : PySem.W.Frag} {H : Hp} {v w : V} {d e : D} (r : Rep K H v d) (r' : Rep K H w e) (h : flD d = true) (h' : flD e = true) : eqV v w = eqF d e := by
  cases r <;> first | (exact absurd h Bool.false_ne_true) | (cases r' <;> first | (exact absurd h' Bool.false_ne_true) | rfl | (simp [eqV, eqF, pd, PyData.eqv]; done))
theorem flats_rep {K : PySem.W.Frag} {H : Hp} : ∀ {ds : List D} {vs : List V}, Reps K H vs ds → ds.all flD = true → vs.all flatV = true
  | [], _, .nil, _ => rfl
  | _ :: _, _, .cons h r, e => by
    rw [List.all_cons, Bool.and_eq_true] at e ⊢
    exact ⟨flat_rep h e.1, flats_rep r e.2⟩
theorem inV_rep {K : PySem.W.Frag} {H : Hp} {w : V} {e : D} (rw' : Rep K H w e) (he : flD e = true) : ∀ {ds : List D} {vs : List V}, Reps K H vs ds → ds.all flD = true → inV w vs = ds.any fun d => eqF d e
  | [], _, .nil, _ => rfl
  | _ :: _, _, .cons h r, q => by
    rw [List.all_cons, Bool.and_eq_true] at q
    have ih := inV_rep rw' he r q.2
    unfold inV at ih ⊢
    rw [List.any_cons, List.any_cons, ih, eqF_rep h rw' q.1 he]
/-- the items of a tuple or a list -/
def seqD (G : Gp) : D → Option (List D)
  | .tup ds => some ds
  | .ct ds => some ds
  | .cl ds => some ds
  | .ref a => match G a with
    | some (.lst ds) => some ds
    | _ => none
  | _ => none
theorem seqD_rep {K : PySem.W.Frag} {H : Hp} {G : Gp} {v : V} {d : D} {ds : List D} (g : SimG K H G) (r : Rep K H v d) (e : seqD G d = some ds) : ∃ p xs, v = .ref p ∧ (SqL K H p xs ∨ SqT K H p xs) ∧ Reps K H xs ds := by
  cases r with
  | tup h r => cases e; exact ⟨_, _, rfl, .inr h.sq, r⟩
  | ct h r => cases e; exact ⟨_, _, rfl, .inr h.sq, r⟩
  | cl h r => cases e; exact ⟨_, _, rfl, .inl h.sq, r⟩
  | ref a =>
    unfold seqD at e
    simp only at e
    split at e
    · rename_i es ha
      cases e
      obtain ⟨xs, hx, r⟩ := g a _ ha
      exact ⟨a, xs, rfl, .inl (SqL.of hx), r⟩
    · cases e
  | _ => cases e
def dInF (neg : Bool) : Z2 := fun d e G Q => match seqD G e with
  | some es => flD d = true ∧ es.all flD = true ∧ Q (.bl (if neg then !(es.any fun z => eqF z d) else es.any fun z => eqF z d)) G
  | none => False
theorem zo_inF : ZOp X (compareOp .In) (dInF false) := OpRi op_in_seq fun x y H Q q => by
  obtain ⟨d, e, G, Q0, sg, rx, ry, h, k⟩ := q
  unfold dInF at h
  split at h
  · rename_i es e1
    obtain ⟨p, xs, rfl, hq, r⟩ := seqD_rep sg ry e1
    refine ⟨p, xs, rfl, hq, flat_rep rx h.1, flats_rep r h.2.1, ?_⟩
    rw [inV_rep rx h.1 r h.2.1]
    exact CK.at k h.2.2 sg (.bl _)
  · cases h
theorem zo_notinF : ZOp X (compareOp .NotIn) (dInF true) := OpRi op_notIn_seq fun x y H Q q => by
  obtain ⟨d, e, G, Q0, sg, rx, ry, h, k⟩ := q
  unfold dInF at h
  split at h
  · rename_i es e1
    obtain ⟨p, xs, rfl, hq, r⟩ := seqD_rep sg ry e1
    refine ⟨p, xs, rfl, hq, flat_rep rx h.1, flats_rep r h.2.1, ?_⟩
    rw [inV_rep rx h.1 r h.2.1]
    exact CK.at k h.2.2 sg (.bl _)
  · cases h
/-- is None -/
def dIsN (neg : Bool) : Z2 := fun d e G Q => match e with
  | .non => match d with
    | .non => Q (.bl (!neg)) G
    | _ => Q (.bl neg) G
  | _ => False
theorem zo_isN : ZOp X (compareOp .Is) (dIsN false) := OpRi op_isN fun x y H Q q => by
  obtain ⟨d, e, G, Q0, sg, rx, ry, h, k⟩ := q
  cases ry with
  | non => cases rx <;> exact ⟨rfl, CK.at k h sg (.bl _)⟩
  | _ => cases h
theorem zo_notN : ZOp X (compareOp .IsNot) (dIsN true) := OpRi op_notN fun x y H Q q => by
  obtain ⟨d, e, G, Q0, sg, rx, ry, h, k⟩ := q
  cases ry with
  | non => cases rx <;> exact ⟨rfl, CK.at k h sg (.bl _)⟩
  | _ => cases h

/-! ### items -/
theorem atI_rep {K : PySem.W.Frag} {H : Hp} {ds : List D} {xs : List V} {i : Int} {d : D} (r : Reps K H xs ds) (e : atI ds i = some d) : ∃ v, atI xs i = some v ∧ Rep K H v d := by
  unfold atI at e ⊢
  rw [r.length]
  cases q : ixN ds.length i with
  | none => rw [q] at e; cases e
  | some j =>
    rw [q] at e
    exact r.get (show ds[j]? = some d from e)
def dIx : Z2 := fun d e G Q => match d, e with
  | .str z, .int i => z.length ≤ sizeLine ∧ (match atI z.cps.toList i with
    | some c => Q (.str ⟨#[c]⟩) G
    | none => False)
  | d, .int i => match seqD G d with
    | some ds => (match atI ds i with
      | some x => Q x G
      | none => False)
    | none => False
  | _, _ => False
def ZIx (X : Cx) (z : Z2) : Prop := IxR X (upR2 X.K z)
theorem zo_ix : ZIx X dIx := by
  intro value slice pins s σ H x y v u Q I rx ry q hs
  refine ix_seq value slice pins s σ H x y v u Q I rx ry ?_ hs
  obtain ⟨d, e, G, Q0, sg, rx, ry, h, k⟩ := q
  unfold dIx at h
  split at h
  · rename_i z i
    cases rx
    cases ry
    refine .inr (.inr ?_)
    obtain ⟨h1, h2⟩ := h
    split at h2
    · rename_i c e
      exact ⟨z, i, c, rfl, rfl, h1, e, CK.at k h2 sg (.str _)⟩
    · cases h2
  · rename_i i _
    cases ry
    split at h
    · rename_i ds e1
      split at h
      · rename_i w e2
        obtain ⟨p, xs, rfl, hq, r⟩ := seqD_rep sg rx e1
        obtain ⟨w', hw, rw'⟩ := atI_rep r e2
        rcases hq with hq | hq
        · exact .inl ⟨p, xs, i, w', rfl, rfl, hq, hw, CK.at k h sg rw'⟩
        · exact .inr (.inl ⟨p, xs, i, w', rfl, rfl, hq, hw, CK.at k h sg rw'⟩)
      · cases h
    · cases h
  · cases h
theorem z_ix {a b : Expr} {ta tb : DE} {pos : Pos} (ha : ZE X a ta) (hb : ZE X b tb) (hs : PlainIx b := by exact fun _ _ => rfl) : ZE X (.Subscript a b pos) (zOp dIx ta tb) := PEi (pe_ix zo_ix ha hb hs) fun _ _ _ q => up_op q

/-! ### slices -/
abbrev DO := ZSt → Gp → (Option Int → Gp → Prop) → Prop
def upO (K : PySem.W.Frag) (t : DO) : TO := fun σ H Q => ∃ ρ G Q0, SimS K H σ ρ ∧ SimG K H G ∧ t ρ G Q0 ∧ ∀ o G' H', Q0 o G' → Fr H G H' G' → SimG K H' G' → Q o H'
def ZO (X : Cx) (e : Option Expr) (t : DO) : Prop := PO X e (upO X.K t)
theorem POi {e : Option Expr} {t t' : TO} (h : PO X e t) (i : ∀ σ H Q, t' σ H Q → t σ H Q) : PO X e t' := ⟨fun pins s σ H Q I q => h.run pins s σ H Q I (i σ H Q q)⟩
def zNoP : DO := fun _ G Q => Q none G
def zPart (t : DE) : DO := fun ρ G Q => t ρ G fun d G1 => match d with
  | .int i => Q (some i) G1
  | _ => False
theorem zo_none : ZO X none zNoP := POi po_none fun σ H Q q => by
  obtain ⟨ρ, G, Q0, hs, hg, h, k⟩ := q
  exact k none G H h (Fr.refl H G) hg
theorem zo_some {e : Expr} {te : DE} (h : ZE X e te) : ZO X (some e) (zPart te) := POi (po_some h) fun σ H Q q => by
  obtain ⟨ρ, G, Q0, hs, hg, h, k⟩ := q
  refine ⟨ρ, G, _, hs, hg, h, fun d G1 x H1 h1 f1 g1 r1 => ?_⟩
  cases r1 with
  | int i => exact ⟨i, rfl, k _ G1 H1 h1 f1 g1⟩
  | _ => cases h1
abbrev Z3 := D → Option Int → Option Int → Gp → DK → Prop
def upR3 (K : PySem.W.Frag) (z : Z3) : V → Option Int → Option Int → Hp → VK → Prop := fun x lo hi H Q => ∃ d G Q0, SimG K H G ∧ Rep K H x d ∧ z d lo hi G Q0 ∧ CK K H G Q0 Q
def ZSl (X : Cx) (z : Z3) : Prop := SlR X (upR3 X.K z)
def zSl (z : Z3) (te : DE) (tl th : DO) : DE := fun ρ G Q => te ρ G fun d G1 => tl ρ G1 fun l G2 => th ρ G2 fun u G3 => z d l u G3 Q
theorem z_slice {e : Expr} {te : DE} {lo hi : Option Expr} {tl th : DO} {pos p2 : Pos} {z : Z3} (hr : ZSl X z) (he : ZE X e te) (hl : ZO X lo tl) (hu : ZO X hi th) : ZE X (.Subscript e (.Slice lo hi none p2) pos) (zSl z te tl th) := PEi (pe_slice hr he hl hu) fun σ H Q q => by
  obtain ⟨ρ, G, Q0, hs, hg, h, k⟩ := q
  exact ⟨ρ, G, _, hs, hg, h, fun d G1 x H1 h1 f1 g1 r1 => ⟨ρ, G1, _, hs.mono (hg.tm f1), g1, h1, fun l G2 H2 h2 f2 g2 => ⟨ρ, G2, _, hs.mono (hg.tm (f1.trans f2)), g2, h2, fun u G3 H3 h3 f3 g3 => ⟨d, G3, Q0, g3, r1.mono (g1.tm (f2.trans f3)), h3, CK.go k (f1.trans (f2.trans f3))⟩⟩⟩⟩
def cutD (xs : List D) (lo hi : Option Int) : List D := (xs.drop (HT.sIx xs.length 0 lo)).take (HT.sIx xs.length xs.length hi - HT.sIx xs.length 0 lo)
theorem cut_rep {K : PySem.W.Frag} {H : Hp} {ds : List D} {xs : List V} {lo hi : Option Int} (r : Reps K H xs ds) : Reps K H (cutV xs lo hi) (cutD ds lo hi) := by
  unfold cutV cutD
  rw [r.length]
  exact (r.drop _).take _
/-- a list's -/
def dSlL : Z3 := fun d lo hi G Q => match d with
  | .cl ds => ∀ p G', G p = none → At G p (.lst (cutD ds lo hi)) G' → Q (.ref p) G'
  | .ref a => match G a with
    | some (.lst ds) => ∀ p G', G p = none → At G p (.lst (cutD ds lo hi)) G' → Q (.ref p) G'
    | _ => False
  | _ => False
theorem zsl_list : ZSl X dSlL := by
  intro pins s σ H x v vl vu lo hi sl Q I rx hs pl pu q
  refine sl_list pins s σ H x v vl vu lo hi sl Q I rx hs pl pu ?_
  obtain ⟨d, G, Q0, sg, rx, h, k⟩ := q
  cases rx with
  | cl hq r => exact ⟨_, _, rfl, hq.sq, fun p hp => CK.new (m := .lst (cutD _ lo hi)) k hp sg ⟨_, upd_same, (cut_rep r).mono (tm_new hp)⟩ fun G' n at_ => h p G' n at_⟩
  | ref a =>
    unfold dSlL at h
    simp only at h
    split at h
    · rename_i ds e
      obtain ⟨xs, hx, r⟩ := sg a _ e
      exact ⟨_, _, rfl, SqL.of hx, fun p hp => CK.new (m := .lst (cutD _ lo hi)) k hp sg ⟨_, upd_same, (cut_rep r).mono (tm_new hp)⟩ fun G' n at_ => h p G' n at_⟩
    · cases h
  | _ => exact False.elim h
/-- a tuple's, not the whole -/
def dSlT : Z3 := fun d lo hi G Q => match d with
  | .tup ds => ¬ (HT.sIx ds.length 0 lo = 0 ∧ HT.sIx ds.length ds.length hi = ds.length) ∧ Q (.tup (cutD ds lo hi)) G
  | .ct ds => ¬ (HT.sIx ds.length 0 lo = 0 ∧ HT.sIx ds.length ds.length hi = ds.length) ∧ Q (.tup (cutD ds lo hi)) G
  | _ => False
theorem zsl_tup : ZSl X dSlT := by
  intro pins s σ H x v vl vu lo hi sl Q I rx hs pl pu q
  refine sl_tup pins s σ H x v vl vu lo hi sl Q I rx hs pl pu ?_
  obtain ⟨d, G, Q0, sg, rx, h, k⟩ := q
  cases rx with
  | tup hq r => exact ⟨_, _, rfl, hq.sq, by rw [r.length]; exact h.1, fun p hp => CK.tup k hp h.2 sg (cut_rep r)⟩
  | ct hq r => exact ⟨_, _, rfl, hq.sq, by rw [r.length]; exact h.1, fun p hp => CK.tup k hp h.2 sg (cut_rep r)⟩
  | _ => exact False.elim h
def dSlS : Z3 := fun d lo hi G Q => match d with
  | .str z => z.length ≤ sizeLine ∧ Q (.str (cutS z lo hi)) G
  | _ => False
theorem zsl_str : ZSl X dSlS := by
  intro pins s σ H x v vl vu lo hi sl Q I rx hs pl pu q
  refine sl_str pins s σ H x v vl vu lo hi sl Q I rx hs pl pu ?_
  obtain ⟨d, G, Q0, sg, rx, h, k⟩ := q
  cases rx with
  | str z => exact ⟨z, rfl, h.1, CK.at k h.2 sg (.str _)⟩
  | _ => exact False.elim h

/-! ### dicts -/
def keyD : D → Option Key
  | .int i => some (.inl i)
  | .str x => some (.inr x)
  | _ => none
def keysD : List D → Option (List Key)
  | [] => some []
  | d :: ds => match keyD d, keysD ds with
    | some k, some ks => some (k :: ks)
    | _, _ => none
theorem keyD_rep {K : PySem.W.Frag} {H : Hp} {v : V} {d : D} {k : Key} (r : Rep K H v d) (e : keyD d = some k) : v = kV k := by
  cases r <;> first | (cases e; rfl) | cases e
theorem keysD_rep {K : PySem.W.Frag} {H : Hp} : ∀ {ds : List D} {vs : List V} {ks : List Key}, Reps K H vs ds → keysD ds = some ks → vs = ks.map kV
  | [], _, _, .nil, e => by cases e; rfl
  | _ :: _, _, _, .cons h r, e => by
    unfold keysD at e
    split at e
    · rename_i k ks e1 e2
      cases e
      rw [List.map_cons, keyD_rep h e1, keysD_rep r e2]
    · cases e
def valD {κ : Type} [DecidableEq κ] (kvs : List (κ × D)) (k : κ) : Option D := (kvs.find? fun kv => decide (kv.1 = k)).map (·.2)
def putD {κ : Type} [DecidableEq κ] (kvs : List (κ × D)) (k : κ) (v : D) : List (κ × D) :=
  if (kvs.any fun kv => decide (kv.1 = k)) then kvs.map fun kv => if kv.1 = k then (kv.1, v) else kv else kvs ++ [(k, v)]
def RepO' (K : PySem.W.Frag) (H : Hp) : Option V → Option D → Prop
  | some v, some d => Rep K H v d
  | none, none => True
  | _, _ => False
theorem RepKV.val {κ : Type} [DecidableEq κ] {K : PySem.W.Frag} {H : Hp} (k : κ) : ∀ {ds : List (κ × D)} {vs : List (κ × V)}, RepKV K H vs ds → RepO' K H (valV vs k) (valD ds k)
  | [], _, .nil => trivial
  | _ :: _, _, .cons (k := k') h r => by
    by_cases e : k' = k
    · rw [valV_pos (show (k', _).1 = k from e)]
      unfold valD
      rw [List.find?_cons_of_pos (by simpa using e)]
      exact h
    · rw [valV_neg (show ¬ (k', _).1 = k from e)]
      unfold valD
      rw [List.find?_cons_of_neg (by simpa using e)]
      exact r.val k
theorem RepKV.any {κ : Type} [DecidableEq κ] {K : PySem.W.Frag} {H : Hp} (k : κ) : ∀ {ds : List (κ × D)} {vs : List (κ × V)}, RepKV K H vs ds → (vs.any fun kv => decide (kv.1 = k)) = ds.any fun kv => decide (kv.1 = k)
  | [], _, .nil => rfl
  | _ :: _, _, .cons h r => by rw [List.any_cons, List.any_cons, r.any k]
theorem RepKV.append {κ : Type} {K : PySem.W.Frag} {H : Hp} : ∀ {ds es : List (κ × D)} {vs ws : List (κ × V)}, RepKV K H vs ds → RepKV K H ws es → RepKV K H (vs ++ ws) (ds ++ es)
  | [], _, _, _, .nil, s => s
  | _ :: _, _, _, _, .cons h r, s => .cons h (r.append s)
theorem RepKV.repl {κ : Type} [DecidableEq κ] {K : PySem.W.Frag} {H : Hp} (k : κ) {v : V} {d : D} (rv : Rep K H v d) : ∀ {ds : List (κ × D)} {vs : List (κ × V)}, RepKV K H vs ds → RepKV K H (vs.map fun kv => if kv.1 = k then (kv.1, v) else kv) (ds.map fun kv => if kv.1 = k then (kv.1, d) else kv)
  | [], _, .nil => .nil
  | _ :: _, _, .cons (k := k') h r => by
    rw [List.map_cons, List.map_cons]
    by_cases e : k' = k
    · rw [if_pos (show (k', _).1 = k from e), if_pos (show (k', _).1 = k from e)]
      exact .cons rv (r.repl k rv)
    · rw [if_neg (show ¬ (k', _).1 = k from e), if_neg (show ¬ (k', _).1 = k from e)]
      exact .cons h (r.repl k rv)
theorem RepKV.put {κ : Type} [DecidableEq κ] {K : PySem.W.Frag} {H : Hp} {k : κ} {v : V} {d : D} {ds : List (κ × D)} {vs : List (κ × V)} (r : RepKV K H vs ds) (rv : Rep K H v d) : RepKV K H (putK vs k v) (putD ds k d) := by
  unfold putK putD
  rw [r.any k]
  split
  · exact r.repl k rv
  · exact r.append (.cons rv .nil)
def tGet (kvs : List (List Key × D)) (d : D) : Option (Option D) := match d with
  | .tup ds => (keysD ds).map (valD kvs)
  | _ => none
/-- what the dict at a holds at d; none: no such key can be asked -/
def dGet (G : Gp) (a : Addr) (d : D) : Option (Option D) := match G a with
  | some (.dk kvs) => (keyD d).map (valD kvs)
  | some (.ldk _ _ kvs) => (keyD d).map (valD kvs)
  | some (.dt kvs) => tGet kvs d
  | some (.ldt _ _ kvs) => tGet kvs d
  | _ => none
theorem tget_rep {K : PySem.W.Frag} {H : Hp} {a : Addr} {kvs : List (List Key × D)} {xs : List (List Key × V)} (hr : Rd H a (.dT xs)) (rk : RepKV K H xs kvs) : ∀ {d : D} {y : V} {r : Option D}, Rep K H y d → tGet kvs d = some r → ∃ o, DGet H a y o ∧ RepO' K H o r
  | .tup ds, _, r, .tup hq rr, e => by
    have e : (keysD ds).map (valD kvs) = some r := e
    cases q : keysD ds with
    | none => rw [q] at e; cases e
    | some k =>
      rw [q] at e
      cases e
      have := keysD_rep rr q
      subst this
      exact ⟨_, .inr ⟨xs, k, _, hr, rfl, hq, rfl⟩, rk.val k⟩
theorem dget_rep {K : PySem.W.Frag} {H : Hp} {G : Gp} {a : Addr} {y : V} {d : D} {r : Option D} (g : SimG K H G) (ry : Rep K H y d) (e : dGet G a d = some r) : ∃ o, DGet H a y o ∧ RepO' K H o r := by
  have kk : ∀ {kvs : List (Key × D)} {xs : List (Key × V)}, Rd H a (.dK xs) → RepKV K H xs kvs → (keyD d).map (valD kvs) = some r → ∃ o, DGet H a y o ∧ RepO' K H o r := by
    intro kvs xs hr rk e
    cases q : keyD d with
    | none => rw [q] at e; cases e
    | some k =>
      rw [q] at e
      cases e
      exact ⟨_, .inl ⟨xs, k, hr, keyD_rep ry q, rfl⟩, rk.val k⟩
  unfold dGet at e
  split at e
  · rename_i kvs ha
    obtain ⟨xs, hx, rk⟩ := g a _ ha
    exact kk (.inl hx) rk e
  · rename_i o xs kvs ha
    obtain ⟨hx, rk⟩ := g a _ ha
    exact kk (.inr ⟨_, hx⟩) rk e
  · rename_i kvs ha
    obtain ⟨xs, hx, rk⟩ := g a _ ha
    exact tget_rep (.inl hx) rk ry e
  · rename_i o xs kvs ha
    obtain ⟨hx, rk⟩ := g a _ ha
    exact tget_rep (.inr ⟨_, hx⟩) rk ry e
  · cases e
def zDGet (td ty : DE) : DE := fun ρ G Q => td ρ G fun x G1 => ty ρ G1 fun y G2 => match x with
  | .ref a => match dGet G2 a y with
    | some (some d) => Q d G2
    | _ => False
  | _ => False
theorem z_dget {o i : Expr} {td ty : DE} {pos : Pos} (hu : X.A.units + 1 < cLine) (ho : ZE X o td) (hi : ZE X i ty) (hs : NoSl i := by exact fun _ _ => rfl) : ZE X (.Subscript o i pos) (zDGet td ty) := PEi (pe_dget hu ho hi hs) fun σ H Q q => by
  obtain ⟨ρ, G, Q0, hs, hg, h, k⟩ := q
  refine ⟨ρ, G, _, hs, hg, h, fun d G1 x H1 h1 f1 g1 r1 => ⟨ρ, G1, _, hs.mono (hg.tm f1), g1, h1, fun e G2 y H2 h2 f2 g2 r2 => ?_⟩⟩
  cases r1 with
  | ref a =>
    simp only at h2
    split at h2
    · rename_i d e1
      obtain ⟨o, ho, ro⟩ := dget_rep g2 r2 e1
      cases o with
      | none => exact ro.elim
      | some v => exact ⟨a, v, rfl, ho, k d G2 v H2 h2 (f1.trans f2) g2 ro⟩
    · cases h2
  | _ => exact False.elim h2
def zDIn (neg : Bool) (ty td : DE) : DE := fun ρ G Q => ty ρ G fun y G1 => td ρ G1 fun x G2 => match x with
  | .ref a => match dGet G2 a y with
    | some r => Q (.bl (if neg then !r.isSome else r.isSome)) G2
    | none => False
  | _ => False
theorem z_din {o i : Expr} {td ty : DE} {pos : Pos} (hu : X.A.units + 1 < cLine) (hi : ZE X i ty) (ho : ZE X o td) (h1 : behindInMarks .In o = false := by rfl) : ZE X (.Compare i [.In] [o] pos) (zDIn false ty td) := PEi (pe_cmp (pc_din hu hi ho) h1) fun σ H Q q => by
  obtain ⟨ρ, G, Q0, hs, hg, h, k⟩ := q
  refine ⟨ρ, G, _, hs, hg, h, fun d G1 x H1 h1 f1 g1 r1 => ⟨ρ, G1, _, hs.mono (hg.tm f1), g1, h1, fun e G2 y H2 h2 f2 g2 r2 => ?_⟩⟩
  cases r2 with
  | ref a =>
    simp only at h2
    split at h2
    · rename_i r e1
      obtain ⟨o, ho, ro⟩ := dget_rep g2 (r1.mono (g1.tm f2)) e1
      refine ⟨a, o, rfl, ho, ?_⟩
      have e : o.isSome = r.isSome := by cases o <;> cases r <;> first | rfl | exact ro.elim
      rw [e]
      exact k _ G2 _ H2 h2 (f1.trans f2) g2 (.bl _)
    · cases h2
  | _ => exact False.elim h2
theorem z_dnotin {o i : Expr} {td ty : DE} {pos : Pos} (hu : X.A.units + 1 < cLine) (hi : ZE X i ty) (ho : ZE X o td) (h1 : behindInMarks .NotIn o = false := by rfl) : ZE X (.Compare i [.NotIn] [o] pos) (zDIn true ty td) := PEi (pe_cmp (pc_dnotin hu hi ho) h1) fun σ H Q q => by
  obtain ⟨ρ, G, Q0, hs, hg, h, k⟩ := q
  refine ⟨ρ, G, _, hs, hg, h, fun d G1 x H1 h1 f1 g1 r1 => ⟨ρ, G1, _, hs.mono (hg.tm f1), g1, h1, fun e G2 y H2 h2 f2 g2 r2 => ?_⟩⟩
  cases r2 with
  | ref a =>
    simp only at h2
    split at h2
    · rename_i r e1
      obtain ⟨o, ho, ro⟩ := dget_rep g2 (r1.mono (g1.tm f2)) e1
      refine ⟨a, o, rfl, ho, ?_⟩
      have e : o.isSome = r.isSome := by cases o <;> cases r <;> first | rfl | exact ro.elim
      rw [e]
      exact k _ G2 _ H2 h2 (f1.trans f2) g2 (.bl _)
    · cases h2
  | _ => exact False.elim h2
/-- a value's test where it is a bool -/
theorem z_val {a : Expr} {ta : DE} (h : ZE X a ta) (he : ∀ whole, isTrue a X.env whole = (do let v ← whole; standAt a.pos; holding [v] (truthy v)) := by intro _; rfl) : ZT X a (zTest ta) := PTi (pt_val h he) fun σ H Q q => by
  obtain ⟨ρ, G, Q0, hs, hg, h, k⟩ := q
  refine ⟨ρ, G, _, hs, hg, h, fun d G1 x H1 h1 f1 g1 r1 => ?_⟩
  cases r1 with
  | bl b => exact ⟨b, rfl, k b G1 H1 h1 f1 g1⟩
  | _ => cases h1
theorem z_tdin {o i : Expr} {td ty : DE} {pos : Pos} (hu : X.A.units + 1 < cLine) (hi : ZE X i ty) (ho : ZE X o td) (h1 : behindInMarks .In o = false := by rfl) : ZT X (.Compare i [.In] [o] pos) (zTest (zDIn false ty td)) := PTi (pt_cmp (pc_din hu hi ho) h1) fun σ H Q q => by
  obtain ⟨ρ, G, Q0, hs, hg, h, k⟩ := q
  refine ⟨ρ, G, _, hs, hg, h, fun d G1 x H1 h1 f1 g1 r1 => ⟨ρ, G1, _, hs.mono (hg.tm f1), g1, h1, fun e G2 y H2 h2 f2 g2 r2 => ?_⟩⟩
  cases r2 with
  | ref a =>
    simp only at h2
    split at h2
    · rename_i r e1
      obtain ⟨o, ho, ro⟩ := dget_rep g2 (r1.mono (g1.tm f2)) e1
      refine ⟨a, o, rfl, ho, _, rfl, ?_⟩
      have e : o.isSome = r.isSome := by cases o <;> cases r <;> first | rfl | exact ro.elim
      rw [e]
      exact k _ G2 H2 h2 (f1.trans f2) g2
    · cases h2
  | _ => exact False.elim h2
theorem z_tdnotin {o i : Expr} {td ty : DE} {pos : Pos} (hu : X.A.units + 1 < cLine) (hi : ZE X i ty) (ho : ZE X o td) (h1 : behindInMarks .NotIn o = false := by rfl) : ZT X (.Compare i [.NotIn] [o] pos) (zTest (zDIn true ty td)) := PTi (pt_cmp (pc_dnotin hu hi ho) h1) fun σ H Q q => by
  obtain ⟨ρ, G, Q0, hs, hg, h, k⟩ := q
  refine ⟨ρ, G, _, hs, hg, h, fun d G1 x H1 h1 f1 g1 r1 => ⟨ρ, G1, _, hs.mono (hg.tm f1), g1, h1, fun e G2 y H2 h2 f2 g2 r2 => ?_⟩⟩
  cases r2 with
  | ref a =>
    simp only at h2
    split at h2
    · rename_i r e1
      obtain ⟨o, ho, ro⟩ := dget_rep g2 (r1.mono (g1.tm f2)) e1
      refine ⟨a, o, rfl, ho, _, rfl, ?_⟩
      have e : o.isSome = r.isSome := by cases o <;> cases r <;> first | rfl | exact ro.elim
      rw [e]
      exact k _ G2 H2 h2 (f1.trans f2) g2
    · cases h2
  | _ => exact False.elim h2
/-- d[k] = v -/
def zDPut (td ty tv : DE) : DS := fun Z ρ G => tv ρ G fun v G1 => td ρ G1 fun x G2 => ty ρ G2 fun y G3 => match x with
  | .ref a => (match G3 a with
    | some (.dk kvs) => (match keyD y with
      | some k => kvs.length < sizeLine ∧ ∀ G4, At G3 a (.dk (putD kvs k v)) G4 → Z.nx ρ G4
      | none => False)
    | some (.dt kvs) => (match y with
      | .tup ds => (match keysD ds with
        | some k => kvs.length < sizeLine ∧ ∀ G4, At G3 a (.dt (putD kvs k v)) G4 → Z.nx ρ G4
        | none => False)
      | _ => False)
    | _ => False)
  | _ => False
theorem z_dput {o i value : Expr} {td ty tv : DE} {pos pos' : Pos} (hu : X.A.units + 1 < cLine) (ho : ZE X o td) (hi : ZE X i ty) (hv : ZE X value tv) (hs : swapsWith value (some (.Subscript o i pos')) pos.line X.env = pure false := by rfl) :
    ZS X (.Assign [.Subscript o i pos'] value pos) (zDPut td ty tv) := PSi (ps_dput hu ho hi hv hs) fun D σ H q => by
  obtain ⟨ρ, G, Z, hs, hg, h, k1, _⟩ := q
  refine ⟨ρ, G, _, hs, hg, h, fun v G1 xv H1 h1 f1 g1 r1 => ⟨ρ, G1, _, hs.mono (hg.tm f1), g1, h1, fun d G2 x H2 h2 f2 g2 r2 => ⟨ρ, G2, _, hs.mono (hg.tm (f1.trans f2)), g2, h2, fun e G3 y H3 h3 f3 g3 r3 => ?_⟩⟩⟩
  have ff := f1.trans (f2.trans f3)
  have r1' := r1.mono (g1.tm (f2.trans f3))
  have s3 := hs.mono (hg.tm ff)
  cases r2 with
  | ref a =>
    simp only at h3
    split at h3
    · rename_i kvs ha
      split at h3
      · rename_i kk hk
        obtain ⟨xs, hx, rk⟩ := g3 a _ ha
        have t := tm_set (o := .dK (putK xs kk xv)) hx fun z => z
        refine ⟨a, _, rfl, .inl ⟨xs, kk, hx, keyD_rep r3 hk, by rw [rk.len]; exact h3.1, rfl⟩, ?_⟩
        exact k1 ρ (put G3 a (.dk (putD kvs kk v))) σ _ (h3.2 _ (At.put _ _ _)) (ff.trans (Fr.put (.inr ⟨_, ha⟩))) (g3.put (.inr ⟨_, ha⟩) t ⟨_, upd_same, (rk.put r1').mono t⟩) (s3.mono t)
      · cases h3
    · rename_i kvs ha
      split at h3
      · rename_i ds
        split at h3
        · rename_i kk hk
          obtain ⟨xs, hx, rk⟩ := g3 a _ ha
          have t := tm_set (o := .dT (putK xs kk xv)) hx fun z => z
          cases r3 with
          | tup hq rr =>
            have e := keysD_rep rr hk
            subst e
            refine ⟨a, _, rfl, .inr ⟨xs, kk, _, hx, rfl, hq, by rw [rk.len]; exact h3.1, rfl⟩, ?_⟩
            exact k1 ρ (put G3 a (.dt (putD kvs kk v))) σ _ (h3.2 _ (At.put _ _ _)) (ff.trans (Fr.put (.inr ⟨_, ha⟩))) (g3.put (.inr ⟨_, ha⟩) t ⟨_, upd_same, (rk.put r1').mono t⟩) (s3.mono t)
        · cases h3
      · cases h3
    · cases h3
  | _ => exact False.elim h3
/-- {} -/
def zDNewK : DE := fun _ G Q => ∀ p G', G p = none → At G p (.dk []) G' → Q (.ref p) G'
def zDNewT : DE := fun _ G Q => ∀ p G', G p = none → At G p (.dt []) G' → Q (.ref p) G'
theorem z_dnewK {pos : Pos} : ZE X (.Dict [] [] pos) zDNewK := PEi pe_dnewK fun σ H Q q => by
  obtain ⟨ρ, G, Q0, hs, hg, h, k⟩ := q
  exact fun p hp => CK.new (m := .dk []) k hp hg ⟨_, upd_same, .nil⟩ fun G' n at_ => h p G' n at_
theorem z_dnewT {pos : Pos} : ZE X (.Dict [] [] pos) zDNewT := PEi pe_dnewT fun σ H Q q => by
  obtain ⟨ρ, G, Q0, hs, hg, h, k⟩ := q
  exact fun p hp => CK.new (m := .dt []) k hp hg ⟨_, upd_same, .nil⟩ fun G' n at_ => h p G' n at_
/-- a dict is locked while it is walked -/
def zLock (t : DS) : DS := fun Z ρ G => ∃ a, (∃ kvs, G a = some (.dk kvs) ∧ ∀ o xs G1, At G a (.ldk o xs kvs) G1 →
    t ⟨fun ρ' G' => G' a = some (.ldk o xs kvs) ∧ ∀ G2, At G' a (.dk kvs) G2 → Z.nx ρ' G2, fun d G' => G' a = some (.ldk o xs kvs) ∧ ∀ G2, At G' a (.dk kvs) G2 → Z.rt d G2,
      fun ρ' G' => G' a = some (.ldk o xs kvs) ∧ ∀ G2, At G' a (.dk kvs) G2 → Z.bk ρ' G2, fun ρ' G' => G' a = some (.ldk o xs kvs) ∧ ∀ G2, At G' a (.dk kvs) G2 → Z.ct ρ' G2⟩ ρ G1) ∨
  ∃ kvs, G a = some (.dt kvs) ∧ ∀ o xs G1, At G a (.ldt o xs kvs) G1 →
    t ⟨fun ρ' G' => G' a = some (.ldt o xs kvs) ∧ ∀ G2, At G' a (.dt kvs) G2 → Z.nx ρ' G2, fun d G' => G' a = some (.ldt o xs kvs) ∧ ∀ G2, At G' a (.dt kvs) G2 → Z.rt d G2,
      fun ρ' G' => G' a = some (.ldt o xs kvs) ∧ ∀ G2, At G' a (.dt kvs) G2 → Z.bk ρ' G2, fun ρ' G' => G' a = some (.ldt o xs kvs) ∧ ∀ G2, At G' a (.dt kvs) G2 → Z.ct ρ' G2⟩ ρ G1
theorem unlockS {K : PySem.W.Frag} {H : Hp} {G : Gp} {a : Addr} {o : Obj} {u : HO} {m n l : MO} {Zx : ZSt → Gp → Prop} {D : L2.St → Hp → Prop} (hH : H a = some u) (hG : G a = some n) (nu : ¬ sta u) (nf : ¬ sta (.frz o u)) (hg : SimG K H G) (k : SK K H G Zx D)
    (hl : ∀ H', RepO K H' a l → H' a = some (.frz o u)) (hm : ∀ H', RepO K H' a l → Tm H' (upd H' a u) → RepO K (upd H' a u) a m) :
    SK K (upd H a (.frz o u)) (put G a l) (fun ρ' G' => G' a = some l ∧ ∀ G2, At G' a m G2 → Zx ρ' G2) fun σ' H' => H' a = some (.frz o u) ∧ D σ' (upd H' a u) := fun ρ' G' σ' H' q f g s => by
  obtain ⟨e, q⟩ := q
  have x1 := hl H' (g a _ e)
  have t : Tm H' (upd H' a u) := tm_set x1 nf
  refine ⟨x1, k ρ' (put G' a m) σ' _ (q _ (At.put _ _ _)) (fun b ob hb nb nt => ?_) (g.put (.inr ⟨_, e⟩) t (hm H' (g a _ e) t)) (s.mono t)⟩
  have hba : b ≠ a := by
    rintro rfl
    rw [hG] at nb; cases nb
  obtain ⟨y1, y2⟩ := f b ob (by rw [upd_ne hba]; exact hb) (by rw [put_ne hba]; exact nb) nt
  rw [upd_ne hba, put_ne hba]
  exact ⟨y1, y2⟩
theorem unlockR {K : PySem.W.Frag} {H : Hp} {G : Gp} {a : Addr} {o : Obj} {u : HO} {m n l : MO} {Zx : DK} {D : VK} (hH : H a = some u) (hG : G a = some n) (nu : ¬ sta u) (nf : ¬ sta (.frz o u)) (hg : SimG K H G) (k : CK K H G Zx D)
    (hl : ∀ H', RepO K H' a l → H' a = some (.frz o u)) (hm : ∀ H', RepO K H' a l → Tm H' (upd H' a u) → RepO K (upd H' a u) a m) :
    CK K (upd H a (.frz o u)) (put G a l) (fun d G' => G' a = some l ∧ ∀ G2, At G' a m G2 → Zx d G2) fun v H' => H' a = some (.frz o u) ∧ D v (upd H' a u) := fun d G' v H' q f g s => by
  obtain ⟨e, q⟩ := q
  have x1 := hl H' (g a _ e)
  have t : Tm H' (upd H' a u) := tm_set x1 nf
  refine ⟨x1, k d (put G' a m) v _ (q _ (At.put _ _ _)) (fun b ob hb nb nt => ?_) (g.put (.inr ⟨_, e⟩) t (hm H' (g a _ e) t)) (s.mono t)⟩
  have hba : b ≠ a := by
    rintro rfl
    rw [hG] at nb; cases nb
  obtain ⟨y1, y2⟩ := f b ob (by rw [upd_ne hba]; exact hb) (by rw [put_ne hba]; exact nb) nt
  rw [upd_ne hba, put_ne hba]
  exact ⟨y1, y2⟩
theorem z_lock {st : Stmt} {t : DS} (h : ZS X st t) : ZS X st (zLock t) := PSi (ps_lock h) fun D σ H q => by
  obtain ⟨ρ, G, Z, hs, hg, ⟨a, h⟩, k1, k2, k3, k4⟩ := q
  rcases h with ⟨kvs, ha, h⟩ | ⟨kvs, ha, h⟩
  · obtain ⟨xs, hx, rk⟩ := hg a _ ha
    show ∃ d u, H d = some u ∧ Mut (some u) ∧ _
    refine ⟨a, .dK xs, hx, True.intro, fun od => ?_⟩
    have t := tm_set (o := .frz od (.dK xs)) hx fun z => z
    have hl : ∀ H', RepO X.K H' a (.ldk od xs kvs) → H' a = some (.frz od (.dK xs)) := fun H' z => z.1
    have hm : ∀ H', RepO X.K H' a (.ldk od xs kvs) → Tm H' (upd H' a (.dK xs)) → RepO X.K (upd H' a (.dK xs)) a (.dk kvs) := fun H' z t => ⟨xs, upd_same, z.2.mono t⟩
    exact ⟨ρ, put G a (.ldk od xs kvs), _, hs.mono t, hg.put (.inr ⟨_, ha⟩) t ⟨upd_same, rk.mono t⟩, h od xs _ (At.put _ _ _), unlockS hx ha (fun z => z) (fun z => z) hg k1 hl hm, unlockR hx ha (fun z => z) (fun z => z) hg k2 hl hm, unlockS hx ha (fun z => z) (fun z => z) hg k3 hl hm, unlockS hx ha (fun z => z) (fun z => z) hg k4 hl hm⟩
  · obtain ⟨xs, hx, rk⟩ := hg a _ ha
    refine ⟨a, .dT xs, hx, trivial, fun od => ?_⟩
    have t := tm_set (o := .frz od (.dT xs)) hx fun z => z
    have hl : ∀ H', RepO X.K H' a (.ldt od xs kvs) → H' a = some (.frz od (.dT xs)) := fun H' z => z.1
    have hm : ∀ H', RepO X.K H' a (.ldt od xs kvs) → Tm H' (upd H' a (.dT xs)) → RepO X.K (upd H' a (.dT xs)) a (.dt kvs) := fun H' z t => ⟨xs, upd_same, z.2.mono t⟩
    exact ⟨ρ, put G a (.ldt od xs kvs), _, hs.mono t, hg.put (.inr ⟨_, ha⟩) t ⟨upd_same, rk.mono t⟩, h od xs _ (At.put _ _ _), unlockS hx ha (fun z => z) (fun z => z) hg k1 hl hm, unlockR hx ha (fun z => z) (fun z => z) hg k2 hl hm, unlockS hx ha (fun z => z) (fun z => z) hg k3 hl hm, unlockS hx ha (fun z => z) (fun z => z) hg k4 hl hm⟩
end
end Z

namespace Z
open PySem PySem.Spec PyProof.Rows L2
variable [τ : Tbl] [β : Bas]
section
variable {X : Cx}

/-! ### built-in functions -/
def fAbs : ZF := fun ds G Q => match ds with
  | [.int i] => Q (.int (if i < 0 then -i else i)) G
  | _ => False
theorem zf_abs : ZCall X (.builtin "abs") fAbs := CallRi call_abs fun xs H Q q => by
  obtain ⟨ds, G, Q0, g, r, h, k⟩ := q
  unfold fAbs at h
  split at h
  · rename_i i
    cases r with
    | cons r1 r2 =>
      cases r1
      cases r2
      exact ⟨i, rfl, CK.at k h g (.int _)⟩
  · cases h
/-- int(n), int(flag) -/
def fInt : ZF := fun ds G Q => match ds with
  | [.int i] => Q (.int i) G
  | [.bl b] => Q (.int (if b then 1 else 0)) G
  | _ => False
theorem zf_int : ZCall X (.type "int") fInt := CallRi call_int1 fun xs H Q q => by
  obtain ⟨ds, G, Q0, g, r, h, k⟩ := q
  unfold fInt at h
  split at h
  · rename_i i
    cases r with
    | cons r1 r2 =>
      cases r1
      cases r2
      exact .inl ⟨i, rfl, CK.at k h g (.int _)⟩
  · rename_i b
    cases r with
    | cons r1 r2 =>
      cases r1
      cases r2
      exact .inr ⟨b, rfl, CK.at k h g (.int _)⟩
  · cases h
/-- len of a list, a tuple, a text -/
def fLen : ZF := fun ds G Q => match ds with
  | [.str y] => y.length ≤ sizeLine ∧ Q (.int (y.length : Nat)) G
  | [d] => match seqD G d with
    | some es => Q (.int (es.length : Nat)) G
    | none => False
  | _ => False
theorem zf_len : ZCall X (.builtin "len") fLen := CallRi call_len fun xs H Q q => by
  obtain ⟨ds, G, Q0, g, r, h, k⟩ := q
  unfold fLen at h
  split at h
  · rename_i y
    cases r with
    | cons r1 r2 =>
      cases r1
      cases r2
      exact ⟨_, _, rfl, ⟨h.1, rfl⟩, CK.at k h.2 g (.int _)⟩
  · rename_i d _
    split at h
    · rename_i es e
      cases r with
      | cons r1 r2 =>
        cases r2
        obtain ⟨p, ys, rfl, hq, r⟩ := seqD_rep g r1 e
        refine ⟨_, ys.length, rfl, ?_, CK.at k (by rw [r.length]; exact h) g (.int _)⟩
        rcases hq with hq | hq
        · exact .inl ⟨ys, hq, rfl⟩
        · exact .inr ⟨ys, hq, rfl⟩
    · cases h
  · cases h
/-- tuple(list) -/
def fTup : ZF := fun ds G Q => match ds with
  | [d] => match seqD G d with
    | some es => es.length ≤ sizeLine ∧ Q (.tup es) G
    | none => False
  | _ => False
def isLst (G : Gp) : D → Bool
  | .cl _ => true
  | .ref a => match G a with
    | some (.lst _) => true
    | _ => false
  | _ => false
def fTupL : ZF := fun ds G Q => match ds with
  | [.cl es] => Q (.tup es) G
  | [.tup es] => Q (.tup es) G
  | [.ct es] => Q (.ct es) G
  | [.ref a] => match G a with
    | some (.lst es) => Q (.tup es) G
    | _ => False
  | _ => False
theorem zf_tuple : ZCall X (.type "tuple") fTupL := CallRi call_tuple_of fun xs H Q q => by
  obtain ⟨ds, G, Q0, g, r, h, k⟩ := q
  unfold fTupL at h
  split at h
  · cases r with
    | cons r1 r2 =>
      cases r2
      cases r1 with
      | cl hq r => exact ⟨_, _, rfl, .inl ⟨hq.sq, fun p hp => CK.tup k hp h g r⟩⟩
  · cases r with
    | cons r1 r2 =>
      cases r2
      cases r1 with
      | tup hq r => exact ⟨_, _, rfl, .inr ⟨hq.sq, CK.at k h g (.tup hq r)⟩⟩
  · cases r with
    | cons r1 r2 =>
      cases r2
      cases r1 with
      | ct hq r => exact ⟨_, _, rfl, .inr ⟨hq.sq, CK.at k h g (.ct hq r)⟩⟩
  · split at h
    · rename_i es e
      cases r with
      | cons r1 r2 =>
        cases r2
        cases r1 with
        | ref a =>
          obtain ⟨ys, hy, r⟩ := g _ _ e
          exact ⟨_, _, rfl, .inl ⟨SqL.of hy, fun p hp => CK.tup k hp h g r⟩⟩
    · cases h
  · cases h
/-- list(seq) -/
def fList : ZF := fun ds G Q => match ds with
  | [d] => match seqD G d with
    | some es => ∀ p G', G p = none → At G p (.lst es) G' → Q (.ref p) G'
    | none => False
  | _ => False
theorem zf_list : ZCall X (.type "list") fList := CallRi call_list_of fun xs H Q q => by
  obtain ⟨ds, G, Q0, g, r, h, k⟩ := q
  unfold fList at h
  split at h
  · split at h
    · rename_i es e
      cases r with
      | cons r1 r2 =>
        cases r2
        obtain ⟨p, ys, rfl, hq, r⟩ := seqD_rep g r1 e
        exact ⟨_, ys, rfl, hq, fun l hl => CK.new (m := .lst es) k hl g ⟨ys, upd_same, r.mono (tm_new hl)⟩ fun G' n at_ => h l G' n at_⟩
    · cases h
  · cases h

/-! ### methods of built-in types -/
abbrev ZM := D → List D → Gp → DK → Prop
def upM (K : PySem.W.Frag) (z : ZM) : V → List V → Hp → VK → Prop := fun x xs H Q => ∃ d ds G Q0, SimG K H G ∧ Rep K H x d ∧ Reps K H xs ds ∧ z d ds G Q0 ∧ CK K H G Q0 Q
def ZMt (X : Cx) (id : String) (z : ZM) : Prop := MtR X id (upM X.K z)
theorem MtRi {id : String} {r r' : V → List V → Hp → VK → Prop} (h : MtR X id r) (i : ∀ x xs H Q, r' x xs H Q → r x xs H Q) : MtR X id r' := fun pins s σ H x xs v us Q I rx rs q => h pins s σ H x xs v us Q I rx rs (i x xs H Q q)
/-- the type of a value -/
def tyZ (T : String) (d : D) (G : Gp) : Prop := match d with
  | .str _ => T = "str"
  | .int _ => T = "int"
  | .cl _ => T = "list"
  | .ref a => match G a with
    | some (.lst _) => T = "list"
    | some (.dk _) => T = "dict"
    | some (.dt _) => T = "dict"
    | _ => False
  | _ => False
theorem tyZ_rep {K : PySem.W.Frag} {H : Hp} {G : Gp} {T : String} {v : V} {d : D} (g : SimG K H G) (r : Rep K H v d) (t : tyZ T d G) : tyV K T v H := by
  cases r with
  | str x => exact t
  | int x => exact t
  | cl hq r => exact .inl ⟨t, _, hq.sq⟩
  | ref a =>
    unfold tyZ at t
    simp only at t
    split at t
    · rename_i es e
      obtain ⟨xs, hx, _⟩ := g _ _ e
      exact .inl ⟨t, _, SqL.of hx⟩
    · rename_i es e
      obtain ⟨xs, hx, _⟩ := g _ _ e
      exact .inr (.inr (.inl ⟨t, .inl ⟨_, hx⟩⟩))
    · rename_i es e
      obtain ⟨xs, hx, _⟩ := g _ _ e
      exact .inr (.inr (.inl ⟨t, .inr ⟨_, hx⟩⟩))
    · cases t
  | _ => exact False.elim t
def zBM (T : String) (z : ZM) (to : DE) (t : DA) : DE := fun ρ G Q => to ρ G fun d G1 => tyZ T d G1 ∧ t ρ G1 fun ds G2 => z d ds G2 Q
def zBM0 (T : String) (z : ZM) (to : DE) : DE := fun ρ G Q => to ρ G fun d G1 => tyZ T d G1 ∧ z d [] G1 Q
variable {o e : Expr} {es : List Expr} {to : DE} {t : DA} {name : Str} {apos cpos : Pos} {T id : String} {z : ZM}
theorem z_bm0 (pa : PlainAttrs T) (slot : Slot T name id) (hty : typeOf (.builtin id) = pure (.type "method_descriptor")) (hm : ZMt X id z) (ho : ZE X o to)
    (hbase : attributeBase o name X.env (eval o X.env) = eval o X.env := by rfl) (hline : (apos.endLine == cpos.line) = true := by rfl) : ZE X (.Call (.Attribute o name apos) [] [] cpos) (zBM0 T z to) := PEi (pe_bm0 pa slot hty hm ho hbase hline) fun σ H Q q => by
  obtain ⟨ρ, G, Q0, hs, hg, h, k⟩ := q
  exact ⟨ρ, G, _, hs, hg, h, fun d G1 x H1 h1 f1 g1 r1 => ⟨tyZ_rep g1 r1 h1.1, d, [], G1, Q0, g1, r1, .nil, h1.2, CK.go k f1⟩⟩
theorem z_bm (pa : PlainAttrs T) (slot : Slot T name id) (hty : typeOf (.builtin id) = pure (.type "method_descriptor")) (hm : ZMt X id z) (ho : ZE X o to) (ha : ZA X (e :: es) t)
    (hbase : attributeBase o name X.env (eval o X.env) = eval o X.env := by rfl)
    (hfew : ((backTo cpos (starEach (e :: es) X.env)).all (fun x => !x.1) && (backToKw cpos (keywordEach [] X.env)).all (fun x => x.1.isSome)
      && decide ((e :: es).length + ([] : List Keyword).length + (if ([] : List Keyword).isEmpty then 0 else 1) < 30)) = true := by rfl)
    (hline : (apos.endLine == cpos.line) = true := by rfl) (hs : starEach (e :: es) X.env = (false, eval e X.env) :: starEach es X.env := by rfl) (hplain : (backTo cpos (starEach es X.env)).any (·.1) = false := by rfl) :
    ZE X (.Call (.Attribute o name apos) (e :: es) [] cpos) (zBM T z to t) := PEi (pe_bm pa slot hty hm ho ha hbase hfew hline hs hplain) fun σ H Q q => by
  obtain ⟨ρ, G, Q0, hs, hg, h, k⟩ := q
  exact ⟨ρ, G, _, hs, hg, h, fun d G1 x H1 h1 f1 g1 r1 => ⟨tyZ_rep g1 r1 h1.1, ρ, G1, _, hs.mono (hg.tm f1), g1, h1.2, fun ds G2 xs H2 h2 f2 g2 r2 => ⟨d, ds, G2, Q0, g2, r1.mono (g1.tm f2), r2, h2, CK.go k (f1.trans f2)⟩⟩⟩
def mAppend : ZM := fun d ds G Q => match d, ds with
  | .ref a, [x] => (match G a with
    | some (.lst es) => es.length < sizeLine ∧ ∀ G', At G a (.lst (es ++ [x])) G' → Q .non G'
    | _ => False)
  | _, _ => False
theorem zm_append : ZMt X "list.append" mAppend := MtRi mt_append fun x xs H Q q => by
  obtain ⟨d, ds, G, Q0, g, r, rs, h, k⟩ := q
  unfold mAppend at h
  split at h
  · split at h
    · rename_i es e
      cases rs with
      | cons r1 r2 =>
        cases r2
        cases r with
        | ref a =>
          obtain ⟨ys, hy, ry⟩ := g _ _ e
          exact ⟨_, ys, _, rfl, rfl, hy, by rw [ry.length]; exact h.1, CK.set (m := .lst _) k hy (fun z => z) e g ⟨_, upd_same, (ry.append (.cons r1 .nil)).mono (tm_set hy fun z => z)⟩ .non fun G' at_ => h.2 G' at_⟩
    · cases h
  · cases h
def mPop : ZM := fun d ds G Q => match d, ds with
  | .ref a, [] => (match G a with
    | some (.lst es) => (match es[es.length - 1]? with
      | some y => ∀ G', At G a (.lst es.dropLast) G' → Q y G'
      | none => False)
    | _ => False)
  | _, _ => False
theorem zm_pop : ZMt X "list.pop" mPop := MtRi mt_pop fun x xs H Q q => by
  obtain ⟨d, ds, G, Q0, g, r, rs, h, k⟩ := q
  unfold mPop at h
  split at h
  · split at h
    · rename_i es e
      split at h
      · rename_i y hy2
        cases rs
        cases r with
        | ref a =>
          obtain ⟨ys, hy, ry⟩ := g _ _ e
          obtain ⟨v, hv, rv⟩ := ry.get hy2
          have tt := tm_set (o := .lst ys.dropLast) hy fun z => z
          exact ⟨_, ys, v, rfl, rfl, hy, by rw [ry.length]; exact hv, CK.set (m := .lst _) k hy (fun z => z) e g ⟨_, upd_same, ry.dropLast.mono tt⟩ (rv.mono tt) fun G' at_ => h G' at_⟩
      · cases h
    · cases h
  · cases h

/-! ### xs[i] = e -/
def zSetL (to ti : DE) : DG := fun v ρ G Q => to ρ G fun o G1 => ti ρ G1 fun i G2 => match o, i with
  | .ref a, .int n => (match G2 a with
    | some (.lst es) => (match ixN es.length n with
      | some j => ∀ G', At G2 a (.lst (es.set j v)) G' → Q ρ G'
      | none => False)
    | _ => False)
  | _, _ => False
theorem zg_setL {o i : Expr} {to ti : DE} {pos : Pos} (ho : ZE X o to) (hi : ZE X i ti)
    (ha : ∀ v, assign (.Subscript o i pos) X.env v = (do
      let ov ← holding [v] (eval o X.env)
      let iv ← holding [v, ov] (eval i X.env)
      standAt pos
      holding [v, ov, iv] (setItem ov iv v)
      release [v, ov, iv] []) := by intro _; rfl) : ZG X (.Subscript o i pos) (zSetL to ti) := PGi (pg_sub ho hi set_list ha) fun v σ H Q q => by
  obtain ⟨d, ρ, G, Q0, r, hs, hg, h, k⟩ := q
  refine ⟨ρ, G, _, hs, hg, h, fun w G1 x H1 h1 f1 g1 r1 => ⟨ρ, G1, _, hs.mono (hg.tm f1), g1, h1, fun u G2 y H2 h2 f2 g2 r2 => ?_⟩⟩
  split at h2
  · split at h2
    · rename_i es e
      split at h2
      · rename_i j ej
        cases r2
        cases r1 with
        | ref a =>
          obtain ⟨ys, hy, ry⟩ := g2 _ _ e
          have tt := tm_set (o := .lst (ys.set j v)) hy fun z => z
          have rv := r.mono (hg.tm (f1.trans f2))
          refine ⟨_, ys, _, j, rfl, rfl, hy, by rw [ry.length]; exact ej, ?_⟩
          exact k ρ (put G2 _ (.lst (es.set j d))) σ _ (h2 _ (At.put _ _ _)) (f1.trans (f2.trans (Fr.put (.inr ⟨_, e⟩)))) (g2.put (.inr ⟨_, e⟩) tt ⟨_, upd_same, (ry.set j rv).mono tt⟩) ((hs.mono (hg.tm (f1.trans f2))).mono tt)
      · cases h2
    · cases h2
  · cases h2
/-- name op= e -/
def zAug (i : Nat) (te : DE) (z : Z2) : DS := fun Z ρ G => match ρ[i]? with
  | some (some x) => te ρ G fun y G1 => z x y G1 fun w G2 => Z.nx (ρ.set i (some w)) G2
  | _ => False
theorem z_aug {i : Nat} {x : Str} {e : Expr} {te : DE} {op : Operator} {z : Z2} {pos pos' : Pos} (hN : X.N.Nodup) (hi : X.N[i]? = some x) (hx : Loc X.env.scope x) (he : ZE X e te) (ho : ZOp X (inplaceOp op) z) (hf : X.fn x = true ∨ X.env.scope.names.lookup x = some .local := by first | exact .inl rfl | exact .inr rfl | assumption) :
    ZS X (.AugAssign (.Name x pos') op e pos) (zAug i te z) := PSi (ps_aug (ti := upR2 X.K z) hN hi hx he (fun pins s σ H x y v u Q I r1 r2 h => ho pins s σ H x y v u Q I r1 r2 h) hf) fun D σ H q => by
  obtain ⟨ρ, G, Z, hs, hg, h, k1, _⟩ := q
  unfold zAug at h
  split at h
  · rename_i d ed
    obtain ⟨v, hv, rv⟩ := hs.2 i d ed
    exact ⟨v, hv, ρ, G, _, hs, hg, h, fun y G1 u H1 h1 f1 g1 r1 => ⟨d, y, G1, _, g1, rv.mono (hg.tm f1), r1, h1, fun w G2 u2 H2 h2 f2 g2 r2 => k1 _ G2 _ H2 h2 (f1.trans f2) g2 ((hs.mono (hg.tm (f1.trans f2))).set r2)⟩⟩
  · cases h
theorem zi_add : ZOp X (inplaceOp .Add) (dI0 fun i j => .int (i + j)) := op_i0 iop_add fun _ _ _ => .int _
theorem zi_sub : ZOp X (inplaceOp .Sub) (dI0 fun i j => .int (i - j)) := op_i0 iop_sub fun _ _ _ => .int _
theorem zi_div : ZOp X (inplaceOp .FloorDiv) (dI CDiv fun i j => .int (i / j)) := op_iC iop_fdiv fun _ _ _ => .int _

/-! ### list + list -/
def dCat : Z2 := fun d e G Q => match d, e with
  | .ref a, .ref b => (match G a, G b with
    | some (.lst xs), some (.lst ys) => xs.length + ys.length ≤ sizeLine ∧ ∀ p G', G p = none → At G p (.lst (xs ++ ys)) G' → Q (.ref p) G'
    | _, _ => False)
  | _, _ => False
theorem zo_cat : ZOp X (binaryOp .Add) dCat := OpRi op_cat fun x y H Q q => by
  obtain ⟨d, e, G, Q0, g, rx, ry, h, k⟩ := q
  unfold dCat at h
  split at h
  · split at h
    · rename_i xs ys e1 e2
      cases rx
      cases ry
      obtain ⟨us, hu, ru⟩ := g _ _ e1
      obtain ⟨ws, hw, rw'⟩ := g _ _ e2
      exact ⟨_, _, us, ws, rfl, rfl, hu, hw, by rw [ru.length, rw'.length]; exact h.1, fun p hp => CK.new (m := .lst (xs ++ ys)) k hp g ⟨_, upd_same, (ru.append rw').mono (tm_new hp)⟩ fun G' n at_ => h.2 p G' n at_⟩
    · cases h
  · cases h
def dCatS : Z2 := fun d e G Q => match d, e with
  | .str a, .str b => a.length + b.length ≤ sizeLine ∧ Q (.str (a ++ b)) G
  | _, _ => False
theorem zo_catS : ZOp X (binaryOp .Add) dCatS := OpRi op_add_str fun x y H Q q => by
  obtain ⟨d, e, G, Q0, g, rx, ry, h, k⟩ := q
  unfold dCatS at h
  split at h
  · cases rx
    cases ry
    exact ⟨_, _, rfl, rfl, h.1, CK.at k h.2 g (.str _)⟩
  · cases h
/-- t + u, tuples -/
def dCatT : Z2 := fun d e G Q => match d, e with
  | .tup a, .tup b => a ≠ [] ∧ a.length + b.length ≤ sizeLine ∧ Q (.tup (a ++ b)) G
  | .tup a, .ct b => a ≠ [] ∧ a.length + b.length ≤ sizeLine ∧ Q (.tup (a ++ b)) G
  | _, _ => False
theorem zo_catT : ZOp X (binaryOp .Add) dCatT := OpRi op_catT fun x y H Q q => by
  obtain ⟨d, e, G, Q0, g, rx, ry, h, k⟩ := q
  have go : ∀ {a b : Addr} {xs ys : List V} {ds es : List D}, TqT X.K H a xs → SqT X.K H b ys → Reps X.K H xs ds → Reps X.K H ys es → ds ≠ [] ∧ ds.length + es.length ≤ sizeLine ∧ Q0 (.tup (ds ++ es)) G → rCatT X.K (.ref a) (.ref b) H Q := by
    intro a b xs ys ds es ha hb ra rb h
    refine ⟨a, b, xs, ys, rfl, rfl, ha.sq, hb, ?_, by rw [ra.length, rb.length]; exact h.2.1, fun e => ?_, fun _ p hp => CK.tup k hp h.2.2 g (ra.append rb)⟩
    · rintro rfl
      cases ra
      exact h.1 rfl
    · subst e
      cases rb
      have q := h.2.2
      rw [List.append_nil] at q
      exact CK.at k q g (.tup ha ra)
  unfold dCatT at h
  split at h
  · cases rx with
    | tup ha ra =>
      cases ry with
      | tup hb rb => exact go ha hb.sq ra rb h
  · cases rx with
    | tup ha ra =>
      cases ry with
      | ct hb rb => exact go ha hb.sq ra rb h
  · cases h
end
end Z

namespace Z
open PySem PySem.Spec PyProof.Rows L2
variable [τ : Tbl] [β : Bas]

/-! ### attributes as pairs -/
def putA (f : Str) (v : D) : List (Str × D) → List (Str × D)
  | [] => [(f, v)]
  | (g, x) :: r => if g = f then (g, v) :: r else (g, x) :: putA f v r
theorem RepKV.lookup {K : PySem.W.Frag} {H : Hp} (f : Str) : ∀ {ds : List (Str × D)} {vs : List (Str × V)}, RepKV K H vs ds → RepO' K H (vs.lookup f) (ds.lookup f)
  | [], _, .nil => True.intro
  | _ :: _, _, .cons (k := k) h r => by
    rw [List.lookup_cons, List.lookup_cons]
    cases e : f == k with
    | true => exact h
    | false => exact r.lookup f
theorem RepKV.putA {K : PySem.W.Frag} {H : Hp} {f : Str} {v : V} {d : D} (rv : Rep K H v d) : ∀ {ds : List (Str × D)} {vs : List (Str × V)}, RepKV K H vs ds → RepKV K H (putF f v vs) (putA f d ds)
  | [], _, .nil => .cons rv .nil
  | _ :: _, _, .cons (k := k) h r => by
    unfold putF Z.putA
    by_cases e : k = f
    · rw [if_pos e, if_pos e]
      exact .cons rv r
    · rw [if_neg e, if_neg e]
      exact .cons h (r.putA rv)

section
variable {X : Cx} {C : Addr} {o e value : Expr} {f m : Str} {pos pos' tpos apos p : Pos} {to tv : DE} {es : List Expr} {tA : DA}
/-- o.f -/
def zFld (C : Addr) (to : DE) (f : Str) : DE := fun ρ G Q => to ρ G fun d G1 => match d with
  | .ref a => (match G1 a with
    | some (.obj C' _ fs) => C' = C ∧ (match fs.lookup f with
      | some x => Q x G1
      | none => False)
    | _ => False)
  | _ => False
theorem z_fld (c : Cls X.K C) (n : NoAttr X.K C f) (ho : ZE X o to) (hb : attributeBase o f X.env (eval o X.env) = eval o X.env := by rfl) : ZE X (.Attribute o f pos) (zFld C to f) := PEi (pe_fld ho hb) fun σ H Q q => by
  obtain ⟨ρ, G, Q0, hs, hg, h, k⟩ := q
  refine ⟨ρ, G, _, hs, hg, h, fun d G1 x H1 h1 f1 g1 r1 => ?_⟩
  cases r1 with
  | ref a =>
    simp only at h1
    split at h1
    · rename_i C' dx fs ea
      obtain ⟨rfl, h1⟩ := h1
      split at h1
      · rename_i d ed
        obtain ⟨xs, hx, rx⟩ := g1 a _ ea
        have rl := rx.lookup f
        rw [ed] at rl
        cases el : xs.lookup f with
        | none => rw [el] at rl; exact rl.elim
        | some v =>
          rw [el] at rl
          exact ⟨a, _, _, xs, v, rfl, hx, c, n, el, k d G1 v H1 h1 f1 g1 rl⟩
      · cases h1
    · cases h1
  | _ => exact False.elim h1
/-- o.f = e -/
def zSFld (C : Addr) (to tv : DE) (f : Str) : DS := fun Z ρ G => tv ρ G fun y G1 => to ρ G1 fun x G2 => match x with
  | .ref a => (match G2 a with
    | some (.obj C' dx fs) => C' = C ∧ fs.length < 1000 ∧ ∀ G3, At G2 a (.obj C dx (putA f y fs)) G3 → Z.nx ρ G3
    | _ => False)
  | _ => False
theorem z_sfld (c : Cls X.K C) (n : NoAttr X.K C f) (ho : ZE X o to) (hv : ZE X value tv) (hs : swapsWith value (some (.Attribute o f pos')) pos.line X.env = pure false := by rfl) : ZS X (.Assign [.Attribute o f pos'] value pos) (zSFld C to tv f) := PSi (ps_fld ho hv hs) fun D σ H q => by
  obtain ⟨ρ, G, Z, hs, hg, h, k1, _⟩ := q
  refine ⟨ρ, G, _, hs, hg, h, fun y G1 v H1 h1 f1 g1 r1 => ⟨ρ, G1, _, hs.mono (hg.tm f1), g1, h1, fun x G2 u H2 h2 f2 g2 r2 => ?_⟩⟩
  cases r2 with
  | ref a =>
    simp only at h2
    split at h2
    · rename_i C' dx fs ea
      obtain ⟨rfl, hl, h2⟩ := h2
      obtain ⟨xs, hx, rx⟩ := g2 a _ ea
      have t := tm_set (o := .ins C' dx (putF f v xs)) hx fun z => z
      exact ⟨a, _, dx, xs, rfl, hx, c, n, by rw [rx.len]; exact hl, k1 ρ (put G2 a (.obj C' dx (putA f y fs))) σ _ (h2 _ (At.put _ _ _)) ((f1.trans f2).trans (Fr.put (.inr ⟨_, ea⟩))) (g2.put (.inr ⟨_, ea⟩) t ⟨_, upd_same, (rx.putA (r1.mono (g1.tm f2))).mono t⟩) ((hs.mono (hg.tm (f1.trans f2))).mono t)⟩
    · cases h2
  | _ => exact False.elim h2
/-- o.f op= e -/
def zFldAug (C : Addr) (to tv : DE) (z : Z2) (f : Str) : DS := fun Z ρ G => to ρ G fun x G1 => match x with
  | .ref a => (match G1 a with
    | some (.obj C' _ fs) => C' = C ∧ (match fs.lookup f with
      | some d => tv ρ G1 fun y G2 => z d y G2 fun w G3 => (match G3 a with
        | some (.obj C2 dx fs') => C2 = C ∧ fs'.length < 1000 ∧ ∀ G4, At G3 a (.obj C dx (putA f w fs')) G4 → Z.nx ρ G4
        | _ => False)
      | none => False)
    | _ => False)
  | _ => False
theorem z_fldaug {op : Operator} {z : Z2} (c : Cls X.K C) (n : NoAttr X.K C f) (ho : ZE X o to) (hv : ZE X value tv) (hop : ZOp X (inplaceOp op) z) : ZS X (.AugAssign (.Attribute o f tpos) op value pos) (zFldAug C to tv z f) := PSi (ps_fldaug (rd := upR2 X.K z) ho hv (fun pins s σ H x y u v Q I rx ry q => hop pins s σ H x y u v Q I rx ry q)) fun D σ H q => by
  obtain ⟨ρ, G, Z, hs, hg, h, k1, _⟩ := q
  refine ⟨ρ, G, _, hs, hg, h, fun x G1 u H1 h1 f1 g1 r1 => ?_⟩
  cases r1 with
  | ref a =>
    simp only at h1
    split at h1
    · rename_i C' dx fs ea
      obtain ⟨rfl, h1⟩ := h1
      split at h1
      · rename_i d ed
        obtain ⟨xs, hx, rx⟩ := g1 a _ ea
        have rl := rx.lookup f
        rw [ed] at rl
        cases el : xs.lookup f with
        | none => rw [el] at rl; exact rl.elim
        | some v =>
          rw [el] at rl
          refine ⟨a, _, _, xs, v, rfl, hx, c, n, el, ρ, G1, _, hs.mono (hg.tm f1), g1, h1, fun y G2 w H2 h2 f2 g2 r2 => ⟨d, y, G2, _, g2, rl.mono (g1.tm f2), r2, h2, fun w' G3 u3 H3 h3 f3 g3 r3 => ?_⟩⟩
          split at h3
          · rename_i C2 dx2 fs2 ea2
            obtain ⟨rfl, hl, h3⟩ := h3
            obtain ⟨xs2, hx2, rx2⟩ := g3 a _ ea2
            have t := tm_set (o := .ins C2 dx2 (putF f u3 xs2)) hx2 fun z => z
            have ff := f1.trans (f2.trans f3)
            exact ⟨dx2, xs2, hx2, by rw [rx2.len]; exact hl, k1 ρ (put G3 a (.obj C2 dx2 (putA f w' fs2))) σ _ (h3 _ (At.put _ _ _)) (ff.trans (Fr.put (.inr ⟨_, ea2⟩))) (g3.put (.inr ⟨_, ea2⟩) t ⟨_, upd_same, (rx2.putA r3).mono t⟩) ((hs.mono (hg.tm ff)).mono t)⟩
          · cases h3
      · cases h1
    · cases h1
  | _ => exact False.elim h1
/-- C(e, ..) -/
def zMake (C : Addr) (z : ZSp) (E0 : XKz) (t : DA) : DE := fun ρ G Q => t ρ G fun ds G1 => ∀ x dx G2, G1 x = none → At G1 x (.obj C dx []) G2 → z (.ref x :: ds) G2 (fun d G3 => d = .non ∧ Q (.ref x) G3) E0
theorem z_make {k : Nat} {g : Addr} {fd : FuncData} {ps : List Str} {z : ZSp} {x : Str} {E0 : XKz} {E : XK} (M : Mk X.K C g) (F : FnOk X.prog X.w X.K X.mg X.base (L2.CX X.prog X.w) k g fd ps (upSp X.K z)) (hr : Room (k + 1) X.A) (hg : Gl X x) (hm : X.mg x = some (.ref C)) (hb : Binds X.K fd ps [])
    (hE : EOk X.K E0 E) (hx : Passes (L2.CX X.prog X.w) X E) (ha : ZA X (e :: es) tA) (hdb : (x == ("__debug__" : Str)) = false := by decide) (he : starEach (e :: es) X.env = (false, eval e X.env) :: starEach es X.env := by rfl) (hpl : (backTo pos (starEach es X.env)).any (·.1) = false := by rfl) :
    ZE X (.Call (.Name x p) (e :: es) [] pos) (zMake C z E0 tA) := PEi (pe_make M F hr hg hm hb .nil hx ha hdb he hpl) fun σ H Q q => by
  obtain ⟨ρ, G, Q0, hs, hg, h, k⟩ := q
  refine ⟨ρ, G, _, hs, hg, h, fun ds G1 xs H1 h1 f1 g1 r1 x dx hx hdx ne => ?_⟩
  have ga := g1.keep (o := .own x) hdx
  have fa := Fr.tup (G := G1) (o := .own x) hdx
  have hx' : upd H1 dx (.own x) x = none := by rw [upd_ne (Ne.symm ne)]; exact hx
  have tb := tm_new (o := .ins C dx []) hx'
  have gb := ga.put (m := .obj C dx []) (.inl hx') tb ⟨[], upd_same, .nil⟩
  have fb := fa.trans (Fr.put (G := G1) (o := .ins C dx []) (m := .obj C dx []) (.inl hx'))
  have r2 := (r1.mono (g1.tm fa)).mono tb
  refine ⟨.ref x :: ds, put G1 x (.obj C dx []), _, E0, gb.toSim0, by rw [List.append_nil]; exact .cons (.ref x) r2, h1 x dx _ (g1.none hx) (At.put _ _ _), fun d G' v H' q f g r => ?_, fun c G' dx' H' q f g => hE c G' dx' H' q (gb.next f g)⟩
  obtain ⟨rfl, q⟩ := q
  cases r
  exact ⟨rfl, k _ G' _ H' q (f1.trans (fb.trans f)) (gb.next f g) (.ref x)⟩
theorem z_make0 {k : Nat} {g : Addr} {fd : FuncData} {ps : List Str} {z : ZSp} {x : Str} {E0 : XKz} {E : XK} (M : Mk X.K C g) (F : FnOk X.prog X.w X.K X.mg X.base (L2.CX X.prog X.w) k g fd ps (upSp X.K z)) (hr : Room (k + 1) X.A) (hg : Gl X x) (hm : X.mg x = some (.ref C)) (hb : Binds X.K fd ps [])
    (hE : EOk X.K E0 E) (hx : Passes (L2.CX X.prog X.w) X E) (hdb : (x == ("__debug__" : Str)) = false := by decide) : ZE X (.Call (.Name x p) [] [] pos) (zMake C z E0 zNil) := PEi (pe_make0 M F hr hg hm hb .nil hx hdb) fun σ H Q q => by
  obtain ⟨ρ, G, Q0, hs, hg, h, k⟩ := q
  intro x dx hx hdx ne
  have ga := hg.keep (o := .own x) hdx
  have fa := Fr.tup (G := G) (o := .own x) hdx
  have hx' : upd H dx (.own x) x = none := by rw [upd_ne (Ne.symm ne)]; exact hx
  have tb := tm_new (o := .ins C dx []) hx'
  have gb := ga.put (m := .obj C dx []) (.inl hx') tb ⟨[], upd_same, .nil⟩
  have fb := fa.trans (Fr.put (G := G) (o := .ins C dx []) (m := .obj C dx []) (.inl hx'))
  refine ⟨[.ref x], put G x (.obj C dx []), _, E0, gb.toSim0, .cons (.ref x) .nil, h x dx _ (hg.none hx) (At.put _ _ _), fun d G' v H' q f g r => ?_, fun c G' dx' H' q f g => hE c G' dx' H' q (gb.next f g)⟩
  obtain ⟨rfl, q⟩ := q
  cases r
  exact ⟨rfl, k _ G' _ H' q (fb.trans f) (gb.next f g) (.ref x)⟩
/-- o.m(e, ..) -/
def zMeth (C : Addr) (m : Str) (z : ZSp) (E0 : XKz) (to : DE) (t : DA) : DE := fun ρ G Q => to ρ G fun d G1 => match d with
  | .ref a => (match G1 a with
    | some (.obj C' _ fs) => C' = C ∧ fs.lookup m = none ∧ t ρ G1 fun ds G2 => z (.ref a :: ds) G2 Q E0
    | _ => False)
  | _ => False
theorem up_meth {K : PySem.W.Frag} {C : Addr} {m : Str} {z : ZSp} {E0 : XKz} {E : XK} {to : DE} {t : DA} (hE : EOk K E0 E) {σ : L2.St} {H : Hp} {Q : VK} (q : upE K (zMeth C m z E0 to t) σ H Q) : tMeth C m (upSp K z) [] E (upE K to) (upA K t) σ H Q := by
  obtain ⟨ρ, G, Q0, hs, hg, h, k⟩ := q
  refine ⟨ρ, G, _, hs, hg, h, fun d G1 x H1 h1 f1 g1 r1 => ?_⟩
  cases r1 with
  | ref a =>
    simp only at h1
    split at h1
    · rename_i C' dx fs ea
      obtain ⟨rfl, hn, h1⟩ := h1
      obtain ⟨xs, hx, rx⟩ := g1 a _ ea
      have rl := rx.lookup m
      rw [hn] at rl
      have el : xs.lookup m = none := by
        cases el : xs.lookup m with
        | none => rfl
        | some v => rw [el] at rl; exact rl.elim
      exact ⟨a, dx, xs, rfl, hx, el, ρ, G1, _, hs.mono (hg.tm f1), g1, h1, fun ds G2 vs H2 h2 f2 g2 r2 => ⟨.ref a :: ds, G2, Q0, E0, g2.toSim0, by rw [List.append_nil]; exact .cons (.ref a) r2, h2, fun d G' v H' q f g r => k d G' v H' q (f1.trans (f2.trans f)) (g2.next f g) r, fun c G' dx H' q f g => hE c G' dx H' q (g2.next f g)⟩⟩
    · cases h1
  | _ => exact False.elim h1
theorem z_meth {k : Nat} {g : Addr} {fd : FuncData} {ps : List Str} {z : ZSp} {pl : Sem Bool} {E0 : XKz} {E : XK} (c : Cls X.K C) (hm : Meth X.K C m g) (F : FnOk X.prog X.w X.K X.mg X.base (L2.CX X.prog X.w) k g fd ps (upSp X.K z)) (hr : Room k X.A) (hb : Binds X.K fd ps [])
    (hE : EOk X.K E0 E) (hx : Passes (L2.CX X.prog X.w) X E) (ho : ZE X o to) (ha : ZA X (e :: es) tA)
    (hst : starEach (e :: es) X.env = (false, eval e X.env) :: starEach es X.env := by rfl) (hpl : (backTo pos (starEach es X.env)).any (·.1) = false := by rfl)
    (ht : eval (.Call (.Attribute o m apos) (e :: es) [] pos) X.env = (do
      let ov ← eval o X.env
      standAt apos.atName
      let (f, first) ← holding [ov] (getMethod ov m pl)
      callWith pos f first (backTo pos (starEach (e :: es) X.env)) (backToKw pos (keywordEach [] X.env))) := by rfl) :
    ZE X (.Call (.Attribute o m apos) (e :: es) [] pos) (zMeth C m z E0 to tA) := PEi (pe_meth ho c hm F hr hb .nil hx ha hst hpl ht) fun _ _ _ q => up_meth hE q
theorem z_meth0 {k : Nat} {g : Addr} {fd : FuncData} {ps : List Str} {z : ZSp} {pl : Sem Bool} {E0 : XKz} {E : XK} (c : Cls X.K C) (hm : Meth X.K C m g) (F : FnOk X.prog X.w X.K X.mg X.base (L2.CX X.prog X.w) k g fd ps (upSp X.K z)) (hr : Room k X.A) (hb : Binds X.K fd ps [])
    (hE : EOk X.K E0 E) (hx : Passes (L2.CX X.prog X.w) X E) (ho : ZE X o to)
    (ht : eval (.Call (.Attribute o m apos) [] [] pos) X.env = (do
      let ov ← eval o X.env
      standAt apos.atName
      let (f, first) ← holding [ov] (getMethod ov m pl)
      callWith pos f first (backTo pos (starEach [] X.env)) (backToKw pos (keywordEach [] X.env))) := by rfl) :
    ZE X (.Call (.Attribute o m apos) [] [] pos) (zMeth C m z E0 to zNil) := PEi (pe_meth0 ho c hm F hr hb .nil hx ht) fun σ H Q q => by
  obtain ⟨ρ, G, Q0, hs, hg, h, k⟩ := q
  refine ⟨ρ, G, _, hs, hg, h, fun d G1 x H1 h1 f1 g1 r1 => ?_⟩
  cases r1 with
  | ref a =>
    simp only at h1
    split at h1
    · rename_i C' dx fs ea
      obtain ⟨rfl, hn, h1⟩ := h1
      obtain ⟨xs, hx, rx⟩ := g1 a _ ea
      have rl := rx.lookup m
      rw [hn] at rl
      have el : xs.lookup m = none := by
        cases el : xs.lookup m with
        | none => rfl
        | some v => rw [el] at rl; exact rl.elim
      exact ⟨a, dx, xs, rfl, hx, el, [.ref a], G1, Q0, E0, g1.toSim0, .cons (.ref a) .nil, h1, fun d G' v H' q f g r => k d G' v H' q (f1.trans f) (g1.next f g) r, fun c G' dx H' q f g => hE c G' dx H' q (g1.next f g)⟩
    · cases h1
  | _ => exact False.elim h1

/-! ### raise, f-strings -/
def zRaise (C : Addr) (E0 : XKz) : DS := fun _ _ G => E0 (.ref C) G
def zRaise1 (C : Addr) (E0 : XKz) (te : DE) : DS := fun _ ρ G => te ρ G fun _ G1 => E0 (.ref C) G1
theorem z_raise1 {B newId initId : String} {bmB : List Value} {x : Str} {p2 : Pos} {te : DE} {E0 : XKz} {E : XK} (F : ExcBaseFacts B newId initId bmB) (q : PySem.W.excIn X.K C bmB newId = true) (gC : X.mg x = some (.ref C)) (kC : PySem.W.keepIn X.K (.ref C) = true) (r : Raises X (.ref C)) (hg : Gl X x)
    (hc : X.calm = true) (tk : Takes X (fun cls d _ H => E cls d H)) (hE : EOk X.K E0 E) (he : ZE X e te) (hs : starEach [e] X.env = (false, eval e X.env) :: starEach [] X.env := by rfl) (hdb : (x == ("__debug__" : Str)) = false := by decide) :
    ZS X (.Raise (some (.Call (.Name x p) [e] [] p2)) none pos) (zRaise1 C E0 te) := PSi (ps_raise hc tk (SkE.pmk_own1 F q gC kC r hg he hs hdb)) fun D σ H q => by
  obtain ⟨ρ, G, Z, hs, hg, h, _⟩ := q
  exact ⟨ρ, G, _, hs, hg, h, fun d G1 x H1 h1 f1 g1 r1 => hE _ _ _ _ h1 g1⟩
/-- a statement that is never reached -/
def zNever : DS := fun _ _ _ => False
theorem z_never {st : Stmt} : ZS X st zNever := PSi (t := L2.tNever) ps_never fun D σ H q => by
  obtain ⟨ρ, G, Z, hs, hg, h, _⟩ := q
  exact h.elim
def zFmt (te : DE) : DE := fun ρ G Q => te ρ G fun d G1 => match d with
  | .str y => y.length ≤ sizeLine ∧ Q (.str y) G1
  | .int i => i.natAbs.log2 < 1920 ∧ Q (.str (toString i)) G1
  | _ => False
theorem z_fmt {te : DE} (he : ZE X e te) : ZE X (.FormattedValue e (-1) none pos) (zFmt te) := PEi (pe_fmt he) fun σ H Q q => by
  obtain ⟨ρ, G, Q0, hs, hg, h, k⟩ := q
  refine ⟨ρ, G, _, hs, hg, h, fun d G1 x H1 h1 f1 g1 r1 => ?_⟩
  cases r1 with
  | str y => exact .inl ⟨y, rfl, h1.1, k _ G1 _ H1 h1.2 f1 g1 (.str _)⟩
  | int i => exact .inr ⟨i, rfl, h1.1, k _ G1 _ H1 h1.2 f1 g1 (.str _)⟩
  | _ => exact False.elim h1
inductive ZJ (X : Cx) : List Expr → List DE → Prop where
  | nil : ZJ X [] []
  | cons {e : Expr} {t : DE} {es : List Expr} {ts : List DE} (h : ZE X e t) (r : ZJ X es ts) : ZJ X (e :: es) (t :: ts)
def zJs : List DE → Str → ZSt → Gp → (Str → Gp → Prop) → Prop
  | [], acc, _, G, Q => Q acc G
  | t :: ts, acc, ρ, G, Q => t ρ G fun d G1 => match d with
    | .str y => (acc ++ y).length ≤ sizeLine ∧ zJs ts (acc ++ y) ρ G1 Q
    | _ => False
theorem zj_pj {es : List Expr} {ts : List DE} (h : ZJ X es ts) : PJ X es (ts.map (upE X.K)) := by
  induction h with
  | nil => exact .nil
  | cons h _ ih => exact .cons h ih
theorem up_js {K : PySem.W.Frag} : ∀ {ts : List DE} {acc : Str} {σ : L2.St} {ρ : ZSt} {H : Hp} {G : Gp} {Q0 : Str → Gp → Prop} {Q : Str → Hp → Prop}, SimS K H σ ρ → SimG K H G → zJs ts acc ρ G Q0 → (∀ y G' H', Q0 y G' → Fr H G H' G' → SimG K H' G' → Q y H') → tJs (ts.map (upE K)) acc σ H Q
  | [], _, _, _, _, _, _, _, _, hg, h, k => k _ _ _ h (Fr.refl _ _) hg
  | t :: ts, acc, σ, ρ, H, G, Q0, Q, hs, hg, h, k => ⟨ρ, G, _, hs, hg, h, fun d G1 x H1 h1 f1 g1 r1 => by
      cases r1 with
      | str y => exact ⟨y, rfl, h1.1, up_js (hs.mono (hg.tm f1)) g1 h1.2 fun y G' H' q f g => k y G' H' q (f1.trans f) g⟩
      | _ => exact False.elim h1⟩
def zJoin (ts : List DE) : DE := fun ρ G Q => zJs ts Str.empty ρ G fun y G1 => Q (.str y) G1
theorem z_joined {v1 v2 : Expr} {rest : List Expr} {ts : List DE} (h : ZJ X (v1 :: v2 :: rest) ts) : ZE X (.JoinedStr (v1 :: v2 :: rest) pos) (zJoin ts) := PEi (pe_joined (zj_pj h)) fun σ H Q q => by
  obtain ⟨ρ, G, Q0, hs, hg, h, k⟩ := q
  exact up_js hs hg h fun y G' H' q f g => k _ G' _ H' q f g (.str _)
end

/-! ### a def's promise by its body -/
def zstart (N : List Str) (ds : List D) : ZSt := ds.map some ++ List.replicate (N.length - ds.length) none
theorem sims_start {K : PySem.W.Frag} {H : Hp} {N : List Str} {vs : List V} {ds : List D} (r : Reps K H vs ds) : SimS K H (L2.start N vs) (zstart N ds) := by
  unfold L2.start zstart
  refine ⟨by simp [r.length], fun i d e => ?_⟩
  by_cases hi : i < ds.length
  · rw [List.getElem?_append_left (by simpa using hi), List.getElem?_map] at e
    cases q : ds[i]? with
    | none => rw [q] at e; cases e
    | some d' =>
      rw [q] at e
      cases e
      obtain ⟨v, hv, rv⟩ := r.get q
      exact ⟨v, by rw [List.getElem?_append_left (by rw [List.length_map, r.length]; exact hi), List.getElem?_map, hv]; rfl, rv⟩
  · rw [List.getElem?_append_right (by simp; omega)] at e
    have := List.mem_of_getElem? e
    rw [List.mem_replicate] at this
    cases this.2
end Z
namespace Z
open PySem PySem.Spec PyProof.Rows L2
variable [τ : Tbl]
section
variable {P : Program} {w : World} {K : PySem.W.Frag} {mg : Str → Option Value} {base : Heap}
theorem z_fn {x qual : Str} {st : Stmt} {f : Addr} {fd : FuncData} {N ps : List Str} {k : Nat} {z : ZSp} (F : Fun K x qual st f fd) (S : FnScope N ps (defScope st)) (len : ∀ ds G Q E, z ds G Q E → ds.length = ps.length)
    (hbody : ∀ (bas : Bas) (cdv : Value) (A : Around) (outer : List Env) (s : Shared) (H : Hp) (E : XK), Room k (A.deeper (envOfC qual (defScope st) s.heap.objs.size f cdv)) → ∀ (ds : List D) (G : Gp) (Q : DK) (E0 : XKz), @EOk τ bas K E0 E → z ds G Q E0 →
      ∃ t, @ZSs τ bas (cxOf (L2.CX P w) P w K mg base N qual (defScope st) f cdv A outer s H E) (defBody st) t ∧ t { nx := fun _ G' => Q .non G', rt := Q } (zstart N ds) G) : FnOk P w K mg base (L2.CX P w) (k + 1) f fd ps (upSp K z) := by
  refine F.okX S (fun vs H Q E h => ?_) (fun cdv A outer s H vs Q E hr h => ?_)
  · obtain ⟨ds, G, Q0, E0, _, r, hz, _⟩ := h
    rw [r.length]
    exact len _ _ _ _ hz
  · obtain ⟨ds, G, Q0, E0, g, r, hz, k1, k2⟩ := h
    obtain ⟨t, ht, hq⟩ := hbody (frBas H G) cdv A outer s H E hr ds G Q0 E0 (fun c G' dx H' e g' => k2 c G' dx H' e (@SimG.base τ (frBas H G) _ _ _ g') (@SimG.toSim0 τ (frBas H G) _ _ _ g')) hz
    letI : Bas := frBas H G
    exact ⟨_, ht, zstart N ds, G, _, sims_start r, ⟨g, Fr.refl H G⟩, hq, fun ρ' G' σ' H' q f g' s' => k1 .non G' .non H' q f g'.toSim0 .non, fun d G' v H' q f g' r => k1 d G' v H' q f g'.toSim0 r, fun _ _ _ _ q => q.elim, fun _ _ _ _ q => q.elim⟩
end
end Z

namespace Z
open PySem PySem.Spec PyProof.Rows L2
variable [τ : Tbl] [β : Bas]

/-! ### names of the module's top -/
section
variable {X : Cx} {pos : Pos}
theorem up_glob {v : V} {d : D} {x : Str} {u : Value} (hg : Gl X x) (hm : X.mg x = some u) (r : RelV v u) (rd : ∀ H, Rep X.K H v d) (hd : (x == ("__debug__" : Str)) = false := by decide) : ZE X (.Name x pos) (zC d) := up_c (pe_glob hg hm r hd) rd
theorem z_gint {x : Str} {i : Int} (hg : Gl X x) (hm : ∃ t, X.mg x = some (.int i t)) (hd : (x == ("__debug__" : Str)) = false := by decide) : ZE X (.Name x pos) (zC (.int i)) := by
  obtain ⟨t, hm⟩ := hm
  exact up_glob (v := .int i) hg hm ⟨t, rfl⟩ (fun _ => .int _) hd
theorem z_gstr {x y : Str} (hg : Gl X x) (hm : ∃ t, X.mg x = some (.str y t)) (hd : (x == ("__debug__" : Str)) = false := by decide) : ZE X (.Name x pos) (zC (.str y)) := by
  obtain ⟨t, hm⟩ := hm
  exact up_glob (v := .str y) hg hm ⟨t, rfl⟩ (fun _ => .str _) hd
/-- a written tuple at the top -/
theorem z_gct {x : Str} {a : Addr} {xs : List V} {ds : List D} (hg : Gl X x) (hm : X.mg x = some (.ref a)) (hq : CqT X.K a xs) (hr : ∀ H, Reps X.K H xs ds) (hd : (x == ("__debug__" : Str)) = false := by decide) : ZE X (.Name x pos) (zC (.ct ds)) :=
  up_glob (v := .ref a) hg hm rfl (fun H => .ct hq (hr H)) hd
end
theorem reps_strs {K : PySem.W.Frag} {H : Hp} : ∀ ys : List Str, Reps K H (ys.map V.str) (ys.map D.str)
  | [] => .nil
  | y :: r => .cons (.str y) (reps_strs r)
theorem Reps.of_strs {K : PySem.W.Frag} {H : Hp} : ∀ {ys : List Str} {vs : List V}, Reps K H vs (ys.map D.str) → vs = ys.map V.str
  | [], _, .nil => rfl
  | _ :: _, _, .cons (.str _) r => by rw [List.map_cons, Reps.of_strs r]

/-! ### plain comparisons -/
def dEqF (neg : Bool) : Z2 := fun d e G Q => match d, e with
  | .int i, .int j => Q (.bl (neg != decide (i = j))) G
  | .str i, .str j => Q (.bl (neg != decide (i = j))) G
  | .bl i, .bl j => Q (.bl (neg != decide (i = j))) G
  | _, _ => False
section
variable {X : Cx}
theorem dec_inj {α : Type} [DecidableEq α] {c : α → V} (h : ∀ a b, c a = c b → a = b) (a b : α) : decide (c a = c b) = decide (a = b) := decide_eq_decide.mpr ⟨h a b, fun e => by rw [e]⟩
theorem zo_eqF : ZOp X (compareOp .Eq) (dEqF false) := OpRi op_eq fun x y H Q q => by
  obtain ⟨d, e, G, Q0, sg, rx, ry, h, k⟩ := q
  unfold dEqF at h
  split at h
  · cases rx; cases ry
    refine ⟨rfl, ?_⟩
    rw [dec_inj (c := V.int) (fun a b e => V.int.inj e)]
    exact CK.at k h sg (by simpa using Rep.bl _)
  · cases rx; cases ry
    refine ⟨rfl, ?_⟩
    rw [dec_inj (c := V.str) (fun a b e => V.str.inj e)]
    exact CK.at k h sg (by simpa using Rep.bl _)
  · cases rx; cases ry
    refine ⟨rfl, ?_⟩
    rw [dec_inj (c := V.bl) (fun a b e => V.bl.inj e)]
    exact CK.at k h sg (by simpa using Rep.bl _)
  · cases h
theorem zo_neF : ZOp X (compareOp .NotEq) (dEqF true) := OpRi op_ne fun x y H Q q => by
  obtain ⟨d, e, G, Q0, sg, rx, ry, h, k⟩ := q
  unfold dEqF at h
  split at h
  · cases rx; cases ry
    refine ⟨rfl, ?_⟩
    rw [dec_inj (c := V.int) (fun a b e => V.int.inj e)]
    exact CK.at k h sg (by simpa using Rep.bl _)
  · cases rx; cases ry
    refine ⟨rfl, ?_⟩
    rw [dec_inj (c := V.str) (fun a b e => V.str.inj e)]
    exact CK.at k h sg (by simpa using Rep.bl _)
  · cases rx; cases ry
    refine ⟨rfl, ?_⟩
    rw [dec_inj (c := V.bl) (fun a b e => V.bl.inj e)]
    exact CK.at k h sg (by simpa using Rep.bl _)
  · cases h
/-- one sign in a text -/
def dSign (neg : Bool) : Z2 := fun d e G Q => match d, e with
  | .str x, .str z => ∃ c, x = ⟨#[c]⟩ ∧ Q (.bl (neg != decide (c ∈ z.cps.toList))) G
  | _, _ => False
theorem zo_sign : ZOp X (compareOp .In) (dSign false) := OpRi op_in_sign fun x y H Q q => by
  obtain ⟨d, e, G, Q0, sg, rx, ry, h, k⟩ := q
  unfold dSign at h
  split at h
  · cases rx; cases ry
    obtain ⟨c, rfl, h⟩ := h
    exact ⟨c, _, rfl, rfl, CK.at k h sg (by simpa using Rep.bl _)⟩
  · cases h
theorem zo_notsign : ZOp X (compareOp .NotIn) (dSign true) := OpRi op_notIn_sign fun x y H Q q => by
  obtain ⟨d, e, G, Q0, sg, rx, ry, h, k⟩ := q
  unfold dSign at h
  split at h
  · cases rx; cases ry
    obtain ⟨c, rfl, h⟩ := h
    exact ⟨c, _, rfl, rfl, CK.at k h sg (by simpa using Rep.bl _)⟩
  · cases h
/-- a text, many times -/
def dRep : Z2 := fun d e G Q => match d, e with
  | .str x, .int n => (1 < n ∧ n < 1000 ∧ 0 < x.length ∧ x.length < 1000) ∧ Q (.str (Txt.mul x n)) G
  | _, _ => False
theorem mulOk {x : Str} {n : Int} (h : 1 < n ∧ n < 1000 ∧ 0 < x.length ∧ x.length < 1000) : MulOk x n := by
  obtain ⟨h1, h2, h3, h4⟩ := h
  refine ⟨?_, fun _ _ => ?_, fun _ _ => ?_⟩
  · rw [decide_eq_false (by omega), decide_eq_false (by omega)] <;> rfl
  · have e : (1000 : Int) ≤ (2 ^ 63 - 1) / n := by
      rw [Int.le_ediv_iff_mul_le (by omega)]
      omega
    omega
  · unfold Builtin.Str.tooLong
    have : x.length * n.toNat ≤ 1000 * 1000 := Nat.mul_le_mul (by omega) (by omega)
    have hs : (1000 * 1000 : Nat) ≤ sizeLine := by decide
    simp only [decide_eq_false_iff_not]
    omega
theorem zo_rep : ZOp X (binaryOp .Mult) dRep := by
  intro pins s σ H x y v u Q I rx ry q
  obtain ⟨d, e, G, Q0, sg, qx, qy, h, k⟩ := q
  unfold dRep at h
  split at h
  · cases qx; cases qy
    obtain ⟨t, rfl⟩ := rx
    obtain ⟨t', rfl⟩ := ry
    exact SB.mul (mulOk h.1) fun t9 tk => ⟨.str (Txt.mul _ _), H, I.tok _, ⟨_, rfl⟩, CK.at k h.2 sg (.str _)⟩
  · cases h
/-- str(n) -/
def fStrI : ZF := fun ds G Q => match ds with
  | [.int i] => i.natAbs.log2 < 1920 ∧ Q (.str (toString i)) G
  | _ => False
theorem zf_strI : ZCall X (.type "str") fStrI := CallRi call_str_int fun xs H Q q => by
  obtain ⟨ds, G, Q0, sg, rs, h, k⟩ := q
  unfold fStrI at h
  split at h
  · cases rs with
    | cons r rs =>
      cases rs
      cases r
      exact ⟨_, rfl, h.1, CK.at k h.2 sg (.str _)⟩
  · cases h
/-- int(text) -/
def fIntS : ZF := fun ds G Q => match ds with
  | [.str a] => a.length ≤ 640 ∧ ∃ n, PySem.intText? a = some n ∧ Q (.int n) G
  | _ => False
theorem zf_intS : ZCall X (.type "int") fIntS := CallRi call_int_str fun xs H Q q => by
  obtain ⟨ds, G, Q0, sg, rs, h, k⟩ := q
  unfold fIntS at h
  split at h
  · cases rs with
    | cons r rs =>
      cases rs
      cases r
      obtain ⟨h1, n, h2, h3⟩ := h
      exact ⟨_, n, rfl, h2, h1, CK.at k h3 sg (.int _)⟩
  · cases h
/-- sep.join(list of texts) -/
def mJoin : ZM := fun d ds G Q => match d, ds with
  | .str a, [.ref p] => ∃ ys : List Str, G p = some (.lst (ys.map D.str)) ∧ (ys.map (·.length)).sum + ys.length * a.length ≤ 16777216 ∧ Q (.str (Txt.join a ys)) G
  | _, _ => False
theorem zm_join : ZMt X "str.join" mJoin := MtRi mt_join fun x xs H Q q => by
  obtain ⟨d, ds, G, Q0, sg, rx, rs, h, k⟩ := q
  unfold mJoin at h
  split at h
  · cases rx
    cases rs with
    | cons r rs =>
      cases rs
      cases r
      obtain ⟨ys, hG, h1, h2⟩ := h
      obtain ⟨vs, hv, rv⟩ := sg _ _ hG
      have := rv.of_strs
      subst this
      exact ⟨_, _, ys, rfl, rfl, .inl (SqL.of hv), h1, CK.at k h2 sg (.str _)⟩
  · cases h
end
end Z

namespace Z
open PySem PySem.Spec PyProof.Rows L2
open GxR (TabB GenS trF trF_some)
open LamX (Tabs TabS ExtN CodeO)

/-! ### all(test for x in text), the test over what the module's top has written -/
def EltK (X : Cx) (scope : Scope) (x : Str) (elt : Expr) (pb : Nat → Bool) : Prop :=
  ∀ (ce : Env) (B : Around) (Ex : Value → Shared → Prop) (c : Nat) (t : Tok) (z : Shared) (m : Str → Option Value), ce.scope = scope → ce.globals = mainGlobals → X.K.In z.heap → z.heap.Ns mainGlobals X.mg → z.heap.Ns ce.locals m → m x = some (.str ⟨#[c]⟩ t) →
    wpAny (model X.prog X.w) B (eval elt ce) (fun y z' => y = .bool (pb c) ∧ Keeps z z') Ex z
theorem not_old {n : Nat} {b : Addr} {h : Heap} {o : Obj} (e : h.get? b = some o) (hn : h.objs.size ≤ n) : b ≠ n := fun z => by
  have := Heap.lt_size e
  subst z
  exact absurd this (Nat.not_lt.mpr hn)
/-- where the generator stands once its code is found: the heap y3, in it the iterator at it0; G3: y3 without that -/
structure Mid (X : Cx) (pins : List (Addr × Obj)) (σ : L2.St) (H3 : Hp) (P it0 : Addr) (ps : Array Value) (s1 : Shared) (y3 : Heap) (tq : Nat) (G3 : Heap) : Prop where
  inv : Inv X pins σ H3 { s1 with heap := G3, toks := tq }
  sub : ∀ b o, G3.get? b = some o → y3.get? b = some o ∧ b ≠ it0
  hP : H3 P = some (.tbl ps)
  lt : it0 < y3.objs.size
/-- the generator g over the signs of a, to be walked from s5 -/
def ReadyT (X : Cx) (pins : List (Addr × Obj)) (σ : L2.St) (H3 : Hp) (a : Str) (pb : Nat → Bool) (g : Addr) (s5 : Shared) : Prop :=
  ∃ (fp wr : List Addr) (G : Array GenState → Array GenState → Prop) (F : Nat → Value → Prop) (St : Nat → Shared → Prop), WalksS X.prog X.w X.A.in1 g fp wr G a.cps.size F St ∧ St 0 s5 ∧ TruthOf X.prog X.w X.A.in1 F (trF pb a.cps.toList) ∧
    ∀ s', Moved wr G s5 s' → Inv X pins σ H3 s'
section
variable {X : Cx} {pins : List (Addr × Obj)} {σ : L2.St} {H1 H3 : Hp} {P it0 : Addr} {ps more : Array Value} {s1 : Shared} {y3 G3 : Heap} {tq : Nat}
theorem Mid.ready {a : Str} {pb : Nat → Bool} {scope : Scope} {x : Str} {elt : Expr} {k : Nat} {code : Value} {c : Addr} {St : Nat → Heap → Prop} {Q' : Value → Shared → Prop} {E : Value → Shared → Prop}
    (M : Mid X pins σ H3 P it0 ps s1 y3 tq G3) (hr : Room k X.A) (TB : TabB X.base X.mg c P) (hel : EltK X scope x elt pb)
    (W : ∀ A' : Around, A'.handled = none → Walks X.prog X.w A' it0 [it0] [it0] a.cps.size (SignAt a) St) (h0 : St 0 y3) (lim : y3.NoLimit) (hcs : cStatics < it0)
    (hQ : ∀ g s5, ReadyT X pins σ H3 a pb g s5 → Q' (.ref g) s5) :
    wpAny (model X.prog X.w) X.A (builtinsFor X.env.globals X.env.builtins) (fun bi s₄ =>
      ∃ I fp wr n₀ Pz St₀ pz F, Value.ref it0 = .ref I ∧ (∀ A' : Around, A'.handled = none → Walks X.prog X.w A' I fp wr n₀ Pz St₀) ∧ St₀ 0 s₄.heap ∧ (∀ b ∈ fp, b < s₄.heap.objs.size) ∧ s₄.heap.NoLimit ∧ cStatics ∉ wr ∧
        (∀ hz : Heap, (∀ b o, s₄.heap.get? b = some o → hz.get? b = some o) → QuietGen X.prog X.w (genEnv scope (cloFrom X.env.cells scope.names []) s₄.heap.objs.size code bi X.env) x [] elt (List.range s₄.heap.objs.size) wr Pz pz F hz) ∧
        (∀ g h₅ tk gs, gs.bare = true → s₄.heap.objs.size < g → h₅.objs.size = g + 1 → (∀ b o, s₄.heap.get? b = some o → h₅.get? b = some o) →
          WalksS X.prog X.w X.A.in4 g (g :: s₄.heap.objs.size :: List.range s₄.heap.objs.size) (s₄.heap.objs.size :: wr) (GenOnlyQ s₄.gens.size) (passing pz n₀ 0).length
            (fun j y => ∃ i, (passing pz n₀ 0)[j]? = some i ∧ F i y) (GenAt X.prog X.w X.A.in4 g s₄.gens.size s₄.heap.objs.size (List.range s₄.heap.objs.size) wr pz n₀ F) →
          GenAt X.prog X.w X.A.in4 g s₄.gens.size s₄.heap.objs.size (List.range s₄.heap.objs.size) wr pz n₀ F 0 { s₄ with gens := s₄.gens.push gs, toks := tk, heap := h₅ } →
          Q' (.ref g) { s₄ with gens := s₄.gens.push gs, toks := tk, heap := h₅ })) E { s1 with heap := y3, toks := tq } := by
  have mainG : G3.Ns mainGlobals X.mg := M.inv.mod.glob.keeps M.inv.bk
  have kinG : X.K.In G3 := M.inv.kIn
  have mainY : y3.Ns mainGlobals X.mg := mainG.at fun o e => (M.sub _ o e).1
  obtain ⟨bm, ob, b1, b2, _, b4, b5, b6, b7, b8⟩ := TB.bm
  refine wpAny_builtinsFor (m := X.mg) (by rw [M.inv.ok.glob]; exact mainY) b1 b2 (M.sub _ _ (M.inv.bk _ _ b5)).1 b6 b7 b8 ?_
  refine ⟨it0, [it0], [it0], a.cps.size, SignAt a, St, fun _ => true, fun i y => ∃ q, a.cps[i]? = some q ∧ y = .bool (pb q), rfl, W, h0, fun b hb => ?_, lim, fun z => ?_, fun hz kz => ⟨?_, ?_⟩, fun g h5 tk gs gb ag sz k5 W5 at5 => ?_⟩
  · rw [List.mem_singleton] at hb
    rw [hb]
    exact M.lt
  · rw [List.mem_singleton] at z
    exact absurd hcs (by rw [z]; exact Nat.lt_irrefl _)
  · -- no tests
    intro A' E' i v z2 m2 _ _ _ _ _
    simp only [List.forIn_nil]
    exact wpAny_pure ⟨rfl, GxR.keeps_refl _⟩
  · -- the element
    intro A' E' i v z2 m2 _ hv _ hn hm hk
    obtain ⟨q, u, hq, rfl⟩ := hv
    have kept : ∀ b o, G3.get? b = some o → z2.heap.get? b = some o := fun b o e => by
      obtain ⟨e1, nb⟩ := M.sub b o e
      exact hk b (List.mem_range.mpr (Heap.lt_size e1)) (fun w => nb (List.mem_singleton.mp w)) o (kz b o e1)
    exact wpAny_mono (hel _ A' E' q u z2 m2 rfl M.inv.ok.glob (kinG.keeps kept) (mainG.keeps kept) hn hm) (fun y z3 r => ⟨⟨q, hq, r.1⟩, r.2⟩) fun _ _ e => e
  · simp only [GxR.passing_true, List.length_range] at W5
    refine hQ g _ ⟨_, _, _, _, _, W5.in4_1, at5, fun j y sj Qj Ej hy hq => ?_, fun s' mv => ?_⟩
    · obtain ⟨i, hi, q, hcq, rfl⟩ := hy
      obtain ⟨hj, ej⟩ := List.getElem?_eq_some_iff.mp hi
      rw [List.getElem_range] at ej
      subst ej
      have hq : Qj (trF pb a.cps.toList j) sj := hq
      rw [trF_some (b := q) (by rw [Array.getElem?_toList]; exact hcq)] at hq
      exact wpAny_truthy_bool hq
    · have go : ∀ b u, G3.get? b = some u → s'.heap.get? b = some u := fun b u e => by
        obtain ⟨e1, nb⟩ := M.sub b u e
        refine mv.heap b u (fun hb => ?_) (k5 b u e1)
        rw [List.mem_cons, List.mem_singleton] at hb
        rcases hb with hb | hb
        · rw [hb] at e1
          exact Nat.lt_irrefl _ (Heap.lt_size e1)
        · exact nb hb
      have J := GxR.inv_tab (more := #[]) (h' := s'.heap) (g' := s'.gens) (d' := s'.drawn) (t' := s'.toks) M.inv M.hP (fun b u _ e => go b u e) (by rw [Array.append_empty]; exact go P _ (M.inv.hok P _ M.hP)) (AllBare.movedS (M.inv.bare.push gb) mv)
      have same : upd H3 P (.tbl (ps ++ #[])) = H3 := funext fun b => by
        by_cases hb : b = P
        · rw [hb, upd_same, M.hP, Array.append_empty]
        · rw [upd_ne hb]
      rw [same] at J
      have es : ({ s1 with heap := s'.heap, gens := s'.gens, drawn := s'.drawn, toks := s'.toks } : Shared) = s' := GxR.sh_eta s1 s' mv.os
      rw [← es]
      exact J
theorem gen_signs {T : List (Addr × Str)} {s : Shared} {H : Hp} {c : Addr} {elt iter : Expr} {x : Str} {px gpos : Pos} {scope : Scope} {pb : Nat → Bool} {te : TE} {k : Nat} {Q' : Value → Shared → Prop} {R : Str → Hp → Prop}
    (hmT : (P, X.env.qual ++ "<genexpr>") ∈ T) (hu : ∀ p ∈ T, p.1 = P → p.2 = X.env.qual ++ "<genexpr>")
    (hr : Room k X.A) (TB : TabB X.base X.mg c P) (hcode : X.env.code = .ref c) (S : GenS X.env scope x) (hi : PE X iter te) (hel : EltK X scope x elt pb) (hs : ∀ v, genFold iter X.env v = pure v)
    (I : Inv X pins σ H s) (h : te σ H fun v H1 => ∃ a : Str, v = .str a ∧ Tabs T H1 ∧ ∀ H3, ExtN H1 H3 → Tabs T H3 → R a H3) (hQ : ∀ a H3 g s5, R a H3 → ReadyT X pins σ H3 a pb g s5 → Q' (.ref g) s5) :
    wpAny (model X.prog X.w) X.A (eval (.GeneratorExp elt [⟨.Name x px, iter, [], 0⟩] scope gpos) X.env) Q' X.xe s := by
  refine wpAny_GeneratorExp_walksQ hr.hd S.co (closure_ok S.free) S.cell S.dot S.loc S.kind hr.depth (thn (hi.run pins s σ H _ I h) fun xv s1 hh => ?_) hs
  obtain ⟨v, H1, I1, r1, a, ev, hT, hR⟩ := hh
  subst ev
  obtain ⟨t, et⟩ := _root_.id r1
  subst et
  obtain ⟨ps, hP, ht, hall⟩ := hT _ hmT
  have tabS : s1.heap.get? P = some { cls := .none, data := .fields ps } := I1.hok P _ hP
  have low : cStatics < s1.heap.objs.size := by
    obtain ⟨m, hn, _⟩ := I1.nolimit
    exact hn.lt
  have offP : cStatics ≠ P := fun z => by
    obtain ⟨m, ⟨o, es, ep, h1, h2, _⟩, _⟩ := I1.nolimit
    rw [z, tabS] at h1
    rw [← Option.some.inj h1] at h2
    cases h2
  refine wpAny_pyIter_str fun o St W h0 => ⟨I1.nolimit.push o, ?_⟩
  have tab2 : (s1.heap.push o).get? P = some { cls := .none, data := .fields ps } := Heap.get?_push_of_some _ tabS
  have hd2 : PySem.W.CodeHd (s1.heap.push o) c P := TB.code.keeps fun b u e => Heap.get?_push_of_some _ (I1.bk b u e)
  have one : s1.heap.objs.size < (s1.heap.push o).objs.size := by
    rw [Heap.size_push]
    exact Nat.lt_succ_self _
  -- the rest
  have rest : ∀ (code : Value) (H3 : Hp) (y3 G3 : Heap) (tq : Nat) (ps3 : Array Value), Mid X pins σ H3 P s1.heap.objs.size ps3 s1 y3 tq G3 → R a H3 → Heap.ExtBut P (s1.heap.push o) y3 →
      wpAny (model X.prog X.w) X.A (builtinsFor X.env.globals X.env.builtins) _ X.xe { s1 with heap := y3, toks := tq } := fun code H3 y3 G3 tq ps3 M hR3 xb => by
    refine Mid.ready (code := code) (St := St) M hr TB hel W ?_ ((I1.nolimit.push o).extBut xb offP) low fun g s5 rd => hQ a H3 g s5 hR3 rd
    refine (W X.A hr.hd).frame _ _ _ h0 fun b hb u e => xb b u (fun z => ?_) e
    rw [List.mem_singleton] at hb
    rw [← z, hb] at tabS
    exact Nat.lt_irrefl _ (Heap.lt_size tabS)
  have nit : ∀ {b u}, s1.heap.get? b = some u → b ≠ s1.heap.objs.size := fun e => not_old e (Nat.le_refl _)
  cases hf : codeAmong gpos ps.toList with
  | none =>
    refine wpAny_genexprCodeX hcode (hd2.code tab2 ht) (hd2.tab tab2) hf fun c' h' tk xb ge lt ic cr tb _ => ?_
    obtain ⟨c2, oc, vs, t2, e2, hoc, hdc, hvc⟩ := cr
    cases e2
    have big : s1.heap.objs.size < c' := Nat.lt_of_lt_of_le one ge
    have nC : H1 c' = none := I1.hok.fresh (Nat.le_of_lt big)
    have nPc : P ≠ c' := ne_of_none hP nC
    obtain ⟨G3, g1, g2⟩ := restrict h' fun b => decide (b ≠ s1.heap.objs.size)
    have gk : ∀ b, b ≠ s1.heap.objs.size → G3.get? b = h'.get? b := fun b hb => g1 b (decide_eq_true hb)
    have gn : G3.get? s1.heap.objs.size = none := g2 _ (by simp)
    have J := LamX.inv_table (t' := tk) (c := c') (q := X.env.qual ++ "<genexpr>") (more := #[rawInt gpos.line, rawInt gpos.col, .ref c']) (h' := G3) I1 hP (fun b u nb e => (gk b (nit e)).trans (xb b u nb (Heap.get?_push_of_some _ e)))
      ((gk P (nit tabS)).trans tb.2) (Nat.le_of_lt big) ⟨oc, vs, t2, (gk c' (Nat.ne_of_gt big)).trans hoc, hdc, hvc⟩
    have hE : ExtN H1 (upd (upd H1 P (.tbl (ps ++ #[rawInt gpos.line, rawInt gpos.col, .ref c']))) c' (CodeO c' (X.env.qual ++ "<genexpr>"))) := fun b u e n => by
      have nb : b ≠ P := fun z => n ps (Option.some.inj (e.symm.trans (by rw [z]; exact hP)))
      rw [upd_ne (ne_of_none e nC), upd_ne nb]
      exact e
    have eL : (ps ++ #[rawInt gpos.line, rawInt gpos.col, .ref c']).toList = ps.toList ++ [rawInt gpos.line, rawInt gpos.col, .ref c'] := by simp
    have hT3 : Tabs T (upd (upd H1 P (.tbl (ps ++ #[rawInt gpos.line, rawInt gpos.col, .ref c']))) c' (CodeO c' (X.env.qual ++ "<genexpr>"))) := fun p hp => by
      by_cases hb : p.1 = P
      · refine ⟨_, by rw [hb, upd_ne nPc, upd_same], by rw [eL]; exact TriplesOk_snoc _ _ _ _ ht, fun p9 cv hcv => ?_⟩
        rw [eL] at hcv
        rcases LamX.among_app _ ht hcv with z | z
        · obtain ⟨c0, x1, x2⟩ := hall p9 cv z
          exact ⟨c0, x1, by rw [hu p hp hb]; exact hE _ _ x2 LamX.codeO_ne⟩
        · exact ⟨c', z, by rw [hu p hp hb]; exact upd_same⟩
      · obtain ⟨qs, a1, a2, a3⟩ := hT p hp
        refine ⟨qs, by rw [upd_ne (ne_of_none a1 nC), upd_ne hb]; exact a1, a2, fun p9 cv hcv => ?_⟩
        obtain ⟨c0, x1, x2⟩ := a3 p9 cv hcv
        exact ⟨c0, x1, hE _ _ x2 LamX.codeO_ne⟩
    refine rest (.ref c') _ h' G3 tk _ ⟨J, fun b u e => ?_, by rw [upd_ne nPc, upd_same], Nat.lt_trans big lt⟩ (hR _ hE hT3) xb
    by_cases hb : b = s1.heap.objs.size
    · rw [hb, gn] at e
      cases e
    · exact ⟨(gk b hb).symm.trans e, hb⟩
  | some cv =>
    refine wpAny_genexprCode_hit hcode (hd2.code tab2 ht) hf ?_
    exact rest cv H1 (s1.heap.push o) s1.heap s1.toks ps ⟨I1, fun b u e => ⟨Heap.get?_push_of_some _ e, nit e⟩, hP, one⟩ (hR H1 (ExtN.refl H1) hT) (Heap.ExtBut.refl _ _)
def tAllT (T : List (Addr × Str)) (pb : Nat → Bool) (te : TE) : TE := fun σ H Q => te σ H fun v H1 => ∃ a : Str, v = .str a ∧ Tabs T H1 ∧ ∀ H3, ExtN H1 H3 → Tabs T H3 → Q (.bl (a.cps.toList.all pb)) H3
theorem pe_allK {T : List (Addr × Str)} {c : Addr} {elt iter : Expr} {x : Str} {px p pos gpos : Pos} {scope : Scope} {pb : Nat → Bool} {te : TE} {k : Nat} (hmT : (P, X.env.qual ++ "<genexpr>") ∈ T) (hu : ∀ p ∈ T, p.1 = P → p.2 = X.env.qual ++ "<genexpr>")
    (hr : Room k X.A) (hg : Gl X "all") (hm : X.mg "all" = none) (hb : bootBuiltins "all" = some (.builtin "all")) (TB : TabB X.base X.mg c P) (hcode : X.env.code = .ref c) (S : GenS X.env scope x) (hi : PE X iter te) (hel : EltK X scope x elt pb)
    (hs : ∀ v, genFold iter X.env v = pure v)
    (he : starEach [.GeneratorExp elt [⟨.Name x px, iter, [], 0⟩] scope gpos] X.env = (false, eval (.GeneratorExp elt [⟨.Name x px, iter, [], 0⟩] scope gpos) X.env) :: starEach [] X.env := by rfl) :
    PE X (.Call (.Name "all" p) [.GeneratorExp elt [⟨.Name x px, iter, [], 0⟩] scope gpos] [] pos) (tAllT T pb te) := by
  refine ⟨fun pins s σ H Q I h => wpAny_Call_Name_kw (ld_blt I hg hm hb (PyProof.Rows.callWith_builtin1 ?_ he (by rfl)))⟩
  rw [he]
  refine Calls.spliced_cons (gen_signs (R := fun a H3 => Q (.bl (a.cps.toList.all pb)) H3) hmT hu hr TB hcode S hi hel hs I h fun a H3 g s5 hR hG => Calls.spliced_nil ?_)
  obtain ⟨fp, wr, G, F, St, W, hst, htr, hI⟩ := hG
  refine call_all_walkS (W.self 0 _ _ _ hst ⟨g, fp, wr, G, _, F, St, _, rfl, W, hst, htr, fun s' mv => ?_⟩)
  exact ⟨.bl _, H3, hI s' mv, rfl, by rw [GxR.all_signs a pb]; exact hR⟩
end
theorem extN_fr {H H' : Hp} {G : Gp} (x : ExtN H H') : Fr H G H' G := fun b o e g n => ⟨x b o e n, g⟩
theorem extN_sim [τ : Tbl] [β : Bas] {K : PySem.W.Frag} {H H' : Hp} {G : Gp} (s : SimG K H G) (x : ExtN H H') (hT : Tabs τ.T H') : SimG K H' G := by
  have f := extN_fr (G := G) x
  refine s.next f ⟨fun a m e => ?_, hT, s.apart⟩
  obtain ⟨o, ho, ns⟩ := (s a m e).there
  have no : ∀ ps, o ≠ .tbl ps := fun ps z => by
    have h := s a m e
    subst z
    cases m <;> first | (obtain ⟨_, h, _⟩ := h; rw [ho] at h; cases h) | (obtain ⟨h, _⟩ := h; rw [ho] at h; cases h)
  exact (s a m e).mono (s.tm f) ((x a o ho no).trans ho.symm)
/-- all(test for x in text) -/
def zAllS (pb : Nat → Bool) (te : DE) : DE := fun ρ G Q => te ρ G fun d G1 => match d with
  | .str a => Q (.bl (a.cps.toList.all pb)) G1
  | _ => False
theorem z_allS [τ : Tbl] [β : Bas] {X : Cx} {c P : Addr} {elt iter : Expr} {x : Str} {px p pos gpos : Pos} {scope : Scope} {pb : Nat → Bool} {te : DE} {k : Nat} (hmT : (P, X.env.qual ++ "<genexpr>") ∈ τ.T) (hu : ∀ p ∈ τ.T, p.1 = P → p.2 = X.env.qual ++ "<genexpr>")
    (hr : Room k X.A) (hg : Gl X "all") (hm : X.mg "all" = none) (TB : TabB X.base X.mg c P) (hcode : X.env.code = .ref c) (S : GenS X.env scope x) (hi : ZE X iter te) (hel : EltK X scope x elt pb)
    (hs : ∀ v, genFold iter X.env v = pure v) (hb : bootBuiltins "all" = some (.builtin "all") := by first | rfl | decide)
    (he : starEach [.GeneratorExp elt [⟨.Name x px, iter, [], 0⟩] scope gpos] X.env = (false, eval (.GeneratorExp elt [⟨.Name x px, iter, [], 0⟩] scope gpos) X.env) :: starEach [] X.env := by rfl) :
    ZE X (.Call (.Name "all" p) [.GeneratorExp elt [⟨.Name x px, iter, [], 0⟩] scope gpos] [] pos) (zAllS pb te) := PEi (pe_allK hmT hu hr hg hm hb TB hcode S hi hel hs he) fun σ H Q q => by
  obtain ⟨ρ, G, Q0, sg, gg, h, kk⟩ := q
  refine ⟨ρ, G, _, sg, gg, h, fun d G1 v H1 h1 f1 g1 r1 => ?_⟩
  cases r1 with
  | str a => exact ⟨a, rfl, g1.tabs, fun H2 x2 hT => kk _ G1 _ H2 h1 (f1.trans (extN_fr x2)) (extN_sim g1 x2 hT) (.bl _)⟩
  | _ => exact False.elim h1
end Z

namespace Z
open PySem PySem.Spec PyProof.Rows L2
open LamX (Tabs TabS ExtN CodeO GivesTo lamCx lamEnv tLam LamS)

/-! ### told(lambda: body): try: return body / except A: return 'A' .. -/
inductive Clauses (X : Cx) (sg : Scope) : List ExceptHandler → List (Addr × Str) → Prop
  | nil : Clauses X sg [] []
  | cons {e ret : Str} {C : Addr} {j : Nat} {p4 p5 p6 p7 : Pos} {hds : List ExceptHandler} {l : List (Addr × Str)} (hn : sg.names.lookup e = some .globalImplicit) (hm : X.mg e = some (.ref C)) (hd : (e == ("__debug__" : Str)) = false) (r : Clauses X sg hds l) :
      Clauses X sg (.ExceptHandler (some (.Name e p4)) none [.Return (some (.Constant (.str ret) j p5)) p6] p7 :: hds) ((C, ret) :: l)
def toldV (K : PySem.W.Frag) (Q : VK) : List (Addr × Str) → Value → Hp → Prop
  | [], _, _ => False
  | (C, r) :: l, cls, H => ∃ b, PySem.W.exmOne K cls (.ref C) = some b ∧ (b = true → Q (.str r) H) ∧ (b = false → toldV K Q l cls H)
def TTmany (K : PySem.W.Frag) (l : List (Addr × Str)) : (XK → Hp → VK → Prop) → Hp → VK → Prop := fun tl H Q => tl (fun cls _ H' => toldV K Q l cls H') H Q
def toSuites (l : List (Addr × Str)) : List (Value × (Addr → Value → Option Addr → TS)) := l.map fun p => (.ref p.1, fun _ _ _ => tRet (tC (.str p.2)))
theorem told_w {K : PySem.W.Frag} {D : Ends} {cls : Value} {d : Option Addr} {σ : L2.St} {H : Hp} : ∀ {l : List (Addr × Str)}, toldV K D.rt l cls H → wMany K (fun _ _ _ _ => False) D (toSuites l) cls d σ H
  | [], h => h
  | (C, r) :: l, ⟨b, h1, h2, h3⟩ => ⟨b, h1, fun hb a _ => h2 hb, fun hb => told_w (h3 hb)⟩
theorem clauses_ok {X Z : Cx} {sg : Scope} (hs : Z.env.scope = sg) (hm : Z.mg = X.mg) : ∀ {hds : List ExceptHandler} {l : List (Addr × Str)}, Clauses X sg hds l → HdsOk Z hds (toSuites l)
  | _, _, .nil => .nil
  | _, _, .cons hn hg hd r => .cons ⟨by show Z.env.scope.names.lookup _ = _; rw [hs]; exact hn, hd, .inl (by rw [hm]; exact hg)⟩ (fun a oe cls d pn _ _ => pss_one (ps_ret pe_str)) (clauses_ok hs hm r)
section
variable {X : Cx}
theorem many_gives {Ng : List Str} {x a q : Str} {sg : Scope} {g : Addr} {cdg : Value} {h0 : ExceptHandler} {hds : List ExceptHandler} {l : List (Addr × Str)} {p1 p2 p3 p8 : Pos} (hc : Clauses X sg (h0 :: hds) l) (hstart : ∀ f : Addr, (L2.start Ng [V.ref f])[0]? = some (some (V.ref f))) :
    GivesTo X Ng x sg g cdg [.Try [.Return (some (.Call (.Name a p1) [] [] p2)) p3] (h0 :: hds) [] [] p8] a q (TTmany X.K l) := by
  intro f c' s H Q tl act hco h
  refine ⟨_, pss_one (ps_try_many (X := (cxOf C8.CX0 X.prog X.w X.K X.mg X.base Ng x sg g cdg X.A X.stack s H C8.E0).nox) (Wout := fun _ _ _ _ => False)
    (tb := fun W D σ H => ∃ Ech : XK, (∀ cls d σ' H', Ech cls d H' → W cls d σ' H') ∧ σ[0]? = some (some (.ref f)) ∧ H c' = some (CodeO c' q) ∧ tl Ech H D.rt)
    rfl rfl LamX.takes0 (fun W pn xe tk _ => ⟨fun pins s' σ H' D I ⟨Ech, hW, h1, h2, h3⟩ => (pss_one (ps_ret (pos := p3) (act W pn xe Ech p1 p2 tk hW))).run pins s' σ H' D I ⟨h1, h2, h3⟩⟩) (clauses_ok (X := X) (sg := sg) (Z := (cxOf C8.CX0 X.prog X.w X.K X.mg X.base Ng x sg g cdg X.A X.stack s H C8.E0).nox) rfl rfl hc)), ?_⟩
  exact ⟨_, fun cls d σ' H' hh => told_w hh, hstart f, hco, h⟩
end
def toldZ (K : PySem.W.Frag) (Q : DK) : List (Addr × Str) → XKz
  | [], _, _ => False
  | (C, r) :: l, cls, G => ∃ b, PySem.W.exmOne K cls (.ref C) = some b ∧ (b = true → Q (.str r) G) ∧ (b = false → toldZ K Q l cls G)
theorem toldZ_up {K : PySem.W.Frag} {Q0 : DK} {Q : VK} {cls : Value} {G' : Gp} {H' : Hp} (k : ∀ x, Q0 (.str x) G' → Q (.str x) H') : ∀ {l : List (Addr × Str)}, toldZ K Q0 l cls G' → toldV K Q l cls H'
  | [], h => h
  | (C, r) :: l, ⟨b, h1, h2, h3⟩ => ⟨b, h1, fun hb => k _ (h2 hb), fun hb => toldZ_up k (h3 hb)⟩
/-- the body's reading, by what is let out -/
abbrev DL := XKz → DE
def upL [τ : Tbl] (K : PySem.W.Frag) (t : DL) : XK → TE := fun E σ H Q => ∃ ρ G Q0 E0, SimS K H σ ρ ∧ Sim0 K H G ∧ t E0 ρ G Q0 ∧ (∀ d G' v H', Q0 d G' → Fr H G H' G' → Sim0 K H' G' → Rep K H' v d → Q v H') ∧ ∀ c G' dx H', E0 c G' → Fr H G H' G' → Sim0 K H' G' → E c dx H'
theorem lam_body [τ : Tbl] {Y : Cx} {e : Expr} {t : DL} {E : XK} (h : ∀ (bas : Bas) (E0 : XKz), @EOk τ bas Y.K E0 E → @ZE τ bas Y e (t E0)) : PE Y e (upL Y.K t E) := ⟨fun pins s σ H Q I q => by
  obtain ⟨ρ, G, Q0, E0, hs, hg, ht, k1, k2⟩ := q
  have hz := h (frBas H G) E0 fun c G' dx H' e g' => k2 c G' dx H' e (@SimG.base τ (frBas H G) _ _ _ g') (@SimG.toSim0 τ (frBas H G) _ _ _ g')
  letI : Bas := frBas H G
  exact PE.run hz pins s σ H Q I ⟨ρ, G, Q0, hs, ⟨hg, Fr.refl H G⟩, ht, fun d G' v H' q f g' r => k1 d G' v H' q f g'.toSim0 r⟩⟩
section
variable [τ : Tbl] [β : Bas] {X : Cx}
def zTold (K : PySem.W.Frag) (l : List (Addr × Str)) (t : DL) : DE := fun ρ G Q => t (toldZ K Q l) ρ G Q
theorem z_told {x a : Str} {g c P : Addr} {k : Nat} {pg : Arguments} {h0 : ExceptHandler} {hds : List ExceptHandler} {sg : Scope} {dV kV doc pm cdv ct oc : Value} {an od : Option Addr} {osl : Array (Option Value)} {Ng : List Str}
    {params : Arguments} {body : Expr} {scope : Scope} {t : DL} {l : List (Addr × Str)} {p lpos pos p1 p2 p3 p8 : Pos} (hg : Gl X x) (hm : X.mg x = some (.ref g)) (hk : PySem.W.keepIn X.K (.ref g) = true)
    (lk : X.K.lookup g = some ⟨oc, od, .func (PySem.W.fnOf x x pg [.Try [.Return (some (.Call (.Name a p1) [] [] p2)) p3] (h0 :: hds) [] [] p8] sg dV kV doc pm an cdv ct), osl⟩) (hcg : PySem.W.codeIn X.K cdv x = true)
    (hb : L2.Binds X.K (PySem.W.fnOf x x pg [.Try [.Return (some (.Call (.Name a p1) [] [] p2)) p3] (h0 :: hds) [] [] p8] sg dV kV doc pm an cdv ct) [a] []) (Sg : FnScope Ng [a] sg) (hNg : Ng[0]? = some a) (hva : Vis sg a)
    (hc : Clauses X sg (h0 :: hds) l) (hstart : ∀ f : Addr, (L2.start Ng [V.ref f])[0]? = some (some (V.ref f)))
    (TB : LamX.TabB X.base X.mg c P) (hcode : X.env.code = .ref c) (hmT : (P, X.env.qual ++ "<lambda>") ∈ τ.T) (hu : ∀ p ∈ τ.T, p.1 = P → p.2 = X.env.qual ++ "<lambda>") (hr : Room (k + 2) X.A) (L : LamS X.env.scope scope) (hdef : defaultsOf params X.env = ([], []))
    (hbind : ∀ (q : Str) (cl : List (Str × Addr)) (pm cv ctv : Value), bindArgs (PySem.W.kla_fn "<lambda>" q params body scope cl pm cv ctv) ⟨[], []⟩ = pure [])
    (hbody : ∀ (bas : Bas) (A : Around) (outer : List Env) (s : Shared) (H : Hp) (E : XK) (f c' : Addr) (E0 : XKz), Room k (A.deeper (lamEnv X scope s.heap.objs.size f c')) → @EOk τ bas X.K E0 E → @ZE τ bas (lamCx X A outer s H E scope f c') body (t E0))
    (hdb : (x == ("__debug__" : Str)) = false := by decide) (hd : (a == ("__debug__" : Str)) = false := by decide) (hcd : (a == ("__classdict__" : Str)) = false := by decide) :
    ZE X (.Call (.Name x p) [.Lambda params body scope lpos] [] pos) (zTold X.K l t) := by
  refine PEi (LamX.pe_lamcall (t := upL X.K t) hg hm hk lk hcg hb Sg hNg hva (many_gives hc hstart) TB hcode hmT hu hr L hdef hbind (fun A outer s H E f c' hr2 => lam_body fun bas E0 hE => hbody bas A outer s H E f c' E0 hr2 hE) hdb hd hcd) fun σ H Q q => ?_
  obtain ⟨ρ, G, Q0, hs, hg, h, kk⟩ := q
  refine ⟨hg.tabs, fun H1 xN hT => ?_⟩
  have f1 := extN_fr (G := G) xN
  have g1 := extN_sim hg xN hT
  exact ⟨ρ, G, Q0, _, hs.mono (hg.tm f1), g1.toSim0, h, fun d G' v H' q f g r => kk d G' v H' q (f1.trans f) (g1.next f g) r, fun c G' dx H' q f g => toldZ_up (fun x hx => kk _ G' _ H' hx (f1.trans f) (g1.next f g) (.str _)) q⟩
end
end Z

namespace Z
open PySem PySem.Spec PyProof.Rows L2

theorem At.trans {G G1 G2 : Gp} {a : Addr} {m n : MO} (x : At G a m G1) (y : At G1 a n G2) : At G a n G2 := ⟨y.is, fun b h => (y.other b h).trans (x.other b h)⟩
theorem At.self {G : Gp} {a : Addr} {m : MO} (h : G a = some m) : At G a m G := ⟨h, fun _ _ => rfl⟩
theorem dI0_e {g : Int → Int → D} {i j : Int} {G : Gp} {Q : DK} : dI0 g (.int i) (.int j) G Q = Q (g i j) G := rfl
theorem dI_e {C : Int → Int → Prop} {g : Int → Int → D} {i j : Int} {G : Gp} {Q : DK} : dI C g (.int i) (.int j) G Q = (C i j ∧ Q (g i j) G) := rfl
theorem dEqF_i {neg : Bool} {i j : Int} {G : Gp} {Q : DK} : dEqF neg (.int i) (.int j) G Q = Q (.bl (neg != decide (i = j))) G := rfl
theorem dEqF_s {neg : Bool} {i j : Str} {G : Gp} {Q : DK} : dEqF neg (.str i) (.str j) G Q = Q (.bl (neg != decide (i = j))) G := rfl
theorem dEqF_b {neg : Bool} {i j : Bool} {G : Gp} {Q : DK} : dEqF neg (.bl i) (.bl j) G Q = Q (.bl (neg != decide (i = j))) G := rfl
theorem dCatS_e {x y : Str} {G : Gp} {Q : DK} : dCatS (.str x) (.str y) G Q = (x.length + y.length ≤ sizeLine ∧ Q (.str (x ++ y)) G) := rfl
theorem fLen_s {x : Str} {G : Gp} {Q : DK} : fLen [.str x] G Q = (x.length ≤ sizeLine ∧ Q (.int (x.length : Nat)) G) := rfl
theorem fInt_i {i : Int} {G : Gp} {Q : DK} : fInt [.int i] G Q = Q (.int i) G := rfl
theorem fAbs_i {i : Int} {G : Gp} {Q : DK} : fAbs [.int i] G Q = Q (.int (if i < 0 then -i else i)) G := rfl
theorem fInt_b {b : Bool} {G : Gp} {Q : DK} : fInt [.bl b] G Q = Q (.int (if b then 1 else 0)) G := rfl
theorem zTest_e {t : DE} {ρ : ZSt} {G : Gp} {Q : Bool → Gp → Prop} : zTest t ρ G Q = t ρ G (fun d G1 => match d with | .bl b => Q b G1 | _ => False) := rfl
/-- x, y, z = a, b, c -/
def zPar3 (i j l : Nat) (ta : DA) : DS := fun Z ρ G => ta ρ G fun ds G1 => match ds with
  | [d, e, f] => Z.nx (((ρ.set i (some d)).set j (some e)).set l (some f)) G1
  | _ => False
section
variable [τ : Tbl] [β : Bas] {X : Cx}
theorem z_par3 {i j l : Nat} {x y z : Str} {a b c : Expr} {ta : DA} {px py pz pt pos : Pos} {kt k2 pt2} (hc : X.calm = true) (hN : X.N.Nodup) (hi : X.N[i]? = some x) (hj : X.N[j]? = some y) (hl : X.N[l]? = some z) (hij : i ≠ j) (hil : i ≠ l) (hjl : j ≠ l)
    (hx : X.env.scope.names.lookup x = some .local) (hy : X.env.scope.names.lookup y = some .local) (hz : X.env.scope.names.lookup z = some .local) (ha : ZA X [a, b, c] ta)
    (hw : swappedStores [.Tuple [.Name x px, .Name y py, .Name z pz] kt pt] (.Tuple [a, b, c] k2 pt2) X.env = pure (some [x, y, z]))
    (hs : swapsWithSole [.Tuple [.Name x px, .Name y py, .Name z pz] kt pt] (.Tuple [a, b, c] k2 pt2) pos.line X.env = pure false := by rfl) :
    ZS X (.Assign [.Tuple [.Name x px, .Name y py, .Name z pz] kt pt] (.Tuple [a, b, c] k2 pt2) pos) (zPar3 i j l ta) := PSi (ps_par3 hc hN hi hj hl hij hil hjl hx hy hz ha hw hs) fun D σ H q => by
  obtain ⟨ρ, G, Z, hs, hg, h, k, _⟩ := q
  refine ⟨ρ, G, _, hs, hg, h, fun ds G1 xs H1 h1 f1 g1 r1 => ?_⟩
  cases r1 with
  | nil => cases h1
  | cons p r1 =>
    cases r1 with
    | nil => cases h1
    | cons p' r1 =>
      cases r1 with
      | nil => cases h1
      | cons p'' r1 =>
        cases r1 with
        | nil => exact ⟨_, _, _, rfl, k _ G1 _ H1 h1 f1 g1 ((((hs.mono (hg.tm f1)).set p).set p').set p'')⟩
        | cons p2 r2 => cases h1
end

/-! ### what is known of a def, a method, a maker -/
section
variable [τ : Tbl]
structure Dfn (P : Program) (w : World) (K : PySem.W.Frag) (mg : Str → Option Value) (base : Heap) (x : Str) (k : Nat) (ps : List Str) (z : ZSp) : Prop where
  ex : ∃ (f : Addr) (fd : FuncData), mg x = some (.ref f) ∧ PySem.W.keepIn K (.ref f) = true ∧ Binds K fd ps [] ∧ FnOk P w K mg base (L2.CX P w) k f fd ps (upSp K z)
structure Mtd (P : Program) (w : World) (K : PySem.W.Frag) (mg : Str → Option Value) (base : Heap) (C : Addr) (m : Str) (k : Nat) (ps : List Str) (z : ZSp) : Prop where
  ex : ∃ (g : Addr) (fd : FuncData), Meth K C m g ∧ Binds K fd ps [] ∧ FnOk P w K mg base (L2.CX P w) k g fd ps (upSp K z)
structure Ini (P : Program) (w : World) (K : PySem.W.Frag) (mg : Str → Option Value) (base : Heap) (C : Addr) (k : Nat) (ps : List Str) (z : ZSp) : Prop where
  ex : ∃ (g : Addr) (fd : FuncData), Mk K C g ∧ Binds K fd ps [] ∧ FnOk P w K mg base (L2.CX P w) k g fd ps (upSp K z)
end
section
variable [τ : Tbl] [β : Bas] {X : Cx} {k m : Nat} {ps : List Str} {z : ZSp} {x : Str} {p pos apos : Pos} {a e o : Expr} {es : List Expr} {tA : DA} {to : DE} {C : Addr} {E0 : XKz} {E : XK}
theorem z_dc0 (D : Dfn X.prog X.w X.K X.mg X.base x k ps z) (hr : Room m X.A) (hk : k ≤ m) (hg : Gl X x) (ha : ZA X (a :: es) tA) (hdb : (x == ("__debug__" : Str)) = false := by decide)
    (he : starEach (a :: es) X.env = (false, eval a X.env) :: starEach es X.env := by rfl) (hpl : (backTo pos (starEach es X.env)).any (·.1) = false := by rfl) : ZE X (.Call (.Name x p) (a :: es) [] pos) (zCall z X0 tA) := by
  obtain ⟨f, fd, h1, h2, h3, h4⟩ := D.ex
  exact z_call0 h4 (hr.mono hk) hg h1 h2 h3 ha hdb he hpl
theorem z_dc (D : Dfn X.prog X.w X.K X.mg X.base x k ps z) (hr : Room m X.A) (hk : k ≤ m) (hg : Gl X x) (hE : EOk X.K E0 E) (hx : Passes (L2.CX X.prog X.w) X E) (ha : ZA X (a :: es) tA) (hdb : (x == ("__debug__" : Str)) = false := by decide)
    (he : starEach (a :: es) X.env = (false, eval a X.env) :: starEach es X.env := by rfl) (hpl : (backTo pos (starEach es X.env)).any (·.1) = false := by rfl) : ZE X (.Call (.Name x p) (a :: es) [] pos) (zCall z E0 tA) := by
  obtain ⟨f, fd, h1, h2, h3, h4⟩ := D.ex
  exact z_call h4 (hr.mono hk) hg h1 h2 h3 hE hx ha hdb he hpl
theorem z_mc {y : Str} {pl : Sem Bool} (c : Cls X.K C) (D : Mtd X.prog X.w X.K X.mg X.base C y k ps z) (hr : Room m X.A) (hk : k ≤ m) (hE : EOk X.K E0 E) (hx : Passes (L2.CX X.prog X.w) X E) (ho : ZE X o to) (ha : ZA X (e :: es) tA)
    (hst : starEach (e :: es) X.env = (false, eval e X.env) :: starEach es X.env := by rfl) (hpl : (backTo pos (starEach es X.env)).any (·.1) = false := by rfl)
    (ht : eval (.Call (.Attribute o y apos) (e :: es) [] pos) X.env = (do
      let ov ← eval o X.env
      standAt apos.atName
      let (f, first) ← holding [ov] (getMethod ov y pl)
      callWith pos f first (backTo pos (starEach (e :: es) X.env)) (backToKw pos (keywordEach [] X.env))) := by rfl) : ZE X (.Call (.Attribute o y apos) (e :: es) [] pos) (zMeth C y z E0 to tA) := by
  obtain ⟨g, fd, h1, h3, h4⟩ := D.ex
  exact z_meth c h1 h4 (hr.mono hk) h3 hE hx ho ha hst hpl ht
theorem z_mc0 {y : Str} {pl : Sem Bool} (c : Cls X.K C) (D : Mtd X.prog X.w X.K X.mg X.base C y k ps z) (hr : Room m X.A) (hk : k ≤ m) (hE : EOk X.K E0 E) (hx : Passes (L2.CX X.prog X.w) X E) (ho : ZE X o to)
    (ht : eval (.Call (.Attribute o y apos) [] [] pos) X.env = (do
      let ov ← eval o X.env
      standAt apos.atName
      let (f, first) ← holding [ov] (getMethod ov y pl)
      callWith pos f first (backTo pos (starEach [] X.env)) (backToKw pos (keywordEach [] X.env))) := by rfl) : ZE X (.Call (.Attribute o y apos) [] [] pos) (zMeth C y z E0 to zNil) := by
  obtain ⟨g, fd, h1, h3, h4⟩ := D.ex
  exact z_meth0 c h1 h4 (hr.mono hk) h3 hE hx ho ht
/-- nothing is let out -/
theorem z_mm {y : Str} {pl : Sem Bool} (c : Cls X.K C) (D : Mtd X.prog X.w X.K X.mg X.base C y k ps z) (hr : Room m X.A) (hk : k ≤ m) (ho : ZE X o to) (ha : ZA X (e :: es) tA)
    (hst : starEach (e :: es) X.env = (false, eval e X.env) :: starEach es X.env := by rfl) (hpl : (backTo pos (starEach es X.env)).any (·.1) = false := by rfl)
    (ht : eval (.Call (.Attribute o y apos) (e :: es) [] pos) X.env = (do
      let ov ← eval o X.env
      standAt apos.atName
      let (f, first) ← holding [ov] (getMethod ov y pl)
      callWith pos f first (backTo pos (starEach (e :: es) X.env)) (backToKw pos (keywordEach [] X.env))) := by rfl) : ZE X (.Call (.Attribute o y apos) (e :: es) [] pos) (zMeth C y z X0 to tA) :=
  z_mc (E := L2.E0) c D hr hk eok0 (passL (X := X)) ho ha hst hpl ht
theorem z_mm0 {y : Str} {pl : Sem Bool} (c : Cls X.K C) (D : Mtd X.prog X.w X.K X.mg X.base C y k ps z) (hr : Room m X.A) (hk : k ≤ m) (ho : ZE X o to)
    (ht : eval (.Call (.Attribute o y apos) [] [] pos) X.env = (do
      let ov ← eval o X.env
      standAt apos.atName
      let (f, first) ← holding [ov] (getMethod ov y pl)
      callWith pos f first (backTo pos (starEach [] X.env)) (backToKw pos (keywordEach [] X.env))) := by rfl) : ZE X (.Call (.Attribute o y apos) [] [] pos) (zMeth C y z X0 to zNil) :=
  z_mc0 (E := L2.E0) c D hr hk eok0 (passL (X := X)) ho ht
theorem z_new (D : Ini X.prog X.w X.K X.mg X.base C k ps z) (hr : Room m X.A) (hk : k + 1 ≤ m) (hg : Gl X x) (hm : X.mg x = some (.ref C)) (ha : ZA X (e :: es) tA) (hdb : (x == ("__debug__" : Str)) = false := by decide)
    (he : starEach (e :: es) X.env = (false, eval e X.env) :: starEach es X.env := by rfl) (hpl : (backTo pos (starEach es X.env)).any (·.1) = false := by rfl) : ZE X (.Call (.Name x p) (e :: es) [] pos) (zMake C z X0 tA) := by
  obtain ⟨g, fd, h1, h3, h4⟩ := D.ex
  exact z_make (E := L2.E0) h1 h4 (hr.mono hk) hg hm h3 eok0 (passL (X := X)) ha hdb he hpl
end
section
variable [τ : Tbl] {P : Program} {w : World} {K : PySem.W.Frag} {mg : Str → Option Value} {base : Heap}
/-- a def whose code object is known -/
theorem z_fnC {x qual : Str} {st : Stmt} {f : Addr} {N ps : List Str} {k : Nat} {z : ZSp} {oc kV doc pm cdv ct : Value} {od an : Option Addr} {osl : Array (Option Value)}
    (lk : K.lookup f = some ⟨oc, od, .func (PySem.W.fnOf x qual (defArgs st) (defBody st) (defScope st) .none kV doc pm an cdv ct), osl⟩) (hcd : PySem.W.codeIn K cdv qual = true) (S : FnScope N ps (defScope st)) (len : ∀ ds G Q E, z ds G Q E → ds.length = ps.length)
    (hbody : ∀ (bas : Bas) (A : Around) (outer : List Env) (s : Shared) (H : Hp) (E : XK), Room k (A.deeper (envOfC qual (defScope st) s.heap.objs.size f cdv)) → ∀ (ds : List D) (G : Gp) (Q : DK) (E0 : XKz), @EOk τ bas K E0 E → z ds G Q E0 →
      ∃ t, @ZSs τ bas (cxOf (L2.CX P w) P w K mg base N qual (defScope st) f cdv A outer s H E) (defBody st) t ∧ t { nx := fun _ G' => Q .non G', rt := Q } (zstart N ds) G) :
    FnOk P w K mg base (L2.CX P w) (k + 1) f (PySem.W.fnOf x qual (defArgs st) (defBody st) (defScope st) .none kV doc pm an cdv ct) ps (upSp K z) := by
  refine fn_of lk hcd S (fun vs H Q E h => ?_) fun A outer s H vs Q E hr h => ?_
  · obtain ⟨ds, G, Q0, E0, _, r, hz, _⟩ := h
    rw [r.length]
    exact len _ _ _ _ hz
  · obtain ⟨ds, G, Q0, E0, g, r, hz, k1, k2⟩ := h
    obtain ⟨t, ht, hq⟩ := hbody (frBas H G) A outer s H E hr ds G Q0 E0 (fun c G' dx H' e g' => k2 c G' dx H' e (@SimG.base τ (frBas H G) _ _ _ g') (@SimG.toSim0 τ (frBas H G) _ _ _ g')) hz
    letI : Bas := frBas H G
    exact ⟨_, ht, zstart N ds, G, _, sims_start r, ⟨g, Fr.refl H G⟩, hq, fun ρ' G' σ' H' q f g' s' => k1 .non G' .non H' q f g'.toSim0 .non, fun d G' v H' q f g' r => k1 d G' v H' q f g'.toSim0 r, fun _ _ _ _ q => q.elim, fun _ _ _ _ q => q.elim⟩
end
/-! ### one statement at a time (the rest stays folded) -/
section
variable {te : DE} {c : DT} {t e u : DS} {Z : ZEnds} {ρ : ZSt} {G : Gp} {i : Nat} {g : DG}
theorem s_asg (h : te ρ G fun d G1 => u Z (ρ.set i (some d)) G1) : zSeq (zAsg te (zName i)) u Z ρ G := h
theorem s_asgG (h : te ρ G fun d G1 => g d ρ G1 (u Z)) : zSeq (zAsg te g) u Z ρ G := h
theorem s_if (h : c ρ G fun b G1 => if b = true then t { Z with nx := u Z } ρ G1 else e { Z with nx := u Z } ρ G1) : zSeq (zIfS c t e) u Z ρ G := h
theorem s_drop (h : te ρ G fun _ G1 => u Z ρ G1) : zSeq (zDrop te) u Z ρ G := h
theorem s_ret (h : te ρ G Z.rt) : zSeq (zRet te) u Z ρ G := h
theorem s_next (h : Z.nx ρ G) : zNext Z ρ G := h
theorem s_seq (h : t { Z with nx := u Z } ρ G) : zSeq t u Z ρ G := h
end
end Z

namespace Z
open PySem PySem.Spec PyProof.Rows L2

/-! ### t[::-1] of a tuple -/
theorem adjust_rev (n : Nat) : Builtin.Slice.sliceAdjust none none (-1) (n : Int) = ((n : Int) - 1, -1) := by
  unfold Builtin.Slice.sliceAdjust
  simp
theorem places_rev (n : Nat) : Builtin.Slice.slicePlaces ((n : Int) - 1) (-1) (-1) = n := by
  unfold Builtin.Slice.slicePlaces
  have h1 : ¬ ((-1 : Int) > 0) := by omega
  simp only [h1, if_false, Int.neg_neg, Int.ediv_one]
  split <;> omega
theorem pick_rev (xs : Array Value) : ((List.range xs.size).filterMap fun (m : Nat) => xs[(((xs.size : Nat) : Int) - 1 + (m : Int) * (-1)).toNat]?).toArray = xs.toList.reverse.toArray := by
  congr 1
  have e : ∀ m ∈ List.range xs.size, xs[(((xs.size : Nat) : Int) - 1 + (m : Int) * (-1)).toNat]? = some (xs.toList.reverse.getD m .none) := by
    intro m hm
    have hm := List.mem_range.mp hm
    have : (((xs.size : Nat) : Int) - 1 + (m : Int) * (-1)).toNat = xs.size - 1 - m := by omega
    rw [this, List.getD_eq_getElem?_getD, List.getElem?_reverse (by rw [Array.length_toList]; exact hm), Array.length_toList, Array.getElem?_toList]
    have h2 : xs.size - 1 - m < xs.size := by omega
    rw [Array.getElem?_eq_getElem h2]
    rfl
  have e2 : (List.range xs.size).filterMap (fun (m : Nat) => xs[(((xs.size : Nat) : Int) - 1 + (m : Int) * (-1)).toNat]?) = (List.range xs.size).map fun m => xs.toList.reverse.getD m .none := by
    generalize List.range xs.size = l at e
    induction l with
    | nil => rfl
    | cons a l ih => rw [List.filterMap_cons, e a List.mem_cons_self, List.map_cons, ih fun m hm => e m (List.mem_cons_of_mem _ hm)]
  rw [e2]
  apply List.ext_getElem
  · simp
  · intro i h1 h2
    simp at h1
    simp [h1]
theorem sliceApplied_rev {P : Program} {w : World} {A : Around} {E : Value → Shared → Prop} {s : Shared} {sl : Addr} {vl vu vs : Value} {n : Nat} {Q : Int × Int × Nat → Shared → Prop} (hs : s.heap.IsSliceOf sl vl vu vs) (pl : IsPart vl none) (pu : IsPart vu none) (ps : IsPart vs (some (-1)))
    (h : Q ((n : Int) - 1, -1, n) s) : wpAny (model P w) A (Builtin.Slice.sliceApplied (.ref sl) (pure (n : Int))) Q E s := by
  obtain ⟨os, hos, hcs, hds⟩ := id hs
  unfold Builtin.Slice.sliceApplied Builtin.Slice.sliceFields
  refine wpAny_bind (wpAny_bind (wpAny_field hos hds (x := vl) rfl (wpAny_bind (wpAny_field hos hds (x := vu) rfl (wpAny_bind (wpAny_field hos hds (x := vs) rfl (wpAny_pure ?_)))))))
  refine wpAny_bind (HT.slicePart_ ps ?_)
  show wpAny _ _ (if ((-1 : Int) == 0) = true then _ else _) _ _ s
  rw [if_neg (by decide)]
  refine wpAny_bind (HT.slicePart_ pl (wpAny_bind (HT.slicePart_ pu (wpAny_bind (wpAny_pure ?_)))))
  show wpAny _ _ (match Builtin.Slice.sliceAdjust none none (-1) (n : Int) with | (lo, hi) => pure (lo, (-1 : Int), Builtin.Slice.slicePlaces lo hi (-1))) _ _ s
  rw [adjust_rev n]
  show wpAny _ _ (pure ((n : Int) - 1, (-1 : Int), Builtin.Slice.slicePlaces ((n : Int) - 1) (-1) (-1))) _ _ s
  rw [places_rev]
  exact wpAny_pure h
open HT in
theorem getItem_tuple_rev {prog : Program} {w : World} {A : Around} {E : Value → Shared → Prop} {s : Shared} {t sl : Addr} {items : Array Value} {vl vu vs : Value} {Q : Value → Shared → Prop} (ht : IsTup s.heap t items) (hs : s.heap.IsSliceOf sl vl vu vs) (pl : IsPart vl none) (pu : IsPart vu none) (ps : IsPart vs (some (-1)))
    (h : Q (.ref s.heap.objs.size) { s with heap := s.heap.push { cls := .type "tuple", data := .seq items.toList.reverse.toArray } })
    (hsz : items.size ≤ sizeLine) : wpAny (model prog w) A (getItem (.ref t) (.ref sl)) Q E s := by
  have htake : sizeOk (.seq items.toList.reverse.toArray) := by
    show items.toList.reverse.toArray.size ≤ sizeLine
    rw [List.size_toArray, List.length_reverse, Array.length_toList]
    exact hsz
  obtain ⟨os, hos, hcs, hds⟩ := id hs
  have hTs : s.TypeIs (.ref sl) "slice" := ⟨os, hos, hcs⟩
  unfold getItem
  try with_reducible refine wpAny_holding ?_
  first | refine wpAny_bind (wpAny_pure ?_) | skip
  refine wpAny_bind (wpAny_sequenceKey ht.typeIs (by decide) ?_)
  refine wpAny_bind (wpAny_callSpecial?_slot (name := Str.ofString "__getitem__") ht.typeIs PyProof.Rows.slot_tuple_getitem
    (wpAny_call_entry PyProof.Rows.slot_tuple_getitem ht.typeIs entry_tuple_getitem ?_ (args_tuple_getitem _ _)))
  show wpAny _ _ (Builtin.Tuple.tupleItemsOf (.ref t) >>= _) _ _ s
  refine wpAny_bind (tupleItemsOf_ ht ?_)
  refine wpAny_bind (wpAny_typeOf hTs ?_)
  rw [if_pos (by decide)]
  refine wpAny_bind (sliceApplied_rev hs pl pu ps ?_)
  have hno : ¬ ((((items.size : Nat) : Int) - 1 == 0 && (-1 : Int) == 1 && items.size == items.size) = true) := by simp
  show wpAny _ _ (if (((items.size : Nat) : Int) - 1 == 0 && (-1 : Int) == 1 && items.size == items.size) = true then _ else _) _ _ s
  rw [if_neg hno, pick_rev]
  first
    | exact wpAny_bind (m := Builtin.Tuple.tupleExact _) (wpAny_newObj_type (wpAny_pure ⟨_, rfl, wpAny_pure h⟩) htake)
    | exact wpAny_bind (m := Builtin.Tuple.tupleExact _) (wpAny_newObj_type (wpAny_bind (wpAny_pure (wpAny_pure ⟨_, rfl, wpAny_pure h⟩))) htake)
    | exact wpAny_bind (wpAny_bind (m := Builtin.Tuple.tupleExact _) (wpAny_newObj_type (wpAny_pure (wpAny_pure ⟨_, rfl, wpAny_pure h⟩)) htake))
    | exact wpAny_bind (wpAny_bind (m := Builtin.Tuple.tupleExact _) (wpAny_newObj_type (wpAny_pure ⟨_, rfl, wpAny_pure h⟩) htake))
def tRevA (K : PySem.W.Frag) (te : TE) : TE := fun σ H Q => te σ H fun x H1 => ∃ a xs, x = .ref a ∧ ((SqL K H1 a xs ∧ ∀ p, H1 p = none → Q (.ref p) (upd H1 p (.lst xs.reverse))) ∨ (SqT K H1 a xs ∧ ∀ p, H1 p = none → Q (.ref p) (upd H1 p (.tup xs.reverse))))
theorem pe_revA {X : Cx} {e : Expr} {te : TE} {k : Nat} {p1 p2 p3 pos : Pos} (he : PE X e te) : PE X (.Subscript e (.Slice none none (some (.UnaryOp .USub (.Constant (.int 1) k p1) p2)) p3) pos) (tRevA X.K te) := by
  refine ⟨fun pins s σ H Q I h => ?_⟩
  refine Subscript_ (thn (he.run pins s σ H _ I h) fun v s1 ⟨x, H1, I1, r1, q1⟩ => ?_)
  obtain ⟨a, xs, ex, q1⟩ := q1
  subst ex
  cases r1
  have hst : PO X (some (.UnaryOp .USub (.Constant (.int 1) k p1) p2)) (tPart (tUn (rU fun i => .int (-i)) (tC (.int 1)))) := po_some (pe_un un_neg pe_int)
  refine wpAny_Slice (thn (po_none.run pins s1 σ H1 (fun o H2 => o = none ∧ H2 = H1) I1 ⟨rfl, rfl⟩) fun vl s2 ⟨l, H2, I2, pl, el, e2⟩ => ?_)
  subst el e2
  refine thn (po_none.run pins s2 σ H2 (fun o H3 => o = none ∧ H3 = H2) I2 ⟨rfl, rfl⟩) fun vu s3 ⟨u, H3, I3, pu, eu, e3⟩ => ?_
  subst eu e3
  refine thn (hst.run pins s3 σ H3 (fun o H4 => o = some (-1) ∧ H4 = H3) I3 ⟨1, rfl, -1, rfl, rfl, rfl⟩) fun vs s4 ⟨o, H4, I4, ps, eo, e4⟩ => ?_
  subst eo e4
  have I5 : Inv X pins σ H4 { s4 with heap := s4.heap.push { cls := .type "slice", data := .fields #[vl, vu, vs] } } := I4.kept (t' := s4.toks) fun b ob q => Heap.get?_push_of_some _ q
  rcases q1 with ⟨hx, q⟩ | ⟨hx, q⟩
  · obtain ⟨its, r, ht, hz⟩ := I5.list hx
    have hlen := r.length
    show wpAny (model X.prog X.w) X.A (subscriptTail e (.Slice none none (some (.UnaryOp .USub (.Constant (.int 1) k p1) p2)) p3) (.ref a) (.ref s4.heap.objs.size)) (EP X pins σ Q) X.xe { s4 with heap := s4.heap.push { cls := .type "slice", data := .fields #[vl, vu, vs] } }
    refine tail_any (ops := [.ref a, .ref s4.heap.objs.size]) ht.isList.typeIs (PySem.slot_list_getitem.lookup) ?_ (by with_unfolding_all rfl)
    refine wpAny_getItem_list_slice ht.isList (Heap.IsSliceOf.new _ vl vu vs) pl pu ps (by decide) ?_ (by rw [List.size_toArray]; omega)
    rw [PySem.W.krv_pick]
    refine ⟨.ref _, _, I5.laid (t' := s4.toks) (o := .lst xs.reverse) (fun b ob q => Heap.get?_push_of_some _ q) (Nat.le_refl _) ?_, rfl, q _ (I5.hok.fresh (Nat.le_refl _))⟩
    exact ⟨by rw [List.length_reverse]; exact hz, _, 0, r.reverse, Heap.get?_push_size _ rfl⟩
  · obtain ⟨its, r, ht, hz⟩ := I5.tuple hx
    have hlen := r.length
    show wpAny (model X.prog X.w) X.A (subscriptTail e (.Slice none none (some (.UnaryOp .USub (.Constant (.int 1) k p1) p2)) p3) (.ref a) (.ref s4.heap.objs.size)) (EP X pins σ Q) X.xe { s4 with heap := s4.heap.push { cls := .type "slice", data := .fields #[vl, vu, vs] } }
    refine tail_any (ops := [.ref a, .ref s4.heap.objs.size]) ht.typeIs (PyProof.Rows.slot_tuple_getitem.lookup) ?_ (by with_unfolding_all rfl)
    refine getItem_tuple_rev ht (Heap.IsSliceOf.new _ vl vu vs) pl pu ps ?_ (by rw [List.size_toArray]; omega)
    refine ⟨.ref _, _, I5.laid (t' := s4.toks) (o := .tup xs.reverse) (fun b ob q => Heap.get?_push_of_some _ q) (Nat.le_refl _) ?_, rfl, q _ (I5.hok.fresh (Nat.le_refl _))⟩
    exact ⟨by rw [List.length_reverse]; exact hz, _, r.reverse, IsTup.new _ _⟩

section
variable [τ : Tbl] [β : Bas] {X : Cx}
/-! ### x[::-1] -/
def zRev (te : DE) : DE := fun ρ G Q => te ρ G fun d G1 => match d with
  | .tup ds => Q (.tup ds.reverse) G1
  | .ref a => match G1 a with
    | some (.lst ds) => ∀ p G2, G1 p = none → At G1 p (.lst ds.reverse) G2 → Q (.ref p) G2
    | _ => False
  | _ => False
theorem z_rev {e : Expr} {te : DE} {k : Nat} {p1 p2 p3 pos : Pos} (he : ZE X e te) : ZE X (.Subscript e (.Slice none none (some (.UnaryOp .USub (.Constant (.int 1) k p1) p2)) p3) pos) (zRev te) := PEi (pe_revA he) fun σ H Q q => by
  obtain ⟨ρ, G, Q0, hs, hg, h, k⟩ := q
  refine ⟨ρ, G, _, hs, hg, h, fun d G1 x H1 h1 f1 g1 r1 => ?_⟩
  cases r1 with
  | tup hq r => exact ⟨_, _, rfl, .inr ⟨hq.sq, fun p hp => CK.tup (CK.go k f1) hp h1 g1 r.reverse⟩⟩
  | ref a =>
    simp only at h1
    split at h1
    · rename_i ds e
      obtain ⟨xs, hx, r⟩ := g1 a _ e
      exact ⟨_, _, rfl, .inl ⟨SqL.of hx, fun p hp => CK.new (m := .lst ds.reverse) (CK.go k f1) hp g1 ⟨_, upd_same, r.reverse.mono (tm_new hp)⟩ fun G' n at_ => h1 p G' n at_⟩⟩
    · cases h1
  | _ => exact False.elim h1
/-! ### t[a:b], the whole too -/
def dSlA : Z3 := fun d lo hi G Q => match d with
  | .tup ds => Q (.tup (cutD ds lo hi)) G
  | _ => False
theorem zsl_tupA : ZSl X dSlA := by
  intro pins s σ H x v vl vu lo hi sl Q I rx hs pl pu h
  refine sl_tupA pins s σ H x v vl vu lo hi sl Q I rx hs pl pu ?_
  obtain ⟨d, G, Q0, g, r, h, k⟩ := h
  unfold dSlA at h
  split at h
  · rename_i ds
    cases r with
    | tup hq r =>
      rename_i a xs
      refine ⟨_, xs, rfl, hq.sq, fun hw => ?_, fun hw p hp => CK.tup k hp h g (cut_rep r)⟩
      refine CK.at k h g (.tup hq ?_)
      rw [r.length] at hw
      have : cutD ds lo hi = ds := by
        unfold cutD
        rw [hw.1, hw.2]
        simp
      rw [this]
      exact r
  · cases h
/-! ### sorted -/
def fSortI : ZF := fun ds G Q => match ds with
  | [.ref a] => match G a with
    | some (.lst es) => ∃ ns : List Int, es = ns.map D.int ∧ ∀ (ns' : List Int) p G', ns'.Perm ns → ns'.Pairwise (· ≤ ·) → G p = none → At G p (.lst (ns'.map D.int)) G' → Q (.ref p) G'
    | _ => False
  | _ => False
theorem zf_sortI : ZCall X (.builtin "sorted") fSortI := CallRi cr_sortedI fun xs H Q q => by
  obtain ⟨ds, G, Q0, g, r, h, k⟩ := q
  unfold fSortI at h
  split at h
  · split at h
    · rename_i es e
      obtain ⟨ns, rfl, h⟩ := h
      cases r with
      | cons r1 r2 =>
        cases r2
        cases r1 with
        | ref a =>
          obtain ⟨ys, hy, ry⟩ := g _ _ e
          have := Reps.of_ints ry
          subst this
          exact ⟨_, ns, rfl, SqL.of hy, fun ns' p hp ho hn => CK.new (m := .lst (ns'.map D.int)) k hn g ⟨_, upd_same, Reps.ints ns'⟩ fun G' n at_ => h ns' p G' hp ho n at_⟩
    · cases h
  · cases h
def fSortD : ZF := fun ds G Q => match ds with
  | [.ref a] => match G a with
    | some (.dk kvs) => ∃ ns : List Int, kvs.map (·.1) = ns.map Sum.inl ∧ ns.length < 64 ∧ ∀ (ns' : List Int) p G', ns'.Perm ns → ns'.Pairwise (· ≤ ·) → G p = none → At G p (.lst (ns'.map D.int)) G' → Q (.ref p) G'
    | _ => False
  | _ => False
theorem RepKV.keys {κ : Type} {K : PySem.W.Frag} {H : Hp} : ∀ {ds : List (κ × D)} {vs : List (κ × V)}, RepKV K H vs ds → vs.map (·.1) = ds.map (·.1)
  | [], _, .nil => rfl
  | _ :: _, _, .cons _ r => by rw [List.map_cons, List.map_cons, RepKV.keys r]
theorem zf_sortD (hc : X.calm = true) : ZCall X (.builtin "sorted") fSortD := CallRi (call_sortedDI hc) fun xs H Q q => by
  obtain ⟨ds, G, Q0, g, r, h, k⟩ := q
  unfold fSortD at h
  split at h
  · split at h
    · rename_i es e
      obtain ⟨ns, hk, hl, h⟩ := h
      cases r with
      | cons r1 r2 =>
        cases r2
        cases r1 with
        | ref a =>
          obtain ⟨ys, hy, ry⟩ := g _ _ e
          exact ⟨_, ys, ns, rfl, .inl hy, ry.keys.trans hk, hl, fun ns' p hp ho hn => CK.new (m := .lst (ns'.map D.int)) k hn g ⟨_, upd_same, Reps.ints ns'⟩ fun G' n at_ => h ns' p G' hp ho n at_⟩
    · cases h
  · cases h
/-! ### min of two -/
def fMin2 : ZF := fun ds G Q => match ds with
  | [.int i, .int j] => Q (.int (if j < i then j else i)) G
  | _ => False
theorem zf_min2 (hc : X.calm = true) : ZCall X (.builtin "min") fMin2 := CallRi (call_min2 hc) fun xs H Q q => by
  obtain ⟨ds, G, Q0, g, r, h, k⟩ := q
  unfold fMin2 at h
  split at h
  · cases r with
    | cons r1 r2 =>
      cases r2 with
      | cons r2 r3 =>
        cases r3
        cases r1
        cases r2
        exact ⟨_, _, rfl, CK.at k h g (.int _)⟩
  · cases h
/-! ### d.setdefault(k, z), d.get(k, z) -/
def zSetd (td ty tx : DE) : DE := fun ρ G Q => td ρ G fun x G1 => match x with
  | .ref a => (∃ kvs, G1 a = some (.dk kvs)) ∧ ty ρ G1 fun y G2 => tx ρ G2 fun z G3 => match G3 a with
    | some (.dk kvs) => match keyD y with
      | some k => kvs.length < sizeLine ∧ match valD kvs k with
        | some v => Q v G3
        | none => ∀ G4, At G3 a (.dk (putD kvs k z)) G4 → Q z G4
      | none => False
    | _ => False
  | _ => False
theorem z_setd {o e f : Expr} {td ty tx : DE} {apos cpos : Pos} (ho : ZE X o td) (he : ZE X e ty) (hf : ZE X f tx) (m : M2 X o "setdefault" apos e f cpos) : ZE X (.Call (.Attribute o "setdefault" apos) [e, f] [] cpos) (zSetd td ty tx) := PEi (pe_dsetd ho he hf m) fun σ H Q q => by
  obtain ⟨ρ, G, Q0, hs, hg, h, k⟩ := q
  refine ⟨ρ, G, _, hs, hg, h, fun d G1 x H1 h1 f1 g1 r1 => ?_⟩
  cases r1 with
  | ref a =>
    simp only at h1
    obtain ⟨⟨kvs0, e0⟩, h1⟩ := h1
    obtain ⟨xs0, hx0, _⟩ := g1 a _ e0
    refine ⟨a, rfl, .inl ⟨xs0, .inl hx0⟩, ρ, G1, _, hs.mono (hg.tm f1), g1, h1, fun y G2 v2 H2 h2 f2 g2 r2 => ⟨ρ, G2, _, (hs.mono (hg.tm f1)).mono (g1.tm f2), g2, h2, fun z G3 v3 H3 h3 f3 g3 r3 => ?_⟩⟩
    split at h3
    · rename_i kvs e
      split at h3
      · rename_i kk ek
        obtain ⟨xs, hx, rk⟩ := g3 a _ e
        have ey := keyD_rep r2 ek
        have rv := rk.val kk
        refine ⟨xs, kk, hx, ey, by rw [rk.len]; exact h3.1, fun v hv => ?_, fun hv => ?_⟩
        · rw [hv] at rv
          cases ed : valD kvs kk with
          | none => rw [ed] at rv; exact rv.elim
          | some d =>
            rw [ed] at rv
            have h4 := h3.2
            rw [ed] at h4
            exact CK.at (CK.go k (f1.trans (f2.trans f3))) h4 g3 rv
        · rw [hv] at rv
          cases ed : valD kvs kk with
          | some d => rw [ed] at rv; exact rv.elim
          | none =>
            have h4 := h3.2
            rw [ed] at h4
            have tt := tm_set (o := .dK (putK xs kk v3)) hx fun z => z
            exact CK.set (m := .dk _) (CK.go k (f1.trans (f2.trans f3))) hx (fun z => z) e g3 ⟨_, upd_same, (rk.mono tt).put (r3.mono tt)⟩ (r3.mono tt) fun G' at_ => h4 G' at_
      · cases h3
    · cases h3
  | _ => exact False.elim h1
def zGet2 (td ty tx : DE) : DE := fun ρ G Q => td ρ G fun x G1 => match x with
  | .ref a => (∃ kvs, G1 a = some (.dk kvs)) ∧ ty ρ G1 fun y G2 => tx ρ G2 fun z G3 => match dGet G3 a y with
    | some o => Q (o.getD z) G3
    | none => False
  | _ => False
theorem z_get2 {o e f : Expr} {td ty tx : DE} {apos cpos : Pos} (hu : X.A.units + 1 < cLine) (ho : ZE X o td) (he : ZE X e ty) (hf : ZE X f tx) (m : M2 X o "get" apos e f cpos) : ZE X (.Call (.Attribute o "get" apos) [e, f] [] cpos) (zGet2 td ty tx) := PEi (pe_dget2 hu ho he hf m) fun σ H Q q => by
  obtain ⟨ρ, G, Q0, hs, hg, h, k⟩ := q
  refine ⟨ρ, G, _, hs, hg, h, fun d G1 x H1 h1 f1 g1 r1 => ?_⟩
  cases r1 with
  | ref a =>
    simp only at h1
    obtain ⟨⟨kvs0, e0⟩, h1⟩ := h1
    obtain ⟨xs0, hx0, _⟩ := g1 a _ e0
    refine ⟨a, rfl, .inl ⟨xs0, .inl hx0⟩, ρ, G1, _, hs.mono (hg.tm f1), g1, h1, fun y G2 v2 H2 h2 f2 g2 r2 => ⟨ρ, G2, _, (hs.mono (hg.tm f1)).mono (g1.tm f2), g2, h2, fun z G3 v3 H3 h3 f3 g3 r3 => ?_⟩⟩
    split at h3
    · rename_i o e
      obtain ⟨o', ho', ro⟩ := dget_rep g3 (r2.mono (g2.tm f3)) e
      refine ⟨o', ho', CK.at (CK.go k (f1.trans (f2.trans f3))) h3 g3 ?_⟩
      cases o' with
      | none =>
        cases o with
        | none => exact r3
        | some d => exact ro.elim
      | some v =>
        cases o with
        | none => exact ro.elim
        | some d => exact ro
    · cases h3
  | _ => exact False.elim h1

/-! ### dict(pairs), displays -/
def mergeD (kvs more : List (Key × D)) : List (Key × D) := more.foldl (fun acc kv => putD acc kv.1 kv.2) kvs
theorem RepKV.merge {K : PySem.W.Frag} {H : Hp} : ∀ {more : List (Key × D)} {ms : List (Key × V)} {kvs : List (Key × D)} {vs : List (Key × V)}, RepKV K H ms more → RepKV K H vs kvs → RepKV K H (mergeK vs ms) (mergeD kvs more)
  | [], _, _, _, .nil, r => r
  | _ :: more, _ :: ms, _, _, .cons h m, r => by
    show RepKV K H (mergeK (putK _ _ _) ms) (mergeD (putD _ _ _) more)
    exact RepKV.merge m (r.put h)
def fDictP : ZF := fun ds G Q => match ds with
  | [.ref a] => match G a with
    | some (.lst es) => ∃ kvs : List (Key × D), es = kvs.map (fun kv => .tup [kD kv.1, kv.2]) ∧ ∀ p G', G p = none → At G p (.dk (mergeD [] kvs)) G' → Q (.ref p) G'
    | _ => False
  | _ => False
theorem pairs_rep {K : PySem.W.Frag} {H : Hp} : ∀ {kvs : List (Key × D)} {xs : List V}, Reps K H xs (kvs.map fun kv => .tup [kD kv.1, kv.2]) → ∃ (ps : List Addr) (vs : List (Key × V)), xs = ps.map V.ref ∧ Paired (fun p kv => SqT K H p [kV kv.1, kv.2]) ps vs ∧ RepKV K H vs kvs
  | [], _, .nil => ⟨[], [], rfl, .nil, .nil⟩
  | kv :: kvs, _, .cons h r => by
    obtain ⟨ps, vs, rfl, hp, hr⟩ := pairs_rep r
    cases h with
    | tup hq rr =>
      rename_i a xs
      cases rr with
      | cons r1 r2 =>
        cases r2 with
        | cons r2 r3 =>
          cases r3
          rename_i k v
          have : k = kV kv.1 := by
            revert r1
            cases kv.1 with
            | inl i => intro r1; cases r1; rfl
            | inr i => intro r1; cases r1; rfl
          subst this
          exact ⟨a :: ps, (kv.1, v) :: vs, rfl, .cons hq.sq hp, .cons r2 hr⟩
theorem zf_dictP (hc : X.calm = true) : ZCall X (.type "dict") fDictP := CallRi (call_dictP hc) fun xs H Q q => by
  obtain ⟨ds, G, Q0, g, r, h, k⟩ := q
  unfold fDictP at h
  split at h
  · split at h
    · rename_i es e
      obtain ⟨kvs, rfl, h⟩ := h
      cases r with
      | cons r1 r2 =>
        cases r2
        cases r1 with
        | ref a =>
          obtain ⟨ys, hy, ry⟩ := g _ _ e
          obtain ⟨ps, vs, rfl, hp, hr⟩ := pairs_rep ry
          exact ⟨_, ps, vs, rfl, SqL.of hy, hp, fun p hn => CK.new (m := .dk (mergeD [] kvs)) k hn g ⟨_, upd_same, RepKV.merge (hr.mono (tm_new hn)) .nil⟩ fun G' n at_ => h p G' n at_⟩
    · cases h
  · cases h
def fDictD : ZF := fun ds G Q => match ds with
  | [.ref a] => match G a with
    | some (.dk kvs) => ∀ p G', G p = none → At G p (.dk kvs) G' → Q (.ref p) G'
    | _ => False
  | _ => False
theorem zf_dictD : ZCall X (.type "dict") fDictD := CallRi call_dictD fun xs H Q q => by
  obtain ⟨ds, G, Q0, g, r, h, k⟩ := q
  unfold fDictD at h
  split at h
  · split at h
    · rename_i es e
      cases r with
      | cons r1 r2 =>
        cases r2
        cases r1 with
        | ref a =>
          obtain ⟨ys, hy, ry⟩ := g _ _ e
          exact ⟨_, ys, rfl, .inl hy, fun p hn => CK.new (m := .dk es) k hn g ⟨_, upd_same, ry.mono (tm_new hn)⟩ fun G' n at_ => h p G' n at_⟩
    · cases h
  · cases h
def zPairs : List (DE × DE) → ZSt → Gp → (List (D × D) → Gp → Prop) → Prop
  | [], _, G, Q => Q [] G
  | (tk, tv) :: r, ρ, G, Q => tk ρ G fun x G1 => tv ρ G1 fun y G2 => zPairs r ρ G2 fun ps G3 => Q ((x, y) :: ps) G3
inductive ZPs (X : Cx) (pos : Pos) : List (Option Expr) → List Expr → List (DE × DE) → Prop where
  | nil : ZPs X pos [] [] []
  | cons {k v : Expr} {ks : List (Option Expr)} {vs : List Expr} {tk tv : DE} {ts : List (DE × DE)} : ZE X k tk → ZE X v tv → ZPs X pos ks vs ts → ZPs X pos (some k :: ks) (v :: vs) ((tk, tv) :: ts)
theorem ZPs.pps {pos : Pos} {ks : List (Option Expr)} {vs : List Expr} {ts : List (DE × DE)} (h : ZPs X pos ks vs ts) : PPs X pos ks vs (ts.map fun t => (upE X.K t.1, upE X.K t.2)) := by
  induction h with
  | nil => exact pps_nil
  | cons h1 h2 _ ih => exact pps_cons h1 h2 ih
inductive RepPs (K : PySem.W.Frag) (H : Hp) : List (V × V) → List (D × D) → Prop
  | nil : RepPs K H [] []
  | cons {v u : V} {d e : D} {vs : List (V × V)} {ds : List (D × D)} : Rep K H v d → Rep K H u e → RepPs K H vs ds → RepPs K H ((v, u) :: vs) ((d, e) :: ds)
theorem up_pairs {K : PySem.W.Frag} : ∀ {ts : List (DE × DE)} {σ : L2.St} {ρ : ZSt} {H : Hp} {G : Gp} {Q0 : List (D × D) → Gp → Prop} {Q : List (V × V) → Hp → Prop}, SimS K H σ ρ → SimG K H G → zPairs ts ρ G Q0 →
    (∀ ps G' vs H', Q0 ps G' → Fr H G H' G' → SimG K H' G' → RepPs K H' vs ps → Q vs H') → tPairs (ts.map fun t => (upE K t.1, upE K t.2)) σ H Q
  | [], σ, ρ, H, G, Q0, Q, hs, hg, h, k => k [] G [] H h (Fr.refl H G) hg .nil
  | (tk, tv) :: r, σ, ρ, H, G, Q0, Q, hs, hg, h, k => ⟨ρ, G, _, hs, hg, h, fun d G1 x H1 h1 f1 g1 r1 => ⟨ρ, G1, _, hs.mono (hg.tm f1), g1, h1, fun e G2 y H2 h2 f2 g2 r2 =>
      up_pairs ((hs.mono (hg.tm f1)).mono (g1.tm f2)) g2 h2 fun ps G3 vs H3 h3 f3 g3 r3 => k _ G3 _ H3 h3 (f1.trans (f2.trans f3)) g3 (.cons ((r1.mono (g1.tm f2)).mono (g2.tm f3)) (r2.mono (g2.tm f3)) r3)⟩⟩
theorem key_rep {K : PySem.W.Frag} {H : Hp} {v : V} {k : Key} (r : Rep K H v (kD k)) : v = kV k := by
  revert r
  cases k with
  | inl i => intro r1; cases r1; rfl
  | inr i => intro r1; cases r1; rfl
theorem RepPs.keys {K : PySem.W.Frag} {H : Hp} : ∀ {kvs : List (Key × D)} {vs : List (V × V)}, RepPs K H vs (kvs.map fun kv => (kD kv.1, kv.2)) → ∃ ks : List (Key × V), vs = ks.map (fun kv => (kV kv.1, kv.2)) ∧ RepKV K H ks kvs
  | [], _, .nil => ⟨[], rfl, .nil⟩
  | kv :: kvs, _, .cons r1 r2 r3 => by
    obtain ⟨ks, rfl, hr⟩ := RepPs.keys r3
    have e := key_rep r1
    subst e
    exact ⟨(kv.1, _) :: ks, rfl, .cons r2 hr⟩
def zDisp (ts : List (DE × DE)) : DE := fun ρ G Q => ∀ p G1, G p = none → At G p (.dk []) G1 → zPairs ts ρ G1 fun ps G2 => G2 p = some (.dk []) ∧ ∃ kvs : List (Key × D), ps = kvs.map (fun kv => (kD kv.1, kv.2)) ∧ kvs.length ≤ 15 ∧ ∀ G3, At G2 p (.dk (mergeD [] kvs)) G3 → Q (.ref p) G3
theorem z_disp {pos : Pos} {keys : List (Option Expr)} {values : List Expr} {ts : List (DE × DE)} (h : ZPs X pos keys values ts) (hall : keys.all (·.isSome) = true) (hl : keys.length = values.length) (h0 : keys ≠ []) (h15 : keys.length ≤ 15) : ZE X (.Dict keys values pos) (zDisp ts) := PEi (pe_disp h.pps hall hl h0 h15) fun σ H Q q => by
  obtain ⟨ρ, G, Q0, hs, hg, h, k⟩ := q
  intro p hp
  have g1 : SimG X.K (upd H p (.dK [])) (put G p (.dk [])) := hg.put (.inl hp) (tm_new hp) ⟨_, upd_same, .nil⟩
  have f1 : Fr H G (upd H p (.dK [])) (put G p (.dk [])) := Fr.put (.inl hp)
  refine up_pairs (hs.mono (hg.tm f1)) g1 (h p (put G p (.dk [])) (hg.none hp) (At.put G p _)) fun ps G2 vs H2 h2 f2 g2 r2 => ?_
  obtain ⟨e, kvs, rfl, hl, h2⟩ := h2
  obtain ⟨ks, rfl, hr⟩ := r2.keys
  obtain ⟨xs, hx, rx⟩ := g2 p _ e
  cases rx
  have tt := tm_set (o := .dK (mergeK [] ks)) hx fun z => z
  exact ⟨hx, ks, rfl, by rw [hr.len]; exact hl, CK.set (m := .dk _) (CK.go k (f1.trans f2)) hx (fun z => z) e g2 ⟨_, upd_same, RepKV.merge (hr.mono tt) .nil⟩ (.ref p) fun G' at_ => h2 G' at_⟩
/-! ### == of dicts of rows of ints, where it is True -/
def dEqDL : Z2 := fun x y G Q => match x, y with
  | .ref a, .ref b => match G a, G b with
    | some (.dk ks), some (.dk ls) => ks.length = ls.length ∧ (∀ p ∈ ks, ∃ (a1 b1 : Addr) (ns : List Int), p.2 = .ref a1 ∧ valD ls p.1 = some (.ref b1) ∧ G a1 = some (.lst (ns.map D.int)) ∧ G b1 = some (.lst (ns.map D.int))) ∧ Q (.bl true) G
    | _, _ => False
  | _, _ => False
theorem RepKV.mem {κ : Type} {K : PySem.W.Frag} {H : Hp} : ∀ {ds : List (κ × D)} {vs : List (κ × V)} {q : κ × V}, RepKV K H vs ds → q ∈ vs → ∃ p ∈ ds, p.1 = q.1 ∧ Rep K H q.2 p.2
  | [], _, q, .nil, m => by cases m
  | _ :: _, _ :: _, q, .cons h r, m => by
    rcases List.mem_cons.mp m with rfl | m
    · exact ⟨_, List.mem_cons_self, rfl, h⟩
    · obtain ⟨p, h1, h2⟩ := r.mem m
      exact ⟨p, List.mem_cons_of_mem _ h1, h2⟩
theorem ints_paired {E : V → V → Prop} (h : ∀ i : Int, E (.int i) (.int i)) : ∀ ns : List Int, Paired E (ns.map V.int) (ns.map V.int)
  | [] => .nil
  | n :: ns => .cons (h n) (ints_paired h ns)
theorem zo_eqDL (hu : X.A.units + 64 < cLine) : ZOp X (compareOp .Eq) dEqDL := OpRi (op_eqV hu) fun x y H Q q => by
  obtain ⟨d, e, G, Q0, g, rx, ry, h, k⟩ := q
  unfold dEqDL at h
  split at h
  · split at h
    · rename_i a b ks ls e1 e2
      cases rx
      cases ry
      obtain ⟨us, hu, ru⟩ := g _ _ e1
      obtain ⟨ws, hw, rw'⟩ := g _ _ e2
      refine ⟨2, by decide, .inr ⟨_, _, us, ws, rfl, rfl, hu, hw, by rw [ru.len, rw'.len]; exact h.1, fun q hq => ?_⟩, CK.at k h.2.2 g (.bl _)⟩
      obtain ⟨p, hp, ep, rp⟩ := ru.mem hq
      obtain ⟨a1, b1, ns, c1, c2, c3, c4⟩ := h.2.1 p hp
      have rv := rw'.val p.1
      rw [c2] at rv
      cases ev : valV ws p.1 with
      | none => rw [ev] at rv; exact rv.elim
      | some u =>
        rw [ev] at rv
        rw [c1] at rp
        obtain ⟨x1, hx1, rx1⟩ := g _ _ c3
        obtain ⟨x2, hx2, rx2⟩ := g _ _ c4
        have := Reps.of_ints rx1
        subst this
        have := Reps.of_ints rx2
        subst this
        have e3 : q.2 = .ref a1 := by
          revert rp
          generalize q.2 = z
          intro rp
          cases rp
          rfl
        have e4 : u = .ref b1 := by cases rv; rfl
        refine ⟨u, by rw [← ep]; exact ev, .inr (.inr ?_)⟩
        rw [e3, e4]
        exact .inl ⟨_, _, _, _, rfl, rfl, SqL.of hx1, SqL.of hx2, ints_paired (fun i => .inl ⟨rfl, rfl⟩) ns⟩
    · cases h
  · cases h
/-! ### a text in a dict of the written part -/
def dInKd (d : Addr) (neg : Bool) : Z2 := fun x y G Q => match x, y with
  | .str z, .ref b => b = d ∧ ∃ r : Option Value, PySem.W.nsIn X.K d z = some r ∧ Q (.bl (if neg then !r.isSome else r.isSome)) G
  | _, _ => False
theorem zo_in_kd {d : Addr} {es : Array DictEntry} {n : Nat} (D : KDict X.K X.w d es n) : ZOp X (compareOp .In) (dInKd (X := X) d false) := OpRi (op_in_kd D) fun x y H Q q => by
  obtain ⟨a, e, G, Q0, g, rx, ry, h, k⟩ := q
  unfold dInKd at h
  split at h
  · obtain ⟨rfl, r, h1, h2⟩ := h
    cases rx
    cases ry
    exact ⟨_, r, rfl, rfl, h1, CK.at k h2 g (.bl _)⟩
  · cases h
theorem zo_notin_kd {d : Addr} {es : Array DictEntry} {n : Nat} (D : KDict X.K X.w d es n) : ZOp X (compareOp .NotIn) (dInKd (X := X) d true) := OpRi (op_notIn_kd D) fun x y H Q q => by
  obtain ⟨a, e, G, Q0, g, rx, ry, h, k⟩ := q
  unfold dInKd at h
  split at h
  · obtain ⟨rfl, r, h1, h2⟩ := h
    cases rx
    cases ry
    exact ⟨_, r, rfl, rfl, h1, CK.at k h2 g (.bl _)⟩
  · cases h
theorem z_gref {x : Str} {a : Addr} {pos : Pos} (hg : Gl X x) (hm : X.mg x = some (.ref a)) (hd : (x == ("__debug__" : Str)) = false := by decide) : ZE X (.Name x pos) (zC (.ref a)) := up_glob (v := .ref a) hg hm rfl (fun H => .ref a) hd
end
end Z

namespace Z
open PySem PySem.Spec PyProof.Rows L2
/-! ### plain data: ints, texts, None and tuples of such, to a depth -/
def pl : Nat → D → Bool
  | _, .non => true
  | _, .int _ => true
  | _, .str x => PyData.strOk x
  | n + 1, .tup ds => ds.all (pl n)
  | _, _ => false
theorem pds_all {n : Nat} (ih : ∀ d, pl n d = true → ∃ p, pd d = some p ∧ p.canLay0 = true ∧ p.depth ≤ n) : ∀ {ds : List D}, ds.all (pl n) = true → ∃ ps, pds ds = some ps ∧ PyData.canLayAll0 ps = true ∧ PyData.depthAll ps ≤ n
  | [], _ => ⟨[], rfl, rfl, by simp [PyData.depthAll]⟩
  | d :: ds, h => by
    rw [List.all_cons, Bool.and_eq_true] at h
    obtain ⟨p, e1, c1, d1⟩ := ih d h.1
    obtain ⟨ps, e2, c2, d2⟩ := pds_all ih h.2
    refine ⟨p :: ps, ?_, ?_, ?_⟩
    · show (match pd d, pds ds with | some p, some ps => some (p :: ps) | _, _ => none) = _
      rw [e1, e2]
    · show (p.canLay0 && PyData.canLayAll0 ps) = true
      rw [c1, c2]
      rfl
    · simp only [PyData.depthAll]
      omega
theorem pl_pd : ∀ (n : Nat) (d : D), pl n d = true → ∃ p, pd d = some p ∧ p.canLay0 = true ∧ p.depth ≤ n
  | n, .non, _ => ⟨.none, rfl, rfl, by simp [PyData.depth]⟩
  | n, .int i, _ => ⟨.int i, rfl, rfl, by simp [PyData.depth]⟩
  | n, .str x, h => ⟨.str x, rfl, by show PyData.strOk x = true; cases n <;> exact h, by simp [PyData.depth]⟩
  | n + 1, .tup ds, h => by
    obtain ⟨ps, e, c, dd⟩ := pds_all (pl_pd n) (ds := ds) h
    refine ⟨.tuple ps, ?_, c, ?_⟩
    · show (pds ds).map PyData.tuple = _
      rw [e]
      rfl
    · simp only [PyData.depth]
      omega
  | 0, .tup ds, h => by cases h
  | n, .bl _, h => by cases n <;> cases h
  | n, .ty _, h => by cases n <;> cases h
  | n, .ref _, h => by cases n <;> cases h
  | n, .ct _, h => by cases n <;> cases h
  | n, .cl _, h => by cases n <;> cases h

theorem pl_down {n : Nat} {ds : List D} (h : pl n (.tup ds) = true) : ∃ m, n = m + 1 ∧ ds.all (pl m) = true := by
  cases n with
  | zero => cases h
  | succ m => exact ⟨m, rfl, h⟩
theorem pd_tup {ds : List D} {p : PyData} (h : pd (.tup ds) = some p) : ∃ ps, pds ds = some ps ∧ p = .tuple ps := by
  have h : (pds ds).map PyData.tuple = some p := h
  cases e : pds ds with
  | none => rw [e] at h; cases h
  | some ps => rw [e] at h; cases h; exact ⟨ps, rfl, rfl⟩
theorem pds_cons {d : D} {ds : List D} {qs : List PyData} (h : pds (d :: ds) = some qs) : ∃ p ps, pd d = some p ∧ pds ds = some ps ∧ qs = p :: ps := by
  have h : (match pd d, pds ds with | some p, some ps => some (p :: ps) | _, _ => none) = some qs := h
  split at h
  · rename_i p ps e1 e2
    cases h
    exact ⟨p, ps, e1, e2, rfl⟩
  · cases h
theorem pds_eq {n : Nat} (ih : ∀ (d : D) (e : D) (p q : PyData) (m : Nat), pl n d = true → pl m e = true → pd d = some p → pd e = some q → (PyData.eqv p q = true ↔ d = e)) :
    ∀ {ds es : List D} {ps qs : List PyData} {m : Nat}, ds.all (pl n) = true → es.all (pl m) = true → pds ds = some ps → pds es = some qs → (PyData.eqvAll ps qs = true ↔ ds = es)
  | [], [], ps, qs, m, _, _, e1, e2 => by cases e1; cases e2; simp [PyData.eqvAll]
  | [], e :: es, ps, qs, m, _, _, e1, e2 => by
    cases e1
    obtain ⟨q, qs', _, _, rfl⟩ := pds_cons e2
    simp [PyData.eqvAll]
  | d :: ds, [], ps, qs, m, _, _, e1, e2 => by
    cases e2
    obtain ⟨q, qs', _, _, rfl⟩ := pds_cons e1
    simp [PyData.eqvAll]
  | d :: ds, e :: es, ps, qs, m, h1, h2, e1, e2 => by
    rw [List.all_cons, Bool.and_eq_true] at h1 h2
    obtain ⟨p, ps', a1, a2, rfl⟩ := pds_cons e1
    obtain ⟨q, qs', b1, b2, rfl⟩ := pds_cons e2
    simp only [PyData.eqvAll, Bool.and_eq_true]
    rw [ih d e p q m h1.1 h2.1 a1 b1, pds_eq ih h1.2 h2.2 a2 b2, List.cons.injEq]
theorem pl_eq : ∀ (n : Nat) (d e : D) (p q : PyData) (m : Nat), pl n d = true → pl m e = true → pd d = some p → pd e = some q → (PyData.eqv p q = true ↔ d = e) := by
  intro n
  induction n with
  | zero =>
    intro d e p q m hd he e1 e2
    cases d with
    | non => cases e1; cases e with
      | non => cases e2; simp [PyData.eqv]
      | int i => cases e2; simp [PyData.eqv]
      | str x => cases e2; simp [PyData.eqv]
      | tup ds => obtain ⟨ps, _, rfl⟩ := pd_tup e2; simp [PyData.eqv]
      | _ => cases m <;> cases he
    | int i => cases e1; cases e with
      | non => cases e2; simp [PyData.eqv]
      | int i => cases e2; simp [PyData.eqv]
      | str x => cases e2; simp [PyData.eqv]
      | tup ds => obtain ⟨ps, _, rfl⟩ := pd_tup e2; simp [PyData.eqv]
      | _ => cases m <;> cases he
    | str x => cases e1; cases e with
      | non => cases e2; simp [PyData.eqv]
      | int i => cases e2; simp [PyData.eqv]
      | str x => cases e2; simp [PyData.eqv]
      | tup ds => obtain ⟨ps, _, rfl⟩ := pd_tup e2; simp [PyData.eqv]
      | _ => cases m <;> cases he
    | _ => cases hd
  | succ n ih =>
    intro d e p q m hd he e1 e2
    cases d with
    | non => cases e1; cases e with
      | non => cases e2; simp [PyData.eqv]
      | int i => cases e2; simp [PyData.eqv]
      | str x => cases e2; simp [PyData.eqv]
      | tup ds => obtain ⟨ps, _, rfl⟩ := pd_tup e2; simp [PyData.eqv]
      | _ => cases m <;> cases he
    | int i => cases e1; cases e with
      | non => cases e2; simp [PyData.eqv]
      | int i => cases e2; simp [PyData.eqv]
      | str x => cases e2; simp [PyData.eqv]
      | tup ds => obtain ⟨ps, _, rfl⟩ := pd_tup e2; simp [PyData.eqv]
      | _ => cases m <;> cases he
    | str x => cases e1; cases e with
      | non => cases e2; simp [PyData.eqv]
      | int i => cases e2; simp [PyData.eqv]
      | str x => cases e2; simp [PyData.eqv]
      | tup ds => obtain ⟨ps, _, rfl⟩ := pd_tup e2; simp [PyData.eqv]
      | _ => cases m <;> cases he
    | tup ds =>
      obtain ⟨ps, a1, rfl⟩ := pd_tup e1
      cases e with
      | non => cases e2; simp [PyData.eqv]
      | int i => cases e2; simp [PyData.eqv]
      | str x => cases e2; simp [PyData.eqv]
      | tup es =>
        obtain ⟨qs, b1, rfl⟩ := pd_tup e2
        obtain ⟨m', rfl, he'⟩ := pl_down he
        show PyData.eqvAll ps qs = true ↔ _
        rw [pds_eq (fun d e p q m => ih d e p q m) hd he' a1 b1, D.tup.injEq]
      | _ => cases m <;> cases he
    | _ => cases hd
/-! ### ==, !=, in, not in of plain data -/
def dEqP (neg : Bool) : Z2 := fun d e G Q => (pl 60 d = true ∧ pl 60 e = true ∧ ∀ c : Bool, (c = true ↔ d = e) → Q (.bl (neg != c)) G) ∨
  ∃ a b ds es, d = .ref a ∧ e = .ref b ∧ G a = some (.lst ds) ∧ G b = some (.lst es) ∧ ds.all (pl 60) = true ∧ es.all (pl 60) = true ∧ ∀ c : Bool, (c = true ↔ ds = es) → Q (.bl (neg != c)) G
theorem shaped_of {p : PyData} {n : Nat} (hn : n ≤ 63) (h1 : p.canLay0 = true) (h2 : p.depth ≤ n) : SeqAt.shaped p = true := by
  unfold SeqAt.shaped
  rw [h1]
  simp
  omega
theorem shaped_list {ps : List PyData} {n : Nat} (hn : n ≤ 62) (h1 : PyData.canLayAll0 ps = true) (h2 : PyData.depthAll ps ≤ n) : SeqAt.shaped (.list ps) = true :=
  shaped_of (n := n + 1) (by omega) h1 (by simp only [PyData.depth]; omega)
theorem shaped_tup {ps : List PyData} {n : Nat} (hn : n ≤ 62) (h1 : PyData.canLayAll0 ps = true) (h2 : PyData.depthAll ps ≤ n) : SeqAt.shaped (.tuple ps) = true :=
  shaped_of (n := n + 1) (by omega) h1 (by simp only [PyData.depth]; omega)
section
variable [τ : Tbl] [β : Bas] {X : Cx}
theorem lst_dp {K : PySem.W.Frag} {H : Hp} {G : Gp} {a : Addr} {v : V} {ds : List D} {ps : List PyData} (g : SimG K H G) (r : Rep K H v (.ref a)) (e : G a = some (.lst ds)) (h : pds ds = some ps) : Dp K H v (.list ps) := by
  refine pdT_dp g r ?_
  show (match G a with | some (.lst ds) => (pds ds).map PyData.list | _ => none) = _
  rw [e]
  simp [h]
theorem zo_eqP (hu : X.A.units + 64 < cLine) : ZOp X (compareOp .Eq) (dEqP false) := OpRi (op_eqD hu) fun x y H Q q => by
  obtain ⟨d, e, G, Q0, g, rx, ry, h | ⟨a, b, ds, es, rfl, rfl, e1, e2, p1, p2, h⟩, k⟩ := q
  · obtain ⟨p1, p2, h⟩ := h
    obtain ⟨p, a1, a2, a3⟩ := pl_pd 60 d p1
    obtain ⟨q, b1, b2, b3⟩ := pl_pd 60 e p2
    exact ⟨p, q, rx.dp a1, ry.dp b1, shaped_of (n := 60) (by decide) a2 a3, shaped_of (n := 60) (by decide) b2 b3, CK.at k (by have := h (PyData.eqv p q) (pl_eq 60 d e p q 60 p1 p2 a1 b1); simpa using this) g (.bl _)⟩
  · obtain ⟨ps, a1, a2, a3⟩ := pds_all (pl_pd 60) p1
    obtain ⟨qs, b1, b2, b3⟩ := pds_all (pl_pd 60) p2
    refine ⟨.list ps, .list qs, lst_dp g rx e1 a1, lst_dp g ry e2 b1, shaped_list (n := 60) (by decide) a2 a3, shaped_list (n := 60) (by decide) b2 b3, CK.at k ?_ g (.bl _)⟩
    have := h (PyData.eqvAll ps qs) (pds_eq (pl_eq 60) p1 p2 a1 b1)
    simpa [PyData.eqv] using this
theorem zo_neP (hu : X.A.units + 64 < cLine) : ZOp X (compareOp .NotEq) (dEqP true) := OpRi (op_neD hu) fun x y H Q q => by
  obtain ⟨d, e, G, Q0, g, rx, ry, h | ⟨a, b, ds, es, rfl, rfl, e1, e2, p1, p2, h⟩, k⟩ := q
  · obtain ⟨p1, p2, h⟩ := h
    obtain ⟨p, a1, a2, a3⟩ := pl_pd 60 d p1
    obtain ⟨q, b1, b2, b3⟩ := pl_pd 60 e p2
    exact ⟨p, q, rx.dp a1, ry.dp b1, shaped_of (n := 60) (by decide) a2 a3, shaped_of (n := 60) (by decide) b2 b3, CK.at k (by have := h (PyData.eqv p q) (pl_eq 60 d e p q 60 p1 p2 a1 b1); simpa using this) g (.bl _)⟩
  · obtain ⟨ps, a1, a2, a3⟩ := pds_all (pl_pd 60) p1
    obtain ⟨qs, b1, b2, b3⟩ := pds_all (pl_pd 60) p2
    refine ⟨.list ps, .list qs, lst_dp g rx e1 a1, lst_dp g ry e2 b1, shaped_list (n := 60) (by decide) a2 a3, shaped_list (n := 60) (by decide) b2 b3, CK.at k ?_ g (.bl _)⟩
    have := h (PyData.eqvAll ps qs) (pds_eq (pl_eq 60) p1 p2 a1 b1)
    simpa [PyData.eqv] using this
def dInP (neg : Bool) : Z2 := fun d e G Q => ∃ ds : List D, (e = .tup ds ∨ ∃ b, e = .ref b ∧ G b = some (.lst ds)) ∧ pl 60 d = true ∧ ds.all (pl 60) = true ∧ ∀ c : Bool, (c = true ↔ d ∈ ds) → Q (.bl (neg != c)) G
def rInA (K : PySem.W.Frag) (neg : Bool) : R2 := fun x y H Q => ∃ d ds, Dp K H x d ∧ (Dp K H y (.list ds) ∨ Dp K H y (.tuple ds)) ∧ SeqAt.shaped d = true ∧ SeqAt.shaped (.list ds) = true ∧ Q (.bl (neg != (ds.any fun z => PyData.eqv z d))) H
theorem op_inA (hu : X.A.units + 65 < cLine) : OpR X (compareOp .In) (rInA X.K false) := by
  intro pins s σ H x y v u Q I rx ry h
  obtain ⟨d, ds, hd, he, sd, se, q⟩ := h
  obtain ⟨as, r1⟩ := Dp.reads I d x v hd rx
  have q' : Q (.bl (ds.any fun z => PyData.eqv z d)) H := by simpa using q
  rcases he with he | he
  · obtain ⟨bs, r2⟩ := Dp.reads I (.list ds) y u he ry
    exact SeqAt.in_list_reads r2 r1 (SeqAt.canLay_of_shaped se) (SeqAt.canLay_of_shaped sd) (room_in_shaped sd hu) ⟨.bl _, H, I, rfl, q'⟩
  · obtain ⟨bs, r2⟩ := Dp.reads I (.tuple ds) y u he ry
    exact SeqAt.in_tuple_reads r2 r1 (SeqAt.canLay_of_shaped se) (SeqAt.canLay_of_shaped sd) (room_in_shaped sd hu) ⟨.bl _, H, I, rfl, q'⟩
theorem op_notInA (hu : X.A.units + 65 < cLine) : OpR X (compareOp .NotIn) (rInA X.K true) := by
  intro pins s σ H x y v u Q I rx ry h
  obtain ⟨d, ds, hd, he, sd, se, q⟩ := h
  obtain ⟨as, r1⟩ := Dp.reads I d x v hd rx
  have q' : Q (.bl (!ds.any fun z => PyData.eqv z d)) H := by simpa using q
  rcases he with he | he
  · obtain ⟨bs, r2⟩ := Dp.reads I (.list ds) y u he ry
    exact SeqAt.notIn_list_reads r2 r1 (SeqAt.canLay_of_shaped se) (SeqAt.canLay_of_shaped sd) (room_in_shaped sd hu) ⟨.bl _, H, I, rfl, q'⟩
  · obtain ⟨bs, r2⟩ := Dp.reads I (.tuple ds) y u he ry
    exact SeqAt.notIn_tuple_reads r2 r1 (SeqAt.canLay_of_shaped se) (SeqAt.canLay_of_shaped sd) (room_in_shaped sd hu) ⟨.bl _, H, I, rfl, q'⟩
theorem any_mem {n m : Nat} {d : D} {p : PyData} (hd : pl n d = true) (ep : pd d = some p) : ∀ {ds : List D} {ps : List PyData}, ds.all (pl m) = true → pds ds = some ps → ((ps.any fun z => PyData.eqv z p) = true ↔ d ∈ ds)
  | [], ps, _, e => by cases e; simp
  | x :: ds, ps, h, e => by
    rw [List.all_cons, Bool.and_eq_true] at h
    obtain ⟨q, qs, a1, a2, rfl⟩ := pds_cons e
    rw [List.any_cons, Bool.or_eq_true, any_mem hd ep h.2 a2, pl_eq m x d q p n h.1 hd a1 ep, List.mem_cons]
    exact ⟨fun z => z.elim (fun z => .inl z.symm) .inr, fun z => z.elim (fun z => .inl z.symm) .inr⟩
theorem in_up {K : PySem.W.Frag} {neg : Bool} {x y : V} {H : Hp} {Q : VK} (q : upR2 K (dInP neg) x y H Q) : rInA K neg x y H Q := by
  obtain ⟨d, e, G, Q0, g, rx, ry, ⟨ds, he, p1, p2, h⟩, k⟩ := q
  obtain ⟨p, a1, a2, a3⟩ := pl_pd 60 d p1
  obtain ⟨qs, b1, b2, b3⟩ := pds_all (pl_pd 60) p2
  refine ⟨p, qs, rx.dp a1, ?_, shaped_of (n := 60) (by decide) a2 a3, shaped_list (n := 60) (by decide) b2 b3, CK.at k (h _ (any_mem p1 a1 p2 b1)) g (.bl _)⟩
  rcases he with rfl | ⟨b, rfl, e⟩
  · refine .inr (ry.dp ?_)
    show (pds ds).map PyData.tuple = _
    rw [b1]
    rfl
  · exact .inl (lst_dp g ry e b1)
theorem zo_inP (hu : X.A.units + 65 < cLine) : ZOp X (compareOp .In) (dInP false) := OpRi (op_inA hu) fun x y H Q q => in_up q
theorem zo_notinP (hu : X.A.units + 65 < cLine) : ZOp X (compareOp .NotIn) (dInP true) := OpRi (op_notInA hu) fun x y H Q q => in_up q
end
theorem all_ints {n : Nat} : ∀ ns : List Int, (ns.map D.int).all (pl n) = true
  | [] => rfl
  | i :: ns => by
    rw [List.map_cons, List.all_cons, all_ints ns]
    cases n <;> rfl
theorem mem_ints {i : Int} {ns : List Int} : D.int i ∈ ns.map D.int ↔ i ∈ ns := by
  rw [List.mem_map]
  constructor
  · rintro ⟨j, h, e⟩
    cases e
    exact h
  · intro h
    exact ⟨i, h, rfl⟩
theorem ints_inj {ns ms : List Int} : ns.map D.int = ms.map D.int ↔ ns = ms := by
  constructor
  · intro h
    induction ns generalizing ms with
    | nil => cases ms with
      | nil => rfl
      | cons m ms => cases h
    | cons n ns ih => cases ms with
      | nil => cases h
      | cons m ms =>
        rw [List.map_cons, List.map_cons] at h
        injection h with h1 h2
        injection h1 with h1
        rw [h1, ih h2]
  · rintro rfl
    rfl
end Z

namespace Z
open PySem PySem.Spec PyProof.Rows L2
open Sem (wp)
set_option maxHeartbeats 1000000 in
open AutoSeq1 (wpAny_loadPart') in
theorem enum_new1 {v : Value} {o : Obj} {H : Heap → Prop} (B : Begins v o H) :
    Meets (Builtin.«enumerate.__new__» ⟨[.type "enumerate", v], []⟩) (fun _ R s => H s.heap ∧
      R (.ok (.ret (.ref (s.heap.push o).objs.size))) { s with heap := (s.heap.push o).push { cls := .type "enumerate", data := .fields #[.none, .bool false, .ref s.heap.objs.size, rawInt 0, .none, .none] } }) :=
  .of_wp fun prog w A R s h => by
    obtain ⟨hp, g, d, tk, os⟩ := s; obtain ⟨h1, h⟩ := h
    have hsub := sub_enumerate
    have q1 : ∀ {A' : Around} {E : Value → Shared → Prop} {Q : Value → Shared → Prop}, Q (.ref hp.objs.size) ⟨hp.push o, g, d, tk, os⟩ → wpAny (model prog w) A' (pyIter v) Q E ⟨hp, g, d, tk, os⟩ :=
      fun q => B.iter prog w _ _ ⟨hp, g, d, tk, os⟩ _ h1 q
    wp_walk using q1
    refine wpAny_stack_any fun st => wpAny_pure ?_
    split
    · rename_i c _ _ _ _ _
      cases (c == Value.type "enumerate")
      · wp_walk using q1
        exact ⟨_, rfl, h⟩
      · wp_walk using q1
        exact ⟨_, rfl, h⟩
    · wp_walk using q1
      exact ⟨_, rfl, h⟩
theorem enum_call1 {prog : Program} {w : World} {A : Around} {E : Value → Shared → Prop} {s : Shared} {v : Value} {o : Obj} {H : Heap → Prop} {Q : Value → Shared → Prop} (B : Begins v o H) (h1 : H s.heap)
    (h : ∀ h', IsEnum h' (s.heap.objs.size + 1) s.heap.objs.size 0 .none → h'.get? s.heap.objs.size = some o → h'.objs.size = s.heap.objs.size + 2 →
      (∀ b o, s.heap.get? b = some o → h'.get? b = some o) → Q (.ref (s.heap.objs.size + 1)) { s with heap := h' }) :
    wpAny (model prog w) A (call (.type "enumerate") [v]) Q E s := by
  refine callType_new F.called_enumerate (by decide) (F.typeCall_enumerate_1 _) (F.newCall_enumerate_1 _) (fun obj => F.args_object_init_2 obj _) F.entry_enumerate_new
    (enum_new1 B) ⟨h1, ?_⟩
  have hz : (s.heap.push o).objs.size = s.heap.objs.size + 1 := Heap.size_push ..
  show _ ∧ _
  rw [hz]
  have he : IsEnum ((s.heap.push o).push { cls := .type "enumerate", data := .fields #[.none, .bool false, .ref s.heap.objs.size, rawInt 0, .none, .none] }) (s.heap.objs.size + 1) s.heap.objs.size 0 .none := by
    have := Heap.get?_push_size (s.heap.push o) (o := { cls := .type "enumerate", data := .fields #[.none, .bool false, .ref s.heap.objs.size, rawInt 0, .none, .none] }) rfl
    rw [hz] at this; exact this
  refine ⟨⟨_, he, rfl⟩, h _ he (Heap.get?_push_of_some _ (Heap.get?_push_size _ B.free)) (by rw [Heap.size_push, hz]) fun b o x => Heap.get?_push_of_some _ (Heap.get?_push_of_some _ x)⟩
/-! ### enumerate(tuple) -/
def IteT (K : PySem.W.Frag) (a : Addr) : It :=
  ⟨fun i H => ∃ (xs : List V) (x : V), SqT K H a xs ∧ xs[i]? = some x, fun i H v H' => ∃ T x, v = .ref T ∧ H T = none ∧ H' = upd H T (.tup [.int (i : Nat), x]) ∧ ∀ xs, SqT K H a xs → xs[i]? = some x, fun i H => ∃ xs : List V, SqT K H a xs ∧ xs.length ≤ i⟩
theorem turn_enumT {P : Program} {w : World} {K : PySem.W.Frag} {elts : List Expr} {kk : Nat} {tpos : Pos} (a e it : Addr) (hai : a ≠ it) (hea : e ≠ a) :
    Turn P w K (.Tuple elts kk tpos) (IteT K a) [e, it] e (fun i h => (∃ old, IsEnum h e it ((i : Nat) : Int) old) ∧ h.IsTupleIter it a i ∧ e ≠ it) where
  mem := by simp
  obj := fun i h st b hb => by
    obtain ⟨⟨old, he⟩, ⟨o, ho, hc, hd⟩, _⟩ := st
    have e' : b = e ∨ b = it := by simpa using hb
    rcases e' with z | z
    · rw [z]; exact ⟨_, he, fun v q => nomatch q⟩
    · rw [z]; exact ⟨o, ho, fun v q => by rw [hd] at q; cases q⟩
  keep := fun i h h' st k => let ⟨⟨old, he⟩, hi, hne⟩ := st; ⟨⟨old, k e (by simp) _ he⟩, hi.at fun o q => k it (by simp) o q, hne⟩
  item := by
    intro X hP hw hK hc i pins s σ H E I hf st hg
    subst hP hw hK
    obtain ⟨⟨old, he⟩, hit, hne⟩ := st
    obtain ⟨xs, x, hq, hx⟩ := hg
    obtain ⟨its, rv, p, hz⟩ := I.tuple hq
    obtain ⟨u, hu, ru⟩ := rv.get hx
    have hel : e < s.heap.objs.size := Heap.lt_size he
    have hil : it < s.heap.objs.size := by obtain ⟨_, q, _⟩ := hit; exact Heap.lt_size q
    have hlt : i < its.toArray.size := by rw [List.size_toArray]; exact (List.getElem?_eq_some_iff.mp hu).1
    refine wpAny_pyNext_enum_itemD (Draws.tuple (A := X.A.in1) (I.ok.hd hc) it a hai its.toArray) he ⟨hit, p⟩ hlt hne (by simp [hne, hea]) fun v h' tk hv ho st' hT hsz hk => ?_
    have hv' : v = u := by
      have h1 : its.toArray[i]? = some v := hv
      have h2 : its.toArray[i]? = some u := by simpa using hu
      exact Option.some.inj (h1.symm.trans h2)
    subst hv'
    obtain ⟨hit', _⟩ := st'
    refine ⟨_, rfl, wpAny_letOwnedTupleGo_enum (s := { s with heap := h', toks := tk + 1 }) ho fun h'' he' sb => ?_⟩
    have hT2 : h''.get? s.heap.objs.size = some { cls := .type "tuple", data := .seq #[.int i tk, v] } := (sb.2 _ (Nat.ne_of_gt hel)).trans hT
    have new : ObjOk X.prog X.w (upd H s.heap.objs.size (.tup [.int (i : Nat), x])) h'' s.heap.objs.size (.tup [.int (i : Nat), x]) :=
      ⟨by show 2 ≤ sizeLine; decide, [.int i tk, v], .cons ⟨_, rfl⟩ (.cons ru .nil), ⟨_, hT2, rfl, _, rfl⟩⟩
    have I1 : Inv X pins σ (upd H s.heap.objs.size (.tup [.int (i : Nat), x])) { s with heap := h'', toks := tk + 1 } :=
      I.turnedNew (ch := [e, it]) (fun b ob hb q => (sb.2 b (fun z => hb (by simp [z]))).trans (hk b ob (fun z => hb (by simp [z])) (fun z => hb (by simp [z])) q)) hf (Nat.le_refl _) new
    refine ⟨.ref s.heap.objs.size, _, I1, rfl, ⟨_, x, rfl, I.hok.fresh (Nat.le_refl _), rfl, fun ys hy => by rw [I.tuple_inj hy hq]; exact hx⟩, ⟨⟨v, ?_⟩, hit'.at fun o q => (sb.2 it (Ne.symm hne)).trans q, hne⟩, fun b hb => ?_⟩
    · have e1 : ((i + 1 : Nat) : Int) = (i : Int) + 1 := by omega
      rw [e1]; exact he'
    · have hb' : b < s.heap.objs.size := by
        have e' : b = e ∨ b = it := by simpa using hb
        rcases e' with z | z
        · rw [z]; exact hel
        · rw [z]; exact hil
      rw [upd_ne (Nat.ne_of_lt hb')]
      exact (hf b hb).1
  done := by
    intro X hP hw hK hc i pins s σ H E I hf st hg
    subst hP hw hK
    obtain ⟨⟨old, he⟩, hit, hne⟩ := st
    obtain ⟨xs, hq, hx⟩ := hg
    obtain ⟨its, rv, p, hz⟩ := I.tuple hq
    obtain ⟨f0, f1, f2, f3, f4, f5⟩ := hf it (by simp)
    have hl := rv.length
    have hT : s.TypeIs (.ref e) "enumerate" := ⟨_, he, rfl⟩
    unfold pyNext
    refine wpAny_bind (wpAny_attempt (wpAny_callSpecial?_slot (name := Str.ofString "__next__") hT F.slot_enumerate_next
      (wpAny_call_entry F.slot_enumerate_next hT F.entry_enumerate_next ?_ (F.args_enumerate_next_1 _))))
    show wpAny _ _ (field (.ref e) 2 >>= _) _ _ _
    refine wpAny_bind (wpAny_field he rfl (x := .ref it) rfl ?_)
    refine wpAny_bind (wpAny_nextOf_tuple_end (I.ok.hd hc) hit p (by simp; omega) fun h' x he' hx' => ?_)
    obtain ⟨o, ho, hc'⟩ := hx'
    refine wpAny_bind (wpAny_isInstance (T := "StopIteration") (b := true) ⟨o, ho, hc'⟩ isSubtype_stop ?_)
    exact wpAny_pure ⟨rfl, I.turned (t' := s.toks) (fun b o hb q => he' b o hb q) f0 f1 f3 f4 f5⟩
  self := fun A i s Q E st h => let ⟨⟨_, he⟩, _⟩ := st; wpAny_pyIter_enum he h
def iEnumA (K : PySem.W.Frag) (ta : TA) : TI := fun σ H R => ta σ H fun vs H1 => ∃ a xs, vs = [.ref a] ∧ ((SqL K H1 a xs ∧ R (Ite K a) H1) ∨ (SqT K H1 a xs ∧ R (IteT K a) H1))
theorem pi_enumA {X : Cx} {e : Expr} {ta : TA} {p pos tpos : Pos} {elts : List Expr} {kk : Nat} (hg : Gl X "enumerate") (hm : X.mg "enumerate" = none) (ha : PA X [e] ta) (hs : starEach [e] X.env = [(false, eval e X.env)] := by rfl) :
    PI X (.Tuple elts kk tpos) (.Call (.Name "enumerate" p) [e] [] pos) (iEnumA X.K ta) := by
  refine ⟨fun pins s σ H R I h => ?_⟩
  refine Call_ (ld_blt I hg hm boot_enumerate (PyProof.Rows.callWith_type1 (thn (ha.run pos pins s σ H _ I h) fun us s1 ⟨vs, H1, I1, r1, q1⟩ => ?_) hs rfl))
  obtain ⟨a, xs, ex, q⟩ := q1
  subst ex
  cases r1 with
  | cons r rr =>
    cases rr
    cases r
    have fp : ∀ b, b ∈ [s1.heap.objs.size + 1, s1.heap.objs.size] → FpOk X pins H1 b := fun b hb => by
      have e' : b = s1.heap.objs.size + 1 ∨ b = s1.heap.objs.size := by simpa using hb
      have hle : s1.heap.objs.size ≤ b := by
        rcases e' with z | z
        · rw [z]; exact Nat.le_add_right _ _
        · rw [z]; exact Nat.le_refl _
      exact I1.fpOk hle (I1.hok.fresh hle)
    rcases q with ⟨hq, q⟩ | ⟨hq, q⟩
    · obtain ⟨its, rv, p', hz⟩ := I1.list hq
      refine call_enumerate_list p'.isList fun h' he hit hsz hk => wpAny_pyIter_enum he ?_
      have I2 : Inv X pins σ H1 { s1 with heap := h' } := I1.kept (t' := s1.toks) hk
      exact ⟨s1.heap.objs.size + 1, [s1.heap.objs.size + 1, s1.heap.objs.size], _, _, H1, rfl, I2, turn_enum a (s1.heap.objs.size + 1) s1.heap.objs.size, ⟨⟨.none, he⟩, hit, Nat.succ_ne_self _⟩, fp, q⟩
    · obtain ⟨its, rv, p', hz⟩ := I1.tuple hq
      obtain ⟨o, ho, _⟩ := id p'
      have hlt := Heap.lt_size ho
      refine enum_call1 (begins_tuple a its.toArray) p' fun h' he hit hsz hk => wpAny_pyIter_enum he ?_
      have I2 : Inv X pins σ H1 { s1 with heap := h' } := I1.kept (t' := s1.toks) hk
      exact ⟨s1.heap.objs.size + 1, [s1.heap.objs.size + 1, s1.heap.objs.size], _, _, H1, rfl, I2, turn_enumT a (s1.heap.objs.size + 1) s1.heap.objs.size (Nat.ne_of_lt hlt) (by have : a < s1.heap.objs.size := hlt; exact fun z => absurd z (Nat.ne_of_gt (Nat.lt_succ_of_lt this))), ⟨⟨.none, he⟩, ⟨_, hit, rfl, rfl⟩, Nat.succ_ne_self _⟩, fp, q⟩

theorem itok_enumT [τ : Tbl] [β : Bas] {K : PySem.W.Frag} {Hs : Hp} {a : Addr} {ys : List V} {ds : List D} (hq : TqT K Hs a ys) (r : Reps K Hs ys ds) : ItOk K Hs (IteT K a) (enD ds) (fun _ => True) where
  go := fun i H G t g l hi => by
    rw [enD_len] at hi
    obtain ⟨v, hv, _⟩ := r.get (List.getElem?_eq_getElem hi)
    exact ⟨ys, v, (t.tq hq).sq, hv⟩
  yld := fun i d H G x H' t g l hi y => by
    obtain ⟨T, w, rfl, hT, rfl, y⟩ := y
    obtain ⟨e, he, rfl⟩ := enD_get hi
    obtain ⟨v, hv, rv⟩ := r.get he
    have e := y ys (t.tq hq).sq
    rw [hv] at e
    cases e
    have t2 := tm_new (o := .tup [.int (i : Nat), w]) hT
    exact ⟨Fr.tup hT, g.keep hT, .tup upd_same (.cons (.int _) (.cons ((rv.mono t).mono t2) .nil))⟩
  stop := fun H G t g l => ⟨ys, (t.tq hq).sq, by rw [r.length, enD_len]; exact Nat.le_refl _⟩
theorem itok_zipT [τ : Tbl] [β : Bas] {K : PySem.W.Frag} {Hs : Hp} {a b : Addr} {xs ys : List V} {ds es : List D} (hq : TqT K Hs a xs) (r : Reps K Hs xs ds) (hq2 : TqT K Hs b ys) (r2 : Reps K Hs ys es) : ItOk K Hs (RZ.ItzT K a b) (zipD ds es) (fun _ => True) where
  go := fun i H G t g l hi => by
    rw [zipD_len] at hi
    obtain ⟨v, hv, _⟩ := r.get (List.getElem?_eq_getElem (show i < ds.length by omega))
    obtain ⟨w, hw, _⟩ := r2.get (List.getElem?_eq_getElem (show i < es.length by omega))
    exact ⟨xs, ys, v, w, (t.tq hq).sq, (t.tq hq2).sq, hv, hw⟩
  yld := fun i d H G x H' t g l hi y => by
    obtain ⟨T, w, u, rfl, hT, rfl, y1, y2⟩ := y
    obtain ⟨e1, e2, he1, he2, rfl⟩ := zipD_get hi
    obtain ⟨v, hv, rv⟩ := r.get he1
    obtain ⟨v2, hv2, rv2⟩ := r2.get he2
    have e := y1 xs (t.tq hq).sq
    rw [hv] at e
    cases e
    have e := y2 ys (t.tq hq2).sq
    rw [hv2] at e
    cases e
    have t2 := tm_new (o := .tup [w, u]) hT
    exact ⟨Fr.tup hT, g.keep hT, .tup upd_same (.cons ((rv.mono t).mono t2) (.cons ((rv2.mono t).mono t2) .nil))⟩
  stop := fun H G t g l => by
    refine ⟨xs, ys, (t.tq hq).sq, (t.tq hq2).sq, ?_⟩
    have h1 := r.length
    have h2 := r2.length
    rw [zipD_len]
    omega
section
variable [τ : Tbl] [β : Bas] {X : Cx} {a b : Expr} {tA : DA} {p pos : Pos}
def zEnumA (tA : DA) : DI := fun ρ G Q => tA ρ G fun ds G1 => match ds with
  | [.ref a] => (match G1 a with
    | some (.lst ds) => Q (enD ds) (fun G => G a = some (.lst ds)) G1
    | _ => False)
  | [.tup ds] => Q (enD ds) (fun _ => True) G1
  | _ => False
theorem zi_enumA {elts : List Expr} {kk : Nat} {tpos : Pos} (hg : Gl X "enumerate") (hm : X.mg "enumerate" = none) (ha : ZA X [a] tA) (hs : starEach [a] X.env = [(false, eval a X.env)] := by rfl) :
    ZI X (.Tuple elts kk tpos) (.Call (.Name "enumerate" p) [a] [] pos) (zEnumA tA) := PIi (pi_enumA hg hm ha hs) fun σ H R q => by
  obtain ⟨ρ, G, Q0, hs, hg, h, k⟩ := q
  refine ⟨ρ, G, _, hs, hg, h, fun ds G1 xs H1 h1 f1 g1 r1 => ?_⟩
  cases r1 with
  | nil => exact False.elim h1
  | cons r r2 =>
    cases r2 with
    | cons r3 r4 => cases r <;> exact False.elim h1
    | nil =>
      cases r with
      | ref q =>
        simp only at h1
        split at h1
        · rename_i ds e
          obtain ⟨xs, hx, r⟩ := g1 q _ e
          exact ⟨q, xs, rfl, .inl ⟨SqL.of hx, k _ _ G1 H1 _ h1 f1 g1 itok_enum⟩⟩
        · cases h1
      | tup hq r => exact ⟨_, _, rfl, .inr ⟨hq.sq, k _ _ G1 H1 _ h1 f1 g1 (itok_enumT hq r)⟩⟩
      | _ => exact False.elim h1
def zZipA (tA : DA) : DI := fun ρ G Q => tA ρ G fun ds G1 => match ds with
  | [.ref a, .ref b] => (match G1 a, G1 b with
    | some (.lst ds), some (.lst es) => Q (zipD ds es) (fun G => G a = some (.lst ds) ∧ G b = some (.lst es)) G1
    | _, _ => False)
  | [.tup ds, .tup es] => Q (zipD ds es) (fun _ => True) G1
  | _ => False
theorem zi_zipA {elts : List Expr} {kk : Nat} {tpos : Pos} (hg : Gl X "zip") (hm : X.mg "zip" = none) (ha : ZA X [a, b] tA) (hs : starEach [a, b] X.env = (false, eval a X.env) :: starEach [b] X.env := by rfl) (hpl : (backTo pos (starEach [b] X.env)).any (·.1) = false := by rfl) :
    ZI X (.Tuple elts kk tpos) (.Call (.Name "zip" p) [a, b] [] pos) (zZipA tA) := PIi (RZ.pi_zipA hg hm ha hs hpl) fun σ H R q => by
  obtain ⟨ρ, G, Q0, hs, hg, h, k⟩ := q
  refine ⟨ρ, G, _, hs, hg, h, fun ds G1 xs H1 h1 f1 g1 r1 => ?_⟩
  split at h1
  · split at h1
    · rename_i a b _ _ ds es e e2
      cases r1 with
      | cons ra r1 =>
        cases r1 with
        | cons rb r1 =>
          cases r1
          cases ra
          cases rb
          obtain ⟨xs, hx, r⟩ := g1 _ _ e
          obtain ⟨ys, hy, r2⟩ := g1 _ _ e2
          exact ⟨_, _, xs, ys, rfl, .inl ⟨SqL.of hx, SqL.of hy, k _ _ G1 H1 _ h1 f1 g1 itok_zip⟩⟩
    · cases h1
  · cases r1 with
    | cons ra r1 =>
      cases r1 with
      | cons rb r1 =>
        cases r1
        cases ra with
        | tup hq r =>
          cases rb with
          | tup hq2 r2 => exact ⟨_, _, _, _, rfl, .inr ⟨hq.sq, hq2.sq, k _ _ G1 H1 _ h1 f1 g1 (itok_zipT hq r hq2 r2)⟩⟩
  · cases h1
end
end Z

namespace Z
open PySem PySem.Spec PyProof.Rows L2
/-! ### one step of a reading at a time -/
section
variable {te ta tb tc to tv td ty tx : DE} {c : DT} {tA : DA} {t e u : DS} {Z : ZEnds} {ρ : ZSt} {G : Gp} {i j l : Nat} {g : DG} {gs : DGs} {Q R : DK} {d : D} {T : Bool → Gp → Prop} {QA : List D → Gp → Prop}
theorem r_asg (h : te ρ G fun d G1 => u Z (ρ.set i (some d)) G1) : zSeq (zAsg te (zName i)) u Z ρ G := h
theorem r_asgT {n : Nat} (h : te ρ G fun d G1 => match d with | .tup ds => ds.length = n ∧ gs ds ρ G1 (u Z) | _ => False) : zSeq (zAsg te (zgTup n gs)) u Z ρ G := h
theorem r_asgG (h : te ρ G fun d G1 => g d ρ G1 (u Z)) : zSeq (zAsg te g) u Z ρ G := h
theorem r_asg1 (h : te ρ G fun d G1 => g d ρ G1 Z.nx) : zAsg te g Z ρ G := h
theorem r_if (h : c ρ G fun b G1 => if b = true then t { Z with nx := u Z } ρ G1 else e { Z with nx := u Z } ρ G1) : zSeq (zIfS c t e) u Z ρ G := h
theorem r_if1 (h : c ρ G fun b G1 => if b = true then t Z ρ G1 else e Z ρ G1) : zIfS c t e Z ρ G := h
theorem r_drop (h : te ρ G fun _ G1 => u Z ρ G1) : zSeq (zDrop te) u Z ρ G := h
theorem r_drop1 (h : te ρ G fun _ G1 => Z.nx ρ G1) : zDrop te Z ρ G := h
theorem r_ret (h : te ρ G Z.rt) : zSeq (zRet te) u Z ρ G := h
theorem r_ret1 (h : te ρ G Z.rt) : zRet te Z ρ G := h
theorem r_retN (h : Z.rt .non G) : zRetN Z ρ G := h
theorem r_nx (h : u Z ρ G) : zSeq zNext u Z ρ G := h
theorem r_nx1 (h : Z.nx ρ G) : zNext Z ρ G := h
theorem r_bk (h : Z.bk ρ G) : zBreak Z ρ G := h
theorem r_ct (h : Z.ct ρ G) : zCont Z ρ G := h
theorem r_par (h : tA ρ G fun ds G1 => match ds with | [d, e] => u Z ((ρ.set i (some d)).set j (some e)) G1 | _ => False) : zSeq (zPar i j tA) u Z ρ G := h
theorem r_par1 (h : tA ρ G fun ds G1 => match ds with | [d, e] => Z.nx ((ρ.set i (some d)).set j (some e)) G1 | _ => False) : zPar i j tA Z ρ G := h
theorem r_par3 (h : tA ρ G fun ds G1 => match ds with | [d, e, f] => u Z (((ρ.set i (some d)).set j (some e)).set l (some f)) G1 | _ => False) : zSeq (zPar3 i j l tA) u Z ρ G := h
theorem r_par31 (h : tA ρ G fun ds G1 => match ds with | [d, e, f] => Z.nx (((ρ.set i (some d)).set j (some e)).set l (some f)) G1 | _ => False) : zPar3 i j l tA Z ρ G := h
theorem r_for {zi : DI} (h : zi ρ G fun items live G1 => ∃ P : Nat → ZSt → Gp → Prop, P 0 ρ G1 ∧
    (∀ i d ρ' G', items[i]? = some d → P i ρ' G' → live G' ∧ g d ρ' G' fun ρ2 G2 => t { nx := P (i + 1), ct := P (i + 1), bk := u Z, rt := Z.rt } ρ2 G2) ∧ ∀ ρ' G', P items.length ρ' G' → live G' ∧ u Z ρ' G') : zSeq (zFor zi g t) u Z ρ G := h
theorem r_for1 {zi : DI} (h : zi ρ G fun items live G1 => ∃ P : Nat → ZSt → Gp → Prop, P 0 ρ G1 ∧
    (∀ i d ρ' G', items[i]? = some d → P i ρ' G' → live G' ∧ g d ρ' G' fun ρ2 G2 => t { nx := P (i + 1), ct := P (i + 1), bk := Z.nx, rt := Z.rt } ρ2 G2) ∧ ∀ ρ' G', P items.length ρ' G' → live G' ∧ Z.nx ρ' G') : zFor zi g t Z ρ G := h
theorem r_while (h : ∃ W : Nat → ZSt → Gp → Prop, (∃ m, W m ρ G) ∧ ∀ m ρ' G', W m ρ' G' →
    c ρ' G' fun b G1 => if b = true then t { nx := fun ρ2 G2 => ∃ m', m' < m ∧ W m' ρ2 G2, ct := fun ρ2 G2 => ∃ m', m' < m ∧ W m' ρ2 G2, bk := u Z, rt := Z.rt } ρ' G1 else u Z ρ' G1) : zSeq (zWhile c t) u Z ρ G := h
theorem r_aug {z : Z2} {x : D} (h : ρ[i]? = some (some x)) (q : te ρ G fun d G1 => z x d G1 fun y G2 => u Z (ρ.set i (some y)) G2) : zSeq (zAug i te z) u Z ρ G := by
  show (match ρ[i]? with | some (some x) => _ | _ => False)
  rw [h]
  exact q
theorem r_aug1 {z : Z2} {x : D} (h : ρ[i]? = some (some x)) (q : te ρ G fun d G1 => z x d G1 fun y G2 => Z.nx (ρ.set i (some y)) G2) : zAug i te z Z ρ G := by
  show (match ρ[i]? with | some (some x) => _ | _ => False)
  rw [h]
  exact q
theorem r_name {x : D} {QS : ZSt → Gp → Prop} (h : QS (ρ.set i (some x)) G) : zName i x ρ G QS := h
theorem r_gtup {n : Nat} {ds : List D} {QS : ZSt → Gp → Prop} (hn : ds.length = n) (h : gs ds ρ G QS) : zgTup n gs (.tup ds) ρ G QS := ⟨hn, h⟩
theorem r_gcons {x : D} {xs : List D} {QS : ZSt → Gp → Prop} (h : g x ρ G fun ρ' G' => gs xs ρ' G' QS) : zgCons g gs (x :: xs) ρ G QS := h
theorem r_gnil {QS : ZSt → Gp → Prop} (h : QS ρ G) : zgNil [] ρ G QS := ⟨rfl, h⟩
/- expressions -/
theorem r_var (h : ρ[i]? = some (some d)) (q : Q d G) : zVar i ρ G Q := by
  unfold zVar
  rw [h]
  exact q
theorem r_c (q : Q d G) : zC d ρ G Q := q
theorem r_op {z : Z2} (h : ta ρ G fun d G1 => tb ρ G1 fun e G2 => z d e G2 Q) : zOp z ta tb ρ G Q := h
theorem r_ifE (h : c ρ G fun b G1 => if b = true then ta ρ G1 Q else tb ρ G1 Q) : zIf c ta tb ρ G Q := h
theorem r_nil (h : QA [] G) : zNil ρ G QA := h
theorem r_cons (h : ta ρ G fun d G1 => tA ρ G1 fun ds G2 => QA (d :: ds) G2) : zCons ta tA ρ G QA := h
theorem r_yes (h : T true G) : zYes ρ G T := h
theorem r_tup (h : tA ρ G fun ds G1 => ds.length ≤ sizeLine ∧ Q (.tup ds) G1) : zTup tA ρ G Q := h
theorem r_lst (h : tA ρ G fun ds G1 => ds.length ≤ sizeLine ∧ ∀ p G2, G1 p = none → At G1 p (.lst ds) G2 → Q (.ref p) G2) : zLst tA ρ G Q := h
theorem r_cb {z : ZF} (h : tA ρ G fun ds G1 => z ds G1 Q) : zCB z tA ρ G Q := h
theorem r_call {z : ZSp} {E0 : XKz} (h : tA ρ G fun ds G1 => z ds G1 Q E0) : zCall z E0 tA ρ G Q := h
theorem r_test (h : te ρ G fun d G1 => match d with | .bl b => T b G1 | _ => False) : zTest te ρ G T := h
theorem r_not {c : DT} (h : c ρ G fun b G1 => T (!b) G1) : zNot c ρ G T := h
theorem r_and {c1 c2 : DT} (h : c1 ρ G fun b G1 => if b = true then c2 ρ G1 T else T false G1) : zAnd c1 c2 ρ G T := h
theorem r_or {c1 c2 : DT} (h : c1 ρ G fun b G1 => if b = true then T true G1 else c2 ρ G1 T) : zOrT c1 c2 ρ G T := h
theorem r_andV (h : ta ρ G fun d G1 => match d with | .bl c => if c = true then tb ρ G1 Q else Q (.bl false) G1 | _ => False) : zAndV ta tb ρ G Q := h
theorem r_orV (h : ta ρ G fun d G1 => match d with | .bl c => if c = true then Q (.bl true) G1 else tb ρ G1 Q | _ => False) : zOrV ta tb ρ G Q := h
theorem r_notV (h : ta ρ G fun d G1 => match d with | .bl c => Q (.bl (!c)) G1 | _ => False) : zNotV ta ρ G Q := h
theorem r_neg (h : ta ρ G fun d G1 => match d with | .int i => Q (.int (-i)) G1 | _ => False) : zNeg ta ρ G Q := h
theorem r_bm {T0 : String} {z : ZM} (h : to ρ G fun d G1 => tyZ T0 d G1 ∧ tA ρ G1 fun ds G2 => z d ds G2 Q) : zBM T0 z to tA ρ G Q := h
theorem r_bm0 {T0 : String} {z : ZM} (h : to ρ G fun d G1 => tyZ T0 d G1 ∧ z d [] G1 Q) : zBM0 T0 z to ρ G Q := h
theorem r_sl {z : Z3} {tl th : DO} (h : te ρ G fun d G1 => tl ρ G1 fun l G2 => th ρ G2 fun u G3 => z d l u G3 Q) : zSl z te tl th ρ G Q := h
theorem r_part {QO : Option Int → Gp → Prop} (h : te ρ G fun d G1 => match d with | .int i => QO (some i) G1 | _ => False) : zPart te ρ G QO := h
theorem r_noP {QO : Option Int → Gp → Prop} (h : QO none G) : zNoP ρ G QO := h
theorem r_chain {z z' : Z2} (h : ta ρ G fun x G1 => tb ρ G1 fun y G2 => z x y G2 fun c G3 => match c with | .bl k => if k = true then tc ρ G3 fun w G4 => z' y w G4 Q else Q (.bl false) G3 | _ => False) : zChain z z' ta tb tc ρ G Q := h
theorem r_int2 {f : Int → Int → D} {a b : Int} (h : Q (f a b) G) : dI0 f (.int a) (.int b) G Q := h
theorem r_intC {C : Int → Int → Prop} {f : Int → Int → D} {a b : Int} (hc : C a b) (h : Q (f a b) G) : dI C f (.int a) (.int b) G Q := ⟨hc, h⟩
theorem r_eqI {neg : Bool} {a b : Int} (h : Q (.bl (neg != decide (a = b))) G) : dEqF neg (.int a) (.int b) G Q := h
theorem r_eqS {neg : Bool} {a b : Str} (h : Q (.bl (neg != decide (a = b))) G) : dEqF neg (.str a) (.str b) G Q := h
theorem r_eqB {neg : Bool} {a b : Bool} (h : Q (.bl (neg != decide (a = b))) G) : dEqF neg (.bl a) (.bl b) G Q := h
theorem r_fInt {a : Int} (h : Q (.int a) G) : fInt [.int a] G Q := h
theorem r_fIntB {b : Bool} (h : Q (.int (if b then 1 else 0)) G) : fInt [.bl b] G Q := h
theorem r_fAbs {a : Int} (h : Q (.int (if a < 0 then -a else a)) G) : fAbs [.int a] G Q := h
theorem r_fMin {a b : Int} (h : Q (.int (if b < a then b else a)) G) : fMin2 [.int a, .int b] G Q := h
theorem seq_ref {a : Addr} {ds : List D} (h : G a = some (.lst ds)) : seqD G (.ref a) = some ds := by
  show (match G a with | some (.lst ds) => some ds | _ => none) = _
  rw [h]
theorem r_lenR {a : Addr} {ds : List D} (h : G a = some (.lst ds)) (q : Q (.int (ds.length : Nat)) G) : fLen [.ref a] G Q := by
  show (match seqD G (.ref a) with | some es => Q (.int (es.length : Nat)) G | none => False)
  rw [seq_ref h]
  exact q
theorem r_lenT {ds : List D} (q : Q (.int (ds.length : Nat)) G) : fLen [.tup ds] G Q := q
theorem r_lenS {x : Str} (h : x.length ≤ sizeLine) (q : Q (.int (x.length : Nat)) G) : fLen [.str x] G Q := ⟨h, q⟩
theorem r_isNN {neg : Bool} (h : Q (.bl (!neg)) G) : dIsN neg .non .non G Q := h
theorem r_isNI {neg : Bool} {x : Int} (h : Q (.bl neg) G) : dIsN neg (.int x) .non G Q := h
theorem r_isNT {neg : Bool} {x : List D} (h : Q (.bl neg) G) : dIsN neg (.tup x) .non G Q := h
theorem r_isNR {neg : Bool} {x : Addr} (h : Q (.bl neg) G) : dIsN neg (.ref x) .non G Q := h
theorem r_ixR {a : Addr} {ds : List D} {n : Nat} {x : D} (h : G a = some (.lst ds)) (hx : ds[n]? = some x) (q : Q x G) : dIx (.ref a) (.int (n : Int)) G Q := by
  show (match seqD G (.ref a) with | some ds => (match atI ds n with | some x => Q x G | none => False) | none => False)
  rw [seq_ref h]
  show (match atI ds n with | some x => Q x G | none => False)
  rw [atI_nat hx]
  exact q
theorem r_ixT {ds : List D} {n : Nat} {x : D} (hx : ds[n]? = some x) (q : Q x G) : dIx (.tup ds) (.int (n : Int)) G Q := by
  show (match atI ds n with | some x => Q x G | none => False)
  rw [atI_nat hx]
  exact q
theorem r_ixT0 {d : D} {ds : List D} (q : Q d G) : dIx (.tup (d :: ds)) (.int 0) G Q := r_ixT (n := 0) rfl q
theorem r_ixT1 {d d1 : D} {ds : List D} (q : Q d1 G) : dIx (.tup (d :: d1 :: ds)) (.int 1) G Q := r_ixT (n := 1) rfl q
theorem r_ixT2 {d d1 d2 : D} {ds : List D} (q : Q d2 G) : dIx (.tup (d :: d1 :: d2 :: ds)) (.int 2) G Q := r_ixT (n := 2) rfl q
theorem r_ixT3 {d d1 d2 d3 : D} {ds : List D} (q : Q d3 G) : dIx (.tup (d :: d1 :: d2 :: d3 :: ds)) (.int 3) G Q := r_ixT (n := 3) rfl q
def kFld (C : Addr) (f : Str) (d : D) (G1 : Gp) (Q : DK) : Prop := match d with
  | .ref a => (match G1 a with
    | some (.obj C' _ fs) => C' = C ∧ (match fs.lookup f with
      | some x => Q x G1
      | none => False)
    | _ => False)
  | _ => False
theorem r_fld {C : Addr} {f : Str} (h : to ρ G fun d G1 => kFld C f d G1 Q) : zFld C to f ρ G Q := h
theorem r_kfld {C dx a : Addr} {f : Str} {fs : List (Str × D)} {x : D} (h1 : G a = some (.obj C dx fs)) (h2 : fs.lookup f = some x) (q : Q x G) : kFld C f (.ref a) G Q := by
  show (match G a with | some (.obj C' _ fs) => C' = C ∧ (match fs.lookup f with | some x => Q x G | none => False) | _ => False)
  rw [h1]
  show C = C ∧ (match fs.lookup f with | some x => Q x G | none => False)
  rw [h2]
  exact ⟨rfl, q⟩
def kSFld (C : Addr) (f : Str) (y x : D) (G2 : Gp) (Q : Gp → Prop) : Prop := match x with
  | .ref a => (match G2 a with
    | some (.obj C' dx fs) => C' = C ∧ fs.length < 1000 ∧ ∀ G3, At G2 a (.obj C dx (putA f y fs)) G3 → Q G3
    | _ => False)
  | _ => False
theorem r_sfld {C : Addr} {f : Str} (h : tv ρ G fun y G1 => to ρ G1 fun x G2 => kSFld C f y x G2 (u Z ρ)) : zSeq (zSFld C to tv f) u Z ρ G := h
theorem r_sfld1 {C : Addr} {f : Str} (h : tv ρ G fun y G1 => to ρ G1 fun x G2 => kSFld C f y x G2 (Z.nx ρ)) : zSFld C to tv f Z ρ G := h
theorem r_ksfld {C dx a : Addr} {f : Str} {y : D} {fs : List (Str × D)} {R : Gp → Prop} (h1 : G a = some (.obj C dx fs)) (hl : Nat.ble fs.length 999 = true) (q : ∀ G3, At G a (.obj C dx (putA f y fs)) G3 → R G3) : kSFld C f y (.ref a) G R := by
  show (match G a with | some (.obj C' dx fs) => C' = C ∧ fs.length < 1000 ∧ ∀ G3, At G a (.obj C dx (putA f y fs)) G3 → R G3 | _ => False)
  rw [h1]
  exact ⟨rfl, Nat.lt_succ_of_le (Nat.le_of_ble_eq_true hl), q⟩
/- what a loop walks -/
section
variable {QI : List D → (Gp → Prop) → Gp → Prop}
def kList (d : D) (G1 : Gp) (QI : List D → (Gp → Prop) → Gp → Prop) : Prop := match d with
  | .cl ds => QI ds (fun _ => True) G1
  | .ref a => match G1 a with
    | some (.lst ds) => QI ds (fun G => G a = some (.lst ds)) G1
    | _ => False
  | _ => False
theorem r_list (h : te ρ G fun d G1 => kList d G1 QI) : zList te ρ G QI := h
theorem r_klist {a : Addr} {ds : List D} (h : G a = some (.lst ds)) (q : QI ds (fun G => G a = some (.lst ds)) G) : kList (.ref a) G QI := by
  show (match G a with | some (.lst ds) => QI ds (fun G => G a = some (.lst ds)) G | _ => False)
  rw [h]
  exact q
theorem r_kcl {ds : List D} (q : QI ds (fun _ => True) G) : kList (.cl ds) G QI := q
def kTupI (d : D) (G1 : Gp) (QI : List D → (Gp → Prop) → Gp → Prop) : Prop := match d with
  | .tup ds => QI ds (fun _ => True) G1
  | .ct ds => QI ds (fun _ => True) G1
  | _ => False
theorem r_tupI (h : te ρ G fun d G1 => kTupI d G1 QI) : zTupI te ρ G QI := h
theorem r_ktupI {ds : List D} (h : QI ds (fun _ => True) G) : kTupI (.tup ds) G QI := h
theorem r_kctI {ds : List D} (h : QI ds (fun _ => True) G) : kTupI (.ct ds) G QI := h
def kRng1 (ds : List D) (G1 : Gp) (QI : List D → (Gp → Prop) → Gp → Prop) : Prop := match ds with
  | [.int n] => -(2 ^ 62) ≤ n ∧ n < 2 ^ 62 ∧ QI (rngD 0 n.toNat) (fun _ => True) G1
  | _ => False
theorem r_krng1 {n : Nat} (hn : n ≤ 1000000) (h : QI (rngD 0 n) (fun _ => True) G) : kRng1 [.int (n : Int)] G QI := ⟨by omega, by omega, by rw [Int.toNat_natCast]; exact h⟩
theorem r_rng1 (h : tA ρ G fun ds G1 => kRng1 ds G1 QI) : zRng1 tA ρ G QI := h
theorem r_rng2 (h : tA ρ G fun ds G1 => match ds with | [.int i, .int j] => (-(2 ^ 62) ≤ i ∧ i < 2 ^ 62 ∧ -(2 ^ 62) ≤ j ∧ j < 2 ^ 62) ∧ QI (rngD i (j - i).toNat) (fun _ => True) G1 | _ => False) : zRng2 tA ρ G QI := h
def kEnum (ds : List D) (G1 : Gp) (QI : List D → (Gp → Prop) → Gp → Prop) : Prop := match ds with
  | [.ref a] => (match G1 a with
    | some (.lst ds) => QI (enD ds) (fun G => G a = some (.lst ds)) G1
    | _ => False)
  | [.tup ds] => QI (enD ds) (fun _ => True) G1
  | _ => False
theorem r_enum (h : tA ρ G fun ds G1 => kEnum ds G1 QI) : zEnumA tA ρ G QI := h
theorem r_kenumT {ds : List D} (h : QI (enD ds) (fun _ => True) G) : kEnum [.tup ds] G QI := h
theorem r_kenum {a : Addr} {ds : List D} (h : G a = some (.lst ds)) (q : QI (enD ds) (fun G => G a = some (.lst ds)) G) : kEnum [.ref a] G QI := by
  show (match G a with | some (.lst ds) => QI (enD ds) (fun G => G a = some (.lst ds)) G | _ => False)
  rw [h]
  exact q
end
/- lists, tuples -/
theorem r_append {a : Addr} {es : List D} {x : D} (h : G a = some (.lst es)) (hl : es.length < sizeLine) (q : ∀ G', At G a (.lst (es ++ [x])) G' → Q .non G') : mAppend (.ref a) [x] G Q := by
  show (match G a with | some (.lst es) => es.length < sizeLine ∧ ∀ G', At G a (.lst (es ++ [x])) G' → Q .non G' | _ => False)
  rw [h]
  exact ⟨hl, q⟩
theorem r_tyL {a : Addr} {es : List D} (h : G a = some (.lst es)) : tyZ "list" (.ref a) G := by
  unfold tyZ
  simp only
  rw [h]
  trivial
theorem r_pop {a : Addr} {es : List D} {y : D} (h : G a = some (.lst (es ++ [y]))) (q : ∀ G', At G a (.lst es) G' → Q y G') : mPop (.ref a) [] G Q := by
  show (match G a with | some (.lst es) => (match es[es.length - 1]? with | some y => ∀ G', At G a (.lst es.dropLast) G' → Q y G' | none => False) | _ => False)
  rw [h]
  simp only
  rw [show (es ++ [y])[(es ++ [y]).length - 1]? = some y by simp]
  simp only [List.dropLast_concat]
  exact q
theorem r_cat {a b : Addr} {xs ys : List D} (ha : G a = some (.lst xs)) (hb : G b = some (.lst ys)) (hl : xs.length + ys.length ≤ sizeLine) (q : ∀ p G', G p = none → At G p (.lst (xs ++ ys)) G' → Q (.ref p) G') : dCat (.ref a) (.ref b) G Q := by
  show (match G a, G b with | some (.lst xs), some (.lst ys) => xs.length + ys.length ≤ sizeLine ∧ ∀ p G', G p = none → At G p (.lst (xs ++ ys)) G' → Q (.ref p) G' | _, _ => False)
  rw [ha, hb]
  exact ⟨hl, q⟩
theorem r_fListR {a : Addr} {ds : List D} (h : G a = some (.lst ds)) (q : ∀ p G', G p = none → At G p (.lst ds) G' → Q (.ref p) G') : fList [.ref a] G Q := by
  show (match seqD G (.ref a) with | some es => ∀ p G', G p = none → At G p (.lst es) G' → Q (.ref p) G' | none => False)
  rw [seq_ref h]
  exact q
theorem r_fListT {ds : List D} (q : ∀ p G', G p = none → At G p (.lst ds) G' → Q (.ref p) G') : fList [.tup ds] G Q := q
theorem r_fTupR {a : Addr} {ds : List D} (h : G a = some (.lst ds)) (q : Q (.tup ds) G) : fTupL [.ref a] G Q := by
  show (match G a with | some (.lst es) => Q (.tup es) G | _ => False)
  rw [h]
  exact q
theorem r_fTupT {ds : List D} (q : Q (.tup ds) G) : fTupL [.tup ds] G Q := q
theorem r_sortI {a : Addr} {ns : List Int} (h : G a = some (.lst (ns.map D.int))) (q : ∀ (ns' : List Int) p G', ns'.Perm ns → ns'.Pairwise (· ≤ ·) → G p = none → At G p (.lst (ns'.map D.int)) G' → Q (.ref p) G') : fSortI [.ref a] G Q := by
  show (match G a with | some (.lst es) => ∃ ns : List Int, es = ns.map D.int ∧ ∀ (ns' : List Int) p G', ns'.Perm ns → ns'.Pairwise (· ≤ ·) → G p = none → At G p (.lst (ns'.map D.int)) G' → Q (.ref p) G' | _ => False)
  rw [h]
  exact ⟨ns, rfl, q⟩
def kRev (d : D) (G1 : Gp) (Q : DK) : Prop := match d with
  | .tup ds => Q (.tup ds.reverse) G1
  | .ref a => match G1 a with
    | some (.lst ds) => ∀ p G2, G1 p = none → At G1 p (.lst ds.reverse) G2 → Q (.ref p) G2
    | _ => False
  | _ => False
theorem r_rev (h : te ρ G fun d G1 => kRev d G1 Q) : zRev te ρ G Q := h
theorem r_krevT {ds : List D} (q : Q (.tup ds.reverse) G) : kRev (.tup ds) G Q := q
theorem r_krev {a : Addr} {ds : List D} (h : G a = some (.lst ds)) (q : ∀ p G2, G p = none → At G p (.lst ds.reverse) G2 → Q (.ref p) G2) : kRev (.ref a) G Q := by
  show (match G a with | some (.lst ds) => ∀ p G2, G p = none → At G p (.lst ds.reverse) G2 → Q (.ref p) G2 | _ => False)
  rw [h]
  exact q
def kSetL (v : D) (ρ : ZSt) (o i : D) (G2 : Gp) (R : ZSt → Gp → Prop) : Prop := match o, i with
  | .ref a, .int i => (match G2 a with
    | some (.lst es) => (match ixN es.length i with
      | some j => ∀ G3, At G2 a (.lst (es.set j v)) G3 → R ρ G3
      | none => False)
    | _ => False)
  | _, _ => False
theorem r_setL {v : D} {R : ZSt → Gp → Prop} (h : to ρ G fun o G1 => ty ρ G1 fun i G2 => kSetL v ρ o i G2 R) : zSetL to ty v ρ G R := h
theorem r_ksetL {v : D} {R : ZSt → Gp → Prop} {a : Addr} {es : List D} {n : Nat} (h : G a = some (.lst es)) (hn : n < es.length) (q : ∀ G3, At G a (.lst (es.set n v)) G3 → R ρ G3) : kSetL v ρ (.ref a) (.int (n : Int)) G R := by
  show (match G a with | some (.lst es) => (match ixN es.length n with | some j => ∀ G3, At G a (.lst (es.set j v)) G3 → R ρ G3 | none => False) | _ => False)
  rw [h]
  simp only
  rw [show ixN es.length (n : Int) = some n by unfold ixN; rw [if_pos (by omega)]; simp [hn]]
  exact q
theorem r_eqP {neg : Bool} {d e : D} (h1 : pl 60 d = true) (h2 : pl 60 e = true) (q : ∀ c : Bool, (c = true ↔ d = e) → Q (.bl (neg != c)) G) : dEqP neg d e G Q := .inl ⟨h1, h2, q⟩
theorem r_eqL {neg : Bool} {a b : Addr} {ds es : List D} (h1 : G a = some (.lst ds)) (h2 : G b = some (.lst es)) (h3 : ds.all (pl 60) = true) (h4 : es.all (pl 60) = true) (q : ∀ c : Bool, (c = true ↔ ds = es) → Q (.bl (neg != c)) G) : dEqP neg (.ref a) (.ref b) G Q :=
  .inr ⟨a, b, ds, es, rfl, rfl, h1, h2, h3, h4, q⟩
theorem r_eqLI {neg : Bool} {a b : Addr} {ds es : List Int} (h1 : G a = some (.lst (ds.map D.int))) (h2 : G b = some (.lst (es.map D.int))) (q : ∀ c : Bool, (c = true ↔ ds = es) → Q (.bl (neg != c)) G) : dEqP neg (.ref a) (.ref b) G Q :=
  r_eqL h1 h2 (all_ints _) (all_ints _) fun c hc => q c (hc.trans ints_inj)
theorem r_inL {neg : Bool} {d : D} {a : Addr} {ds : List D} (h : G a = some (.lst ds)) (h1 : pl 60 d = true) (h2 : ds.all (pl 60) = true) (q : ∀ c : Bool, (c = true ↔ d ∈ ds) → Q (.bl (neg != c)) G) : dInP neg d (.ref a) G Q := ⟨ds, .inr ⟨a, rfl, h⟩, h1, h2, q⟩
theorem r_inT {neg : Bool} {d : D} {ds : List D} (h1 : pl 60 d = true) (h2 : ds.all (pl 60) = true) (q : ∀ c : Bool, (c = true ↔ d ∈ ds) → Q (.bl (neg != c)) G) : dInP neg d (.tup ds) G Q := ⟨ds, .inl rfl, h1, h2, q⟩
theorem r_inLI {neg : Bool} {i : Int} {a : Addr} {ds : List Int} (h : G a = some (.lst (ds.map D.int))) (q : ∀ c : Bool, (c = true ↔ i ∈ ds) → Q (.bl (neg != c)) G) : dInP neg (.int i) (.ref a) G Q := r_inL h rfl (all_ints _) fun c hc => q c (hc.trans mem_ints)
theorem r_inTI {neg : Bool} {i : Int} {ds : List Int} (q : ∀ c : Bool, (c = true ↔ i ∈ ds) → Q (.bl (neg != c)) G) : dInP neg (.int i) (.tup (ds.map D.int)) G Q := r_inT rfl (all_ints _) fun c hc => q c (hc.trans mem_ints)
/-- a test by a bool that tells p -/
theorem r_iff {p : Prop} {c : Bool} {A B : Prop} (hc : c = true ↔ p) (h1 : p → A) (h2 : ¬ p → B) : if (false != c) = true then A else B := by
  cases c with
  | true => exact h1 (hc.mp rfl)
  | false => exact h2 fun h => by have := hc.mpr h; cases this
theorem r_niff {p : Prop} {c : Bool} {A B : Prop} (hc : c = true ↔ p) (h1 : p → B) (h2 : ¬ p → A) : if (true != c) = true then A else B := by
  cases c with
  | true => exact h1 (hc.mp rfl)
  | false => exact h2 fun h => by have := hc.mpr h; cases this
/- dicts -/
def kDGet (x y : D) (G2 : Gp) (Q : DK) : Prop := match x with
  | .ref a => match dGet G2 a y with
    | some (some d) => Q d G2
    | _ => False
  | _ => False
theorem r_dget (h : td ρ G fun x G1 => ty ρ G1 fun y G2 => kDGet x y G2 Q) : zDGet td ty ρ G Q := h
theorem r_kdget {a : Addr} {y d : D} (h : dGet G a y = some (some d)) (q : Q d G) : kDGet (.ref a) y G Q := by
  show (match dGet G a y with | some (some d) => Q d G | _ => False)
  rw [h]
  exact q
/- a comprehension whose test and element change nothing: what it makes -/
theorem r_lc0 {zi : DI} {tt : DT} {vs : List Nat} (h : zi ρ G fun items live G1 => ∃ P : Nat → List D → Gp → Prop, P 0 [] G1 ∧
  (∀ i d acc G', items[i]? = some d → P i acc G' → live G' ∧ acc.length < sizeLine ∧ g d (zwipe ρ vs) G' fun ρ2 G2 => tt ρ2 G2 fun b G3 => if b = true then te ρ2 G3 fun e G4 => P (i + 1) (acc ++ [e]) G4 else P (i + 1) acc G3) ∧
  ∀ acc G', P items.length acc G' → live G' ∧ ∀ p G2, G' p = none → At G' p (.lst acc) G2 → Q (.ref p) G2) : zLc zi g tt te vs ρ G Q := h
/-- p: the test; f: the element -/
theorem lc_pure {QQ : Addr → Gp → Prop} {tt : DT} {vs : List Nat} {items : List D} {live : Gp → Prop} (p : D → Bool) (f : D → D) (lv : live G) (hl : items.length < sizeLine)
    (step : ∀ (i : Nat) (d : D) (R : List D → Gp → Prop) acc, items[i]? = some d → (p d = true → R (acc ++ [f d]) G) → (p d = false → R acc G) → g d (zwipe ρ vs) G fun ρ2 G2 => tt ρ2 G2 fun b G3 => if b = true then te ρ2 G3 fun e G4 => R (acc ++ [e]) G4 else R acc G3)
    (q : ∀ a G2, G a = none → At G a (.lst ((items.filter p).map f)) G2 → QQ a G2) :
    ∃ P : Nat → List D → Gp → Prop, P 0 [] G ∧
    (∀ i d acc G', items[i]? = some d → P i acc G' → live G' ∧ acc.length < sizeLine ∧ g d (zwipe ρ vs) G' fun ρ2 G2 => tt ρ2 G2 fun b G3 => if b = true then te ρ2 G3 fun e G4 => P (i + 1) (acc ++ [e]) G4 else P (i + 1) acc G3) ∧
    ∀ acc G', P items.length acc G' → live G' ∧ ∀ p G2, G' p = none → At G' p (.lst acc) G2 → QQ p G2 := by
  refine ⟨fun i acc G1 => G1 = G ∧ acc = ((items.take i).filter p).map f, ⟨rfl, rfl⟩, ?_, ?_⟩
  · rintro i d acc G' hi ⟨eG, rfl⟩
    subst eG
    refine ⟨lv, ?_, ?_⟩
    · rw [List.length_map]
      have h1 := List.length_filter_le p (items.take i)
      rw [List.length_take] at h1
      omega
    · have e : items.take (i + 1) = items.take i ++ [d] := by rw [List.take_add_one, hi]; rfl
      refine step i d (fun acc G2 => G2 = G' ∧ acc = ((items.take (i + 1)).filter p).map f) _ hi (fun hp => ⟨rfl, ?_⟩) fun hp => ⟨rfl, ?_⟩
      · rw [e, List.filter_append, List.map_append]
        simp [hp]
      · rw [e, List.filter_append, List.map_append]
        simp [hp]
  · rintro acc G' ⟨rfl, rfl⟩
    rw [List.take_length]
    exact ⟨lv, q⟩
theorem r_ifT {b : Bool} {A B : Prop} (h : b = true) (q : A) : if b = true then A else B := by
  rw [if_pos h]
  exact q
theorem r_ifF {b : Bool} {A B : Prop} (h : b = false) (q : B) : if b = true then A else B := by
  rw [if_neg (by rw [h]; exact Bool.false_ne_true)]
  exact q
theorem r_inFT {neg b : Bool} {x : D} {ds : List D} (h1 : flD x = true) (h2 : ds.all flD = true) (h3 : (ds.any fun z => eqF z x) = b) (q : Q (.bl (if neg then !b else b)) G) : dInF neg x (.tup ds) G Q := by
  show flD x = true ∧ ds.all flD = true ∧ Q (.bl (if neg then !(ds.any fun d => eqF d x) else ds.any fun d => eqF d x)) G
  rw [h3]
  exact ⟨h1, h2, q⟩
theorem r_dec {p : Prop} [Decidable p] {A B : Prop} (h1 : p → A) (h2 : ¬ p → B) : if decide p = true then A else B := by
  by_cases h : p
  · rw [if_pos (decide_eq_true h)]
    exact h1 h
  · rw [if_neg (by simpa using h)]
    exact h2 h
theorem r_ndec {p : Prop} [Decidable p] {A B : Prop} (h1 : p → A) (h2 : ¬ p → B) : if (false != decide p) = true then A else B := by
  by_cases h : p
  · rw [if_pos (by simpa using h)]
    exact h1 h
  · rw [if_neg (by simpa using h)]
    exact h2 h
theorem r_tdec {p : Prop} [Decidable p] {A B : Prop} (h1 : p → B) (h2 : ¬ p → A) : if (true != decide p) = true then A else B := by
  by_cases h : p
  · rw [if_neg (by simpa using h)]
    exact h1 h
  · rw [if_pos (by simpa using h)]
    exact h2 h
end
end Z

namespace Z
open PySem PySem.Spec PyProof.Rows L2
section
variable [τ : Tbl] [β : Bas] {X : Cx} {a : Expr} {ta : DE} {p p2 pos pos2 : Pos}
/-! ### list(range(n)) -/
def zLRng (ta : DE) : DE := fun ρ G Q => ta ρ G fun d G1 => match d with
  | .int n => RgOk 0 n ∧ ∀ q G2, G1 q = none → At G1 q (.lst (rngD 0 n.toNat)) G2 → Q (.ref q) G2
  | _ => False
theorem reps_rng {K : PySem.W.Frag} {H : Hp} (n : Int) : Reps K H (rgV 0 n) (rngD 0 n.toNat) := by
  have e : rngD 0 n.toNat = ((List.range n.toNat).map fun i => ((0 : Int) + (i : Nat))).map D.int := by
    unfold rngD
    rw [List.map_map]
    rfl
  have e2 : rgV 0 n = ((List.range n.toNat).map fun i => ((0 : Int) + (i : Nat))).map V.int := by
    unfold rgV
    simp
  rw [e, e2]
  exact Reps.ints _
theorem z_lRng (hg1 : Gl X "list") (hm1 : X.mg "list" = none) (hg : Gl X "range") (hm : X.mg "range" = none) (ha : ZE X a ta) (hc : X.calm = true := by rfl) (na : starEach [a] X.env = (false, eval a X.env) :: starEach [] X.env := by rfl)
    (nb : starEach [.Call (.Name "range" p) [a] [] pos] X.env = (false, eval (.Call (.Name "range" p) [a] [] pos) X.env) :: starEach [] X.env := by rfl) :
    ZE X (.Call (.Name "list" p2) [.Call (.Name "range" p) [a] [] pos] [] pos2) (zLRng ta) := PEi (pe_listRg hc hg1 hm1 (prg_1 hg hm ha na) nb) fun σ H Q q => by
  obtain ⟨ρ, G, Q0, hs, hg, h, k⟩ := q
  refine ⟨ρ, G, _, hs, hg, h, fun d G1 x H1 h1 f1 g1 r1 => ?_⟩
  cases r1 with
  | int n => exact ⟨n, rfl, h1.1, fun q hq => CK.new (m := .lst _) (CK.go k f1) hq g1 ⟨_, upd_same, reps_rng n⟩ fun G' nn at_ => h1.2 q G' nn at_⟩
  | _ => exact False.elim h1
theorem r_lrng {ρ : ZSt} {G : Gp} {Q : DK} (h : ta ρ G fun d G1 => match d with | .int n => RgOk 0 n ∧ ∀ q G2, G1 q = none → At G1 q (.lst (rngD 0 n.toNat)) G2 → Q (.ref q) G2 | _ => False) : zLRng ta ρ G Q := h
end
/-! ### xs += ys, text += text -/
def dExt : Z2 := fun x y G Q => match x, y with
  | .ref l, .ref b => (match G l, G b with
    | some (.lst xs), some (.lst ys) => xs.length + ys.length ≤ sizeLine ∧ ∀ G', At G l (.lst (xs ++ ys)) G' → Q (.ref l) G'
    | _, _ => False)
  | _, _ => False
section
variable [τ : Tbl] [β : Bas] {X : Cx}
theorem zi_ext : ZOp X (inplaceOp .Add) dExt := OpRi iop_ext fun x y H Q q => by
  obtain ⟨d, e, G, Q0, g, rx, ry, h, k⟩ := q
  unfold dExt at h
  split at h
  · split at h
    · rename_i xs ys e1 e2
      cases rx
      cases ry
      obtain ⟨us, hu, ru⟩ := g _ _ e1
      obtain ⟨ws, hw, rw'⟩ := g _ _ e2
      have tt := tm_set (o := .lst (us ++ ws)) hu fun z => z
      exact ⟨_, _, us, ws, rfl, rfl, hu, hw, by rw [ru.length, rw'.length]; exact h.1, CK.set (m := .lst (xs ++ ys)) k hu (fun z => z) e1 g ⟨_, upd_same, (ru.append rw').mono tt⟩ (.ref _) fun G' at_ => h.2 G' at_⟩
    · cases h
  · cases h
theorem zi_catS : ZOp X (inplaceOp .Add) dCatS := OpRi iop_add_str fun x y H Q q => by
  obtain ⟨d, e, G, Q0, g, rx, ry, h, k⟩ := q
  unfold dCatS at h
  split at h
  · cases rx
    cases ry
    exact ⟨_, _, rfl, rfl, h.1, CK.at k h.2 g (.str _)⟩
  · cases h
end
theorem r_ext {G : Gp} {Q : DK} {l b : Addr} {xs ys : List D} (h1 : G l = some (.lst xs)) (h2 : G b = some (.lst ys)) (hl : xs.length + ys.length ≤ sizeLine) (q : ∀ G', At G l (.lst (xs ++ ys)) G' → Q (.ref l) G') : dExt (.ref l) (.ref b) G Q := by
  show (match G l, G b with | some (.lst xs), some (.lst ys) => xs.length + ys.length ≤ sizeLine ∧ ∀ G', At G l (.lst (xs ++ ys)) G' → Q (.ref l) G' | _, _ => False)
  rw [h1, h2]
  exact ⟨hl, q⟩
/-! ### dicts with keys of ints and texts -/
def kDIn (neg : Bool) (y x : D) (G2 : Gp) (Q : DK) : Prop := match x with
  | .ref a => match dGet G2 a y with
    | some r => Q (.bl (if neg then !r.isSome else r.isSome)) G2
    | none => False
  | _ => False
theorem r_din {ty td : DE} {neg : Bool} {ρ : ZSt} {G : Gp} {Q : DK} (h : ty ρ G fun y G1 => td ρ G1 fun x G2 => kDIn neg y x G2 Q) : zDIn neg ty td ρ G Q := h
theorem r_kdin {neg : Bool} {y : D} {a : Addr} {G : Gp} {Q : DK} {r : Option D} (h : dGet G a y = some r) (q : Q (.bl (if neg then !r.isSome else r.isSome)) G) : kDIn neg y (.ref a) G Q := by
  show (match dGet G a y with | some r => Q (.bl (if neg then !r.isSome else r.isSome)) G | none => False)
  rw [h]
  exact q
theorem dget_dk {G : Gp} {a : Addr} {kvs : List (Key × D)} {d : D} {k : Key} (h : G a = some (.dk kvs)) (hk : keyD d = some k) : dGet G a d = some (valD kvs k) := by
  unfold dGet
  rw [h]
  simp only
  rw [hk]
  rfl
def kDPut (v x y : D) (G3 : Gp) (R : Gp → Prop) : Prop := match x with
  | .ref a => (match G3 a with
    | some (.dk kvs) => (match keyD y with
      | some k => kvs.length < sizeLine ∧ ∀ G4, At G3 a (.dk (putD kvs k v)) G4 → R G4
      | none => False)
    | some (.dt kvs) => (match y with
      | .tup ds => (match keysD ds with
        | some k => kvs.length < sizeLine ∧ ∀ G4, At G3 a (.dt (putD kvs k v)) G4 → R G4
        | none => False)
      | _ => False)
    | _ => False)
  | _ => False
theorem r_dput {td ty tv : DE} {u : DS} {Z : ZEnds} {ρ : ZSt} {G : Gp} (h : tv ρ G fun v G1 => td ρ G1 fun x G2 => ty ρ G2 fun y G3 => kDPut v x y G3 (u Z ρ)) : zSeq (zDPut td ty tv) u Z ρ G := h
theorem r_dput1 {td ty tv : DE} {Z : ZEnds} {ρ : ZSt} {G : Gp} (h : tv ρ G fun v G1 => td ρ G1 fun x G2 => ty ρ G2 fun y G3 => kDPut v x y G3 (Z.nx ρ)) : zDPut td ty tv Z ρ G := h
theorem r_kdput {v y : D} {a : Addr} {G : Gp} {R : Gp → Prop} {kvs : List (Key × D)} {k : Key} (h : G a = some (.dk kvs)) (hk : keyD y = some k) (hl : kvs.length < sizeLine) (q : ∀ G4, At G a (.dk (putD kvs k v)) G4 → R G4) : kDPut v (.ref a) y G R := by
  show (match G a with
    | some (.dk kvs) => (match keyD y with
      | some k => kvs.length < sizeLine ∧ ∀ G4, At G a (.dk (putD kvs k v)) G4 → R G4
      | none => False)
    | some (.dt kvs) => _
    | _ => False)
  rw [h]
  simp only
  rw [hk]
  exact ⟨hl, q⟩
theorem r_dnewK {ρ : ZSt} {G : Gp} {Q : DK} (h : ∀ p G', G p = none → At G p (.dk []) G' → Q (.ref p) G') : zDNewK ρ G Q := h
def kSetdA (ty tx : DE) (ρ : ZSt) (x : D) (G1 : Gp) (Q : DK) : Prop := match x with
  | .ref a => (∃ kvs, G1 a = some (.dk kvs)) ∧ ty ρ G1 fun y G2 => tx ρ G2 fun z G3 => match G3 a with
    | some (.dk kvs) => match keyD y with
      | some k => kvs.length < sizeLine ∧ match valD kvs k with
        | some v => Q v G3
        | none => ∀ G4, At G3 a (.dk (putD kvs k z)) G4 → Q z G4
      | none => False
    | _ => False
  | _ => False
def kSetdB (a : Addr) (y z : D) (G3 : Gp) (Q : DK) : Prop := match G3 a with
    | some (.dk kvs) => match keyD y with
      | some k => kvs.length < sizeLine ∧ match valD kvs k with
        | some v => Q v G3
        | none => ∀ G4, At G3 a (.dk (putD kvs k z)) G4 → Q z G4
      | none => False
    | _ => False
theorem r_setd {td ty tx : DE} {ρ : ZSt} {G : Gp} {Q : DK} (h : td ρ G fun x G1 => kSetdA ty tx ρ x G1 Q) : zSetd td ty tx ρ G Q := h
theorem r_ksetdA {ty tx : DE} {ρ : ZSt} {a : Addr} {kvs : List (Key × D)} {G : Gp} {Q : DK} (h : G a = some (.dk kvs)) (q : ty ρ G fun y G2 => tx ρ G2 fun z G3 => kSetdB a y z G3 Q) : kSetdA ty tx ρ (.ref a) G Q := ⟨⟨kvs, h⟩, q⟩
theorem r_ksetdB {a : Addr} {y z : D} {k : Key} {kvs : List (Key × D)} {G : Gp} {Q : DK} (h : G a = some (.dk kvs)) (hk : keyD y = some k) (hl : kvs.length < sizeLine) (q1 : ∀ v, valD kvs k = some v → Q v G) (q2 : valD kvs k = none → ∀ G4, At G a (.dk (putD kvs k z)) G4 → Q z G4) : kSetdB a y z G Q := by
  show (match G a with
    | some (.dk kvs) => match keyD y with
      | some k => kvs.length < sizeLine ∧ match valD kvs k with
        | some v => Q v G
        | none => ∀ G4, At G a (.dk (putD kvs k z)) G4 → Q z G4
      | none => False
    | _ => False)
  rw [h]
  simp only
  rw [hk]
  simp only
  refine ⟨hl, ?_⟩
  cases e : valD kvs k with
  | some v => exact q1 v e
  | none => exact q2 e
theorem r_get2 {td ty tx : DE} {ρ : ZSt} {G : Gp} {Q : DK} {a : Addr} {kvs : List (Key × D)} (hd : ∀ R, td ρ G R = R (.ref a) G) (h : G a = some (.dk kvs)) (q : ty ρ G fun y G2 => tx ρ G2 fun z G3 => match dGet G3 a y with
    | some o => Q (o.getD z) G3
    | none => False) : zGet2 td ty tx ρ G Q := by
  show td ρ G _
  rw [hd]
  exact ⟨⟨kvs, h⟩, q⟩
theorem r_lockK {t u : DS} {Z : ZEnds} {ρ : ZSt} {G : Gp} {a : Addr} {kvs : List (Key × D)} (h : G a = some (.dk kvs)) (q : ∀ o xs G1, At G a (.ldk o xs kvs) G1 →
    t ⟨fun ρ' G' => G' a = some (.ldk o xs kvs) ∧ ∀ G2, At G' a (.dk kvs) G2 → u Z ρ' G2, fun d G' => G' a = some (.ldk o xs kvs) ∧ ∀ G2, At G' a (.dk kvs) G2 → Z.rt d G2,
      fun ρ' G' => G' a = some (.ldk o xs kvs) ∧ ∀ G2, At G' a (.dk kvs) G2 → Z.bk ρ' G2, fun ρ' G' => G' a = some (.ldk o xs kvs) ∧ ∀ G2, At G' a (.dk kvs) G2 → Z.ct ρ' G2⟩ ρ G1) : zSeq (zLock t) u Z ρ G := ⟨a, .inl ⟨kvs, h, q⟩⟩
def kKeysI (d : D) (G1 : Gp) (QI : List D → (Gp → Prop) → Gp → Prop) : Prop := match d with
  | .ref a => match G1 a with
    | some (.ldk o xs kvs) => QI (kvs.map fun p => kD p.1) (fun G => G a = some (.ldk o xs kvs)) G1
    | some (.ldt o xs kvs) => QI (kvs.map fun p => .tup (p.1.map kD)) (fun G => G a = some (.ldt o xs kvs)) G1
    | _ => False
  | _ => False
theorem r_keysI {te : DE} {ρ : ZSt} {G : Gp} {QI : List D → (Gp → Prop) → Gp → Prop} (h : te ρ G fun d G1 => kKeysI d G1 QI) : zKeysI te ρ G QI := h
theorem r_kkeysI {a : Addr} {o : Obj} {xs : List (Key × V)} {kvs : List (Key × D)} {G : Gp} {QI : List D → (Gp → Prop) → Gp → Prop} (h : G a = some (.ldk o xs kvs)) (q : QI (kvs.map fun p => kD p.1) (fun G => G a = some (.ldk o xs kvs)) G) : kKeysI (.ref a) G QI := by
  show (match G a with
    | some (.ldk o xs kvs) => QI (kvs.map fun p => kD p.1) (fun G => G a = some (.ldk o xs kvs)) G
    | some (.ldt o xs kvs) => _
    | _ => False)
  rw [h]
  exact q
theorem dget_ldk {G : Gp} {a : Addr} {o : Obj} {xs : List (Key × V)} {kvs : List (Key × D)} {d : D} {k : Key} (h : G a = some (.ldk o xs kvs)) (hk : keyD d = some k) : dGet G a d = some (valD kvs k) := by
  unfold dGet
  rw [h]
  simp only
  rw [hk]
  rfl
theorem un65 {k : Nat} {A : Around} (hr : Room k A) : A.units + 65 < cLine := by
  have := hr.un
  omega
theorem un1 {k : Nat} {A : Around} (hr : Room k A) : A.units + 1 < cLine := by
  have := hr.units
  omega
theorem r_szc {l : List D} {B : Prop} (h : l.length ≤ 1000) (q : B) : l.length ≤ sizeLine ∧ B := ⟨Nat.le_trans h (by decide), q⟩
theorem r_eqlen {l : List D} {n : Nat} {B : Prop} (h : l.length = n) (q : B) : l.length = n ∧ B := ⟨h, q⟩
end Z

namespace K24
open PySem PySem.Spec PyProof.Rows L2 Z

/-! ### the text -/
def top (i : Nat) : Stmt := PySem.Challenge.pw_tonguestack_k24_what_is_live_where.main.body.getD i (.Pass ⟨0, 0, 0, 0⟩)
abbrev s__wall : Stmt := top 0
abbrev s_operation_atoms : Stmt := top 7
abbrev s_flat_atoms : Stmt := top 9
abbrev s_Block___init__ : Stmt := inClass (top 11) 0
abbrev s_Block_shown : Stmt := inClass (top 11) 1
abbrev s_Graph___init__ : Stmt := inClass (top 12) 0
abbrev s_Graph_shown : Stmt := inClass (top 12) 1
abbrev s_Graph_with_blocks : Stmt := inClass (top 12) 2
abbrev s_end_atoms : Stmt := top 13
abbrev s_successors : Stmt := top 14
abbrev s_check_graph : Stmt := top 15
abbrev s_check_block : Stmt := top 16
abbrev s_check_names : Stmt := top 17
abbrev s_names_in : Stmt := top 19
abbrev s_reached_blocks : Stmt := top 20
abbrev s_predecessors : Stmt := top 21
abbrev s_without : Stmt := top 22
abbrev s_united : Stmt := top 23
abbrev s_live_before : Stmt := top 24
abbrev s_live_ins : Stmt := top 25
abbrev s_live_after : Stmt := top 26
abbrev s_live_rows : Stmt := top 27
abbrev s_interference : Stmt := top 28
abbrev s_join_all : Stmt := top 29
abbrev s_join_one : Stmt := top 30
abbrev s__law_dice : Stmt := top 32
abbrev s__law_roll : Stmt := top 33
abbrev s__law_rounds : Stmt := top 34
abbrev s__law_graph : Stmt := top 35
abbrev s__law_next : Stmt := top 36
abbrev s__law_some : Stmt := top 37
abbrev s__law_row : Stmt := top 38
abbrev s__law_end : Stmt := top 39
abbrev s__law_next_blocks : Stmt := top 40
abbrev s__law_live : Stmt := top 41
abbrev s__law_names : Stmt := top 42
abbrev s_law : Stmt := top 43
theorem sc__wall : FnScope ["k"] ["k"] (defScope s__wall) := ⟨rfl, rfl, rfl, by decide +kernel, rfl, by decide +kernel, by decide +kernel⟩
theorem sc_operation_atoms : FnScope ["operation", "word"] ["operation"] (defScope s_operation_atoms) := ⟨rfl, rfl, rfl, by decide +kernel, rfl, by decide +kernel, by decide +kernel⟩
theorem sc_flat_atoms : FnScope ["operation", "word"] ["operation"] (defScope s_flat_atoms) := ⟨rfl, rfl, rfl, by decide +kernel, rfl, by decide +kernel, by decide +kernel⟩
theorem sc_Block___init__ : FnScope ["self", "params", "rows", "end"] ["self", "params", "rows", "end"] (defScope s_Block___init__) := ⟨rfl, rfl, rfl, by decide +kernel, rfl, by decide +kernel, by decide +kernel⟩
theorem sc_Block_shown : FnScope ["self"] ["self"] (defScope s_Block_shown) := ⟨rfl, rfl, rfl, by decide +kernel, rfl, by decide +kernel, by decide +kernel⟩
theorem sc_Graph___init__ : FnScope ["self", "label", "params", "captured", "blocks"] ["self", "label", "params", "captured", "blocks"] (defScope s_Graph___init__) := ⟨rfl, rfl, rfl, by decide +kernel, rfl, by decide +kernel, by decide +kernel⟩
theorem sc_Graph_shown : FnScope ["self"] ["self"] (defScope s_Graph_shown) := ⟨rfl, rfl, rfl, by decide +kernel, rfl, by decide +kernel, by decide +kernel⟩
theorem sc_Graph_with_blocks : FnScope ["self", "blocks"] ["self", "blocks"] (defScope s_Graph_with_blocks) := ⟨rfl, rfl, rfl, by decide +kernel, rfl, by decide +kernel, by decide +kernel⟩
theorem sc_end_atoms : FnScope ["end"] ["end"] (defScope s_end_atoms) := ⟨rfl, rfl, rfl, by decide +kernel, rfl, by decide +kernel, by decide +kernel⟩
theorem sc_successors : FnScope ["end", "found", "number", "block"] ["end"] (defScope s_successors) := ⟨rfl, rfl, rfl, by decide +kernel, rfl, by decide +kernel, by decide +kernel⟩
theorem sc_check_graph : FnScope ["graph", "names", "block", "name", "row", "seen"] ["graph"] (defScope s_check_graph) := ⟨rfl, rfl, rfl, by decide +kernel, rfl, by decide +kernel, by decide +kernel⟩
theorem sc_check_block : FnScope ["block", "graph", "names", "name", "row", "number", "many"] ["block", "graph", "names"] (defScope s_check_block) := ⟨rfl, rfl, rfl, by decide +kernel, rfl, by decide +kernel, by decide +kernel⟩
theorem sc_check_names : FnScope ["atoms", "names", "atom"] ["atoms", "names"] (defScope s_check_names) := ⟨rfl, rfl, rfl, by decide +kernel, rfl, by decide +kernel, by decide +kernel⟩
theorem sc_names_in : FnScope ["atoms", "atom"] ["atoms"] (defScope s_names_in) := ⟨rfl, rfl, rfl, by decide +kernel, rfl, by decide +kernel, by decide +kernel⟩
theorem sc_reached_blocks : FnScope ["graph", "found", "place", "number"] ["graph"] (defScope s_reached_blocks) := ⟨rfl, rfl, rfl, by decide +kernel, rfl, by decide +kernel, by decide +kernel⟩
theorem sc_predecessors : FnScope ["graph", "table", "number", "block", "target"] ["graph"] (defScope s_predecessors) := ⟨rfl, rfl, rfl, by decide +kernel, rfl, by decide +kernel, by decide +kernel⟩
theorem sc_without : FnScope ["names", "gone", "name"] ["names", "gone"] (defScope s_without) := ⟨rfl, rfl, rfl, by decide +kernel, rfl, by decide +kernel, by decide +kernel⟩
theorem sc_united : FnScope ["names", "more", "found", "name"] ["names", "more"] (defScope s_united) := ⟨rfl, rfl, rfl, by decide +kernel, rfl, by decide +kernel, by decide +kernel⟩
theorem sc_live_before : FnScope ["block", "after", "live", "name", "row"] ["block", "after"] (defScope s_live_before) := ⟨rfl, rfl, rfl, by decide +kernel, rfl, by decide +kernel, by decide +kernel⟩
theorem sc_live_ins : FnScope ["graph", "block", "found", "moved", "number", "live"] ["graph"] (defScope s_live_ins) := ⟨rfl, rfl, rfl, by decide +kernel, rfl, by decide +kernel, by decide +kernel⟩
theorem sc_live_after : FnScope ["graph", "found", "block", "live", "target"] ["graph", "found", "block"] (defScope s_live_after) := ⟨rfl, rfl, rfl, by decide +kernel, rfl, by decide +kernel, by decide +kernel⟩
theorem sc_live_rows : FnScope ["graph", "found", "block", "live", "rows", "name", "row"] ["graph", "found", "block"] (defScope s_live_rows) := ⟨rfl, rfl, rfl, by decide +kernel, rfl, by decide +kernel, by decide +kernel⟩
theorem sc_interference : FnScope ["graph", "found", "table", "number", "block", "entry", "live", "rows", "place", "row", "ordered_table", "name"] ["graph"] (defScope s_interference) := ⟨rfl, rfl, rfl, by decide +kernel, rfl, by decide +kernel, by decide +kernel⟩
theorem sc_join_all : FnScope ["table", "names", "name"] ["table", "names"] (defScope s_join_all) := ⟨rfl, rfl, rfl, by decide +kernel, rfl, by decide +kernel, by decide +kernel⟩
theorem sc_join_one : FnScope ["table", "name", "others", "other"] ["table", "name", "others"] (defScope s_join_one) := ⟨rfl, rfl, rfl, by decide +kernel, rfl, by decide +kernel, by decide +kernel⟩
theorem sc__law_dice : FnScope ["cell"] ["cell"] (defScope s__law_dice) := ⟨rfl, rfl, rfl, by decide +kernel, rfl, by decide +kernel, by decide +kernel⟩
theorem sc__law_roll : FnScope ["dice", "many", "found"] ["dice", "many"] (defScope s__law_roll) := ⟨rfl, rfl, rfl, by decide +kernel, rfl, by decide +kernel, by decide +kernel⟩
theorem sc__law_rounds : FnScope ["script", "most", "cells", "cell"] ["script", "most"] (defScope s__law_rounds) := ⟨rfl, rfl, rfl, by decide +kernel, rfl, by decide +kernel, by decide +kernel⟩
theorem sc__law_graph : FnScope ["dice", "params", "made", "many", "k", "arities", "names", "blocks", "first", "number", "here", "rows", "turn", "name", "row"] ["dice"] (defScope s__law_graph) := ⟨rfl, rfl, rfl, by decide +kernel, rfl, by decide +kernel, by decide +kernel⟩
theorem sc__law_next : FnScope ["made"] ["made"] (defScope s__law_next) := ⟨rfl, rfl, rfl, by decide +kernel, rfl, by decide +kernel, by decide +kernel⟩
theorem sc__law_some : FnScope ["dice", "here"] ["dice", "here"] (defScope s__law_some) := ⟨rfl, rfl, rfl, by decide +kernel, rfl, by decide +kernel, by decide +kernel⟩
theorem sc__law_row : FnScope ["dice", "here", "sort", "sign"] ["dice", "here"] (defScope s__law_row) := ⟨rfl, rfl, rfl, by decide +kernel, rfl, by decide +kernel, by decide +kernel⟩
theorem sc__law_end : FnScope ["dice", "here", "arities", "k", "sort", "bare", "cases", "target"] ["dice", "here", "arities"] (defScope s__law_end) := ⟨rfl, rfl, rfl, by decide +kernel, rfl, by decide +kernel, by decide +kernel⟩
theorem sc__law_next_blocks : FnScope ["graph", "number", "end", "key", "target", "found", "k"] ["graph", "number"] (defScope s__law_next_blocks) := ⟨rfl, rfl, rfl, by decide +kernel, rfl, by decide +kernel, by decide +kernel⟩
theorem sc__law_live : FnScope ["graph", "name", "number", "place", "left", "seen", "turn", "spot", "block", "bound", "row", "target"] ["graph", "name", "number", "place"] (defScope s__law_live) := ⟨rfl, rfl, rfl, by decide +kernel, rfl, by decide +kernel, by decide +kernel⟩
theorem sc__law_names : FnScope ["graph", "found", "block", "name", "row"] ["graph"] (defScope s__law_names) := ⟨rfl, rfl, rfl, by decide +kernel, rfl, by decide +kernel, by decide +kernel⟩
theorem sc_law : FnScope ["script", "dice", "graph", "names", "many", "found", "number", "block", "name", "due", "rows", "place", "target", "here", "after", "pairs", "entry", "group", "spots", "row", "others", "other", "table", "one", "reached", "turn", "before"] ["script"] (defScope s_law) := ⟨rfl, rfl, rfl, by decide +kernel, rfl, by decide +kernel, by decide +kernel⟩
/-! ### what the top has written -/
structure Txt (K : PySem.W.Frag) (w : World) (mg : Str → Option Value) (CB CG aA : Addr) (eA : Array DictEntry) (nA : Nat) : Prop where
  g_Block : mg "Block" = some (.ref CB)
  g_Graph : mg "Graph" = some (.ref CG)
  c_Block : Cls K CB
  c_Graph : Cls K CG
  n_Block_params : NoAttr K CB "params"
  n_Block_rows : NoAttr K CB "rows"
  n_Block_end : NoAttr K CB "end"
  n_Graph_label : NoAttr K CG "label"
  n_Graph_params : NoAttr K CG "params"
  n_Graph_captured : NoAttr K CG "captured"
  n_Graph_blocks : NoAttr K CG "blocks"
  g_ARITIES : mg "ARITIES" = some (.ref aA)
  d_ARITIES : KDict K w aA eA nA
  i_print : ∃ v, PySem.W.nsIn K aA "print" = some (some v)
  i_atom : ∃ v, PySem.W.nsIn K aA "atom" = some (some v)
  z_len : mg "len" = none
  z_range : mg "range" = none
  z_int : mg "int" = none
  z_abs : mg "abs" = none
  z_list : mg "list" = none
  z_tuple : mg "tuple" = none
  z_sorted : mg "sorted" = none
  z_min : mg "min" = none
  z_dict : mg "dict" = none
  z_enumerate : mg "enumerate" = none
end K24

namespace K24
/-! ### lists of names as sets -/
abbrev Vs := List Int
def without (a b : Vs) : Vs := a.filter fun x => !decide (x ∈ b)
def addIf {α : Type} [DecidableEq α] (l : List α) (x : α) : List α := if x ∈ l then l else l ++ [x]
def united {α : Type} [DecidableEq α] (a b : List α) : List α := b.foldl addIf a
theorem mem_without {a b : Vs} {x : Int} : x ∈ without a b ↔ x ∈ a ∧ x ∉ b := by
  unfold without
  rw [List.mem_filter]
  simp
theorem mem_addIf {α : Type} [DecidableEq α] {l : List α} {x y : α} : y ∈ addIf l x ↔ y ∈ l ∨ y = x := by
  unfold addIf
  split
  · rename_i h
    constructor
    · exact .inl
    · rintro (h' | rfl)
      · exact h'
      · exact h
  · simp
theorem nodup_addIf {α : Type} [DecidableEq α] {l : List α} {x : α} (h : l.Nodup) : (addIf l x).Nodup := by
  unfold addIf
  split
  · exact h
  · rename_i n
    rw [List.nodup_append]
    exact ⟨h, by simp, fun a ha b hb => by
      rw [List.mem_singleton.mp hb]
      rintro rfl
      exact n ha⟩
theorem mem_united {α : Type} [DecidableEq α] {b : List α} : ∀ {a : List α} {y : α}, y ∈ united a b ↔ y ∈ a ∨ y ∈ b := by
  induction b with
  | nil => intro a y; simp [united]
  | cons x b ih =>
    intro a y
    show y ∈ united (addIf a x) b ↔ _
    rw [ih, mem_addIf, List.mem_cons, or_assoc]
theorem nodup_united {α : Type} [DecidableEq α] {b : List α} : ∀ {a : List α}, a.Nodup → (united a b).Nodup := by
  induction b with
  | nil => intro a h; exact h
  | cons x b ih => intro a h; exact ih (nodup_addIf h)
theorem nodup_without {a b : Vs} (h : a.Nodup) : (without a b).Nodup := h.filter _
/-- two sorted lists without doublets of the same elements -/
theorem sorted_ext : ∀ {a b : Vs}, a.Pairwise (· ≤ ·) → b.Pairwise (· ≤ ·) → a.Nodup → b.Nodup → (∀ x, x ∈ a ↔ x ∈ b) → a = b
  | [], [], _, _, _, _, _ => rfl
  | [], y :: b, _, _, _, _, h => by have := (h y).mpr List.mem_cons_self; simp at this
  | x :: a, [], _, _, _, _, h => by have := (h x).mp List.mem_cons_self; simp at this
  | x :: a, y :: b, ha, hb, na, nb, h => by
    rw [List.pairwise_cons] at ha hb
    rw [List.nodup_cons] at na nb
    have e : x = y := by
      have h1 := (h x).mp List.mem_cons_self
      have h2 := (h y).mpr List.mem_cons_self
      rcases List.mem_cons.mp h1 with e | h1
      · exact e
      · rcases List.mem_cons.mp h2 with e | h2
        · exact e.symm
        · have := ha.1 y h2
          have := hb.1 x h1
          omega
    subst e
    congr 1
    refine sorted_ext ha.2 hb.2 na.2 nb.2 fun z => ?_
    constructor
    · intro hz
      rcases List.mem_cons.mp ((h z).mp (List.mem_cons_of_mem _ hz)) with e | e
      · subst e; exact absurd hz na.1
      · exact e
    · intro hz
      rcases List.mem_cons.mp ((h z).mpr (List.mem_cons_of_mem _ hz)) with e | e
      · subst e; exact absurd hz nb.1
      · exact e
/-- what sorted tells of a list -/
def Sorted (l s : Vs) : Prop := s.Perm l ∧ s.Pairwise (· ≤ ·)
theorem Sorted.mem {l s : Vs} (h : Sorted l s) {x : Int} : x ∈ s ↔ x ∈ l := h.1.mem_iff
theorem Sorted.nodup {l s : Vs} (h : Sorted l s) (n : l.Nodup) : s.Nodup := h.1.nodup_iff.mpr n
theorem Sorted.eq_of {l s t : Vs} (h : Sorted l s) (n : l.Nodup) (ht : t.Pairwise (· ≤ ·)) (nt : t.Nodup) (e : ∀ x, x ∈ l ↔ x ∈ t) : s = t :=
  sorted_ext h.2 ht (h.nodup n) nt fun x => (h.mem).trans (e x)

/-! ### graphs -/
inductive Atm where
  | int (i : Int)
  | var (n : Int)
deriving DecidableEq
inductive Row where
  | print (a : Atm)
  | atom (a : Atm)
  | prim (s : Nat) (a b : Atm)
def Row.atoms : Row → List Atm
  | .print a => [a]
  | .atom a => [a]
  | .prim _ a b => [a, b]
inductive End where
  | ret (a : Atm)
  | raise (a : Atm)
  | jump (t : Nat) (as : List Atm)
  | switch (a : Atm) (cs : List Nat) (d : Nat)
def End.atoms : End → List Atm
  | .ret a => [a]
  | .raise a => [a]
  | .jump _ as => as
  | .switch a _ _ => [a]
structure Blk where
  params : Vs
  rows : List (Int × Row)
  en : End
abbrev Gr := List Blk
def names_in (as : List Atm) : Vs := as.filterMap fun a => match a with
  | .int _ => none
  | .var n => some n
theorem mem_names_in {as : List Atm} {x : Int} : x ∈ names_in as ↔ .var x ∈ as := by
  unfold names_in
  rw [List.mem_filterMap]
  constructor
  · rintro ⟨a, h, e⟩
    cases a with
    | int i => cases e
    | var n => cases e; exact h
  · intro h
    exact ⟨_, h, rfl⟩
def targets : End → List Nat
  | .jump t _ => [t]
  | .switch _ cs d => cs ++ [d]
  | _ => []
def succ (e : End) : List Nat := united [] (targets e)
theorem mem_succ {e : End} {t : Nat} : t ∈ succ e ↔ t ∈ targets e := by
  unfold succ
  rw [mem_united]
  simp
theorem nodup_succ {e : End} : (succ e).Nodup := nodup_united List.nodup_nil
/-- whether a row of instructions and an end use a variable before they bind it: some true; bind it: some false; neither: none -/
def scan (x : Int) : List (Int × Row) → End → Option Bool
  | [], e => if .var x ∈ e.atoms then some true else none
  | r :: rs, e => if .var x ∈ r.2.atoms then some true else if r.1 = x then some false else scan x rs e
theorem scan_cons {x : Int} {r : Int × Row} {rs : List (Int × Row)} {e : End} : scan x (r :: rs) e = if .var x ∈ r.2.atoms then some true else if r.1 = x then some false else scan x rs e := rfl
inductive Live (g : Gr) (x : Int) : Nat → Nat → Prop
  | use {b p : Nat} {B : Blk} : g[b]? = some B → scan x (B.rows.drop p) B.en = some true → Live g x b p
  | go {b p t : Nat} {B T : Blk} : g[b]? = some B → scan x (B.rows.drop p) B.en = none → t ∈ succ B.en → g[t]? = some T → x ∉ T.params → Live g x t 0 → Live g x b p
/-! ### the law's own search -/
abbrev Spot := Nat × Nat
def nexts (g : Gr) (x : Int) (e : End) : List Nat := (succ e).filter fun t => match g[t]? with
  | some T => !decide (x ∈ T.params)
  | none => false
theorem mem_nexts {g : Gr} {x : Int} {e : End} {t : Nat} : t ∈ nexts g x e ↔ t ∈ succ e ∧ ∃ T, g[t]? = some T ∧ x ∉ T.params := by
  unfold nexts
  rw [List.mem_filter]
  cases h : g[t]? with
  | none => simp
  | some T => simp
structure Search (g : Gr) (x : Int) (b p : Nat) (left seen : List Spot) : Prop where
  live : ∀ s ∈ left, Live g x s.1 s.2 → Live g x b p
  start : (b, p) ∈ left ∨ (b, p) ∈ seen
  blk : ∀ s ∈ left, s.1 < g.length
  done : ∀ s ∈ seen, ∃ B, g[s.1]? = some B ∧ scan x (B.rows.drop s.2) B.en ≠ some true ∧ (scan x (B.rows.drop s.2) B.en = none → ∀ t ∈ nexts g x B.en, (t, 0) ∈ left ∨ (t, 0) ∈ seen)
theorem Search.none {g : Gr} {x : Int} {b p : Nat} {seen : List Spot} (h : Search g x b p [] seen) : ¬ Live g x b p := by
  have : ∀ c q, Live g x c q → (c, q) ∉ seen := by
    intro c q hl
    induction hl with
    | use hB hs =>
      intro hm
      obtain ⟨B', e, h1, _⟩ := h.done _ hm
      rw [hB] at e
      cases e
      exact h1 hs
    | go hB hs ht hT hx _ ih =>
      intro hm
      obtain ⟨B', e, _, h2⟩ := h.done _ hm
      rw [hB] at e
      cases e
      rcases h2 hs _ (mem_nexts.mpr ⟨ht, _, hT, hx⟩) with h3 | h3
      · cases h3
      · exact ih h3
  intro hl
  rcases h.start with h1 | h1
  · cases h1
  · exact this _ _ hl h1
theorem Search.init {g : Gr} {x : Int} {b p : Nat} (hb : b < g.length) : Search g x b p [(b, p)] [] where
  live := fun s h l => by rw [List.mem_singleton.mp h] at l; exact l
  start := .inl List.mem_cons_self
  blk := fun s h => by rw [List.mem_singleton.mp h]; exact hb
  done := fun s h => by cases h
/-- a spot that was seen before -/
theorem Search.skip {g : Gr} {x : Int} {b p : Nat} {left seen : List Spot} {s : Spot} (h : Search g x b p (left ++ [s]) seen) (m : s ∈ seen) : Search g x b p left seen where
  live := fun s h' l => h.live s (List.mem_append_left _ h') l
  start := by
    rcases h.start with h1 | h1
    · rcases List.mem_append.mp h1 with h2 | h2
      · exact .inl h2
      · rw [← List.mem_singleton.mp h2] at m; exact .inr m
    · exact .inr h1
  blk := fun s h' => h.blk s (List.mem_append_left _ h')
  done := fun s' h' => by
    obtain ⟨B, e, h1, h2⟩ := h.done s' h'
    refine ⟨B, e, h1, fun hn t ht => ?_⟩
    rcases h2 hn t ht with h3 | h3
    · rcases List.mem_append.mp h3 with h4 | h4
      · exact .inl h4
      · rw [← List.mem_singleton.mp h4] at m; exact .inr m
    · exact .inr h3
theorem Search.hit {g : Gr} {x : Int} {b p : Nat} {left seen : List Spot} {s : Spot} {B : Blk} (h : Search g x b p (left ++ [s]) seen) (hB : g[s.1]? = some B) (hs : scan x (B.rows.drop s.2) B.en = some true) : Live g x b p :=
  h.live s (List.mem_append_right _ List.mem_cons_self) (.use hB hs)
theorem Search.stop {g : Gr} {x : Int} {b p : Nat} {left seen : List Spot} {s : Spot} {B : Blk} (h : Search g x b p (left ++ [s]) seen) (hB : g[s.1]? = some B) (hs : scan x (B.rows.drop s.2) B.en = some false) : Search g x b p left (seen ++ [s]) where
  live := fun s h' l => h.live s (List.mem_append_left _ h') l
  start := by
    rcases h.start with h1 | h1
    · rcases List.mem_append.mp h1 with h2 | h2
      · exact .inl h2
      · exact .inr (List.mem_append_right _ h2)
    · exact .inr (List.mem_append_left _ h1)
  blk := fun s h' => h.blk s (List.mem_append_left _ h')
  done := fun s' h' => by
    rcases List.mem_append.mp h' with h' | h'
    · obtain ⟨B, e, h1, h2⟩ := h.done s' h'
      refine ⟨B, e, h1, fun hn t ht => ?_⟩
      rcases h2 hn t ht with h3 | h3
      · rcases List.mem_append.mp h3 with h4 | h4
        · exact .inl h4
        · exact .inr (List.mem_append_right _ h4)
      · exact .inr (List.mem_append_left _ h3)
    · rw [List.mem_singleton.mp h']
      exact ⟨B, hB, by rw [hs]; simp, fun hn => by rw [hs] at hn; cases hn⟩
theorem Search.step {g : Gr} {x : Int} {b p : Nat} {left seen : List Spot} {s : Spot} {B : Blk} (h : Search g x b p (left ++ [s]) seen) (hB : g[s.1]? = some B) (hs : scan x (B.rows.drop s.2) B.en = Option.none) : Search g x b p (left ++ (nexts g x B.en).map fun t => (t, 0)) (seen ++ [s]) where
  live := fun s' h' l => by
    rcases List.mem_append.mp h' with h' | h'
    · exact h.live s' (List.mem_append_left _ h') l
    · obtain ⟨t, ht, rfl⟩ := List.mem_map.mp h'
      obtain ⟨ht, T, hT, hx⟩ := mem_nexts.mp ht
      exact h.live s (List.mem_append_right _ List.mem_cons_self) (.go hB hs ht hT hx l)
  start := by
    rcases h.start with h1 | h1
    · rcases List.mem_append.mp h1 with h2 | h2
      · exact .inl (List.mem_append_left _ h2)
      · exact .inr (List.mem_append_right _ h2)
    · exact .inr (List.mem_append_left _ h1)
  blk := fun s' h' => by
    rcases List.mem_append.mp h' with h' | h'
    · exact h.blk s' (List.mem_append_left _ h')
    · obtain ⟨t, ht, rfl⟩ := List.mem_map.mp h'
      obtain ⟨ht, T, hT, hx⟩ := mem_nexts.mp ht
      exact (List.getElem?_eq_some_iff.mp hT).1
  done := fun s' h' => by
    rcases List.mem_append.mp h' with h' | h'
    · obtain ⟨B, e, h1, h2⟩ := h.done s' h'
      refine ⟨B, e, h1, fun hn t ht => ?_⟩
      rcases h2 hn t ht with h3 | h3
      · rcases List.mem_append.mp h3 with h4 | h4
        · exact .inl (List.mem_append_left _ h4)
        · exact .inr (List.mem_append_right _ h4)
      · exact .inr (List.mem_append_left _ h3)
    · rw [List.mem_singleton.mp h']
      exact ⟨B, hB, by rw [hs]; simp, fun _ t ht => .inl (List.mem_append_right _ (List.mem_map.mpr ⟨t, ht, rfl⟩))⟩
theorem length_le {α : Type} [DecidableEq α] : ∀ {a b : List α}, a.Nodup → (∀ x ∈ a, x ∈ b) → a.length ≤ b.length
  | [], _, _, _ => Nat.zero_le _
  | x :: a, b, n, h => by
    rw [List.nodup_cons] at n
    have := length_le (a := a) (b := b.erase x) n.2 fun y hy => (List.mem_erase_of_ne (by rintro rfl; exact n.1 hy)).mpr (h y (List.mem_cons_of_mem _ hy))
    have h2 := List.length_erase_of_mem (h x List.mem_cons_self)
    have h3 := List.length_pos_of_mem (h x List.mem_cons_self)
    rw [List.length_cons]
    omega
/-- how long the search may take -/
structure Count (n : Nat) (b p k : Nat) (left seen : List Spot) : Prop where
  nod : seen.Nodup
  sub : ∀ s ∈ seen ++ left, s = (b, p) ∨ s.1 < n ∧ s.2 = 0
  cnt : k + left.length ≤ 1 + 3 * seen.length
theorem Count.le {n b p k : Nat} {left seen : List Spot} (h : Count n b p k left seen) : k + left.length ≤ 1 + 3 * (n + 1) := by
  have : seen.length ≤ ((b, p) :: (List.range n).map fun t => (t, 0)).length := length_le h.nod fun s hs => by
    rcases h.sub s (List.mem_append_left _ hs) with e | ⟨e1, e2⟩
    · rw [e]; exact List.mem_cons_self
    · exact List.mem_cons_of_mem _ (List.mem_map.mpr ⟨s.1, List.mem_range.mpr e1, by rw [← e2]⟩)
  have c := h.cnt
  simp at this
  omega
theorem Count.init {n b p : Nat} : Count n b p 0 [(b, p)] [] := ⟨List.nodup_nil, fun s h => .inl (by simpa using h), by simp⟩
theorem Count.skip {n b p k : Nat} {left seen : List Spot} {s : Spot} (h : Count n b p k (left ++ [s]) seen) : Count n b p (k + 1) left seen := by
  refine ⟨h.nod, fun s' h' => h.sub s' ?_, ?_⟩
  · rcases List.mem_append.mp h' with h' | h'
    · exact List.mem_append_left _ h'
    · exact List.mem_append_right _ (List.mem_append_left _ h')
  · have := h.cnt
    simp at this
    omega
theorem Count.step {n b p k : Nat} {left seen : List Spot} {s : Spot} {ts : List Nat} (h : Count n b p k (left ++ [s]) seen) (m : s ∉ seen) (ht : ts.length ≤ 3) (hn : ∀ t ∈ ts, t < n) : Count n b p (k + 1) (left ++ ts.map fun t => (t, 0)) (seen ++ [s]) := by
  refine ⟨?_, fun s' h' => ?_, ?_⟩
  · rw [List.nodup_append]
    exact ⟨h.nod, by simp, fun a ha b hb => by
      rw [List.mem_singleton.mp hb]
      rintro rfl
      exact m ha⟩
  · simp only [List.mem_append, List.mem_singleton, List.mem_map] at h'
    rcases h' with (h' | h') | (h' | ⟨t, h', e⟩)
    · exact h.sub s' (List.mem_append_left _ h')
    · exact h.sub s' (List.mem_append_right _ (List.mem_append_right _ (by simp [h'])))
    · exact h.sub s' (List.mem_append_right _ (List.mem_append_left _ h'))
    · exact .inr ⟨by rw [← e]; exact hn t h', by rw [← e]⟩
  · have := h.cnt
    simp at this ⊢
    omega

/-! ### the program's liveness -/
def liveB (B : Blk) (after : Vs) : Vs := B.rows.foldr (fun r l => united (without l [r.1]) (names_in r.2.atoms)) (united (united after []) (names_in B.en.atoms))
def liveR (rows : List (Int × Row)) (e : End) (after : Vs) : Vs := rows.foldr (fun r l => united (without l [r.1]) (names_in r.2.atoms)) (united after (names_in e.atoms))
theorem liveB_eq {B : Blk} {after : Vs} : liveB B after = liveR B.rows B.en after := rfl
theorem mem_liveR {x : Int} {e : End} {after : Vs} : ∀ {rows : List (Int × Row)}, x ∈ liveR rows e after ↔ scan x rows e = some true ∨ scan x rows e = none ∧ x ∈ after
  | [] => by
    show x ∈ united after (names_in e.atoms) ↔ _
    rw [mem_united, mem_names_in]
    unfold scan
    split
    · rename_i h; simp [h]
    · rename_i h; simp [h]
  | r :: rs => by
    show x ∈ united (without (liveR rs e after) [r.1]) (names_in r.2.atoms) ↔ _
    rw [mem_united, mem_names_in, mem_without, mem_liveR, scan_cons]
    by_cases h1 : .var x ∈ r.2.atoms
    · simp [h1]
    · rw [if_neg h1]
      by_cases h2 : r.1 = x
      · simp [h1, h2]
      · rw [if_neg h2]
        have : x ∉ [r.1] := fun z => h2 (List.mem_singleton.mp z).symm
        simp [h1, this]
theorem nodup_liveR {e : End} {after : Vs} (h : after.Nodup) : ∀ {rows : List (Int × Row)}, (liveR rows e after).Nodup
  | [] => nodup_united h
  | r :: rs => nodup_united (nodup_without (nodup_liveR h))
abbrev Fnd := List Vs
def afterOf (F : Fnd) (e : End) : Vs := (succ e).foldl (fun l t => united l (F.getD t [])) []
theorem mem_foldU {F : Fnd} {x : Int} : ∀ {ts : List Nat} {l : Vs}, x ∈ ts.foldl (fun l t => united l (F.getD t [])) l ↔ x ∈ l ∨ ∃ t ∈ ts, x ∈ F.getD t []
  | [], l => by simp
  | t :: ts, l => by
    rw [List.foldl_cons, mem_foldU, mem_united]
    constructor
    · rintro ((h | h) | ⟨u, h1, h2⟩)
      · exact .inl h
      · exact .inr ⟨t, List.mem_cons_self, h⟩
      · exact .inr ⟨u, List.mem_cons_of_mem _ h1, h2⟩
    · rintro (h | ⟨u, h1, h2⟩)
      · exact .inl (.inl h)
      · rcases List.mem_cons.mp h1 with rfl | h1
        · exact .inl (.inr h2)
        · exact .inr ⟨u, h1, h2⟩
theorem nodup_foldU {F : Fnd} : ∀ {ts : List Nat} {l : Vs}, l.Nodup → (ts.foldl (fun l t => united l (F.getD t [])) l).Nodup
  | [], _, h => h
  | _ :: ts, _, h => nodup_foldU (ts := ts) (nodup_united h)
theorem mem_afterOf {F : Fnd} {e : End} {x : Int} : x ∈ afterOf F e ↔ ∃ t ∈ succ e, x ∈ F.getD t [] := by
  unfold afterOf
  rw [mem_foldU]
  simp
theorem nodup_afterOf {F : Fnd} {e : End} : (afterOf F e).Nodup := nodup_foldU List.nodup_nil
/-- what one turn works out for a block -/
def turnOf (F : Fnd) (B : Blk) : Vs := without (liveB B (afterOf F B.en)) B.params
theorem nodup_turnOf {F : Fnd} {B : Blk} : (turnOf F B).Nodup := nodup_without (nodup_liveR nodup_afterOf)
theorem mem_turnOf {F : Fnd} {B : Blk} {x : Int} : x ∈ turnOf F B ↔ x ∉ B.params ∧ (scan x B.rows B.en = some true ∨ scan x B.rows B.en = none ∧ ∃ t ∈ succ B.en, x ∈ F.getD t []) := by
  unfold turnOf
  rw [mem_without, liveB_eq, mem_liveR, mem_afterOf, and_comm]
/-- what holds of the rows of live variables while they grow -/
structure Grow (g : Gr) (F : Fnd) : Prop where
  len : F.length = g.length
  low : ∀ b B, g[b]? = some B → ∀ x ∈ F.getD b [], x ∈ turnOf F B
  live : ∀ b B, g[b]? = some B → ∀ x ∈ F.getD b [], x ∉ B.params ∧ Live g x b 0
  ord : ∀ b, (F.getD b []).Pairwise (· ≤ ·) ∧ (F.getD b []).Nodup
/-- the end: what was found is all that is live -/
structure Fixed (g : Gr) (F : Fnd) : Prop where
  len : F.length = g.length
  mem : ∀ b B x, g[b]? = some B → (x ∈ F.getD b [] ↔ x ∉ B.params ∧ Live g x b 0)
  ord : ∀ b, (F.getD b []).Pairwise (· ≤ ·) ∧ (F.getD b []).Nodup
theorem getD_eq {F : Fnd} {b : Nat} {l : Vs} (h : F[b]? = some l) : F.getD b [] = l := by
  rw [List.getD_eq_getElem?_getD, h]
  rfl
theorem Grow.init {g : Gr} : Grow g (g.map fun _ => []) := by
  have e : ∀ b, (g.map fun _ => ([] : Vs)).getD b [] = [] := fun b => by
    rw [List.getD_eq_getElem?_getD, List.getElem?_map]
    cases g[b]? <;> rfl
  refine ⟨by simp, fun b B h x hx => ?_, fun b B h x hx => ?_, fun b => ?_⟩
  · rw [e] at hx; cases hx
  · rw [e] at hx; cases hx
  · rw [e]; exact ⟨.nil, List.nodup_nil⟩
theorem getD_set {F : Fnd} {b c : Nat} {l : Vs} (h : b < F.length) : (F.set b l).getD c [] = if c = b then l else F.getD c [] := by
  rw [List.getD_eq_getElem?_getD, List.getElem?_set]
  by_cases e : b = c
  · subst e
    rw [if_pos rfl, if_pos h, if_pos rfl]
    rfl
  · rw [if_neg e, if_neg (fun z => e z.symm), List.getD_eq_getElem?_getD]
theorem turn_mono {F F' : Fnd} {B : Blk} (h : ∀ t x, x ∈ F.getD t [] → x ∈ F'.getD t []) {x : Int} (m : x ∈ turnOf F B) : x ∈ turnOf F' B := by
  rw [mem_turnOf] at m ⊢
  obtain ⟨h1, h2 | ⟨h2, t, h3, h4⟩⟩ := m
  · exact ⟨h1, .inl h2⟩
  · exact ⟨h1, .inr ⟨h2, t, h3, h t x h4⟩⟩
theorem Grow.turn_live {g : Gr} {F : Fnd} (h : Grow g F) {b : Nat} {B : Blk} (hB : g[b]? = some B) {x : Int} (m : x ∈ turnOf F B) : x ∉ B.params ∧ Live g x b 0 := by
  rw [mem_turnOf] at m
  obtain ⟨h1, h2 | ⟨h2, t, h3, h4⟩⟩ := m
  · exact ⟨h1, .use hB (by rw [List.drop_zero]; exact h2)⟩
  · refine ⟨h1, ?_⟩
    cases hT : g[t]? with
    | none =>
      have : F.getD t [] = [] := by
        rw [List.getD_eq_getElem?_getD, List.getElem?_eq_none (by rw [h.len]; exact List.getElem?_eq_none_iff.mp hT)]
        rfl
      rw [this] at h4
      cases h4
    | some T =>
      obtain ⟨a, l⟩ := h.live t T hT x h4
      exact .go hB (by rw [List.drop_zero]; exact h2) h3 hT a l
theorem Grow.set {g : Gr} {F : Fnd} (h : Grow g F) {b : Nat} {B : Blk} (hB : g[b]? = some B) {s : Vs} (hs : Sorted (turnOf F B) s) : Grow g (F.set b s) := by
  have hb : b < F.length := by
    rw [h.len]
    exact (List.getElem?_eq_some_iff.mp hB).1
  have up : ∀ t x, x ∈ F.getD t [] → x ∈ (F.set b s).getD t [] := fun t x hx => by
    rw [getD_set hb]
    split
    · rename_i e
      subst e
      exact hs.mem.mpr (h.low t B hB x hx)
    · exact hx
  refine ⟨by rw [List.length_set, h.len], fun c C hC x hx => ?_, fun c C hC x hx => ?_, fun c => ?_⟩
  · rw [getD_set hb] at hx
    split at hx
    · rename_i e
      subst e
      rw [hB] at hC
      cases hC
      exact turn_mono up (hs.mem.mp hx)
    · exact turn_mono up (h.low c C hC x hx)
  · rw [getD_set hb] at hx
    split at hx
    · rename_i e
      subst e
      rw [hB] at hC
      cases hC
      exact h.turn_live hB (hs.mem.mp hx)
    · exact h.live c C hC x hx
  · rw [getD_set hb]
    split
    · exact ⟨hs.2, hs.nodup nodup_turnOf⟩
    · exact h.ord c
theorem Grow.fixed {g : Gr} {F : Fnd} (h : Grow g F) (e : ∀ b B, g[b]? = some B → Sorted (turnOf F B) (F.getD b [])) : Fixed g F := by
  refine ⟨h.len, fun b B x hB => ⟨h.live b B hB x, fun ⟨hp, hl⟩ => ?_⟩, h.ord⟩
  have : ∀ c q, Live g x c q → q = 0 → ∀ C, g[c]? = some C → x ∉ C.params → x ∈ F.getD c [] := by
    intro c q hl
    induction hl with
    | use hB hs =>
      rintro rfl C hC hp
      rw [hB] at hC
      cases hC
      rw [List.drop_zero] at hs
      exact (e _ _ hB).mem.mpr (mem_turnOf.mpr ⟨hp, .inl hs⟩)
    | go hB hs ht hT hx _ ih =>
      rintro rfl C hC hp
      rw [hB] at hC
      cases hC
      rw [List.drop_zero] at hs
      exact (e _ _ hB).mem.mpr (mem_turnOf.mpr ⟨hp, .inr ⟨hs, _, ht, ih rfl _ hT hx⟩⟩)
  exact this b 0 hl rfl B hB hp
/-- how much is still to come -/
def size (F : Fnd) : Nat := F.foldr (fun l n => l.length + n) 0
theorem size_set : ∀ {F : Fnd} {b : Nat} {l s : Vs}, F[b]? = some l → size (F.set b s) + l.length = size F + s.length
  | f :: F, 0, l, s, h => by
    cases h
    simp [size]
    omega
  | f :: F, b + 1, l, s, h => by
    have := size_set (F := F) (b := b) (l := l) (s := s) (by simpa using h)
    simp [size] at this ⊢
    omega
theorem Grow.more {g : Gr} {F : Fnd} (h : Grow g F) {b : Nat} {B : Blk} (hB : g[b]? = some B) {l s : Vs} (hl : F[b]? = some l) (hs : Sorted (turnOf F B) s) (hne : s ≠ l) : size F < size (F.set b s) := by
  have e := size_set (s := s) hl
  have gl := getD_eq hl
  have o := h.ord b
  rw [gl] at o
  have sub : ∀ x ∈ l, x ∈ s := fun x hx => hs.mem.mpr (h.low b B hB x (by rw [gl]; exact hx))
  have le := length_le o.2 sub
  have : l.length ≠ s.length := by
    intro z
    refine hne (sorted_ext hs.2 o.1 (hs.nodup nodup_turnOf) o.2 fun x => ⟨fun hx => ?_, sub x⟩)
    by_cases m : x ∈ l
    · exact m
    · exfalso
      have : (x :: l).length ≤ s.length := length_le (List.nodup_cons.mpr ⟨m, o.2⟩) fun y hy => by
        rcases List.mem_cons.mp hy with rfl | hy
        · exact hx
        · exact sub y hy
      rw [List.length_cons] at this
      omega
  omega
theorem size_le {F : Fnd} {N : Nat} (h : ∀ l ∈ F, l.length ≤ N) : size F ≤ F.length * N := by
  induction F with
  | nil => simp [size]
  | cons f F ih =>
    have := ih fun l hl => h l (List.mem_cons_of_mem _ hl)
    have := h f List.mem_cons_self
    simp only [size, List.foldr_cons, List.length_cons, Nat.add_mul] at *
    omega

/-! ### tables of names to rows of names, each at its own address -/
abbrev T3 (A : Type) := List (Int × A × Vs)
section
variable {A : Type}
def keys (t : T3 A) : Vs := t.map (·.1)
def adr (t : T3 A) : List A := t.map (·.2.1)
def getv (t : T3 A) (k : Int) : Vs := match t.find? fun e => decide (e.1 = k) with
  | some e => e.2.2
  | none => []
def setd (t : T3 A) (k : Int) (p : A) : T3 A := if k ∈ keys t then t else t ++ [(k, p, [])]
/-- the row of k becomes longer by v; n: its new address, if it gets one -/
def app (t : T3 A) (k v : Int) (n : Option A) : T3 A := t.map fun e => if e.1 = k then (e.1, n.getD e.2.1, e.2.2 ++ [v]) else e
theorem keys_app {t : T3 A} {k v : Int} {n : Option A} : keys (app t k v n) = keys t := by
  unfold keys app
  rw [List.map_map]
  exact List.map_congr_left fun e _ => by
    show (if e.1 = k then (e.1, n.getD e.2.1, e.2.2 ++ [v]) else e).1 = e.1
    split <;> rfl
theorem adr_app {t : T3 A} {k v : Int} : adr (app t k v none) = adr t := by
  unfold adr app
  rw [List.map_map]
  exact List.map_congr_left fun e _ => by
    show (if e.1 = k then (e.1, e.2.1, e.2.2 ++ [v]) else e).2.1 = e.2.1
    split <;> rfl
theorem mem_keys_setd {t : T3 A} {k x : Int} {p : A} : x ∈ keys (setd t k p) ↔ x ∈ keys t ∨ x = k := by
  unfold setd
  split
  · rename_i h
    constructor
    · exact .inl
    · rintro (h' | rfl)
      · exact h'
      · exact h
  · simp [keys]
theorem nodup_keys_setd {t : T3 A} {k : Int} {p : A} (h : (keys t).Nodup) : (keys (setd t k p)).Nodup := by
  unfold setd
  split
  · exact h
  · rename_i n
    unfold keys at *
    rw [List.map_append, List.nodup_append]
    exact ⟨h, by simp, fun a ha b hb => by
      rw [List.map_cons, List.map_nil] at hb
      rw [List.mem_singleton.mp hb]
      rintro rfl
      exact n ha⟩
theorem getv_setd {t : T3 A} {k x : Int} {p : A} : getv (setd t k p) x = getv t x := by
  unfold setd
  split
  · rfl
  · rename_i n
    unfold getv
    rw [List.find?_append]
    cases h : t.find? fun e => decide (e.1 = x) with
    | some e => rfl
    | none =>
      by_cases e : k = x
      · simp [e]
      · simp [e]
theorem find_app {k v x : Int} {n : Option A} : ∀ {t : T3 A}, (app t k v n).find? (fun e => decide (e.1 = x)) = (t.find? fun e => decide (e.1 = x)).map fun e => if e.1 = k then (e.1, n.getD e.2.1, e.2.2 ++ [v]) else e
  | [] => rfl
  | e :: t => by
    unfold app
    rw [List.map_cons, List.find?_cons, List.find?_cons]
    have : (if e.1 = k then (e.1, n.getD e.2.1, e.2.2 ++ [v]) else e).1 = e.1 := by split <;> rfl
    rw [this]
    split
    · rfl
    · exact find_app (t := t)
theorem getv_app {t : T3 A} {k v x : Int} {n : Option A} (h : k ∈ keys t) : getv (app t k v n) x = if x = k then getv t k ++ [v] else getv t x := by
  unfold getv
  rw [find_app]
  cases e : t.find? fun e => decide (e.1 = x) with
  | some f =>
    have := List.find?_some e
    have hx : f.1 = x := by simpa using this
    by_cases h2 : x = k
    · subst h2
      rw [e, if_pos rfl]
      simp [hx]
    · simp [hx, h2]
  | none =>
    have hn : x ∉ keys t := by
      unfold keys
      rw [List.mem_map]
      rintro ⟨f, hf, rfl⟩
      have := List.find?_eq_none.mp e f hf
      simp at this
    have h2 : x ≠ k := by rintro rfl; exact hn h
    simp [h2]
theorem getv_mem {t : T3 A} (h : (keys t).Nodup) {e : Int × A × Vs} (m : e ∈ t) : getv t e.1 = e.2.2 := by
  induction t with
  | nil => cases m
  | cons f t ih =>
    unfold keys at h
    rw [List.map_cons, List.nodup_cons] at h
    unfold getv
    rw [List.find?_cons]
    rcases List.mem_cons.mp m with rfl | m
    · simp
    · have : f.1 ≠ e.1 := by
        intro z
        rw [z] at h
        exact h.1 (List.mem_map.mpr ⟨e, m, rfl⟩)
      simp only [this, decide_false]
      exact ih h.2 m
theorem getv_none {t : T3 A} {x : Int} (h : x ∉ keys t) : getv t x = [] := by
  unfold getv
  cases e : t.find? fun e => decide (e.1 = x) with
  | none => rfl
  | some f =>
    have h1 := List.find?_some e
    have h2 := List.mem_of_find?_eq_some e
    exfalso
    exact h (List.mem_map.mpr ⟨f, h2, by simpa using h1⟩)
theorem find_key {t : T3 A} {x : Int} (h : x ∈ keys t) : ∃ p, (t.find? fun e => decide (e.1 = x)) = some (x, p, getv t x) ∧ (x, p, getv t x) ∈ t := by
  cases e : t.find? fun e => decide (e.1 = x) with
  | none =>
    exfalso
    obtain ⟨f, hf, rfl⟩ := List.mem_map.mp h
    have := List.find?_eq_none.mp e f hf
    simp at this
  | some f =>
    have h1 := List.find?_some e
    have hx : f.1 = x := by simpa using h1
    subst hx
    refine ⟨f.2.1, ?_, ?_⟩
    · unfold getv; rw [e]
    · unfold getv; rw [e]; exact List.mem_of_find?_eq_some e
/-- what a table tells: who stands with whom -/
structure Tb (t : T3 A) (R : Int → Int → Prop) : Prop where
  nod : (keys t).Nodup
  mem : ∀ x y, y ∈ getv t x ↔ R x y
  rows : ∀ x, (getv t x).Nodup
  sym : ∀ x y, R x y → R y x
theorem Tb.congr {t : T3 A} {R S : Int → Int → Prop} (h : Tb t R) (e : ∀ x y, R x y ↔ S x y) : Tb t S :=
  ⟨h.nod, fun x y => (h.mem x y).trans (e x y), h.rows, fun x y s => (e y x).mp (h.sym x y ((e x y).mpr s))⟩
theorem Tb.nil : Tb ([] : T3 A) fun _ _ => False := ⟨List.nodup_nil, fun x y => by simp [getv], fun x => List.nodup_nil, fun _ _ h => h⟩
theorem Tb.setd {t : T3 A} {R : Int → Int → Prop} (h : Tb t R) (k : Int) (p : A) : Tb (setd t k p) R :=
  ⟨nodup_keys_setd h.nod, fun x y => by rw [getv_setd]; exact h.mem x y, fun x => by rw [getv_setd]; exact h.rows x, h.sym⟩
def With (R : Int → Int → Prop) (a b : Int) : Int → Int → Prop := fun x y => R x y ∨ x = a ∧ y = b ∨ x = b ∧ y = a
theorem Tb.join {t : T3 A} {R : Int → Int → Prop} (h : Tb t R) {a b : Int} (ha : a ∈ keys t) (hb : b ∈ keys t) (hab : b ≠ a) (hn : b ∉ getv t a) : Tb (app (app t a b none) b a none) (With R a b) := by
  have hn' : a ∉ getv t b := fun z => hn ((h.mem a b).mpr (h.sym b a ((h.mem b a).mp z)))
  have g : ∀ x, getv (app (app t a b none) b a none) x = if x = b then getv t b ++ [a] else if x = a then getv t a ++ [b] else getv t x := fun x => by
    rw [getv_app (by rw [keys_app]; exact hb), getv_app ha, getv_app ha, if_neg hab]
  refine ⟨by rw [keys_app, keys_app]; exact h.nod, fun x y => ?_, fun x => ?_, ?_⟩
  · rw [g]
    unfold With
    rw [← h.mem]
    by_cases h1 : x = b
    · subst h1
      rw [if_pos rfl, List.mem_append, List.mem_singleton]
      constructor
      · rintro (q | q)
        · exact .inl q
        · exact .inr (.inr ⟨rfl, q⟩)
      · rintro (q | ⟨q, _⟩ | ⟨_, q⟩)
        · exact .inl q
        · exact absurd q hab
        · exact .inr q
    · rw [if_neg h1]
      by_cases h2 : x = a
      · subst h2
        rw [if_pos rfl, List.mem_append, List.mem_singleton]
        constructor
        · rintro (q | q)
          · exact .inl q
          · exact .inr (.inl ⟨rfl, q⟩)
        · rintro (q | ⟨_, q⟩ | ⟨q, _⟩)
          · exact .inl q
          · exact .inr q
          · exact absurd q h1
      · rw [if_neg h2]
        constructor
        · exact .inl
        · rintro (q | ⟨q, _⟩ | ⟨q, _⟩)
          · exact q
          · exact absurd q h2
          · exact absurd q h1
  · rw [g]
    have ap : ∀ {l : Vs} {v : Int}, l.Nodup → v ∉ l → (l ++ [v]).Nodup := fun {l v} hl hv => by
      rw [List.nodup_append]
      exact ⟨hl, by simp, fun c hc d hd => by
        rw [List.mem_singleton.mp hd]
        rintro rfl
        exact hv hc⟩
    split
    · exact ap (h.rows b) hn'
    · split
      · exact ap (h.rows a) hn
      · exact h.rows x
  · rintro x y (q | ⟨q, r⟩ | ⟨q, r⟩)
    · exact .inl (h.sym x y q)
    · exact .inr (.inr ⟨r, q⟩)
    · exact .inr (.inl ⟨r, q⟩)
/-- the law's table: doublets may stand in a row -/
structure Pb (t : T3 A) (ns : Vs) (c : Nat) (R : Int → Int → Prop) : Prop where
  keys : keys t = ns
  mem : ∀ x y, y ∈ getv t x ↔ R x y
  len : ∀ x, (getv t x).length ≤ c
theorem Pb.congr {t : T3 A} {ns : Vs} {c d : Nat} {R S : Int → Int → Prop} (h : Pb t ns c R) (hc : c ≤ d) (e : ∀ x y, R x y ↔ S x y) : Pb t ns d S :=
  ⟨h.keys, fun x y => (h.mem x y).trans (e x y), fun x => Nat.le_trans (h.len x) hc⟩
theorem Pb.join {t : T3 A} {ns : Vs} {c : Nat} {R : Int → Int → Prop} (h : Pb t ns c R) {a b : Int} (ha : a ∈ ns) (hb : b ∈ ns) (hab : b ≠ a) (p q : Option A) : Pb (app (app t a b p) b a q) ns (c + 1) (With R a b) := by
  have ha' : a ∈ K24.keys t := by rw [h.keys]; exact ha
  have hb' : b ∈ K24.keys t := by rw [h.keys]; exact hb
  have g : ∀ x, getv (app (app t a b p) b a q) x = if x = b then getv t b ++ [a] else if x = a then getv t a ++ [b] else getv t x := fun x => by
    rw [getv_app (by rw [keys_app]; exact hb'), getv_app ha', getv_app ha', if_neg hab]
  refine ⟨by rw [keys_app, keys_app]; exact h.keys, fun x y => ?_, fun x => ?_⟩
  · rw [g]
    unfold With
    rw [← h.mem]
    by_cases h1 : x = b
    · subst h1
      rw [if_pos rfl, List.mem_append, List.mem_singleton]
      constructor
      · rintro (q | q)
        · exact .inl q
        · exact .inr (.inr ⟨rfl, q⟩)
      · rintro (q | ⟨q, _⟩ | ⟨_, q⟩)
        · exact .inl q
        · exact absurd q hab
        · exact .inr q
    · rw [if_neg h1]
      by_cases h2 : x = a
      · subst h2
        rw [if_pos rfl, List.mem_append, List.mem_singleton]
        constructor
        · rintro (q | q)
          · exact .inl q
          · exact .inr (.inl ⟨rfl, q⟩)
        · rintro (q | ⟨_, q⟩ | ⟨q, _⟩)
          · exact .inl q
          · exact .inr q
          · exact absurd q h1
      · rw [if_neg h2]
        constructor
        · exact .inl
        · rintro (q | ⟨q, _⟩ | ⟨q, _⟩)
          · exact q
          · exact absurd q h2
          · exact absurd q h1
  · rw [g]
    have l1 := h.len b
    have l2 := h.len a
    have l3 := h.len x
    split
    · rw [List.length_append]; simp; omega
    · split
      · rw [List.length_append]; simp; omega
      · omega
end

/-! ### blocks that are reached -/
def enAt (g : Gr) (b : Nat) : End := match g[b]? with
  | some B => B.en
  | none => .ret (.int 0)
def stepR (g : Gr) (l : List Nat) (i : Nat) : List Nat := united l (succ (enAt g (l.getD i 0)))
def walkR (g : Gr) : Nat → List Nat
  | 0 => [0]
  | k + 1 => stepR g (walkR g k) (min k ((walkR g k).length - 1))
theorem united_pre {α : Type} [DecidableEq α] : ∀ {b a : List α}, a <+: united a b
  | [], a => List.prefix_refl a
  | x :: b, a => by
    refine List.IsPrefix.trans ?_ (united_pre (b := b) (a := addIf a x))
    unfold addIf
    split
    · exact List.prefix_refl a
    · exact List.prefix_append a [x]
theorem united_same {α : Type} [DecidableEq α] : ∀ {b a : List α}, (∀ x ∈ b, x ∈ a) → united a b = a
  | [], a, _ => rfl
  | x :: b, a, h => by
    show united (addIf a x) b = a
    unfold addIf
    rw [if_pos (h x List.mem_cons_self)]
    exact united_same fun y hy => h y (List.mem_cons_of_mem _ hy)
theorem united_new {α : Type} [DecidableEq α] : ∀ {b a : List α}, b.Nodup → united a b = a ++ b.filter fun x => !decide (x ∈ a)
  | [], a, _ => by simp [united]
  | x :: b, a, h => by
    rw [List.nodup_cons] at h
    show united (addIf a x) b = _
    rw [united_new h.2]
    unfold addIf
    by_cases e : x ∈ a
    · rw [if_pos e, List.filter_cons]
      simp [e]
    · rw [if_neg e, List.filter_cons]
      simp only [e, decide_false, Bool.not_false, if_true]
      rw [List.append_assoc]
      congr 1
      show x :: _ = x :: _
      congr 1
      apply List.filter_congr
      intro y hy
      have : y ≠ x := by rintro rfl; exact h.1 hy
      simp [this]
structure WalkR (g : Gr) (k : Nat) (l : List Nat) : Prop where
  pos : 0 < l.length
  nod : l.Nodup
  lt : ∀ x ∈ l, x < g.length
  done : ∀ i, i < k → i < l.length → ∀ t ∈ succ (enAt g (l.getD i 0)), t ∈ l
theorem getD_pre {l m : List Nat} (h : l <+: m) {i : Nat} (hi : i < l.length) : m.getD i 0 = l.getD i 0 := by
  obtain ⟨r, rfl⟩ := h
  rw [List.getD_eq_getElem?_getD, List.getD_eq_getElem?_getD, List.getElem?_append_left hi]
theorem walkR_ok {g : Gr} (hg : 0 < g.length) (ht : ∀ (b : Nat) (B : Blk), g[b]? = some B → ∀ t ∈ succ B.en, t < g.length) : ∀ k, WalkR g k (walkR g k)
  | 0 => ⟨by simp [walkR], by simp [walkR], fun x hx => by simp [walkR] at hx; omega, fun i hi => by omega⟩
  | k + 1 => by
    have w := walkR_ok hg ht k
    have pre : walkR g k <+: walkR g (k + 1) := united_pre
    have hlen := pre.length_le
    refine ⟨by have := w.pos; omega, nodup_united w.nod, fun x hx => ?_, fun i hi hl t h => ?_⟩
    · rcases mem_united.mp hx with h | h
      · exact w.lt x h
      · unfold enAt at h
        split at h
        · rename_i B hB
          exact ht _ _ hB x h
        · rw [mem_succ] at h
          cases h
    · have wp := w.pos
      by_cases h1 : i < (walkR g k).length
      · rw [getD_pre pre h1] at h
        by_cases h2 : i < k
        · exact pre.subset (w.done i h2 h1 t h)
        · have : min k ((walkR g k).length - 1) = i := by omega
          refine mem_united.mpr (.inr ?_)
          rw [this]
          exact h
      · exfalso
        have hk : k ≥ (walkR g k).length := by omega
        have : walkR g (k + 1) = walkR g k := united_same fun x hx => by
          refine w.done _ ?_ ?_ x hx
          · omega
          · omega
        rw [this] at hl
        omega
/-- the program's list after k rounds, each within the list -/
theorem walkR_stop {g : Gr} (hg : 0 < g.length) (ht : ∀ (b : Nat) (B : Blk), g[b]? = some B → ∀ t ∈ succ B.en, t < g.length) {j : Nat} (hj : (walkR g j).length = j) : ∀ k, j ≤ k → walkR g k = walkR g j := by
  intro k hk
  obtain ⟨d, rfl⟩ := Nat.exists_eq_add_of_le hk
  clear hk
  induction d with
  | zero => rfl
  | succ d ih =>
    show stepR g (walkR g (j + d)) (min (j + d) ((walkR g (j + d)).length - 1)) = _
    rw [ih]
    refine united_same fun x hx => ?_
    have w := walkR_ok hg ht j
    have := w.pos
    exact w.done _ (by omega) (by omega) x hx
theorem walkR_len {g : Gr} (hg : 0 < g.length) (ht : ∀ (b : Nat) (B : Blk), g[b]? = some B → ∀ t ∈ succ B.en, t < g.length) (k : Nat) : (walkR g k).length ≤ g.length := by
  have w := walkR_ok hg ht k
  have := length_le (b := List.range g.length) w.nod fun x hx => List.mem_range.mpr (w.lt x hx)
  simpa using this
theorem walkR_end {g : Gr} (hg : 0 < g.length) (ht : ∀ (b : Nat) (B : Blk), g[b]? = some B → ∀ t ∈ succ B.en, t < g.length) {j : Nat} (hj : (walkR g j).length = j) : walkR g g.length = walkR g j :=
  walkR_stop hg ht hj _ (by have := walkR_len hg ht j; omega)
def preds (g : Gr) (m t : Nat) : List Nat := (List.range m).filter fun b => decide (t ∈ succ (enAt g b))

/-! ### which graphs are given -/
def blkNames (B : Blk) : Vs := B.params ++ B.rows.map (·.1)
def allNames (ps : Vs) (g : Gr) : Vs := ps ++ g.flatMap blkNames
def arity : End → Nat
  | .jump _ as => as.length
  | _ => 0
structure GOk (ps : Vs) (g : Gr) : Prop where
  nod : (allNames ps g).Nodup
  few : (allNames ps g).length ≤ 60
  len : g.length ≤ 8
  pos : 2 ≤ g.length
  row : ∀ B ∈ g, ∀ r ∈ B.rows, ∀ x, .var x ∈ r.2.atoms → x ∈ allNames ps g
  last : ∀ B ∈ g, ∀ x, .var x ∈ B.en.atoms → x ∈ allNames ps g
  tg : ∀ B ∈ g, ∀ t ∈ succ B.en, ∃ T, g[t]? = some T ∧ T.params.length = arity B.en
  tl : ∀ B ∈ g, (targets B.en).length ≤ 3
  al : ∀ B ∈ g, B.en.atoms.length ≤ 10
  rl : ∀ B ∈ g, B.rows.length ≤ 10
theorem succ_len {e : End} : (succ e).length ≤ (targets e).length := by
  unfold succ
  have : ∀ (b a : List Nat), (united a b).length ≤ a.length + b.length := by
    intro b
    induction b with
    | nil => intro a; simp [united]
    | cons x b ih =>
      intro a
      have h1 := ih (addIf a x)
      have h2 : (addIf a x).length ≤ a.length + 1 := by
        unfold addIf
        split <;> simp
      show (united (addIf a x) b).length ≤ _
      rw [List.length_cons]
      omega
  simpa using this (targets e) []
theorem GOk.blk_names {ps : Vs} {g : Gr} {b : Nat} {B : Blk} {x : Int} (h : g[b]? = some B) (m : x ∈ blkNames B) : x ∈ allNames ps g :=
  List.mem_append_right _ (List.mem_flatMap.mpr ⟨B, List.mem_of_getElem? h, m⟩)
theorem GOk.lt {ps : Vs} {g : Gr} (h : GOk ps g) : ∀ (b : Nat) (B : Blk), g[b]? = some B → ∀ t ∈ succ B.en, t < g.length := fun b B hB t ht => by
  obtain ⟨T, hT, _⟩ := h.tg B (List.mem_of_getElem? hB) t ht
  exact (List.getElem?_eq_some_iff.mp hT).1
theorem scan_mem {x : Int} {e : End} : ∀ {rows : List (Int × Row)}, scan x rows e = some true → (∃ r ∈ rows, .var x ∈ r.2.atoms) ∨ .var x ∈ e.atoms
  | [], h => by
    unfold scan at h
    split at h
    · rename_i m; exact .inr m
    · cases h
  | r :: rs, h => by
    rw [scan_cons] at h
    split at h
    · rename_i m; exact .inl ⟨r, List.mem_cons_self, m⟩
    · split at h
      · cases h
      · rcases scan_mem h with ⟨s, h1, h2⟩ | h1
        · exact .inl ⟨s, List.mem_cons_of_mem _ h1, h2⟩
        · exact .inr h1
theorem GOk.live_mem {ps : Vs} {g : Gr} (h : GOk ps g) {x : Int} {b p : Nat} (l : Live g x b p) : x ∈ allNames ps g := by
  induction l with
  | use hB hs =>
    rcases scan_mem hs with ⟨r, h1, h2⟩ | h1
    · exact h.row _ (List.mem_of_getElem? hB) r (List.mem_of_mem_drop h1) x h2
    · exact h.last _ (List.mem_of_getElem? hB) x h1
  | go _ _ _ _ _ _ ih => exact ih
/-- fewer than sixty names stand in a row of names without doublets -/
theorem GOk.few_of {ps : Vs} {g : Gr} (h : GOk ps g) {l : Vs} (n : l.Nodup) (m : ∀ x ∈ l, x ∈ allNames ps g) : l.length ≤ 60 := Nat.le_trans (length_le n m) h.few

/-! ### who stands with whom -/
def Join (R : Int → Int → Prop) (n : Int) (os : Vs) : Int → Int → Prop := fun x y => R x y ∨ x ≠ y ∧ (x = n ∧ y ∈ os ∨ y = n ∧ x ∈ os)
theorem join_nil {R : Int → Int → Prop} {n : Int} (x y : Int) : R x y ↔ Join R n [] x y := by simp [Join]
theorem join_self {R : Int → Int → Prop} {n : Int} {os : Vs} (x y : Int) : Join R n os x y ↔ Join R n (os ++ [n]) x y := by
  unfold Join
  constructor
  · rintro (h | ⟨h, h1 | h1⟩)
    · exact .inl h
    · exact .inr ⟨h, .inl ⟨h1.1, List.mem_append_left _ h1.2⟩⟩
    · exact .inr ⟨h, .inr ⟨h1.1, List.mem_append_left _ h1.2⟩⟩
  · rintro (h | ⟨h, ⟨h1, h2⟩ | ⟨h1, h2⟩⟩)
    · exact .inl h
    · rcases List.mem_append.mp h2 with h2 | h2
      · exact .inr ⟨h, .inl ⟨h1, h2⟩⟩
      · rw [h1, List.mem_singleton.mp h2] at h; exact absurd rfl h
    · rcases List.mem_append.mp h2 with h2 | h2
      · exact .inr ⟨h, .inr ⟨h1, h2⟩⟩
      · rw [h1, List.mem_singleton.mp h2] at h; exact absurd rfl h
theorem join_snoc {R : Int → Int → Prop} {n o : Int} {os : Vs} (ho : o ≠ n) (x y : Int) : With (Join R n os) n o x y ↔ Join R n (os ++ [o]) x y := by
  unfold With Join
  constructor
  · rintro ((h | ⟨h, h1 | h1⟩) | ⟨h1, h2⟩ | ⟨h1, h2⟩)
    · exact .inl h
    · exact .inr ⟨h, .inl ⟨h1.1, List.mem_append_left _ h1.2⟩⟩
    · exact .inr ⟨h, .inr ⟨h1.1, List.mem_append_left _ h1.2⟩⟩
    · exact .inr ⟨by rw [h1, h2]; exact ho.symm, .inl ⟨h1, by rw [h2]; exact List.mem_append_right _ List.mem_cons_self⟩⟩
    · exact .inr ⟨by rw [h1, h2]; exact ho, .inr ⟨h2, by rw [h1]; exact List.mem_append_right _ List.mem_cons_self⟩⟩
  · rintro (h | ⟨h, ⟨h1, h2⟩ | ⟨h1, h2⟩⟩)
    · exact .inl (.inl h)
    · rcases List.mem_append.mp h2 with h2 | h2
      · exact .inl (.inr ⟨h, .inl ⟨h1, h2⟩⟩)
      · exact .inr (.inl ⟨h1, List.mem_singleton.mp h2⟩)
    · rcases List.mem_append.mp h2 with h2 | h2
      · exact .inl (.inr ⟨h, .inr ⟨h1, h2⟩⟩)
      · exact .inr (.inr ⟨List.mem_singleton.mp h2, h1⟩)
theorem join_had {R : Int → Int → Prop} (sym : ∀ x y, R x y → R y x) {n o : Int} (h : R n o) (x y : Int) : R x y ↔ With R n o x y := by
  constructor
  · exact .inl
  · rintro (q | ⟨q, r⟩ | ⟨q, r⟩)
    · exact q
    · rw [q, r]; exact h
    · rw [q, r]; exact sym _ _ h
def JoinA (R : Int → Int → Prop) (done os : Vs) : Int → Int → Prop := fun x y => R x y ∨ x ≠ y ∧ (x ∈ done ∧ y ∈ os ∨ y ∈ done ∧ x ∈ os)
theorem joinA_snoc {R : Int → Int → Prop} {done os : Vs} {n : Int} (x y : Int) : Join (JoinA R done os) n os x y ↔ JoinA R (done ++ [n]) os x y := by
  unfold Join JoinA
  constructor
  · rintro ((h | ⟨h, h1 | h1⟩) | ⟨h, h1 | h1⟩)
    · exact .inl h
    · exact .inr ⟨h, .inl ⟨List.mem_append_left _ h1.1, h1.2⟩⟩
    · exact .inr ⟨h, .inr ⟨List.mem_append_left _ h1.1, h1.2⟩⟩
    · exact .inr ⟨h, .inl ⟨by rw [h1.1]; exact List.mem_append_right _ List.mem_cons_self, h1.2⟩⟩
    · exact .inr ⟨h, .inr ⟨by rw [h1.1]; exact List.mem_append_right _ List.mem_cons_self, h1.2⟩⟩
  · rintro (h | ⟨h, ⟨h1, h2⟩ | ⟨h1, h2⟩⟩)
    · exact .inl (.inl h)
    · rcases List.mem_append.mp h1 with h1 | h1
      · exact .inl (.inr ⟨h, .inl ⟨h1, h2⟩⟩)
      · exact .inr ⟨h, .inl ⟨List.mem_singleton.mp h1, h2⟩⟩
    · rcases List.mem_append.mp h1 with h1 | h1
      · exact .inl (.inr ⟨h, .inr ⟨h1, h2⟩⟩)
      · exact .inr ⟨h, .inr ⟨List.mem_singleton.mp h1, h2⟩⟩
def Grp (ps : Vs) (g : Gr) (m : Nat) (x : Int) : Prop := ∃ B, g[m]? = some B ∧ (x ∈ B.params ∨ m = 0 ∧ x ∈ ps ∨ Live g x m 0)
/-- who meets in a block's first place, or behind its instructions up to k -/
def EvG (ps : Vs) (g : Gr) (m : Nat) (x y : Int) : Prop := Grp ps g m x ∧ Grp ps g m y
def EvR (g : Gr) (m k : Nat) (x y : Int) : Prop := ∃ B p r, g[m]? = some B ∧ p < k ∧ B.rows[p]? = some r ∧ (x = r.1 ∧ Live g y m (p + 1) ∨ y = r.1 ∧ Live g x m (p + 1))
def Adj (ps : Vs) (g : Gr) (n : Nat) (x y : Int) : Prop := x ≠ y ∧ ∃ m, m < n ∧ (EvG ps g m x y ∨ ∃ k, EvR g m k x y)
/-- while block n is looked at: its first place is done if c, and k of its instructions -/
def AdjP (ps : Vs) (g : Gr) (n k : Nat) (x y : Int) : Prop := Adj ps g n x y ∨ x ≠ y ∧ (EvG ps g n x y ∨ EvR g n k x y)
theorem Live.cases_iff {g : Gr} {x : Int} {b p : Nat} {B : Blk} (hB : g[b]? = some B) : Live g x b p ↔ scan x (B.rows.drop p) B.en = some true ∨ scan x (B.rows.drop p) B.en = none ∧ ∃ t ∈ succ B.en, ∃ T, g[t]? = some T ∧ x ∉ T.params ∧ Live g x t 0 := by
  constructor
  · intro h
    cases h with
    | use hB' hs => rw [hB] at hB'; cases hB'; exact .inl hs
    | go hB' hs ht hT hx hl => rw [hB] at hB'; cases hB'; exact .inr ⟨hs, _, ht, _, hT, hx, hl⟩
  · rintro (h | ⟨h, t, ht, T, hT, hx, hl⟩)
    · exact .use hB h
    · exact .go hB h ht hT hx hl
theorem Fixed.after {g : Gr} {F : Fnd} (h : Fixed g F) {e : End} (he : ∀ t ∈ succ e, t < g.length) {x : Int} : x ∈ afterOf F e ↔ ∃ t ∈ succ e, ∃ T, g[t]? = some T ∧ x ∉ T.params ∧ Live g x t 0 := by
  rw [mem_afterOf]
  constructor
  · rintro ⟨t, ht, hx⟩
    have hT := List.getElem?_eq_getElem (he t ht)
    obtain ⟨h1, h2⟩ := (h.mem t _ x hT).mp hx
    exact ⟨t, ht, _, hT, h1, h2⟩
  · rintro ⟨t, ht, T, hT, h1, h2⟩
    exact ⟨t, ht, (h.mem t T x hT).mpr ⟨h1, h2⟩⟩
theorem Fixed.before {g : Gr} {F : Fnd} (h : Fixed g F) {b : Nat} {B : Blk} (hB : g[b]? = some B) (he : ∀ t ∈ succ B.en, t < g.length) {x : Int} (p : Nat) : x ∈ liveR (B.rows.drop p) B.en (afterOf F B.en) ↔ Live g x b p := by
  rw [mem_liveR, h.after he, Live.cases_iff hB]
theorem adjP_start {ps : Vs} {g : Gr} {n : Nat} {grp : Vs} (hg : ∀ x, x ∈ grp ↔ Grp ps g n x) (x y : Int) : JoinA (Adj ps g n) grp grp x y ↔ AdjP ps g n 0 x y := by
  unfold JoinA AdjP EvG EvR
  constructor
  · rintro (h | ⟨h, ⟨h1, h2⟩ | ⟨h1, h2⟩⟩)
    · exact .inl h
    · exact .inr ⟨h, .inl ⟨(hg x).mp h1, (hg y).mp h2⟩⟩
    · exact .inr ⟨h, .inl ⟨(hg x).mp h2, (hg y).mp h1⟩⟩
  · rintro (h | ⟨h, ⟨h1, h2⟩ | ⟨B, p, r, _, hp, _⟩⟩)
    · exact .inl h
    · exact .inr ⟨h, .inl ⟨(hg x).mpr h1, (hg y).mpr h2⟩⟩
    · omega
theorem adjP_step {ps : Vs} {g : Gr} {n k : Nat} {B : Blk} {r : Int × Row} {os : Vs} (hB : g[n]? = some B) (hr : B.rows[k]? = some r) (ho : ∀ x, x ∈ os ↔ Live g x n (k + 1)) (x y : Int) : Join (AdjP ps g n k) r.1 os x y ↔ AdjP ps g n (k + 1) x y := by
  unfold Join AdjP EvR
  constructor
  · rintro ((h | ⟨h, h1 | ⟨B', p, r', a, b, c, d⟩⟩) | ⟨h, ⟨h1, h2⟩ | ⟨h1, h2⟩⟩)
    · exact .inl h
    · exact .inr ⟨h, .inl h1⟩
    · exact .inr ⟨h, .inr ⟨B', p, r', a, by omega, c, d⟩⟩
    · exact .inr ⟨h, .inr ⟨B, k, r, hB, by omega, hr, .inl ⟨h1, (ho y).mp h2⟩⟩⟩
    · exact .inr ⟨h, .inr ⟨B, k, r, hB, by omega, hr, .inr ⟨h1, (ho x).mp h2⟩⟩⟩
  · rintro (h | ⟨h, h1 | ⟨B', p, r', a, b, c, d⟩⟩)
    · exact .inl (.inl h)
    · exact .inl (.inr ⟨h, .inl h1⟩)
    · by_cases hp : p < k
      · exact .inl (.inr ⟨h, .inr ⟨B', p, r', a, hp, c, d⟩⟩)
      · have : p = k := by omega
        subst this
        rw [hB] at a
        cases a
        rw [hr] at c
        cases c
        rcases d with ⟨d1, d2⟩ | ⟨d1, d2⟩
        · exact .inr ⟨h, .inl ⟨d1, (ho y).mpr d2⟩⟩
        · exact .inr ⟨h, .inr ⟨d1, (ho x).mpr d2⟩⟩
theorem adjP_end {ps : Vs} {g : Gr} {n : Nat} {B : Blk} (hB : g[n]? = some B) (x y : Int) : AdjP ps g n B.rows.length x y ↔ Adj ps g (n + 1) x y := by
  unfold AdjP Adj
  constructor
  · rintro (⟨h, m, hm, h1⟩ | ⟨h, h1⟩)
    · exact ⟨h, m, by omega, h1⟩
    · exact ⟨h, n, by omega, h1.elim .inl fun z => .inr ⟨_, z⟩⟩
  · rintro ⟨h, m, hm, h1⟩
    by_cases e : m < n
    · exact .inl ⟨h, m, e, h1⟩
    · have : m = n := by omega
      subst this
      refine .inr ⟨h, ?_⟩
      rcases h1 with h1 | ⟨k, B', p, r, a, b, c, d⟩
      · exact .inl h1
      · rw [hB] at a
        cases a
        exact .inr ⟨B, p, r, hB, (List.getElem?_eq_some_iff.mp c).1, c, d⟩
theorem adj_zero {ps : Vs} {g : Gr} (x y : Int) : False ↔ Adj ps g 0 x y := ⟨fun h => h.elim, fun ⟨_, m, hm, _⟩ => by omega⟩

/-! ### a drawn graph -/
structure EndOk (hs : Vs) (As : List Nat) (e : End) : Prop where
  atm : ∀ x, .var x ∈ e.atoms → x ∈ hs
  tg : ∀ t ∈ targets e, As[t]? = some (arity e)
  tl : (targets e).length ≤ 3
  al : e.atoms.length ≤ 10
def rowNames (B : Blk) : Vs := B.rows.map (·.1)
theorem perm_names : ∀ g : Gr, (g.flatMap blkNames).Perm (g.flatMap (·.params) ++ g.flatMap rowNames)
  | [] => List.Perm.refl _
  | B :: g => by
    rw [List.flatMap_cons, List.flatMap_cons, List.flatMap_cons]
    have ih := perm_names g
    show ((B.params ++ rowNames B) ++ _).Perm _
    rw [List.append_assoc, List.append_assoc]
    refine List.Perm.append_left _ ?_
    refine (List.Perm.append_left _ ih).trans ?_
    rw [← List.append_assoc, ← List.append_assoc]
    exact List.Perm.append_right _ List.perm_append_comm
theorem sum_le {l : List Nat} {n : Nat} (h : ∀ a ∈ l, a ≤ n) : l.sum ≤ n * l.length := by
  induction l with
  | nil => simp
  | cons a l ih =>
    have h1 := h a List.mem_cons_self
    have h2 := ih fun b hb => h b (List.mem_cons_of_mem _ hb)
    rw [List.sum_cons, List.length_cons, Nat.mul_add]
    omega
theorem gok_of {g : Gr} {As : List Nat} {c0 : Int} {first : Vs} (h1 : g.length = As.length) (h2 : 2 ≤ As.length) (h8 : As.length ≤ 8) (npl : g.map (·.params.length) = As) (a2 : ∀ a ∈ As, a ≤ 2) (nd : (g.flatMap (·.params)).Nodup) (nr : ∀ x ∈ g.flatMap (·.params), 100 < x ∧ x ≤ c0)
    (rd : (g.flatMap rowNames).Nodup) (rr : ∀ x ∈ g.flatMap rowNames, c0 < x) (c100 : 100 ≤ c0) (rl : ∀ B ∈ g, B.rows.length ≤ 4) (fs : ∀ x ∈ first, x ∈ allNames [1, 2, 3] g)
    (rv : ∀ B ∈ g, ∀ r ∈ B.rows, ∀ x, .var x ∈ r.2.atoms → x ∈ first ++ blkNames B) (ev : ∀ B ∈ g, EndOk (first ++ blkNames B) As B.en) : GOk [1, 2, 3] g := by
  have pm := perm_names g
  have up : ∀ B ∈ g, ∀ x, x ∈ first ++ blkNames B → x ∈ allNames [1, 2, 3] g := fun B hB x hx => by
    rcases List.mem_append.mp hx with hx | hx
    · exact fs x hx
    · exact List.mem_append_right _ (List.mem_flatMap.mpr ⟨B, hB, hx⟩)
  have nod : (g.flatMap blkNames).Nodup := by
    rw [pm.nodup_iff, List.nodup_append]
    exact ⟨nd, rd, fun a ha b hb e => by
      have x1 := nr a ha
      have x2 := rr b hb
      omega⟩
  have big : ∀ x ∈ g.flatMap blkNames, 100 < x := fun x hx => by
    rcases List.mem_append.mp (pm.mem_iff.mp hx) with h | h
    · exact (nr x h).1
    · have := rr x h; omega
  refine ⟨?_, ?_, by omega, by omega, fun B hB r hr x hx => up B hB x (rv B hB r hr x hx), fun B hB x hx => up B hB x ((ev B hB).atm x hx), fun B hB t ht => ?_, fun B hB => (ev B hB).tl, fun B hB => (ev B hB).al, fun B hB => by have := rl B hB; omega⟩
  · unfold allNames
    rw [List.nodup_append]
    exact ⟨by decide, nod, fun a ha b hb e => by
      have := big b hb
      simp at ha
      omega⟩
  · unfold allNames
    rw [List.length_append, pm.length_eq, List.length_append]
    have l1 : (g.flatMap (·.params)).length = As.sum := by rw [List.length_flatMap, npl]
    have l2 : (g.flatMap rowNames).length = (g.map (·.rows.length)).sum := by
      rw [List.length_flatMap]
      congr 1
      exact List.map_congr_left fun B _ => by unfold rowNames; rw [List.length_map]
    have s1 := sum_le a2
    have s2 : (g.map (·.rows.length)).sum ≤ 4 * (g.map (·.rows.length)).length := sum_le fun a ha => by
      obtain ⟨B, hB, rfl⟩ := List.mem_map.mp ha
      exact rl B hB
    rw [List.length_map] at s2
    simp only [List.length_cons, List.length_nil]
    omega
  · have h := (ev B hB).tg t (mem_succ.mp ht)
    rw [← npl, List.getElem?_map] at h
    cases hT : g[t]? with
    | none => rw [hT] at h; cases h
    | some T =>
      rw [hT] at h
      exact ⟨T, rfl, Option.some.inj h⟩
end K24

namespace K24
open PySem PySem.Spec PyProof.Rows L2 Z
local macro_rules | `(tactic| walk_at "zr") => `(tactic| (repeat' (with_reducible first | refine r_asg ?_ | refine r_asgT ?_ | refine r_asgG ?_ | refine r_asg1 ?_ | refine r_if ?_ | refine r_if1 ?_ | refine r_drop ?_ | refine r_drop1 ?_ | refine r_ret ?_ | refine r_ret1 ?_ | refine r_retN ?_ | refine r_nx ?_ | refine r_nx1 ?_ | refine r_bk ?_ | refine r_ct ?_ | refine r_par ?_ | refine r_par1 ?_ | refine r_par3 ?_ | refine r_par31 ?_ | refine r_for ?_ | refine r_for1 ?_ | refine r_sfld ?_ | refine r_sfld1 ?_ | refine r_aug (by with_unfolding_all rfl) ?_ | refine r_aug1 (by with_unfolding_all rfl) ?_ | refine r_var (by with_unfolding_all rfl) ?_ | refine r_c ?_ | refine r_op ?_ | refine r_ifE ?_ | refine r_nil ?_ | refine r_cons ?_ | refine r_tup ?_ | refine r_lst ?_ | refine r_cb ?_ | refine r_call ?_ | refine r_test ?_ | refine r_not ?_ | refine r_and ?_ | refine r_or ?_ | refine r_andV ?_ | refine r_orV ?_ | refine r_notV ?_ | refine r_neg ?_ | refine r_bm ?_ | refine r_bm0 ?_ | refine r_sl ?_ | refine r_part ?_ | refine r_noP ?_ | refine r_chain ?_ | refine r_int2 ?_ | refine r_eqI ?_ | refine r_eqS ?_ | refine r_eqB ?_ | refine r_fInt ?_ | refine r_fIntB ?_ | refine r_fAbs ?_ | refine r_fMin ?_ | refine r_lenT ?_ | refine r_isNN ?_ | refine r_isNI ?_ | refine r_isNT ?_ | refine r_isNR ?_ | refine r_ixT0 ?_ | refine r_ixT1 ?_ | refine r_ixT2 ?_ | refine r_ixT3 ?_ | refine r_fld ?_ | refine r_kfld (by assumption) rfl ?_ | refine r_list ?_ | refine r_klist (by assumption) ?_ | refine r_tupI ?_ | refine r_ktupI ?_ | refine r_yes ?_ | refine r_kctI ?_ | refine r_rng1 ?_ | refine r_rng2 ?_ | refine r_enum ?_ | refine r_kenumT ?_ | refine r_kenum (by assumption) ?_ | refine r_fListT ?_ | refine r_fTupT ?_ | refine r_fListR (by assumption) ?_ | refine r_fTupR (by assumption) ?_ | refine r_lenR (by assumption) ?_ | refine r_rev ?_ | refine r_krevT ?_ | refine r_krev (by assumption) ?_ | refine r_setL ?_ | refine r_dget ?_ | refine r_lc0 ?_ | refine r_name ?_ | refine r_gtup (by with_unfolding_all rfl) ?_ | refine r_gcons ?_ | refine r_gnil ?_ | refine r_din ?_ | refine r_setd ?_ | refine r_ksetdA (by assumption) ?_ | refine r_keysI ?_ | refine r_kkeysI (by assumption) ?_ | refine r_dput ?_ | refine r_dput1 ?_ | refine r_dnewK ?_ | refine r_szc (by with_unfolding_all exact Nat.le_of_ble_eq_true rfl) ?_ | refine r_eqlen (by with_unfolding_all rfl) ?_ | refine r_ifT (by decide) ?_ | refine r_ifF (by decide) ?_ | refine r_inFT (b := false) rfl rfl (by decide) ?_ | refine r_inFT (b := true) rfl rfl (by decide) ?_ | refine r_lrng ?_)))
/-! ### how the graph is told -/
def Atm.d : Atm → D
  | .int i => .tup [.str "int", .int i]
  | .var n => .tup [.str "var", .int n]
def signs : List Str := ["+", "-", "*", "<", "==", "/", "mod", "<="]
def Row.d : Row → D
  | .print a => .tup [.str "print", a.d]
  | .atom a => .tup [.str "atom", a.d]
  | .prim s a b => .tup [.str "prim", .str (signs.getD s "+"), .tup [a.d, b.d]]
abbrev iD (n : Nat) : D := .int (n : Nat)
def csD (cs : List Nat) : D := .tup (cs.zipIdx.map fun p => .tup [iD p.2, iD p.1])
def End.d : End → D
  | .ret a => .tup [.str "ret", a.d]
  | .raise a => .tup [.str "raise", a.d]
  | .jump t as => .tup [.str "jump", iD t, .tup (as.map Atm.d)]
  | .switch a cs d => .tup [.str "switch", a.d, csD cs, iD d]
def rowsD (rows : List (Int × Row)) : List D := rows.map fun r => .tup [.int r.1, r.2.d]
def intsD (l : Vs) : List D := l.map D.int
def BlkAt (CB : Addr) (G : Gp) (b : Addr) (B : Blk) : Prop := ∃ dx, G b = some (.obj CB dx [("params", .tup (intsD B.params)), ("rows", .tup (rowsD B.rows)), ("end", B.en.d)])
structure GrAt (CB CG : Addr) (G : Gp) (a : Addr) (ps : Vs) (bs : List Addr) (g : Gr) : Prop where
  at_ : ∃ dx, G a = some (.obj CG dx [("label", .int 0), ("params", .tup (intsD ps)), ("captured", .int 0), ("blocks", .tup (bs.map D.ref))])
  len : bs.length = g.length
  blk : ∀ (i : Nat) b B, bs[i]? = some b → g[i]? = some B → BlkAt CB G b B
theorem BlkAt.ext {CB : Addr} {G G' : Gp} {b : Addr} {B : Blk} (h : BlkAt CB G b B) (e : Ext G G') : BlkAt CB G' b B := by
  obtain ⟨dx, h⟩ := h
  exact ⟨dx, e _ _ h⟩
theorem GrAt.ext {CB CG : Addr} {G G' : Gp} {a : Addr} {ps : Vs} {bs : List Addr} {g : Gr} (h : GrAt CB CG G a ps bs g) (e : Ext G G') : GrAt CB CG G' a ps bs g := by
  obtain ⟨dx, h1⟩ := h.at_
  exact ⟨⟨dx, e _ _ h1⟩, h.len, fun i b B x y => (h.blk i b B x y).ext e⟩
theorem GrAt.get {CB CG : Addr} {G : Gp} {a : Addr} {ps : Vs} {bs : List Addr} {g : Gr} (h : GrAt CB CG G a ps bs g) {i : Nat} {B : Blk} (hB : g[i]? = some B) : ∃ b, bs[i]? = some b ∧ BlkAt CB G b B := by
  have hi : i < bs.length := by rw [h.len]; exact (List.getElem?_eq_some_iff.mp hB).1
  exact ⟨_, List.getElem?_eq_getElem hi, h.blk i _ B (List.getElem?_eq_getElem hi) hB⟩
/-- a new list of ints -/
def NewI (l : Vs) (G : Gp) (Q : DK) : Prop := ∀ p G', Ext G G' → G' p = some (.lst (intsD l)) → Q (.ref p) G'
theorem NewI.at {l : Vs} {G : Gp} {Q : DK} (h : NewI l G Q) {p : Addr} {G1 G2 : Gp} (e : Ext G G1) (n : G1 p = none) (k : At G1 p (.lst (intsD l)) G2) : Q (.ref p) G2 := h p G2 (e.trans (k.ext n)) k.is
/-- a list of ints that is new -/
def NewN (l : Vs) (G : Gp) (Q : DK) : Prop := ∀ p G', G p = none → Ext G G' → G' p = some (.lst (intsD l)) → Q (.ref p) G'
/-- ints in a list or a tuple -/
def IntsAt (G : Gp) (d : D) (l : Vs) : Prop := d = .tup (intsD l) ∨ ∃ a, d = .ref a ∧ G a = some (.lst (intsD l))
theorem ext_set {G G1 G2 : Gp} {r : Addr} {m : MO} (e : Ext G G1) (n : G r = none) (a : At G1 r m G2) : Ext G G2 := fun b x h => by
  rw [a.other b (by rintro rfl; rw [n] at h; cases h)]
  exact e b x h
theorem united_snoc {l m : Vs} {i : Nat} {x : Int} (h : m[i]? = some x) : united l (m.take (i + 1)) = addIf (united l (m.take i)) x := by
  unfold united
  rw [List.take_add_one, h, List.foldl_append]
  rfl
theorem len_united (l m : Vs) : (united l m).length ≤ l.length + m.length := by
  induction m generalizing l with
  | nil => simp [united]
  | cons x m ih =>
    have h1 := ih (addIf l x)
    have h2 : (addIf l x).length ≤ l.length + 1 := by
      unfold addIf
      split <;> simp
    show (united (addIf l x) m).length ≤ _
    rw [List.length_cons]
    omega
theorem big_ok {n : Nat} (h : n ≤ 1000000) : n ≤ sizeLine := Nat.le_trans h (by decide)
theorem big_lt {n : Nat} (h : n ≤ 1000000) : n < sizeLine := Nat.lt_of_le_of_lt h (by decide)
/-! ### promises -/
def spNamesIn : ZSp := fun ds G Q _ => ∃ as : List Atm, ds = [.tup (as.map Atm.d)] ∧ as.length ≤ 1000000 ∧ NewI (names_in as) G Q
def spWithout : ZSp := fun ds G Q _ => ∃ (p : Addr) (l : Vs) (y : D) (m : Vs), ds = [.ref p, y] ∧ G p = some (.lst (intsD l)) ∧ IntsAt G y m ∧ l.length ≤ 1000000 ∧ NewI (without l m) G Q
def spUnited : ZSp := fun ds G Q _ => ∃ (p : Addr) (l : Vs) (q : Addr) (m : Vs), ds = [.ref p, .ref q] ∧ G p = some (.lst (intsD l)) ∧ G q = some (.lst (intsD m)) ∧ l.length ≤ 100000 ∧ m.length ≤ 100000 ∧ NewN (united l m) G Q
def spOpAtoms : ZSp := fun ds G Q _ => ∃ r : Row, ds = [r.d] ∧ Q (.tup (r.atoms.map Atm.d)) G
def spEndAtoms : ZSp := fun ds G Q _ => ∃ e : End, ds = [e.d] ∧ Q (.tup (e.atoms.map Atm.d)) G
def spSucc : ZSp := fun ds G Q _ => ∃ e : End, ds = [e.d] ∧ (targets e).length ≤ 1000 ∧ ∀ G', Ext G G' → Q (.tup ((succ e).map iD)) G'
section
variable [τ : Tbl] {P : Program} {w : World} {K : PySem.W.Frag} {mg : Str → Option Value} {base : Heap} {CB CG aA : Addr} {eA : Array DictEntry} {nA : Nat}
theorem ok_NamesIn {f : Addr} {fd : FuncData} (FF : Fun K "names_in" "names_in" s_names_in f fd) (T : Txt K w mg CB CG aA eA nA) : FnOk P w K mg base (L2.CX P w) 1 f fd ["atoms"] (upSp K spNamesIn) :=
  z_fn FF sc_names_in (fun ds G Q E h => by obtain ⟨a, rfl, _⟩ := h; rfl) fun bas cdv A outer s H E hr ds G Q E0 hE hz => by
    obtain ⟨as, rfl, hl, hq⟩ := hz
    refine ⟨_, (zs_one (z_ret (z_lc (own := [("atom", 1)]) rfl sc_names_in.nd (zi_tup (z_var 0)) (blkOk_by (by rfl)) (grel_name (by decide)) (fun _ _ _ _ _ => (pg_name (i := 1) sc_names_in.nd rfl (Or.inl rfl))) (fun _ _ _ _ _ => (zts_one (z_tcmp zo_eqF (z_ix (z_var 1) z_int) z_str))) (fun _ _ _ _ _ => (z_ix (z_var 1) z_int))))), ?_⟩
    walk_at "zr"
    refine lc_pure (fun d => match d with | .tup [.str s, _] => s == "var" | _ => false) (fun d => match d with | .tup [_, x] => x | _ => .non) trivial (big_lt (by rw [List.length_map]; exact hl)) (fun i d R acc hi h1 h2 => ?_) fun a G2 n h => ?_
    · rw [List.getElem?_map] at hi
      cases ea : as[i]? with
      | none => rw [ea] at hi; cases hi
      | some a =>
        rw [ea] at hi
        cases hi
        cases a with
        | int j =>
          dsimp only [Atm.d] at h1 h2 ⊢
          walk_at "zr"
          exact h2 (by decide)
        | var j =>
          dsimp only [Atm.d] at h1 h2 ⊢
          walk_at "zr"
          exact h1 (by decide)
    · exact hq.at (Ext.refl G) n (by
        have e : List.map (fun d : D => match d with | .tup [_, x] => x | _ => .non) (List.filter (fun d : D => match d with | .tup [.str s, _] => s == "var" | _ => false) (as.map Atm.d)) = intsD (names_in as) := by
          clear hq h hl n
          induction as with
          | nil => rfl
          | cons a as ih =>
            cases a with
            | int j => exact ih
            | var j => exact congrArg (D.int j :: ·) ih
        rw [← e]
        exact h)
theorem ok_Without {f : Addr} {fd : FuncData} (FF : Fun K "without" "without" s_without f fd) (T : Txt K w mg CB CG aA eA nA) : FnOk P w K mg base (L2.CX P w) 1 f fd ["names", "gone"] (upSp K spWithout) :=
  z_fn FF sc_without (fun ds G Q E h => by obtain ⟨p, l, y, m, rfl, _⟩ := h; rfl) fun bas cdv A outer s H E hr ds G Q E0 hE hz => by
    obtain ⟨p, l, y, m, rfl, hp, hy, hl, hq⟩ := hz
    refine ⟨_, (zs_one (z_ret (z_lc (own := [("name", 2)]) rfl sc_without.nd (zi_list (z_var 0)) (blkOk_by (by rfl)) (grel_name (by decide)) (fun _ _ _ _ _ => (pg_name (i := 2) sc_without.nd rfl (Or.inl rfl))) (fun _ _ _ _ _ => (zts_one (z_tcmp (zo_notinP (un65 hr)) (z_var 2) (z_var 1)))) (fun _ _ _ _ _ => (z_var 2))))), ?_⟩
    walk_at "zr"
    refine lc_pure (fun d => match d with | .int i => !decide (i ∈ m) | _ => false) id hp (big_lt (by unfold intsD; rw [List.length_map]; exact hl)) (fun i d R acc hi h1 h2 => ?_) fun a G2 n h => ?_
    · unfold intsD at hi
      rw [List.getElem?_map] at hi
      cases ea : l[i]? with
      | none => rw [ea] at hi; cases hi
      | some x =>
        rw [ea] at hi
        cases hi
        walk_at "zr"
        have go : ∀ c : Bool, (c = true ↔ x ∈ m) → (if (true != c) = true then R (acc ++ [.int x]) G else R acc G) := fun c hc => r_niff hc (fun hm => h2 (by simp [hm])) fun hm => h1 (by simp [hm])
        rcases hy with rfl | ⟨b, rfl, hb⟩
        · exact r_inTI fun c hc => by
            walk_at "zr"
            exact go c hc
        · exact r_inLI hb fun c hc => by
            walk_at "zr"
            exact go c hc
    · refine hq.at (Ext.refl G) n ?_
      have e : List.map id (List.filter (fun d : D => match d with | .int i => !decide (i ∈ m) | _ => false) (intsD l)) = intsD (without l m) := by
        unfold intsD without
        rw [List.map_id, List.filter_map]
        rfl
      rw [← e]
      exact h
theorem ok_United {f : Addr} {fd : FuncData} (FF : Fun K "united" "united" s_united f fd) (T : Txt K w mg CB CG aA eA nA) : FnOk P w K mg base (L2.CX P w) 1 f fd ["names", "more"] (upSp K spUnited) :=
  z_fn FF sc_united (fun ds G Q E h => by obtain ⟨p, l, y, m, rfl, _⟩ := h; rfl) fun bas cdv A outer s H E hr ds G Q E0 hE hz => by
    obtain ⟨p, l, q, m, rfl, hp, hm, hl, hl2, hq⟩ := hz
    refine ⟨_, (zs_cons (z_set (i := 2) sc_united.nd rfl (Or.inl rfl) (z_callTy zf_list (by rfl) T.z_list (by rfl) (za_cons (z_var 0) za_nil))) (zs_cons (z_for (passes_of (by rfl)) rfl (zi_list (z_var 1)) (zg_name (i := 3) sc_united.nd rfl (Or.inl rfl)) (zs_one (z_if (z_tcmp (zo_notinP (un65 hr)) (z_var 3) (z_var 2)) (zs_one (z_expr (z_bm PySem.F.plainAttrs_list PySem.F.slot_list_append PySem.F.type_list_append zm_append (z_var 2) (za_cons (z_var 3) za_nil)))) zs_nil))) (zs_cons (z_ret (z_var 2)) zs_nil))), ?_⟩
    walk_at "zr"
    intro r G1 nr h1
    walk_at "zr"
    have hm1 := (h1.ext nr) _ _ hm
    walk_at "zr"
    refine ⟨fun i ρ G2 => Ext G G2 ∧ G2 r = some (.lst (intsD (united l (m.take i)))) ∧ ∃ z, ρ = [some (.ref p), some (.ref q), some (.ref r), z], ⟨h1.ext nr, h1.is, _, rfl⟩, ?_, ?_⟩
    · rintro i d ρ G2 hi ⟨e2, hr2, z, rfl⟩
      refine ⟨e2 _ _ hm, ?_⟩
      unfold intsD at hi
      rw [List.getElem?_map] at hi
      cases ea : m[i]? with
      | none => rw [ea] at hi; cases hi
      | some x =>
        rw [ea] at hi
        cases hi
        walk_at "zr"
        refine r_inLI hr2 fun c hc => ?_
        walk_at "zr"
        have us := united_snoc (l := l) ea
        refine r_niff hc (fun hm => ?_) fun hm => ?_
        · walk_at "zr"
          refine ⟨e2, ?_, _, rfl⟩
          rw [us]
          unfold addIf
          rw [if_pos hm]
          exact hr2
        · walk_at "zr"
          refine ⟨r_tyL hr2, ?_⟩
          walk_at "zr"
          have hz := len_united l (m.take i)
          have hz2 : (m.take i).length ≤ m.length := by rw [List.length_take]; omega
          refine r_append hr2 (big_lt (by unfold intsD; rw [List.length_map]; omega)) fun G3 h3 => ?_
          walk_at "zr"
          refine ⟨ext_set e2 nr h3, ?_, _, rfl⟩
          rw [us]
          unfold addIf
          rw [if_neg hm]
          have : intsD (united l (m.take i) ++ [x]) = intsD (united l (m.take i)) ++ [.int x] := by unfold intsD; simp
          rw [this]
          exact h3.is
    · rintro ρ G2 ⟨e2, hr2, z, rfl⟩
      refine ⟨e2 _ _ hm, ?_⟩
      walk_at "zr"
      have e : (intsD m).length = m.length := by unfold intsD; simp
      rw [e, List.take_length] at hr2
      exact hq r G2 nr e2 hr2
theorem ok_OpAtoms {f : Addr} {fd : FuncData} (FF : Fun K "operation_atoms" "operation_atoms" s_operation_atoms f fd) (T : Txt K w mg CB CG aA eA nA) : FnOk P w K mg base (L2.CX P w) 1 f fd ["operation"] (upSp K spOpAtoms) :=
  z_fn FF sc_operation_atoms (fun ds G Q E h => by obtain ⟨p, rfl, _⟩ := h; rfl) fun bas cdv A outer s H E hr ds G Q E0 hE hz => by
    obtain ⟨r, rfl, hq⟩ := hz
    refine ⟨_, (zs_cons (z_set (i := 1) sc_operation_atoms.nd rfl (Or.inl rfl) (z_ix (z_var 0) z_int)) (zs_cons (z_if (z_tcmp zo_inF (z_var 1) (z_tup (za_cons z_str (za_cons z_str (za_cons z_str za_nil))))) (zs_one (z_ret (z_ifE (z_tcmp zo_neF (z_var 1) z_str) (z_ix (z_var 0) z_int) (z_op zo_catT (z_tup (za_cons (z_ix (z_var 0) z_int) za_nil)) (z_ix (z_var 0) z_int))))) zs_nil) (zs_cons (z_if (z_tcmp zo_eqF (z_var 1) z_str) (zs_one (z_ret (z_tup (za_cons (z_ix (z_var 0) z_int) za_nil)))) zs_nil) (zs_cons (z_if (z_tcmp (zo_in_kd T.d_ARITIES) (z_var 1) (z_gref (by rfl) T.g_ARITIES)) (zs_one (z_ret (z_slice zsl_tupA (z_var 0) (zo_some z_int) zo_none))) zs_nil) (zs_cons z_never zs_nil))))), ?_⟩
    cases r with
    | print a =>
      dsimp only [Row.d]
      walk_at "zr"
      obtain ⟨v, hv⟩ := T.i_print
      refine ⟨rfl, _, hv, ?_⟩
      walk_at "zr"
      exact hq
    | atom a =>
      dsimp only [Row.d]
      walk_at "zr"
      obtain ⟨v, hv⟩ := T.i_atom
      refine ⟨rfl, _, hv, ?_⟩
      walk_at "zr"
      exact hq
    | prim s a b =>
      dsimp only [Row.d]
      walk_at "zr"
      exact hq
def spFlat : ZSp := spOpAtoms
theorem ok_Flat {f : Addr} {fd : FuncData} (FF : Fun K "flat_atoms" "flat_atoms" s_flat_atoms f fd) (T : Txt K w mg CB CG aA eA nA) (D_operation_atoms : Dfn P w K mg base "operation_atoms" 1 ["operation"] spOpAtoms) : FnOk P w K mg base (L2.CX P w) 2 f fd ["operation"] (upSp K spFlat) :=
  z_fn FF sc_flat_atoms (fun ds G Q E h => by obtain ⟨p, rfl, _⟩ := h; rfl) fun bas cdv A outer s H E hr ds G Q E0 hE hz => by
    obtain ⟨r, rfl, hq⟩ := hz
    refine ⟨_, (zs_cons (z_set (i := 1) sc_flat_atoms.nd rfl (Or.inl rfl) (z_ix (z_var 0) z_int)) (zs_cons (z_if (z_tcmp zo_eqF (z_var 1) z_str) (zs_one (z_ret (z_ix (z_var 0) z_int))) zs_nil) (zs_cons (z_if (z_tcmp zo_eqF (z_var 1) z_str) (zs_one (z_ret (z_tup (za_cons (z_ix (z_var 0) z_int) (za_cons (z_ix (z_var 0) z_int) za_nil))))) zs_nil) (zs_cons (z_if (z_tcmp zo_inF (z_var 1) (z_tup (za_cons z_str (za_cons z_str za_nil)))) (zs_one (z_ret (z_tup za_nil))) zs_nil) (zs_cons (z_ret (z_dc0 D_operation_atoms hr (by decide) (by rfl) (za_cons (z_var 0) za_nil))) zs_nil))))), ?_⟩
    cases r with
    | print a =>
      dsimp only [Row.d]
      walk_at "zr"
      exact ⟨.print a, rfl, hq⟩
    | atom a =>
      dsimp only [Row.d]
      walk_at "zr"
      exact ⟨.atom a, rfl, hq⟩
    | prim s a b =>
      dsimp only [Row.d]
      walk_at "zr"
      exact ⟨.prim s a b, rfl, hq⟩
theorem ok_EndAtoms {f : Addr} {fd : FuncData} (FF : Fun K "end_atoms" "end_atoms" s_end_atoms f fd) (T : Txt K w mg CB CG aA eA nA) : FnOk P w K mg base (L2.CX P w) 1 f fd ["end"] (upSp K spEndAtoms) :=
  z_fn FF sc_end_atoms (fun ds G Q E h => by obtain ⟨p, rfl, _⟩ := h; rfl) fun bas cdv A outer s H E hr ds G Q E0 hE hz => by
    obtain ⟨e, rfl, hq⟩ := hz
    refine ⟨_, (zs_cons (z_if (z_tcmp zo_eqF (z_ix (z_var 0) z_int) z_str) (zs_one (z_ret (z_ix (z_var 0) z_int))) zs_nil) (zs_cons (z_if (z_tcmp zo_eqF (z_ix (z_var 0) z_int) z_str) (zs_one (z_ret (z_op zo_catT (z_tup (za_cons (z_ix (z_var 0) z_int) za_nil)) (z_ix (z_var 0) z_int)))) zs_nil) (zs_cons (z_ret (z_tup (za_cons (z_ix (z_var 0) z_int) za_nil))) zs_nil))), ?_⟩
    cases e with
    | ret a =>
      dsimp only [End.d]
      walk_at "zr"
      exact hq
    | raise a =>
      dsimp only [End.d]
      walk_at "zr"
      exact hq
    | jump t as =>
      dsimp only [End.d]
      walk_at "zr"
      exact hq
    | switch a cs d =>
      dsimp only [End.d]
      walk_at "zr"
      exact hq
theorem iD_inj {ns : List Nat} {n : Nat} : iD n ∈ ns.map iD ↔ n ∈ ns := by
  rw [List.mem_map]
  constructor
  · rintro ⟨m, h, e⟩
    unfold iD at e
    injection e with e
    have : m = n := by omega
    rw [← this]
    exact h
  · intro h
    exact ⟨n, h, rfl⟩
theorem all_iD (ns : List Nat) : (ns.map iD).all (pl 60) = true := by
  rw [List.all_eq_true]
  intro d h
  obtain ⟨n, _, rfl⟩ := List.mem_map.mp h
  rfl
theorem r_inN {neg : Bool} {n : Nat} {a : Addr} {ns : List Nat} {G : Gp} {Q : DK} (h : G a = some (.lst (ns.map iD))) (q : ∀ c : Bool, (c = true ↔ n ∈ ns) → Q (.bl (neg != c)) G) : dInP neg (iD n) (.ref a) G Q :=
  r_inL h rfl (all_iD _) fun c hc => q c (hc.trans iD_inj)
theorem snoc_nat {ns : List Nat} {x : Nat} : (ns ++ [x]).map iD = ns.map iD ++ [iD x] := by simp
theorem len_unitedN (l m : List Nat) : (united l m).length ≤ l.length + m.length := by
  induction m generalizing l with
  | nil => simp [united]
  | cons x m ih =>
    have h1 := ih (addIf l x)
    have h2 : (addIf l x).length ≤ l.length + 1 := by
      unfold addIf
      split <;> simp
    show (united (addIf l x) m).length ≤ _
    rw [List.length_cons]
    omega
theorem united_snocN {l m : List Nat} {i : Nat} {x : Nat} (h : m[i]? = some x) : united l (m.take (i + 1)) = addIf (united l (m.take i)) x := by
  unfold united
  rw [List.take_add_one, h, List.foldl_append]
  rfl
theorem csD_get {cs : List Nat} {i : Nat} {d : D} (h : (cs.zipIdx.map fun p => D.tup [iD p.2, iD p.1])[i]? = some d) : ∃ t, cs[i]? = some t ∧ d = .tup [iD i, iD t] := by
  rw [List.getElem?_map, List.getElem?_zipIdx] at h
  cases ea : cs[i]? with
  | none => rw [ea] at h; cases h
  | some t =>
    rw [ea] at h
    simp only [Option.map_some, Nat.zero_add, Option.some.injEq] at h
    exact ⟨t, rfl, h.symm⟩
theorem ok_Succ {f : Addr} {fd : FuncData} (FF : Fun K "successors" "successors" s_successors f fd) (T : Txt K w mg CB CG aA eA nA) : FnOk P w K mg base (L2.CX P w) 1 f fd ["end"] (upSp K spSucc) :=
  z_fn FF sc_successors (fun ds G Q E h => by obtain ⟨p, rfl, _⟩ := h; rfl) fun bas cdv A outer s H E hr ds G Q E0 hE hz => by
    obtain ⟨e, rfl, hl, hq⟩ := hz
    refine ⟨_, (zs_cons (z_if (z_tcmp zo_eqF (z_ix (z_var 0) z_int) z_str) (zs_one (z_ret (z_tup (za_cons (z_ix (z_var 0) z_int) za_nil)))) zs_nil) (zs_cons (z_set (i := 1) sc_successors.nd rfl (Or.inl rfl) (z_lst za_nil)) (zs_cons (z_if (z_tcmp zo_eqF (z_ix (z_var 0) z_int) z_str) (zs_cons (z_for (passes_of (by rfl)) rfl (zi_tup (z_ix (z_var 0) z_int)) (zg_tup (n := 2) rfl (zgs_cons (zg_name (i := 2) sc_successors.nd rfl (Or.inl rfl)) (zgs_cons (zg_name (i := 3) sc_successors.nd rfl (Or.inl rfl)) zgs_nil))) (zs_one (z_if (z_tcmp (zo_notinP (un65 hr)) (z_var 3) (z_var 1)) (zs_one (z_expr (z_bm PySem.F.plainAttrs_list PySem.F.slot_list_append PySem.F.type_list_append zm_append (z_var 1) (za_cons (z_var 3) za_nil)))) zs_nil))) (zs_cons (z_if (zw_t (zw_and (z_tcmp zo_notN (z_ix (z_var 0) z_int) z_non) (zw_and1 (z_tcmp (zo_notinP (un65 hr)) (z_ix (z_var 0) z_int) (z_var 1))))) (zs_one (z_expr (z_bm PySem.F.plainAttrs_list PySem.F.slot_list_append PySem.F.type_list_append zm_append (z_var 1) (za_cons (z_ix (z_var 0) z_int) za_nil)))) zs_nil) zs_nil)) zs_nil) (zs_cons (z_ret (z_callTy zf_tuple (by rfl) T.z_tuple (by rfl) (za_cons (z_var 1) za_nil))) zs_nil)))), ?_⟩
    cases e with
    | ret a =>
      dsimp only [End.d]
      walk_at "zr"
      intro p G1 np h1
      walk_at "zr"
      have := h1.is
      walk_at "zr"
      exact hq _ (h1.ext np)
    | raise a =>
      dsimp only [End.d]
      walk_at "zr"
      intro p G1 np h1
      walk_at "zr"
      have := h1.is
      walk_at "zr"
      exact hq _ (h1.ext np)
    | jump t as =>
      dsimp only [End.d]
      walk_at "zr"
      exact hq _ (Ext.refl G)
    | switch a cs d =>
      have hl' : cs.length ≤ 1000 := by
        unfold targets at hl
        rw [List.length_append] at hl
        omega
      dsimp only [End.d, csD]
      walk_at "zr"
      intro p G1 np h1
      walk_at "zr"
      refine ⟨fun i ρ G2 => Ext G G2 ∧ G2 p = some (.lst ((united [] (cs.take i)).map iD)) ∧ ∃ x y, ρ = [some (.tup [.str "switch", a.d, csD cs, iD d]), some (.ref p), x, y], ⟨h1.ext np, h1.is, _, _, rfl⟩, ?_, ?_⟩
      · rintro i dd ρ G2 hi ⟨e2, hp, x, y, rfl⟩
        refine ⟨trivial, ?_⟩
        obtain ⟨t, ea, rfl⟩ := csD_get hi
        · walk_at "zr"
          refine r_inN hp fun c hc => ?_
          walk_at "zr"
          have us := united_snocN (l := []) ea
          refine r_niff hc (fun hm => ?_) fun hm => ?_
          · walk_at "zr"
            refine ⟨e2, ?_, _, _, rfl⟩
            rw [us]
            unfold addIf
            rw [if_pos hm]
            exact hp
          · walk_at "zr"
            refine ⟨r_tyL hp, ?_⟩
            walk_at "zr"
            have hz := len_unitedN [] (cs.take i)
            have hz2 : (cs.take i).length ≤ cs.length := by rw [List.length_take]; omega
            rw [List.length_nil] at hz
            refine r_append hp (big_lt (by rw [List.length_map]; omega)) fun G3 h3 => ?_
            walk_at "zr"
            refine ⟨ext_set e2 np h3, ?_, _, _, rfl⟩
            rw [us]
            unfold addIf
            rw [if_neg hm, snoc_nat]
            exact h3.is
      · rintro ρ G2 ⟨e2, hp, x, y, rfl⟩
        refine ⟨trivial, ?_⟩
        rw [List.length_map, List.length_zipIdx, List.take_length] at hp
        walk_at "zr"
        refine r_inN hp fun c hc => ?_
        walk_at "zr"
        have es : succ (.switch a cs d) = addIf (united [] cs) d := by
          unfold succ targets united
          rw [List.foldl_append]
          rfl
        refine r_niff hc (fun hm => ?_) fun hm => ?_
        · have eq : addIf (united [] cs) d = united [] cs := by unfold addIf; rw [if_pos hm]
          rw [← eq, ← es] at hp
          walk_at "zr"
          exact hq _ e2
        · walk_at "zr"
          refine ⟨r_tyL hp, ?_⟩
          walk_at "zr"
          have hz := len_unitedN [] cs
          rw [List.length_nil] at hz
          refine r_append hp (big_lt (by rw [List.length_map]; omega)) fun G3 h3 => ?_
          walk_at "zr"
          have eq : addIf (united [] cs) d = united [] cs ++ [d] := by unfold addIf; rw [if_neg hm]
          have h4 := h3.is
          rw [← snoc_nat, ← eq, ← es] at h4
          walk_at "zr"
          exact hq _ (ext_set e2 np h3)
end
end K24

namespace K24
open PySem PySem.Spec PyProof.Rows L2 Z
local macro_rules | `(tactic| walk_at "zr") => `(tactic| (repeat' (with_reducible first | refine r_asg ?_ | refine r_asgT ?_ | refine r_asgG ?_ | refine r_asg1 ?_ | refine r_if ?_ | refine r_if1 ?_ | refine r_drop ?_ | refine r_drop1 ?_ | refine r_ret ?_ | refine r_ret1 ?_ | refine r_retN ?_ | refine r_nx ?_ | refine r_nx1 ?_ | refine r_bk ?_ | refine r_ct ?_ | refine r_par ?_ | refine r_par1 ?_ | refine r_par3 ?_ | refine r_par31 ?_ | refine r_for ?_ | refine r_for1 ?_ | refine r_sfld ?_ | refine r_sfld1 ?_ | refine r_aug (by with_unfolding_all rfl) ?_ | refine r_aug1 (by with_unfolding_all rfl) ?_ | refine r_var (by with_unfolding_all rfl) ?_ | refine r_c ?_ | refine r_op ?_ | refine r_ifE ?_ | refine r_nil ?_ | refine r_cons ?_ | refine r_tup ?_ | refine r_lst ?_ | refine r_cb ?_ | refine r_call ?_ | refine r_test ?_ | refine r_not ?_ | refine r_and ?_ | refine r_or ?_ | refine r_andV ?_ | refine r_orV ?_ | refine r_notV ?_ | refine r_neg ?_ | refine r_bm ?_ | refine r_bm0 ?_ | refine r_sl ?_ | refine r_part ?_ | refine r_noP ?_ | refine r_chain ?_ | refine r_int2 ?_ | refine r_eqI ?_ | refine r_eqS ?_ | refine r_eqB ?_ | refine r_fInt ?_ | refine r_fIntB ?_ | refine r_fAbs ?_ | refine r_fMin ?_ | refine r_lenT ?_ | refine r_isNN ?_ | refine r_isNI ?_ | refine r_isNT ?_ | refine r_isNR ?_ | refine r_ixT0 ?_ | refine r_ixT1 ?_ | refine r_ixT2 ?_ | refine r_ixT3 ?_ | refine r_fld ?_ | refine r_kfld (by assumption) rfl ?_ | refine r_list ?_ | refine r_klist (by assumption) ?_ | refine r_tupI ?_ | refine r_ktupI ?_ | refine r_yes ?_ | refine r_kctI ?_ | refine r_rng1 ?_ | refine r_rng2 ?_ | refine r_enum ?_ | refine r_kenumT ?_ | refine r_kenum (by assumption) ?_ | refine r_fListT ?_ | refine r_fTupT ?_ | refine r_fListR (by assumption) ?_ | refine r_fTupR (by assumption) ?_ | refine r_lenR (by assumption) ?_ | refine r_rev ?_ | refine r_krevT ?_ | refine r_krev (by assumption) ?_ | refine r_setL ?_ | refine r_dget ?_ | refine r_lc0 ?_ | refine r_name ?_ | refine r_gtup (by with_unfolding_all rfl) ?_ | refine r_gcons ?_ | refine r_gnil ?_ | refine r_din ?_ | refine r_setd ?_ | refine r_ksetdA (by assumption) ?_ | refine r_keysI ?_ | refine r_kkeysI (by assumption) ?_ | refine r_dput ?_ | refine r_dput1 ?_ | refine r_dnewK ?_ | refine r_szc (by with_unfolding_all exact Nat.le_of_ble_eq_true rfl) ?_ | refine r_eqlen (by with_unfolding_all rfl) ?_ | refine r_ifT (by decide) ?_ | refine r_ifF (by decide) ?_ | refine r_inFT (b := false) rfl rfl (by decide) ?_ | refine r_inFT (b := true) rfl rfl (by decide) ?_ | refine r_lrng ?_)))
/-! ### names that were seen -/
def seenD (l : Vs) : List (Key × D) := l.map fun n => (Sum.inl n, D.bl true)
theorem seen_any (l : Vs) (x : Int) : ((seenD l).any fun kv => decide (kv.1 = Sum.inl x)) = decide (x ∈ l) := by
  unfold seenD
  rw [List.any_map]
  induction l with
  | nil => rfl
  | cons y l ih =>
    rw [List.any_cons, ih]
    have : ((fun kv : Key × D => decide (kv.1 = Sum.inl x)) ∘ fun n => (Sum.inl n, D.bl true)) y = decide (y = x) := by
      show decide ((Sum.inl y : Key) = Sum.inl x) = _
      rw [decide_eq_decide]
      exact ⟨fun h => Sum.inl.inj h, fun h => by rw [h]⟩
    rw [this]
    by_cases h : y = x
    · simp [h]
    · have h' : ¬ x = y := fun z => h z.symm
      simp [h, h']
theorem seen_val (l : Vs) (x : Int) : (valD (seenD l) (Sum.inl x)).isSome = decide (x ∈ l) := by
  unfold valD
  rw [Option.isSome_map, ← seen_any l x]
  generalize seenD l = m
  induction m with
  | nil => rfl
  | cons y m ih =>
    rw [List.find?_cons, List.any_cons]
    cases decide (y.1 = Sum.inl x) with
    | true => rfl
    | false => exact ih
theorem seen_put {l : Vs} {x : Int} (h : x ∉ l) : putD (seenD l) (Sum.inl x) (.bl true) = seenD (l ++ [x]) := by
  unfold putD
  rw [seen_any]
  simp only [h, decide_false, Bool.false_eq_true, if_false]
  unfold seenD
  simp
def spCheckNames : ZSp := fun ds G Q _ => ∃ (as : List Atm) (n : Addr) (l : Vs), ds = [.tup (as.map Atm.d), .ref n] ∧ G n = some (.dk (seenD l)) ∧ (∀ x, .var x ∈ as → x ∈ l) ∧ Q .non G
def spCheckBlock (CB CG : Addr) : ZSp := fun ds G Q _ => ∃ (a n : Addr) (ps : Vs) (bs : List Addr) (g : Gr) (i : Nat) (b : Addr) (B : Blk), ds = [.ref b, .ref a, .ref n] ∧ GrAt CB CG G a ps bs g ∧ GOk ps g ∧ bs[i]? = some b ∧ g[i]? = some B ∧
  G n = some (.dk (seenD (allNames ps g))) ∧ ∀ G', Ext G G' → Q .non G'
def spCheckGraph (CB CG : Addr) : ZSp := fun ds G Q _ => ∃ (a : Addr) (ps : Vs) (bs : List Addr) (g : Gr), ds = [.ref a] ∧ GrAt CB CG G a ps bs g ∧ GOk ps g ∧ ∀ G', Ext G G' → Q (.ref a) G'
def spBlockI (CB : Addr) : ZSp := fun ds G Q _ => ∃ (x dx r : Addr) (l : Vs) (rows : List (Int × Row)) (e : End), ds = [.ref x, .tup (intsD l), .ref r, e.d] ∧ G x = some (.obj CB dx []) ∧ G r = some (.lst (rowsD rows)) ∧ x ≠ r ∧
  ∀ G', At G x (.obj CB dx [("params", .tup (intsD l)), ("rows", .tup (rowsD rows)), ("end", e.d)]) G' → Q .non G'
def spGraphI (CG : Addr) : ZSp := fun ds G Q _ => ∃ (x dx r : Addr) (l : Vs) (bs : List Addr), ds = [.ref x, .int 0, .tup (intsD l), .int 0, .ref r] ∧ G x = some (.obj CG dx []) ∧ G r = some (.lst (bs.map D.ref)) ∧ x ≠ r ∧
  ∀ G', At G x (.obj CG dx [("label", .int 0), ("params", .tup (intsD l)), ("captured", .int 0), ("blocks", .tup (bs.map D.ref))]) G' → Q .non G'
section
variable [τ : Tbl] {P : Program} {w : World} {K : PySem.W.Frag} {mg : Str → Option Value} {base : Heap} {CB CG aA : Addr} {eA : Array DictEntry} {nA : Nat}
theorem ok_BlockI {f : Addr} {fd : FuncData} (FF : Fun K "__init__" "Block.__init__" s_Block___init__ f fd) (T : Txt K w mg CB CG aA eA nA) : FnOk P w K mg base (L2.CX P w) 1 f fd ["self", "params", "rows", "end"] (upSp K (spBlockI CB)) :=
  z_fn FF sc_Block___init__ (fun ds G Q E h => by obtain ⟨_, _, _, _, _, _, rfl, _⟩ := h; rfl) fun bas cdv A outer s H E hr ds G Q E0 hE hz => by
    obtain ⟨x, dx, r, l, rows, e, rfl, hx, hrr, hne, hq⟩ := hz
    refine ⟨_, (zs_cons (z_sfld T.c_Block T.n_Block_params (z_var 0) (z_callTy zf_tuple (by rfl) T.z_tuple (by rfl) (za_cons (z_var 1) za_nil))) (zs_cons (z_sfld T.c_Block T.n_Block_rows (z_var 0) (z_callTy zf_tuple (by rfl) T.z_tuple (by rfl) (za_cons (z_var 2) za_nil))) (zs_cons (z_sfld T.c_Block T.n_Block_end (z_var 0) (z_var 3)) zs_nil))), ?_⟩
    walk_at "zr"
    refine r_ksfld hx (by with_unfolding_all rfl) fun G1 h1 => ?_
    have e1 := h1.is
    have e2 := (h1.other r (Ne.symm hne)).trans hrr
    walk_at "zr"
    refine r_ksfld e1 (by with_unfolding_all rfl) fun G2 h2 => ?_
    have e3 := h2.is
    walk_at "zr"
    refine r_ksfld e3 (by with_unfolding_all rfl) fun G3 h3 => ?_
    exact hq G3 ((h1.trans h2).trans h3)
theorem ok_GraphI {f : Addr} {fd : FuncData} (FF : Fun K "__init__" "Graph.__init__" s_Graph___init__ f fd) (T : Txt K w mg CB CG aA eA nA) : FnOk P w K mg base (L2.CX P w) 1 f fd ["self", "label", "params", "captured", "blocks"] (upSp K (spGraphI CG)) :=
  z_fn FF sc_Graph___init__ (fun ds G Q E h => by obtain ⟨_, _, _, _, _, rfl, _⟩ := h; rfl) fun bas cdv A outer s H E hr ds G Q E0 hE hz => by
    obtain ⟨x, dx, r, l, bs, rfl, hx, hrr, hne, hq⟩ := hz
    refine ⟨_, (zs_cons (z_sfld T.c_Graph T.n_Graph_label (z_var 0) (z_var 1)) (zs_cons (z_sfld T.c_Graph T.n_Graph_params (z_var 0) (z_callTy zf_tuple (by rfl) T.z_tuple (by rfl) (za_cons (z_var 2) za_nil))) (zs_cons (z_sfld T.c_Graph T.n_Graph_captured (z_var 0) (z_var 3)) (zs_cons (z_sfld T.c_Graph T.n_Graph_blocks (z_var 0) (z_callTy zf_tuple (by rfl) T.z_tuple (by rfl) (za_cons (z_var 4) za_nil))) zs_nil)))), ?_⟩
    walk_at "zr"
    refine r_ksfld hx (by with_unfolding_all rfl) fun G1 h1 => ?_
    have e1 := h1.is
    walk_at "zr"
    refine r_ksfld e1 (by with_unfolding_all rfl) fun G2 h2 => ?_
    have e3 := h2.is
    walk_at "zr"
    refine r_ksfld e3 (by with_unfolding_all rfl) fun G3 h3 => ?_
    have e4 := h3.is
    have e2 := (h3.other r (Ne.symm hne)).trans ((h2.other r (Ne.symm hne)).trans ((h1.other r (Ne.symm hne)).trans hrr))
    walk_at "zr"
    refine r_ksfld e4 (by with_unfolding_all rfl) fun G4 h4 => ?_
    exact hq G4 (((h1.trans h2).trans h3).trans h4)
theorem ok_CheckNames {f : Addr} {fd : FuncData} (FF : Fun K "check_names" "check_names" s_check_names f fd) (T : Txt K w mg CB CG aA eA nA) : FnOk P w K mg base (L2.CX P w) 1 f fd ["atoms", "names"] (upSp K spCheckNames) :=
  z_fn FF sc_check_names (fun ds G Q E h => by obtain ⟨_, _, _, rfl, _⟩ := h; rfl) fun bas cdv A outer s H E hr ds G Q E0 hE hz => by
    obtain ⟨as, n, l, rfl, hn, hv, hq⟩ := hz
    refine ⟨_, (zs_one (z_for (passes_of (by rfl)) rfl (zi_tup (z_var 0)) (zg_name (i := 2) sc_check_names.nd rfl (Or.inl rfl)) (zs_one (z_if (zw_t (zw_and (z_tcmp zo_eqF (z_ix (z_var 2) z_int) z_str) (zw_and1 (z_tdnotin (un1 hr) (z_ix (z_var 2) z_int) (z_var 1))))) (zs_one z_never) zs_nil)))), ?_⟩
    walk_at "zr"
    refine ⟨fun i ρ G2 => G2 = G ∧ ∃ z, ρ = [some (.tup (as.map Atm.d)), some (.ref n), z], ⟨rfl, _, rfl⟩, ?_, ?_⟩
    · rintro i d ρ G2 hi ⟨rfl, z, rfl⟩
      refine ⟨trivial, ?_⟩
      rw [List.getElem?_map] at hi
      cases ea : as[i]? with
      | none => rw [ea] at hi; cases hi
      | some a =>
        rw [ea] at hi
        cases hi
        cases a with
        | int j =>
          dsimp only [Atm.d]
          walk_at "zr"
          exact ⟨rfl, _, rfl⟩
        | var j =>
          dsimp only [Atm.d]
          walk_at "zr"
          refine r_kdin (dget_dk (k := Sum.inl j) hn rfl) ?_
          rw [seen_val, decide_eq_true (hv j (List.mem_of_getElem? ea))]
          walk_at "zr"
          exact ⟨rfl, _, rfl⟩
    · rintro ρ G2 ⟨rfl, z, rfl⟩
      refine ⟨trivial, ?_⟩
      walk_at "zr"
      exact hq
theorem ok_CheckBlock {f : Addr} {fd : FuncData} (FF : Fun K "check_block" "check_block" s_check_block f fd) (T : Txt K w mg CB CG aA eA nA) (D_check_names : Dfn P w K mg base "check_names" 1 ["atoms", "names"] spCheckNames) (D_flat_atoms : Dfn P w K mg base "flat_atoms" 2 ["operation"] spFlat)
    (D_end_atoms : Dfn P w K mg base "end_atoms" 1 ["end"] spEndAtoms) (D_successors : Dfn P w K mg base "successors" 1 ["end"] spSucc) : FnOk P w K mg base (L2.CX P w) 3 f fd ["block", "graph", "names"] (upSp K (spCheckBlock CB CG)) :=
  z_fn FF sc_check_block (fun ds G Q E h => by obtain ⟨_, _, _, _, _, _, _, _, rfl, _⟩ := h; rfl) fun bas cdv A outer s H E hr ds G Q E0 hE hz => by
    obtain ⟨a, n, ps, bs, g, i, b, B, rfl, hg, ok, hb, hB, hn, hq⟩ := hz
    refine ⟨_, (zs_cons (z_for (passes_of (by rfl)) rfl (zi_tup (z_fld T.c_Block T.n_Block_rows (z_var 0))) (zg_tup (n := 2) rfl (zgs_cons (zg_name (i := 3) sc_check_block.nd rfl (Or.inl rfl)) (zgs_cons (zg_name (i := 4) sc_check_block.nd rfl (Or.inl rfl)) zgs_nil))) (zs_one (z_expr (z_dc0 D_check_names hr (by decide) (by rfl) (za_cons (z_dc0 D_flat_atoms hr (by decide) (by rfl) (za_cons (z_var 4) za_nil)) (za_cons (z_var 2) za_nil)))))) (zs_cons (z_expr (z_dc0 D_check_names hr (by decide) (by rfl) (za_cons (z_dc0 D_end_atoms hr (by decide) (by rfl) (za_cons (z_fld T.c_Block T.n_Block_end (z_var 0)) za_nil)) (za_cons (z_var 2) za_nil)))) (zs_cons (z_for (passes_of (by rfl)) rfl (zi_tup (z_dc0 D_successors hr (by decide) (by rfl) (za_cons (z_fld T.c_Block T.n_Block_end (z_var 0)) za_nil))) (zg_name (i := 5) sc_check_block.nd rfl (Or.inl rfl)) (zs_cons (z_if (z_not (z_tchain zo_le zo_lt z_int (z_var 5) (z_callB zf_len (by rfl) T.z_len (by rfl) (za_cons (z_fld T.c_Graph T.n_Graph_blocks (z_var 1)) za_nil)))) (zs_one z_never) zs_nil) (zs_cons (z_set (i := 6) sc_check_block.nd rfl (Or.inl rfl) (z_ifE (z_tcmp zo_eqF (z_ix (z_fld T.c_Block T.n_Block_end (z_var 0)) z_int) z_str) (z_callB zf_len (by rfl) T.z_len (by rfl) (za_cons (z_ix (z_fld T.c_Block T.n_Block_end (z_var 0)) z_int) za_nil)) z_int)) (zs_cons (z_if (z_tcmp zo_neF (z_callB zf_len (by rfl) T.z_len (by rfl) (za_cons (z_fld T.c_Block T.n_Block_params (z_ix (z_fld T.c_Graph T.n_Graph_blocks (z_var 1)) (z_var 5))) za_nil)) (z_var 6)) (zs_one z_never) zs_nil) zs_nil)))) (zs_cons (z_if (z_tcmp zo_notinF (z_ix (z_fld T.c_Block T.n_Block_end (z_var 0)) z_int) (z_tup (za_cons z_str (za_cons z_str (za_cons z_str (za_cons z_str (za_cons z_str za_nil))))))) (zs_one z_never) zs_nil) zs_nil)))), ?_⟩
    have mB := List.mem_of_getElem? hB
    obtain ⟨dx, hbk⟩ := hg.blk i b B hb hB
    obtain ⟨dg, hga⟩ := hg.at_
    walk_at "zr"
    refine ⟨fun i ρ G2 => G2 = G ∧ ∃ x y u v, ρ = [some (.ref b), some (.ref a), some (.ref n), x, y, u, v], ⟨rfl, _, _, _, _, rfl⟩, ?_, ?_⟩
    · rintro i d ρ G2 hi ⟨rfl, x, y, u, v, rfl⟩
      refine ⟨trivial, ?_⟩
      unfold rowsD at hi
      rw [List.getElem?_map] at hi
      cases ea : B.rows[i]? with
      | none => rw [ea] at hi; cases hi
      | some r =>
        rw [ea] at hi
        cases hi
        walk_at "zr"
        refine ⟨r.2, rfl, ?_⟩
        walk_at "zr"
        exact ⟨_, n, _, rfl, hn, fun x hx => ok.row B mB r (List.mem_of_getElem? ea) x hx, rfl, _, _, _, _, rfl⟩
    · rintro ρ G2 ⟨rfl, x, y, u, v, rfl⟩
      refine ⟨trivial, ?_⟩
      walk_at "zr"
      refine ⟨B.en, rfl, ?_⟩
      walk_at "zr"
      refine ⟨_, n, _, rfl, hn, ok.last B mB, ?_⟩
      walk_at "zr"
      have htl := ok.tl B mB
      refine ⟨B.en, rfl, by omega, fun G3 e3 => ?_⟩
      walk_at "zr"
      have hbk3 := e3 _ _ hbk
      have hga3 := e3 _ _ hga
      refine ⟨fun i ρ G4 => G4 = G3 ∧ ∃ x y u v, ρ = [some (.ref b), some (.ref a), some (.ref n), x, y, u, v], ⟨rfl, _, _, _, _, rfl⟩, ?_, ?_⟩
      · rintro i d ρ G4 hi ⟨rfl, x, y, u, v, rfl⟩
        refine ⟨trivial, ?_⟩
        rw [List.getElem?_map] at hi
        cases ea : (succ B.en)[i]? with
        | none => rw [ea] at hi; cases hi
        | some t =>
          rw [ea] at hi
          cases hi
          obtain ⟨Tb, hT, hTl⟩ := ok.tg B mB t (List.mem_of_getElem? ea)
          have htg := (List.getElem?_eq_some_iff.mp hT).1
          obtain ⟨tb, htb, dt, hTb⟩ := hg.get hT
          have hTb3 := e3 _ _ hTb
          have hix : (bs.map D.ref)[t]? = some (.ref tb) := by rw [List.getElem?_map, htb]; rfl
          walk_at "zr"
          refine r_ifT (decide_eq_true (by omega)) ?_
          walk_at "zr"
          rw [List.length_map, hg.len]
          have c1 : decide ((t : Int) < (g.length : Nat)) = true := decide_eq_true (by omega)
          rw [c1]
          walk_at "zr"
          have fin : ∀ k : Int, k = (arity B.en : Nat) → (true != decide ((((intsD Tb.params).length : Nat) : Int) = k)) = false := fun k hk => by
            have : (intsD Tb.params).length = arity B.en := by unfold intsD; rw [List.length_map, hTl]
            rw [this, hk]
            simp
          cases hen : B.en with
          | jump t2 as =>
            rw [hen] at hbk3 fin
            dsimp only [End.d] at hbk3 ⊢
            walk_at "zr"
            refine r_ixT hix ?_
            walk_at "zr"
            refine r_ifF (fin _ (by rw [List.length_map]; rfl)) ?_
            walk_at "zr"
            exact ⟨rfl, _, _, _, _, rfl⟩
          | ret a2 =>
            rw [hen] at hbk3 fin
            dsimp only [End.d] at hbk3 ⊢
            walk_at "zr"
            refine r_ixT hix ?_
            walk_at "zr"
            refine r_ifF (fin _ rfl) ?_
            walk_at "zr"
            exact ⟨rfl, _, _, _, _, rfl⟩
          | raise a2 =>
            rw [hen] at hbk3 fin
            dsimp only [End.d] at hbk3 ⊢
            walk_at "zr"
            refine r_ixT hix ?_
            walk_at "zr"
            refine r_ifF (fin _ rfl) ?_
            walk_at "zr"
            exact ⟨rfl, _, _, _, _, rfl⟩
          | switch a2 cs d2 =>
            rw [hen] at hbk3 fin
            dsimp only [End.d] at hbk3 ⊢
            walk_at "zr"
            refine r_ixT hix ?_
            walk_at "zr"
            refine r_ifF (fin _ rfl) ?_
            walk_at "zr"
            exact ⟨rfl, _, _, _, _, rfl⟩
      · rintro ρ G4 ⟨rfl, x, y, u, v, rfl⟩
        refine ⟨trivial, ?_⟩
        cases hen : B.en with
        | jump t2 as =>
          rw [hen] at hbk3
          dsimp only [End.d] at hbk3
          walk_at "zr"
          exact hq _ e3
        | ret a2 =>
          rw [hen] at hbk3
          dsimp only [End.d] at hbk3
          walk_at "zr"
          exact hq _ e3
        | raise a2 =>
          rw [hen] at hbk3
          dsimp only [End.d] at hbk3
          walk_at "zr"
          exact hq _ e3
        | switch a2 cs d2 =>
          rw [hen] at hbk3
          dsimp only [End.d] at hbk3
          walk_at "zr"
          exact hq _ e3
theorem intsD_get {l : Vs} {i : Nat} {d : D} (h : (intsD l)[i]? = some d) : ∃ x, l[i]? = some x ∧ d = .int x := by
  unfold intsD at h
  rw [List.getElem?_map] at h
  cases e : l[i]? with
  | none => rw [e] at h; cases h
  | some x => rw [e] at h; exact ⟨x, rfl, (Option.some.inj h).symm⟩
theorem rowsD_get {l : List (Int × Row)} {i : Nat} {d : D} (h : (rowsD l)[i]? = some d) : ∃ x, l[i]? = some x ∧ d = .tup [.int x.1, x.2.d] := by
  unfold rowsD at h
  rw [List.getElem?_map] at h
  cases e : l[i]? with
  | none => rw [e] at h; cases h
  | some x => rw [e] at h; exact ⟨x, rfl, (Option.some.inj h).symm⟩
theorem refs_get {bs : List Addr} {i : Nat} {d : D} (h : (bs.map D.ref)[i]? = some d) : ∃ b, bs[i]? = some b ∧ d = .ref b := by
  rw [List.getElem?_map] at h
  cases e : bs[i]? with
  | none => rw [e] at h; cases h
  | some x => rw [e] at h; exact ⟨x, rfl, (Option.some.inj h).symm⟩
theorem intsD_app (a b : Vs) : intsD a ++ intsD b = intsD (a ++ b) := by unfold intsD; simp
theorem intsD_len (a : Vs) : (intsD a).length = a.length := by unfold intsD; simp
theorem GrAt.blk_of {CB CG : Addr} {G : Gp} {a : Addr} {ps : Vs} {bs : List Addr} {g : Gr} (h : GrAt CB CG G a ps bs g) {i : Nat} {b : Addr} (hb : bs[i]? = some b) : ∃ B, g[i]? = some B ∧ BlkAt CB G b B := by
  have hi : i < g.length := by rw [← h.len]; exact (List.getElem?_eq_some_iff.mp hb).1
  exact ⟨_, List.getElem?_eq_getElem hi, h.blk i b _ hb (List.getElem?_eq_getElem hi)⟩
theorem flat_snoc {g : Gr} {i : Nat} {B : Blk} (h : g[i]? = some B) : (g.take (i + 1)).flatMap blkNames = (g.take i).flatMap blkNames ++ blkNames B := by
  rw [List.take_add_one, h]
  simp
theorem flat_len {g : Gr} (i : Nat) : ((g.take i).flatMap blkNames).length ≤ (g.flatMap blkNames).length := by
  have : g.flatMap blkNames = (g.take i).flatMap blkNames ++ (g.drop i).flatMap blkNames := by rw [← List.flatMap_append, List.take_append_drop]
  rw [this, List.length_append]
  omega
theorem ok_CheckGraph {f : Addr} {fd : FuncData} (FF : Fun K "check_graph" "check_graph" s_check_graph f fd) (T : Txt K w mg CB CG aA eA nA) (D_check_block : Dfn P w K mg base "check_block" 3 ["block", "graph", "names"] (spCheckBlock CB CG)) :
    FnOk P w K mg base (L2.CX P w) 4 f fd ["graph"] (upSp K (spCheckGraph CB CG)) :=
  z_fn FF sc_check_graph (fun ds G Q E h => by obtain ⟨_, _, _, _, rfl, _⟩ := h; rfl) fun bas cdv A outer s H E hr ds G Q E0 hE hz => by
    obtain ⟨a, ps, bs, g, rfl, hg, ok, hq⟩ := hz
    refine ⟨_, (zs_cons (z_set (i := 1) sc_check_graph.nd rfl (Or.inl rfl) (z_callTy zf_list (by rfl) T.z_list (by rfl) (za_cons (z_fld T.c_Graph T.n_Graph_params (z_var 0)) za_nil))) (zs_cons (z_for (passes_of (by rfl)) rfl (zi_tup (z_fld T.c_Graph T.n_Graph_blocks (z_var 0))) (zg_name (i := 2) sc_check_graph.nd rfl (Or.inl rfl)) (zs_one (z_aug (i := 1) sc_check_graph.nd rfl (Or.inl rfl) (z_op zo_cat (z_callTy zf_list (by rfl) T.z_list (by rfl) (za_cons (z_fld T.c_Block T.n_Block_params (z_var 2)) za_nil)) (z_lc (own := [("name", 3), ("row", 4)]) rfl sc_check_graph.nd (zi_tup (z_fld T.c_Block T.n_Block_rows (z_var 2))) (blkOk_by (by rfl)) (grel_tup (gsrel_cons (grel_name (by decide)) (gsrel_cons (grel_name (by decide)) gsrel_nil))) (fun _ _ _ _ _ => (pg_tup (n := 2) rfl (pgs_cons (pg_name (i := 3) sc_check_graph.nd rfl (Or.inl rfl)) (pgs_cons (pg_name (i := 4) sc_check_graph.nd rfl (Or.inl rfl)) pgs_nil)))) (fun _ _ _ _ _ => zts_nil) (fun _ _ _ _ _ => (z_var 3)))) zi_ext))) (zs_cons (z_set (i := 5) sc_check_graph.nd rfl (Or.inl rfl) z_dnewK) (zs_cons (z_for (passes_of (by rfl)) rfl (zi_list (z_var 1)) (zg_name (i := 3) sc_check_graph.nd rfl (Or.inl rfl)) (zs_cons (z_if (z_tdin (un1 hr) (z_var 3) (z_var 5)) (zs_one z_never) zs_nil) (zs_cons (z_dput (un1 hr) (z_var 5) (z_var 3) z_bl) zs_nil))) (zs_cons (z_for (passes_of (by rfl)) rfl (zi_tup (z_fld T.c_Graph T.n_Graph_blocks (z_var 0))) (zg_name (i := 2) sc_check_graph.nd rfl (Or.inl rfl)) (zs_one (z_expr (z_dc0 D_check_block hr (by decide) (by rfl) (za_cons (z_var 2) (za_cons (z_var 0) (za_cons (z_var 5) za_nil))))))) (zs_cons (z_ret (z_var 0)) zs_nil)))))), ?_⟩
    obtain ⟨dg, hga⟩ := hg.at_
    have few : ps.length + (g.flatMap blkNames).length ≤ 60 := by
      have := ok.few
      unfold allNames at this
      rw [List.length_append] at this
      exact this
    walk_at "zr"
    intro r G1 nr h1
    have e1 := h1.ext nr
    have hga1 := e1 _ _ hga
    walk_at "zr"
    refine ⟨fun i ρ G2 => Ext G G2 ∧ G2 r = some (.lst (intsD (ps ++ (g.take i).flatMap blkNames))) ∧ ∃ x y z u, ρ = [some (.ref a), some (.ref r), x, y, z, u], ⟨e1, by simpa using h1.is, _, _, _, _, rfl⟩, ?_, ?_⟩
    · rintro i d ρ G2 hi ⟨e2, hr2, x, y, z, u, rfl⟩
      refine ⟨trivial, ?_⟩
      obtain ⟨b, hb, rfl⟩ := refs_get hi
      obtain ⟨B, hB, dx, hbk⟩ := hg.blk_of hb
      have hbk2 := e2 _ _ hbk
      walk_at "zr"
      intro p G3 np h3
      have e3 := h3.ext np
      have hbk3 := e3 _ _ hbk2
      have p3 := h3.is
      walk_at "zr"
      have hrl := ok.rl B (List.mem_of_getElem? hB)
      refine lc_pure (fun _ => true) (fun d => match d with | .tup [x, _] => x | _ => .non) trivial (big_lt (by unfold rowsD; rw [List.length_map]; omega)) (fun i d R acc hi h1 h2 => ?_) fun p' G4 np' h4 => ?_
      · obtain ⟨rw_, hrw, rfl⟩ := rowsD_get hi
        walk_at "zr"
        exact h1 rfl
      · have e4 := h4.ext np'
        have lc : List.map (fun d : D => match d with | .tup [x, _] => x | _ => .non) (List.filter (fun _ => true) (rowsD B.rows)) = intsD (B.rows.map (·.1)) := by
          unfold rowsD intsD
          rw [List.filter_eq_self.mpr (by simp), List.map_map, List.map_map]
          rfl
        rw [lc] at h4
        have p4 := e4 _ _ p3
        have hp4 := h4.is
        have lenB : (B.params ++ B.rows.map (·.1)).length ≤ (g.flatMap blkNames).length := by
          have h1 := flat_snoc hB
          have h2 := flat_len (g := g) (i + 1)
          rw [h1, List.length_append] at h2
          have h3 : (blkNames B).length = (B.params ++ B.rows.map (·.1)).length := rfl
          omega
        rw [List.length_append] at lenB
        refine r_cat p4 hp4 (big_ok (by rw [intsD_len, intsD_len]; omega)) fun p5 G5 np5 h5 => ?_
        have e5 := h5.ext np5
        have hr5 := e5 _ _ (e4 _ _ (e3 _ _ hr2))
        have hp5 := h5.is
        have flen := flat_len (g := g) i
        refine r_ext hr5 hp5 (big_ok (by simp only [List.length_append, intsD_len] at lenB ⊢; omega)) fun G6 h6 => ?_
        walk_at "zr"
        refine ⟨ext_set (e2.trans (e3.trans (e4.trans e5))) nr h6, ?_, _, _, _, _, rfl⟩
        rw [flat_snoc hB, ← List.append_assoc, ← intsD_app]
        have h7 := h6.is
        rw [intsD_app B.params] at h7
        exact h7
    · rintro ρ G2 ⟨e2, hr2, x, y, z, u, rfl⟩
      refine ⟨trivial, ?_⟩
      rw [List.length_map, hg.len, List.take_length] at hr2
      have hr2' : G2 r = some (.lst (intsD (allNames ps g))) := hr2
      clear hr2
      walk_at "zr"
      intro s_ G3 ns h3
      have e3 := e2.trans (h3.ext ns)
      have hr3 := (h3.ext ns) _ _ hr2'
      have nsG := e2.back ns
      walk_at "zr"
      refine ⟨fun i ρ G4 => Ext G G4 ∧ G4 r = some (.lst (intsD (allNames ps g))) ∧ G4 s_ = some (.dk (seenD ((allNames ps g).take i))) ∧ ∃ x y z, ρ = [some (.ref a), some (.ref r), x, y, z, some (.ref s_)], ⟨e3, hr3, h3.is, _, _, _, rfl⟩, ?_, ?_⟩
      · rintro i d ρ G4 hi ⟨e4, hr4, hs4, x, y, z, rfl⟩
        refine ⟨hr4, ?_⟩
        obtain ⟨nm, hnm, rfl⟩ := intsD_get hi
        walk_at "zr"
        have hil := (List.getElem?_eq_some_iff.mp hnm).1
        have nin : nm ∉ (allNames ps g).take i := by
          intro hm
          obtain ⟨j, hj, ej⟩ := List.getElem_of_mem hm
          rw [List.length_take] at hj
          rw [List.getElem_take] at ej
          have nd := ok.nod
          have e1 := (List.getElem?_eq_some_iff.mp hnm).2
          have := (List.pairwise_iff_getElem.mp nd) j i (by omega) hil (by omega)
          rw [ej, e1] at this
          exact this rfl
        refine r_kdin (dget_dk (k := Sum.inl nm) hs4 rfl) ?_
        rw [seen_val, decide_eq_false nin]
        walk_at "zr"
        have sl : (seenD ((allNames ps g).take i)).length ≤ 60 := by
          unfold seenD
          rw [List.length_map, List.length_take]
          have := ok.few
          omega
        refine r_kdput (k := Sum.inl nm) hs4 rfl (big_lt (by omega)) fun G5 h5 => ?_
        rw [seen_put nin] at h5
        have rs : r ≠ s_ := fun z => by rw [z] at hr4; rw [hr4] at hs4; cases hs4
        walk_at "zr"
        refine ⟨ext_set e4 nsG h5, (h5.other r rs).trans hr4, ?_, _, _, _, rfl⟩
        rw [List.take_add_one, hnm]
        exact h5.is
      · rintro ρ G4 ⟨e4, hr4, hs4, x, y, z, rfl⟩
        refine ⟨hr4, ?_⟩
        rw [intsD_len, List.take_length] at hs4
        have hga4 := e4 _ _ hga
        walk_at "zr"
        refine ⟨fun i ρ G5 => Ext G4 G5 ∧ ∃ x y z, ρ = [some (.ref a), some (.ref r), x, y, z, some (.ref s_)], ⟨Ext.refl _, _, _, _, rfl⟩, ?_, ?_⟩
        · rintro i d ρ G5 hi ⟨e5, x, y, z, rfl⟩
          refine ⟨trivial, ?_⟩
          obtain ⟨b, hb, rfl⟩ := refs_get hi
          obtain ⟨B, hB, _⟩ := hg.blk_of hb
          walk_at "zr"
          refine ⟨a, s_, ps, bs, g, i, b, B, rfl, (hg.ext e4).ext e5, ok, hb, hB, e5 _ _ hs4, fun G6 e6 => ?_⟩
          walk_at "zr"
          exact ⟨e5.trans e6, _, _, _, rfl⟩
        · rintro ρ G5 ⟨e5, x, y, z, rfl⟩
          refine ⟨trivial, ?_⟩
          walk_at "zr"
          exact hq _ (e4.trans e5)
end
end K24

namespace K24
open PySem PySem.Spec PyProof.Rows L2 Z
local macro_rules | `(tactic| walk_at "zr") => `(tactic| (repeat' (with_reducible first | refine r_asg ?_ | refine r_asgT ?_ | refine r_asgG ?_ | refine r_asg1 ?_ | refine r_if ?_ | refine r_if1 ?_ | refine r_drop ?_ | refine r_drop1 ?_ | refine r_ret ?_ | refine r_ret1 ?_ | refine r_retN ?_ | refine r_nx ?_ | refine r_nx1 ?_ | refine r_bk ?_ | refine r_ct ?_ | refine r_par ?_ | refine r_par1 ?_ | refine r_par3 ?_ | refine r_par31 ?_ | refine r_for ?_ | refine r_for1 ?_ | refine r_sfld ?_ | refine r_sfld1 ?_ | refine r_aug (by with_unfolding_all rfl) ?_ | refine r_aug1 (by with_unfolding_all rfl) ?_ | refine r_var (by with_unfolding_all rfl) ?_ | refine r_c ?_ | refine r_op ?_ | refine r_ifE ?_ | refine r_nil ?_ | refine r_cons ?_ | refine r_tup ?_ | refine r_lst ?_ | refine r_cb ?_ | refine r_call ?_ | refine r_test ?_ | refine r_not ?_ | refine r_and ?_ | refine r_or ?_ | refine r_andV ?_ | refine r_orV ?_ | refine r_notV ?_ | refine r_neg ?_ | refine r_bm ?_ | refine r_bm0 ?_ | refine r_sl ?_ | refine r_part ?_ | refine r_noP ?_ | refine r_chain ?_ | refine r_int2 ?_ | refine r_eqI ?_ | refine r_eqS ?_ | refine r_eqB ?_ | refine r_fInt ?_ | refine r_fIntB ?_ | refine r_fAbs ?_ | refine r_fMin ?_ | refine r_lenT ?_ | refine r_isNN ?_ | refine r_isNI ?_ | refine r_isNT ?_ | refine r_isNR ?_ | refine r_ixT0 ?_ | refine r_ixT1 ?_ | refine r_ixT2 ?_ | refine r_ixT3 ?_ | refine r_fld ?_ | refine r_kfld (by assumption) rfl ?_ | refine r_list ?_ | refine r_klist (by assumption) ?_ | refine r_tupI ?_ | refine r_ktupI ?_ | refine r_yes ?_ | refine r_kctI ?_ | refine r_rng1 ?_ | refine r_rng2 ?_ | refine r_enum ?_ | refine r_kenumT ?_ | refine r_kenum (by assumption) ?_ | refine r_fListT ?_ | refine r_fTupT ?_ | refine r_fListR (by assumption) ?_ | refine r_fTupR (by assumption) ?_ | refine r_lenR (by assumption) ?_ | refine r_rev ?_ | refine r_krevT ?_ | refine r_krev (by assumption) ?_ | refine r_setL ?_ | refine r_dget ?_ | refine r_lc0 ?_ | refine r_name ?_ | refine r_gtup (by with_unfolding_all rfl) ?_ | refine r_gcons ?_ | refine r_gnil ?_ | refine r_din ?_ | refine r_setd ?_ | refine r_ksetdA (by assumption) ?_ | refine r_keysI ?_ | refine r_kkeysI (by assumption) ?_ | refine r_dput ?_ | refine r_dput1 ?_ | refine r_dnewK ?_ | refine r_szc (by with_unfolding_all exact Nat.le_of_ble_eq_true rfl) ?_ | refine r_eqlen (by with_unfolding_all rfl) ?_ | refine r_ifT (by decide) ?_ | refine r_ifF (by decide) ?_ | refine r_inFT (b := false) rfl rfl (by decide) ?_ | refine r_inFT (b := true) rfl rfl (by decide) ?_ | refine r_lrng ?_)))
/-! ### rows of rows of names -/
structure FndAt (G : Gp) (a : Addr) (qs : List Addr) (F : Fnd) : Prop where
  at_ : G a = some (.lst (qs.map D.ref))
  len : qs.length = F.length
  row : ∀ (i : Nat) q l, qs[i]? = some q → F[i]? = some l → G q = some (.lst (intsD l))
  ne : ∀ q ∈ qs, q ≠ a
theorem FndAt.ext {G G' : Gp} {a : Addr} {qs : List Addr} {F : Fnd} (h : FndAt G a qs F) (e : Ext G G') : FndAt G' a qs F := ⟨e _ _ h.at_, h.len, fun i q l x y => e _ _ (h.row i q l x y), h.ne⟩
theorem FndAt.get {G : Gp} {a : Addr} {qs : List Addr} {F : Fnd} (h : FndAt G a qs F) {i : Nat} {l : Vs} (hl : F[i]? = some l) : ∃ q, (qs.map D.ref)[i]? = some (.ref q) ∧ qs[i]? = some q ∧ G q = some (.lst (intsD l)) := by
  have hi : i < qs.length := by rw [h.len]; exact (List.getElem?_eq_some_iff.mp hl).1
  exact ⟨_, by rw [List.getElem?_map, List.getElem?_eq_getElem hi]; rfl, List.getElem?_eq_getElem hi, h.row i _ l (List.getElem?_eq_getElem hi) hl⟩
theorem FndAt.set {G G' : Gp} {a q : Addr} {qs : List Addr} {F : Fnd} {n : Nat} {s : Vs} (h : FndAt G a qs F) (hq : G q = some (.lst (intsD s))) (nq : q ≠ a) (k : At G a (.lst ((qs.map D.ref).set n (.ref q))) G') : FndAt G' a (qs.set n q) (F.set n s) := by
  refine ⟨by rw [List.map_set]; exact k.is, by rw [List.length_set, List.length_set, h.len], fun i r l hr hl => ?_, fun r hr => ?_⟩
  · rw [List.getElem?_set] at hr hl
    by_cases e : n = i
    · subst e
      rw [if_pos rfl] at hr hl
      split at hr
      · split at hl
        · cases hr
          cases hl
          rw [k.other q nq]
          exact hq
        · cases hl
      · cases hr
    · rw [if_neg e] at hr hl
      rw [k.other r (h.ne r (List.mem_of_getElem? hr))]
      exact h.row i r l hr hl
  · rcases List.mem_or_eq_of_mem_set hr with hr | rfl
    · exact h.ne r hr
    · exact nq
def stepL (l : Vs) (r : Int × Row) : Vs := united (without l [r.1]) (names_in r.2.atoms)
theorem liveR_fold (rows : List (Int × Row)) (e : End) (after : Vs) : liveR rows e after = rows.reverse.foldl stepL (united after (names_in e.atoms)) := by
  unfold liveR
  rw [List.foldl_reverse]
  rfl
theorem names_len (as : List Atm) : (names_in as).length ≤ as.length := List.length_filterMap_le _ _
theorem without_len (a b : Vs) : (without a b).length ≤ a.length := List.length_filter_le _ _
theorem row_atoms (r : Row) : r.atoms.length ≤ 2 := by cases r <;> simp [Row.atoms]
theorem stepL_len (l : Vs) (r : Int × Row) : (stepL l r).length ≤ l.length + 2 := by
  have h1 := len_united (without l [r.1]) (names_in r.2.atoms)
  have h2 := without_len l [r.1]
  have h3 := names_len r.2.atoms
  have h4 := row_atoms r.2
  unfold stepL
  omega
theorem foldL_len : ∀ (rs : List (Int × Row)) (l : Vs), (rs.foldl stepL l).length ≤ l.length + 2 * rs.length
  | [], l => by simp
  | r :: rs, l => by
    have h1 := foldL_len rs (stepL l r)
    have h2 := stepL_len l r
    rw [List.foldl_cons, List.length_cons]
    omega
theorem rowsD_rev (rows : List (Int × Row)) : (rowsD rows).reverse = rowsD rows.reverse := by unfold rowsD; rw [List.map_reverse]
theorem fold_snoc {α β : Type} {f : β → α → β} {rs : List α} {i : Nat} {r : α} {b : β} (h : rs[i]? = some r) : (rs.take (i + 1)).foldl f b = f ((rs.take i).foldl f b) r := by
  rw [List.take_add_one, h, List.foldl_append]
  rfl
theorem foldU_len {F : Fnd} {N : Nat} (h : ∀ t, (F.getD t []).length ≤ N) : ∀ (ts : List Nat) (l : Vs), (ts.foldl (fun l t => united l (F.getD t [])) l).length ≤ l.length + N * ts.length
  | [], l => by simp
  | t :: ts, l => by
    have h1 := foldU_len h ts (united l (F.getD t []))
    have h2 := len_united l (F.getD t [])
    have h3 := h t
    rw [List.foldl_cons, List.length_cons]
    rw [Nat.mul_add]
    omega
def spLiveBefore (CB : Addr) : ZSp := fun ds G Q _ => ∃ (b q : Addr) (B : Blk) (l : Vs), ds = [.ref b, .ref q] ∧ BlkAt CB G b B ∧ G q = some (.lst (intsD l)) ∧ l.length ≤ 10000 ∧ B.rows.length ≤ 10 ∧ B.en.atoms.length ≤ 10 ∧ NewI (liveB B l) G Q
def spLiveAfter (CB CG : Addr) : ZSp := fun ds G Q _ => ∃ (a fa b : Addr) (qs : List Addr) (F : Fnd) (B : Blk), ds = [.ref a, .ref fa, .ref b] ∧ FndAt G fa qs F ∧ BlkAt CB G b B ∧ (∀ t ∈ succ B.en, t < F.length) ∧ (targets B.en).length ≤ 3 ∧ (∀ t, (F.getD t []).length ≤ 60) ∧ NewI (afterOf F B.en) G Q
section
variable [τ : Tbl] {P : Program} {w : World} {K : PySem.W.Frag} {mg : Str → Option Value} {base : Heap} {CB CG aA : Addr} {eA : Array DictEntry} {nA : Nat}
theorem ok_LiveBefore {f : Addr} {fd : FuncData} (FF : Fun K "live_before" "live_before" s_live_before f fd) (T : Txt K w mg CB CG aA eA nA) (D_united : Dfn P w K mg base "united" 1 ["names", "more"] spUnited) (D_without : Dfn P w K mg base "without" 1 ["names", "gone"] spWithout)
    (D_names_in : Dfn P w K mg base "names_in" 1 ["atoms"] spNamesIn) (D_flat_atoms : Dfn P w K mg base "flat_atoms" 2 ["operation"] spFlat) (D_end_atoms : Dfn P w K mg base "end_atoms" 1 ["end"] spEndAtoms) :
    FnOk P w K mg base (L2.CX P w) 3 f fd ["block", "after"] (upSp K (spLiveBefore CB)) :=
  z_fn FF sc_live_before (fun ds G Q E h => by obtain ⟨_, _, _, _, rfl, _⟩ := h; rfl) fun bas cdv A outer s H E hr ds G Q E0 hE hz => by
    obtain ⟨b, q, B, l, rfl, ⟨dx, hb⟩, hq0, hl, hrl, hel, hq⟩ := hz
    refine ⟨_, (zs_cons (z_set (i := 2) sc_live_before.nd rfl (Or.inl rfl) (z_dc0 D_united hr (by decide) (by rfl) (za_cons (z_var 1) (za_cons (z_lst za_nil) za_nil)))) (zs_cons (z_set (i := 2) sc_live_before.nd rfl (Or.inl rfl) (z_dc0 D_united hr (by decide) (by rfl) (za_cons (z_var 2) (za_cons (z_dc0 D_names_in hr (by decide) (by rfl) (za_cons (z_dc0 D_end_atoms hr (by decide) (by rfl) (za_cons (z_fld T.c_Block T.n_Block_end (z_var 0)) za_nil)) za_nil)) za_nil)))) (zs_cons (z_for (passes_of (by rfl)) rfl (zi_tup (z_rev (z_fld T.c_Block T.n_Block_rows (z_var 0)))) (zg_tup (n := 2) rfl (zgs_cons (zg_name (i := 3) sc_live_before.nd rfl (Or.inl rfl)) (zgs_cons (zg_name (i := 4) sc_live_before.nd rfl (Or.inl rfl)) zgs_nil))) (zs_one (z_set (i := 2) sc_live_before.nd rfl (Or.inl rfl) (z_dc0 D_united hr (by decide) (by rfl) (za_cons (z_dc0 D_without hr (by decide) (by rfl) (za_cons (z_var 2) (za_cons (z_lst (za_cons (z_var 3) za_nil)) za_nil))) (za_cons (z_dc0 D_names_in hr (by decide) (by rfl) (za_cons (z_dc0 D_flat_atoms hr (by decide) (by rfl) (za_cons (z_var 4) za_nil)) za_nil)) za_nil)))))) (zs_cons (z_ret (z_var 2)) zs_nil)))), ?_⟩
    walk_at "zr"
    intro p0 G1 n0 h1
    have e1 := h1.ext n0
    refine ⟨q, l, p0, [], rfl, e1 _ _ hq0, h1.is, by omega, by decide, fun p1 G2 _ e2 h2 => ?_⟩
    have e02 := e1.trans e2
    have hb2 := e02 _ _ hb
    walk_at "zr"
    refine ⟨B.en, rfl, ?_⟩
    walk_at "zr"
    refine ⟨_, rfl, by omega, fun p2 G3 e3 h3 => ?_⟩
    have nl := names_len B.en.atoms
    have ul := len_united l []
    refine ⟨p1, united l [], p2, _, rfl, e3 _ _ h2, h3, by simp at ul; omega, by omega, fun p3 G4 _ e4 h4 => ?_⟩
    have e04 := e02.trans (e3.trans e4)
    have hb4 := e04 _ _ hb
    walk_at "zr"
    rw [rowsD_rev]
    have ul2 := len_united (united l []) (names_in B.en.atoms)
    have hbase : (united (united l []) (names_in B.en.atoms)).length ≤ 10010 := by simp at ul; omega
    refine ⟨fun i ρ G5 => Ext G G5 ∧ ∃ (r : Addr) (x y : Option D), G5 r = some (.lst (intsD ((B.rows.reverse.take i).foldl stepL (united (united l []) (names_in B.en.atoms))))) ∧ ρ = [some (.ref b), some (.ref q), some (.ref r), x, y], ⟨e04, p3, _, _, h4, rfl⟩, ?_, ?_⟩
    · rintro i d ρ G5 hi ⟨e5, r, x, y, hr5, rfl⟩
      refine ⟨trivial, ?_⟩
      obtain ⟨rw_, hrw, rfl⟩ := rowsD_get hi
      have fl := foldL_len (B.rows.reverse.take i) (united (united l []) (names_in B.en.atoms))
      have fl2 : (B.rows.reverse.take i).length ≤ 10 := by rw [List.length_take, List.length_reverse]; omega
      walk_at "zr"
      intro p6 G6 n6 h6
      have e6 := h6.ext n6
      refine ⟨r, _, .ref p6, [rw_.1], rfl, e6 _ _ hr5, .inr ⟨p6, rfl, h6.is⟩, by omega, fun p7 G7 e7 h7 => ?_⟩
      walk_at "zr"
      refine ⟨rw_.2, rfl, ?_⟩
      walk_at "zr"
      have ra := row_atoms rw_.2
      refine ⟨_, rfl, by omega, fun p8 G8 e8 h8 => ?_⟩
      have nl2 := names_len rw_.2.atoms
      have wl := without_len ((B.rows.reverse.take i).foldl stepL (united (united l []) (names_in B.en.atoms))) [rw_.1]
      refine ⟨p7, _, p8, _, rfl, e8 _ _ h7, h8, by omega, by omega, fun p9 G9 _ e9 h9 => ?_⟩
      walk_at "zr"
      refine ⟨e5.trans (e6.trans (e7.trans (e8.trans e9))), p9, _, _, ?_, rfl⟩
      rw [fold_snoc hrw]
      exact h9
    · rintro ρ G5 ⟨e5, r, x, y, hr5, rfl⟩
      refine ⟨trivial, ?_⟩
      walk_at "zr"
      have : (rowsD B.rows.reverse).length = B.rows.reverse.length := by unfold rowsD; rw [List.length_map]
      rw [this, List.take_length, ← liveR_fold] at hr5
      exact hq r G5 e5 hr5
theorem ok_LiveAfter {f : Addr} {fd : FuncData} (FF : Fun K "live_after" "live_after" s_live_after f fd) (T : Txt K w mg CB CG aA eA nA) (D_united : Dfn P w K mg base "united" 1 ["names", "more"] spUnited) (D_successors : Dfn P w K mg base "successors" 1 ["end"] spSucc) :
    FnOk P w K mg base (L2.CX P w) 2 f fd ["graph", "found", "block"] (upSp K (spLiveAfter CB CG)) :=
  z_fn FF sc_live_after (fun ds G Q E h => by obtain ⟨_, _, _, _, _, _, rfl, _⟩ := h; rfl) fun bas cdv A outer s H E hr ds G Q E0 hE hz => by
    obtain ⟨a, fa, b, qs, F, B, rfl, hF, ⟨dx, hb⟩, hlt, htl, hsz, hq⟩ := hz
    refine ⟨_, (zs_cons (z_set (i := 3) sc_live_after.nd rfl (Or.inl rfl) (z_lst za_nil)) (zs_cons (z_for (passes_of (by rfl)) rfl (zi_tup (z_dc0 D_successors hr (by decide) (by rfl) (za_cons (z_fld T.c_Block T.n_Block_end (z_var 2)) za_nil))) (zg_name (i := 4) sc_live_after.nd rfl (Or.inl rfl)) (zs_one (z_set (i := 3) sc_live_after.nd rfl (Or.inl rfl) (z_dc0 D_united hr (by decide) (by rfl) (za_cons (z_var 3) (za_cons (z_ix (z_var 1) (z_var 4)) za_nil)))))) (zs_cons (z_ret (z_var 3)) zs_nil))), ?_⟩
    walk_at "zr"
    intro p0 G1 n0 h1
    have e1 := h1.ext n0
    have hb1 := e1 _ _ hb
    walk_at "zr"
    refine ⟨B.en, rfl, by omega, fun G2 e2 => ?_⟩
    walk_at "zr"
    refine ⟨fun i ρ G5 => Ext G G5 ∧ ∃ (r : Addr) (x : Option D), G5 r = some (.lst (intsD (((succ B.en).take i).foldl (fun l t => united l (F.getD t [])) []))) ∧ ρ = [some (.ref a), some (.ref fa), some (.ref b), some (.ref r), x], ⟨e1.trans e2, p0, _, e2 _ _ h1.is, rfl⟩, ?_, ?_⟩
    · rintro i d ρ G5 hi ⟨e5, r, x, hr5, rfl⟩
      refine ⟨trivial, ?_⟩
      rw [List.getElem?_map] at hi
      cases ea : (succ B.en)[i]? with
      | none => rw [ea] at hi; cases hi
      | some t =>
        rw [ea] at hi
        cases hi
        have ht := hlt t (List.mem_of_getElem? ea)
        have F5 := hF.ext e5
        have f5 := F5.at_
        obtain ⟨q, hq1, hq2, hq3⟩ := F5.get (List.getElem?_eq_getElem ht)
        walk_at "zr"
        refine r_ixR f5 hq1 ?_
        have gd : F.getD t [] = F[t] := getD_eq (List.getElem?_eq_getElem ht)
        have fl := foldU_len hsz ((succ B.en).take i) []
        have sl := succ_len (e := B.en)
        have tl : ((succ B.en).take i).length ≤ 3 := by rw [List.length_take]; omega
        have hz2 := hsz t
        rw [gd] at hz2
        refine ⟨r, _, q, _, rfl, hr5, hq3, Nat.le_trans fl (by simp; omega), by omega, fun p6 G6 _ e6 h6 => ?_⟩
        walk_at "zr"
        refine ⟨e5.trans e6, p6, _, ?_, rfl⟩
        rw [fold_snoc ea, gd]
        exact h6
    · rintro ρ G5 ⟨e5, r, x, hr5, rfl⟩
      refine ⟨trivial, ?_⟩
      walk_at "zr"
      rw [List.length_map, List.take_length] at hr5
      exact hq r G5 e5 hr5
end
end K24

namespace K24
open PySem PySem.Spec PyProof.Rows L2 Z
local macro_rules | `(tactic| walk_at "zr") => `(tactic| (repeat' (with_reducible first | refine r_asg ?_ | refine r_asgT ?_ | refine r_asgG ?_ | refine r_asg1 ?_ | refine r_if ?_ | refine r_if1 ?_ | refine r_drop ?_ | refine r_drop1 ?_ | refine r_ret ?_ | refine r_ret1 ?_ | refine r_retN ?_ | refine r_nx ?_ | refine r_nx1 ?_ | refine r_bk ?_ | refine r_ct ?_ | refine r_par ?_ | refine r_par1 ?_ | refine r_par3 ?_ | refine r_par31 ?_ | refine r_for ?_ | refine r_for1 ?_ | refine r_sfld ?_ | refine r_sfld1 ?_ | refine r_aug (by with_unfolding_all rfl) ?_ | refine r_aug1 (by with_unfolding_all rfl) ?_ | refine r_var (by with_unfolding_all rfl) ?_ | refine r_c ?_ | refine r_op ?_ | refine r_ifE ?_ | refine r_nil ?_ | refine r_cons ?_ | refine r_tup ?_ | refine r_lst ?_ | refine r_cb ?_ | refine r_call ?_ | refine r_test ?_ | refine r_not ?_ | refine r_and ?_ | refine r_or ?_ | refine r_andV ?_ | refine r_orV ?_ | refine r_notV ?_ | refine r_neg ?_ | refine r_bm ?_ | refine r_bm0 ?_ | refine r_sl ?_ | refine r_part ?_ | refine r_noP ?_ | refine r_chain ?_ | refine r_int2 ?_ | refine r_eqI ?_ | refine r_eqS ?_ | refine r_eqB ?_ | refine r_fInt ?_ | refine r_fIntB ?_ | refine r_fAbs ?_ | refine r_fMin ?_ | refine r_lenT ?_ | refine r_isNN ?_ | refine r_isNI ?_ | refine r_isNT ?_ | refine r_isNR ?_ | refine r_ixT0 ?_ | refine r_ixT1 ?_ | refine r_ixT2 ?_ | refine r_ixT3 ?_ | refine r_fld ?_ | refine r_kfld (by assumption) rfl ?_ | refine r_list ?_ | refine r_klist (by assumption) ?_ | refine r_tupI ?_ | refine r_ktupI ?_ | refine r_yes ?_ | refine r_kctI ?_ | refine r_rng1 ?_ | refine r_rng2 ?_ | refine r_enum ?_ | refine r_kenumT ?_ | refine r_kenum (by assumption) ?_ | refine r_fListT ?_ | refine r_fTupT ?_ | refine r_fListR (by assumption) ?_ | refine r_fTupR (by assumption) ?_ | refine r_lenR (by assumption) ?_ | refine r_rev ?_ | refine r_krevT ?_ | refine r_krev (by assumption) ?_ | refine r_setL ?_ | refine r_dget ?_ | refine r_lc0 ?_ | refine r_name ?_ | refine r_gtup (by with_unfolding_all rfl) ?_ | refine r_gcons ?_ | refine r_gnil ?_ | refine r_din ?_ | refine r_setd ?_ | refine r_ksetdA (by assumption) ?_ | refine r_keysI ?_ | refine r_kkeysI (by assumption) ?_ | refine r_dput ?_ | refine r_dput1 ?_ | refine r_dnewK ?_ | refine r_szc (by with_unfolding_all exact Nat.le_of_ble_eq_true rfl) ?_ | refine r_eqlen (by with_unfolding_all rfl) ?_ | refine r_ifT (by decide) ?_ | refine r_ifF (by decide) ?_ | refine r_inFT (b := false) rfl rfl (by decide) ?_ | refine r_inFT (b := true) rfl rfl (by decide) ?_ | refine r_lrng ?_)))
/-- what is live behind an instruction, or behind the end -/
def behind (B : Blk) (after : Vs) (p : Nat) : Vs := if p < B.rows.length then liveR (B.rows.drop (p + 1)) B.en after else after
def RowsOk (B : Blk) (after : Vs) (L : List Vs) : Prop := L.length = B.rows.length + 1 ∧ ∀ p l, L[p]? = some l → Sorted (behind B after p) l
def spLiveRows (CB CG : Addr) : ZSp := fun ds G Q _ => ∃ (a fa b : Addr) (qs : List Addr) (F : Fnd) (B : Blk), ds = [.ref a, .ref fa, .ref b] ∧ FndAt G fa qs F ∧ BlkAt CB G b B ∧ (∀ t ∈ succ B.en, t < F.length) ∧ (targets B.en).length ≤ 3 ∧ (∀ t, (F.getD t []).length ≤ 60) ∧ B.rows.length ≤ 10 ∧ B.en.atoms.length ≤ 10 ∧
  ∀ p rs L G', Ext G G' → FndAt G' p rs L → RowsOk B (afterOf F B.en) L → (∀ q ∈ rs, G q = none) → Q (.ref p) G'
theorem FndAt.snoc {G G' : Gp} {a q : Addr} {qs : List Addr} {F : Fnd} {s : Vs} (h : FndAt G a qs F) (hq : G q = some (.lst (intsD s))) (nq : q ≠ a) (k : At G a (.lst ((qs.map D.ref) ++ [.ref q])) G') : FndAt G' a (qs ++ [q]) (F ++ [s]) := by
  refine ⟨by rw [List.map_append]; exact k.is, by rw [List.length_append, List.length_append, h.len]; rfl, fun i r l hr hl => ?_, fun r hr => ?_⟩
  · by_cases hi : i < qs.length
    · rw [List.getElem?_append_left hi] at hr
      rw [List.getElem?_append_left (by rw [← h.len]; exact hi)] at hl
      rw [k.other r (h.ne r (List.mem_of_getElem? hr))]
      exact h.row i r l hr hl
    · rw [List.getElem?_append_right (by omega)] at hr
      rw [List.getElem?_append_right (by rw [← h.len]; omega), ← h.len] at hl
      have : i - qs.length = 0 := by
        have := (List.getElem?_eq_some_iff.mp hr).1
        simp at this
        omega
      rw [this] at hr hl
      cases hr
      cases hl
      rw [k.other q nq]
      exact hq
  · rcases List.mem_append.mp hr with hr | hr
    · exact h.ne r hr
    · rw [List.mem_singleton.mp hr]
      exact nq
theorem FndAt.rev {G G' : Gp} {a b : Addr} {qs : List Addr} {F : Fnd} (h : FndAt G a qs F) (n : G b = none) (k : At G b (.lst (qs.map D.ref).reverse) G') : FndAt G' b qs.reverse F.reverse := by
  have e := k.ext n
  refine ⟨by rw [List.map_reverse]; exact k.is, by rw [List.length_reverse, List.length_reverse, h.len], fun i r l hr hl => ?_, fun r hr => ?_⟩
  · have hi := (List.getElem?_eq_some_iff.mp hr).1
    rw [List.length_reverse] at hi
    rw [List.getElem?_reverse hi] at hr
    rw [List.getElem?_reverse (by rw [← h.len]; exact hi), ← h.len] at hl
    exact e _ _ (h.row _ r l hr hl)
  · obtain ⟨i, hi, er⟩ := List.getElem_of_mem (List.mem_reverse.mp hr)
    have h2 := h.row i r (F[i]'(by rw [← h.len]; exact hi)) (by rw [List.getElem?_eq_getElem hi, er]) (List.getElem?_eq_getElem _)
    rintro rfl
    rw [n] at h2
    cases h2
theorem Sorted.of {l s : Vs} (h1 : s.Perm l) (h2 : s.Pairwise (· ≤ ·)) : Sorted l s := ⟨h1, h2⟩
section
variable [τ : Tbl] {P : Program} {w : World} {K : PySem.W.Frag} {mg : Str → Option Value} {base : Heap} {CB CG aA : Addr} {eA : Array DictEntry} {nA : Nat}
theorem ok_LiveRows {f : Addr} {fd : FuncData} (FF : Fun K "live_rows" "live_rows" s_live_rows f fd) (T : Txt K w mg CB CG aA eA nA) (D_united : Dfn P w K mg base "united" 1 ["names", "more"] spUnited) (D_without : Dfn P w K mg base "without" 1 ["names", "gone"] spWithout)
    (D_names_in : Dfn P w K mg base "names_in" 1 ["atoms"] spNamesIn) (D_flat_atoms : Dfn P w K mg base "flat_atoms" 2 ["operation"] spFlat) (D_end_atoms : Dfn P w K mg base "end_atoms" 1 ["end"] spEndAtoms) (D_live_after : Dfn P w K mg base "live_after" 2 ["graph", "found", "block"] (spLiveAfter CB CG)) :
    FnOk P w K mg base (L2.CX P w) 3 f fd ["graph", "found", "block"] (upSp K (spLiveRows CB CG)) :=
  z_fn FF sc_live_rows (fun ds G Q E h => by obtain ⟨_, _, _, _, _, _, rfl, _⟩ := h; rfl) fun bas cdv A outer s H E hr ds G Q E0 hE hz => by
    obtain ⟨a, fa, b, qs, F, B, rfl, hF, hbk, hlt, htl, hsz, hrl, hel, hq⟩ := hz
    refine ⟨_, (zs_cons (z_set (i := 3) sc_live_rows.nd rfl (Or.inl rfl) (z_dc0 D_live_after hr (by decide) (by rfl) (za_cons (z_var 0) (za_cons (z_var 1) (za_cons (z_var 2) za_nil))))) (zs_cons (z_set (i := 4) sc_live_rows.nd rfl (Or.inl rfl) (z_lst (za_cons (z_callB zf_sortI (by rfl) T.z_sorted (by decide +kernel) (za_cons (z_var 3) za_nil)) za_nil))) (zs_cons (z_set (i := 3) sc_live_rows.nd rfl (Or.inl rfl) (z_dc0 D_united hr (by decide) (by rfl) (za_cons (z_var 3) (za_cons (z_dc0 D_names_in hr (by decide) (by rfl) (za_cons (z_dc0 D_end_atoms hr (by decide) (by rfl) (za_cons (z_fld T.c_Block T.n_Block_end (z_var 2)) za_nil)) za_nil)) za_nil)))) (zs_cons (z_for (passes_of (by rfl)) rfl (zi_tup (z_rev (z_fld T.c_Block T.n_Block_rows (z_var 2)))) (zg_tup (n := 2) rfl (zgs_cons (zg_name (i := 5) sc_live_rows.nd rfl (Or.inl rfl)) (zgs_cons (zg_name (i := 6) sc_live_rows.nd rfl (Or.inl rfl)) zgs_nil))) (zs_cons (z_expr (z_bm PySem.F.plainAttrs_list PySem.F.slot_list_append PySem.F.type_list_append zm_append (z_var 4) (za_cons (z_callB zf_sortI (by rfl) T.z_sorted (by decide +kernel) (za_cons (z_var 3) za_nil)) za_nil))) (zs_cons (z_set (i := 3) sc_live_rows.nd rfl (Or.inl rfl) (z_dc0 D_united hr (by decide) (by rfl) (za_cons (z_dc0 D_without hr (by decide) (by rfl) (za_cons (z_var 3) (za_cons (z_lst (za_cons (z_var 5) za_nil)) za_nil))) (za_cons (z_dc0 D_names_in hr (by decide) (by rfl) (za_cons (z_dc0 D_flat_atoms hr (by decide) (by rfl) (za_cons (z_var 6) za_nil)) za_nil)) za_nil)))) zs_nil))) (zs_cons (z_ret (z_rev (z_var 4))) zs_nil))))), ?_⟩
    walk_at "zr"
    refine ⟨a, fa, b, qs, F, B, rfl, hF, hbk, hlt, htl, hsz, fun p1 G1 e1 h1 => ?_⟩
    obtain ⟨dx, hb⟩ := hbk
    have fl := foldU_len hsz (succ B.en) []
    have sl := succ_len (e := B.en)
    have al : (afterOf F B.en).length ≤ 180 := Nat.le_trans fl (by simp; omega)
    walk_at "zr"
    refine r_sortI h1 fun s0 p2 G2 sp so n2 h2 => ?_
    walk_at "zr"
    intro p3 G3 n3 h3
    have e2 := h2.ext n2
    have e3 := h3.ext n3
    have e13 := e1.trans (e2.trans e3)
    have hb3 := e13 _ _ hb
    have n3G := e13
    have n3' : G p3 = none := (e1.trans e2).back n3
    walk_at "zr"
    refine ⟨B.en, rfl, ?_⟩
    walk_at "zr"
    refine ⟨_, rfl, by omega, fun p4 G4 e4 h4 => ?_⟩
    have nl := names_len B.en.atoms
    refine ⟨p1, _, p4, _, rfl, e4 _ _ (e3 _ _ (e2 _ _ h1)), h4, by omega, by omega, fun p5 G5 _ e5 h5 => ?_⟩
    have e15 := e13.trans (e4.trans e5)
    have hb5 := e15 _ _ hb
    have r5 : FndAt G5 p3 [p2] [s0] := by
      refine FndAt.ext ⟨h3.is, rfl, fun i q l hq hl => ?_, fun q hq => ?_⟩ (e4.trans e5)
      · cases i with
        | zero =>
          cases hq
          cases hl
          exact e3 _ _ h2.is
        | succ i => cases hq
      · rw [List.mem_singleton.mp hq]
        rintro rfl
        have := h2.is
        rw [n3] at this
        cases this
    walk_at "zr"
    rw [rowsD_rev]
    generalize hbase : united (afterOf F B.en) (names_in B.en.atoms) = bs0 at h5
    have bl0 : bs0.length ≤ 190 := by
      have := len_united (afterOf F B.en) (names_in B.en.atoms)
      rw [hbase] at this
      omega
    have keyR : ∀ i, i ≤ B.rows.length → liveR (B.rows.drop (B.rows.length - i)) B.en (afterOf F B.en) = (B.rows.reverse.take i).foldl stepL bs0 := fun i hi => by
      rw [liveR_fold, hbase, List.reverse_drop, show B.rows.length - (B.rows.length - i) = i by omega]
    refine ⟨fun i ρ G6 => Ext G G6 ∧ i ≤ B.rows.length ∧ ∃ (r : Addr) (x y : Option D) (rs : List Addr) (L : List Vs), G6 r = some (.lst (intsD ((B.rows.reverse.take i).foldl stepL bs0))) ∧ FndAt G6 p3 rs L ∧ L.length = i + 1 ∧ (∀ j l, L[j]? = some l → Sorted (behind B (afterOf F B.en) (B.rows.length - j)) l) ∧ (∀ q ∈ rs, G q = none) ∧
      ρ = [some (.ref a), some (.ref fa), some (.ref b), some (.ref r), some (.ref p3), x, y], ⟨e15, Nat.zero_le _, p5, _, _, [p2], [s0], h5, r5, rfl, fun j l hl => ?_, fun q hq => by rw [List.mem_singleton.mp hq]; exact e1.back n2, rfl⟩, ?_, ?_⟩
    · cases j with
      | zero =>
        cases hl
        unfold behind
        rw [if_neg (by omega)]
        exact ⟨sp, so⟩
      | succ j => cases hl
    · rintro i d ρ G6 hi ⟨e6, hil, r, x, y, rs, L, hr6, hL, lL, sL, nL, rfl⟩
      refine ⟨trivial, ?_⟩
      obtain ⟨rw_, hrw, rfl⟩ := rowsD_get hi
      have hi2 := (List.getElem?_eq_some_iff.mp hrw).1
      rw [List.length_reverse] at hi2
      have fl := foldL_len (B.rows.reverse.take i) bs0
      have fl2 : (B.rows.reverse.take i).length ≤ 10 := by rw [List.length_take, List.length_reverse]; omega
      walk_at "zr"
      have hL3 := hL.at_
      refine ⟨r_tyL hL3, ?_⟩
      walk_at "zr"
      refine r_sortI hr6 fun s7 p7 G7 sp7 so7 n7 h7 => ?_
      have e7 := h7.ext n7
      have hL7 := hL.ext e7
      walk_at "zr"
      refine r_append hL7.at_ (big_lt (by rw [List.length_map, hL7.len]; omega)) fun G8 h8 => ?_
      have p73 : p7 ≠ p3 := by
        rintro rfl
        rw [n7] at hL3
        cases hL3
      have hL8 := hL7.snoc h7.is p73 h8
      have e8 := ext_set (e6.trans e7) n3' h8
      have hr8 : G8 r = some (.lst (intsD ((B.rows.reverse.take i).foldl stepL bs0))) := by
        rw [h8.other r ?_]
        · exact e7 _ _ hr6
        · rintro rfl
          have hz := hL.at_
          rw [hr6] at hz
          cases rs with
          | nil =>
            have := hL.len
            rw [lL] at this
            cases this
          | cons q rs =>
            injection hz with hz
            injection hz with hz
            cases hfold : List.foldl stepL bs0 (B.rows.reverse.take i) with
            | nil => rw [hfold] at hz; cases hz
            | cons v vs =>
              rw [hfold] at hz
              injection hz with hz
              cases hz
      walk_at "zr"
      intro p9 G9 n9 h9
      have e9 := h9.ext n9
      refine ⟨r, _, .ref p9, [rw_.1], rfl, e9 _ _ hr8, .inr ⟨p9, rfl, h9.is⟩, by omega, fun pa Ga ea ha => ?_⟩
      walk_at "zr"
      refine ⟨rw_.2, rfl, ?_⟩
      walk_at "zr"
      have ra := row_atoms rw_.2
      refine ⟨_, rfl, by omega, fun pb Gb eb hb => ?_⟩
      have nl2 := names_len rw_.2.atoms
      have wl := without_len ((B.rows.reverse.take i).foldl stepL bs0) [rw_.1]
      refine ⟨pa, _, pb, _, rfl, eb _ _ ha, hb, by omega, by omega, fun pc Gc _ ec hc => ?_⟩
      have e8c := e9.trans (ea.trans (eb.trans ec))
      walk_at "zr"
      refine ⟨e8.trans e8c, hi2, pc, _, _, rs ++ [p7], L ++ [s7], ?_, hL8.ext e8c, by rw [List.length_append, lL]; rfl, fun j l hl => ?_, fun q hq => (List.mem_append.mp hq).elim (nL q) (fun z => by rw [List.mem_singleton.mp z]; exact e6.back n7), rfl⟩
      · rw [fold_snoc hrw]
        exact hc
      · by_cases hj : j < L.length
        · rw [List.getElem?_append_left hj] at hl
          exact sL j l hl
        · rw [List.getElem?_append_right (by omega)] at hl
          have j0 : j - L.length = 0 := by
            have := (List.getElem?_eq_some_iff.mp hl).1
            simp at this
            omega
          rw [j0] at hl
          cases hl
          have ej : j = i + 1 := by omega
          subst ej
          unfold behind
          rw [if_pos (by omega), show B.rows.length - (i + 1) + 1 = B.rows.length - i by omega, keyR i hil]
          exact ⟨sp7, so7⟩
    · rintro ρ G6 ⟨e6, hil, r, x, y, rs, L, hr6, hL, lL, sL, nL, rfl⟩
      refine ⟨trivial, ?_⟩
      have hL3 := hL.at_
      walk_at "zr"
      intro pr G7 n7 h7
      have lr : (rowsD B.rows.reverse).length = B.rows.length := by unfold rowsD; rw [List.length_map, List.length_reverse]
      rw [lr] at lL
      refine hq pr _ _ G7 (e6.trans (h7.ext n7)) (hL.rev n7 h7) ⟨by rw [List.length_reverse, lL], fun p l hl => ?_⟩ fun q hq => nL q (List.mem_reverse.mp hq)
      have hp := (List.getElem?_eq_some_iff.mp hl).1
      rw [List.length_reverse] at hp
      rw [List.getElem?_reverse hp] at hl
      have := sL _ _ hl
      rw [show B.rows.length - (L.length - 1 - p) = p by omega] at this
      exact this
end
end K24

namespace K24
open PySem PySem.Spec PyProof.Rows L2 Z
local macro_rules | `(tactic| walk_at "zr") => `(tactic| (repeat' (with_reducible first | refine r_asg ?_ | refine r_asgT ?_ | refine r_asgG ?_ | refine r_asg1 ?_ | refine r_if ?_ | refine r_if1 ?_ | refine r_drop ?_ | refine r_drop1 ?_ | refine r_ret ?_ | refine r_ret1 ?_ | refine r_retN ?_ | refine r_nx ?_ | refine r_nx1 ?_ | refine r_bk ?_ | refine r_ct ?_ | refine r_par ?_ | refine r_par1 ?_ | refine r_par3 ?_ | refine r_par31 ?_ | refine r_for ?_ | refine r_for1 ?_ | refine r_sfld ?_ | refine r_sfld1 ?_ | refine r_aug (by with_unfolding_all rfl) ?_ | refine r_aug1 (by with_unfolding_all rfl) ?_ | refine r_var (by with_unfolding_all rfl) ?_ | refine r_c ?_ | refine r_op ?_ | refine r_ifE ?_ | refine r_nil ?_ | refine r_cons ?_ | refine r_tup ?_ | refine r_lst ?_ | refine r_cb ?_ | refine r_call ?_ | refine r_test ?_ | refine r_not ?_ | refine r_and ?_ | refine r_or ?_ | refine r_andV ?_ | refine r_orV ?_ | refine r_notV ?_ | refine r_neg ?_ | refine r_bm ?_ | refine r_bm0 ?_ | refine r_sl ?_ | refine r_part ?_ | refine r_noP ?_ | refine r_chain ?_ | refine r_int2 ?_ | refine r_eqI ?_ | refine r_eqS ?_ | refine r_eqB ?_ | refine r_fInt ?_ | refine r_fIntB ?_ | refine r_fAbs ?_ | refine r_fMin ?_ | refine r_lenT ?_ | refine r_isNN ?_ | refine r_isNI ?_ | refine r_isNT ?_ | refine r_isNR ?_ | refine r_ixT0 ?_ | refine r_ixT1 ?_ | refine r_ixT2 ?_ | refine r_ixT3 ?_ | refine r_fld ?_ | refine r_kfld (by assumption) rfl ?_ | refine r_list ?_ | refine r_klist (by assumption) ?_ | refine r_tupI ?_ | refine r_ktupI ?_ | refine r_yes ?_ | refine r_kctI ?_ | refine r_rng1 ?_ | refine r_rng2 ?_ | refine r_enum ?_ | refine r_kenumT ?_ | refine r_kenum (by assumption) ?_ | refine r_fListT ?_ | refine r_fTupT ?_ | refine r_fListR (by assumption) ?_ | refine r_fTupR (by assumption) ?_ | refine r_lenR (by assumption) ?_ | refine r_rev ?_ | refine r_krevT ?_ | refine r_krev (by assumption) ?_ | refine r_setL ?_ | refine r_dget ?_ | refine r_lc0 ?_ | refine r_name ?_ | refine r_gtup (by with_unfolding_all rfl) ?_ | refine r_gcons ?_ | refine r_gnil ?_ | refine r_din ?_ | refine r_setd ?_ | refine r_ksetdA (by assumption) ?_ | refine r_keysI ?_ | refine r_kkeysI (by assumption) ?_ | refine r_dput ?_ | refine r_dput1 ?_ | refine r_dnewK ?_ | refine r_szc (by with_unfolding_all exact Nat.le_of_ble_eq_true rfl) ?_ | refine r_eqlen (by with_unfolding_all rfl) ?_ | refine r_ifT (by decide) ?_ | refine r_ifF (by decide) ?_ | refine r_inFT (b := false) rfl rfl (by decide) ?_ | refine r_inFT (b := true) rfl rfl (by decide) ?_ | refine r_lrng ?_)))
def spLiveIns (CB CG : Addr) : ZSp := fun ds G Q _ => ∃ (a : Addr) (ps : Vs) (bs : List Addr) (g : Gr), ds = [.ref a] ∧ GrAt CB CG G a ps bs g ∧ GOk ps g ∧ ∀ p qs F G', Ext G G' → FndAt G' p qs F → Fixed g F → Q (.ref p) G'
theorem rng_rev {n i : Nat} {d : D} (h : (rngD 0 n).reverse[i]? = some d) : i < n ∧ d = iD (n - 1 - i) := by
  letI : Tbl := ⟨[]⟩
  letI : Bas := noBas
  have hi := (List.getElem?_eq_some_iff.mp h).1
  rw [List.length_reverse, rngD_len] at hi
  rw [List.getElem?_reverse (by rw [rngD_len]; exact hi), rngD_len] at h
  unfold rngD at h
  rw [List.getElem?_map, List.getElem?_range (by omega)] at h
  cases h
  exact ⟨hi, by simp⟩
theorem Grow.few {ps : Vs} {g : Gr} {F : Fnd} (h : Grow g F) (ok : GOk ps g) (t : Nat) : (F.getD t []).length ≤ 60 := by
  cases hB : g[t]? with
  | none =>
    have : F.getD t [] = [] := by
      rw [List.getD_eq_getElem?_getD, List.getElem?_eq_none (by rw [h.len]; exact List.getElem?_eq_none_iff.mp hB)]
      rfl
    rw [this]
    simp
  | some B => exact ok.few_of (h.ord t).2 fun x hx => ok.live_mem (h.live t B hB x hx).2
theorem Grow.size {ps : Vs} {g : Gr} {F : Fnd} (h : Grow g F) (ok : GOk ps g) : size F ≤ 480 := by
  have h1 := size_le (F := F) (N := 60) fun l hl => by
    obtain ⟨i, hi, e⟩ := List.getElem_of_mem hl
    have := h.few ok i
    rw [getD_eq (List.getElem?_eq_getElem hi), e] at this
    exact this
  have h2 := h.len
  have h3 := ok.len
  have : F.length * 60 ≤ 8 * 60 := Nat.mul_le_mul_right _ (by omega)
  omega
/-- one round over the blocks, from the last on: k are done -/
structure Round (g : Gr) (F0 F : Fnd) (c : Bool) (k : Nat) : Prop where
  grow : Grow g F
  more : c = true → size F0 < size F
  same : c = false → F = F0 ∧ ∀ (b : Nat) (B : Blk), g.length - k ≤ b → g[b]? = some B → Sorted (turnOf F0 B) (F0.getD b [])
section
variable [τ : Tbl] {P : Program} {w : World} {K : PySem.W.Frag} {mg : Str → Option Value} {base : Heap} {CB CG aA : Addr} {eA : Array DictEntry} {nA : Nat}
theorem ok_LiveIns {f : Addr} {fd : FuncData} (FF : Fun K "live_ins" "live_ins" s_live_ins f fd) (T : Txt K w mg CB CG aA eA nA) (D_without : Dfn P w K mg base "without" 1 ["names", "gone"] spWithout)
    (D_live_before : Dfn P w K mg base "live_before" 3 ["block", "after"] (spLiveBefore CB)) (D_live_after : Dfn P w K mg base "live_after" 2 ["graph", "found", "block"] (spLiveAfter CB CG)) :
    FnOk P w K mg base (L2.CX P w) 4 f fd ["graph"] (upSp K (spLiveIns CB CG)) :=
  z_fn FF sc_live_ins (fun ds G Q E h => by obtain ⟨_, _, _, _, rfl, _⟩ := h; rfl) fun bas cdv A outer s H E hr ds G Q E0 hE hz => by
    obtain ⟨a, ps, bs, g, rfl, hg, ok, hq⟩ := hz
    refine ⟨_, (zs_cons (z_setLc (own := [("block", 1)]) (i := 2) rfl sc_live_ins.nd rfl rfl (by rfl) (zi_tup (z_fld T.c_Graph T.n_Graph_blocks (z_var 0))) (blkOk_by (by rfl)) (grel_name (by decide)) (fun _ _ _ _ _ => (pg_name (i := 1) sc_live_ins.nd rfl (Or.inl rfl))) (fun _ _ _ _ _ => zts_nil) (fun _ _ _ _ _ => (z_lst za_nil))) (zs_cons (z_set (i := 3) sc_live_ins.nd rfl (Or.inl rfl) z_bl) (zs_cons (z_while (passes_of (by rfl)) (z_val (z_var 3)) (zs_cons (z_set (i := 3) sc_live_ins.nd rfl (Or.inl rfl) z_bl) (zs_cons (z_for (passes_of (by rfl)) rfl (zi_list (z_rev (z_lRng (by rfl) T.z_list (by rfl) T.z_range (z_callB zf_len (by rfl) T.z_len (by rfl) (za_cons (z_fld T.c_Graph T.n_Graph_blocks (z_var 0)) za_nil))))) (zg_name (i := 4) sc_live_ins.nd rfl (Or.inl rfl)) (zs_cons (z_set (i := 1) sc_live_ins.nd rfl (Or.inl rfl) (z_ix (z_fld T.c_Graph T.n_Graph_blocks (z_var 0)) (z_var 4))) (zs_cons (z_set (i := 5) sc_live_ins.nd rfl (Or.inl rfl) (z_dc0 D_without hr (by decide) (by rfl) (za_cons (z_dc0 D_live_before hr (by decide) (by rfl) (za_cons (z_var 1) (za_cons (z_dc0 D_live_after hr (by decide) (by rfl) (za_cons (z_var 0) (za_cons (z_var 2) (za_cons (z_var 1) za_nil)))) za_nil))) (za_cons (z_fld T.c_Block T.n_Block_params (z_var 1)) za_nil)))) (zs_cons (z_if (z_tcmp (zo_neP hr.units) (z_callB zf_sortI (by rfl) T.z_sorted (by decide +kernel) (za_cons (z_var 5) za_nil)) (z_ix (z_var 2) (z_var 4))) (zs_cons (z_asg (z_callB zf_sortI (by rfl) T.z_sorted (by decide +kernel) (za_cons (z_var 5) za_nil)) (zg_setL (z_var 2) (z_var 4))) (zs_cons (z_set (i := 3) sc_live_ins.nd rfl (Or.inl rfl) z_bl) zs_nil)) zs_nil) zs_nil)))) zs_nil))) (zs_cons (z_ret (z_var 2)) zs_nil)))), ?_⟩
    obtain ⟨dg, hga⟩ := hg.at_
    walk_at "zr"
    have gl := ok.len
    refine ⟨fun i acc G2 => Ext G G2 ∧ ∃ qs : List Addr, acc = qs.map D.ref ∧ qs.length = i ∧ i ≤ g.length ∧ ∀ q ∈ qs, G2 q = some (.lst []), ⟨Ext.refl G, [], rfl, rfl, Nat.zero_le _, fun q h => by cases h⟩, ?_, ?_⟩
    · rintro i d acc G2 hi ⟨e2, qs, rfl, lq, hil, hqs⟩
      have hi2 := (List.getElem?_eq_some_iff.mp hi).1
      rw [List.length_map, hg.len] at hi2
      refine ⟨trivial, big_lt (by rw [List.length_map]; omega), ?_⟩
      walk_at "zr"
      intro p G3 n3 h3
      refine ⟨e2.trans (h3.ext n3), qs ++ [p], by simp, by simp [lq], hi2, fun q hq => ?_⟩
      rcases List.mem_append.mp hq with hq | hq
      · exact h3.ext n3 _ _ (hqs q hq)
      · rw [List.mem_singleton.mp hq]; exact h3.is
    · rintro acc G2 ⟨e2, qs, rfl, lq, hil, hqs⟩
      rw [List.length_map, hg.len] at lq
      refine ⟨trivial, fun p G3 n3 h3 => ?_⟩
      have npG := e2.back n3
      have e3 := h3.ext n3
      have hF3 : FndAt G3 p qs (g.map fun _ => []) := ⟨h3.is, by rw [List.length_map]; exact lq, fun i q l hq hl => by
        rw [List.getElem?_map] at hl
        cases hgi : g[i]? with
        | none => rw [hgi] at hl; cases hl
        | some B =>
          rw [hgi] at hl
          cases hl
          exact e3 _ _ (hqs q (List.mem_of_getElem? hq)), fun q hq => by
        rintro rfl
        have := hqs q hq
        rw [n3] at this
        cases this⟩
      walk_at "zr"
      have few0 : ∀ {F : Fnd}, Grow g F → size F ≤ 480 := fun h => h.size ok
      refine r_while ⟨fun m ρ G4 => ∃ (F : Fnd) (qs : List Addr) (c : Bool) (x y z : Option D), Ext G G4 ∧ FndAt G4 p qs F ∧ Grow g F ∧ m + size F = 480 + (if c = true then 1 else 0) ∧ (c = false → Fixed g F) ∧ ρ = [some (.ref a), x, some (.ref p), some (.bl c), y, z], ⟨481 - size (g.map fun _ => []), g.map fun _ => [], qs, true, _, _, _, e2.trans e3, hF3, Grow.init, by have := few0 (Grow.init (g := g)); simp; omega, fun h => (by cases h), rfl⟩, ?_⟩
      rintro m ρ G4 ⟨F0, qs0, c, x, y, z, e4, hF4, gr0, hm, hfix, rfl⟩
      walk_at "zr"
      cases c with
      | false =>
        walk_at "zr"
        exact hq p qs0 F0 G4 e4 hF4 (hfix rfl)
      | true =>
        have hga4 := e4 _ _ hga
        walk_at "zr"
        have h0 : m + size F0 = 481 := by simpa using hm
        rw [List.length_map, hg.len]
        refine ⟨RgOk.of_le (by omega) (by omega) (by omega) (by omega), fun p5 G5 n5 h5 => ?_⟩
        rw [Int.toNat_natCast] at h5
        have e5 := h5.ext n5
        have h5i := h5.is
        walk_at "zr"
        intro p6 G6 n6 h6
        have e6 := h6.ext n6
        have h6i := h6.is
        have e46 := e5.trans e6
        have p6n : ∀ {r : Addr}, G4 r ≠ none → r ≠ p6 := fun {r} hr z => by
          rw [z] at hr
          exact hr (e5.back n6)
        have pp6 : p ≠ p6 := p6n (by rw [hF4.at_]; exact fun z => nomatch z)
        walk_at "zr"
        refine ⟨fun k ρ G7 => ∃ (F : Fnd) (qs : List Addr) (c : Bool) (x y z : Option D), Ext G G7 ∧ FndAt G7 p qs F ∧ Round g F0 F c k ∧ k ≤ g.length ∧ G7 p6 = some (.lst (rngD 0 g.length).reverse) ∧ ρ = [some (.ref a), x, some (.ref p), some (.bl c), y, z], ⟨F0, qs0, false, _, _, _, e4.trans e46, hF4.ext e46, ⟨gr0, fun h => (by cases h), fun _ => ⟨rfl, fun b B hb hB => ?_⟩⟩, Nat.zero_le _, h6i, rfl⟩, ?_, ?_⟩
        · have := (List.getElem?_eq_some_iff.mp hB).1
          omega
        · rintro k d ρ G7 hk ⟨F, qs, c, x, y, z, e7, hF7, rd, hkl, h67, rfl⟩
          refine ⟨h67, ?_⟩
          obtain ⟨hk1, rfl⟩ := rng_rev hk
          have hn : g.length - 1 - k < g.length := by omega
          generalize hnum : g.length - 1 - k = num at hn
          have hB : g[num]? = some g[num] := List.getElem?_eq_getElem hn
          generalize g[num] = B at hB
          have mB := List.mem_of_getElem? hB
          obtain ⟨b, hb, hbk⟩ := hg.get hB
          have hbk7 := hbk.ext e7
          have hga7 := e7 _ _ hga
          have hix : (bs.map D.ref)[num]? = some (.ref b) := by rw [List.getElem?_map, hb]; rfl
          walk_at "zr"
          refine r_ixT hix ?_
          walk_at "zr"
          have few := rd.grow.few ok
          have lenF := rd.grow.len
          refine ⟨a, p, b, qs, F, B, rfl, hF7, hbk7, fun t ht => by rw [lenF]; exact ok.lt num B hB t ht, ok.tl B mB, few, fun p8 G8 e8 h8 => ?_⟩
          have fl := foldU_len few (succ B.en) []
          have sl := succ_len (e := B.en)
          have tl := ok.tl B mB
          have al : (afterOf F B.en).length ≤ 180 := Nat.le_trans fl (by simp; omega)
          refine ⟨b, p8, B, _, rfl, hbk7.ext e8, h8, by omega, by have := ok.rl B mB; omega, ok.al B mB, fun p9 G9 e9 h9 => ?_⟩
          obtain ⟨dx, hb9⟩ := (hbk7.ext e8).ext e9
          walk_at "zr"
          have lb : (liveB B (afterOf F B.en)).length ≤ 1000 := by
            rw [liveB_eq, liveR_fold]
            have h1 := foldL_len B.rows.reverse (united (afterOf F B.en) (names_in B.en.atoms))
            have h2 := len_united (afterOf F B.en) (names_in B.en.atoms)
            have h3 := names_len B.en.atoms
            have h4 := ok.rl B mB
            have h5 := ok.al B mB
            rw [List.length_reverse] at h1
            omega
          refine ⟨p9, _, _, B.params, rfl, h9, .inl rfl, by omega, fun pa Ga ea ha => ?_⟩
          have ha' : Ga pa = some (.lst (intsD (turnOf F B))) := ha
          walk_at "zr"
          refine r_sortI ha' fun s1 pb Gb sp1 so1 nb hb1 => ?_
          have e7b := e8.trans (e9.trans (ea.trans (hb1.ext nb)))
          have hFb := hF7.ext e7b
          have hnF : num < F.length := by rw [lenF]; exact hn
          obtain ⟨q, hq1, hq2, hq3⟩ := hFb.get (List.getElem?_eq_getElem hnF)
          generalize hl : F[num] = l at hq3
          have hl2 : F[num]? = some l := by rw [List.getElem?_eq_getElem hnF, hl]
          have S1 : Sorted (turnOf F B) s1 := ⟨sp1, so1⟩
          have og := rd.grow.ord num
          rw [getD_eq hl2] at og
          walk_at "zr"
          refine r_ixR hFb.at_ hq1 ?_
          refine r_eqLI hb1.is hq3 fun cc hcc => ?_
          walk_at "zr"
          refine r_niff hcc (fun hsame => ?_) fun hdiff => ?_
          · walk_at "zr"
            refine ⟨F, qs, c, _, _, _, e7.trans e7b, hFb, ⟨rd.grow, rd.more, fun hc => ?_⟩, hk1, ?_, rfl⟩
            · obtain ⟨eF, hdone⟩ := rd.same hc
              refine ⟨eF, fun b' B' hb' hB' => ?_⟩
              by_cases e : b' = num
              · subst e
                rw [hB] at hB'
                cases hB'
                subst eF
                rw [getD_eq hl2, ← hsame]
                exact S1
              · exact hdone b' B' (by omega) hB'
            · exact e7b _ _ h67
          · have hab := (hb1.ext nb) _ _ ha'
            walk_at "zr"
            refine r_sortI hab fun s2 pc Gc sp2 so2 nc hc2 => ?_
            have S2 : Sorted (turnOf F B) s2 := ⟨sp2, so2⟩
            have s12 : s2 = s1 := S2.eq_of nodup_turnOf so1 (S1.nodup nodup_turnOf) fun x => S1.mem.symm
            have e7c := e7b.trans (hc2.ext nc)
            have hFc := hF7.ext e7c
            walk_at "zr"
            refine r_ksetL hFc.at_ (by rw [List.length_map, hFc.len]; exact hnF) fun Gd hd => ?_
            have npc : pc ≠ p := by
              rintro rfl
              have := hFb.at_
              rw [nc] at this
              cases this
            have hFd := hFc.set hc2.is npc hd
            walk_at "zr"
            have npp : G p = none := npG
            refine ⟨F.set num s2, qs.set num pc, true, _, _, _, ext_set (e7.trans e7c) npG hd, hFd, ⟨rd.grow.set hB S2, fun _ => ?_, fun h => (by cases h)⟩, hk1, ?_, rfl⟩
            · have lt := rd.grow.more hB hl2 S2 (by rw [s12]; exact hdiff)
              cases c with
              | true => have := rd.more rfl; omega
              | false =>
                obtain ⟨eF, _⟩ := rd.same rfl
                have e0 : size F0 = size F := by rw [eF]
                rw [e0]
                exact lt
            · rw [hd.other p6 (Ne.symm pp6)]
              exact e7c _ _ h67
        · rintro ρ G7 ⟨F, qs, c, x, y, z, e7, hF7, rd, hkl, h67, rfl⟩
          refine ⟨h67, ?_⟩
          rw [List.length_reverse, rngD_len] at rd
          have sz := few0 rd.grow
          cases c with
          | true =>
            have hmore := rd.more rfl
            exact ⟨481 - size F, by omega, F, qs, true, _, _, _, e7, hF7, rd.grow, by simp; omega, fun h => (by cases h), rfl⟩
          | false =>
            obtain ⟨eF, hdone⟩ := rd.same rfl
            subst eF
            exact ⟨480 - size F, by omega, F, qs, false, _, _, _, e7, hF7, rd.grow, by simp; omega, fun _ => rd.grow.fixed fun b B hB => hdone b B (by omega) hB, rfl⟩
end
end K24

namespace K24
open PySem PySem.Spec PyProof.Rows L2 Z
local macro_rules | `(tactic| walk_at "zr") => `(tactic| (repeat' (with_reducible first | refine r_asg ?_ | refine r_asgT ?_ | refine r_asgG ?_ | refine r_asg1 ?_ | refine r_if ?_ | refine r_if1 ?_ | refine r_drop ?_ | refine r_drop1 ?_ | refine r_ret ?_ | refine r_ret1 ?_ | refine r_retN ?_ | refine r_nx ?_ | refine r_nx1 ?_ | refine r_bk ?_ | refine r_ct ?_ | refine r_par ?_ | refine r_par1 ?_ | refine r_par3 ?_ | refine r_par31 ?_ | refine r_for ?_ | refine r_for1 ?_ | refine r_sfld ?_ | refine r_sfld1 ?_ | refine r_aug (by with_unfolding_all rfl) ?_ | refine r_aug1 (by with_unfolding_all rfl) ?_ | refine r_var (by with_unfolding_all rfl) ?_ | refine r_c ?_ | refine r_op ?_ | refine r_ifE ?_ | refine r_nil ?_ | refine r_cons ?_ | refine r_tup ?_ | refine r_lst ?_ | refine r_cb ?_ | refine r_call ?_ | refine r_test ?_ | refine r_not ?_ | refine r_and ?_ | refine r_or ?_ | refine r_andV ?_ | refine r_orV ?_ | refine r_notV ?_ | refine r_neg ?_ | refine r_bm ?_ | refine r_bm0 ?_ | refine r_sl ?_ | refine r_part ?_ | refine r_noP ?_ | refine r_chain ?_ | refine r_int2 ?_ | refine r_eqI ?_ | refine r_eqS ?_ | refine r_eqB ?_ | refine r_fInt ?_ | refine r_fIntB ?_ | refine r_fAbs ?_ | refine r_fMin ?_ | refine r_lenT ?_ | refine r_isNN ?_ | refine r_isNI ?_ | refine r_isNT ?_ | refine r_isNR ?_ | refine r_ixT0 ?_ | refine r_ixT1 ?_ | refine r_ixT2 ?_ | refine r_ixT3 ?_ | refine r_fld ?_ | refine r_kfld (by assumption) rfl ?_ | refine r_list ?_ | refine r_klist (by assumption) ?_ | refine r_tupI ?_ | refine r_ktupI ?_ | refine r_yes ?_ | refine r_kctI ?_ | refine r_rng1 ?_ | refine r_rng2 ?_ | refine r_enum ?_ | refine r_kenumT ?_ | refine r_kenum (by assumption) ?_ | refine r_fListT ?_ | refine r_fTupT ?_ | refine r_fListR (by assumption) ?_ | refine r_fTupR (by assumption) ?_ | refine r_lenR (by assumption) ?_ | refine r_rev ?_ | refine r_krevT ?_ | refine r_krev (by assumption) ?_ | refine r_setL ?_ | refine r_dget ?_ | refine r_lc0 ?_ | refine r_name ?_ | refine r_gtup (by with_unfolding_all rfl) ?_ | refine r_gcons ?_ | refine r_gnil ?_ | refine r_din ?_ | refine r_setd ?_ | refine r_ksetdA (by assumption) ?_ | refine r_keysI ?_ | refine r_kkeysI (by assumption) ?_ | refine r_dput ?_ | refine r_dput1 ?_ | refine r_dnewK ?_ | refine r_szc (by with_unfolding_all exact Nat.le_of_ble_eq_true rfl) ?_ | refine r_eqlen (by with_unfolding_all rfl) ?_ | refine r_ifT (by decide) ?_ | refine r_ifF (by decide) ?_ | refine r_inFT (b := false) rfl rfl (by decide) ?_ | refine r_inFT (b := true) rfl rfl (by decide) ?_ | refine r_lrng ?_)))
/-! ### tables in the heap -/
def tabD (t : T3 Addr) : List (Key × D) := t.map fun e => (Sum.inl e.1, .ref e.2.1)
structure TabAt (G : Gp) (a : Addr) (t : T3 Addr) : Prop where
  at_ : G a = some (.dk (tabD t))
  row : ∀ e ∈ t, G e.2.1 = some (.lst (intsD e.2.2))
  nod : (adr t).Nodup
  ne : a ∉ adr t
theorem nodup_inj {α β : Type} {f : α → β} : ∀ {l : List α}, (l.map f).Nodup → ∀ {x y : α}, x ∈ l → y ∈ l → f x = f y → x = y
  | a :: l, h, x, y, hx, hy, e => by
    rw [List.map_cons, List.nodup_cons] at h
    rcases List.mem_cons.mp hx with ex | hx'
    · rcases List.mem_cons.mp hy with ey | hy'
      · rw [ex, ey]
      · exact absurd (List.mem_map.mpr ⟨y, hy', by rw [← e, ex]⟩) h.1
    · rcases List.mem_cons.mp hy with ey | hy'
      · exact absurd (List.mem_map.mpr ⟨x, hx', by rw [e, ey]⟩) h.1
      · exact nodup_inj h.2 hx' hy' e
theorem tab_val (t : T3 Addr) (x : Int) : valD (tabD t) (Sum.inl x) = (t.find? fun e => decide (e.1 = x)).map fun e => D.ref e.2.1 := by
  unfold valD tabD
  rw [List.find?_map]
  have : ((fun kv : Key × D => decide (kv.1 = Sum.inl x)) ∘ fun e : Int × Addr × Vs => (Sum.inl e.1, D.ref e.2.1)) = fun e => decide (e.1 = x) := by
    funext e
    show decide ((Sum.inl e.1 : Key) = Sum.inl x) = _
    rw [decide_eq_decide]
    exact ⟨fun h => Sum.inl.inj h, fun h => by rw [h]⟩
  rw [this, Option.map_map]
  rfl
theorem tab_some {t : T3 Addr} {x : Int} (h : x ∈ keys t) : ∃ p, valD (tabD t) (Sum.inl x) = some (.ref p) ∧ (x, p, getv t x) ∈ t := by
  obtain ⟨p, h1, h2⟩ := find_key h
  exact ⟨p, by rw [tab_val, h1]; rfl, h2⟩
theorem tab_none {t : T3 Addr} {x : Int} (h : x ∉ keys t) : valD (tabD t) (Sum.inl x) = none := by
  rw [tab_val]
  have : (t.find? fun e => decide (e.1 = x)) = none := by
    rw [List.find?_eq_none]
    intro e he z
    exact h (List.mem_map.mpr ⟨e, he, by simpa using z⟩)
  rw [this]
  rfl
theorem tab_put {t : T3 Addr} {x : Int} {p : Addr} (h : x ∉ keys t) : putD (tabD t) (Sum.inl x) (.ref p) = tabD (t ++ [(x, p, [])]) := by
  unfold putD
  have : ((tabD t).any fun kv => decide (kv.1 = Sum.inl x)) = false := by
    rw [List.any_eq_false]
    intro kv hk
    obtain ⟨e, he, rfl⟩ := List.mem_map.mp hk
    intro z
    exact h (List.mem_map.mpr ⟨e, he, Sum.inl.inj (of_decide_eq_true z)⟩)
  rw [this]
  simp only [Bool.false_eq_true, if_false]
  unfold tabD
  simp
theorem TabAt.ext {G G' : Gp} {a : Addr} {t : T3 Addr} (h : TabAt G a t) (e : Ext G G') : TabAt G' a t := ⟨e _ _ h.at_, fun x hx => e _ _ (h.row x hx), h.nod, h.ne⟩
theorem TabAt.there {G : Gp} {a p : Addr} {t : T3 Addr} (h : TabAt G a t) (hp : p ∈ adr t) : ∃ l, G p = some (.lst (intsD l)) := by
  obtain ⟨e, he, rfl⟩ := List.mem_map.mp hp
  exact ⟨_, h.row e he⟩
theorem TabAt.new {G G' : Gp} {a p : Addr} {t : T3 Addr} {k : Int} (h : TabAt G a t) (hp : G p = some (.lst (intsD []))) (n1 : p ∉ adr t) (n2 : p ≠ a) (at_ : At G a (.dk (tabD (t ++ [(k, p, [])]))) G') : TabAt G' a (t ++ [(k, p, [])]) := by
  refine ⟨at_.is, fun e he => ?_, ?_, ?_⟩
  · rcases List.mem_append.mp he with he | he
    · rw [at_.other _ (fun z => h.ne (by rw [← z]; exact List.mem_map.mpr ⟨e, he, rfl⟩))]
      exact h.row e he
    · rw [List.mem_singleton.mp he]
      show G' p = _
      rw [at_.other p n2]
      exact hp
  · unfold adr at *
    rw [List.map_append, List.nodup_append]
    exact ⟨h.nod, by simp, fun x hx y hy => by
      rw [List.map_cons, List.map_nil] at hy
      rw [List.mem_singleton.mp hy]
      rintro rfl
      exact n1 hx⟩
  · unfold adr at *
    rw [List.map_append, List.mem_append]
    rintro (z | z)
    · exact h.ne z
    · rw [List.map_cons, List.map_nil] at z
      exact n2 (List.mem_singleton.mp z).symm
theorem TabAt.app {G G' : Gp} {a p : Addr} {t : T3 Addr} {k v : Int} (h : TabAt G a t) (nk : (keys t).Nodup) (hp : (k, p, getv t k) ∈ t) (at_ : At G p (.lst (intsD (getv t k ++ [v]))) G') : TabAt G' a (app t k v none) := by
  have hpm : p ∈ adr t := List.mem_map.mpr ⟨_, hp, rfl⟩
  have ap : a ≠ p := fun z => h.ne (by rw [z]; exact hpm)
  refine ⟨?_, fun e he => ?_, by rw [adr_app]; exact h.nod, by rw [adr_app]; exact h.ne⟩
  · rw [at_.other a ap, h.at_]
    congr 2
    unfold tabD K24.app
    rw [List.map_map]
    exact List.map_congr_left fun e _ => by
      show _ = ((Sum.inl (if e.1 = k then (e.1, e.2.1, e.2.2 ++ [v]) else e).1 : Key), D.ref (if e.1 = k then (e.1, e.2.1, e.2.2 ++ [v]) else e).2.1)
      split <;> rfl
  · unfold K24.app at he
    obtain ⟨f, hf, rfl⟩ := List.mem_map.mp he
    have gf := getv_mem nk hf
    split
    · rename_i e
      subst e
      have : f.2.1 = p := by
        have := nodup_inj (f := fun e : Int × Addr × Vs => e.1) nk hf hp rfl
        rw [this]
      show G' f.2.1 = some (.lst (intsD (f.2.2 ++ [v])))
      rw [this, ← gf]
      exact at_.is
    · rename_i e
      have : f.2.1 ≠ p := by
        intro z
        have := nodup_inj (f := fun e : Int × Addr × Vs => e.2.1) h.nod hf hp z
        rw [this] at e
        exact e rfl
      rw [at_.other _ this]
      exact h.row f hf
/-- all but some addresses are as they were -/
def Keep (S : List Addr) (G G' : Gp) : Prop := ∀ b x, b ∉ S → G b = some x → G' b = some x
theorem Keep.refl (S : List Addr) (G : Gp) : Keep S G G := fun _ _ _ h => h
theorem Keep.ext {S : List Addr} {G G1 G2 : Gp} (h : Keep S G G1) (e : Ext G1 G2) : Keep S G G2 := fun b x n q => e b x (h b x n q)
theorem Keep.at_ {S : List Addr} {G G1 G2 : Gp} {p : Addr} {m : MO} (h : Keep S G G1) (k : At G1 p m G2) (hp : p ∈ S ∨ G p = none) : Keep S G G2 := fun b x n q => by
  rw [k.other b (by
    rintro rfl
    rcases hp with hp | hp
    · exact n hp
    · rw [hp] at q; cases q)]
  exact h b x n q
/-- what a table's step keeps -/
structure Grew (S : Vs) (t : T3 Addr) (R : Int → Int → Prop) (a : Addr) (t0 : T3 Addr) (G0 G : Gp) : Prop where
  tab : TabAt G a t
  tb : Tb t R
  sub : ∀ x ∈ keys t, x ∈ S
  rsub : ∀ x y, R x y → y ∈ S
  keep : Keep (a :: adr t0) G0 G
  fresh : ∀ p ∈ adr t, p ∈ adr t0 ∨ G0 p = none
theorem Grew.row_len {S : Vs} {t t0 : T3 Addr} {R : Int → Int → Prop} {a : Addr} {G0 G : Gp} (h : Grew S t R a t0 G0 G) (x : Int) : (getv t x).length ≤ S.length := length_le (h.tb.rows x) fun y hy => h.rsub x y ((h.tb.mem x y).mp hy)
theorem Grew.len {S : Vs} {t t0 : T3 Addr} {R : Int → Int → Prop} {a : Addr} {G0 G : Gp} (h : Grew S t R a t0 G0 G) : t.length ≤ S.length := by
  have := length_le h.tb.nod h.sub
  unfold keys at this
  rw [List.length_map] at this
  exact this
theorem Grew.congr {S : Vs} {t t0 : T3 Addr} {R R' : Int → Int → Prop} {a : Addr} {G0 G : Gp} (h : Grew S t R a t0 G0 G) (e : ∀ x y, R x y ↔ R' x y) : Grew S t R' a t0 G0 G := ⟨h.tab, h.tb.congr e, h.sub, fun x y r => h.rsub x y ((e x y).mpr r), h.keep, h.fresh⟩
theorem Grew.trans {S : Vs} {t t1 t0 : T3 Addr} {R R1 : Int → Int → Prop} {a : Addr} {G0 G1 G : Gp} (h0 : Grew S t1 R1 a t0 G0 G1) (h : Grew S t R a t1 G1 G) : Grew S t R a t0 G0 G := by
  refine ⟨h.tab, h.tb, h.sub, h.rsub, fun b x n q => ?_, fun p hp => ?_⟩
  · refine h.keep b x (fun m => ?_) (h0.keep b x n q)
    rcases List.mem_cons.mp m with rfl | m
    · exact n List.mem_cons_self
    · rcases h0.fresh b m with f | f
      · exact n (List.mem_cons_of_mem _ f)
      · rw [f] at q; cases q
  · rcases h.fresh p hp with f | f
    · exact h0.fresh p f
    · cases e : G0 p with
      | none => exact .inr rfl
      | some m =>
        by_cases hm : p ∈ a :: adr t0
        · rcases List.mem_cons.mp hm with rfl | hm
          · exfalso
            rw [h0.tab.at_] at f
            cases f
          · exact .inl hm
        · have := h0.keep p m hm e
          rw [f] at this
          cases this
theorem Grew.ext {S : Vs} {t t0 : T3 Addr} {R : Int → Int → Prop} {a : Addr} {G0 G G' : Gp} (h : Grew S t R a t0 G0 G) (e : Ext G G') : Grew S t R a t0 G0 G' := ⟨h.tab.ext e, h.tb, h.sub, h.rsub, h.keep.ext e, h.fresh⟩
/-- a new row -/
theorem Grew.new {S : Vs} {t t0 : T3 Addr} {R : Int → Int → Prop} {a p : Addr} {G0 G G1 G2 : Gp} {k : Int} (h : Grew S t R a t0 G0 G) (hk : k ∉ keys t) (hS : k ∈ S) (np : G p = none) (h1 : At G p (.lst []) G1) (h2 : At G1 a (.dk (tabD (t ++ [(k, p, [])]))) G2) : Grew S (t ++ [(k, p, [])]) R a t0 G0 G2 := by
  have e1 := h1.ext np
  have T1 := h.tab.ext e1
  have n1 : p ∉ adr t := fun z => by
    obtain ⟨l, hl⟩ := h.tab.there z
    rw [np] at hl
    cases hl
  have n2 : p ≠ a := fun z => by
    have := h.tab.at_
    rw [← z, np] at this
    cases this
  have sd : setd t k p = t ++ [(k, p, [])] := by unfold setd; rw [if_neg hk]
  have np0 : p ∈ a :: adr t0 ∨ G0 p = none := by
    cases e : G0 p with
    | none => exact .inr rfl
    | some m =>
      by_cases hm : p ∈ a :: adr t0
      · exact .inl hm
      · have := h.keep p m hm e
        rw [np] at this
        cases this
  refine ⟨T1.new h1.is n1 n2 h2, by rw [← sd]; exact h.tb.setd k p, fun x hx => ?_, h.rsub, (h.keep.ext e1).at_ h2 (.inl List.mem_cons_self), fun q hq => ?_⟩
  · rw [← sd, mem_keys_setd] at hx
    rcases hx with hx | rfl
    · exact h.sub x hx
    · exact hS
  · unfold adr at hq
    rw [List.map_append, List.mem_append] at hq
    rcases hq with hq | hq
    · exact h.fresh q hq
    · rw [List.map_cons, List.map_nil] at hq
      rw [List.mem_singleton.mp hq]
      rcases np0 with m | m
      · rcases List.mem_cons.mp m with z | z
        · exact absurd z n2
        · exact .inl z
      · exact .inr m
/-- two rows become longer -/
theorem Grew.join {S : Vs} {t t0 : T3 Addr} {R : Int → Int → Prop} {a p q : Addr} {G0 G G1 G2 : Gp} {n o : Int} (h : Grew S t R a t0 G0 G) (hn : n ∈ keys t) (ho : o ∈ keys t) (hno : o ≠ n) (hm : o ∉ getv t n) (hp : (n, p, getv t n) ∈ t) (hq : (o, q, getv t o) ∈ t)
    (h1 : At G p (.lst (intsD (getv t n ++ [o]))) G1) (h2 : At G1 q (.lst (intsD (getv t o ++ [n]))) G2) : Grew S (app (app t n o none) o n none) (With R n o) a t0 G0 G2 := by
  have T1 := h.tab.app h.tb.nod hp h1
  have k1 : (keys (app t n o none)).Nodup := by rw [keys_app]; exact h.tb.nod
  have g1 : getv (app t n o none) o = getv t o := by rw [getv_app hn, if_neg hno]
  have hq1 : (o, q, getv (app t n o none) o) ∈ app t n o none := by
    rw [g1]
    unfold K24.app
    exact List.mem_map.mpr ⟨_, hq, by rw [if_neg hno]⟩
  have T2 := T1.app (G' := G2) (v := n) k1 hq1 (by rw [g1]; exact h2)
  have pm : p ∈ a :: adr t0 ∨ G0 p = none := by
    rcases h.fresh p (List.mem_map.mpr ⟨_, hp, rfl⟩) with f | f
    · exact .inl (List.mem_cons_of_mem _ f)
    · exact .inr f
  have qm : q ∈ a :: adr t0 ∨ G0 q = none := by
    rcases h.fresh q (List.mem_map.mpr ⟨_, hq, rfl⟩) with f | f
    · exact .inl (List.mem_cons_of_mem _ f)
    · exact .inr f
  refine ⟨T2, h.tb.join hn ho hno hm, fun x hx => ?_, fun x y r => ?_, (h.keep.at_ h1 pm).at_ h2 qm, fun r hr => ?_⟩
  · rw [keys_app, keys_app] at hx
    exact h.sub x hx
  · rcases r with r | ⟨_, rfl⟩ | ⟨_, rfl⟩
    · exact h.rsub x y r
    · exact h.sub _ ho
    · exact h.sub _ hn
  · rw [adr_app, adr_app] at hr
    exact h.fresh r hr
end K24

namespace K24
open PySem PySem.Spec PyProof.Rows L2 Z
local macro_rules | `(tactic| walk_at "zr") => `(tactic| (repeat' (with_reducible first | refine r_asg ?_ | refine r_asgT ?_ | refine r_asgG ?_ | refine r_asg1 ?_ | refine r_if ?_ | refine r_if1 ?_ | refine r_drop ?_ | refine r_drop1 ?_ | refine r_ret ?_ | refine r_ret1 ?_ | refine r_retN ?_ | refine r_nx ?_ | refine r_nx1 ?_ | refine r_bk ?_ | refine r_ct ?_ | refine r_par ?_ | refine r_par1 ?_ | refine r_par3 ?_ | refine r_par31 ?_ | refine r_for ?_ | refine r_for1 ?_ | refine r_sfld ?_ | refine r_sfld1 ?_ | refine r_aug (by with_unfolding_all rfl) ?_ | refine r_aug1 (by with_unfolding_all rfl) ?_ | refine r_var (by with_unfolding_all rfl) ?_ | refine r_c ?_ | refine r_op ?_ | refine r_ifE ?_ | refine r_nil ?_ | refine r_cons ?_ | refine r_tup ?_ | refine r_lst ?_ | refine r_cb ?_ | refine r_call ?_ | refine r_test ?_ | refine r_not ?_ | refine r_and ?_ | refine r_or ?_ | refine r_andV ?_ | refine r_orV ?_ | refine r_notV ?_ | refine r_neg ?_ | refine r_bm ?_ | refine r_bm0 ?_ | refine r_sl ?_ | refine r_part ?_ | refine r_noP ?_ | refine r_chain ?_ | refine r_int2 ?_ | refine r_eqI ?_ | refine r_eqS ?_ | refine r_eqB ?_ | refine r_fInt ?_ | refine r_fIntB ?_ | refine r_fAbs ?_ | refine r_fMin ?_ | refine r_lenT ?_ | refine r_isNN ?_ | refine r_isNI ?_ | refine r_isNT ?_ | refine r_isNR ?_ | refine r_ixT0 ?_ | refine r_ixT1 ?_ | refine r_ixT2 ?_ | refine r_ixT3 ?_ | refine r_fld ?_ | refine r_kfld (by assumption) rfl ?_ | refine r_list ?_ | refine r_klist (by assumption) ?_ | refine r_tupI ?_ | refine r_ktupI ?_ | refine r_yes ?_ | refine r_kctI ?_ | refine r_rng1 ?_ | refine r_rng2 ?_ | refine r_enum ?_ | refine r_kenumT ?_ | refine r_kenum (by assumption) ?_ | refine r_fListT ?_ | refine r_fTupT ?_ | refine r_fListR (by assumption) ?_ | refine r_fTupR (by assumption) ?_ | refine r_lenR (by assumption) ?_ | refine r_rev ?_ | refine r_krevT ?_ | refine r_krev (by assumption) ?_ | refine r_setL ?_ | refine r_dget ?_ | refine r_lc0 ?_ | refine r_name ?_ | refine r_gtup (by with_unfolding_all rfl) ?_ | refine r_gcons ?_ | refine r_gnil ?_ | refine r_din ?_ | refine r_setd ?_ | refine r_ksetdA (by assumption) ?_ | refine r_keysI ?_ | refine r_kkeysI (by assumption) ?_ | refine r_dput ?_ | refine r_dput1 ?_ | refine r_dnewK ?_ | refine r_szc (by with_unfolding_all exact Nat.le_of_ble_eq_true rfl) ?_ | refine r_eqlen (by with_unfolding_all rfl) ?_ | refine r_ifT (by decide) ?_ | refine r_ifF (by decide) ?_ | refine r_inFT (b := false) rfl rfl (by decide) ?_ | refine r_inFT (b := true) rfl rfl (by decide) ?_ | refine r_lrng ?_)))
/-! ### the rows in their order -/
abbrev M2 := List (Int × Vs)
def er (t : T3 Addr) : M2 := t.map fun e => (e.1, e.2.2)
def getM (t : M2) (k : Int) : Vs := match t.find? fun e => decide (e.1 = k) with
  | some e => e.2
  | none => []
def setM (t : M2) (k : Int) : M2 := if k ∈ t.map (·.1) then t else t ++ [(k, [])]
def appM (t : M2) (k v : Int) : M2 := t.map fun e => if e.1 = k then (e.1, e.2 ++ [v]) else e
def stepM (n : Int) (t : M2) (o : Int) : M2 := if o = n then setM t o else if o ∈ getM (setM t o) n then setM t o else appM (appM (setM t o) n o) o n
def joinM (t : M2) (n : Int) (os : Vs) : M2 := os.foldl (stepM n) (setM t n)
def joinAM (t : M2) (os : Vs) : M2 := os.foldl (fun t x => joinM t x os) t
theorem er_keys (t : T3 Addr) : (er t).map (·.1) = keys t := by unfold er keys; rw [List.map_map]; rfl
theorem er_get (t : T3 Addr) (k : Int) : getM (er t) k = getv t k := by
  unfold getM getv er
  rw [List.find?_map]
  have : ((fun e : Int × Vs => decide (e.1 = k)) ∘ fun e : Int × Addr × Vs => (e.1, e.2.2)) = fun e => decide (e.1 = k) := rfl
  rw [this]
  cases t.find? fun e => decide (e.1 = k) <;> rfl
theorem er_app (t : T3 Addr) (k v : Int) (n : Option Addr) : er (app t k v n) = appM (er t) k v := by
  unfold er app appM
  rw [List.map_map, List.map_map]
  exact List.map_congr_left fun e _ => by
    show ((if e.1 = k then (e.1, n.getD e.2.1, e.2.2 ++ [v]) else e).1, (if e.1 = k then (e.1, n.getD e.2.1, e.2.2 ++ [v]) else e).2.2) = (if e.1 = k then (e.1, e.2.2 ++ [v]) else (e.1, e.2.2))
    split <;> rfl
def spJoinOne : ZSp := fun ds G Q _ => ∃ (a o : Addr) (n : Int) (os S : Vs) (t : T3 Addr) (R : Int → Int → Prop), ds = [.ref a, .int n, .ref o] ∧ G o = some (.lst (intsD os)) ∧ o ∉ a :: adr t ∧ n ∈ S ∧ (∀ x ∈ os, x ∈ S) ∧ S.length ≤ 1000 ∧ Grew S t R a t G G ∧
  ∀ t' G', Grew S t' (Join R n os) a t G G' → er t' = joinM (er t) n os → Q .non G'
def spJoinAll : ZSp := fun ds G Q _ => ∃ (a o : Addr) (os S : Vs) (t : T3 Addr) (R : Int → Int → Prop), ds = [.ref a, .ref o] ∧ G o = some (.lst (intsD os)) ∧ o ∉ a :: adr t ∧ (∀ x ∈ os, x ∈ S) ∧ S.length ≤ 1000 ∧ Grew S t R a t G G ∧
  ∀ t' G', Grew S t' (JoinA R os os) a t G G' → er t' = joinAM (er t) os → Q .non G'
section
variable [τ : Tbl] {P : Program} {w : World} {K : PySem.W.Frag} {mg : Str → Option Value} {base : Heap} {CB CG aA : Addr} {eA : Array DictEntry} {nA : Nat}
/-- table.setdefault(k, []) -/
theorem run_setd {S : Vs} {t t0 : T3 Addr} {R : Int → Int → Prop} {a : Addr} {G0 G : Gp} {k : Int} {Q : DK} (h : Grew S t R a t0 G0 G) (hS : k ∈ S) (hl : S.length ≤ 1000) (q : ∀ t' v G', Grew S t' R a t0 G0 G' → (∀ x, x ∈ keys t' ↔ x ∈ keys t ∨ x = k) → er t' = setM (er t) k → Q v G') :
    ∀ p G1, G p = none → At G p (.lst []) G1 → kSetdB a (.int k) (.ref p) G1 Q := fun p G1 np h1 => by
  have T1 := h.tab.ext (h1.ext np)
  have len := h.len
  refine r_ksetdB (k := Sum.inl k) T1.at_ rfl (big_lt (by unfold tabD; rw [List.length_map]; omega)) (fun v hv => ?_) fun hv G2 h2 => ?_
  · by_cases hk : k ∈ keys t
    · exact q t v G1 (h.ext (h1.ext np)) (fun x => ⟨.inl, fun z => z.elim id fun z => by rw [z]; exact hk⟩) (by unfold setM; rw [er_keys, if_pos hk])
    · rw [tab_none hk] at hv
      cases hv
  · by_cases hk : k ∈ keys t
    · obtain ⟨p', hp', _⟩ := tab_some hk
      rw [hp'] at hv
      cases hv
    · rw [tab_put hk] at h2
      refine q _ _ G2 (h.new hk hS np h1 h2) (fun x => ?_) (by unfold setM; rw [er_keys, if_neg hk]; unfold er; simp)
      have : setd t k p = t ++ [(k, p, [])] := by unfold setd; rw [if_neg hk]
      rw [← this, mem_keys_setd]
theorem Grew.outside {S : Vs} {t t0 : T3 Addr} {R : Int → Int → Prop} {a o : Addr} {G0 G : Gp} {os : Vs} (h : Grew S t R a t0 G0 G) (ho : G0 o = some (.lst (intsD os))) (n : o ∉ a :: adr t0) : G o = some (.lst (intsD os)) := h.keep o _ n ho
theorem ok_JoinOne {f : Addr} {fd : FuncData} (FF : Fun K "join_one" "join_one" s_join_one f fd) (T : Txt K w mg CB CG aA eA nA) : FnOk P w K mg base (L2.CX P w) 1 f fd ["table", "name", "others"] (upSp K spJoinOne) :=
  z_fn FF sc_join_one (fun ds G Q E h => by obtain ⟨_, _, _, _, _, _, _, rfl, _⟩ := h; rfl) fun bas cdv A outer s H E hr ds G Q E0 hE hz => by
    obtain ⟨a, o, n, os, S, t, R, rfl, ho, no, nS, oS, lS, g0, hq⟩ := hz
    refine ⟨_, (zs_cons (z_expr (z_setd (z_var 0) (z_var 1) (z_lst za_nil) ⟨rfl, rfl, rfl, rfl⟩)) (zs_cons (z_for (passes_of (by rfl)) rfl (zi_list (z_var 2)) (zg_name (i := 3) sc_join_one.nd rfl (Or.inl rfl)) (zs_cons (z_expr (z_setd (z_var 0) (z_var 3) (z_lst za_nil) ⟨rfl, rfl, rfl, rfl⟩)) (zs_cons (z_if (zw_t (zw_and (z_tcmp zo_neF (z_var 3) (z_var 1)) (zw_and1 (z_tcmp (zo_notinP (un65 hr)) (z_var 3) (z_dget (un1 hr) (z_var 0) (z_var 1)))))) (zs_cons (z_expr (z_bm PySem.F.plainAttrs_list PySem.F.slot_list_append PySem.F.type_list_append zm_append (z_dget (un1 hr) (z_var 0) (z_var 1)) (za_cons (z_var 3) za_nil))) (zs_cons (z_expr (z_bm PySem.F.plainAttrs_list PySem.F.slot_list_append PySem.F.type_list_append zm_append (z_dget (un1 hr) (z_var 0) (z_var 3)) (za_cons (z_var 1) za_nil))) zs_nil)) zs_nil) zs_nil))) zs_nil)), ?_⟩
    have ga := g0.tab.at_
    walk_at "zr"
    refine run_setd g0 nS lS fun t1 v G1 g1 k1 m1 => ?_
    have ho1 := g1.outside ho no
    walk_at "zr"
    refine ⟨fun i ρ G2 => ∃ t2, Grew S t2 (Join R n (os.take i)) a t G G2 ∧ n ∈ keys t2 ∧ er t2 = (os.take i).foldl (stepM n) (setM (er t) n) ∧ ∃ z, ρ = [some (.ref a), some (.int n), some (.ref o), z], ⟨t1, g1.congr fun x y => join_nil x y, (k1 n).mpr (.inr rfl), m1, _, rfl⟩, ?_, ?_⟩
    · rintro i d ρ G2 hi ⟨t2, g2, n2, m2, z, rfl⟩
      refine ⟨g2.outside ho no, ?_⟩
      obtain ⟨x, hx, rfl⟩ := intsD_get hi
      have xm := List.mem_of_getElem? hx
      have tk : os.take (i + 1) = os.take i ++ [x] := by rw [List.take_add_one, hx]; rfl
      have ga2 := g2.tab.at_
      walk_at "zr"
      refine run_setd g2 (oS x xm) lS fun t3 v G3 g3 k3 m3 => ?_
      have n3 : n ∈ keys t3 := (k3 n).mpr (.inl n2)
      have x3 : x ∈ keys t3 := (k3 x).mpr (.inr rfl)
      have ga3 := g3.tab.at_
      walk_at "zr"
      refine r_tdec (fun e => ?_) fun e => ?_
      · walk_at "zr"
        refine ⟨t3, g3.congr fun a b => ?_, n3, ?_, _, rfl⟩
        · rw [tk, e]
          exact join_self a b
        · rw [tk, List.foldl_append, ← m2, m3]
          show _ = stepM n (er t2) x
          unfold stepM
          rw [if_pos e]
      · walk_at "zr"
        obtain ⟨pn, hpn, mpn⟩ := tab_some n3
        refine r_kdget ((dget_dk (k := Sum.inl n) ga3 rfl).trans (by rw [hpn])) ?_
        refine r_inLI (g3.tab.row _ mpn) fun c hc => ?_
        walk_at "zr"
        refine r_niff hc (fun hm => ?_) fun hm => ?_
        · walk_at "zr"
          refine ⟨t3, g3.congr fun a b => ?_, n3, ?_, _, rfl⟩
          · rw [tk, join_had g3.tb.sym ((g3.tb.mem n x).mp hm) a b, join_snoc e]
          · rw [tk, List.foldl_append, ← m2, m3]
            show _ = stepM n (er t2) x
            unfold stepM
            rw [if_neg e, ← m3, er_get, if_pos hm]
        · walk_at "zr"
          refine r_kdget ((dget_dk (k := Sum.inl n) ga3 rfl).trans (by rw [hpn])) ?_
          have rn := g3.tab.row _ mpn
          have ln := g3.row_len n
          refine ⟨r_tyL rn, ?_⟩
          walk_at "zr"
          refine r_append rn (big_lt (by rw [intsD_len]; exact Nat.le_trans ln (by omega))) fun G4 h4 => ?_
          obtain ⟨px, hpx, mpx⟩ := tab_some x3
          have pnm : pn ∈ adr t3 := List.mem_map.mpr ⟨_, mpn, rfl⟩
          have ga4 : G4 a = some (.dk (tabD t3)) := (h4.other a (fun z => g3.tab.ne (by rw [z]; exact pnm))).trans ga3
          walk_at "zr"
          refine r_kdget ((dget_dk (k := Sum.inl x) ga4 rfl).trans (by rw [hpx])) ?_
          have pne : px ≠ pn := fun z => by
            have := nodup_inj (f := fun e : Int × Addr × Vs => e.2.1) g3.tab.nod mpx mpn z
            exact e (congrArg (fun e : Int × Addr × Vs => e.1) this)
          have rx := (h4.other px pne).trans (g3.tab.row _ mpx)
          have lx := g3.row_len x
          refine ⟨r_tyL rx, ?_⟩
          walk_at "zr"
          refine r_append rx (big_lt (by rw [intsD_len]; exact Nat.le_trans lx (by omega))) fun G5 h5 => ?_
          walk_at "zr"
          have h4' : At G3 pn (.lst (intsD (getv t3 n ++ [x]))) G4 := by rw [← intsD_app]; exact h4
          have h5' : At G4 px (.lst (intsD (getv t3 x ++ [n]))) G5 := by rw [← intsD_app]; exact h5
          refine ⟨_, (g3.join n3 x3 e hm mpn mpx h4' h5').congr fun a b => ?_, by rw [keys_app, keys_app]; exact n3, ?_, _, rfl⟩
          · rw [tk]
            exact join_snoc e a b
          · rw [tk, List.foldl_append, ← m2, er_app, er_app, m3]
            show _ = stepM n (er t2) x
            unfold stepM
            rw [if_neg e, ← m3, er_get, if_neg hm]
    · rintro ρ G2 ⟨t2, g2, n2, m2, z, rfl⟩
      refine ⟨g2.outside ho no, ?_⟩
      walk_at "zr"
      rw [intsD_len, List.take_length] at g2 m2
      exact hq t2 G2 g2 m2
theorem ok_JoinAll {f : Addr} {fd : FuncData} (FF : Fun K "join_all" "join_all" s_join_all f fd) (T : Txt K w mg CB CG aA eA nA) (D_join_one : Dfn P w K mg base "join_one" 1 ["table", "name", "others"] spJoinOne) : FnOk P w K mg base (L2.CX P w) 2 f fd ["table", "names"] (upSp K spJoinAll) :=
  z_fn FF sc_join_all (fun ds G Q E h => by obtain ⟨_, _, _, _, _, _, rfl, _⟩ := h; rfl) fun bas cdv A outer s H E hr ds G Q E0 hE hz => by
    obtain ⟨a, o, os, S, t, R, rfl, ho, no, oS, lS, g0, hq⟩ := hz
    refine ⟨_, (zs_one (z_for (passes_of (by rfl)) rfl (zi_list (z_var 1)) (zg_name (i := 2) sc_join_all.nd rfl (Or.inl rfl)) (zs_one (z_expr (z_dc0 D_join_one hr (by decide) (by rfl) (za_cons (z_var 0) (za_cons (z_var 2) (za_cons (z_var 1) za_nil)))))))), ?_⟩
    walk_at "zr"
    refine ⟨fun i ρ G2 => ∃ t2, Grew S t2 (JoinA R (os.take i) os) a t G G2 ∧ er t2 = (os.take i).foldl (fun t x => joinM t x os) (er t) ∧ ∃ z, ρ = [some (.ref a), some (.ref o), z], ⟨t, g0.congr fun x y => ⟨.inl, fun z => by simpa [JoinA] using z⟩, rfl, _, rfl⟩, ?_, ?_⟩
    · rintro i d ρ G2 hi ⟨t2, g2, m2, z, rfl⟩
      have ho2 := g2.outside ho no
      refine ⟨ho2, ?_⟩
      obtain ⟨x, hx, rfl⟩ := intsD_get hi
      have xm := List.mem_of_getElem? hx
      have tk : os.take (i + 1) = os.take i ++ [x] := by rw [List.take_add_one, hx]; rfl
      walk_at "zr"
      refine ⟨a, o, x, os, S, t2, _, rfl, ho2, ?_, oS x xm, oS, lS, ⟨g2.tab, g2.tb, g2.sub, g2.rsub, Keep.refl _ _, fun p hp => .inl hp⟩, fun t3 G3 g3 m3 => ?_⟩
      · intro m
        rcases List.mem_cons.mp m with rfl | m
        · exact no List.mem_cons_self
        · rcases g2.fresh o m with f | f
          · exact no (List.mem_cons_of_mem _ f)
          · rw [ho] at f; cases f
      · walk_at "zr"
        refine ⟨t3, (g2.trans g3).congr fun x y => ?_, ?_, _, rfl⟩
        · rw [tk]
          exact joinA_snoc x y
        · rw [tk, List.foldl_append, ← m2, m3]
          rfl
    · rintro ρ G2 ⟨t2, g2, m2, z, rfl⟩
      refine ⟨g2.outside ho no, ?_⟩
      walk_at "zr"
      rw [intsD_len, List.take_length] at g2 m2
      exact hq t2 G2 g2 m2
end
end K24

namespace K24
open PySem PySem.Spec PyProof.Rows L2 Z
local macro_rules | `(tactic| walk_at "zr") => `(tactic| (repeat' (with_reducible first | refine r_asg ?_ | refine r_asgT ?_ | refine r_asgG ?_ | refine r_asg1 ?_ | refine r_if ?_ | refine r_if1 ?_ | refine r_drop ?_ | refine r_drop1 ?_ | refine r_ret ?_ | refine r_ret1 ?_ | refine r_retN ?_ | refine r_nx ?_ | refine r_nx1 ?_ | refine r_bk ?_ | refine r_ct ?_ | refine r_par ?_ | refine r_par1 ?_ | refine r_par3 ?_ | refine r_par31 ?_ | refine r_for ?_ | refine r_for1 ?_ | refine r_sfld ?_ | refine r_sfld1 ?_ | refine r_aug (by with_unfolding_all rfl) ?_ | refine r_aug1 (by with_unfolding_all rfl) ?_ | refine r_var (by with_unfolding_all rfl) ?_ | refine r_c ?_ | refine r_op ?_ | refine r_ifE ?_ | refine r_nil ?_ | refine r_cons ?_ | refine r_tup ?_ | refine r_lst ?_ | refine r_cb ?_ | refine r_call ?_ | refine r_test ?_ | refine r_not ?_ | refine r_and ?_ | refine r_or ?_ | refine r_andV ?_ | refine r_orV ?_ | refine r_notV ?_ | refine r_neg ?_ | refine r_bm ?_ | refine r_bm0 ?_ | refine r_sl ?_ | refine r_part ?_ | refine r_noP ?_ | refine r_chain ?_ | refine r_int2 ?_ | refine r_eqI ?_ | refine r_eqS ?_ | refine r_eqB ?_ | refine r_fInt ?_ | refine r_fIntB ?_ | refine r_fAbs ?_ | refine r_fMin ?_ | refine r_lenT ?_ | refine r_isNN ?_ | refine r_isNI ?_ | refine r_isNT ?_ | refine r_isNR ?_ | refine r_ixT0 ?_ | refine r_ixT1 ?_ | refine r_ixT2 ?_ | refine r_ixT3 ?_ | refine r_fld ?_ | refine r_kfld (by assumption) rfl ?_ | refine r_list ?_ | refine r_klist (by assumption) ?_ | refine r_tupI ?_ | refine r_ktupI ?_ | refine r_yes ?_ | refine r_kctI ?_ | refine r_rng1 ?_ | refine r_rng2 ?_ | refine r_enum ?_ | refine r_kenumT ?_ | refine r_kenum (by assumption) ?_ | refine r_fListT ?_ | refine r_fTupT ?_ | refine r_fListR (by assumption) ?_ | refine r_fTupR (by assumption) ?_ | refine r_lenR (by assumption) ?_ | refine r_rev ?_ | refine r_krevT ?_ | refine r_krev (by assumption) ?_ | refine r_setL ?_ | refine r_dget ?_ | refine r_lc0 ?_ | refine r_name ?_ | refine r_gtup (by with_unfolding_all rfl) ?_ | refine r_gcons ?_ | refine r_gnil ?_ | refine r_din ?_ | refine r_setd ?_ | refine r_ksetdA (by assumption) ?_ | refine r_keysI ?_ | refine r_kkeysI (by assumption) ?_ | refine r_dput ?_ | refine r_dput1 ?_ | refine r_dnewK ?_ | refine r_szc (by with_unfolding_all exact Nat.le_of_ble_eq_true rfl) ?_ | refine r_eqlen (by with_unfolding_all rfl) ?_ | refine r_ifT (by decide) ?_ | refine r_ifF (by decide) ?_ | refine r_inFT (b := false) rfl rfl (by decide) ?_ | refine r_inFT (b := true) rfl rfl (by decide) ?_ | refine r_lrng ?_)))
def spInterf (CB CG : Addr) : ZSp := fun ds G Q _ => ∃ (a : Addr) (ps : Vs) (bs : List Addr) (g : Gr), ds = [.ref a] ∧ GrAt CB CG G a ps bs g ∧ GOk ps g ∧
  ∀ b (t : T3 Addr) G', Ext G G' → TabAt G' b t → (keys t).Nodup → (∀ x y, y ∈ getv t x ↔ Adj ps g g.length x y) → (∀ x, (getv t x).Pairwise (· ≤ ·) ∧ (getv t x).Nodup) → Q (.ref b) G'
theorem enD_refs {bs : List Addr} {i : Nat} {d : D} (h : (enD (bs.map D.ref))[i]? = some d) : ∃ b, bs[i]? = some b ∧ d = .tup [iD i, .ref b] := by
  letI : Tbl := ⟨[]⟩
  letI : Bas := noBas
  obtain ⟨e, he, rfl⟩ := enD_get h
  obtain ⟨b, hb, rfl⟩ := refs_get he
  exact ⟨b, hb, rfl⟩
theorem enD_rows {rs : List (Int × Row)} {i : Nat} {d : D} (h : (enD (rowsD rs))[i]? = some d) : ∃ r, rs[i]? = some r ∧ d = .tup [iD i, .tup [.int r.1, r.2.d]] := by
  letI : Tbl := ⟨[]⟩
  letI : Bas := noBas
  obtain ⟨e, he, rfl⟩ := enD_get h
  obtain ⟨b, hb, rfl⟩ := rowsD_get he
  exact ⟨b, hb, rfl⟩
theorem FndAt.keep {G G' : Gp} {a x : Addr} {qs : List Addr} {F : Fnd} (h : FndAt G a qs F) (k : Keep [x] G G') (hx : ∃ kvs, G x = some (.dk kvs)) : FndAt G' a qs F := by
  obtain ⟨kvs, hx⟩ := hx
  refine ⟨k a _ (fun m => ?_) h.at_, h.len, fun i q l hq hl => k q _ (fun m => ?_) (h.row i q l hq hl), h.ne⟩
  · have := h.at_
    rw [List.mem_singleton.mp m, hx] at this
    cases this
  · have := h.row i q l hq hl
    rw [List.mem_singleton.mp m, hx] at this
    cases this
theorem keep_ext {G0 G G' : Gp} {x : Addr} (e : Ext G0 G) (n : G0 x = none) (k : Keep [x] G G') : Ext G0 G' := fun b m h => k b m (fun z => by rw [List.mem_singleton.mp z, n] at h; cases h) (e b m h)
/-- the table, made anew with its rows in order -/
theorem getv_snoc {A : Type} {t : T3 A} {k x : Int} {p : A} {l : Vs} (h : k ∉ keys t) : getv (t ++ [(k, p, l)]) x = if x = k then l else getv t x := by
  unfold getv
  rw [List.find?_append]
  by_cases e : x = k
  · subst e
    have : (t.find? fun e => decide (e.1 = x)) = none := by
      rw [List.find?_eq_none]
      intro e he z
      exact h (List.mem_map.mpr ⟨e, he, by simpa using z⟩)
    rw [this]
    simp
  · rw [if_neg e]
    have e' : ¬ k = x := fun z => e z.symm
    cases t.find? fun e => decide (e.1 = x) with
    | some f => rfl
    | none => simp [e']
section
variable [τ : Tbl] {P : Program} {w : World} {K : PySem.W.Frag} {mg : Str → Option Value} {base : Heap} {CB CG aA : Addr} {eA : Array DictEntry} {nA : Nat}
theorem ok_Interf {f : Addr} {fd : FuncData} (FF : Fun K "interference" "interference" s_interference f fd) (T : Txt K w mg CB CG aA eA nA) (D_united : Dfn P w K mg base "united" 1 ["names", "more"] spUnited) (D_live_ins : Dfn P w K mg base "live_ins" 4 ["graph"] (spLiveIns CB CG))
    (D_live_before : Dfn P w K mg base "live_before" 3 ["block", "after"] (spLiveBefore CB)) (D_live_after : Dfn P w K mg base "live_after" 2 ["graph", "found", "block"] (spLiveAfter CB CG)) (D_live_rows : Dfn P w K mg base "live_rows" 3 ["graph", "found", "block"] (spLiveRows CB CG))
    (D_join_one : Dfn P w K mg base "join_one" 1 ["table", "name", "others"] spJoinOne) (D_join_all : Dfn P w K mg base "join_all" 2 ["table", "names"] spJoinAll) : FnOk P w K mg base (L2.CX P w) 5 f fd ["graph"] (upSp K (spInterf CB CG)) :=
  z_fn FF sc_interference (fun ds G Q E h => by obtain ⟨_, _, _, _, rfl, _⟩ := h; rfl) fun bas cdv A outer s H E hr ds G Q E0 hE hz => by
    obtain ⟨a, ps, bs, g, rfl, hg, ok, hq⟩ := hz
    refine ⟨_, (zs_cons (z_set (i := 1) sc_interference.nd rfl (Or.inl rfl) (z_dc0 D_live_ins hr (by decide) (by rfl) (za_cons (z_var 0) za_nil))) (zs_cons (z_set (i := 2) sc_interference.nd rfl (Or.inl rfl) z_dnewK) (zs_cons (z_for (passes_of (by rfl)) rfl (zi_enumA (by rfl) T.z_enumerate (za_cons (z_fld T.c_Graph T.n_Graph_blocks (z_var 0)) za_nil)) (zg_tup (n := 2) rfl (zgs_cons (zg_name (i := 3) sc_interference.nd rfl (Or.inl rfl)) (zgs_cons (zg_name (i := 4) sc_interference.nd rfl (Or.inl rfl)) zgs_nil))) (zs_cons (z_set (i := 5) sc_interference.nd rfl (Or.inl rfl) (z_dc0 D_united hr (by decide) (by rfl) (za_cons (z_ifE (z_tcmp zo_eqF (z_var 3) z_int) (z_callTy zf_list (by rfl) T.z_list (by rfl) (za_cons (z_fld T.c_Graph T.n_Graph_params (z_var 0)) za_nil)) (z_lst za_nil)) (za_cons (z_callTy zf_list (by rfl) T.z_list (by rfl) (za_cons (z_fld T.c_Block T.n_Block_params (z_var 4)) za_nil)) za_nil)))) (zs_cons (z_set (i := 6) sc_interference.nd rfl (Or.inl rfl) (z_dc0 D_live_before hr (by decide) (by rfl) (za_cons (z_var 4) (za_cons (z_dc0 D_live_after hr (by decide) (by rfl) (za_cons (z_var 0) (za_cons (z_var 1) (za_cons (z_var 4) za_nil)))) za_nil)))) (zs_cons (z_expr (z_dc0 D_join_all hr (by decide) (by rfl) (za_cons (z_var 2) (za_cons (z_dc0 D_united hr (by decide) (by rfl) (za_cons (z_var 5) (za_cons (z_var 6) za_nil))) za_nil)))) (zs_cons (z_set (i := 7) sc_interference.nd rfl (Or.inl rfl) (z_dc0 D_live_rows hr (by decide) (by rfl) (za_cons (z_var 0) (za_cons (z_var 1) (za_cons (z_var 4) za_nil))))) (zs_cons (z_for (passes_of (by rfl)) rfl (zi_enumA (by rfl) T.z_enumerate (za_cons (z_fld T.c_Block T.n_Block_rows (z_var 4)) za_nil)) (zg_tup (n := 2) rfl (zgs_cons (zg_name (i := 8) sc_interference.nd rfl (Or.inl rfl)) (zgs_cons (zg_name (i := 9) sc_interference.nd rfl (Or.inl rfl)) zgs_nil))) (zs_one (z_expr (z_dc0 D_join_one hr (by decide) (by rfl) (za_cons (z_var 2) (za_cons (z_ix (z_var 9) z_int) (za_cons (z_ix (z_var 7) (z_var 8)) za_nil))))))) zs_nil)))))) (zs_cons (z_set (i := 10) sc_interference.nd rfl (Or.inl rfl) z_dnewK) (zs_cons (z_lock (z_for (passes_of (by rfl)) rfl (zi_keys (z_var 2)) (zg_name (i := 11) sc_interference.nd rfl (Or.inl rfl)) (zs_one (z_dput (un1 hr) (z_var 10) (z_var 11) (z_callB zf_sortI (by rfl) T.z_sorted (by decide +kernel) (za_cons (z_dget (un1 hr) (z_var 2) (z_var 11)) za_nil)))))) (zs_cons (z_ret (z_var 10)) zs_nil)))))), ?_⟩
    walk_at "zr"
    refine ⟨a, ps, bs, g, rfl, hg, ok, fun fa qs F G1 e1 hF fx => ?_⟩
    walk_at "zr"
    intro ta G2 nta h2
    have e2 := e1.trans (h2.ext nta)
    have ntG := e1.back nta
    have hF2 := hF.ext (h2.ext nta)
    obtain ⟨dg, hga⟩ := hg.at_
    have hga2 := e2 _ _ hga
    have S1000 : (allNames ps g).length ≤ 1000 := by have := ok.few; omega
    have g0 : Grew (allNames ps g) ([] : T3 Addr) (Adj ps g 0) ta [] G2 G2 := ⟨⟨h2.is, fun e he => (by cases he), List.nodup_nil, fun h => (by simp [adr] at h)⟩, Tb.nil.congr adj_zero, fun x hx => (by simp [keys] at hx), fun x y r => ((adj_zero x y).mpr r).elim, Keep.refl _ _, fun p hp => (by simp [adr] at hp)⟩
    have lenF := fx.len
    have few : ∀ t, (F.getD t []).length ≤ 60 := fun t => by
      cases hB : g[t]? with
      | none =>
        have : F.getD t [] = [] := by
          rw [List.getD_eq_getElem?_getD, List.getElem?_eq_none (by rw [lenF]; exact List.getElem?_eq_none_iff.mp hB)]
          rfl
        rw [this]
        simp
      | some B => exact ok.few_of (fx.ord t).2 fun x hx => ok.live_mem ((fx.mem t B x hB).mp hx).2
    walk_at "zr"
    refine ⟨fun i ρ G3 => ∃ t, Grew (allNames ps g) t (Adj ps g i) ta [] G2 G3 ∧ ∃ x y z u v r s m n, ρ = [some (.ref a), some (.ref fa), some (.ref ta), x, y, z, u, v, r, s, m, n], ⟨[], g0, _, _, _, _, _, _, _, _, _, rfl⟩, ?_, ?_⟩
    · rintro i d ρ G3 hi ⟨t, g3, x, y, z, u, v, r, s, m, n, rfl⟩
      refine ⟨trivial, ?_⟩
      obtain ⟨b, hb, rfl⟩ := enD_refs hi
      obtain ⟨B, hB, hbk⟩ := hg.blk_of hb
      have mB := List.mem_of_getElem? hB
      have e3 : Ext G G3 := keep_ext e2 ntG g3.keep
      have hF3 := hF2.keep g3.keep ⟨_, h2.is⟩
      obtain ⟨dx, hb3⟩ := hbk.ext e3
      have hga3 := e3 _ _ hga
      have htg : ∀ t ∈ succ B.en, t < g.length := ok.lt i B hB
      have f1 := ok.few
      have f3 : B.params.length ≤ 60 := ok.few_of (by
        have h1 := ok.nod
        unfold allNames at h1
        have h2 := (List.nodup_append.mp h1).2.1
        have h3 : (blkNames B).Nodup := by
          obtain ⟨l1, l2, e⟩ := List.append_of_mem mB
          rw [e, List.flatMap_append, List.flatMap_cons] at h2
          exact (List.nodup_append.mp (List.nodup_append.mp h2).2.1).1
        exact (List.nodup_append.mp h3).1) fun x hx => GOk.blk_names hB (List.mem_append_left _ hx)
      have entry : ∀ R : DK, (∀ q1 G5, Ext G3 G5 → G5 q1 = some (.lst (intsD (united (if i = 0 then ps else []) B.params))) → R (.ref q1) G5) →
          zCall spUnited X0 (zCons (zIf (zTest (zOp (dEqF false) (zVar 3) (zC (.int 0)))) (zCB fList (zCons (zFld CG (zVar 0) "params") zNil)) (zLst zNil)) (zCons (zCB fList (zCons (zFld CB (zVar 4) "params") zNil)) zNil))
            ([some (.ref a), some (.ref fa), some (.ref ta), some (iD i), some (.ref b), z, u, v, r, s, m, n]) G3 R := by
        intro R hR
        have two : ∀ (q0 : Addr) (l0 : Vs) (G4 : Gp), Ext G3 G4 → G4 q0 = some (.lst (intsD l0)) → l0.length ≤ 60 → l0 = (if i = 0 then ps else []) → zCons (zCB fList (zCons (zFld CB (zVar 4) "params") zNil)) zNil ([some (.ref a), some (.ref fa), some (.ref ta), some (iD i), some (.ref b), z, u, v, r, s, m, n]) G4 (fun ds G5 => spUnited (.ref q0 :: ds) G5 R X0) := by
          intro q0 l0 G4 e4 hq0 ll el0
          have hb4 := e4 _ _ hb3
          walk_at "zr"
          intro q1 G5 n1 h5
          have e5 := h5.ext n1
          refine ⟨q0, l0, q1, B.params, rfl, e5 _ _ hq0, h5.is, by omega, by omega, fun q2 G6 _ e6 h6 => hR q2 G6 (e4.trans (e5.trans e6)) (by rw [← el0]; exact h6)⟩
        walk_at "zr"
        refine r_ndec (fun h0 => ?_) fun h0 => ?_
        · walk_at "zr"
          intro q0 G4 n0 h4
          unfold allNames at f1
          rw [List.length_append] at f1
          exact two q0 ps G4 (h4.ext n0) h4.is (by omega) (by rw [if_pos (by omega)])
        · walk_at "zr"
          intro q0 G4 n0 h4
          exact two q0 [] G4 (h4.ext n0) h4.is (by simp) (by rw [if_neg (by omega)])
      refine r_gtup rfl (r_gcons (r_name (r_gcons (r_name (r_gnil ?_)))))
      refine r_asg (entry _ fun q1 G4 e4 hq1 => ?_)
      have e34 := e3.trans e4
      have hF4 := hF3.ext e4
      have hb4 : BlkAt CB G4 b B := ⟨dx, e4 _ _ hb3⟩
      walk_at "zr"
      refine ⟨a, fa, b, qs, F, B, rfl, hF4, hb4, fun t ht => by rw [lenF]; exact htg t ht, ok.tl B mB, few, fun q2 G5 e5 hq2 => ?_⟩
      have al : (afterOf F B.en).length ≤ 180 := by
        have fl := foldU_len few (succ B.en) []
        have sl := succ_len (e := B.en)
        have tl := ok.tl B mB
        exact Nat.le_trans fl (by simp; omega)
      refine ⟨b, q2, B, _, rfl, hb4.ext e5, hq2, by omega, by have := ok.rl B mB; omega, ok.al B mB, fun q3 G6 e6 hq3 => ?_⟩
      walk_at "zr"
      have ul := len_united (if i = 0 then ps else []) B.params
      have il : (if i = 0 then ps else []).length ≤ 60 := by
        split
        · unfold allNames at f1
          rw [List.length_append] at f1
          omega
        · simp
      have lvB : ∀ x, x ∈ liveB B (afterOf F B.en) ↔ Live g x i 0 := fun x => by
        have := fx.before hB htg (x := x) 0
        rw [List.drop_zero] at this
        exact this
      have llB : (liveB B (afterOf F B.en)).length ≤ 60 := ok.few_of (nodup_liveR nodup_afterOf) fun x hx => ok.live_mem ((lvB x).mp hx)
      have e56 := e5.trans e6
      refine ⟨q1, _, q3, _, rfl, e56 _ _ hq1, hq3, by omega, by omega, fun q4 G7 n4 e7 hq4 => ?_⟩
      have e37 : Ext G3 G7 := e4.trans (e56.trans e7)
      have g7 := g3.ext e37
      have grp : ∀ x, x ∈ united (united (if i = 0 then ps else []) B.params) (liveB B (afterOf F B.en)) ↔ Grp ps g i x := fun x => by
        rw [mem_united, mem_united, lvB]
        unfold Grp
        constructor
        · rintro ((h | h) | h)
          · split at h
            · rename_i i0; exact ⟨B, hB, .inr (.inl ⟨i0, h⟩)⟩
            · cases h
          · exact ⟨B, hB, .inl h⟩
          · exact ⟨B, hB, .inr (.inr h)⟩
        · rintro ⟨B', hB', h⟩
          rw [hB] at hB'
          cases hB'
          rcases h with h | ⟨h1, h2⟩ | h
          · exact .inl (.inr h)
          · exact .inl (.inl (by rw [if_pos h1]; exact h2))
          · exact .inr h
      have grpS : ∀ x, Grp ps g i x → x ∈ allNames ps g := by
        rintro x ⟨B', hB', h | ⟨_, h⟩ | h⟩
        · exact GOk.blk_names hB' (List.mem_append_left _ h)
        · exact List.mem_append_left _ h
        · exact ok.live_mem h
      have no4 : q4 ∉ ta :: adr t := by
        intro hm
        have e36 := e4.trans e56
        rcases List.mem_cons.mp hm with rfl | hm
        · have := e36 _ _ g3.tab.at_
          rw [n4] at this
          cases this
        · obtain ⟨l, hl⟩ := g3.tab.there hm
          have := e36 _ _ hl
          rw [n4] at this
          cases this
      refine ⟨ta, q4, _, allNames ps g, t, _, rfl, hq4, no4, fun x hx => grpS x ((grp x).mp hx), S1000, ⟨g7.tab, g7.tb, g7.sub, g7.rsub, Keep.refl _ _, fun p hp => .inl hp⟩, fun t2 G8 g8 _ => ?_⟩
      have g8' := (g7.trans g8).congr (adjP_start grp)
      have hF8 := hF2.keep g8'.keep ⟨_, h2.is⟩
      have e8 : Ext G G8 := keep_ext e2 ntG g8'.keep
      have hb8 := hbk.ext e8
      have hb8' : ∃ dx, BlkAt CB G8 b B := ⟨dx, hb8⟩
      walk_at "zr"
      refine ⟨a, fa, b, qs, F, B, rfl, hF8, hb8, fun t ht => by rw [lenF]; exact htg t ht, ok.tl B mB, few, ok.rl B mB, ok.al B mB, fun q5 rs L G9 e9 hL okL nL => ?_⟩
      have g9 := g8'.ext e9
      have hL9 := hL.at_
      obtain ⟨dx9, hb9⟩ := hb8.ext e9
      walk_at "zr"
      refine ⟨fun k ρ GA => ∃ t3, Grew (allNames ps g) t3 (AdjP ps g i k) ta t2 G9 GA ∧ ∃ w1 w2 w3, ρ = [some (.ref a), some (.ref fa), some (.ref ta), some (iD i), some (.ref b), w3, some (.ref q3), some (.ref q5), w1, w2, m, n], ⟨t2, ⟨g9.tab, g9.tb, g9.sub, g9.rsub, Keep.refl _ _, fun p hp => .inl hp⟩, _, _, _, rfl⟩, ?_, ?_⟩
      · rintro k d ρ GA hk ⟨t3, gA, w1, w2, w3, rfl⟩
        refine ⟨trivial, ?_⟩
        obtain ⟨rw_, hrw, rfl⟩ := enD_rows hk
        have hkl := (List.getElem?_eq_some_iff.mp hrw).1
        have hkL : k < L.length := by rw [okL.1]; omega
        have hl := List.getElem?_eq_getElem hkL
        generalize L[k] = l at hl
        have nta : ∀ {p : Addr} {l : List D}, G9 p = some (.lst l) → p ≠ ta := fun {p l} h z => by
          have := g9.tab.at_
          rw [← z, h] at this
          cases this
        obtain ⟨q, hq1, hq2, hqL⟩ := hL.get hl
        have nq : q ∉ ta :: adr t2 := by
          intro z
          rcases List.mem_cons.mp z with z | z
          · exact nta hqL z
          · obtain ⟨l', hl'⟩ := g8'.tab.there z
            rw [nL q (List.mem_of_getElem? hq2)] at hl'
            cases hl'
        have nq5 : q5 ∉ ta :: adr t2 := by
          intro z
          rcases List.mem_cons.mp z with z | z
          · exact nta hL9 z
          · obtain ⟨l', hl'⟩ := g9.tab.there z
            rw [hL9] at hl'
            cases rs with
            | nil =>
              have := hL.len
              rw [okL.1] at this
              cases this
            | cons r0 rs =>
              cases l' with
              | nil => cases hl'
              | cons v vs => cases hl'
        have h5A := gA.keep _ _ nq5 hL9
        have hqA := gA.keep _ _ nq hqL
        walk_at "zr"
        refine r_ixR h5A hq1 ?_
        have sl := okL.2 k l hl
        have behindL : ∀ x, x ∈ l ↔ Live g x i (k + 1) := fun x => by
          rw [sl.mem]
          unfold behind
          rw [if_pos hkl]
          exact fx.before hB htg (k + 1)
        have nqA : q ∉ ta :: adr t3 := by
          intro z
          rcases List.mem_cons.mp z with z | z
          · exact nta hqL z
          · rcases gA.fresh q z with z | z
            · exact nq (List.mem_cons_of_mem _ z)
            · rw [hqL] at z
              cases z
        refine ⟨ta, q, rw_.1, l, allNames ps g, t3, _, rfl, hqA, nqA, GOk.blk_names hB (List.mem_append_right _ (List.mem_map.mpr ⟨rw_, List.mem_of_getElem? hrw, rfl⟩)), fun x hx => ok.live_mem ((behindL x).mp hx), S1000, ⟨gA.tab, gA.tb, gA.sub, gA.rsub, Keep.refl _ _, fun p hp => .inl hp⟩, fun t4 GB gB _ => ?_⟩
        walk_at "zr"
        exact ⟨t4, (gA.trans gB).congr (adjP_step hB hrw behindL), _, _, _, rfl⟩
      · rintro ρ GA ⟨t3, gA, w1, w2, w3, rfl⟩
        refine ⟨trivial, ?_⟩
        have hl : (enD (rowsD B.rows)).length = B.rows.length := by rw [enD_len]; unfold rowsD; rw [List.length_map]
        rw [hl] at gA
        refine ⟨t3, (g9.trans gA).congr (adjP_end hB), _, _, _, _, _, _, _, _, _, rfl⟩
    · rintro ρ G3 ⟨t, g3, x, y, z, u, v, r, s, m, n, rfl⟩
      refine ⟨trivial, ?_⟩
      rw [enD_len, List.length_map, hg.len] at g3
      walk_at "zr"
      intro tb G4 ntb h4
      have e4 := h4.ext ntb
      have g4 := g3.ext e4
      have e24 : Ext G G4 := (keep_ext e2 ntG g3.keep).trans e4
      have ntbG : G tb = none := (keep_ext e2 ntG g3.keep).back ntb
      have tta : ta ≠ tb := fun z => by
        have := g3.tab.at_
        rw [z, ntb] at this
        cases this
      refine r_lockK g4.tab.at_ fun lo lx G5 h5 => ?_
      have h5i := h5.is
      walk_at "zr"
      have nadr : ∀ e ∈ t, e.2.1 ≠ ta ∧ e.2.1 ≠ tb := fun e he => ⟨fun z => g4.tab.ne (by rw [← z]; exact List.mem_map.mpr ⟨e, he, rfl⟩), fun z => by
        have := g3.tab.row e he
        rw [z, ntb] at this
        cases this⟩
      have tl := g4.len
      refine ⟨fun i ρ G6 => ∃ t2 : T3 Addr, (∀ b x, b ≠ ta → G b = some x → G6 b = some x) ∧ G6 ta = some (.ldk lo lx (tabD t)) ∧ (∀ e ∈ t, G6 e.2.1 = some (.lst (intsD e.2.2))) ∧ TabAt G6 tb t2 ∧ keys t2 = (keys t).take i ∧ (∀ e ∈ t2, Sorted (getv t e.1) e.2.2) ∧ (∀ p ∈ adr t2, ∀ e ∈ t, p ≠ e.2.1) ∧ ta ∉ adr t2 ∧
        ∃ x y z u v r s n, ρ = [some (.ref a), some (.ref fa), some (.ref ta), x, y, z, u, v, r, s, some (.ref tb), n], ⟨[], fun b x n h => ?_, h5i, fun e he => ?_, ⟨?_, fun e he => (by cases he), List.nodup_nil, fun h => (by simp [adr] at h)⟩, rfl, fun e he => (by cases he), fun p hp => (by simp [adr] at hp), fun h => (by simp [adr] at h), _, _, _, _, _, _, _, _, rfl⟩, ?_, ?_⟩
      · rw [h5.other b n]
        exact e24 _ _ h
      · rw [h5.other _ (nadr e he).1]
        exact g4.tab.row e he
      · rw [h5.other tb tta.symm]
        exact h4.is
      · rintro i d ρ G6 hi ⟨t2, k6, l6, r6, T6, ks, so, ap, nta2, x, y, z, u, v, r, s, n, rfl⟩
        refine ⟨l6, ?_⟩
        rw [List.getElem?_map] at hi
        unfold tabD at hi
        rw [List.getElem?_map] at hi
        cases ei : t[i]? with
        | none => rw [ei] at hi; cases hi
        | some e =>
          rw [ei] at hi
          cases hi
          have he := List.mem_of_getElem? ei
          have hil := (List.getElem?_eq_some_iff.mp ei).1
          have hkey : e.1 ∈ keys t := List.mem_map.mpr ⟨e, he, rfl⟩
          obtain ⟨p, hp1, hp2⟩ := tab_some hkey
          have rp := r6 _ hp2
          dsimp only [kD]
          walk_at "zr"
          refine r_kdget ((dget_ldk (k := Sum.inl e.1) l6 rfl).trans (by rw [hp1])) ?_
          walk_at "zr"
          refine r_sortI rp fun s1 q7 G7 sp so7 n7 h7 => ?_
          have e7 := h7.ext n7
          have T7 := T6.ext e7
          have nk : e.1 ∉ keys t2 := by
            rw [ks]
            intro hm
            obtain ⟨j, hj, ej⟩ := List.getElem_of_mem hm
            rw [List.length_take] at hj
            rw [List.getElem_take] at ej
            have nd := g3.tb.nod
            have hil' : i < (keys t).length := by unfold keys; rw [List.length_map]; exact hil
            have e1 : (keys t)[i] = e.1 := by
              have := (List.getElem?_eq_some_iff.mp ei).2
              simp only [keys, List.getElem_map, this]
            have := (List.pairwise_iff_getElem.mp nd) j i (by omega) hil' (by omega)
            rw [ej, e1] at this
            exact this rfl
          have t2l : t2.length ≤ 1000 := by
            have h1 : (keys t2).length ≤ (keys t).length := by rw [ks, List.length_take]; omega
            unfold keys at h1
            rw [List.length_map, List.length_map] at h1
            omega
          walk_at "zr"
          refine r_kdput (k := Sum.inl e.1) T7.at_ rfl (big_lt (by unfold tabD; rw [List.length_map]; omega)) fun G8 h8 => ?_
          have q7t : q7 ≠ tb := fun z => by
            have := T6.at_
            rw [← z, n7] at this
            cases this
          have q7a : q7 ∉ adr t2 := fun z => by
            obtain ⟨l, hl⟩ := T6.there z
            rw [n7] at hl
            cases hl
          have q7ta : q7 ≠ ta := fun z => by
            rw [← z, n7] at l6
            cases l6
          have put : putD (tabD t2) (Sum.inl e.1) (.ref q7) = tabD (t2 ++ [(e.1, q7, s1)]) := by
            rw [tab_put nk]
            unfold tabD
            simp
          rw [put] at h8
          walk_at "zr"
          refine ⟨t2 ++ [(e.1, q7, s1)], fun b x n h => ?_, (h8.other ta tta).trans (e7 _ _ l6), fun f hf => ?_, ⟨h8.is, fun f hf => ?_, ?_, ?_⟩, ?_, fun f hf => ?_, fun p' hp' f hf => ?_, ?_, _, _, _, _, _, _, _, _, rfl⟩
          · rw [h8.other b (fun z => by rw [z, ntbG] at h; cases h)]
            exact e7 _ _ (k6 b x n h)
          · rw [h8.other _ (nadr f hf).2]
            exact e7 _ _ (r6 f hf)
          · rcases List.mem_append.mp hf with hf | hf
            · rw [h8.other _ (fun z => T7.ne (by rw [← z]; exact List.mem_map.mpr ⟨f, hf, rfl⟩))]
              exact T7.row f hf
            · rw [List.mem_singleton.mp hf]
              rw [h8.other q7 q7t]
              exact h7.is
          · unfold adr at *
            rw [List.map_append, List.nodup_append]
            exact ⟨T6.nod, by simp, fun x hx y hy => by
              rw [List.map_cons, List.map_nil] at hy
              rw [List.mem_singleton.mp hy]
              rintro rfl
              exact q7a hx⟩
          · unfold adr at *
            rw [List.map_append, List.mem_append]
            rintro (z | z)
            · exact T6.ne z
            · rw [List.map_cons, List.map_nil] at z
              exact q7t (List.mem_singleton.mp z).symm
          · unfold keys at ks ⊢
            rw [List.map_append, ks, List.take_add_one, List.getElem?_map, ei]
            rfl
          · rcases List.mem_append.mp hf with hf | hf
            · exact so f hf
            · rw [List.mem_singleton.mp hf]
              exact ⟨sp, so7⟩
          · unfold adr at hp'
            rw [List.map_append, List.mem_append] at hp'
            rcases hp' with hp' | hp'
            · exact ap p' hp' f hf
            · rw [List.map_cons, List.map_nil] at hp'
              rw [List.mem_singleton.mp hp']
              intro z
              have := r6 f hf
              rw [← z, n7] at this
              cases this
          · unfold adr at nta2 ⊢
            rw [List.map_append, List.mem_append]
            rintro (z | z)
            · exact nta2 z
            · rw [List.map_cons, List.map_nil] at z
              exact q7ta (List.mem_singleton.mp z).symm
      · rintro ρ G6 ⟨t2, k6, l6, r6, T6, ks, so, ap, nta2, x, y, z, u, v, r, s, n, rfl⟩
        refine ⟨l6, l6, fun G7 h7 => ?_⟩
        have tl2 : (List.map (fun p => kD p.1) (tabD t)).length = (keys t).length := by unfold tabD keys; simp
        rw [tl2, List.take_length] at ks
        walk_at "zr"
        have T7 : TabAt G7 tb t2 := ⟨(h7.other tb tta.symm).trans T6.at_, fun e he => (h7.other _ (fun z => nta2 (by rw [← z]; exact List.mem_map.mpr ⟨e, he, rfl⟩))).trans (T6.row e he), T6.nod, T6.ne⟩
        have nk2 : (keys t2).Nodup := by rw [ks]; exact g3.tb.nod
        have gs : ∀ x, Sorted (getv t x) (getv t2 x) := fun x => by
          by_cases hx : x ∈ keys t2
          · obtain ⟨p, _, hp⟩ := tab_some hx
            exact so _ hp
          · rw [getv_none hx, getv_none (by rw [← ks]; exact hx)]
            exact ⟨List.Perm.refl _, .nil⟩
        refine hq tb t2 G7 (fun b x h => ?_) T7 nk2 (fun x y => ?_) fun x => ?_
        · have bta : b ≠ ta := fun z => by rw [z, ntG] at h; cases h
          rw [h7.other b bta]
          exact k6 b x bta h
        · rw [(gs x).mem]
          exact g3.tb.mem x y
        · exact ⟨(gs x).2, (gs x).nodup (g3.tb.rows x)⟩
end
end K24

namespace K24
open PySem PySem.Spec PyProof.Rows L2 Z
local macro_rules | `(tactic| walk_at "zr") => `(tactic| (repeat' (with_reducible first | refine r_asg ?_ | refine r_asgT ?_ | refine r_asgG ?_ | refine r_asg1 ?_ | refine r_if ?_ | refine r_if1 ?_ | refine r_drop ?_ | refine r_drop1 ?_ | refine r_ret ?_ | refine r_ret1 ?_ | refine r_retN ?_ | refine r_nx ?_ | refine r_nx1 ?_ | refine r_bk ?_ | refine r_ct ?_ | refine r_par ?_ | refine r_par1 ?_ | refine r_par3 ?_ | refine r_par31 ?_ | refine r_for ?_ | refine r_for1 ?_ | refine r_sfld ?_ | refine r_sfld1 ?_ | refine r_aug (by with_unfolding_all rfl) ?_ | refine r_aug1 (by with_unfolding_all rfl) ?_ | refine r_var (by with_unfolding_all rfl) ?_ | refine r_c ?_ | refine r_op ?_ | refine r_ifE ?_ | refine r_nil ?_ | refine r_cons ?_ | refine r_tup ?_ | refine r_lst ?_ | refine r_cb ?_ | refine r_call ?_ | refine r_test ?_ | refine r_not ?_ | refine r_and ?_ | refine r_or ?_ | refine r_andV ?_ | refine r_orV ?_ | refine r_notV ?_ | refine r_neg ?_ | refine r_bm ?_ | refine r_bm0 ?_ | refine r_sl ?_ | refine r_part ?_ | refine r_noP ?_ | refine r_chain ?_ | refine r_int2 ?_ | refine r_eqI ?_ | refine r_eqS ?_ | refine r_eqB ?_ | refine r_fInt ?_ | refine r_fIntB ?_ | refine r_fAbs ?_ | refine r_fMin ?_ | refine r_lenT ?_ | refine r_isNN ?_ | refine r_isNI ?_ | refine r_isNT ?_ | refine r_isNR ?_ | refine r_ixT0 ?_ | refine r_ixT1 ?_ | refine r_ixT2 ?_ | refine r_ixT3 ?_ | refine r_fld ?_ | refine r_kfld (by assumption) rfl ?_ | refine r_list ?_ | refine r_klist (by assumption) ?_ | refine r_tupI ?_ | refine r_ktupI ?_ | refine r_yes ?_ | refine r_kctI ?_ | refine r_rng1 ?_ | refine r_rng2 ?_ | refine r_enum ?_ | refine r_kenumT ?_ | refine r_kenum (by assumption) ?_ | refine r_fListT ?_ | refine r_fTupT ?_ | refine r_fListR (by assumption) ?_ | refine r_fTupR (by assumption) ?_ | refine r_lenR (by assumption) ?_ | refine r_rev ?_ | refine r_krevT ?_ | refine r_krev (by assumption) ?_ | refine r_setL ?_ | refine r_dget ?_ | refine r_lc0 ?_ | refine r_name ?_ | refine r_gtup (by with_unfolding_all rfl) ?_ | refine r_gcons ?_ | refine r_gnil ?_ | refine r_din ?_ | refine r_setd ?_ | refine r_ksetdA (by assumption) ?_ | refine r_keysI ?_ | refine r_kkeysI (by assumption) ?_ | refine r_dput ?_ | refine r_dput1 ?_ | refine r_dnewK ?_ | refine r_szc (by with_unfolding_all exact Nat.le_of_ble_eq_true rfl) ?_ | refine r_eqlen (by with_unfolding_all rfl) ?_ | refine r_ifT (by decide) ?_ | refine r_ifF (by decide) ?_ | refine r_inFT (b := false) rfl rfl (by decide) ?_ | refine r_inFT (b := true) rfl rfl (by decide) ?_ | refine r_lrng ?_)))
def spReached (CB CG : Addr) : ZSp := fun ds G Q _ => ∃ (a : Addr) (ps : Vs) (bs : List Addr) (g : Gr), ds = [.ref a] ∧ GrAt CB CG G a ps bs g ∧ GOk ps g ∧ ∀ p G', Ext G G' → G' p = some (.lst ((walkR g g.length).map iD)) → Q (.ref p) G'
def natI (ns : List Nat) : Vs := ns.map fun n : Nat => (n : Int)
theorem natI_D (ns : List Nat) : intsD (natI ns) = ns.map iD := by
  unfold intsD natI
  rw [List.map_map]
  rfl
theorem preds_snoc {g : Gr} {m t : Nat} : preds g (m + 1) t = preds g m t ++ (if t ∈ succ (enAt g m) then [m] else []) := by
  unfold preds
  rw [List.range_succ, List.filter_append]
  congr 1
  rw [List.filter_cons]
  by_cases h : t ∈ succ (enAt g m)
  · simp [h]
  · simp [h]
def spPreds (CB CG : Addr) : ZSp := fun ds G Q _ => ∃ (a : Addr) (ps : Vs) (bs : List Addr) (g : Gr), ds = [.ref a] ∧ GrAt CB CG G a ps bs g ∧ GOk ps g ∧
  ∀ b (t : T3 Addr) G', Ext G G' → TabAt G' b t → (keys t).Nodup → keys t = natI (List.range g.length) → (∀ x, x < g.length → getv t (x : Int) = natI (preds g g.length x)) → Q (.ref b) G'
theorem enAt_eq {g : Gr} {b : Nat} {B : Blk} (h : g[b]? = some B) : enAt g b = B.en := by
  unfold enAt
  rw [h]
section
variable [τ : Tbl] {P : Program} {w : World} {K : PySem.W.Frag} {mg : Str → Option Value} {base : Heap} {CB CG aA : Addr} {eA : Array DictEntry} {nA : Nat}
theorem ok_Reached {f : Addr} {fd : FuncData} (FF : Fun K "reached_blocks" "reached_blocks" s_reached_blocks f fd) (T : Txt K w mg CB CG aA eA nA) (D_successors : Dfn P w K mg base "successors" 1 ["end"] spSucc) : FnOk P w K mg base (L2.CX P w) 2 f fd ["graph"] (upSp K (spReached CB CG)) :=
  z_fn FF sc_reached_blocks (fun ds G Q E h => by obtain ⟨_, _, _, _, rfl, _⟩ := h; rfl) fun bas cdv A outer s H E hr ds G Q E0 hE hz => by
    obtain ⟨a, ps, bs, g, rfl, hg, ok, hq⟩ := hz
    refine ⟨_, (zs_cons (z_set (i := 1) sc_reached_blocks.nd rfl (Or.inl rfl) (z_lst (za_cons z_int za_nil))) (zs_cons (z_set (i := 2) sc_reached_blocks.nd rfl (Or.inl rfl) z_int) (zs_cons (z_while (passes_of (by rfl)) (z_tcmp zo_lt (z_var 2) (z_callB zf_len (by rfl) T.z_len (by rfl) (za_cons (z_var 1) za_nil))) (zs_cons (z_for (passes_of (by rfl)) rfl (zi_tup (z_dc0 D_successors hr (by decide) (by rfl) (za_cons (z_fld T.c_Block T.n_Block_end (z_ix (z_fld T.c_Graph T.n_Graph_blocks (z_var 0)) (z_ix (z_var 1) (z_var 2)))) za_nil))) (zg_name (i := 3) sc_reached_blocks.nd rfl (Or.inl rfl)) (zs_one (z_if (z_tcmp (zo_notinP (un65 hr)) (z_var 3) (z_var 1)) (zs_one (z_expr (z_bm PySem.F.plainAttrs_list PySem.F.slot_list_append PySem.F.type_list_append zm_append (z_var 1) (za_cons (z_var 3) za_nil)))) zs_nil))) (zs_cons (z_aug (i := 2) sc_reached_blocks.nd rfl (Or.inl rfl) z_int zi_add) zs_nil))) (zs_cons (z_ret (z_var 1)) zs_nil)))), ?_⟩
    obtain ⟨dg, hga⟩ := hg.at_
    walk_at "zr"
    intro r G1 nr h1
    have hlt := ok.lt
    have hpos : 0 < g.length := by have := ok.pos; omega
    have gl := ok.len
    walk_at "zr"
    refine r_while ⟨fun m ρ G2 => ∃ (j : Nat) (x : Option D), Ext G G2 ∧ j ≤ (walkR g j).length ∧ m + j = g.length ∧ G2 r = some (.lst ((walkR g j).map iD)) ∧ ρ = [some (.ref a), some (.ref r), some (iD j), x], ⟨g.length, 0, _, h1.ext nr, by simp, rfl, h1.is, rfl⟩, ?_⟩
    rintro m ρ G2 ⟨j, x, e2, hj, hm, hr2, rfl⟩
    have hga2 := e2 _ _ hga
    have wok := walkR_ok hpos hlt j
    have wlen := walkR_len hpos hlt j
    walk_at "zr"
    rw [List.length_map]
    refine r_dec (fun hlt' => ?_) fun hge => ?_
    · have hj2 : j < (walkR g j).length := by omega
      generalize hc : (walkR g j)[j] = c
      have hcg : (walkR g j)[j]? = some c := by rw [List.getElem?_eq_getElem hj2, hc]
      have hcl : c < g.length := wok.lt c (List.mem_of_getElem? hcg)
      have hB : g[c]? = some g[c] := List.getElem?_eq_getElem hcl
      generalize g[c] = B at hB
      obtain ⟨b, hb, dx, hbk⟩ := hg.get hB
      have hbk2 := e2 _ _ hbk
      have hix : (bs.map D.ref)[c]? = some (.ref b) := by rw [List.getElem?_map, hb]; rfl
      have hix2 : ((walkR g j).map iD)[j]? = some (iD c) := by rw [List.getElem?_map, hcg]; rfl
      walk_at "zr"
      refine r_ixR hr2 hix2 ?_
      refine r_ixT hix ?_
      walk_at "zr"
      have tl := ok.tl B (List.mem_of_getElem? hB)
      refine ⟨B.en, rfl, by omega, fun G3 e3 => ?_⟩
      walk_at "zr"
      refine ⟨fun i ρ G4 => Ext G G4 ∧ G4 r = some (.lst ((united (walkR g j) ((succ B.en).take i)).map iD)) ∧ ∃ x, ρ = [some (.ref a), some (.ref r), some (iD j), x], ⟨e2.trans e3, e3 _ _ hr2, _, rfl⟩, ?_, ?_⟩
      · rintro i d ρ G4 hi ⟨e4, hr4, x, rfl⟩
        refine ⟨trivial, ?_⟩
        rw [List.getElem?_map] at hi
        cases ea : (succ B.en)[i]? with
        | none => rw [ea] at hi; cases hi
        | some t =>
          rw [ea] at hi
          cases hi
          walk_at "zr"
          refine r_inN hr4 fun cc hcc => ?_
          walk_at "zr"
          have us := united_snocN (l := walkR g j) ea
          have sl := succ_len (e := B.en)
          have ul := len_unitedN (walkR g j) ((succ B.en).take i)
          have tkl : ((succ B.en).take i).length ≤ 3 := by rw [List.length_take]; omega
          refine r_niff hcc (fun hm => ?_) fun hm => ?_
          · walk_at "zr"
            refine ⟨e4, ?_, _, rfl⟩
            rw [us]
            unfold addIf
            rw [if_pos hm]
            exact hr4
          · walk_at "zr"
            refine ⟨r_tyL hr4, ?_⟩
            walk_at "zr"
            refine r_append hr4 (big_lt (by rw [List.length_map]; omega)) fun G5 h5 => ?_
            walk_at "zr"
            refine ⟨ext_set e4 nr h5, ?_, _, rfl⟩
            rw [us]
            unfold addIf
            rw [if_neg hm, snoc_nat]
            exact h5.is
      · rintro ρ G4 ⟨e4, hr4, x, rfl⟩
        refine ⟨trivial, ?_⟩
        rw [List.length_map, List.take_length] at hr4
        walk_at "zr"
        have step : walkR g (j + 1) = united (walkR g j) (succ B.en) := by
          show united (walkR g j) (succ (enAt g ((walkR g j).getD (min j ((walkR g j).length - 1)) 0))) = _
          rw [show min j ((walkR g j).length - 1) = j by omega, List.getD_eq_getElem?_getD, hcg]
          show united _ (succ (enAt g c)) = _
          rw [enAt_eq hB]
        have h1 : j + 1 ≤ (walkR g (j + 1)).length := by
          have : (walkR g j).length ≤ (walkR g (j + 1)).length := by
            rw [step]
            exact united_pre.length_le
          omega
        have h2 := walkR_len hpos hlt (j + 1)
        refine ⟨m - 1, by omega, j + 1, _, e4, h1, by omega, ?_, rfl⟩
        rw [step]
        exact hr4
    · walk_at "zr"
      have hje : (walkR g j).length = j := by omega
      rw [← walkR_end hpos hlt hje] at hr2
      exact hq r G2 e2 hr2
theorem ok_Preds {f : Addr} {fd : FuncData} (FF : Fun K "predecessors" "predecessors" s_predecessors f fd) (T : Txt K w mg CB CG aA eA nA) (D_successors : Dfn P w K mg base "successors" 1 ["end"] spSucc) : FnOk P w K mg base (L2.CX P w) 2 f fd ["graph"] (upSp K (spPreds CB CG)) :=
  z_fn FF sc_predecessors (fun ds G Q E h => by obtain ⟨_, _, _, _, rfl, _⟩ := h; rfl) fun bas cdv A outer s H E hr ds G Q E0 hE hz => by
    obtain ⟨a, ps, bs, g, rfl, hg, ok, hq⟩ := hz
    refine ⟨_, (zs_cons (z_set (i := 1) sc_predecessors.nd rfl (Or.inl rfl) z_dnewK) (zs_cons (z_for (passes_of (by rfl)) rfl (zi_rng1 (by rfl) T.z_range (za_cons (z_callB zf_len (by rfl) T.z_len (by rfl) (za_cons (z_fld T.c_Graph T.n_Graph_blocks (z_var 0)) za_nil)) za_nil)) (zg_name (i := 2) sc_predecessors.nd rfl (Or.inl rfl)) (zs_one (z_dput (un1 hr) (z_var 1) (z_var 2) (z_lst za_nil)))) (zs_cons (z_for (passes_of (by rfl)) rfl (zi_enumA (by rfl) T.z_enumerate (za_cons (z_fld T.c_Graph T.n_Graph_blocks (z_var 0)) za_nil)) (zg_tup (n := 2) rfl (zgs_cons (zg_name (i := 2) sc_predecessors.nd rfl (Or.inl rfl)) (zgs_cons (zg_name (i := 3) sc_predecessors.nd rfl (Or.inl rfl)) zgs_nil))) (zs_one (z_for (passes_of (by rfl)) rfl (zi_tup (z_dc0 D_successors hr (by decide) (by rfl) (za_cons (z_fld T.c_Block T.n_Block_end (z_var 3)) za_nil))) (zg_name (i := 4) sc_predecessors.nd rfl (Or.inl rfl)) (zs_one (z_expr (z_bm PySem.F.plainAttrs_list PySem.F.slot_list_append PySem.F.type_list_append zm_append (z_dget (un1 hr) (z_var 1) (z_var 4)) (za_cons (z_var 2) za_nil))))))) (zs_cons (z_ret (z_var 1)) zs_nil)))), ?_⟩
    obtain ⟨dg, hga⟩ := hg.at_
    have gl := ok.len
    walk_at "zr"
    intro ta G1 nta h1
    have hga1 := h1.ext nta _ _ hga
    walk_at "zr"
    rw [List.length_map, hg.len]
    refine r_krng1 (by omega) ?_
    refine ⟨fun i ρ G2 => ∃ t : T3 Addr, Ext G G2 ∧ TabAt G2 ta t ∧ i ≤ g.length ∧ keys t = natI (List.range i) ∧ (∀ e ∈ t, e.2.2 = [] ∧ G e.2.1 = none) ∧ ∃ x y z, ρ = [some (.ref a), some (.ref ta), x, y, z], ⟨[], h1.ext nta, ⟨h1.is, fun e he => (by cases he), List.nodup_nil, fun h => (by simp [adr] at h)⟩, Nat.zero_le _, rfl, fun e he => (by cases he), _, _, _, rfl⟩, ?_, ?_⟩
    · rintro i d ρ G2 hi ⟨t, e2, T2, il, ks, emp, x, y, z, rfl⟩
      refine ⟨trivial, ?_⟩
      obtain ⟨hi1, rfl⟩ := rngD_get hi
      rw [Int.zero_add]
      walk_at "zr"
      intro p G3 np h3
      have e3 := h3.ext np
      have T3' := T2.ext e3
      have nk : (i : Int) ∉ keys t := by
        rw [ks]
        unfold natI
        rw [List.mem_map]
        rintro ⟨m, hm, e⟩
        have := List.mem_range.mp hm
        omega
      have tlen : t.length = i := by
        have := congrArg List.length ks
        unfold keys natI at this
        simpa using this
      walk_at "zr"
      refine r_kdput (k := Sum.inl (i : Int)) T3'.at_ rfl (big_lt (by unfold tabD; rw [List.length_map]; omega)) fun G4 h4 => ?_
      rw [tab_put nk] at h4
      have pa : p ∉ adr t := fun z => by
        obtain ⟨l, hl⟩ := T2.there z
        rw [np] at hl
        cases hl
      have pta : p ≠ ta := fun z => by
        have := T2.at_
        rw [← z, np] at this
        cases this
      walk_at "zr"
      refine ⟨t ++ [((i : Int), p, [])], ext_set (e2.trans e3) nta h4, T3'.new h3.is pa pta h4, hi1, ?_, fun e he => ?_, _, _, _, rfl⟩
      · unfold keys at ks ⊢
        rw [List.map_append, ks, List.range_succ]
        unfold natI
        simp
      · rcases List.mem_append.mp he with he | he
        · exact emp e he
        · rw [List.mem_singleton.mp he]
          exact ⟨rfl, e2.back np⟩
    · rintro ρ G2 ⟨t, e2, T2, il, ks, emp, x, y, z, rfl⟩
      refine ⟨trivial, ?_⟩
      rw [rngD_len] at ks
      have hga2 := e2 _ _ hga
      have nk : (keys t).Nodup := by
        rw [ks]
        unfold natI
        rw [List.nodup_iff_pairwise_ne, List.pairwise_map]
        exact (List.nodup_range).imp fun h z => h (by omega)
      have g0 : ∀ x, getv t x = [] := fun x => by
        by_cases hx : x ∈ keys t
        · obtain ⟨p, _, hp⟩ := tab_some hx
          exact (emp _ hp).1
        · exact getv_none hx
      walk_at "zr"
      refine ⟨fun i ρ G3 => ∃ t : T3 Addr, Ext G G3 ∧ TabAt G3 ta t ∧ (∀ p ∈ adr t, G p = none) ∧ i ≤ g.length ∧ keys t = natI (List.range g.length) ∧ (∀ x, x < g.length → getv t (x : Int) = natI (preds g i x)) ∧ ∃ x y z, ρ = [some (.ref a), some (.ref ta), x, y, z], ⟨t, e2, T2, ?_, Nat.zero_le _, ks, fun x _ => g0 _, _, _, _, rfl⟩, ?_, ?_⟩
      · intro p hp
        obtain ⟨e, he, rfl⟩ := List.mem_map.mp hp
        exact (emp e he).2
      · rintro i d ρ G3 hi ⟨t, e3, T3', fr, il, ks, gs, x, y, z, rfl⟩
        refine ⟨trivial, ?_⟩
        obtain ⟨b, hb, rfl⟩ := enD_refs hi
        obtain ⟨B, hB, dx, hbk⟩ := hg.blk_of hb
        have hbk3 := e3 _ _ hbk
        have hil := (List.getElem?_eq_some_iff.mp hB).1
        have tl := ok.tl B (List.mem_of_getElem? hB)
        have sl := succ_len (e := B.en)
        have nk : (keys t).Nodup := by
          rw [ks]
          unfold natI
          rw [List.nodup_iff_pairwise_ne, List.pairwise_map]
          exact (List.nodup_range).imp fun h z => h (by omega)
        walk_at "zr"
        refine ⟨B.en, rfl, by omega, fun G4 e4 => ?_⟩
        walk_at "zr"
        refine ⟨fun k ρ G5 => ∃ t : T3 Addr, Ext G G5 ∧ TabAt G5 ta t ∧ (∀ p ∈ adr t, G p = none) ∧ keys t = natI (List.range g.length) ∧ (∀ x, x < g.length → getv t (x : Int) = natI (preds g i x ++ (if x ∈ (succ B.en).take k then [i] else []))) ∧ ∃ z, ρ = [some (.ref a), some (.ref ta), some (iD i), some (.ref b), z], ⟨t, e3.trans e4, T3'.ext e4, fr, ks, fun x hx => by rw [gs x hx]; simp, _, rfl⟩, ?_, ?_⟩
        · rintro k d ρ G5 hk ⟨t5, e5, T5, fr5, ks5, gs5, z, rfl⟩
          refine ⟨trivial, ?_⟩
          rw [List.getElem?_map] at hk
          cases ea : (succ B.en)[k]? with
          | none => rw [ea] at hk; cases hk
          | some tg =>
            rw [ea] at hk
            cases hk
            have htg := ok.lt i B hB tg (List.mem_of_getElem? ea)
            have nk5 : (keys t5).Nodup := by rw [ks5, ← ks]; exact nk
            have kin : (tg : Int) ∈ keys t5 := by
              rw [ks5]
              exact List.mem_map.mpr ⟨tg, List.mem_range.mpr htg, rfl⟩
            obtain ⟨p, hp1, hp2⟩ := tab_some kin
            have rp : G5 p = some (.lst (intsD (getv t5 (tg : Int)))) := T5.row _ hp2
            have ga5 := T5.at_
            walk_at "zr"
            refine r_kdget ((dget_dk (k := Sum.inl (tg : Int)) ga5 rfl).trans (by rw [hp1])) ?_
            refine ⟨r_tyL rp, ?_⟩
            walk_at "zr"
            have pl : (getv t5 (tg : Int)).length ≤ 100 := by
              rw [gs5 tg htg]
              unfold natI
              rw [List.length_map, List.length_append]
              have h1 : (preds g i tg).length ≤ i := by
                unfold preds
                have := List.length_filter_le (fun b => decide (tg ∈ succ (enAt g b))) (List.range i)
                rw [List.length_range] at this
                exact this
              have h2 : (if tg ∈ (succ B.en).take k then [i] else []).length ≤ 1 := by split <;> simp
              omega
            refine r_append rp (big_lt (by rw [intsD_len]; omega)) fun G6 h6 => ?_
            have h6' : At G5 p (.lst (intsD (getv t5 (tg : Int) ++ [(i : Int)]))) G6 := by rw [← intsD_app]; exact h6
            have pm : p ∈ adr t5 := List.mem_map.mpr ⟨_, hp2, rfl⟩
            walk_at "zr"
            have nin : tg ∉ (succ B.en).take k := by
              intro hm
              obtain ⟨j, hj, ej⟩ := List.getElem_of_mem hm
              rw [List.length_take] at hj
              rw [List.getElem_take] at ej
              have nd := nodup_succ (e := B.en)
              have hkl := (List.getElem?_eq_some_iff.mp ea).1
              have e1 := (List.getElem?_eq_some_iff.mp ea).2
              have := (List.pairwise_iff_getElem.mp nd) j k (by omega) hkl (by omega)
              rw [ej, e1] at this
              exact this rfl
            refine ⟨app t5 (tg : Int) (i : Int) none, ext_set e5 (fr5 p pm) h6', T5.app nk5 hp2 h6', by rw [adr_app]; exact fr5, by rw [keys_app]; exact ks5, fun x hx => ?_, _, rfl⟩
            rw [getv_app kin, List.take_add_one, ea]
            by_cases hxt : x = tg
            · subst hxt
              rw [if_pos rfl, gs5 x hx, if_neg nin, if_pos (by simp)]
              unfold natI
              simp
            · rw [if_neg (by omega), gs5 x hx]
              have : (x ∈ (succ B.en).take k ++ (some tg).toList) ↔ x ∈ (succ B.en).take k := by simp [hxt]
              by_cases hm : x ∈ (succ B.en).take k
              · rw [if_pos hm, if_pos (this.mpr hm)]
              · rw [if_neg hm, if_neg (fun z => hm (this.mp z))]
        · rintro ρ G5 ⟨t5, e5, T5, fr5, ks5, gs5, z, rfl⟩
          refine ⟨trivial, ?_⟩
          rw [List.length_map, List.take_length] at gs5
          refine ⟨t5, e5, T5, fr5, hil, ks5, fun x hx => ?_, _, _, _, rfl⟩
          rw [gs5 x hx, preds_snoc, enAt_eq hB]
      · rintro ρ G3 ⟨t, e3, T3', fr, il, ks, gs, x, y, z, rfl⟩
        refine ⟨trivial, ?_⟩
        rw [enD_len, List.length_map, hg.len] at gs
        walk_at "zr"
        refine hq ta t G3 e3 T3' ?_ ks gs
        rw [ks]
        unfold natI
        rw [List.nodup_iff_pairwise_ne, List.pairwise_map]
        exact (List.nodup_range).imp fun h z => h (by omega)
end
end K24

namespace K24
open PySem PySem.Spec PyProof.Rows L2 Z
local macro_rules | `(tactic| walk_at "zr") => `(tactic| (repeat' (with_reducible first | refine r_asg ?_ | refine r_asgT ?_ | refine r_asgG ?_ | refine r_asg1 ?_ | refine r_if ?_ | refine r_if1 ?_ | refine r_drop ?_ | refine r_drop1 ?_ | refine r_ret ?_ | refine r_ret1 ?_ | refine r_retN ?_ | refine r_nx ?_ | refine r_nx1 ?_ | refine r_bk ?_ | refine r_ct ?_ | refine r_par ?_ | refine r_par1 ?_ | refine r_par3 ?_ | refine r_par31 ?_ | refine r_for ?_ | refine r_for1 ?_ | refine r_sfld ?_ | refine r_sfld1 ?_ | refine r_aug (by with_unfolding_all rfl) ?_ | refine r_aug1 (by with_unfolding_all rfl) ?_ | refine r_var (by with_unfolding_all rfl) ?_ | refine r_c ?_ | refine r_op ?_ | refine r_ifE ?_ | refine r_nil ?_ | refine r_cons ?_ | refine r_tup ?_ | refine r_lst ?_ | refine r_cb ?_ | refine r_call ?_ | refine r_test ?_ | refine r_not ?_ | refine r_and ?_ | refine r_or ?_ | refine r_andV ?_ | refine r_orV ?_ | refine r_notV ?_ | refine r_neg ?_ | refine r_bm ?_ | refine r_bm0 ?_ | refine r_sl ?_ | refine r_part ?_ | refine r_noP ?_ | refine r_chain ?_ | refine r_int2 ?_ | refine r_eqI ?_ | refine r_eqS ?_ | refine r_eqB ?_ | refine r_fInt ?_ | refine r_fIntB ?_ | refine r_fAbs ?_ | refine r_fMin ?_ | refine r_lenT ?_ | refine r_isNN ?_ | refine r_isNI ?_ | refine r_isNT ?_ | refine r_isNR ?_ | refine r_ixT0 ?_ | refine r_ixT1 ?_ | refine r_ixT2 ?_ | refine r_ixT3 ?_ | refine r_fld ?_ | refine r_kfld (by assumption) rfl ?_ | refine r_list ?_ | refine r_klist (by assumption) ?_ | refine r_tupI ?_ | refine r_ktupI ?_ | refine r_yes ?_ | refine r_kctI ?_ | refine r_rng1 ?_ | refine r_rng2 ?_ | refine r_enum ?_ | refine r_kenumT ?_ | refine r_kenum (by assumption) ?_ | refine r_fListT ?_ | refine r_fTupT ?_ | refine r_fListR (by assumption) ?_ | refine r_fTupR (by assumption) ?_ | refine r_lenR (by assumption) ?_ | refine r_rev ?_ | refine r_krevT ?_ | refine r_krev (by assumption) ?_ | refine r_setL ?_ | refine r_dget ?_ | refine r_lc0 ?_ | refine r_name ?_ | refine r_gtup (by with_unfolding_all rfl) ?_ | refine r_gcons ?_ | refine r_gnil ?_ | refine r_din ?_ | refine r_setd ?_ | refine r_ksetdA (by assumption) ?_ | refine r_keysI ?_ | refine r_kkeysI (by assumption) ?_ | refine r_dput ?_ | refine r_dput1 ?_ | refine r_dnewK ?_ | refine r_szc (by with_unfolding_all exact Nat.le_of_ble_eq_true rfl) ?_ | refine r_eqlen (by with_unfolding_all rfl) ?_ | refine r_ifT (by decide) ?_ | refine r_ifF (by decide) ?_ | refine r_inFT (b := false) rfl rfl (by decide) ?_ | refine r_inFT (b := true) rfl rfl (by decide) ?_ | refine r_lrng ?_)))
/-! ### dice -/
def isDice (m : MO) : Prop := ∃ x y f : Int, m = .lst [.int x, .int y, .int f]
structure Rolled (a : Addr) (G G' : Gp) : Prop where
  dice : ∃ m, G' a = some m ∧ isDice m
  other : Exb a G G'
theorem Rolled.trans {a : Addr} {G G1 G2 : Gp} (h : Rolled a G G1) (k : Rolled a G1 G2) : Rolled a G G2 := ⟨k.dice, h.other.trans k.other⟩
theorem Rolled.new {a p : Addr} {G G1 G2 : Gp} {m : MO} (h : Rolled a G G1) (n : G1 p = none) (k : At G1 p m G2) : Rolled a G G2 := by
  obtain ⟨d, e, i⟩ := h.dice
  refine ⟨⟨d, k.ext n _ _ e, i⟩, h.other.trans (k.ext n).exb⟩
theorem Rolled.start {a : Addr} {G : Gp} {m : MO} (h : G a = some m) (i : isDice m) : Rolled a G G := ⟨⟨m, h, i⟩, Exb.refl a G⟩
theorem Rolled.ext {a : Addr} {G G1 G2 : Gp} (h : Rolled a G G1) (k : Ext G1 G2) : Rolled a G G2 := by
  obtain ⟨d, e, i⟩ := h.dice
  exact ⟨⟨d, k _ _ e, i⟩, h.other.trans k.exb⟩
def spDice : ZSp := fun ds G Q _ => ∃ i, ds = [.int i] ∧ ∀ p m G', G p = none → isDice m → At G p m G' → Q (.ref p) G'
def spRoll : ZSp := fun ds G Q _ => ∃ a n m, ds = [.ref a, .int n] ∧ G a = some m ∧ isDice m ∧ 1 ≤ n ∧ n < 1073741824 ∧ ∀ r G', 0 ≤ r → r < n → Rolled a G G' → Q (.int r) G'
theorem run_roll {ρ : ZSt} {G : Gp} {Q : DK} {tA : DA} {a : Addr} {n : Int} {m : MO} (hA : ∀ R, tA ρ G R = R [.ref a, .int n] G) (ha : G a = some m) (hi : isDice m) (h1 : 1 ≤ n) (h2 : n < 1073741824) (hq : ∀ r G', 0 ≤ r → r < n → Rolled a G G' → Q (.int r) G') : zCall spRoll X0 tA ρ G Q := by
  simp only [zCall, hA]
  exact ⟨a, n, m, rfl, ha, hi, h1, h2, hq⟩
def isScript (G : Gp) (sD : D) (ns : List Int) : Prop := sD = .cl (ns.map D.int) ∨ ∃ a, sD = .ref a ∧ G a = some (.lst (ns.map D.int))
def spRounds : ZSp := fun ds G Q _ => ∃ (sD : D) (ns : List Int), ds = [sD, .int 1] ∧ isScript G sD ns ∧ ∀ q d m G', Ext G G' → G' q = some (.lst [.ref d]) → G' d = some m → isDice m → q ≠ d → Q (.ref q) G'

section
variable [τ : Tbl] {P : Program} {w : World} {K : PySem.W.Frag} {mg : Str → Option Value} {base : Heap} {CB CG aA : Addr} {eA : Array DictEntry} {nA : Nat}
theorem ok_Dice {f : Addr} {fd : FuncData} (FF : Fun K "_law_dice" "_law_dice" s__law_dice f fd) (T : Txt K w mg CB CG aA eA nA) : FnOk P w K mg base (L2.CX P w) 1 f fd ["cell"] (upSp K spDice) :=
  z_fn FF sc__law_dice (fun ds G Q E h => by obtain ⟨i, rfl, _⟩ := h; rfl) fun bas cdv A outer s H E hr ds G Q E0 hE hz => by
    obtain ⟨i, rfl, hq⟩ := hz
    refine ⟨_, (zs_cons (z_if (z_tchain zo_lt zo_lt (z_op zo_sub z_int z_int) (z_var 0) z_int) (zs_one (z_ret (z_lst (za_cons (z_callB zf_abs (by rfl) T.z_abs (by rfl) (za_cons (z_var 0) za_nil)) (za_cons z_int (za_cons z_int za_nil)))))) zs_nil) (zs_cons (z_ret (z_lst (za_cons (z_var 0) (za_cons (z_op zo_add z_int (z_op zo_mod (z_callTy zf_int (by rfl) T.z_int (by rfl) (za_cons (z_var 0) za_nil)) z_int)) (za_cons (z_callTy zf_int (by rfl) T.z_int (by rfl) (za_cons (z_cmp zo_ge (z_var 0) (z_op zo_pow z_int z_int)) za_nil)) za_nil))))) zs_nil)), ?_⟩
    have big : 3 ≤ sizeLine := by decide
    have fin : ∀ x y z : Int, ∀ p G2, G p = none → At G p (.lst [.int x, .int y, .int z]) G2 → Q (.ref p) G2 := fun x y z p G2 hp h => hq p _ G2 hp ⟨x, y, z, rfl⟩ h
    simp only [zLst, zSeq, zAsg, zName, zPar, zPar3, zIfS, zAnd, zOrT, zNot, zTest, zOp, zCB, zCons, zNil, zVar, zC, zFld, zDrop, zRet, zRetN, zNext, zBreak, zCont, zIf, zTup, zSl, zPart, zNoP, zNeg, zChain, zAndV, zOrV, zNotV, zgTup, zgCons, zgNil, zRaise1, zList, zTupI, zStrI, zRng1, zRng2, zstart, dI0_e, dI_e, dEqF_i, dEqF_s, dEqF_b, dCatS_e, fLen_s, fInt_i, fInt_b, fAbs_i, List.map_cons, List.map_nil, List.getElem?_cons_succ, List.getElem?_cons_zero, List.set_cons_succ, List.set_cons_zero, List.cons_append, List.nil_append, List.length_cons, List.length_nil, Nat.reduceAdd, Nat.reduceSub, Nat.zero_add, List.reduceReplicate, true_and, and_true]
    by_cases h1 : (0 : Int) - 10 < i
    · rw [if_pos (decide_eq_true h1)]
      by_cases h2 : i < 10
      · rw [if_pos (decide_eq_true h2)]
        exact ⟨big, fin _ _ _⟩
      · rw [if_neg (by simpa using h2)]
        exact ⟨by decide, ⟨by decide, by decide, by decide⟩, big, fin _ _ _⟩
    · rw [if_neg (by simpa using h1), if_neg Bool.false_ne_true]
      exact ⟨by decide, ⟨by decide, by decide, by decide⟩, big, fin _ _ _⟩
theorem ok_Roll {f : Addr} {fd : FuncData} (FF : Fun K "_law_roll" "_law_roll" s__law_roll f fd) (T : Txt K w mg CB CG aA eA nA) : FnOk P w K mg base (L2.CX P w) 1 f fd ["dice", "many"] (upSp K spRoll) :=
  z_fn FF sc__law_roll (fun ds G Q E h => by obtain ⟨a, n, m, rfl, _⟩ := h; rfl) fun bas cdv A outer s H E hr ds G Q E0 hE hz => by
    obtain ⟨a, n, m, rfl, ha, ⟨x, y, f, rfl⟩, h1, h2, hq⟩ := hz
    refine ⟨_, (zs_cons (z_if (zw_t (zw_or (z_tcmp zo_eqF (z_ix (z_var 0) z_int) z_int) (zw_or1 (zw_t (zw_and (z_tcmp zo_eqF (z_ix (z_var 0) z_int) z_int) (zw_and1 (z_tcmp zo_gt (z_ix (z_var 0) z_int) z_int))))))) (zs_cons (z_set (i := 2) sc__law_roll.nd rfl (Or.inl rfl) (z_op zo_mod (z_callTy zf_int (by rfl) T.z_int (by rfl) (za_cons (z_ix (z_var 0) z_int) za_nil)) (z_var 1))) (zs_cons (z_asg (z_op zo_div (z_ix (z_var 0) z_int) (z_var 1)) (zg_setL (z_var 0) z_int)) (zs_cons (z_ret (z_var 2)) zs_nil))) zs_nil) (zs_cons (z_asg z_int (zg_setL (z_var 0) z_int)) (zs_cons (z_asg (z_op zo_mod (z_callTy zf_int (by rfl) T.z_int (by rfl) (za_cons (z_op zo_add (z_op zo_add (z_op zo_mul (z_ix (z_var 0) z_int) z_int) (z_op zo_mul (z_ix (z_var 0) z_int) z_int)) z_int) za_nil)) z_int) (zg_setL (z_var 0) z_int)) (zs_cons (z_asg (z_op zo_add (z_ix (z_var 0) z_int) z_int) (zg_setL (z_var 0) z_int)) (zs_cons (z_ret (z_op zo_mod (z_callTy zf_int (by rfl) T.z_int (by rfl) (za_cons (z_op zo_div (z_ix (z_var 0) z_int) z_int) za_nil)) (z_var 1))) zs_nil))))), ?_⟩
    have hn0 : n ≠ 0 := by omega
    have fin : ∀ (z : Int) (x y f : Int) G', At G a (.lst [.int x, .int y, .int f]) G' → Q (.int (z.fmod n)) G' := fun z x y f G' h => by
      have e : z.fmod n = z % n := Int.fmod_eq_emod_of_nonneg z (by omega)
      have b1 := Int.emod_nonneg z hn0
      have b2 := Int.emod_lt_of_pos z (show 0 < n by omega)
      exact hq _ G' (by rw [e]; exact b1) (by rw [e]; exact b2) ⟨⟨_, h.is, x, y, f, rfl⟩, h.exb⟩
    have ix : ∀ (l : List D) (j : Nat) (d : D) (G : Gp) (R : DK), G a = some (.lst l) → l[j]? = some d → dIx (.ref a) (.int (j : Int)) G R = R d G := fun l j d G R hG hj => by
      show (match seqD G (.ref a) with | some ds => _ | none => _) = _
      have e : seqD G (.ref a) = some l := by
        unfold seqD
        simp only
        rw [hG]
      rw [e]
      simp only
      rw [atI_nat hj]
    have ix0 := fun (G : Gp) (R : DK) (x y f : Int) (hG : G a = some (.lst [.int x, .int y, .int f])) => ix _ 0 (.int x) G R hG rfl
    have ix1 := fun (G : Gp) (R : DK) (x y f : Int) (hG : G a = some (.lst [.int x, .int y, .int f])) => ix _ 1 (.int y) G R hG rfl
    have ix2 := fun (G : Gp) (R : DK) (x y f : Int) (hG : G a = some (.lst [.int x, .int y, .int f])) => ix _ 2 (.int f) G R hG rfl
    simp only [Int.natCast_zero, Int.natCast_one, show ((2 : Nat) : Int) = 2 from rfl] at ix0 ix1 ix2
    have e0 := fun R => ix0 G R x y f ha
    have e1 := fun R => ix1 G R x y f ha
    have e2 := fun R => ix2 G R x y f ha
    have st : ∀ (G1 : Gp) (j : Nat) (v : D) (l : List D) (ρ : ZSt) (R : ZSt → Gp → Prop), G1 a = some (.lst l) → j < l.length → ρ[0]? = some (some (.ref a)) → (∀ G2, At G1 a (.lst (l.set j v)) G2 → R ρ G2) → zSetL (zVar 0) (zC (.int (j : Int))) v ρ G1 R := fun G1 j v l ρ R hG hj hρ hR => by
      simp only [zSetL, zVar, zC, hρ, hG]
      rw [show ixN l.length (j : Int) = some j by unfold ixN; rw [if_pos (by omega)]; simp [hj]]
      exact hR
    by_cases f2 : f = 2
    · subst f2
      simp only [zSeq, zAsg, zName, zPar, zPar3, zIfS, zAnd, zOrT, zNot, zTest, zOp, zCB, zCons, zNil, zVar, zC, zFld, zDrop, zRet, zRetN, zNext, zBreak, zCont, zIf, zTup, zSl, zPart, zNoP, zNeg, zChain, zAndV, zOrV, zNotV, zgTup, zgCons, zgNil, zRaise1, zList, zTupI, zStrI, zRng1, zRng2, zstart, dI0_e, dI_e, dEqF_i, dEqF_s, dEqF_b, dCatS_e, fLen_s, fInt_i, fInt_b, fAbs_i, List.map_cons, List.map_nil, List.getElem?_cons_succ, List.getElem?_cons_zero, List.set_cons_succ, List.set_cons_zero, List.cons_append, List.nil_append, List.length_cons, List.length_nil, Nat.reduceAdd, Nat.reduceSub, Nat.zero_add, List.reduceReplicate, true_and, and_true, e0, e2, decide_true, Bool.false_bne, if_true]
      refine ⟨hn0, ⟨hn0, by omega⟩, ?_⟩
      refine st G 0 _ _ _ _ ha (by show 0 < 3; decide) rfl fun G1 h1 => ?_
      exact fin x _ y 2 G1 h1
    · by_cases f1 : f = 1
      · subst f1
        by_cases hx : 0 < x
        · have c1 : decide ((1 : Int) = 2) = false := by decide
          simp only [zSeq, zAsg, zName, zPar, zPar3, zIfS, zAnd, zOrT, zNot, zTest, zOp, zCB, zCons, zNil, zVar, zC, zFld, zDrop, zRet, zRetN, zNext, zBreak, zCont, zIf, zTup, zSl, zPart, zNoP, zNeg, zChain, zAndV, zOrV, zNotV, zgTup, zgCons, zgNil, zRaise1, zList, zTupI, zStrI, zRng1, zRng2, zstart, dI0_e, dI_e, dEqF_i, dEqF_s, dEqF_b, dCatS_e, fLen_s, fInt_i, fInt_b, fAbs_i, List.map_cons, List.map_nil, List.getElem?_cons_succ, List.getElem?_cons_zero, List.set_cons_succ, List.set_cons_zero, List.cons_append, List.nil_append, List.length_cons, List.length_nil, Nat.reduceAdd, Nat.reduceSub, Nat.zero_add, List.reduceReplicate, true_and, and_true, e0, e2, c1, hx, decide_true, Bool.false_bne, Bool.false_eq_true, if_true, if_false]
          refine ⟨hn0, ⟨hn0, by omega⟩, ?_⟩
          refine st G 0 _ _ _ _ ha (by show 0 < 3; decide) rfl fun G1 h1 => ?_
          exact fin x _ y 1 G1 h1
        · have c1 : decide ((1 : Int) = 2) = false := by decide
          simp only [zSeq, zAsg, zName, zPar, zPar3, zIfS, zAnd, zOrT, zNot, zTest, zOp, zCB, zCons, zNil, zVar, zC, zFld, zDrop, zRet, zRetN, zNext, zBreak, zCont, zIf, zTup, zSl, zPart, zNoP, zNeg, zChain, zAndV, zOrV, zNotV, zgTup, zgCons, zgNil, zRaise1, zList, zTupI, zStrI, zRng1, zRng2, zstart, dI0_e, dI_e, dEqF_i, dEqF_s, dEqF_b, dCatS_e, fLen_s, fInt_i, fInt_b, fAbs_i, List.map_cons, List.map_nil, List.getElem?_cons_succ, List.getElem?_cons_zero, List.set_cons_succ, List.set_cons_zero, List.cons_append, List.nil_append, List.length_cons, List.length_nil, Nat.reduceAdd, Nat.reduceSub, Nat.zero_add, List.reduceReplicate, true_and, and_true, e0, e2, c1, hx, decide_true, decide_false, Bool.false_bne, Bool.false_eq_true, if_true, if_false]
          refine st G 2 _ _ _ _ ha (by show 2 < 3; decide) rfl fun G1 g1 => ?_
          simp only [zSeq, zAsg, zName, zPar, zPar3, zIfS, zAnd, zOrT, zNot, zTest, zOp, zCB, zCons, zNil, zVar, zC, zFld, zDrop, zRet, zRetN, zNext, zBreak, zCont, zIf, zTup, zSl, zPart, zNoP, zNeg, zChain, zAndV, zOrV, zNotV, zgTup, zgCons, zgNil, zRaise1, zList, zTupI, zStrI, zRng1, zRng2, zstart, dI0_e, dI_e, dEqF_i, dEqF_s, dEqF_b, dCatS_e, fLen_s, fInt_i, fInt_b, fAbs_i, List.map_cons, List.map_nil, List.getElem?_cons_succ, List.getElem?_cons_zero, List.set_cons_succ, List.set_cons_zero, List.cons_append, List.nil_append, List.length_cons, List.length_nil, Nat.reduceAdd, Nat.reduceSub, Nat.zero_add, List.reduceReplicate, true_and, and_true, ix0 G1 _ x y 0 g1.is, ix1 G1 _ x y 0 g1.is]
          refine ⟨.inr (by decide), .inr (by decide), by decide, ?_⟩
          refine st G1 0 _ _ _ _ g1.is (by show 0 < 3; decide) rfl fun G2 g2 => ?_
          have h12 := g1.trans g2
          generalize hz : (x * 48271 + y * 69621 + 11).fmod 2147483647 = z at *
          have i2 : G2 a = some (.lst [.int z, .int y, .int 0]) := g2.is
          simp only [zSeq, zAsg, zName, zPar, zPar3, zIfS, zAnd, zOrT, zNot, zTest, zOp, zCB, zCons, zNil, zVar, zC, zFld, zDrop, zRet, zRetN, zNext, zBreak, zCont, zIf, zTup, zSl, zPart, zNoP, zNeg, zChain, zAndV, zOrV, zNotV, zgTup, zgCons, zgNil, zRaise1, zList, zTupI, zStrI, zRng1, zRng2, zstart, dI0_e, dI_e, dEqF_i, dEqF_s, dEqF_b, dCatS_e, fLen_s, fInt_i, fInt_b, fAbs_i, List.map_cons, List.map_nil, List.getElem?_cons_succ, List.getElem?_cons_zero, List.set_cons_succ, List.set_cons_zero, List.cons_append, List.nil_append, List.length_cons, List.length_nil, Nat.reduceAdd, Nat.reduceSub, Nat.zero_add, List.reduceReplicate, true_and, and_true, ix1 G2 _ z y 0 i2]
          refine st G2 1 _ _ _ _ i2 (by show 1 < 3; decide) rfl fun G3 g3 => ?_
          have i3 : G3 a = some (.lst [.int z, .int (y + 1), .int 0]) := g3.is
          simp only [zSeq, zAsg, zName, zPar, zPar3, zIfS, zAnd, zOrT, zNot, zTest, zOp, zCB, zCons, zNil, zVar, zC, zFld, zDrop, zRet, zRetN, zNext, zBreak, zCont, zIf, zTup, zSl, zPart, zNoP, zNeg, zChain, zAndV, zOrV, zNotV, zgTup, zgCons, zgNil, zRaise1, zList, zTupI, zStrI, zRng1, zRng2, zstart, dI0_e, dI_e, dEqF_i, dEqF_s, dEqF_b, dCatS_e, fLen_s, fInt_i, fInt_b, fAbs_i, List.map_cons, List.map_nil, List.getElem?_cons_succ, List.getElem?_cons_zero, List.set_cons_succ, List.set_cons_zero, List.cons_append, List.nil_append, List.length_cons, List.length_nil, Nat.reduceAdd, Nat.reduceSub, Nat.zero_add, List.reduceReplicate, true_and, and_true, ix0 G3 _ z (y + 1) 0 i3]
          exact ⟨⟨by decide, by decide⟩, hn0, fin _ z (y + 1) 0 G3 (h12.trans g3)⟩
      · have c1 : decide (f = 2) = false := decide_eq_false f2
        have c2 : decide (f = 1) = false := decide_eq_false f1
        simp only [zSeq, zAsg, zName, zPar, zPar3, zIfS, zAnd, zOrT, zNot, zTest, zOp, zCB, zCons, zNil, zVar, zC, zFld, zDrop, zRet, zRetN, zNext, zBreak, zCont, zIf, zTup, zSl, zPart, zNoP, zNeg, zChain, zAndV, zOrV, zNotV, zgTup, zgCons, zgNil, zRaise1, zList, zTupI, zStrI, zRng1, zRng2, zstart, dI0_e, dI_e, dEqF_i, dEqF_s, dEqF_b, dCatS_e, fLen_s, fInt_i, fInt_b, fAbs_i, List.map_cons, List.map_nil, List.getElem?_cons_succ, List.getElem?_cons_zero, List.set_cons_succ, List.set_cons_zero, List.cons_append, List.nil_append, List.length_cons, List.length_nil, Nat.reduceAdd, Nat.reduceSub, Nat.zero_add, List.reduceReplicate, true_and, and_true, e0, e2, c1, c2, Bool.false_bne, Bool.false_eq_true, if_true, if_false]
        refine st G 2 _ _ _ _ ha (by show 2 < 3; decide) rfl fun G1 g1 => ?_
        simp only [zSeq, zAsg, zName, zPar, zPar3, zIfS, zAnd, zOrT, zNot, zTest, zOp, zCB, zCons, zNil, zVar, zC, zFld, zDrop, zRet, zRetN, zNext, zBreak, zCont, zIf, zTup, zSl, zPart, zNoP, zNeg, zChain, zAndV, zOrV, zNotV, zgTup, zgCons, zgNil, zRaise1, zList, zTupI, zStrI, zRng1, zRng2, zstart, dI0_e, dI_e, dEqF_i, dEqF_s, dEqF_b, dCatS_e, fLen_s, fInt_i, fInt_b, fAbs_i, List.map_cons, List.map_nil, List.getElem?_cons_succ, List.getElem?_cons_zero, List.set_cons_succ, List.set_cons_zero, List.cons_append, List.nil_append, List.length_cons, List.length_nil, Nat.reduceAdd, Nat.reduceSub, Nat.zero_add, List.reduceReplicate, true_and, and_true, ix0 G1 _ x y 0 g1.is, ix1 G1 _ x y 0 g1.is]
        refine ⟨.inr (by decide), .inr (by decide), by decide, ?_⟩
        refine st G1 0 _ _ _ _ g1.is (by show 0 < 3; decide) rfl fun G2 g2 => ?_
        have h12 := g1.trans g2
        generalize hz : (x * 48271 + y * 69621 + 11).fmod 2147483647 = z at *
        have i2 : G2 a = some (.lst [.int z, .int y, .int 0]) := g2.is
        simp only [zSeq, zAsg, zName, zPar, zPar3, zIfS, zAnd, zOrT, zNot, zTest, zOp, zCB, zCons, zNil, zVar, zC, zFld, zDrop, zRet, zRetN, zNext, zBreak, zCont, zIf, zTup, zSl, zPart, zNoP, zNeg, zChain, zAndV, zOrV, zNotV, zgTup, zgCons, zgNil, zRaise1, zList, zTupI, zStrI, zRng1, zRng2, zstart, dI0_e, dI_e, dEqF_i, dEqF_s, dEqF_b, dCatS_e, fLen_s, fInt_i, fInt_b, fAbs_i, List.map_cons, List.map_nil, List.getElem?_cons_succ, List.getElem?_cons_zero, List.set_cons_succ, List.set_cons_zero, List.cons_append, List.nil_append, List.length_cons, List.length_nil, Nat.reduceAdd, Nat.reduceSub, Nat.zero_add, List.reduceReplicate, true_and, and_true, ix1 G2 _ z y 0 i2]
        refine st G2 1 _ _ _ _ i2 (by show 1 < 3; decide) rfl fun G3 g3 => ?_
        have i3 : G3 a = some (.lst [.int z, .int (y + 1), .int 0]) := g3.is
        simp only [zSeq, zAsg, zName, zPar, zPar3, zIfS, zAnd, zOrT, zNot, zTest, zOp, zCB, zCons, zNil, zVar, zC, zFld, zDrop, zRet, zRetN, zNext, zBreak, zCont, zIf, zTup, zSl, zPart, zNoP, zNeg, zChain, zAndV, zOrV, zNotV, zgTup, zgCons, zgNil, zRaise1, zList, zTupI, zStrI, zRng1, zRng2, zstart, dI0_e, dI_e, dEqF_i, dEqF_s, dEqF_b, dCatS_e, fLen_s, fInt_i, fInt_b, fAbs_i, List.map_cons, List.map_nil, List.getElem?_cons_succ, List.getElem?_cons_zero, List.set_cons_succ, List.set_cons_zero, List.cons_append, List.nil_append, List.length_cons, List.length_nil, Nat.reduceAdd, Nat.reduceSub, Nat.zero_add, List.reduceReplicate, true_and, and_true, ix0 G3 _ z (y + 1) 0 i3]
        exact ⟨⟨by decide, by decide⟩, hn0, fin _ z (y + 1) 0 G3 (h12.trans g3)⟩

theorem cut_one (xs : List D) : Z.cutD xs none (some 1) = xs.take 1 := by
  unfold Z.cutD
  rw [HT.sIx_none, show (1 : Int) = ((1 : Nat) : Int) from rfl, HT.sIx_nat, Nat.sub_zero, List.drop_zero]
  cases xs with
  | nil => rfl
  | cons x r => rw [Nat.min_eq_left (by rw [List.length_cons]; omega)]
theorem ok_Rounds {f : Addr} {fd : FuncData} (FF : Fun K "_law_rounds" "_law_rounds" s__law_rounds f fd) (T : Txt K w mg CB CG aA eA nA) (D__law_dice : Dfn P w K mg base "_law_dice" 1 ["cell"] spDice) : FnOk P w K mg base (L2.CX P w) 2 f fd ["script", "most"] (upSp K spRounds) :=
  z_fn FF sc__law_rounds (fun ds G Q E h => by obtain ⟨sD, ns, rfl, _⟩ := h; rfl) fun bas cdv A outer s H E hr ds G Q E0 hE hz => by
    obtain ⟨sD, ns, rfl, hs, hq⟩ := hz
    have hsl : ∀ R : DK, (∀ p G', G p = none → At G p (.lst ((ns.map D.int).take 1)) G' → R (.ref p) G') → dSlL sD none (some 1) G R := fun R h => by
      rcases hs with rfl | ⟨a, rfl, ha⟩
      · simp only [dSlL, cut_one]
        exact h
      · simp only [dSlL, ha, cut_one]
        exact h
    refine ⟨_, (zs_cons (z_set (i := 2) sc__law_rounds.nd rfl (Or.inl rfl) (z_slice zsl_list (z_var 0) zo_none (zo_some (z_var 1)))) (zs_cons (z_if (z_tcmp (zo_eqP hr.units) (z_var 2) (z_lst za_nil)) (zs_one (z_set (i := 2) sc__law_rounds.nd rfl (Or.inl rfl) (z_lst (za_cons z_int za_nil)))) zs_nil) (zs_cons (z_ret (z_lc (own := [("cell", 3)]) rfl sc__law_rounds.nd (zi_list (z_var 2)) (blkOk_by (by rfl)) (grel_name (by decide)) (fun _ _ _ _ _ => (pg_name (i := 3) sc__law_rounds.nd rfl (Or.inl rfl))) (fun _ _ _ _ _ => zts_nil) (fun _ _ _ _ _ => (z_dc0 D__law_dice hr (by decide) (by rfl) (za_cons (z_var 3) za_nil))))) zs_nil))), ?_⟩
    walk_at "zr"
    refine hsl _ fun p G1 np h1 => ?_
    have fin : ∀ (pc : Addr) (i : Int) (G2 : Gp) (x y : D) (z : Option D), Ext G G2 → G2 pc = some (.lst [.int i]) →
        zSeq (zRet (zLc (zList (zVar 2)) (zName 3) zYes (zCall spDice X0 (zCons (zVar 3) zNil)) [3])) zNext { nx := fun _ G' => Q .non G', rt := Q } [some x, some y, some (.ref pc), z] G2 := fun pc i G2 x y z e2 hpc => by
      walk_at "zr"
      refine ⟨fun k acc G' => Ext G2 G' ∧ (k = 0 → acc = [] ) ∧ (k = 1 → ∃ d m, acc = [.ref d] ∧ G' d = some m ∧ isDice m), ⟨Ext.refl _, fun _ => rfl, fun h => absurd h (by decide)⟩, ?_, ?_⟩
      · rintro k d acc G' hk ⟨e3, h0, _⟩
        have hk0 : k = 0 := by
          have := (List.getElem?_eq_some_iff.mp hk).1
          simp at this
          omega
        subst hk0
        obtain rfl := h0 rfl
        cases Option.some.inj hk
        refine ⟨e3 _ _ hpc, by decide, ?_⟩
        walk_at "zr"
        refine ⟨i, rfl, fun q m G4 nq hi h4 => ⟨e3.trans (h4.ext nq), fun h => absurd h (by decide), fun _ => ⟨q, m, rfl, h4.is, hi⟩⟩⟩
      · rintro acc G' ⟨e3, _, h1⟩
        obtain ⟨d, m, rfl, hd, hi⟩ := h1 rfl
        refine ⟨e3 _ _ hpc, fun q G4 nq h4 => ?_⟩
        have ndq : d ≠ q := fun z => by rw [← z, hd] at nq; cases nq
        exact hq q d m G4 ((e2.trans e3).trans (h4.ext nq)) h4.is ((h4.other d ndq).trans hd) hi (Ne.symm ndq)
    walk_at "zr"
    intro q G2 nq h2
    have e1 : Ext G G2 := (h1.ext np).trans (h2.ext nq)
    have p2 : G2 p = some (.lst ((ns.map D.int).take 1)) := h2.ext nq _ _ h1.is
    cases ns with
    | nil =>
      refine r_eqL p2 h2.is rfl rfl fun c hc => ?_
      walk_at "zr"
      refine r_iff hc (fun _ => ?_) fun h => absurd rfl h
      walk_at "zr"
      intro r G3 nr h3
      exact fin r 0 G3 _ _ _ (e1.trans (h3.ext nr)) h3.is
    | cons i ns =>
      refine r_eqL p2 h2.is rfl rfl fun c hc => ?_
      walk_at "zr"
      refine r_iff hc (fun h => by cases h) fun _ => ?_
      refine r_nx1 ?_
      exact fin p i G2 _ _ _ e1 p2

end
end K24

namespace K24
open PySem PySem.Spec PyProof.Rows L2 Z
local macro_rules | `(tactic| walk_at "zr") => `(tactic| (repeat' (with_reducible first | refine r_asg ?_ | refine r_asgT ?_ | refine r_asgG ?_ | refine r_asg1 ?_ | refine r_if ?_ | refine r_if1 ?_ | refine r_drop ?_ | refine r_drop1 ?_ | refine r_ret ?_ | refine r_ret1 ?_ | refine r_retN ?_ | refine r_nx ?_ | refine r_nx1 ?_ | refine r_bk ?_ | refine r_ct ?_ | refine r_par ?_ | refine r_par1 ?_ | refine r_par3 ?_ | refine r_par31 ?_ | refine r_for ?_ | refine r_for1 ?_ | refine r_sfld ?_ | refine r_sfld1 ?_ | refine r_aug (by with_unfolding_all rfl) ?_ | refine r_aug1 (by with_unfolding_all rfl) ?_ | refine r_var (by with_unfolding_all rfl) ?_ | refine r_c ?_ | refine r_op ?_ | refine r_ifE ?_ | refine r_nil ?_ | refine r_cons ?_ | refine r_tup ?_ | refine r_lst ?_ | refine r_cb ?_ | refine r_call ?_ | refine r_test ?_ | refine r_not ?_ | refine r_and ?_ | refine r_or ?_ | refine r_andV ?_ | refine r_orV ?_ | refine r_notV ?_ | refine r_neg ?_ | refine r_bm ?_ | refine r_bm0 ?_ | refine r_sl ?_ | refine r_part ?_ | refine r_noP ?_ | refine r_chain ?_ | refine r_int2 ?_ | refine r_eqI ?_ | refine r_eqS ?_ | refine r_eqB ?_ | refine r_fInt ?_ | refine r_fIntB ?_ | refine r_fAbs ?_ | refine r_fMin ?_ | refine r_lenT ?_ | refine r_isNN ?_ | refine r_isNI ?_ | refine r_isNT ?_ | refine r_isNR ?_ | refine r_ixT0 ?_ | refine r_ixT1 ?_ | refine r_ixT2 ?_ | refine r_ixT3 ?_ | refine r_fld ?_ | refine r_kfld (by assumption) rfl ?_ | refine r_list ?_ | refine r_klist (by assumption) ?_ | refine r_tupI ?_ | refine r_ktupI ?_ | refine r_yes ?_ | refine r_kctI ?_ | refine r_rng1 ?_ | refine r_rng2 ?_ | refine r_enum ?_ | refine r_kenumT ?_ | refine r_kenum (by assumption) ?_ | refine r_fListT ?_ | refine r_fTupT ?_ | refine r_fListR (by assumption) ?_ | refine r_fTupR (by assumption) ?_ | refine r_lenR (by assumption) ?_ | refine r_rev ?_ | refine r_krevT ?_ | refine r_krev (by assumption) ?_ | refine r_setL ?_ | refine r_dget ?_ | refine r_lc0 ?_ | refine r_name ?_ | refine r_gtup (by with_unfolding_all rfl) ?_ | refine r_gcons ?_ | refine r_gnil ?_ | refine r_din ?_ | refine r_setd ?_ | refine r_ksetdA (by assumption) ?_ | refine r_keysI ?_ | refine r_kkeysI (by assumption) ?_ | refine r_dput ?_ | refine r_dput1 ?_ | refine r_dnewK ?_ | refine r_szc (by with_unfolding_all exact Nat.le_of_ble_eq_true rfl) ?_ | refine r_eqlen (by with_unfolding_all rfl) ?_ | refine r_ifT (by decide) ?_ | refine r_ifF (by decide) ?_ | refine r_inFT (b := false) rfl rfl (by decide) ?_ | refine r_inFT (b := true) rfl rfl (by decide) ?_ | refine r_lrng ?_)))
theorem roll_at {d : Addr} {n : Int} {m : MO} {G : Gp} {R : DK} {E : XKz} (ha : G d = some m) (hi : isDice m) (N : Nat) (hn : n = (N : Int)) (h1 : 1 ≤ N) (h2 : N < 1073741824) (q : ∀ (k : Nat) G', k < N → Rolled d G G' → R (.int (k : Int)) G') : spRoll [.ref d, .int n] G R E := by
  refine ⟨d, n, m, rfl, ha, hi, by omega, by omega, fun r G' r0 r1 h => ?_⟩
  obtain ⟨k, rfl⟩ := Int.eq_ofNat_of_zero_le r0
  exact q k G' (by omega) h
theorem Rolled.at_ {d b : Addr} {G G' : Gp} {x : MO} (h : Rolled d G G') (n : b ≠ d) (q : G b = some x) : G' b = some x := h.other b x n q
theorem Rolled.none_ {d b : Addr} {G G' : Gp} {m : MO} (h : Rolled d G G') (hd : G d = some m) (q : G' b = none) : G b = none := by
  cases e : G b with
  | none => rfl
  | some x =>
    by_cases hb : b = d
    · obtain ⟨m', h1, _⟩ := h.dice
      rw [hb, h1] at q
      cases q
    · rw [h.other b x hb e] at q
      cases q
def AtmIn (a : Atm) (hs : Vs) : Prop := ∀ x, a = .var x → x ∈ hs
def spNext : ZSp := fun ds G Q _ => ∃ (m : Addr) (c : Nat), ds = [.ref m] ∧ G m = some (.lst [iD c]) ∧ ∀ G', At G m (.lst [iD (c + 1)]) G' → Q (iD (c + 1)) G'
def spSome : ZSp := fun ds G Q _ => ∃ (d h : Addr) (m : MO) (hs : Vs), ds = [.ref d, .ref h] ∧ G d = some m ∧ isDice m ∧ G h = some (.lst (intsD hs)) ∧ h ≠ d ∧ 0 < hs.length ∧ hs.length ≤ 1000 ∧ ∀ a G', Rolled d G G' → AtmIn a hs → Q a.d G'
def spRow : ZSp := fun ds G Q _ => ∃ (d h : Addr) (m : MO) (hs : Vs), ds = [.ref d, .ref h] ∧ G d = some m ∧ isDice m ∧ G h = some (.lst (intsD hs)) ∧ h ≠ d ∧ 0 < hs.length ∧ hs.length ≤ 1000 ∧ ∀ (r : Row) G', Rolled d G G' → (∀ x, .var x ∈ r.atoms → x ∈ hs) → Q r.d G'
def spEnd : ZSp := fun ds G Q _ => ∃ (d h ar : Addr) (m : MO) (hs : Vs) (As : List Nat), ds = [.ref d, .ref h, .ref ar] ∧ G d = some m ∧ isDice m ∧ G h = some (.lst (intsD hs)) ∧ h ≠ d ∧ 0 < hs.length ∧ hs.length ≤ 1000 ∧
  G ar = some (.lst (As.map iD)) ∧ ar ≠ d ∧ 2 ≤ As.length ∧ As.length ≤ 8 ∧ (∀ a ∈ As, a ≤ 2) ∧ ∀ (e : End) G', Rolled d G G' → EndOk hs As e → Q e.d G'
section
variable [τ : Tbl] {P : Program} {w : World} {K : PySem.W.Frag} {mg : Str → Option Value} {base : Heap} {CB CG aA : Addr} {eA : Array DictEntry} {nA : Nat}
theorem ok_Next {f : Addr} {fd : FuncData} (FF : Fun K "_law_next" "_law_next" s__law_next f fd) (T : Txt K w mg CB CG aA eA nA) : FnOk P w K mg base (L2.CX P w) 1 f fd ["made"] (upSp K spNext) :=
  z_fn FF sc__law_next (fun ds G Q E h => by obtain ⟨_, _, rfl, _⟩ := h; rfl) fun bas cdv A outer s H E hr ds G Q E0 hE hz => by
    obtain ⟨m, c, rfl, hm, hq⟩ := hz
    refine ⟨_, (zs_cons (z_asg (z_op zo_add (z_ix (z_var 0) z_int) z_int) (zg_setL (z_var 0) z_int)) (zs_cons (z_ret (z_ix (z_var 0) z_int)) zs_nil)), ?_⟩
    walk_at "zr"
    refine r_ixR (n := 0) hm rfl ?_
    walk_at "zr"
    refine r_ksetL (n := 0) hm (by simp) fun G1 h1 => ?_
    have h1' : At G m (.lst [iD (c + 1)]) G1 := h1
    have i1 := h1'.is
    walk_at "zr"
    refine r_ixR (n := 0) i1 rfl ?_
    exact hq G1 h1'
theorem ok_Some {f : Addr} {fd : FuncData} (FF : Fun K "_law_some" "_law_some" s__law_some f fd) (T : Txt K w mg CB CG aA eA nA) (D__law_roll : Dfn P w K mg base "_law_roll" 1 ["dice", "many"] spRoll) : FnOk P w K mg base (L2.CX P w) 2 f fd ["dice", "here"] (upSp K spSome) :=
  z_fn FF sc__law_some (fun ds G Q E h => by obtain ⟨_, _, _, _, rfl, _⟩ := h; rfl) fun bas cdv A outer s H E hr ds G Q E0 hE hz => by
    obtain ⟨d, h, m, hs, rfl, hd, hi, hh, hne, h0, h1, hq⟩ := hz
    refine ⟨_, (zs_cons (z_if (z_tcmp zo_eqF (z_dc0 D__law_roll hr (by decide) (by rfl) (za_cons (z_var 0) (za_cons z_int za_nil))) z_int) (zs_one (z_ret (z_tup (za_cons z_str (za_cons (z_op zo_sub (z_dc0 D__law_roll hr (by decide) (by rfl) (za_cons (z_var 0) (za_cons z_int za_nil))) z_int) za_nil))))) zs_nil) (zs_cons (z_ret (z_tup (za_cons z_str (za_cons (z_ix (z_var 1) (z_dc0 D__law_roll hr (by decide) (by rfl) (za_cons (z_var 0) (za_cons (z_callB zf_len (by rfl) T.z_len (by rfl) (za_cons (z_var 1) za_nil)) za_nil)))) za_nil)))) zs_nil)), ?_⟩
    walk_at "zr"
    refine roll_at hd hi 4 rfl (by decide) (by decide) fun k G1 hk R1 => ?_
    obtain ⟨m1, d1, i1⟩ := R1.dice
    have hh1 := R1.at_ hne hh
    walk_at "zr"
    refine r_ndec (fun _ => ?_) fun _ => ?_
    · walk_at "zr"
      refine roll_at d1 i1 5 rfl (by decide) (by decide) fun j G2 hj R2 => ?_
      walk_at "zr"
      exact hq (.int ((j : Int) - 1)) G2 (R1.trans R2) fun x e => by cases e
    · walk_at "zr"
      rw [intsD_len]
      refine roll_at d1 i1 hs.length rfl h0 (by omega) fun j G2 hj R2 => ?_
      have hh2 := R2.at_ hne hh1
      walk_at "zr"
      refine r_ixR hh2 (x := .int hs[j]) (by unfold intsD; rw [List.getElem?_map, List.getElem?_eq_getElem hj]; rfl) ?_
      walk_at "zr"
      exact hq (.var hs[j]) G2 (R1.trans R2) fun x e => by cases e; exact List.getElem_mem hj
theorem sign_get {k : Nat} (h : k < 8) : ([.str "+", .str "-", .str "*", .str "<", .str "==", .str "/", .str "mod", .str "<="] : List D)[k]? = some (.str (signs.getD k "+")) := by
  match k, h with
  | 0, _ | 1, _ | 2, _ | 3, _ | 4, _ | 5, _ | 6, _ | 7, _ => rfl
theorem ok_Row {f : Addr} {fd : FuncData} (FF : Fun K "_law_row" "_law_row" s__law_row f fd) (T : Txt K w mg CB CG aA eA nA) (D__law_roll : Dfn P w K mg base "_law_roll" 1 ["dice", "many"] spRoll) (D__law_some : Dfn P w K mg base "_law_some" 2 ["dice", "here"] spSome) : FnOk P w K mg base (L2.CX P w) 3 f fd ["dice", "here"] (upSp K spRow) :=
  z_fn FF sc__law_row (fun ds G Q E h => by obtain ⟨_, _, _, _, rfl, _⟩ := h; rfl) fun bas cdv A outer s H E hr ds G Q E0 hE hz => by
    obtain ⟨d, h, m, hs, rfl, hd, hi, hh, hne, h0, h1, hq⟩ := hz
    refine ⟨_, (zs_cons (z_set (i := 2) sc__law_row.nd rfl (Or.inl rfl) (z_dc0 D__law_roll hr (by decide) (by rfl) (za_cons (z_var 0) (za_cons z_int za_nil)))) (zs_cons (z_if (z_tcmp zo_lt (z_var 2) z_int) (zs_one (z_ret (z_tup (za_cons (z_ix (z_lst (za_cons z_str (za_cons z_str za_nil))) (z_var 2)) (za_cons (z_dc0 D__law_some hr (by decide) (by rfl) (za_cons (z_var 0) (za_cons (z_var 1) za_nil))) za_nil))))) zs_nil) (zs_cons (z_set (i := 3) sc__law_row.nd rfl (Or.inl rfl) (z_ix (z_lst (za_cons z_str (za_cons z_str (za_cons z_str (za_cons z_str (za_cons z_str (za_cons z_str (za_cons z_str (za_cons z_str za_nil))))))))) (z_dc0 D__law_roll hr (by decide) (by rfl) (za_cons (z_var 0) (za_cons z_int za_nil))))) (zs_cons (z_ret (z_tup (za_cons z_str (za_cons (z_var 3) (za_cons (z_tup (za_cons (z_dc0 D__law_some hr (by decide) (by rfl) (za_cons (z_var 0) (za_cons (z_var 1) za_nil))) (za_cons (z_dc0 D__law_some hr (by decide) (by rfl) (za_cons (z_var 0) (za_cons (z_var 1) za_nil))) za_nil))) za_nil))))) zs_nil)))), ?_⟩
    walk_at "zr"
    refine roll_at hd hi 8 rfl (by decide) (by decide) fun k G1 hk R1 => ?_
    obtain ⟨m1, d1, i1⟩ := R1.dice
    have hh1 := R1.at_ hne hh
    walk_at "zr"
    refine r_dec (fun hk2 => ?_) fun hk2 => ?_
    · walk_at "zr"
      intro p G2 np h2
      have d2 := h2.ext np _ _ d1
      have hh2 := h2.ext np _ _ hh1
      have k01 : k = 0 ∨ k = 1 := by omega
      have hk3 : ([.str "print", .str "atom"] : List D)[k]? = some (.str (if k = 0 then "print" else "atom")) := by rcases k01 with rfl | rfl <;> rfl
      walk_at "zr"
      refine r_ixR h2.is hk3 ?_
      walk_at "zr"
      refine ⟨d, h, _, hs, rfl, d2, i1, hh2, hne, h0, h1, fun a G3 R3 ha => ?_⟩
      walk_at "zr"
      have RR := (R1.ext (h2.ext np)).trans R3
      rcases k01 with rfl | rfl
      · exact hq (.print a) G3 RR fun x hx => ha x (List.mem_singleton.mp hx).symm
      · exact hq (.atom a) G3 RR fun x hx => ha x (List.mem_singleton.mp hx).symm
    · walk_at "zr"
      intro p G2 np h2
      have d2 := h2.ext np _ _ d1
      have hh2 := h2.ext np _ _ hh1
      have nph : p ≠ d := fun z => by rw [z, d1] at np; cases np
      walk_at "zr"
      refine roll_at d2 i1 8 rfl (by decide) (by decide) fun j G3 hj R3 => ?_
      obtain ⟨m3, d3, i3⟩ := R3.dice
      have hh3 := R3.at_ hne hh2
      refine r_ixR (R3.at_ nph h2.is) (sign_get hj) ?_
      walk_at "zr"
      refine ⟨d, h, _, hs, rfl, d3, i3, hh3, hne, h0, h1, fun a G4 R4 ha => ?_⟩
      obtain ⟨m4, d4, i4⟩ := R4.dice
      have hh4 := R4.at_ hne hh3
      walk_at "zr"
      refine ⟨d, h, _, hs, rfl, d4, i4, hh4, hne, h0, h1, fun b G5 R5 hb => ?_⟩
      walk_at "zr"
      refine hq (.prim j a b) G5 (((R1.ext (h2.ext np)).trans R3).trans (R4.trans R5)) fun x hx => ?_
      rcases List.mem_cons.mp hx with e | e
      · exact ha x e.symm
      · exact hb x (List.mem_singleton.mp e).symm
def bareN (As : List Nat) : List Nat := ((List.range (As.length - 1)).map (· + 1)).filter fun t => decide (As[t]? = some 0)
theorem ok_End {f : Addr} {fd : FuncData} (FF : Fun K "_law_end" "_law_end" s__law_end f fd) (T : Txt K w mg CB CG aA eA nA) (D__law_roll : Dfn P w K mg base "_law_roll" 1 ["dice", "many"] spRoll) (D__law_some : Dfn P w K mg base "_law_some" 2 ["dice", "here"] spSome) : FnOk P w K mg base (L2.CX P w) 3 f fd ["dice", "here", "arities"] (upSp K spEnd) :=
  z_fn FF sc__law_end (fun ds G Q E h => by obtain ⟨_, _, _, _, _, _, rfl, _⟩ := h; rfl) fun bas cdv A outer s H E hr ds G Q E0 hE hz => by
    obtain ⟨d, h, ar, m, hs, As, rfl, hd, hi, hh, hne, h0, h1, ha, ane, a2, a8, asm, hq⟩ := hz
    refine ⟨_, (zs_cons (z_asg (z_tup (za_cons (z_dc0 D__law_roll hr (by decide) (by rfl) (za_cons (z_var 0) (za_cons z_int za_nil))) (za_cons (z_lc (own := [("k", 3)]) rfl sc__law_end.nd (zi_rng2 (by rfl) T.z_range (za_cons z_int (za_cons (z_callB zf_len (by rfl) T.z_len (by rfl) (za_cons (z_var 2) za_nil)) za_nil))) (blkOk_by (by rfl)) (grel_name (by decide)) (fun _ _ _ _ _ => (pg_name (i := 3) sc__law_end.nd rfl (Or.inl rfl))) (fun _ _ _ _ _ => (zts_one (z_tcmp zo_eqF (z_ix (z_var 2) (z_var 3)) z_int))) (fun _ _ _ _ _ => (z_var 3))) za_nil))) (zg_tup (n := 2) rfl (zgs_cons (zg_name (i := 4) sc__law_end.nd rfl (Or.inl rfl)) (zgs_cons (zg_name (i := 5) sc__law_end.nd rfl (Or.inr rfl)) zgs_nil)))) (zs_cons (z_if (z_tcmp zo_eqF (z_var 4) z_int) (zs_one (z_ret (z_tup (za_cons (z_ix (z_lst (za_cons z_str (za_cons z_str za_nil))) (z_dc0 D__law_roll hr (by decide) (by rfl) (za_cons (z_var 0) (za_cons z_int za_nil)))) (za_cons (z_dc0 D__law_some hr (by decide) (by rfl) (za_cons (z_var 0) (za_cons (z_var 1) za_nil))) za_nil))))) zs_nil) (zs_cons (z_if (zw_t (zw_and (z_tcmp zo_lt (z_var 4) z_int) (zw_and1 (z_tcmp (zo_neP hr.units) (z_var 5) (z_lst za_nil))))) (zs_cons (z_set (i := 6) sc__law_end.nd rfl (Or.inl rfl) (z_callTy zf_tuple (by rfl) T.z_tuple (by rfl) (za_cons (z_lc (own := [("k", 3)]) rfl sc__law_end.nd (zi_rng1 (by rfl) T.z_range (za_cons (z_dc0 D__law_roll hr (by decide) (by rfl) (za_cons (z_var 0) (za_cons z_int za_nil))) za_nil)) (blkOk_by (by rfl)) (grel_name (by decide)) (fun _ _ _ _ _ => (pg_name (i := 3) sc__law_end.nd rfl (Or.inl rfl))) (fun _ _ _ _ _ => zts_nil) (fun _ _ _ _ _ => (z_tup (za_cons (z_var 3) (za_cons (z_ix (z_var 5) (z_dc0 D__law_roll hr (by decide) (by rfl) (za_cons (z_var 0) (za_cons (z_callB zf_len (by rfl) T.z_len (by rfl) (za_cons (z_var 5) za_nil)) za_nil)))) za_nil))))) za_nil))) (zs_cons (z_ret (z_tup (za_cons z_str (za_cons (z_dc0 D__law_some hr (by decide) (by rfl) (za_cons (z_var 0) (za_cons (z_var 1) za_nil))) (za_cons (z_var 6) (za_cons (z_ix (z_var 5) (z_dc0 D__law_roll hr (by decide) (by rfl) (za_cons (z_var 0) (za_cons (z_callB zf_len (by rfl) T.z_len (by rfl) (za_cons (z_var 5) za_nil)) za_nil)))) za_nil)))))) zs_nil)) zs_nil) (zs_cons (z_set (i := 7) sc__law_end.nd rfl (Or.inl rfl) (z_op zo_add z_int (z_dc0 D__law_roll hr (by decide) (by rfl) (za_cons (z_var 0) (za_cons (z_op zo_sub (z_callB zf_len (by rfl) T.z_len (by rfl) (za_cons (z_var 2) za_nil)) z_int) za_nil))))) (zs_cons (z_ret (z_tup (za_cons z_str (za_cons (z_var 7) (za_cons (z_callTy zf_tuple (by rfl) T.z_tuple (by rfl) (za_cons (z_lc (own := [("k", 3)]) rfl sc__law_end.nd (zi_rng1 (by rfl) T.z_range (za_cons (z_ix (z_var 2) (z_var 7)) za_nil)) (blkOk_by (by rfl)) (grel_name (by decide)) (fun _ _ _ _ _ => (pg_name (i := 3) sc__law_end.nd rfl (Or.inl rfl))) (fun _ _ _ _ _ => zts_nil) (fun _ _ _ _ _ => (z_dc0 D__law_some hr (by decide) (by rfl) (za_cons (z_var 0) (za_cons (z_var 1) za_nil))))) za_nil)) za_nil))))) zs_nil))))), ?_⟩
    walk_at "zr"
    refine roll_at hd hi 6 rfl (by decide) (by decide) fun k G1 hk R1 => ?_
    obtain ⟨m1, d1, i1⟩ := R1.dice
    have hh1 := R1.at_ hne hh
    have ha1 := R1.at_ ane ha
    walk_at "zr"
    rw [List.length_map]
    refine ⟨⟨by omega, by omega, by omega, by omega⟩, ?_⟩
    refine lc_pure (fun x => match x with | .int i => decide (As[i.toNat]? = some 0) | _ => false) id trivial (by rw [rngD_len]; exact big_lt (by omega)) (fun i dd R acc hi2 c1 c2 => ?_) fun p G2 np h2 => ?_
    · obtain ⟨hlt, rfl⟩ := rngD_get hi2
      have e1 : (1 : Int) + (i : Nat) = ((i + 1 : Nat) : Int) := by omega
      rw [e1] at c1 c2 ⊢
      have hil : i + 1 < As.length := by omega
      have hix : (As.map iD)[i + 1]? = some (iD As[i + 1]) := by rw [List.getElem?_map, List.getElem?_eq_getElem hil]; rfl
      walk_at "zr"
      refine r_ixR ha1 hix ?_
      walk_at "zr"
      refine r_ndec (fun e => ?_) fun e => ?_
      · walk_at "zr"
        refine c1 ?_
        show decide (As[((i + 1 : Nat) : Int).toNat]? = some 0) = true
        rw [Int.toNat_natCast, List.getElem?_eq_getElem hil]
        simp
        omega
      · walk_at "zr"
        refine c2 ?_
        show decide (As[((i + 1 : Nat) : Int).toNat]? = some 0) = false
        rw [Int.toNat_natCast, List.getElem?_eq_getElem hil]
        simp
        omega
    · have d2 := h2.ext np _ _ d1
      have hh2 := h2.ext np _ _ hh1
      have ha2 := h2.ext np _ _ ha1
      have R2 := R1.ext (h2.ext np)
      have pd : p ≠ d := fun z => by rw [z, d1] at np; cases np
      have hb : G2 p = some (.lst ((bareN As).map iD)) := by
        rw [h2.is]
        congr 2
        unfold bareN rngD
        rw [List.map_id, show ((As.length : Int) - 1).toNat = As.length - 1 by omega]
        have e1 : ((List.range (As.length - 1)).map fun i => D.int (1 + (i : Nat))) = ((List.range (As.length - 1)).map (· + 1)).map iD := by
          rw [List.map_map]
          exact List.map_congr_left fun i _ => by
            show D.int (1 + (i : Nat)) = D.int ((i + 1 : Nat) : Int)
            congr 1
            omega
        rw [e1, List.filter_map]
        rfl
      have bl : (bareN As).length ≤ 8 := by
        unfold bareN
        have := List.length_filter_le (fun t => decide (As[t]? = some 0)) ((List.range (As.length - 1)).map (· + 1))
        simp at this
        omega
      have bm : ∀ t ∈ bareN As, As[t]? = some 0 := fun t ht => by
        unfold bareN at ht
        have := (List.mem_filter.mp ht).2
        simpa using this
      walk_at "zr"
      refine r_ndec (fun hk0 => ?_) fun hk0 => ?_
      · walk_at "zr"
        intro p3 G3 n3 h3
        have d3 := h3.ext n3 _ _ d2
        have p3d : p3 ≠ d := fun z => by rw [z, d2] at n3; cases n3
        walk_at "zr"
        refine roll_at d3 i1 2 rfl (by decide) (by decide) fun j G4 hj R4 => ?_
        obtain ⟨m4, d4, i4⟩ := R4.dice
        have hh4 := R4.at_ hne (h3.ext n3 _ _ hh2)
        have j01 : j = 0 ∨ j = 1 := by omega
        have hj3 : ([.str "ret", .str "raise"] : List D)[j]? = some (.str (if j = 0 then "ret" else "raise")) := by rcases j01 with rfl | rfl <;> rfl
        refine r_ixR (R4.at_ p3d h3.is) hj3 ?_
        walk_at "zr"
        refine ⟨d, h, _, hs, rfl, d4, i4, hh4, hne, h0, h1, fun a G5 R5 haa => ?_⟩
        walk_at "zr"
        have RR := (R2.ext (h3.ext n3)).trans (R4.trans R5)
        have oke : ∀ x, .var x ∈ [a] → x ∈ hs := fun x hx => haa x (List.mem_singleton.mp hx).symm
        rcases j01 with rfl | rfl
        · exact hq (.ret a) G5 RR ⟨oke, fun t ht => (by cases ht), by simp [targets], by simp [End.atoms]⟩
        · exact hq (.raise a) G5 RR ⟨oke, fun t ht => (by cases ht), by simp [targets], by simp [End.atoms]⟩
      · refine r_nx1 ?_
        have jump : ∀ Gx, Ext G2 Gx → zSeq (zAsg (zOp (dI0 fun i j => D.int (i + j)) (zC (.int 1)) (zCall spRoll X0 (zCons (zVar 0) (zCons (zOp (dI0 fun i j => D.int (i - j)) (zCB fLen (zCons (zVar 2) zNil)) (zC (.int 1))) zNil)))) (zName 7))
            (zSeq (zRet (zTup (zCons (zC (.str "jump")) (zCons (zVar 7) (zCons (zCB fTupL (zCons (zLc (zRng1 (zCons (zOp dIx (zVar 2) (zVar 7)) zNil)) (zName 3) zYes (zCall spSome X0 (zCons (zVar 0) (zCons (zVar 1) zNil))) [3]) zNil)) zNil))))) zNext)
            { nx := fun _ G' => Q .non G', rt := Q } [some (.ref d), some (.ref h), some (.ref ar), none, some (.int k), some (.ref p), none, none] Gx := by
          intro Gx ex
          have dx := ex _ _ d2
          have hx := ex _ _ hh2
          have ax := ex _ _ ha2
          have Rx := R2.ext ex
          walk_at "zr"
          rw [List.length_map]
          refine roll_at dx i1 (As.length - 1) (by omega) (by omega) (by omega) fun j G4 hj R4 => ?_
          obtain ⟨m4, d4, i4⟩ := R4.dice
          have hh4 := R4.at_ hne hx
          have ha4 := R4.at_ ane ax
          have ej : (1 : Int) + (j : Nat) = ((j + 1 : Nat) : Int) := by omega
          walk_at "zr"
          rw [ej]
          have hil : j + 1 < As.length := by omega
          have hAs : As[j + 1]? = some As[j + 1] := List.getElem?_eq_getElem hil
          generalize hn : As[j + 1] = n at hAs
          have n2 : n ≤ 2 := asm n (List.mem_of_getElem? hAs)
          have hix : (As.map iD)[j + 1]? = some (iD n) := by rw [List.getElem?_map, hAs]; rfl
          refine r_ixR ha4 hix ?_
          walk_at "zr"
          refine r_krng1 (by omega) ?_
          refine ⟨fun i acc G5 => Rolled d G4 G5 ∧ ∃ as : List Atm, acc = as.map Atm.d ∧ as.length = i ∧ ∀ a ∈ as, AtmIn a hs, ⟨Rolled.start d4 i4, [], rfl, rfl, fun a ha => (by cases ha)⟩, ?_, ?_⟩
          · rintro i dd acc G5 hi5 ⟨R5, as, rfl, las, asok⟩
            have hil5 := (rngD_get hi5).1
            refine ⟨trivial, big_lt (by rw [List.length_map]; omega), ?_⟩
            obtain ⟨m5, d5, i5⟩ := R5.dice
            walk_at "zr"
            refine ⟨d, h, _, hs, rfl, d5, i5, R5.at_ hne hh4, hne, h0, h1, fun a G6 R6 haa => ?_⟩
            refine ⟨R5.trans R6, as ++ [a], by simp, by simp [las], fun b hb => ?_⟩
            rcases List.mem_append.mp hb with hb | hb
            · exact asok b hb
            · rw [List.mem_singleton.mp hb]; exact haa
          · rintro acc G5 ⟨R5, as, rfl, las, asok⟩
            rw [rngD_len] at las
            refine ⟨trivial, fun p6 G6 n6 h6 => ?_⟩
            have h6i := h6.is
            walk_at "zr"
            refine hq (.jump (j + 1) as) G6 (Rx.trans ((R4.trans R5).ext (h6.ext n6))) ⟨fun x hx => asok _ hx x rfl, fun t ht => ?_, by simp [targets], by show as.length ≤ 10; omega⟩
            rw [List.mem_singleton.mp ht, hAs]
            show some n = some as.length
            rw [las]
        walk_at "zr"
        refine r_dec (fun hk3 => ?_) fun hk3 => ?_
        · walk_at "zr"
          intro p3 G3 n3 h3
          have e3 := h3.ext n3
          have hb3 := e3 _ _ hb
          refine r_eqL hb3 h3.is (all_iD _) rfl fun c hc => ?_
          walk_at "zr"
          refine r_niff hc (fun he => ?_) fun he => ?_
          · refine r_nx1 ?_
            exact jump G3 e3
          · have bne : bareN As ≠ [] := fun z => he (by rw [z]; rfl)
            have bpos : 0 < (bareN As).length := List.length_pos_iff.mpr bne
            have d3 := e3 _ _ d2
            have hh3 := e3 _ _ hh2
            have R3 := R2.ext e3
            walk_at "zr"
            refine roll_at d3 i1 3 rfl (by decide) (by decide) fun j G4 hj R4 => ?_
            obtain ⟨m4, d4, i4⟩ := R4.dice
            have hh4 := R4.at_ hne hh3
            have hb4 := R4.at_ pd hb3
            walk_at "zr"
            refine r_krng1 (by omega) ?_
            refine ⟨fun i acc G5 => Rolled d G4 G5 ∧ ∃ cs : List Nat, acc = (cs.zipIdx.map fun p => .tup [iD p.2, iD p.1]) ∧ cs.length = i ∧ ∀ t ∈ cs, t ∈ bareN As, ⟨Rolled.start d4 i4, [], rfl, rfl, fun a ha => (by cases ha)⟩, ?_, ?_⟩
            · rintro i dd acc G5 hi5 ⟨R5, cs, rfl, las, csok⟩
              obtain ⟨hil5, rfl⟩ := rngD_get hi5
              rw [Int.zero_add]
              refine ⟨trivial, big_lt (by simp [las]; omega), ?_⟩
              obtain ⟨m5, d5, i5⟩ := R5.dice
              have hb5 := R5.at_ pd hb4
              walk_at "zr"
              rw [List.length_map]
              refine roll_at d5 i5 (bareN As).length rfl bpos (by omega) fun l G6 hl6 R6 => ?_
              have hb6 := R6.at_ pd hb5
              have hix : ((bareN As).map iD)[l]? = some (iD (bareN As)[l]) := by rw [List.getElem?_map, List.getElem?_eq_getElem hl6]; rfl
              refine r_ixR hb6 hix ?_
              walk_at "zr"
              refine ⟨R5.trans R6, cs ++ [(bareN As)[l]], ?_, by simp [las], fun t ht => ?_⟩
              · rw [List.zipIdx_append, List.map_append, Nat.zero_add, las]
                rfl
              · rcases List.mem_append.mp ht with ht | ht
                · exact csok t ht
                · rw [List.mem_singleton.mp ht]; exact List.getElem_mem hl6
            · rintro acc G5 ⟨R5, cs, rfl, las, csok⟩
              rw [rngD_len] at las
              refine ⟨trivial, fun p6 G6 n6 h6 => ?_⟩
              have h6i := h6.is
              obtain ⟨m5, d5, i5⟩ := R5.dice
              have e6 := h6.ext n6
              have d6 := e6 _ _ d5
              have hh6 := e6 _ _ (R5.at_ hne hh4)
              have hb6 := e6 _ _ (R5.at_ pd hb4)
              walk_at "zr"
              refine ⟨d, h, _, hs, rfl, d6, i5, hh6, hne, h0, h1, fun a G7 R7 haa => ?_⟩
              obtain ⟨m7, d7, i7⟩ := R7.dice
              have hb7 := R7.at_ pd hb6
              walk_at "zr"
              rw [List.length_map]
              refine roll_at d7 i7 (bareN As).length rfl bpos (by omega) fun l G8 hl8 R8 => ?_
              have hb8 := R8.at_ pd hb7
              have hix : ((bareN As).map iD)[l]? = some (iD (bareN As)[l]) := by rw [List.getElem?_map, List.getElem?_eq_getElem hl8]; rfl
              refine r_ixR hb8 hix ?_
              walk_at "zr"
              refine hq (.switch a cs (bareN As)[l]) G8 (R3.trans (R4.trans ((R5.ext e6).trans (R7.trans R8)))) ⟨fun x hx => haa x (List.mem_singleton.mp hx).symm, fun t ht => ?_, ?_, by simp [End.atoms]⟩
              · have : t ∈ bareN As := by
                  rcases List.mem_append.mp ht with ht | ht
                  · exact csok t ht
                  · rw [List.mem_singleton.mp ht]; exact List.getElem_mem hl8
                exact bm t this
              · show (cs ++ [_]).length ≤ 3
                rw [List.length_append, las]
                simp
                omega
        · refine r_ifF rfl ?_
          refine r_nx1 ?_
          exact jump G2 (Ext.refl _)
end
end K24

namespace K24
open PySem PySem.Spec PyProof.Rows L2 Z
local macro_rules | `(tactic| walk_at "zr") => `(tactic| (repeat' (with_reducible first | refine r_asg ?_ | refine r_asgT ?_ | refine r_asgG ?_ | refine r_asg1 ?_ | refine r_if ?_ | refine r_if1 ?_ | refine r_drop ?_ | refine r_drop1 ?_ | refine r_ret ?_ | refine r_ret1 ?_ | refine r_retN ?_ | refine r_nx ?_ | refine r_nx1 ?_ | refine r_bk ?_ | refine r_ct ?_ | refine r_par ?_ | refine r_par1 ?_ | refine r_par3 ?_ | refine r_par31 ?_ | refine r_for ?_ | refine r_for1 ?_ | refine r_sfld ?_ | refine r_sfld1 ?_ | refine r_aug (by with_unfolding_all rfl) ?_ | refine r_aug1 (by with_unfolding_all rfl) ?_ | refine r_var (by with_unfolding_all rfl) ?_ | refine r_c ?_ | refine r_op ?_ | refine r_ifE ?_ | refine r_nil ?_ | refine r_cons ?_ | refine r_tup ?_ | refine r_lst ?_ | refine r_cb ?_ | refine r_call ?_ | refine r_test ?_ | refine r_not ?_ | refine r_and ?_ | refine r_or ?_ | refine r_andV ?_ | refine r_orV ?_ | refine r_notV ?_ | refine r_neg ?_ | refine r_bm ?_ | refine r_bm0 ?_ | refine r_sl ?_ | refine r_part ?_ | refine r_noP ?_ | refine r_chain ?_ | refine r_int2 ?_ | refine r_eqI ?_ | refine r_eqS ?_ | refine r_eqB ?_ | refine r_fInt ?_ | refine r_fIntB ?_ | refine r_fAbs ?_ | refine r_fMin ?_ | refine r_lenT ?_ | refine r_isNN ?_ | refine r_isNI ?_ | refine r_isNT ?_ | refine r_isNR ?_ | refine r_ixT0 ?_ | refine r_ixT1 ?_ | refine r_ixT2 ?_ | refine r_ixT3 ?_ | refine r_fld ?_ | refine r_kfld (by assumption) rfl ?_ | refine r_list ?_ | refine r_klist (by assumption) ?_ | refine r_tupI ?_ | refine r_ktupI ?_ | refine r_yes ?_ | refine r_kctI ?_ | refine r_rng1 ?_ | refine r_rng2 ?_ | refine r_enum ?_ | refine r_kenumT ?_ | refine r_kenum (by assumption) ?_ | refine r_fListT ?_ | refine r_fTupT ?_ | refine r_fListR (by assumption) ?_ | refine r_fTupR (by assumption) ?_ | refine r_lenR (by assumption) ?_ | refine r_rev ?_ | refine r_krevT ?_ | refine r_krev (by assumption) ?_ | refine r_setL ?_ | refine r_dget ?_ | refine r_lc0 ?_ | refine r_name ?_ | refine r_gtup (by with_unfolding_all rfl) ?_ | refine r_gcons ?_ | refine r_gnil ?_ | refine r_din ?_ | refine r_setd ?_ | refine r_ksetdA (by assumption) ?_ | refine r_keysI ?_ | refine r_kkeysI (by assumption) ?_ | refine r_dput ?_ | refine r_dput1 ?_ | refine r_dnewK ?_ | refine r_szc (by with_unfolding_all exact Nat.le_of_ble_eq_true rfl) ?_ | refine r_eqlen (by with_unfolding_all rfl) ?_ | refine r_ifT (by decide) ?_ | refine r_ifF (by decide) ?_ | refine r_inFT (b := false) rfl rfl (by decide) ?_ | refine r_inFT (b := true) rfl rfl (by decide) ?_ | refine r_lrng ?_)))
def spGraph (CB CG : Addr) : ZSp := fun ds G Q _ => ∃ (d : Addr) (m : MO), ds = [.ref d] ∧ G d = some m ∧ isDice m ∧ ∀ a bs g G', Rolled d G G' → GrAt CB CG G' a [1, 2, 3] bs g → GOk [1, 2, 3] g → Q (.ref a) G'
/-- two addresses change, and what is new -/
structure Two (d m : Addr) (c : Nat) (G G' : Gp) : Prop where
  dice : ∃ x, G' d = some x ∧ isDice x
  made : G' m = some (.lst [iD c])
  keep : Keep [d, m] G G'
theorem Two.at_ {d m b : Addr} {c : Nat} {G G' : Gp} {x : MO} (h : Two d m c G G') (hd : b ≠ d) (hm : b ≠ m) (e : G b = some x) : G' b = some x := h.keep b x (by simp [hd, hm]) e
theorem Two.ext {d m : Addr} {c : Nat} {G G1 G2 : Gp} (h : Two d m c G G1) (e : Ext G1 G2) : Two d m c G G2 := by
  obtain ⟨x, h1, h2⟩ := h.dice
  exact ⟨⟨x, e _ _ h1, h2⟩, e _ _ h.made, h.keep.ext e⟩
theorem Two.roll {d m : Addr} {c : Nat} {G G1 G2 : Gp} (h : Two d m c G G1) (r : Rolled d G1 G2) (n : m ≠ d) : Two d m c G G2 := ⟨r.dice, r.at_ n h.made, fun b x hb q => r.other b x (fun z => hb (by simp [z])) (h.keep b x hb q)⟩
theorem Two.next {d m : Addr} {c c' : Nat} {G G1 G2 : Gp} (h : Two d m c G G1) (k : At G1 m (.lst [iD c']) G2) (n : m ≠ d) : Two d m c' G G2 := by
  obtain ⟨x, h1, h2⟩ := h.dice
  exact ⟨⟨x, (k.other d (Ne.symm n)).trans h1, h2⟩, k.is, h.keep.at_ k (.inl (by simp))⟩
theorem Two.set {d m p : Addr} {c : Nat} {G G1 G2 : Gp} {x : MO} (h : Two d m c G G1) (k : At G1 p x G2) (n : G p = none) (pd : p ≠ d) (pm : p ≠ m) : Two d m c G G2 := by
  obtain ⟨y, h1, h2⟩ := h.dice
  exact ⟨⟨y, (k.other d (Ne.symm pd)).trans h1, h2⟩, (k.other m (Ne.symm pm)).trans h.made, h.keep.at_ k (.inr n)⟩
theorem Two.none_ {d m p : Addr} {c : Nat} {G G1 : Gp} (h : Two d m c G G1) (n : G1 p = none) : G p = none := by
  cases e : G p with
  | none => rfl
  | some x =>
    by_cases hp : p ∈ [d, m]
    · simp at hp
      rcases hp with rfl | rfl
      · obtain ⟨y, h1, _⟩ := h.dice
        rw [n] at h1; cases h1
      · have := h.made
        rw [n] at this; cases this
    · rw [h.keep p x hp e] at n; cases n
theorem Two.start {d m : Addr} {c : Nat} {G : Gp} {x : MO} (h : G d = some x) (i : isDice x) (k : G m = some (.lst [iD c])) : Two d m c G G := ⟨⟨x, h, i⟩, k, Keep.refl _ _⟩
theorem Two.trans {d m : Addr} {c c' : Nat} {G G1 G2 : Gp} (h : Two d m c G G1) (k : Two d m c' G1 G2) : Two d m c' G G2 := ⟨k.dice, k.made, fun b x hb q => k.keep b x hb (h.keep b x hb q)⟩
def seqI (a n : Nat) : Vs := (List.range n).map fun i : Nat => ((a + 1 + i : Nat) : Int)
theorem seqI_snoc (a n : Nat) : seqI a (n + 1) = seqI a n ++ [((a + n + 1 : Nat) : Int)] := by
  unfold seqI
  rw [List.range_succ, List.map_append]
  congr 2
  simp
  omega
theorem seqI_app (a n : Nat) : ∀ k, seqI a n ++ seqI (a + n) k = seqI a (n + k)
  | 0 => by simp [seqI]
  | k + 1 => by
    rw [seqI_snoc, ← List.append_assoc, seqI_app a n k, show n + (k + 1) = (n + k) + 1 by omega, seqI_snoc, show a + n + k + 1 = a + (n + k) + 1 by omega]
theorem seqI_len (a n : Nat) : (seqI a n).length = n := by simp [seqI]
theorem seqI_mem {a n : Nat} {x : Int} (h : x ∈ seqI a n) : (a : Int) < x ∧ x ≤ (a + n : Nat) := by
  unfold seqI at h
  obtain ⟨i, hi, rfl⟩ := List.mem_map.mp h
  have := List.mem_range.mp hi
  omega
theorem seqI_nodup (a n : Nat) : (seqI a n).Nodup := by
  unfold seqI
  rw [List.nodup_iff_pairwise_ne, List.pairwise_map]
  exact (List.nodup_range).imp fun h z => h (by omega)
theorem BlkAt.keep {CB : Addr} {S : List Addr} {G G' : Gp} {b : Addr} {B : Blk} (h : BlkAt CB G b B) (k : Keep S G G') (l : ∀ p ∈ S, ∃ xs, G p = some (.lst xs)) : BlkAt CB G' b B := by
  obtain ⟨dx, h⟩ := h
  refine ⟨dx, k b _ (fun m => ?_) h⟩
  obtain ⟨xs, e⟩ := l b m
  rw [h] at e
  cases e
theorem EndOk.mono {hs ks : Vs} {As : List Nat} {e : End} (h : EndOk hs As e) (s : ∀ x ∈ hs, x ∈ ks) : EndOk ks As e := ⟨fun x hx => s x (h.atm x hx), h.tg, h.tl, h.al⟩
section
variable [τ : Tbl] {P : Program} {w : World} {K : PySem.W.Frag} {mg : Str → Option Value} {base : Heap} {CB CG aA : Addr} {eA : Array DictEntry} {nA : Nat}
theorem ok_Graph {f : Addr} {fd : FuncData} (FF : Fun K "_law_graph" "_law_graph" s__law_graph f fd) (T : Txt K w mg CB CG aA eA nA) (D__law_roll : Dfn P w K mg base "_law_roll" 1 ["dice", "many"] spRoll) (D__law_next : Dfn P w K mg base "_law_next" 1 ["made"] spNext)
    (D__law_row : Dfn P w K mg base "_law_row" 3 ["dice", "here"] spRow) (D__law_end : Dfn P w K mg base "_law_end" 3 ["dice", "here", "arities"] spEnd) (D_Block___init__ : Ini P w K mg base CB 1 ["self", "params", "rows", "end"] (spBlockI CB))
    (D_Graph___init__ : Ini P w K mg base CG 1 ["self", "label", "params", "captured", "blocks"] (spGraphI CG)) : FnOk P w K mg base (L2.CX P w) 4 f fd ["dice"] (upSp K (spGraph CB CG)) :=
  z_fn FF sc__law_graph (fun ds G Q E h => by obtain ⟨_, _, rfl, _⟩ := h; rfl) fun bas cdv A outer s H E hr ds G Q E0 hE hz => by
    obtain ⟨d, mo, rfl, hd, hi, hq⟩ := hz
    refine ⟨_, (zs_cons (z_asg (z_tup (za_cons (z_tup (za_cons z_int (za_cons z_int (za_cons z_int za_nil)))) (za_cons (z_lst (za_cons z_int za_nil)) (za_cons (z_op zo_add z_int (z_dc0 D__law_roll hr (by decide) (by rfl) (za_cons (z_var 0) (za_cons z_int za_nil)))) za_nil)))) (zg_tup (n := 3) rfl (zgs_cons (zg_name (i := 1) sc__law_graph.nd rfl (Or.inl rfl)) (zgs_cons (zg_name (i := 2) sc__law_graph.nd rfl (Or.inr rfl)) (zgs_cons (zg_name (i := 3) sc__law_graph.nd rfl (Or.inl rfl)) zgs_nil))))) (zs_cons (z_set (i := 5) sc__law_graph.nd rfl (Or.inr rfl) (z_op zo_cat (z_lst (za_cons z_int za_nil)) (z_lc (own := [("k", 4)]) rfl sc__law_graph.nd (zi_rng1 (by rfl) T.z_range (za_cons (z_var 3) za_nil)) (blkOk_by (by rfl)) (grel_name (by decide)) (fun _ _ _ _ _ => (pg_name (i := 4) sc__law_graph.nd rfl (Or.inl rfl))) (fun _ _ _ _ _ => zts_nil) (fun _ _ _ _ _ => (z_dc0 D__law_roll hr (by decide) (by rfl) (za_cons (z_var 0) (za_cons z_int za_nil))))))) (zs_cons (z_setLc (own := [("k", 4)]) (i := 6) rfl sc__law_graph.nd rfl rfl (by rfl) (zi_rng1 (by rfl) T.z_range (za_cons (z_op zo_add (z_var 3) z_int) za_nil)) (blkOk_by (by rfl)) (grel_name (by decide)) (fun _ _ _ _ _ => (pg_name (i := 4) sc__law_graph.nd rfl (Or.inl rfl))) (fun _ _ _ _ _ => zts_nil) (fun _ _ _ _ _ => (z_callTy zf_tuple (by rfl) T.z_tuple (by rfl) (za_cons (z_lc (own := [("k", 4)]) rfl sc__law_graph.nd (zi_rng1 (by rfl) T.z_range (za_cons (z_ix (z_var 5) (z_var 4)) za_nil)) (blkOk_by (by rfl)) (grel_name (by decide)) (fun _ _ _ _ _ => (pg_name (i := 4) sc__law_graph.nd rfl (Or.inl rfl))) (fun _ _ _ _ _ => zts_nil) (fun _ _ _ _ _ => (z_dc0 D__law_next hr (by decide) (by rfl) (za_cons (z_var 2) za_nil)))) za_nil)))) (zs_cons (z_par (i := 7) (j := 8) rfl sc__law_graph.nd rfl rfl (by decide) rfl rfl (za_cons (z_lst za_nil) (za_cons (z_callTy zf_list (by rfl) T.z_list (by rfl) (za_cons (z_var 1) za_nil)) za_nil)) (by rfl)) (zs_cons (z_for (passes_of (by rfl)) rfl (zi_rng1 (by rfl) T.z_range (za_cons (z_op zo_add (z_var 3) z_int) za_nil)) (zg_name (i := 9) sc__law_graph.nd rfl (Or.inl rfl)) (zs_cons (z_par (i := 10) (j := 11) rfl sc__law_graph.nd rfl rfl (by decide) rfl rfl (za_cons (z_op zo_cat (z_ifE (z_tcmp zo_eqF (z_var 9) z_int) (z_callTy zf_list (by rfl) T.z_list (by rfl) (za_cons (z_var 1) za_nil)) (z_var 8)) (z_callTy zf_list (by rfl) T.z_list (by rfl) (za_cons (z_ix (z_var 6) (z_var 9)) za_nil))) (za_cons (z_lst za_nil) za_nil)) (by rfl)) (zs_cons (z_for (passes_of (by rfl)) rfl (zi_rng1 (by rfl) T.z_range (za_cons (z_dc0 D__law_roll hr (by decide) (by rfl) (za_cons (z_var 0) (za_cons z_int za_nil))) za_nil)) (zg_name (i := 12) sc__law_graph.nd rfl (Or.inl rfl)) (zs_cons (z_par (i := 13) (j := 14) rfl sc__law_graph.nd rfl rfl (by decide) rfl rfl (za_cons (z_dc0 D__law_next hr (by decide) (by rfl) (za_cons (z_var 2) za_nil)) (za_cons (z_dc0 D__law_row hr (by decide) (by rfl) (za_cons (z_var 0) (za_cons (z_var 10) za_nil))) za_nil)) (by rfl)) (zs_cons (z_expr (z_bm PySem.F.plainAttrs_list PySem.F.slot_list_append PySem.F.type_list_append zm_append (z_var 11) (za_cons (z_tup (za_cons (z_var 13) (za_cons (z_var 14) za_nil))) za_nil))) (zs_cons (z_set (i := 10) sc__law_graph.nd rfl (Or.inl rfl) (z_op zo_cat (z_var 10) (z_lst (za_cons (z_var 13) za_nil)))) zs_nil)))) (zs_cons (z_if (z_tcmp zo_eqF (z_var 9) z_int) (zs_one (z_set (i := 8) sc__law_graph.nd rfl (Or.inl rfl) (z_var 10))) zs_nil) (zs_cons (z_expr (z_bm PySem.F.plainAttrs_list PySem.F.slot_list_append PySem.F.type_list_append zm_append (z_var 7) (za_cons (z_new D_Block___init__ hr (by decide) (by rfl) T.g_Block (za_cons (z_ix (z_var 6) (z_var 9)) (za_cons (z_var 11) (za_cons (z_dc0 D__law_end hr (by decide) (by rfl) (za_cons (z_var 0) (za_cons (z_var 10) (za_cons (z_var 5) za_nil)))) za_nil)))) za_nil))) zs_nil))))) (zs_cons (z_ret (z_new D_Graph___init__ hr (by decide) (by rfl) T.g_Graph (za_cons z_int (za_cons (z_var 1) (za_cons z_int (za_cons (z_var 7) za_nil)))))) zs_nil)))))), ?_⟩
    walk_at "zr"
    intro m G1 nm h1
    have md : m ≠ d := fun z => by rw [z, hd] at nm; cases nm
    have d1 := h1.ext nm _ _ hd
    walk_at "zr"
    refine roll_at d1 hi 7 rfl (by decide) (by decide) fun k G2 hk R2 => ?_
    have T2 : Two d m 100 G1 G2 := (Two.start d1 hi h1.is).roll R2 md
    have ek : (1 : Int) + (k : Nat) = ((k + 1 : Nat) : Int) := by omega
    walk_at "zr"
    rw [ek]
    intro p3 G3 n3 h3
    have T3 := T2.ext (h3.ext n3)
    have p3d : p3 ≠ d := fun z => by
      obtain ⟨x, hx, _⟩ := T2.dice
      rw [z, hx] at n3; cases n3
    have p3m : p3 ≠ m := fun z => by rw [z, T2.made] at n3; cases n3
    walk_at "zr"
    refine r_krng1 (by omega) ?_
    refine ⟨fun i acc G4 => Two d m 100 G3 G4 ∧ ∃ As : List Nat, acc = As.map iD ∧ As.length = i ∧ ∀ a ∈ As, a ≤ 2, ⟨⟨T3.dice, T3.made, Keep.refl _ _⟩, [], rfl, rfl, fun a ha => (by cases ha)⟩, ?_, ?_⟩
    · rintro i dd acc G4 hi4 ⟨T4, As, rfl, las, asm⟩
      have hil := (rngD_get hi4).1
      refine ⟨trivial, big_lt (by rw [List.length_map]; omega), ?_⟩
      obtain ⟨x4, d4, i4⟩ := T4.dice
      walk_at "zr"
      refine roll_at d4 i4 3 rfl (by decide) (by decide) fun j G5 hj R5 => ?_
      refine ⟨T4.roll R5 md, As ++ [j], by simp, by simp [las], fun a ha => ?_⟩
      rcases List.mem_append.mp ha with ha | ha
      · exact asm a ha
      · rw [List.mem_singleton.mp ha]; omega
    rintro acc G4 ⟨T4, As0, rfl, las, asm⟩
    rw [rngD_len] at las
    refine ⟨trivial, fun p5 G5 n5 h5 => ?_⟩
    have T5 := T4.ext (h5.ext n5)
    have p3h : G5 p3 = some (.lst [iD 0]) := T5.at_ p3d p3m h3.is
    refine r_cat p3h h5.is (big_ok (by simp [las]; omega)) fun p6 G6 n6 h6 => ?_
    have T6 := T5.ext (h6.ext n6)
    have h6' : G6 p6 = some (.lst ((0 :: As0).map iD)) := h6.is
    generalize hAs : 0 :: As0 = As at h6'
    have lAs : As.length = k + 2 := by rw [← hAs]; simp [las]
    have asm' : ∀ a ∈ As, a ≤ 2 := fun a ha => by
      rw [← hAs] at ha
      rcases List.mem_cons.mp ha with rfl | ha
      · omega
      · exact asm a ha
    have p6d : p6 ≠ d := fun z => by
      obtain ⟨x, hx, _⟩ := T5.dice
      rw [z, hx] at n6; cases n6
    have p6m : p6 ≠ m := fun z => by rw [z, T5.made] at n6; cases n6
    walk_at "zr"
    rw [show ((k + 1 : Nat) : Int) + 1 = ((k + 2 : Nat) : Int) by omega]
    refine r_krng1 (by omega) ?_
    have As0' : As[0]? = some 0 := by rw [← hAs]; rfl
    refine ⟨fun i acc G7 => ∃ (NP : List Vs) (n : Nat), Two d m (100 + n) G6 G7 ∧ acc = (NP.map fun l => D.tup (intsD l)) ∧ NP.length = i ∧ (NP.map (·.length) = As.take i) ∧ NP.flatten = seqI 100 n, ⟨[], 0, ⟨T6.dice, T6.made, Keep.refl _ _⟩, rfl, rfl, rfl, rfl⟩, ?_, ?_⟩
    · rintro i dd acc G7 hi7 ⟨NP, n, T7, rfl, lnp, npl, fl⟩
      obtain ⟨hil, rfl⟩ := rngD_get hi7
      rw [Int.zero_add]
      refine ⟨trivial, big_lt (by rw [List.length_map]; omega), ?_⟩
      have hA7 : G7 p6 = some (.lst (As.map iD)) := T7.at_ p6d p6m h6'
      have hAi : As[i]? = some As[i] := List.getElem?_eq_getElem (by omega)
      generalize As[i] = ai at hAi
      have ai2 : ai ≤ 2 := asm' ai (List.mem_of_getElem? hAi)
      have hix : (As.map iD)[i]? = some (iD ai) := by rw [List.getElem?_map, hAi]; rfl
      walk_at "zr"
      refine r_ixR hA7 hix ?_
      walk_at "zr"
      refine r_krng1 (by omega) ?_
      refine ⟨fun j acc G8 => Two d m (100 + n + j) G7 G8 ∧ acc = intsD (seqI (100 + n) j), ⟨⟨T7.dice, T7.made, Keep.refl _ _⟩, rfl⟩, ?_, ?_⟩
      · rintro j dd acc G8 hj8 ⟨T8, rfl⟩
        have hjl := (rngD_get hj8).1
        refine ⟨trivial, big_lt (by rw [intsD_len, seqI_len]; omega), ?_⟩
        walk_at "zr"
        refine ⟨m, _, rfl, T8.made, fun G9 h9 => ?_⟩
        refine ⟨T8.next h9 md, ?_⟩
        rw [seqI_snoc, ← intsD_app]
        rfl
      · rintro acc G8 ⟨T8, rfl⟩
        rw [rngD_len] at T8 ⊢
        refine ⟨trivial, fun p9 G9 n9 h9 => ?_⟩
        have h9i := h9.is
        walk_at "zr"
        refine ⟨NP ++ [seqI (100 + n) ai], n + ai, ?_, by simp, by simp [lnp], ?_, ?_⟩
        · have := (T7.trans T8).ext (h9.ext n9)
          rw [← Nat.add_assoc]
          exact this
        · rw [List.map_append, npl, List.take_add_one, hAi]
          simp [seqI_len]
        · rw [List.flatten_append, fl]
          simp only [List.flatten_cons, List.flatten_nil, List.append_nil]
          exact seqI_app 100 n ai
    rintro acc G7 ⟨NP, n, T7, rfl, lnp, npl, fl⟩
    rw [rngD_len] at lnp npl
    rw [List.take_of_length_le (by omega)] at npl
    refine ⟨trivial, fun p8 G8 n8 h8 => ?_⟩
    have T8 := T7.ext (h8.ext n8)
    have ne_of : ∀ {p : Addr} {c : Nat} {Ga Gb : Gp}, Two d m c Ga Gb → Gb p = none → p ≠ d ∧ p ≠ m := by
      intro p c Ga Gb t n
      refine ⟨fun z => ?_, fun z => ?_⟩
      · obtain ⟨x, hx, _⟩ := t.dice
        rw [z, hx] at n
        cases n
      · rw [z, t.made] at n
        cases n
    obtain ⟨p8d, p8m⟩ := ne_of T7 n8
    have hA8 : G8 p6 = some (.lst (As.map iD)) := T8.at_ p6d p6m h6'
    have hN8 := h8.is
    walk_at "zr"
    intro bA G9 nb h9
    obtain ⟨bAd, bAm⟩ := ne_of T8 nb
    walk_at "zr"
    intro fA0 G10 nf h10
    have T9 := T8.ext (h9.ext nb)
    obtain ⟨fAd, fAm⟩ := ne_of T9 nf
    have fAb : fA0 ≠ bA := fun z => by rw [z, h9.is] at nf; cases nf
    have T10 : Two d m (100 + n) G8 G10 := ⟨(T9.ext (h10.ext nf)).dice, (T9.ext (h10.ext nf)).made, ((Keep.refl _ _).ext (h9.ext nb)).ext (h10.ext nf)⟩
    have hb10 : G10 bA = some (.lst []) := h10.ext nf _ _ h9.is
    have hf10 : G10 fA0 = some (.lst (intsD [1, 2, 3])) := h10.is
    walk_at "zr"
    rw [show ((k + 1 : Nat) : Int) + 1 = ((k + 2 : Nat) : Int) by omega]
    refine r_krng1 (by omega) ?_
    generalize hc0 : 100 + n = c0 at T10 T8 T9
    refine ⟨fun i ρ G' => ∃ (bl : Gr) (bs : List Addr) (r : Nat) (first : Vs) (fA : Addr), Two d m (c0 + r) G8 G' ∧ G' bA = some (.lst (bs.map D.ref)) ∧ bs.length = i ∧ bl.length = i ∧ (∀ (j : Nat) b B, bs[j]? = some b → bl[j]? = some B → BlkAt CB G' b B) ∧ bl.map (·.params) = NP.take i ∧
      bl.flatMap rowNames = seqI c0 r ∧ (∀ B ∈ bl, B.rows.length ≤ 4) ∧ G' fA = some (.lst (intsD first)) ∧ fA ≠ d ∧ fA ≠ m ∧ fA ≠ bA ∧ first.length ≤ 7 ∧ 0 < first.length ∧ (∀ x ∈ first, x ∈ ([1, 2, 3] : Vs) ∨ ∃ B, bl[0]? = some B ∧ x ∈ rowNames B) ∧ (i = 0 → first = [1, 2, 3]) ∧
      (∀ B ∈ bl, EndOk (first ++ blkNames B) As B.en ∧ ∀ r ∈ B.rows, ∀ x, .var x ∈ r.2.atoms → x ∈ first ++ blkNames B) ∧
      ∃ x9 x10 x11 x12 x13 x14, ρ = [some (.ref d), some (.tup [.int 1, .int 2, .int 3]), some (.ref m), some (.int ((k + 1 : Nat) : Int)), none, some (.ref p6), some (.ref p8), some (.ref bA), some (.ref fA), x9, x10, x11, x12, x13, x14],
      ⟨[], [], 0, [1, 2, 3], fA0, T10, hb10, rfl, rfl, fun j b B h => (by cases h), by simp, rfl, fun B h => (by cases h), hf10, fAd, fAm, fAb, by decide, by decide, fun x hx => .inl hx, fun _ => rfl, fun B h => (by cases h), _, _, _, _, _, _, rfl⟩, ?_, ?_⟩
    · rintro i dd ρ Gi hi' ⟨bl, bs, r, first, fA, Ti, hbA, lbs, lbl, blk, bp, bn, brl, hfA, fd', fm', fb', fl7, fl0, fsrc, fi0, bok, x9, x10, x11, x12, x13, x14, rfl⟩
      obtain ⟨hil, rfl⟩ := rngD_get hi'
      rw [Int.zero_add]
      refine ⟨trivial, ?_⟩
      have hNi : NP[i]? = some NP[i] := List.getElem?_eq_getElem (by omega)
      generalize hpl : NP[i] = pl at hNi
      have hAi : As[i]? = some pl.length := by rw [← npl, List.getElem?_map, hNi]; rfl
      have pl2 : pl.length ≤ 2 := asm' _ (List.mem_of_getElem? hAi)
      have hNg : Gi p8 = some (.lst (NP.map fun l => D.tup (intsD l))) := Ti.at_ p8d p8m hN8
      have hAg : Gi p6 = some (.lst (As.map iD)) := Ti.at_ p6d p6m hA8
      have hNx : (NP.map fun l => D.tup (intsD l))[i]? = some (.tup (intsD pl)) := by rw [List.getElem?_map, hNi]; rfl
      obtain ⟨xi, di, ii⟩ := Ti.dice
      have Tii : Two d m (c0 + r) Gi Gi := ⟨Ti.dice, Ti.made, Keep.refl _ _⟩
      -- the names that are there: first, and the block's own
      have start : ∀ R : List D → Gp → Prop, (∀ h rr G', Two d m (c0 + r) Gi G' → G' h = some (.lst (intsD (first ++ pl))) → G' rr = some (.lst []) → Gi h = none → Gi rr = none → h ≠ rr → R [.ref h, .ref rr] G') →
          zCons (zOp dCat (zIf (zTest (zOp (dEqF false) (zVar 9) (zC (.int 0)))) (zCB fList (zCons (zVar 1) zNil)) (zVar 8)) (zCB fList (zCons (zOp dIx (zVar 6) (zVar 9)) zNil))) (zCons (zLst zNil) zNil)
            [some (.ref d), some (.tup [.int 1, .int 2, .int 3]), some (.ref m), some (.int ((k + 1 : Nat) : Int)), none, some (.ref p6), some (.ref p8), some (.ref bA), some (.ref fA), some (.int (i : Nat)), x10, x11, x12, x13, x14] Gi R := by
        intro R hR
        have go : ∀ (q : Addr) (G1 : Gp), Ext Gi G1 → G1 q = some (.lst (intsD first)) → zCB fList (zCons (zOp dIx (zVar 6) (zVar 9)) zNil)
            [some (.ref d), some (.tup [.int 1, .int 2, .int 3]), some (.ref m), some (.int ((k + 1 : Nat) : Int)), none, some (.ref p6), some (.ref p8), some (.ref bA), some (.ref fA), some (.int (i : Nat)), x10, x11, x12, x13, x14] G1
            (fun e G2 => dCat (.ref q) e G2 fun d1 G3 => zCons (zLst zNil) zNil [some (.ref d), some (.tup [.int 1, .int 2, .int 3]), some (.ref m), some (.int ((k + 1 : Nat) : Int)), none, some (.ref p6), some (.ref p8), some (.ref bA), some (.ref fA), some (.int (i : Nat)), x10, x11, x12, x13, x14] G3 fun ds G4 => R (d1 :: ds) G4) := by
          intro q G1 e1 hq1
          have hN1 := e1 _ _ hNg
          walk_at "zr"
          refine r_ixR hN1 hNx ?_
          walk_at "zr"
          intro q2 G2 n2 h2
          refine r_cat (h2.ext n2 _ _ hq1) h2.is (big_ok (by rw [intsD_len, intsD_len]; omega)) fun h G3 n3' h3' => ?_
          rw [intsD_app] at h3'
          walk_at "zr"
          intro rr G4 n4 h4
          walk_at "zr"
          have e13 := e1.trans ((h2.ext n2).trans (h3'.ext n3'))
          refine hR h rr G4 (Tii.ext (e13.trans (h4.ext n4))) (h4.ext n4 _ _ h3'.is) h4.is ((e1.trans (h2.ext n2)).back n3') (e13.back n4) fun z => ?_
          have := h3'.is
          rw [z, n4] at this
          cases this
        walk_at "zr"
        refine r_ndec (fun h0 => ?_) fun h0 => ?_
        · walk_at "zr"
          intro q G1 n1 hq1
          have e0 := fi0 (by omega)
          subst e0
          exact go q G1 (hq1.ext n1) hq1.is
        · walk_at "zr"
          exact go fA Gi (Ext.refl _) hfA
      refine r_name ?_
      refine r_par (start _ fun h0 rr G1 T1 hh1 hrr1 nh0 nrr hrne => ?_)
      obtain ⟨x1, d1', i1'⟩ := T1.dice
      have rrd : rr ≠ d := fun z => by rw [z, di] at nrr; cases nrr
      have rrm : rr ≠ m := fun z => by rw [z, Ti.made] at nrr; cases nrr
      walk_at "zr"
      refine roll_at d1' i1' 5 rfl (by decide) (by decide) fun tn G2 htn R2' => ?_
      have T2' := T1.roll R2' md
      have h0d : h0 ≠ d := fun z => by rw [z, di] at nh0; cases nh0
      have h0m : h0 ≠ m := fun z => by rw [z, Ti.made] at nh0; cases nh0
      walk_at "zr"
      refine r_krng1 (by omega) ?_
      refine ⟨fun t ρ G' => ∃ (rows : List (Int × Row)) (h : Addr), Two d m (c0 + r + t) Gi G' ∧ G' rr = some (.lst (rowsD rows)) ∧ rows.map (·.1) = seqI (c0 + r) t ∧ G' h = some (.lst (intsD (first ++ pl ++ rows.map (·.1)))) ∧ h ≠ d ∧ h ≠ m ∧ h ≠ rr ∧ Gi h = none ∧
        (∀ r ∈ rows, ∀ x, .var x ∈ r.2.atoms → x ∈ first ++ pl ++ rows.map (·.1)) ∧ ∃ x12 x13 x14, ρ = [some (.ref d), some (.tup [.int 1, .int 2, .int 3]), some (.ref m), some (.int ((k + 1 : Nat) : Int)), none, some (.ref p6), some (.ref p8), some (.ref bA), some (.ref fA), some (.int (i : Nat)), some (.ref h), some (.ref rr), x12, x13, x14],
        ⟨[], h0, T2', R2'.at_ rrd hrr1, rfl, by simpa using R2'.at_ h0d hh1, h0d, h0m, hrne, nh0, fun r hr => (by cases hr), _, _, _, rfl⟩, ?_, ?_⟩
      · rintro t dd ρ G3 ht ⟨rows, h, T3', hrr3, rn, hh3, hd3, hm3, hr3, nh3, rvs, x12, x13, x14, rfl⟩
        have htl := (rngD_get ht).1
        have rl : rows.length = t := by
          have := congrArg List.length rn
          rw [seqI_len, List.length_map] at this
          exact this
        have hl7 : (first ++ pl ++ rows.map (·.1)).length ≤ 100 := by
          rw [List.length_append, List.length_append, List.length_map]
          omega
        refine ⟨trivial, ?_⟩
        walk_at "zr"
        refine ⟨m, _, rfl, T3'.made, fun G4 h4 => ?_⟩
        have T4' := T3'.next h4 md
        obtain ⟨x4, d4, i4⟩ := T4'.dice
        have hh4 := (h4.other h hm3).trans hh3
        have hrr4 := (h4.other rr rrm).trans hrr3
        walk_at "zr"
        refine ⟨d, h, _, _, rfl, d4, i4, hh4, hd3, by rw [List.length_append, List.length_append]; omega, by omega, fun row G5 R5 rok => ?_⟩
        have T5' := T4'.roll R5 md
        have hrr5 := R5.at_ rrd hrr4
        have hh5 := R5.at_ hd3 hh4
        walk_at "zr"
        refine ⟨r_tyL hrr5, ?_⟩
        walk_at "zr"
        refine r_append hrr5 (big_lt (by unfold rowsD; rw [List.length_map]; omega)) fun G6' h6'' => ?_
        have T6' := T5'.set h6'' nrr rrd rrm
        have hh6 := (h6''.other h hr3).trans hh5
        walk_at "zr"
        intro q7 G7' n7 h7
        have T7' := T6'.ext (h7.ext n7)
        have hh7 := h7.ext n7 _ _ hh6
        refine r_cat hh7 h7.is (big_ok (by rw [intsD_len]; simp only [List.length_cons, List.length_nil]; omega)) fun h' G8' n8' h8' => ?_
        have T8' := T7'.ext (h8'.ext n8')
        obtain ⟨h'd, h'm⟩ := ne_of T7' n8'
        have hrr8 : G8' rr = some (.lst (rowsD rows ++ [.tup [.int ((c0 + r + t + 1 : Nat) : Int), row.d]])) := h8'.ext n8' _ _ (h7.ext n7 _ _ h6''.is)
        walk_at "zr"
        have rn' : (rows ++ [(((c0 + r + t + 1 : Nat) : Int), row)]).map (·.1) = rows.map (·.1) ++ [((c0 + r + t + 1 : Nat) : Int)] := by simp
        refine ⟨rows ++ [(((c0 + r + t + 1 : Nat) : Int), row)], h', T8', ?_, ?_, ?_, h'd, h'm, ?_, T7'.none_ n8', fun q hq' x hx => ?_, _, _, _, rfl⟩
        · rw [hrr8]
          unfold rowsD
          simp
        · rw [rn', rn, seqI_snoc]
        · rw [rn', ← List.append_assoc, ← intsD_app]
          exact h8'.is
        · rintro rfl
          rw [h7.ext n7 _ _ h6''.is] at n8'
          cases n8'
        · rw [rn', ← List.append_assoc]
          refine List.mem_append_left _ ?_
          rcases List.mem_append.mp hq' with hq' | hq'
          · exact rvs q hq' x hx
          · rw [List.mem_singleton.mp hq'] at hx
            exact rok x hx
      · rintro ρ G3 ⟨rows, h, T3', hrr3, rn, hh3, hd3, hm3, hr3, nh3, rvs, x12, x13, x14, rfl⟩
        rw [rngD_len] at T3' rn
        refine ⟨trivial, ?_⟩
        have rl : rows.length = tn := by
          have := congrArg List.length rn
          rw [seqI_len, List.length_map] at this
          exact this
        have hall : first ++ pl ++ rows.map (·.1) ≠ [] := fun z => by
          have := congrArg List.length z
          rw [List.length_append, List.length_append, List.length_nil] at this
          omega
        have hl7 : (first ++ pl ++ rows.map (·.1)).length ≤ 100 := by
          rw [List.length_append, List.length_append, List.length_map]
          omega
        have hbA3 : G3 bA = some (.lst (bs.map D.ref)) := T3'.at_ bAd bAm hbA
        have hAg3 : G3 p6 = some (.lst (As.map iD)) := T3'.at_ p6d p6m hAg
        have hNg3 : G3 p8 = some (.lst (NP.map fun l => D.tup (intsD l))) := T3'.at_ p8d p8m hNg
        have rrb : rr ≠ bA := fun z => by rw [z, hbA] at nrr; cases nrr
        have tail : ∀ (Z : ZEnds) (s8 : Option D), (∀ bI G' (B : Blk), B.params = pl → B.rows = rows → EndOk (first ++ pl ++ rows.map (·.1)) As B.en → Two d m (c0 + r + tn) G3 G' ∨ True → (∀ b x, b ∉ [d, m, bA] → G3 b = some x → G' b = some x) → (∃ x, G' d = some x ∧ isDice x) →
              G' m = some (.lst [iD (c0 + r + tn)]) → G' bA = some (.lst ((bs ++ [bI]).map D.ref)) → BlkAt CB G' bI B → Z.nx [some (.ref d), some (.tup [.int 1, .int 2, .int 3]), some (.ref m), some (.int ((k + 1 : Nat) : Int)), none, some (.ref p6), some (.ref p8), some (.ref bA), s8, some (.int (i : Nat)), some (.ref h), some (.ref rr), x12, x13, x14] G') →
            zSeq (zDrop (zBM "list" mAppend (zVar 7) (zCons (zMake CB (spBlockI CB) X0 (zCons (zOp dIx (zVar 6) (zVar 9)) (zCons (zVar 11) (zCons (zCall spEnd X0 (zCons (zVar 0) (zCons (zVar 10) (zCons (zVar 5) zNil)))) zNil)))) zNil))) zNext Z
              [some (.ref d), some (.tup [.int 1, .int 2, .int 3]), some (.ref m), some (.int ((k + 1 : Nat) : Int)), none, some (.ref p6), some (.ref p8), some (.ref bA), s8, some (.int (i : Nat)), some (.ref h), some (.ref rr), x12, x13, x14] G3 := by
          intro Z s8 hZ
          obtain ⟨x3, d3, i3⟩ := T3'.dice
          walk_at "zr"
          refine ⟨r_tyL hbA3, ?_⟩
          refine r_cons ?_
          show zCons _ _ _ _ _
          walk_at "zr"
          refine r_ixR hNg3 hNx ?_
          walk_at "zr"
          refine ⟨d, h, p6, _, _, As, rfl, d3, i3, hh3, hd3, List.length_pos_iff.mpr hall, by omega, hAg3, p6d, by omega, by omega, asm', fun e G4 R4 eok => ?_⟩
          have hrr4 := R4.at_ rrd hrr3
          walk_at "zr"
          intro bI dxI G5 nbI h5
          have e5 := h5.ext nbI
          have rrI : rr ≠ bI := fun z => by rw [← z, hrr4] at nbI; cases nbI
          refine ⟨bI, dxI, rr, pl, rows, e, rfl, h5.is, e5 _ _ hrr4, Ne.symm rrI, fun G6 h6 => ⟨rfl, ?_⟩⟩
          have hbA6 : G6 bA = some (.lst (bs.map D.ref)) := by
            have hb4 := R4.at_ bAd hbA3
            rw [h6.other bA (fun z => by rw [← z, hb4] at nbI; cases nbI)]
            exact e5 _ _ hb4
          walk_at "zr"
          refine r_append hbA6 (big_lt (by rw [List.length_map]; omega)) fun G7 h7 => ?_
          walk_at "zr"
          obtain ⟨x4, d4, i4⟩ := R4.dice
          have m4 := R4.at_ md T3'.made
          have up : ∀ {b : Addr} {x : MO}, G4 b = some x → b ≠ bA → G7 b = some x := fun {b x} hb nb => by
            rw [h7.other b nb, h6.other b (fun z => by rw [← z, hb] at nbI; cases nbI)]
            exact e5 _ _ hb
          refine hZ bI G7 ⟨pl, rows, e⟩ rfl rfl eok (.inr trivial) (fun b x hb q => ?_) ⟨x4, up d4 (Ne.symm bAd), i4⟩ (up m4 (Ne.symm bAm)) ?_ ⟨dxI, ?_⟩
          · simp at hb
            exact up (R4.at_ hb.1 q) hb.2.2
          · rw [List.map_append]
            exact h7.is
          · rw [h7.other bI (fun z => by rw [z] at nbI; rw [R4.at_ bAd hbA3] at nbI; cases nbI)]
            exact h6.is
        have lists : ∀ p ∈ [d, m, bA], ∃ xs, G3 p = some (.lst xs) := by
          intro p hp
          simp at hp
          rcases hp with rfl | rfl | rfl
          · obtain ⟨x3, d3, a1, a2, a3, rfl⟩ := T3'.dice
            exact ⟨_, d3⟩
          · exact ⟨_, T3'.made⟩
          · exact ⟨_, hbA3⟩
        have lists0 : ∀ p ∈ [d, m], ∃ xs, Gi p = some (.lst xs) := by
          intro p hp
          simp at hp
          rcases hp with rfl | rfl
          · obtain ⟨a1, a2, a3, rfl⟩ := ii
            exact ⟨_, di⟩
          · exact ⟨_, Ti.made⟩
        have nbG8 : G8 bA = none := nb
        -- the next turn's word, whatever first is
        have next : ∀ (bI : Addr) (G' : Gp) (B : Blk) (first' : Vs) (fA' : Addr), B.params = pl → B.rows = rows → EndOk (first ++ pl ++ rows.map (·.1)) As B.en → (∀ b x, b ∉ [d, m, bA] → G3 b = some x → G' b = some x) → (∃ x, G' d = some x ∧ isDice x) → G' m = some (.lst [iD (c0 + r + tn)]) →
            G' bA = some (.lst ((bs ++ [bI]).map D.ref)) → BlkAt CB G' bI B → Two d m (c0 + (r + tn)) G8 G' ∧ (bs ++ [bI]).length = i + 1 ∧ (bl ++ [B]).length = i + 1 ∧ (∀ (j : Nat) b B', (bs ++ [bI])[j]? = some b → (bl ++ [B])[j]? = some B' → BlkAt CB G' b B') ∧
              (bl ++ [B]).map (·.params) = NP.take (i + 1) ∧ (bl ++ [B]).flatMap rowNames = seqI c0 (r + tn) ∧ (∀ B' ∈ bl ++ [B], B'.rows.length ≤ 4) := by
          intro bI G' B first' fA' e1 e2 eok kp dc mk bk bat
          refine ⟨⟨dc, by rw [← Nat.add_assoc]; exact mk, fun b x hb q => ?_⟩, by simp [lbs], by simp [lbl], fun j b B' hj hB' => ?_, ?_, ?_, fun B' hB' => ?_⟩
          · have hbn : b ≠ bA := fun z => by rw [z, nbG8] at q; cases q
            simp at hb
            refine kp b x (by simp [hb, hbn]) (T3'.at_ hb.1 hb.2 (Ti.keep b x (by simp [hb]) q))
          · by_cases hjl : j < bs.length
            · rw [List.getElem?_append_left hjl] at hj
              rw [List.getElem?_append_left (by omega)] at hB'
              exact ((blk j b B' hj hB').keep T3'.keep lists0).keep kp lists
            · have hj2 := (List.getElem?_eq_some_iff.mp hj).1
              rw [List.length_append] at hj2
              simp at hj2
              have j0 : j = bs.length := by omega
              rw [j0, List.getElem?_append_right (Nat.le_refl _)] at hj
              rw [j0, lbs, ← lbl, List.getElem?_append_right (Nat.le_refl _)] at hB'
              simp at hj hB'
              rw [← hj, ← hB']
              exact bat
          · rw [List.map_append, bp, List.take_add_one, hNi]
            simp [e1]
          · rw [List.flatMap_append, bn]
            simp only [List.flatMap_cons, List.flatMap_nil, List.append_nil]
            unfold rowNames
            rw [e2, rn]
            exact seqI_app c0 r tn
          · rcases List.mem_append.mp hB' with h | h
            · exact brl B' h
            · rw [List.mem_singleton.mp h, e2]
              omega
        have hfA3 : G3 fA = some (.lst (intsD first)) := T3'.at_ fd' fm' hfA
        have hbAne : h ≠ bA := fun z => by rw [z, hbA] at nh3; cases nh3
        walk_at "zr"
        refine r_ndec (fun hi0 => ?_) fun hi0 => ?_
        · have i0 : i = 0 := by omega
          have pl0 : pl = [] := by
            rw [i0, As0'] at hAi
            exact List.eq_nil_of_length_eq_zero (Option.some.inj hAi).symm
          refine r_asg1 ?_
          refine r_var (by with_unfolding_all rfl) ?_
          refine r_name ?_
          refine tail _ _ fun bI G' B e1 e2 eok _ kp dc mk bk bat => ?_
          obtain ⟨n1, n2, n3', n4, n5, n6', n7⟩ := next bI G' B first fA e1 e2 eok kp dc mk bk bat
          have bl0 : bl = [] := List.eq_nil_of_length_eq_zero (by omega)
          refine ⟨bl ++ [B], bs ++ [bI], r + tn, first ++ pl ++ rows.map (·.1), h, n1, bk, n2, n3', n4, n5, n6', n7, kp h _ (by simp [hd3, hm3, hbAne]) hh3, hd3, hm3, hbAne, ?_, List.length_pos_iff.mpr hall, fun x hx => ?_, fun z => by omega, fun B' hB' => ?_, _, _, _, _, _, _, rfl⟩
          · rw [fi0 i0, pl0, List.append_nil, List.length_append, List.length_map]
            simp only [List.length_cons, List.length_nil]
            omega
          · rw [fi0 i0, pl0, List.append_nil] at hx
            rcases List.mem_append.mp hx with hx | hx
            · exact .inl hx
            · refine .inr ⟨B, by rw [bl0]; rfl, ?_⟩
              unfold rowNames
              rw [e2]
              exact hx
          · rw [bl0] at hB'
            rw [List.mem_singleton.mp hB']
            exact ⟨eok.mono fun x hx => List.mem_append_left _ hx, fun r' hr' x hx => List.mem_append_left _ (by rw [e2] at hr'; exact rvs r' hr' x hx)⟩
        · refine r_nx1 ?_
          refine tail _ _ fun bI G' B e1 e2 eok _ kp dc mk bk bat => ?_
          obtain ⟨n1, n2, n3', n4, n5, n6', n7⟩ := next bI G' B first fA e1 e2 eok kp dc mk bk bat
          have bn' : blkNames B = pl ++ rows.map (·.1) := by unfold blkNames; rw [e1, e2]
          refine ⟨bl ++ [B], bs ++ [bI], r + tn, first, fA, n1, bk, n2, n3', n4, n5, n6', n7, kp fA _ (by simp [fd', fm', fb']) hfA3, fd', fm', fb', fl7, fl0, fun x hx => ?_, fun z => by omega, fun B' hB' => ?_, _, _, _, _, _, _, rfl⟩
          · rcases fsrc x hx with h | ⟨B0, hB0, h⟩
            · exact .inl h
            · refine .inr ⟨B0, ?_, h⟩
              rw [List.getElem?_append_left (by omega)]
              exact hB0
          · rcases List.mem_append.mp hB' with hB' | hB'
            · exact bok B' hB'
            · rw [List.mem_singleton.mp hB', bn', ← List.append_assoc]
              exact ⟨eok, fun r' hr' x hx => by rw [e2] at hr'; exact rvs r' hr' x hx⟩
    · rintro ρ Gi ⟨bl, bs, r, first, fA, Ti, hbA, lbs, lbl, blk, bp, bn, brl, hfA, fd', fm', fb', fl7, fl0, fsrc, fi0, bok, x9, x10, x11, x12, x13, x14, rfl⟩
      rw [rngD_len] at lbs lbl bp
      refine ⟨trivial, ?_⟩
      walk_at "zr"
      intro gA dx Gf ng hg
      have eg := hg.ext ng
      have gAb : gA ≠ bA := fun z => by rw [z, hbA] at ng; cases ng
      refine ⟨gA, dx, bA, [1, 2, 3], bs, rfl, hg.is, eg _ _ hbA, gAb, fun Gz hz => ⟨rfl, ?_⟩⟩
      have upG : ∀ b x, Gi b = some x → Gz b = some x := fun b x q => by
        rw [hz.other b (fun z => by rw [z, ng] at q; cases q)]
        exact eg b x q
      rw [List.take_of_length_le (by omega)] at bp
      have fm : bl.flatMap (·.params) = seqI 100 n := by
        rw [← fl, ← bp, List.flatMap_def]
      refine hq gA bs bl Gz ⟨?_, fun b x hb q => ?_⟩ ⟨⟨dx, hz.is⟩, by omega, fun j b B hj hB => ?_⟩ ?_
      · obtain ⟨x, h1, h2⟩ := Ti.dice
        exact ⟨x, upG _ _ h1, h2⟩
      · refine upG b x ?_
        have hbm : b ≠ m := fun z => by rw [z, nm] at q; cases q
        have q1 := R2.at_ hb (h1.ext nm b x q)
        have q2 := h3.ext n3 b x q1
        have q3 := T4.at_ hb hbm q2
        have q4 := h6.ext n6 b x (h5.ext n5 b x q3)
        have q5 := h8.ext n8 b x (T7.at_ hb hbm q4)
        exact Ti.at_ hb hbm q5
      · obtain ⟨db, hb⟩ := blk j b B hj hB
        exact ⟨db, upG _ _ hb⟩
      · refine gok_of (As := As) (c0 := (c0 : Int)) (first := first) (by omega) (by omega) (by omega) ?_ asm' ?_ ?_ ?_ ?_ ?_ brl (fun x hx => ?_) (fun B hB => (bok B hB).2) fun B hB => (bok B hB).1
        · rw [← npl, ← bp, List.map_map]
          rfl
        · rw [fm]; exact seqI_nodup _ _
        · intro x hx
          rw [fm] at hx
          have := seqI_mem hx
          omega
        · rw [bn]; exact seqI_nodup _ _
        · intro x hx
          rw [bn] at hx
          exact (seqI_mem hx).1
        · omega
        · rcases fsrc x hx with h | ⟨B, hB, h⟩
          · exact List.mem_append_left _ h
          · exact List.mem_append_right _ (List.mem_flatMap.mpr ⟨B, List.mem_of_getElem? hB, List.mem_append_right _ h⟩)
end
end K24

namespace K24
open PySem PySem.Spec PyProof.Rows L2 Z
local macro_rules | `(tactic| walk_at "zr") => `(tactic| (repeat' (with_reducible first | refine r_asg ?_ | refine r_asgT ?_ | refine r_asgG ?_ | refine r_asg1 ?_ | refine r_if ?_ | refine r_if1 ?_ | refine r_drop ?_ | refine r_drop1 ?_ | refine r_ret ?_ | refine r_ret1 ?_ | refine r_retN ?_ | refine r_nx ?_ | refine r_nx1 ?_ | refine r_bk ?_ | refine r_ct ?_ | refine r_par ?_ | refine r_par1 ?_ | refine r_par3 ?_ | refine r_par31 ?_ | refine r_for ?_ | refine r_for1 ?_ | refine r_sfld ?_ | refine r_sfld1 ?_ | refine r_aug (by with_unfolding_all rfl) ?_ | refine r_aug1 (by with_unfolding_all rfl) ?_ | refine r_var (by with_unfolding_all rfl) ?_ | refine r_c ?_ | refine r_op ?_ | refine r_ifE ?_ | refine r_nil ?_ | refine r_cons ?_ | refine r_tup ?_ | refine r_lst ?_ | refine r_cb ?_ | refine r_call ?_ | refine r_test ?_ | refine r_not ?_ | refine r_and ?_ | refine r_or ?_ | refine r_andV ?_ | refine r_orV ?_ | refine r_notV ?_ | refine r_neg ?_ | refine r_bm ?_ | refine r_bm0 ?_ | refine r_sl ?_ | refine r_part ?_ | refine r_noP ?_ | refine r_chain ?_ | refine r_int2 ?_ | refine r_eqI ?_ | refine r_eqS ?_ | refine r_eqB ?_ | refine r_fInt ?_ | refine r_fIntB ?_ | refine r_fAbs ?_ | refine r_fMin ?_ | refine r_lenT ?_ | refine r_isNN ?_ | refine r_isNI ?_ | refine r_isNT ?_ | refine r_isNR ?_ | refine r_ixT0 ?_ | refine r_ixT1 ?_ | refine r_ixT2 ?_ | refine r_ixT3 ?_ | refine r_fld ?_ | refine r_kfld (by assumption) rfl ?_ | refine r_list ?_ | refine r_klist (by assumption) ?_ | refine r_tupI ?_ | refine r_ktupI ?_ | refine r_yes ?_ | refine r_kctI ?_ | refine r_rng1 ?_ | refine r_rng2 ?_ | refine r_enum ?_ | refine r_kenumT ?_ | refine r_kenum (by assumption) ?_ | refine r_fListT ?_ | refine r_fTupT ?_ | refine r_fListR (by assumption) ?_ | refine r_fTupR (by assumption) ?_ | refine r_lenR (by assumption) ?_ | refine r_rev ?_ | refine r_krevT ?_ | refine r_krev (by assumption) ?_ | refine r_setL ?_ | refine r_dget ?_ | refine r_lc0 ?_ | refine r_name ?_ | refine r_gtup (by with_unfolding_all rfl) ?_ | refine r_gcons ?_ | refine r_gnil ?_ | refine r_din ?_ | refine r_setd ?_ | refine r_ksetdA (by assumption) ?_ | refine r_keysI ?_ | refine r_kkeysI (by assumption) ?_ | refine r_dput ?_ | refine r_dput1 ?_ | refine r_dnewK ?_ | refine r_szc (by with_unfolding_all exact Nat.le_of_ble_eq_true rfl) ?_ | refine r_eqlen (by with_unfolding_all rfl) ?_ | refine r_ifT (by decide) ?_ | refine r_ifF (by decide) ?_ | refine r_inFT (b := false) rfl rfl (by decide) ?_ | refine r_inFT (b := true) rfl rfl (by decide) ?_ | refine r_lrng ?_)))
def spNextB (CB CG : Addr) : ZSp := fun ds G Q _ => ∃ (a : Addr) (ps : Vs) (bs : List Addr) (g : Gr) (i : Nat) (B : Blk), ds = [.ref a, iD i] ∧ GrAt CB CG G a ps bs g ∧ GOk ps g ∧ g[i]? = some B ∧ ∀ p G', Ext G G' → G' p = some (.lst ((succ B.en).map iD)) → Q (.ref p) G'
def spLive (CB CG : Addr) : ZSp := fun ds G Q _ => ∃ (a : Addr) (ps : Vs) (bs : List Addr) (g : Gr) (x : Int) (b p : Nat), ds = [.ref a, .int x, iD b, iD p] ∧ GrAt CB CG G a ps bs g ∧ GOk ps g ∧ b < g.length ∧ ∀ c G', Ext G G' → (c = true ↔ Live g x b p) → Q (.bl c) G'
def spNames (CB CG : Addr) : ZSp := fun ds G Q _ => ∃ (a : Addr) (ps : Vs) (bs : List Addr) (g : Gr), ds = [.ref a] ∧ GrAt CB CG G a ps bs g ∧ GOk ps g ∧ ∀ p l G', Ext G G' → Sorted (allNames ps g) l → G' p = some (.lst (intsD l)) → Q (.ref p) G'
theorem atm_inj {a b : Atm} (h : a.d = b.d) : a = b := by
  cases a with
  | int i => cases b with
    | int j => simp only [Atm.d, D.tup.injEq, List.cons.injEq, D.int.injEq] at h; rw [h.2.1]
    | var j =>
      simp only [Atm.d, D.tup.injEq, List.cons.injEq, D.str.injEq] at h
      exact absurd h.1 (by decide)
  | var i => cases b with
    | int j =>
      simp only [Atm.d, D.tup.injEq, List.cons.injEq, D.str.injEq] at h
      exact absurd h.1 (by decide)
    | var j => simp only [Atm.d, D.tup.injEq, List.cons.injEq, D.int.injEq] at h; rw [h.2.1]
theorem atm_mem {a : Atm} {as : List Atm} : a.d ∈ as.map Atm.d ↔ a ∈ as := by
  rw [List.mem_map]
  constructor
  · rintro ⟨b, hb, e⟩
    rw [← atm_inj e]
    exact hb
  · intro h
    exact ⟨a, h, rfl⟩
theorem pl_atm (a : Atm) : pl 60 a.d = true := by
  have h1 : PyData.strOk ("int" : Str) = true := by decide +kernel
  have h2 : PyData.strOk ("var" : Str) = true := by decide +kernel
  cases a with
  | int i =>
    show ([D.str "int", .int i] : List D).all (pl 59) = true
    simp [pl, h1]
  | var i =>
    show ([D.str "var", .int i] : List D).all (pl 59) = true
    simp [pl, h2]
theorem pl_atms (as : List Atm) : (as.map Atm.d).all (pl 60) = true := by
  rw [List.all_eq_true]
  intro d h
  obtain ⟨a, _, rfl⟩ := List.mem_map.mp h
  exact pl_atm a
def spotD (s : Spot) : D := .tup [iD s.1, iD s.2]
theorem spot_mem {s : Spot} {l : List Spot} : spotD s ∈ l.map spotD ↔ s ∈ l := by
  rw [List.mem_map]
  constructor
  · rintro ⟨t, ht, e⟩
    simp only [spotD, D.tup.injEq, List.cons.injEq, D.int.injEq] at e
    have : t = s := Prod.ext (by omega) (by omega)
    rw [← this]
    exact ht
  · intro h
    exact ⟨s, h, rfl⟩
theorem pl_spot (s : Spot) : pl 60 (spotD s) = true := rfl
theorem pl_spots (l : List Spot) : (l.map spotD).all (pl 60) = true := by
  rw [List.all_eq_true]
  intro d h
  obtain ⟨a, _, rfl⟩ := List.mem_map.mp h
  exact pl_spot a
section
variable [τ : Tbl] {P : Program} {w : World} {K : PySem.W.Frag} {mg : Str → Option Value} {base : Heap} {CB CG aA : Addr} {eA : Array DictEntry} {nA : Nat}
theorem ok_Names {f : Addr} {fd : FuncData} (FF : Fun K "_law_names" "_law_names" s__law_names f fd) (T : Txt K w mg CB CG aA eA nA) : FnOk P w K mg base (L2.CX P w) 1 f fd ["graph"] (upSp K (spNames CB CG)) :=
  z_fn FF sc__law_names (fun ds G Q E h => by obtain ⟨_, _, _, _, rfl, _⟩ := h; rfl) fun bas cdv A outer s H E hr ds G Q E0 hE hz => by
    obtain ⟨a, ps, bs, g, rfl, hg, ok, hq⟩ := hz
    refine ⟨_, (zs_cons (z_set (i := 1) sc__law_names.nd rfl (Or.inl rfl) (z_callTy zf_list (by rfl) T.z_list (by rfl) (za_cons (z_fld T.c_Graph T.n_Graph_params (z_var 0)) za_nil))) (zs_cons (z_for (passes_of (by rfl)) rfl (zi_tup (z_fld T.c_Graph T.n_Graph_blocks (z_var 0))) (zg_name (i := 2) sc__law_names.nd rfl (Or.inl rfl)) (zs_one (z_set (i := 1) sc__law_names.nd rfl (Or.inl rfl) (z_op zo_cat (z_op zo_cat (z_var 1) (z_callTy zf_list (by rfl) T.z_list (by rfl) (za_cons (z_fld T.c_Block T.n_Block_params (z_var 2)) za_nil))) (z_lc (own := [("name", 3), ("row", 4)]) rfl sc__law_names.nd (zi_tup (z_fld T.c_Block T.n_Block_rows (z_var 2))) (blkOk_by (by rfl)) (grel_tup (gsrel_cons (grel_name (by decide)) (gsrel_cons (grel_name (by decide)) gsrel_nil))) (fun _ _ _ _ _ => (pg_tup (n := 2) rfl (pgs_cons (pg_name (i := 3) sc__law_names.nd rfl (Or.inl rfl)) (pgs_cons (pg_name (i := 4) sc__law_names.nd rfl (Or.inl rfl)) pgs_nil)))) (fun _ _ _ _ _ => zts_nil) (fun _ _ _ _ _ => (z_var 3))))))) (zs_cons (z_ret (z_callB zf_sortI (by rfl) T.z_sorted (by decide +kernel) (za_cons (z_var 1) za_nil))) zs_nil))), ?_⟩
    obtain ⟨dg, hga⟩ := hg.at_
    have few : ps.length + (g.flatMap blkNames).length ≤ 60 := by
      have := ok.few
      unfold allNames at this
      rw [List.length_append] at this
      exact this
    walk_at "zr"
    intro r G1 nr h1
    have e1 := h1.ext nr
    have hga1 := e1 _ _ hga
    walk_at "zr"
    refine ⟨fun i ρ G2 => Ext G G2 ∧ ∃ (r : Addr) (x y z : Option D), G2 r = some (.lst (intsD (ps ++ (g.take i).flatMap blkNames))) ∧ ρ = [some (.ref a), some (.ref r), x, y, z], ⟨e1, r, _, _, _, by simpa using h1.is, rfl⟩, ?_, ?_⟩
    · rintro i d ρ G2 hi ⟨e2, r2, x, y, z, hr2, rfl⟩
      refine ⟨trivial, ?_⟩
      obtain ⟨b, hb, rfl⟩ := refs_get hi
      obtain ⟨B, hB, dx, hbk⟩ := hg.blk_of hb
      have hbk2 := e2 _ _ hbk
      walk_at "zr"
      intro p G3 np h3
      have e3 := h3.ext np
      have hbk3 := e3 _ _ hbk2
      have lenB : (blkNames B).length ≤ (g.flatMap blkNames).length := by
        have h1 := flat_snoc hB
        have h2 := flat_len (g := g) (i + 1)
        rw [h1, List.length_append] at h2
        omega
      have flen := flat_len (g := g) i
      have lB2 : B.params.length + B.rows.length = (blkNames B).length := by unfold blkNames; simp
      refine r_cat (e3 _ _ hr2) h3.is (big_ok (by simp only [intsD_len, List.length_append]; omega)) fun p4 G4 np4 h4 => ?_
      have e4 := h4.ext np4
      have hbk4 := e4 _ _ hbk3
      have p4i := h4.is
      rw [intsD_app] at p4i
      walk_at "zr"
      have hrl := ok.rl B (List.mem_of_getElem? hB)
      refine lc_pure (fun _ => true) (fun d => match d with | .tup [x, _] => x | _ => .non) trivial (big_lt (by unfold rowsD; rw [List.length_map]; omega)) (fun i d R acc hi h1 h2 => ?_) fun p' G5 np' h5 => ?_
      · obtain ⟨rw_, hrw, rfl⟩ := rowsD_get hi
        walk_at "zr"
        exact h1 rfl
      · have e5 := h5.ext np'
        have lc : List.map (fun d : D => match d with | .tup [x, _] => x | _ => .non) (List.filter (fun _ => true) (rowsD B.rows)) = intsD (B.rows.map (·.1)) := by
          unfold rowsD intsD
          rw [List.filter_eq_self.mpr (by simp), List.map_map, List.map_map]
          rfl
        rw [lc] at h5
        refine r_cat (e5 _ _ p4i) h5.is (big_ok (by simp only [intsD_len, List.length_append, List.length_map]; omega)) fun p6 G6 np6 h6 => ?_
        walk_at "zr"
        refine ⟨e2.trans (e3.trans (e4.trans (e5.trans (h6.ext np6)))), p6, _, _, _, ?_, rfl⟩
        have h7 := h6.is
        rw [intsD_app, List.append_assoc, List.append_assoc] at h7
        rw [flat_snoc hB]
        exact h7
    · rintro ρ G2 ⟨e2, r2, x, y, z, hr2, rfl⟩
      refine ⟨trivial, ?_⟩
      rw [List.length_map, hg.len, List.take_length] at hr2
      walk_at "zr"
      refine r_sortI hr2 fun l p G3 sp so np h3 => ?_
      exact hq p l G3 (e2.trans (h3.ext np)) ⟨sp, so⟩ h3.is
theorem ok_NextB {f : Addr} {fd : FuncData} (FF : Fun K "_law_next_blocks" "_law_next_blocks" s__law_next_blocks f fd) (T : Txt K w mg CB CG aA eA nA) : FnOk P w K mg base (L2.CX P w) 1 f fd ["graph", "number"] (upSp K (spNextB CB CG)) :=
  z_fn FF sc__law_next_blocks (fun ds G Q E h => by obtain ⟨_, _, _, _, _, _, rfl, _⟩ := h; rfl) fun bas cdv A outer s H E hr ds G Q E0 hE hz => by
    obtain ⟨a, ps, bs, g, i, B, rfl, hg, ok, hB, hq⟩ := hz
    refine ⟨_, (zs_cons (z_set (i := 2) sc__law_next_blocks.nd rfl (Or.inl rfl) (z_fld T.c_Block T.n_Block_end (z_ix (z_fld T.c_Graph T.n_Graph_blocks (z_var 0)) (z_var 1)))) (zs_cons (z_if (z_tcmp zo_eqF (z_ix (z_var 2) z_int) z_str) (zs_one (z_ret (z_lst (za_cons (z_ix (z_var 2) z_int) za_nil)))) zs_nil) (zs_cons (z_if (z_tcmp zo_neF (z_ix (z_var 2) z_int) z_str) (zs_one (z_ret (z_lst za_nil))) zs_nil) (zs_cons (z_set (i := 5) sc__law_next_blocks.nd rfl (Or.inr rfl) (z_op zo_cat (z_lc (own := [("key", 3), ("target", 4)]) rfl sc__law_next_blocks.nd (zi_tup (z_ix (z_var 2) z_int)) (blkOk_by (by rfl)) (grel_tup (gsrel_cons (grel_name (by decide)) (gsrel_cons (grel_name (by decide)) gsrel_nil))) (fun _ _ _ _ _ => (pg_tup (n := 2) rfl (pgs_cons (pg_name (i := 3) sc__law_next_blocks.nd rfl (Or.inl rfl)) (pgs_cons (pg_name (i := 4) sc__law_next_blocks.nd rfl (Or.inl rfl)) pgs_nil)))) (fun _ _ _ _ _ => zts_nil) (fun _ _ _ _ _ => (z_var 4))) (z_ifE (z_tcmp zo_notN (z_ix (z_var 2) z_int) z_non) (z_lst (za_cons (z_ix (z_var 2) z_int) za_nil)) (z_lst za_nil)))) (zs_cons (z_ret (z_lc (own := [("k", 6), ("target", 4)]) rfl sc__law_next_blocks.nd (zi_enumA (by rfl) T.z_enumerate (za_cons (z_var 5) za_nil)) (blkOk_by (by rfl)) (grel_tup (gsrel_cons (grel_name (by decide)) (gsrel_cons (grel_name (by decide)) gsrel_nil))) (fun _ _ _ _ _ => (pg_tup (n := 2) rfl (pgs_cons (pg_name (i := 6) sc__law_next_blocks.nd rfl (Or.inl rfl)) (pgs_cons (pg_name (i := 4) sc__law_next_blocks.nd rfl (Or.inl rfl)) pgs_nil)))) (fun _ _ _ _ _ => (zts_one (z_tcmp (zo_notinP (un65 hr)) (z_var 4) (z_slice zsl_list (z_var 5) zo_none (zo_some (z_var 6)))))) (fun _ _ _ _ _ => (z_var 4)))) zs_nil))))), ?_⟩
    obtain ⟨dg, hga⟩ := hg.at_
    obtain ⟨b, hb, dx, hbk⟩ := hg.get hB
    have hix : (bs.map D.ref)[i]? = some (.ref b) := by rw [List.getElem?_map, hb]; rfl
    have tl := ok.tl B (List.mem_of_getElem? hB)
    walk_at "zr"
    refine r_ixT hix ?_
    walk_at "zr"
    cases hen : B.en with
    | jump t as =>
      rw [hen] at hq
      dsimp only [End.d]
      walk_at "zr"
      intro p G1 n1 h1
      exact hq p G1 (h1.ext n1) h1.is
    | ret a2 =>
      rw [hen] at hq
      dsimp only [End.d]
      walk_at "zr"
      intro p G1 n1 h1
      exact hq p G1 (h1.ext n1) h1.is
    | raise a2 =>
      rw [hen] at hq
      dsimp only [End.d]
      walk_at "zr"
      intro p G1 n1 h1
      exact hq p G1 (h1.ext n1) h1.is
    | switch a2 cs d2 =>
      rw [hen] at hq tl
      have csl : cs.length ≤ 3 := by
        unfold targets at tl
        rw [List.length_append] at tl
        omega
      dsimp only [End.d, csD]
      walk_at "zr"
      refine lc_pure (fun _ => true) (fun d => match d with | .tup [_, x] => x | _ => .non) trivial (big_lt (by simp; omega)) (fun i d R acc hi h1 h2 => ?_) fun p1 G1 n1 h1 => ?_
      · obtain ⟨t, ht, rfl⟩ := csD_get hi
        walk_at "zr"
        exact h1 rfl
      · have lc : List.map (fun d : D => match d with | .tup [_, x] => x | _ => .non) (List.filter (fun _ => true) (cs.zipIdx.map fun p => D.tup [iD p.2, iD p.1])) = cs.map iD := by
          rw [List.filter_eq_self.mpr (by simp), List.map_map]
          have : ∀ (k : Nat) (l : List Nat), (l.zipIdx k).map ((fun d : D => match d with | .tup [_, x] => x | _ => .non) ∘ fun p => D.tup [iD p.2, iD p.1]) = l.map iD := by
            intro k l
            induction l generalizing k with
            | nil => rfl
            | cons x l ih => rw [List.zipIdx_cons, List.map_cons, List.map_cons, ih]; rfl
          exact this 0 cs
        rw [lc] at h1
        have h1i := h1.is
        walk_at "zr"
        intro p2 G2 n2 h2
        have e2 := h2.ext n2
        refine r_cat (e2 _ _ h1i) h2.is (big_ok (by simp; omega)) fun p3 G3 n3 h3 => ?_
        have h3i : G3 p3 = some (.lst ((cs ++ [d2]).map iD)) := by rw [List.map_append]; exact h3.is
        have e03 := (h1.ext n1).trans (e2.trans (h3.ext n3))
        walk_at "zr"
        refine ⟨fun j acc G4 => Ext G3 G4 ∧ acc = (united [] ((cs ++ [d2]).take j)).map iD, ⟨Ext.refl _, rfl⟩, ?_, ?_⟩
        · rintro j d acc G4 hj ⟨e4, rfl⟩
          obtain ⟨e, he, rfl⟩ := enD_get hj
          rw [List.getElem?_map] at he
          cases ht : (cs ++ [d2])[j]? with
          | none => rw [ht] at he; cases he
          | some t =>
            rw [ht] at he
            cases he
            have ul := len_unitedN [] ((cs ++ [d2]).take j)
            have tl2 : ((cs ++ [d2]).take j).length ≤ 4 := by rw [List.length_take, List.length_append]; simp; omega
            refine ⟨e4 _ _ h3i, big_lt (by rw [List.length_map]; simp at ul; omega), ?_⟩
            have h3j := e4 _ _ h3i
            walk_at "zr"
            show dSlL _ _ _ _ _
            unfold dSlL
            simp only [h3j]
            intro p5 G5 n5 h5
            have cut : Z.cutD ((cs ++ [d2]).map iD) none (some ((j : Nat) : Int)) = ((cs ++ [d2]).take j).map iD := by
              unfold Z.cutD
              rw [HT.sIx_none, HT.sIx_nat, Nat.sub_zero, List.drop_zero, List.map_take]
              by_cases hjl : j ≤ ((cs ++ [d2]).map iD).length
              · rw [Nat.min_eq_left hjl]
              · rw [Nat.min_eq_right (by omega), List.take_of_length_le (Nat.le_refl _), List.take_of_length_le (by omega)]
            rw [cut] at h5
            walk_at "zr"
            refine r_inN h5.is fun c hc => ?_
            walk_at "zr"
            have us := united_snocN (l := []) ht
            have mu : t ∈ united [] ((cs ++ [d2]).take j) ↔ t ∈ (cs ++ [d2]).take j := by rw [mem_united]; simp
            refine r_niff hc (fun hm => ?_) fun hm => ?_
            · refine ⟨e4.trans (h5.ext n5), ?_⟩
              rw [us]
              unfold addIf
              rw [if_pos (mu.mpr hm)]
            · walk_at "zr"
              refine ⟨e4.trans (h5.ext n5), ?_⟩
              rw [us]
              unfold addIf
              rw [if_neg (fun z => hm (mu.mp z)), snoc_nat]
        · rintro acc G4 ⟨e4, rfl⟩
          refine ⟨e4 _ _ h3i, fun p5 G5 n5 h5 => ?_⟩
          have l1 : (enD ((cs ++ [d2]).map iD)).length = (cs ++ [d2]).length := by rw [enD_len, List.length_map]
          rw [l1, List.take_length] at h5
          exact hq p5 G5 (e03.trans (e4.trans (h5.ext n5))) h5.is
theorem ok_Live {f : Addr} {fd : FuncData} (FF : Fun K "_law_live" "_law_live" s__law_live f fd) (T : Txt K w mg CB CG aA eA nA) (D_flat_atoms : Dfn P w K mg base "flat_atoms" 2 ["operation"] spFlat) (D_end_atoms : Dfn P w K mg base "end_atoms" 1 ["end"] spEndAtoms)
    (D__law_next_blocks : Dfn P w K mg base "_law_next_blocks" 1 ["graph", "number"] (spNextB CB CG)) : FnOk P w K mg base (L2.CX P w) 3 f fd ["graph", "name", "number", "place"] (upSp K (spLive CB CG)) :=
  z_fn FF sc__law_live (fun ds G Q E h => by obtain ⟨_, _, _, _, _, _, _, rfl, _⟩ := h; rfl) fun bas cdv A outer s H E hr ds G Q E0 hE hz => by
    obtain ⟨a, ps, bs, g, x, b, p, rfl, hg, ok, hbl, hq⟩ := hz
    refine ⟨_, (zs_cons (z_par (i := 4) (j := 5) rfl sc__law_live.nd rfl rfl (by decide) rfl rfl (za_cons (z_lst (za_cons (z_tup (za_cons (z_var 2) (za_cons (z_var 3) za_nil))) za_nil)) (za_cons (z_lst za_nil) za_nil)) (by rfl)) (zs_cons (z_for (passes_of (by rfl)) rfl (zi_rng1 (by rfl) T.z_range (za_cons z_int za_nil)) (zg_name (i := 6) sc__law_live.nd rfl (Or.inl rfl)) (zs_cons (z_if (z_tcmp (zo_eqP hr.units) (z_var 4) (z_lst za_nil)) (zs_one (z_ret z_bl)) zs_nil) (zs_cons (z_set (i := 7) sc__law_live.nd rfl (Or.inl rfl) (z_bm0 PySem.F.plainAttrs_list PySem.F.slot_list_pop PySem.F.type_list_pop zm_pop (z_var 4))) (zs_cons (z_if (z_tcmp (zo_notinP (un65 hr)) (z_var 7) (z_var 5)) (zs_cons (z_expr (z_bm PySem.F.plainAttrs_list PySem.F.slot_list_append PySem.F.type_list_append zm_append (z_var 5) (za_cons (z_var 7) za_nil))) (zs_cons (z_set (i := 8) sc__law_live.nd rfl (Or.inl rfl) (z_ix (z_fld T.c_Graph T.n_Graph_blocks (z_var 0)) (z_ix (z_var 7) z_int))) (zs_cons (z_set (i := 9) sc__law_live.nd rfl (Or.inl rfl) z_bl) (zs_cons (z_for (passes_of (by rfl)) rfl (zi_tup (z_slice zsl_tupA (z_fld T.c_Block T.n_Block_rows (z_var 8)) (zo_some (z_ix (z_var 7) z_int)) zo_none)) (zg_name (i := 10) sc__law_live.nd rfl (Or.inl rfl)) (zs_cons (z_if (zw_t (zw_and (z_not (z_val (z_var 9))) (zw_and1 (z_tcmp (zo_inP (un65 hr)) (z_tup (za_cons z_str (za_cons (z_var 1) za_nil))) (z_dc0 D_flat_atoms hr (by decide) (by rfl) (za_cons (z_ix (z_var 10) z_int) za_nil)))))) (zs_one (z_ret z_bl)) zs_nil) (zs_cons (z_set (i := 9) sc__law_live.nd rfl (Or.inl rfl) (z_or (z_var 9) (z_one (z_cmp (zo_eqP hr.units) (z_ix (z_var 10) z_int) (z_var 1))))) zs_nil))) (zs_cons (z_if (zw_t (zw_and (z_not (z_val (z_var 9))) (zw_and1 (z_tcmp (zo_inP (un65 hr)) (z_tup (za_cons z_str (za_cons (z_var 1) za_nil))) (z_dc0 D_end_atoms hr (by decide) (by rfl) (za_cons (z_fld T.c_Block T.n_Block_end (z_var 8)) za_nil)))))) (zs_one (z_ret z_bl)) zs_nil) (zs_cons (z_if (z_not (z_val (z_var 9))) (zs_one (z_set (i := 4) sc__law_live.nd rfl (Or.inl rfl) (z_op zo_cat (z_var 4) (z_lc (own := [("target", 11)]) rfl sc__law_live.nd (zi_list (z_dc0 D__law_next_blocks hr (by decide) (by rfl) (za_cons (z_var 0) (za_cons (z_ix (z_var 7) z_int) za_nil)))) (blkOk_by (by rfl)) (grel_name (by decide)) (fun _ _ _ _ _ => (pg_name (i := 11) sc__law_live.nd rfl (Or.inl rfl))) (fun _ _ _ _ _ => (zts_one (z_tcmp (zo_notinP (un65 hr)) (z_var 1) (z_fld T.c_Block T.n_Block_params (z_ix (z_fld T.c_Graph T.n_Graph_blocks (z_var 0)) (z_var 11)))))) (fun _ _ _ _ _ => (z_tup (za_cons (z_var 11) (za_cons z_int za_nil)))))))) zs_nil) zs_nil)))))) zs_nil) zs_nil)))) (zs_cons (z_ret z_bl) zs_nil))), ?_⟩
    obtain ⟨dg, hga⟩ := hg.at_
    have gl := ok.len
    walk_at "zr"
    intro lp G1 n1 h1
    walk_at "zr"
    intro sp G2 n2 h2
    have spG := (h1.ext n1).back n2
    have lps : lp ≠ sp := fun z => by rw [← z, h1.is] at n2; cases n2
    have e2 := (h1.ext n1).trans (h2.ext n2)
    have hl2 := h2.ext n2 _ _ h1.is
    walk_at "zr"
    refine r_krng1 (n := 1000) (by decide) ?_
    refine ⟨fun k ρ G3 => ∃ (left seen : List Spot) (l : Addr) (u v w z t s6 : Option D), Ext G G3 ∧ G3 l = some (.lst (left.map spotD)) ∧ G3 sp = some (.lst (seen.map spotD)) ∧ G l = none ∧ l ≠ sp ∧ Search g x b p left seen ∧ Count g.length b p k left seen ∧
      ρ = [some (.ref a), some (.int x), some (iD b), some (iD p), some (.ref l), some (.ref sp), u, v, w, z, t, s6], ⟨[(b, p)], [], lp, _, _, _, _, _, _, e2, hl2, h2.is, n1, lps, Search.init hbl, Count.init, rfl⟩, ?_, ?_⟩
    · rintro k d ρ G3 hk ⟨left, seen, l, u, v, w, z, t, s6, e3, hl, hs, nl, lne, sch, cnt, rfl⟩
      refine ⟨trivial, ?_⟩
      obtain ⟨hkl, rfl⟩ := rngD_get hk
      rw [Int.zero_add]
      have cl := cnt.le
      walk_at "zr"
      intro q4 G4 n4 h4
      have e4 := h4.ext n4
      have hl4 := e4 _ _ hl
      have hs4 := e4 _ _ hs
      refine r_eqL hl4 h4.is (pl_spots _) rfl fun c hc => ?_
      walk_at "zr"
      refine r_iff hc (fun he => ?_) fun he => ?_
      · have l0 : left = [] := by
          cases left with
          | nil => rfl
          | cons s l => cases he
        subst l0
        walk_at "zr"
        exact hq false G4 (e3.trans e4) ⟨fun h => (by cases h), fun h => absurd h sch.none⟩
      · have lne0 : left ≠ [] := fun z => he (by rw [z]; rfl)
        obtain ⟨lf, sx, rfl⟩ : ∃ lf sx, left = lf ++ [sx] := ⟨left.dropLast, left.getLast lne0, (List.dropLast_concat_getLast lne0).symm⟩
        have hl4' : G4 l = some (.lst (lf.map spotD ++ [spotD sx])) := by rw [hl4, List.map_append]; rfl
        walk_at "zr"
        refine ⟨r_tyL hl4', ?_⟩
        refine r_pop hl4' fun G5 h5 => ?_
        have hs5 := (h5.other sp (Ne.symm lne)).trans hs4
        have e5 : Ext G G5 := ext_set (e3.trans e4) nl h5
        have sxl : sx.1 < g.length := sch.blk sx (List.mem_append_right _ List.mem_cons_self)
        walk_at "zr"
        refine r_inL hs5 (pl_spot sx) (pl_spots _) fun c hc => ?_
        walk_at "zr"
        have hc' : c = true ↔ sx ∈ seen := hc.trans spot_mem
        refine r_niff hc' (fun hm => ?_) fun hm => ?_
        · walk_at "zr"
          exact ⟨lf, seen, l, _, _, _, _, _, _, e5, h5.is, hs5, nl, lne, sch.skip hm, cnt.skip, rfl⟩
        · walk_at "zr"
          refine ⟨r_tyL hs5, ?_⟩
          walk_at "zr"
          have sl : seen.length ≤ 1000 := by have := cnt.nod; have := cnt.cnt; have h := length_le (b := (b, p) :: (List.range g.length).map fun t => (t, 0)) cnt.nod fun s hs => (by
            rcases cnt.sub s (List.mem_append_left _ hs) with e | ⟨e1, e2⟩
            · rw [e]; exact List.mem_cons_self
            · exact List.mem_cons_of_mem _ (List.mem_map.mpr ⟨s.1, List.mem_range.mpr e1, by rw [← e2]⟩)); simp at h; omega
          refine r_append hs5 (big_lt (by rw [List.length_map]; omega)) fun G6 h6 => ?_
          have e6 : Ext G G6 := ext_set e5 spG h6
          have hl6 : G6 l = some (.lst (lf.map spotD)) := (h6.other l lne).trans h5.is
          have hs6 : G6 sp = some (.lst ((seen ++ [sx]).map spotD)) := by rw [List.map_append]; exact h6.is
          have hB : g[sx.1]? = some g[sx.1] := List.getElem?_eq_getElem sxl
          generalize g[sx.1] = B at hB
          have mB := List.mem_of_getElem? hB
          obtain ⟨bB, hbB, dx, hbk⟩ := hg.get hB
          have hix : (bs.map D.ref)[sx.1]? = some (.ref bB) := by rw [List.getElem?_map, hbB]; rfl
          have hga6 := e6 _ _ hga
          have hbk6 := e6 _ _ hbk
          dsimp only [spotD]
          walk_at "zr"
          refine r_ixT hix ?_
          walk_at "zr"
          show dSlA _ _ _ _ _
          have cut : ∀ R : DK, R (.tup (rowsD (B.rows.drop sx.2))) G6 → dSlA (.tup (rowsD B.rows)) (some ((sx.2 : Nat) : Int)) none G6 R := fun R h => by
            show R (.tup (Z.cutD (rowsD B.rows) (some ((sx.2 : Nat) : Int)) none)) G6
            have : Z.cutD (rowsD B.rows) (some ((sx.2 : Nat) : Int)) none = rowsD (B.rows.drop sx.2) := by
              unfold Z.cutD rowsD
              rw [HT.sIx_none, HT.sIx_nat, List.map_drop, List.length_map]
              by_cases hle : sx.2 ≤ B.rows.length
              · rw [Nat.min_eq_left hle, List.take_of_length_le (by rw [List.length_drop, List.length_map]; omega)]
              · rw [Nat.min_eq_right (by omega), List.drop_of_length_le (by rw [List.length_map]; omega), List.drop_of_length_le (by rw [List.length_map]; omega)]
                simp
            rw [this]
            exact h
          refine cut _ ?_
          walk_at "zr"
          generalize hrows : B.rows.drop sx.2 = rows
          refine ⟨fun j ρ G7 => ∃ (c : Bool) (y : Option D), Ext G6 G7 ∧ (c = false → scan x (rows.drop j) B.en = scan x rows B.en) ∧ (c = true → scan x rows B.en = some false) ∧
            ρ = [some (.ref a), some (.int x), some (iD b), some (iD p), some (.ref l), some (.ref sp), some (iD k), some (.tup [iD sx.1, iD sx.2]), some (.ref bB), some (.bl c), y, s6], ⟨false, t, Ext.refl _, fun _ => rfl, fun h => (by cases h), rfl⟩, ?_, ?_⟩
          · rintro j d ρ G7 hj ⟨c, y, e7, cf, ct, rfl⟩
            refine ⟨trivial, ?_⟩
            obtain ⟨r, hr, rfl⟩ := rowsD_get hj
            have hjl := (List.getElem?_eq_some_iff.mp hr).1
            have dj : rows.drop j = r :: rows.drop (j + 1) := by rw [List.drop_eq_getElem_cons hjl, (List.getElem?_eq_some_iff.mp hr).2]
            have e67 := e6.trans e7
            cases c with
            | true =>
              walk_at "zr"
              exact ⟨true, _, e7, fun h => (by cases h), fun _ => ct rfl, rfl⟩
            | false =>
              have sc := cf rfl
              rw [dj, scan_cons] at sc
              walk_at "zr"
              refine ⟨r.2, rfl, ?_⟩
              refine r_inT (pl_atm (.var x)) (pl_atms _) fun c2 hc2 => ?_
              have hc3 : c2 = true ↔ .var x ∈ r.2.atoms := hc2.trans (atm_mem (a := .var x))
              walk_at "zr"
              refine r_iff hc3 (fun hu => ?_) fun hu => ?_
              · rw [if_pos hu] at sc
                walk_at "zr"
                refine hq true G7 (e6.trans e7) ⟨fun _ => ?_, fun _ => rfl⟩
                exact sch.hit hB (by rw [hrows]; exact sc.symm)
              · rw [if_neg hu] at sc
                walk_at "zr"
                refine r_eqP rfl rfl fun c4 hc4 => ?_
                have hc5 : c4 = true ↔ r.1 = x := hc4.trans ⟨fun h => D.int.inj h, fun h => by rw [h]⟩
                walk_at "zr"
                refine ⟨_, _, e7, fun h => ?_, fun h => ?_, rfl⟩
                · have hne : ¬ r.1 = x := fun z => by
                    rw [hc5.mpr z] at h
                    cases h
                  rw [if_neg hne] at sc
                  exact sc
                · have heq : r.1 = x := hc5.mp (by simpa using h)
                  rw [if_pos heq] at sc
                  exact sc.symm
          · rintro ρ G7 ⟨c, y, e7, cf, ct, rfl⟩
            refine ⟨trivial, ?_⟩
            have lr : (rowsD rows).length = rows.length := by unfold rowsD; rw [List.length_map]
            rw [lr, List.drop_length] at cf
            have hbk7 := e7 _ _ hbk6
            have hl7 := e7 _ _ hl6
            have hs7 := e7 _ _ hs6
            have e67 := e6.trans e7
            cases c with
            | true =>
              have sc := ct rfl
              rw [← hrows] at sc
              walk_at "zr"
              exact ⟨lf, seen ++ [sx], l, _, _, _, _, _, _, e67, hl7, hs7, nl, lne, sch.stop hB sc, by have := cnt.step (ts := []) hm (by simp) (by simp); simpa using this, rfl⟩
            | false =>
              have sc := cf rfl
              have sn : scan x [] B.en = if .var x ∈ B.en.atoms then some true else none := rfl
              rw [sn] at sc
              walk_at "zr"
              refine ⟨B.en, rfl, ?_⟩
              refine r_inT (pl_atm (.var x)) (pl_atms _) fun c2 hc2 => ?_
              have hc3 : c2 = true ↔ .var x ∈ B.en.atoms := hc2.trans (atm_mem (a := .var x))
              walk_at "zr"
              refine r_iff hc3 (fun hu => ?_) fun hu => ?_
              · rw [if_pos hu] at sc
                walk_at "zr"
                refine hq true G7 e67 ⟨fun _ => ?_, fun _ => rfl⟩
                exact sch.hit hB (by rw [hrows]; exact sc.symm)
              · rw [if_neg hu] at sc
                have sc' : scan x (B.rows.drop sx.2) B.en = none := by rw [hrows]; exact sc.symm
                have hg7 := hg.ext e67
                walk_at "zr"
                refine ⟨a, ps, bs, g, sx.1, B, rfl, hg7, ok, hB, fun p8 G8 e8 h8 => ?_⟩
                have hga8 := e8 _ _ (e67 _ _ hga)
                have sl8 := succ_len (e := B.en)
                have tl8 := ok.tl B mB
                walk_at "zr"
                refine lc_pure (fun d => match d with | .int i => (match g[i.toNat]? with | some T => !decide (x ∈ T.params) | none => false) | _ => false) (fun d => .tup [d, .int 0]) h8 (big_lt (by rw [List.length_map]; omega)) (fun i d R acc hi c1 c2 => ?_) fun p9 G9 n9 h9 => ?_
                · rw [List.getElem?_map] at hi
                  cases ea : (succ B.en)[i]? with
                  | none => rw [ea] at hi; cases hi
                  | some t =>
                    rw [ea] at hi
                    cases hi
                    obtain ⟨Tb, hT, _⟩ := ok.tg B mB t (List.mem_of_getElem? ea)
                    obtain ⟨tb, htb, hTbk⟩ := hg.get hT
                    obtain ⟨dt, hTb⟩ := (hTbk.ext e67).ext e8
                    have hix2 : (bs.map D.ref)[t]? = some (.ref tb) := by rw [List.getElem?_map, htb]; rfl
                    have val : (match g[((t : Nat) : Int).toNat]? with | some T => !decide (x ∈ T.params) | none => false) = !decide (x ∈ Tb.params) := by
                      rw [Int.toNat_natCast, hT]
                    have c1' : (!decide (x ∈ Tb.params)) = true → R (acc ++ [.tup [iD t, .int 0]]) G8 := fun h => c1 (val.trans h)
                    have c2' : (!decide (x ∈ Tb.params)) = false → R acc G8 := fun h => c2 (val.trans h)
                    walk_at "zr"
                    refine r_ixT hix2 ?_
                    walk_at "zr"
                    refine r_inTI fun c4 hc4 => ?_
                    walk_at "zr"
                    refine r_niff hc4 (fun hm4 => ?_) fun hm4 => ?_
                    · exact c2' (by simp [hm4])
                    · walk_at "zr"
                      exact c1' (by simp [hm4])
                · have el : List.map (fun d : D => .tup [d, .int 0]) (List.filter (fun d : D => match d with | .int i => (match g[i.toNat]? with | some T => !decide (x ∈ T.params) | none => false) | _ => false) ((succ B.en).map iD)) = ((nexts g x B.en).map fun t => (t, 0)).map spotD := by
                    rw [List.filter_map, List.map_map, List.map_map]
                    unfold nexts
                    rfl
                  rw [el] at h9
                  have e9 := h9.ext n9
                  have hl9 := e9 _ _ (e8 _ _ hl7)
                  have hs9 := e9 _ _ (e8 _ _ hs7)
                  have nxl : (nexts g x B.en).length ≤ 3 := by
                    unfold nexts
                    exact Nat.le_trans (List.length_filter_le _ _) (by omega)
                  have cl2 : lf.length ≤ 1000 := by simp at cl; omega
                  refine r_cat hl9 h9.is (big_ok (by simp only [List.length_map]; omega)) fun pa Ga na ha => ?_
                  have ea := ha.ext na
                  have e9a := e67.trans (e8.trans (e9.trans ea))
                  have hpa : Ga pa = some (.lst ((lf ++ (nexts g x B.en).map fun t => (t, 0)).map spotD)) := by rw [List.map_append]; exact ha.is
                  walk_at "zr"
                  refine ⟨_, seen ++ [sx], pa, _, _, _, _, _, _, e9a, hpa, ea _ _ hs9, (e67.trans (e8.trans e9)).back na, fun z => (by rw [z, hs9] at na; cases na), sch.step hB sc', cnt.step hm nxl fun t ht => ?_, rfl⟩
                  obtain ⟨_, T, hT, _⟩ := mem_nexts.mp ht
                  exact (List.getElem?_eq_some_iff.mp hT).1
    · rintro ρ G3 ⟨left, seen, l, u, v, w, z, t, s6, e3, hl, hs, nl, lne, sch, cnt, rfl⟩
      exfalso
      have := cnt.le
      rw [rngD_len] at this
      omega
end
end K24

namespace K24
open PySem PySem.Spec PyProof.Rows L2 Z
local macro_rules | `(tactic| walk_at "zr") => `(tactic| (repeat' (with_reducible first | refine r_asg ?_ | refine r_asgT ?_ | refine r_asgG ?_ | refine r_asg1 ?_ | refine r_if ?_ | refine r_if1 ?_ | refine r_drop ?_ | refine r_drop1 ?_ | refine r_ret ?_ | refine r_ret1 ?_ | refine r_retN ?_ | refine r_nx ?_ | refine r_nx1 ?_ | refine r_bk ?_ | refine r_ct ?_ | refine r_par ?_ | refine r_par1 ?_ | refine r_par3 ?_ | refine r_par31 ?_ | refine r_for ?_ | refine r_for1 ?_ | refine r_sfld ?_ | refine r_sfld1 ?_ | refine r_aug (by with_unfolding_all rfl) ?_ | refine r_aug1 (by with_unfolding_all rfl) ?_ | refine r_var (by with_unfolding_all rfl) ?_ | refine r_c ?_ | refine r_op ?_ | refine r_ifE ?_ | refine r_nil ?_ | refine r_cons ?_ | refine r_tup ?_ | refine r_lst ?_ | refine r_cb ?_ | refine r_call ?_ | refine r_test ?_ | refine r_not ?_ | refine r_and ?_ | refine r_or ?_ | refine r_andV ?_ | refine r_orV ?_ | refine r_notV ?_ | refine r_neg ?_ | refine r_bm ?_ | refine r_bm0 ?_ | refine r_sl ?_ | refine r_part ?_ | refine r_noP ?_ | refine r_chain ?_ | refine r_int2 ?_ | refine r_eqI ?_ | refine r_eqS ?_ | refine r_eqB ?_ | refine r_fInt ?_ | refine r_fIntB ?_ | refine r_fAbs ?_ | refine r_fMin ?_ | refine r_lenT ?_ | refine r_isNN ?_ | refine r_isNI ?_ | refine r_isNT ?_ | refine r_isNR ?_ | refine r_ixT0 ?_ | refine r_ixT1 ?_ | refine r_ixT2 ?_ | refine r_ixT3 ?_ | refine r_fld ?_ | refine r_kfld (by assumption) rfl ?_ | refine r_list ?_ | refine r_klist (by assumption) ?_ | refine r_tupI ?_ | refine r_ktupI ?_ | refine r_yes ?_ | refine r_kctI ?_ | refine r_rng1 ?_ | refine r_rng2 ?_ | refine r_enum ?_ | refine r_kenumT ?_ | refine r_kenum (by assumption) ?_ | refine r_fListT ?_ | refine r_fTupT ?_ | refine r_fListR (by assumption) ?_ | refine r_fTupR (by assumption) ?_ | refine r_lenR (by assumption) ?_ | refine r_rev ?_ | refine r_krevT ?_ | refine r_krev (by assumption) ?_ | refine r_setL ?_ | refine r_dget ?_ | refine r_lc0 ?_ | refine r_name ?_ | refine r_gtup (by with_unfolding_all rfl) ?_ | refine r_gcons ?_ | refine r_gnil ?_ | refine r_din ?_ | refine r_setd ?_ | refine r_ksetdA (by assumption) ?_ | refine r_keysI ?_ | refine r_kkeysI (by assumption) ?_ | refine r_dput ?_ | refine r_dput1 ?_ | refine r_dnewK ?_ | refine r_szc (by with_unfolding_all exact Nat.le_of_ble_eq_true rfl) ?_ | refine r_eqlen (by with_unfolding_all rfl) ?_ | refine r_ifT (by decide) ?_ | refine r_ifF (by decide) ?_ | refine r_inFT (b := false) rfl rfl (by decide) ?_ | refine r_inFT (b := true) rfl rfl (by decide) ?_ | refine r_lrng ?_)))
/-- names of which p holds, of a comprehension whose test makes new things alone -/
theorem lc_filter [τ : Tbl] {ρ : ZSt} {G : Gp} {g : DG} {QQ : Addr → Gp → Prop} {tt : DT} {te : DE} {vs : List Nat} {live : Gp → Prop} (p : Int → Prop) (nl : Vs) (lv : ∀ G', Ext G G' → live G') (hl : nl.length ≤ 1000)
    (step : ∀ (i : Nat) (x : Int) (acc : List D) (R : List D → Gp → Prop) G', nl[i]? = some x → Ext G G' → (∀ G'', Ext G' G'' → p x → R (acc ++ [.int x]) G'') → (∀ G'', Ext G' G'' → ¬ p x → R acc G'') →
      g (.int x) (zwipe ρ vs) G' fun ρ2 G2 => tt ρ2 G2 fun b G3 => if b = true then te ρ2 G3 fun e G4 => R (acc ++ [e]) G4 else R acc G3)
    (q : ∀ a G2 l, Ext G G2 → (∀ x, x ∈ l ↔ x ∈ nl ∧ p x) → (nl.Pairwise (· ≤ ·) → l.Pairwise (· ≤ ·)) → (nl.Nodup → l.Nodup) → l.length ≤ nl.length → G2 a = some (.lst (intsD l)) → QQ a G2) :
    ∃ P : Nat → List D → Gp → Prop, P 0 [] G ∧
    (∀ i d acc G', (intsD nl)[i]? = some d → P i acc G' → live G' ∧ acc.length < sizeLine ∧ g d (zwipe ρ vs) G' fun ρ2 G2 => tt ρ2 G2 fun b G3 => if b = true then te ρ2 G3 fun e G4 => P (i + 1) (acc ++ [e]) G4 else P (i + 1) acc G3) ∧
    ∀ acc G', P (intsD nl).length acc G' → live G' ∧ ∀ p G2, G' p = none → At G' p (.lst acc) G2 → QQ p G2 := by
  refine ⟨fun i acc G1 => Ext G G1 ∧ ∃ l, acc = intsD l ∧ l.Sublist (nl.take i) ∧ ∀ x, x ∈ l ↔ x ∈ nl.take i ∧ p x, ⟨Ext.refl G, [], rfl, List.nil_sublist _, fun x => by simp⟩, ?_, ?_⟩
  · rintro i d acc G' hi ⟨e1, l, rfl, sl, ml⟩
    obtain ⟨x, hx, rfl⟩ := intsD_get hi
    have tk : nl.take (i + 1) = nl.take i ++ [x] := by rw [List.take_add_one, hx]; rfl
    refine ⟨lv G' e1, ?_, ?_⟩
    · rw [intsD_len]
      have h1 := sl.length_le
      rw [List.length_take] at h1
      exact big_lt (by omega)
    · refine step i x _ (fun acc G1 => Ext G G1 ∧ ∃ l, acc = intsD l ∧ l.Sublist (nl.take (i + 1)) ∧ ∀ x, x ∈ l ↔ x ∈ nl.take (i + 1) ∧ p x) G' hx e1 (fun G'' e2 hp => ?_) fun G'' e2 hp => ?_
      · refine ⟨e1.trans e2, l ++ [x], by rw [← intsD_app]; rfl, ?_, fun y => ?_⟩
        · rw [tk]
          exact sl.append (List.Sublist.refl _)
        · rw [tk, List.mem_append, List.mem_append, ml]
          constructor
          · rintro (h | h)
            · exact ⟨.inl h.1, h.2⟩
            · rw [List.mem_singleton.mp h]
              exact ⟨.inr List.mem_cons_self, hp⟩
          · rintro ⟨h | h, h2⟩
            · exact .inl ⟨h, h2⟩
            · exact .inr h
      · refine ⟨e1.trans e2, l, rfl, ?_, fun y => ?_⟩
        · rw [tk]
          exact sl.trans (List.sublist_append_left _ _)
        · rw [tk, List.mem_append, ml]
          constructor
          · rintro ⟨h1, h2⟩
            exact ⟨.inl h1, h2⟩
          · rintro ⟨h | h, h2⟩
            · exact ⟨h, h2⟩
            · rw [List.mem_singleton.mp h] at h2
              exact absurd h2 hp
  · rintro acc G' ⟨e1, l, rfl, sl, ml⟩
    rw [intsD_len, List.take_length] at sl ml
    exact ⟨lv G' e1, fun a G2 n h => q a G2 l (e1.trans (h.ext n)) ml (fun h => h.sublist sl) (fun h => h.sublist sl) sl.length_le h.is⟩
/-! ### the law's table: rows are made anew -/
structure TabR (G : Gp) (a : Addr) (t : T3 Addr) : Prop where
  at_ : G a = some (.dk (tabD t))
  row : ∀ e ∈ t, G e.2.1 = some (.lst (intsD e.2.2))
theorem TabR.ext {G G' : Gp} {a : Addr} {t : T3 Addr} (h : TabR G a t) (e : Ext G G') : TabR G' a t := ⟨e _ _ h.at_, fun x hx => e _ _ (h.row x hx)⟩
theorem tab_rep {t : T3 Addr} {k v : Int} {p : Addr} (h : k ∈ keys t) : putD (tabD t) (Sum.inl k) (.ref p) = tabD (app t k v (some p)) := by
  unfold putD
  have : ((tabD t).any fun kv => decide (kv.1 = Sum.inl k)) = true := by
    rw [List.any_eq_true]
    obtain ⟨e, he, rfl⟩ := List.mem_map.mp h
    exact ⟨_, List.mem_map.mpr ⟨e, he, rfl⟩, decide_eq_true rfl⟩
  rw [this]
  simp only [if_true]
  unfold tabD app
  rw [List.map_map, List.map_map]
  exact List.map_congr_left fun e _ => by
    show (if (Sum.inl e.1 : Key) = Sum.inl k then ((Sum.inl e.1 : Key), D.ref p) else (Sum.inl e.1, D.ref e.2.1)) = ((Sum.inl (if e.1 = k then (e.1, p, e.2.2 ++ [v]) else e).1 : Key), D.ref (if e.1 = k then (e.1, p, e.2.2 ++ [v]) else e).2.1)
    by_cases hk : e.1 = k
    · rw [if_pos (by rw [hk]), if_pos hk]
    · rw [if_neg (fun z => hk (Sum.inl.inj z)), if_neg hk]
theorem TabR.rep {G G1 G2 : Gp} {a p : Addr} {t : T3 Addr} {k v : Int} (h : TabR G a t) (nk : (keys t).Nodup) (hk : k ∈ keys t) (e : Ext G G1) (hp : G1 p = some (.lst (intsD (getv t k ++ [v])))) (h2 : At G1 a (.dk (tabD (app t k v (some p)))) G2) : TabR G2 a (app t k v (some p)) := by
  refine ⟨h2.is, fun f hf => ?_⟩
  unfold app at hf
  obtain ⟨x, hx, rfl⟩ := List.mem_map.mp hf
  have ne : ∀ {q : Addr} {l : List D}, G1 q = some (.lst l) → q ≠ a := fun {q l} hq z => by
    rw [z, e _ _ h.at_] at hq
    cases hq
  split
  · rename_i ek
    show G2 p = some (.lst (intsD (x.2.2 ++ [v])))
    rw [h2.other p (ne hp), hp, ← ek, getv_mem nk hx]
  · have := e _ _ (h.row x hx)
    rw [h2.other _ (ne this)]
    exact this
theorem TabR.new {G G1 G2 : Gp} {a p : Addr} {t : T3 Addr} {k : Int} (h : TabR G a t) (e : Ext G G1) (hp : G1 p = some (.lst [])) (h2 : At G1 a (.dk (tabD (t ++ [(k, p, [])]))) G2) : TabR G2 a (t ++ [(k, p, [])]) := by
  refine ⟨h2.is, fun f hf => ?_⟩
  have ne : ∀ {q : Addr} {l : List D}, G1 q = some (.lst l) → q ≠ a := fun {q l} hq z => by
    rw [z, e _ _ h.at_] at hq
    cases hq
  rcases List.mem_append.mp hf with hf | hf
  · have := e _ _ (h.row f hf)
    rw [h2.other _ (ne this)]
    exact this
  · rw [List.mem_singleton.mp hf]
    rw [h2.other p (ne hp)]
    exact hp
/-- what is left when spots were looked at -/
structure Spt where
  n : Int
  o : Addr
  os : Vs
def sptD (s : Spt) : D := .tup [.int s.n, .ref s.o]
def JoinS (R : Int → Int → Prop) (ss : List Spt) : Int → Int → Prop := fun x y => R x y ∨ x ≠ y ∧ ∃ s ∈ ss, x = s.n ∧ y ∈ s.os ∨ y = s.n ∧ x ∈ s.os
theorem joinS_snoc {R : Int → Int → Prop} {ss : List Spt} {s : Spt} (x y : Int) : Join (JoinS R ss) s.n s.os x y ↔ JoinS R (ss ++ [s]) x y := by
  unfold Join JoinS
  constructor
  · rintro ((h | ⟨h, s', h1, h2⟩) | ⟨h, h1⟩)
    · exact .inl h
    · exact .inr ⟨h, s', List.mem_append_left _ h1, h2⟩
    · exact .inr ⟨h, s, List.mem_append_right _ List.mem_cons_self, h1⟩
  · rintro (h | ⟨h, s', h1, h2⟩)
    · exact .inl (.inl h)
    · rcases List.mem_append.mp h1 with h1 | h1
      · exact .inl (.inr ⟨h, s', h1, h2⟩)
      · rw [List.mem_singleton.mp h1] at h2
        exact .inr ⟨h, h2⟩
theorem joinS_block {ps : Vs} {g : Gr} {n : Nat} {B : Blk} {grp : Vs} {o : Addr} {L : List (Addr × Vs)} (hB : g[n]? = some B) (hg : ∀ x, x ∈ grp ↔ Grp ps g n x) (hL : L.length = B.rows.length) (hl : ∀ (k : Nat) p, L[k]? = some p → ∀ x, x ∈ p.2 ↔ Live g x n (k + 1)) {ss : List Spt}
    (hs : ∀ s, s ∈ ss ↔ (∃ x ∈ grp, s = ⟨x, o, grp⟩) ∨ ∃ (k : Nat) (r : Int × Row) (p : Addr × Vs), B.rows[k]? = some r ∧ L[k]? = some p ∧ s = ⟨r.1, p.1, p.2⟩) (x y : Int) : JoinS (Adj ps g n) ss x y ↔ Adj ps g (n + 1) x y := by
  rw [← adjP_end hB]
  unfold JoinS AdjP EvG EvR
  constructor
  · rintro (h | ⟨h, s, h1, h2⟩)
    · exact .inl h
    · refine .inr ⟨h, ?_⟩
      rcases (hs s).mp h1 with ⟨z, hz, rfl⟩ | ⟨k, r, p, hr, hp, rfl⟩
      · rcases h2 with ⟨h2, h3⟩ | ⟨h2, h3⟩
        · exact .inl ⟨(hg x).mp (by rw [h2]; exact hz), (hg y).mp h3⟩
        · exact .inl ⟨(hg x).mp h3, (hg y).mp (by rw [h2]; exact hz)⟩
      · refine .inr ⟨B, k, r, hB, (List.getElem?_eq_some_iff.mp hr).1, hr, ?_⟩
        rcases h2 with ⟨h2, h3⟩ | ⟨h2, h3⟩
        · exact .inl ⟨h2, (hl k p hp y).mp h3⟩
        · exact .inr ⟨h2, (hl k p hp x).mp h3⟩
  · rintro (h | ⟨h, ⟨h1, h2⟩ | ⟨B', k, r, hB', hk, hr, h1⟩⟩)
    · exact .inl h
    · exact .inr ⟨h, ⟨x, o, grp⟩, (hs _).mpr (.inl ⟨x, (hg x).mpr h1, rfl⟩), .inl ⟨rfl, (hg y).mpr h2⟩⟩
    · rw [hB] at hB'
      cases hB'
      have hp : L[k]? = some L[k] := List.getElem?_eq_getElem (by omega)
      refine .inr ⟨h, ⟨r.1, L[k].1, L[k].2⟩, (hs _).mpr (.inr ⟨k, r, _, hr, hp, rfl⟩), ?_⟩
      rcases h1 with ⟨h1, h2⟩ | ⟨h1, h2⟩
      · exact .inl ⟨h1, (hl k _ hp y).mpr h2⟩
      · exact .inr ⟨h1, (hl k _ hp x).mpr h2⟩
theorem mem_zip {rows : List (Int × Row)} {L : List (Addr × Vs)} {s : Spt} (h : L.length ≤ rows.length) : s ∈ List.zipWith (fun r p => Spt.mk r.1 p.1 p.2) rows L ↔ ∃ (k : Nat) (r : Int × Row) (p : Addr × Vs), rows[k]? = some r ∧ L[k]? = some p ∧ s = ⟨r.1, p.1, p.2⟩ := by
  rw [List.mem_iff_getElem?]
  constructor
  · rintro ⟨i, hi⟩
    rw [List.getElem?_zipWith] at hi
    cases h1 : rows[i]? with
    | none => rw [h1] at hi; cases hi
    | some r =>
      cases h2 : L[i]? with
      | none => rw [h1, h2] at hi; cases hi
      | some p =>
        rw [h1, h2] at hi
        exact ⟨i, r, p, h1, h2, (Option.some.inj hi).symm⟩
  · rintro ⟨i, r, p, h1, h2, rfl⟩
    exact ⟨i, by rw [List.getElem?_zipWith, h1, h2]⟩
/-! ### dict of names -/
def oneD (l : Vs) : List (Key × D) := l.map fun x => (Sum.inl x, D.int 1)
theorem one_put (u : Vs) (x : Int) : putD (oneD u) (Sum.inl x) (.int 1) = oneD (addIf u x) := by
  unfold putD addIf
  have : ((oneD u).any fun kv => decide (kv.1 = Sum.inl x)) = decide (x ∈ u) := by
    unfold oneD
    rw [List.any_map]
    induction u with
    | nil => rfl
    | cons y u ih =>
      rw [List.any_cons, ih]
      have : ((fun kv : Key × D => decide (kv.1 = Sum.inl x)) ∘ fun n => (Sum.inl n, D.int 1)) y = decide (y = x) := by
        show decide ((Sum.inl y : Key) = Sum.inl x) = _
        rw [decide_eq_decide]
        exact ⟨fun h => Sum.inl.inj h, fun h => by rw [h]⟩
      rw [this]
      by_cases h : y = x
      · simp [h]
      · have h' : ¬ x = y := fun z => h z.symm
        simp [h, h']
  rw [this]
  by_cases h : x ∈ u
  · simp only [h, decide_true, if_true]
    unfold oneD
    rw [List.map_map]
    exact List.map_congr_left fun y _ => by
      show (if (Sum.inl y : Key) = Sum.inl x then ((Sum.inl y : Key), D.int 1) else (Sum.inl y, D.int 1)) = _
      split <;> rfl
  · simp only [h, decide_false, Bool.false_eq_true, if_false]
    unfold oneD
    simp
theorem one_merge (l : Vs) : ∀ u, mergeD (oneD u) (oneD l) = oneD (united u l) := by
  induction l with
  | nil => intro u; rfl
  | cons x l ih =>
    intro u
    show mergeD (putD (oneD u) (Sum.inl x) (.int 1)) (oneD l) = oneD (united (addIf u x) l)
    rw [one_put, ih]
theorem one_keys (u : Vs) : (oneD u).map (·.1) = u.map Sum.inl := by unfold oneD; rw [List.map_map]; rfl
theorem oneD_tup (l : Vs) : (l.map fun x => D.tup [.int x, .int 1]) = (oneD l).map fun kv => .tup [kD kv.1, kv.2] := by
  unfold oneD
  rw [List.map_map]
  rfl
theorem r_dictP {a : Addr} {kvs : List (Key × D)} {G : Gp} {Q : DK} (h : G a = some (.lst (kvs.map fun kv => .tup [kD kv.1, kv.2]))) (q : ∀ p G', G p = none → At G p (.dk (mergeD [] kvs)) G' → Q (.ref p) G') : fDictP [.ref a] G Q := by
  show (match G a with
    | some (.lst es) => ∃ kvs : List (Key × D), es = kvs.map (fun kv => .tup [kD kv.1, kv.2]) ∧ ∀ p G', G p = none → At G p (.dk (mergeD [] kvs)) G' → Q (.ref p) G'
    | _ => False)
  rw [h]
  exact ⟨kvs, rfl, q⟩
theorem r_sortD {a : Addr} {kvs : List (Key × D)} {ns : Vs} {G : Gp} {Q : DK} (h : G a = some (.dk kvs)) (hk : kvs.map (·.1) = ns.map Sum.inl) (hl : ns.length < 64) (q : ∀ (ns' : List Int) p G', ns'.Perm ns → ns'.Pairwise (· ≤ ·) → G p = none → At G p (.lst (ns'.map D.int)) G' → Q (.ref p) G') : fSortD [.ref a] G Q := by
  show (match G a with
    | some (.dk kvs) => ∃ ns : List Int, kvs.map (·.1) = ns.map Sum.inl ∧ ns.length < 64 ∧ ∀ (ns' : List Int) p G', ns'.Perm ns → ns'.Pairwise (· ≤ ·) → G p = none → At G p (.lst (ns'.map D.int)) G' → Q (.ref p) G'
    | _ => False)
  rw [h]
  exact ⟨ns, hk, hl, q⟩
end K24

namespace K24
open PySem PySem.Spec PyProof.Rows L2 Z
local macro_rules | `(tactic| walk_at "zr") => `(tactic| (repeat' (with_reducible first | refine r_asg ?_ | refine r_asgT ?_ | refine r_asgG ?_ | refine r_asg1 ?_ | refine r_if ?_ | refine r_if1 ?_ | refine r_drop ?_ | refine r_drop1 ?_ | refine r_ret ?_ | refine r_ret1 ?_ | refine r_retN ?_ | refine r_nx ?_ | refine r_nx1 ?_ | refine r_bk ?_ | refine r_ct ?_ | refine r_par ?_ | refine r_par1 ?_ | refine r_par3 ?_ | refine r_par31 ?_ | refine r_for ?_ | refine r_for1 ?_ | refine r_sfld ?_ | refine r_sfld1 ?_ | refine r_aug (by with_unfolding_all rfl) ?_ | refine r_aug1 (by with_unfolding_all rfl) ?_ | refine r_var (by with_unfolding_all rfl) ?_ | refine r_c ?_ | refine r_op ?_ | refine r_ifE ?_ | refine r_nil ?_ | refine r_cons ?_ | refine r_tup ?_ | refine r_lst ?_ | refine r_cb ?_ | refine r_call ?_ | refine r_test ?_ | refine r_not ?_ | refine r_and ?_ | refine r_or ?_ | refine r_andV ?_ | refine r_orV ?_ | refine r_notV ?_ | refine r_neg ?_ | refine r_bm ?_ | refine r_bm0 ?_ | refine r_sl ?_ | refine r_part ?_ | refine r_noP ?_ | refine r_chain ?_ | refine r_int2 ?_ | refine r_eqI ?_ | refine r_eqS ?_ | refine r_eqB ?_ | refine r_fInt ?_ | refine r_fIntB ?_ | refine r_fAbs ?_ | refine r_fMin ?_ | refine r_lenT ?_ | refine r_isNN ?_ | refine r_isNI ?_ | refine r_isNT ?_ | refine r_isNR ?_ | refine r_ixT0 ?_ | refine r_ixT1 ?_ | refine r_ixT2 ?_ | refine r_ixT3 ?_ | refine r_fld ?_ | refine r_kfld (by assumption) rfl ?_ | refine r_list ?_ | refine r_klist (by assumption) ?_ | refine r_tupI ?_ | refine r_ktupI ?_ | refine r_yes ?_ | refine r_kctI ?_ | refine r_rng1 ?_ | refine r_rng2 ?_ | refine r_enum ?_ | refine r_kenumT ?_ | refine r_kenum (by assumption) ?_ | refine r_fListT ?_ | refine r_fTupT ?_ | refine r_fListR (by assumption) ?_ | refine r_fTupR (by assumption) ?_ | refine r_lenR (by assumption) ?_ | refine r_rev ?_ | refine r_krevT ?_ | refine r_krev (by assumption) ?_ | refine r_setL ?_ | refine r_dget ?_ | refine r_lc0 ?_ | refine r_name ?_ | refine r_gtup (by with_unfolding_all rfl) ?_ | refine r_gcons ?_ | refine r_gnil ?_ | refine r_din ?_ | refine r_setd ?_ | refine r_ksetdA (by assumption) ?_ | refine r_keysI ?_ | refine r_kkeysI (by assumption) ?_ | refine r_dput ?_ | refine r_dput1 ?_ | refine r_dnewK ?_ | refine r_szc (by with_unfolding_all exact Nat.le_of_ble_eq_true rfl) ?_ | refine r_eqlen (by with_unfolding_all rfl) ?_ | refine r_ifT (by decide) ?_ | refine r_ifF (by decide) ?_ | refine r_inFT (b := false) rfl rfl (by decide) ?_ | refine r_inFT (b := true) rfl rfl (by decide) ?_ | refine r_lrng ?_)))
def spLaw : ZSp := fun ds G Q _ => ∃ (sD : D) (ns : List Int), ds = [sD] ∧ isScript G sD ns ∧ ∀ G', Q (.bl true) G'
structure Wd (CB CG a fa na : Addr) (bs : List Addr) (g : Gr) (qs : List Addr) (F : Fnd) (nl : Vs) (G : Gp) : Prop where
  gr : GrAt CB CG G a [1, 2, 3] bs g
  fnd : FndAt G fa qs F
  nms : G na = some (.lst (intsD nl))
theorem Wd.ext {CB CG a fa na : Addr} {bs : List Addr} {g : Gr} {qs : List Addr} {F : Fnd} {nl : Vs} {G G' : Gp} (h : Wd CB CG a fa na bs g qs F nl G) (e : Ext G G') : Wd CB CG a fa na bs g qs F nl G' := ⟨h.gr.ext e, h.fnd.ext e, e _ _ h.nms⟩
theorem srt_nodup {ps : Vs} {g : Gr} {nl : Vs} (ok : GOk ps g) (s : Sorted (allNames ps g) nl) : nl.Nodup := s.nodup ok.nod
theorem srt_len {ps : Vs} {g : Gr} {nl : Vs} (ok : GOk ps g) (s : Sorted (allNames ps g) nl) : nl.length ≤ 60 := by rw [s.1.length_eq]; exact ok.few
theorem adj_mem {ps : Vs} {g : Gr} {n : Nat} {x y : Int} (ok : GOk ps g) (h : Adj ps g n x y) : y ∈ allNames ps g := by
  obtain ⟨_, m, _, h | ⟨k, B, p, r, hB, _, hr, h⟩⟩ := h
  · obtain ⟨_, B, hB, h⟩ := h
    rcases h with h | ⟨_, h⟩ | h
    · exact GOk.blk_names hB (List.mem_append_left _ h)
    · exact List.mem_append_left _ h
    · exact ok.live_mem h
  · rcases h with ⟨_, h⟩ | ⟨rfl, _⟩
    · exact ok.live_mem h
    · exact GOk.blk_names hB (List.mem_append_right _ (List.mem_map.mpr ⟨r, List.mem_of_getElem? hr, rfl⟩))
def natP (pN : Nat → Bool) : D → Bool := fun d => match d with
  | .int t => pN t.toNat
  | _ => false
theorem natP_iD (pN : Nat → Bool) (n : Nat) : natP pN (iD n) = pN n := by
  show pN ((n : Int).toNat) = pN n
  rw [Int.toNat_natCast]
theorem filt_nat (pN : Nat → Bool) : ∀ ns : List Nat, List.map (fun d : D => d) (List.filter (natP pN) (ns.map iD)) = (ns.filter pN).map iD
  | [] => rfl
  | n :: ns => by
    have ih := filt_nat pN ns
    rw [List.map_cons, List.filter_cons, List.filter_cons, natP_iD]
    split
    · rw [List.map_cons, List.map_cons, ih]
    · exact ih
theorem rng_natI (n : Nat) : rngD 0 n = intsD (natI (List.range n)) := by
  unfold rngD intsD natI
  rw [List.map_map]
  exact List.map_congr_left fun i _ => by
    show D.int (0 + (i : Int)) = D.int (i : Int)
    rw [Int.zero_add]
theorem mem_natI {ns : List Nat} {x : Int} : x ∈ natI ns ↔ ∃ n ∈ ns, x = (n : Int) := by
  unfold natI
  rw [List.mem_map]
  exact ⟨fun ⟨n, h, e⟩ => ⟨n, h, e.symm⟩, fun ⟨n, h, e⟩ => ⟨n, h, e.symm⟩⟩
theorem natI_sub {n : Nat} {p : Nat → Bool} : (natI ((List.range n).filter p)).Pairwise (· ≤ ·) ∧ (natI ((List.range n).filter p)).Nodup := by
  unfold natI
  have h := (List.pairwise_lt_range (n := n)).filter p
  exact ⟨List.pairwise_map.mpr (h.imp fun h => by omega), List.pairwise_map.mpr (h.imp fun h => by omega)⟩
theorem natI_range {n : Nat} : (natI (List.range n)).Pairwise (· ≤ ·) ∧ (natI (List.range n)).Nodup := by
  unfold natI
  have h := List.pairwise_lt_range (n := n)
  exact ⟨List.pairwise_map.mpr (h.imp fun h => by omega), List.pairwise_map.mpr (h.imp fun h => by omega)⟩
theorem er3 : ∀ {t : T3 Addr}, er t = [(1, [2, 3]), (2, [1]), (3, [1])] → ∃ p q r : Addr, t = [(1, p, [2, 3]), (2, q, [1]), (3, r, [1])]
  | [(_, p, _), (_, q, _), (_, r, _)], h => by
    simp only [er, List.map_cons, List.map_nil, List.cons.injEq, Prod.mk.injEq, and_true] at h
    obtain ⟨⟨rfl, rfl⟩, ⟨rfl, rfl⟩, rfl, rfl⟩ := h
    exact ⟨p, q, r, rfl⟩
  | [], h => by simp [er] at h
  | [_], h => by simp [er] at h
  | [_, _], h => by simp [er] at h
  | _ :: _ :: _ :: _ :: _, h => by simp [er] at h
theorem r_pcons {tk tv : DE} {r : List (DE × DE)} {ρ : ZSt} {G : Gp} {Q : List (D × D) → Gp → Prop} (h : tk ρ G fun x G1 => tv ρ G1 fun y G2 => zPairs r ρ G2 fun ps G3 => Q ((x, y) :: ps) G3) : zPairs ((tk, tv) :: r) ρ G Q := h
theorem r_pnil {ρ : ZSt} {G : Gp} {Q : List (D × D) → Gp → Prop} (h : Q [] G) : zPairs [] ρ G Q := h
theorem r_eqDL {a b : Addr} {ks ls : List (Key × D)} {G : Gp} {Q : DK} (h1 : G a = some (.dk ks)) (h2 : G b = some (.dk ls)) (hl : ks.length = ls.length)
    (hv : ∀ p ∈ ks, ∃ (a1 b1 : Addr) (ns : List Int), p.2 = .ref a1 ∧ valD ls p.1 = some (.ref b1) ∧ G a1 = some (.lst (ns.map D.int)) ∧ G b1 = some (.lst (ns.map D.int))) (q : Q (.bl true) G) : dEqDL (.ref a) (.ref b) G Q := by
  show (match G a, G b with
    | some (.dk ks), some (.dk ls) => ks.length = ls.length ∧ (∀ p ∈ ks, ∃ (a1 b1 : Addr) (ns : List Int), p.2 = .ref a1 ∧ valD ls p.1 = some (.ref b1) ∧ G a1 = some (.lst (ns.map D.int)) ∧ G b1 = some (.lst (ns.map D.int))) ∧ Q (.bl true) G
    | _, _ => False)
  rw [h1, h2]
  exact ⟨hl, hv, q⟩
theorem zip_snoc : ∀ {rows : List (Int × Row)} {L : List (Addr × Vs)} {r : Int × Row} {p : Addr × Vs}, rows[L.length]? = some r → List.zipWith (fun r p => Spt.mk r.1 p.1 p.2) rows (L ++ [p]) = List.zipWith (fun r p => Spt.mk r.1 p.1 p.2) rows L ++ [Spt.mk r.1 p.1 p.2]
  | [], L, r, p, h => by simp at h
  | r0 :: rows, [], r, p, h => by
    cases h
    simp
  | r0 :: rows, p0 :: L, r, p, h => by
    simp only [List.length_cons, List.getElem?_cons_succ] at h
    simp only [List.cons_append, List.zipWith_cons_cons]
    rw [zip_snoc h]
theorem spts_get {ss : List Spt} {k : Nat} {d : D} (h : (ss.map sptD)[k]? = some d) : ∃ s, ss[k]? = some s ∧ d = .tup [.int s.n, .ref s.o] := by
  rw [List.getElem?_map] at h
  cases e : ss[k]? with
  | none => rw [e] at h; cases h
  | some s => rw [e] at h; exact ⟨s, rfl, (Option.some.inj h).symm⟩
section
variable [τ : Tbl] {P : Program} {w : World} {K : PySem.W.Frag} {mg : Str → Option Value} {base : Heap} {CB CG aA : Addr} {eA : Array DictEntry} {nA : Nat}
theorem ok_Law {f : Addr} {fd : FuncData} (FF : Fun K "law" "law" s_law f fd) (T : Txt K w mg CB CG aA eA nA) (D_check_graph : Dfn P w K mg base "check_graph" 4 ["graph"] (spCheckGraph CB CG)) (D_live_ins : Dfn P w K mg base "live_ins" 4 ["graph"] (spLiveIns CB CG))
    (D_live_rows : Dfn P w K mg base "live_rows" 3 ["graph", "found", "block"] (spLiveRows CB CG)) (D_live_after : Dfn P w K mg base "live_after" 2 ["graph", "found", "block"] (spLiveAfter CB CG)) (D_live_before : Dfn P w K mg base "live_before" 3 ["block", "after"] (spLiveBefore CB))
    (D_interference : Dfn P w K mg base "interference" 5 ["graph"] (spInterf CB CG)) (D_predecessors : Dfn P w K mg base "predecessors" 2 ["graph"] (spPreds CB CG)) (D_reached_blocks : Dfn P w K mg base "reached_blocks" 2 ["graph"] (spReached CB CG))
    (D_join_all : Dfn P w K mg base "join_all" 2 ["table", "names"] spJoinAll) (D_join_one : Dfn P w K mg base "join_one" 1 ["table", "name", "others"] spJoinOne) (D_united : Dfn P w K mg base "united" 1 ["names", "more"] spUnited) (D_without : Dfn P w K mg base "without" 1 ["names", "gone"] spWithout)
    (D_names_in : Dfn P w K mg base "names_in" 1 ["atoms"] spNamesIn) (D__law_rounds : Dfn P w K mg base "_law_rounds" 2 ["script", "most"] spRounds) (D__law_graph : Dfn P w K mg base "_law_graph" 4 ["dice"] (spGraph CB CG)) (D__law_names : Dfn P w K mg base "_law_names" 1 ["graph"] (spNames CB CG))
    (D__law_live : Dfn P w K mg base "_law_live" 3 ["graph", "name", "number", "place"] (spLive CB CG)) (D__law_next_blocks : Dfn P w K mg base "_law_next_blocks" 1 ["graph", "number"] (spNextB CB CG)) :
    FnOk P w K mg base (L2.CX P w) 6 f fd ["script"] (upSp K spLaw) :=
  z_fn FF sc_law (fun ds G Q E h => by obtain ⟨sD, ns, rfl, _⟩ := h; rfl) fun bas cdv A outer s H E hr ds G Q E0 hE hz => by
    obtain ⟨sD, ns, rfl, hs, hq⟩ := hz
    refine ⟨_, (zs_cons (z_for (passes_of (by rfl)) rfl (zi_list (z_dc0 D__law_rounds hr (by decide) (by rfl) (za_cons (z_var 0) (za_cons z_int za_nil)))) (zg_name (i := 1) sc_law.nd rfl (Or.inl rfl)) (zs_cons (z_set (i := 2) sc_law.nd rfl (Or.inr rfl) (z_dc0 D_check_graph hr (by decide) (by rfl) (za_cons (z_dc0 D__law_graph hr (by decide) (by rfl) (za_cons (z_var 1) za_nil)) za_nil))) (zs_cons (z_asg (z_tup (za_cons (z_dc0 D__law_names hr (by decide) (by rfl) (za_cons (z_var 2) za_nil)) (za_cons (z_callB zf_len (by rfl) T.z_len (by rfl) (za_cons (z_fld T.c_Graph T.n_Graph_blocks (z_var 2)) za_nil)) za_nil))) (zg_tup (n := 2) rfl (zgs_cons (zg_name (i := 3) sc_law.nd rfl (Or.inl rfl)) (zgs_cons (zg_name (i := 4) sc_law.nd rfl (Or.inr rfl)) zgs_nil)))) (zs_cons (z_set (i := 5) sc_law.nd rfl (Or.inr rfl) (z_dc0 D_live_ins hr (by decide) (by rfl) (za_cons (z_var 2) za_nil))) (zs_cons (z_for (passes_of (by rfl)) rfl (zi_rng1 (by rfl) T.z_range (za_cons (z_var 4) za_nil)) (zg_name (i := 6) sc_law.nd rfl (Or.inr rfl)) (zs_cons (z_set (i := 7) sc_law.nd rfl (Or.inr rfl) (z_ix (z_fld T.c_Graph T.n_Graph_blocks (z_var 2)) (z_var 6))) (zs_cons (z_setLc (own := [("name", 8)]) (i := 9) rfl sc_law.nd rfl rfl (by rfl) (zi_list (z_var 3)) (blkOk_by (by rfl)) (grel_name (by decide)) (fun _ _ _ _ _ => (pg_name (i := 8) sc_law.nd rfl (Or.inl rfl))) (fun _ _ _ _ _ => (zts_one (zw_t (zw_and (z_val (z_dc0 D__law_live hr (by decide) (by rfl) (za_cons (z_var 2) (za_cons (z_var 8) (za_cons (z_var 6) (za_cons z_int za_nil)))))) (zw_and1 (z_tcmp (zo_notinP (un65 hr)) (z_var 8) (z_fld T.c_Block T.n_Block_params (z_var 7)))))))) (fun _ _ _ _ _ => (z_var 8))) (zs_cons (z_if (z_tcmp (zo_neP hr.units) (z_ix (z_var 5) (z_var 6)) (z_var 9)) (zs_one (z_ret z_bl)) zs_nil) (zs_cons (z_set (i := 10) sc_law.nd rfl (Or.inl rfl) (z_dc0 D_live_rows hr (by decide) (by rfl) (za_cons (z_var 2) (za_cons (z_var 5) (za_cons (z_var 7) za_nil))))) (zs_cons (z_for (passes_of (by rfl)) rfl (zi_rng1 (by rfl) T.z_range (za_cons (z_op zo_add (z_callB zf_len (by rfl) T.z_len (by rfl) (za_cons (z_fld T.c_Block T.n_Block_rows (z_var 7)) za_nil)) z_int) za_nil)) (zg_name (i := 11) sc_law.nd rfl (Or.inr rfl)) (zs_cons (z_set (i := 13) sc_law.nd rfl (Or.inl rfl) (z_ifE (z_tcmp zo_lt (z_var 11) (z_callB zf_len (by rfl) T.z_len (by rfl) (za_cons (z_fld T.c_Block T.n_Block_rows (z_var 7)) za_nil))) (z_lc (own := [("name", 8)]) rfl sc_law.nd (zi_list (z_var 3)) (blkOk_by (by rfl)) (grel_name (by decide)) (fun _ _ _ _ _ => (pg_name (i := 8) sc_law.nd rfl (Or.inl rfl))) (fun _ _ _ _ _ => (zts_one (z_val (z_dc0 D__law_live hr (by decide) (by rfl) (za_cons (z_var 2) (za_cons (z_var 8) (za_cons (z_var 6) (za_cons (z_op zo_add (z_var 11) z_int) za_nil)))))))) (fun _ _ _ _ _ => (z_var 8))) (z_lc (own := [("name", 8)]) rfl sc_law.nd (zi_list (z_var 3)) (blkOk_by (by rfl)) (grel_name (by decide)) (fun _ _ _ _ _ => (pg_name (i := 8) sc_law.nd rfl (Or.inr rfl))) (fun _ _ _ _ _ => (zts_one (z_tcmp (zo_neP hr.units) (z_lc (own := [("target", 12)]) rfl sc_law.nd (zi_list (z_dc0 D__law_next_blocks hr (by decide) (by rfl) (za_cons (z_var 2) (za_cons (z_var 6) za_nil)))) (blkOk_by (by rfl)) (grel_name (by decide)) (fun _ _ _ _ _ => (pg_name (i := 12) sc_law.nd rfl (Or.inl rfl))) (fun _ _ _ _ _ => (zts_one (z_tcmp (zo_inP (un65 hr)) (z_var 8) (z_ix (z_var 5) (z_var 12))))) (fun _ _ _ _ _ => z_int)) (z_lst za_nil)))) (fun _ _ _ _ _ => (z_var 8))))) (zs_cons (z_if (z_tcmp (zo_neP hr.units) (z_ix (z_var 10) (z_var 11)) (z_var 13)) (zs_one (z_ret z_bl)) zs_nil) zs_nil))) (zs_cons (z_set (i := 14) sc_law.nd rfl (Or.inl rfl) (z_dc0 D_live_after hr (by decide) (by rfl) (za_cons (z_var 2) (za_cons (z_var 5) (za_cons (z_var 7) za_nil))))) (zs_cons (z_if (z_tcmp (zo_neP hr.units) (z_callB zf_sortI (by rfl) T.z_sorted (by decide +kernel) (za_cons (z_dc0 D_live_before hr (by decide) (by rfl) (za_cons (z_var 7) (za_cons (z_var 14) za_nil))) za_nil)) (z_lc (own := [("name", 8)]) rfl sc_law.nd (zi_list (z_var 3)) (blkOk_by (by rfl)) (grel_name (by decide)) (fun _ _ _ _ _ => (pg_name (i := 8) sc_law.nd rfl (Or.inl rfl))) (fun _ _ _ _ _ => (zts_one (z_val (z_dc0 D__law_live hr (by decide) (by rfl) (za_cons (z_var 2) (za_cons (z_var 8) (za_cons (z_var 6) (za_cons z_int za_nil)))))))) (fun _ _ _ _ _ => (z_var 8)))) (zs_one (z_ret z_bl)) zs_nil) zs_nil)))))))) (zs_cons (z_set (i := 15) sc_law.nd rfl (Or.inl rfl) z_dnewK) (zs_cons (z_for (passes_of (by rfl)) rfl (zi_list (z_var 3)) (zg_name (i := 8) sc_law.nd rfl (Or.inl rfl)) (zs_one (z_dput (un1 hr) (z_var 15) (z_var 8) (z_lst za_nil)))) (zs_cons (z_for (passes_of (by rfl)) rfl (zi_rng1 (by rfl) T.z_range (za_cons (z_var 4) za_nil)) (zg_name (i := 6) sc_law.nd rfl (Or.inr rfl)) (zs_cons (z_set (i := 7) sc_law.nd rfl (Or.inr rfl) (z_ix (z_fld T.c_Graph T.n_Graph_blocks (z_var 2)) (z_var 6))) (zs_cons (z_set (i := 16) sc_law.nd rfl (Or.inr rfl) (z_op zo_cat (z_callTy zf_list (by rfl) T.z_list (by rfl) (za_cons (z_fld T.c_Block T.n_Block_params (z_var 7)) za_nil)) (z_ifE (z_tcmp zo_eqF (z_var 6) z_int) (z_callTy zf_list (by rfl) T.z_list (by rfl) (za_cons (z_fld T.c_Graph T.n_Graph_params (z_var 2)) za_nil)) (z_lst za_nil)))) (zs_cons (z_set (i := 17) sc_law.nd rfl (Or.inr rfl) (z_op zo_cat (z_var 16) (z_lc (own := [("name", 8)]) rfl sc_law.nd (zi_list (z_var 3)) (blkOk_by (by rfl)) (grel_name (by decide)) (fun _ _ _ _ _ => (pg_name (i := 8) sc_law.nd rfl (Or.inl rfl))) (fun _ _ _ _ _ => (zts_one (zw_t (zw_and (z_val (z_dc0 D__law_live hr (by decide) (by rfl) (za_cons (z_var 2) (za_cons (z_var 8) (za_cons (z_var 6) (za_cons z_int za_nil)))))) (zw_and1 (z_tcmp (zo_notinP (un65 hr)) (z_var 8) (z_var 16))))))) (fun _ _ _ _ _ => (z_var 8))))) (zs_cons (z_setLc (own := [("name", 8)]) (i := 18) rfl sc_law.nd rfl rfl (by rfl) (zi_list (z_var 17)) (blkOk_by (by rfl)) (grel_name (by decide)) (fun _ _ _ _ _ => (pg_name (i := 8) sc_law.nd rfl (Or.inl rfl))) (fun _ _ _ _ _ => zts_nil) (fun _ _ _ _ _ => (z_tup (za_cons (z_var 8) (za_cons (z_var 17) za_nil))))) (zs_cons (z_for (passes_of (by rfl)) rfl (zi_enumA (by rfl) T.z_enumerate (za_cons (z_fld T.c_Block T.n_Block_rows (z_var 7)) za_nil)) (zg_tup (n := 2) rfl (zgs_cons (zg_name (i := 11) sc_law.nd rfl (Or.inr rfl)) (zgs_cons (zg_name (i := 19) sc_law.nd rfl (Or.inl rfl)) zgs_nil))) (zs_one (z_expr (z_bm PySem.F.plainAttrs_list PySem.F.slot_list_append PySem.F.type_list_append zm_append (z_var 18) (za_cons (z_tup (za_cons (z_ix (z_var 19) z_int) (za_cons (z_ix (z_dc0 D_live_rows hr (by decide) (by rfl) (za_cons (z_var 2) (za_cons (z_var 5) (za_cons (z_var 7) za_nil)))) (z_var 11)) za_nil))) za_nil))))) (zs_cons (z_for (passes_of (by rfl)) rfl (zi_list (z_var 18)) (zg_tup (n := 2) rfl (zgs_cons (zg_name (i := 8) sc_law.nd rfl (Or.inl rfl)) (zgs_cons (zg_name (i := 20) sc_law.nd rfl (Or.inl rfl)) zgs_nil))) (zs_one (z_for (passes_of (by rfl)) rfl (zi_list (z_var 20)) (zg_name (i := 21) sc_law.nd rfl (Or.inl rfl)) (zs_one (z_if (z_tcmp zo_neF (z_var 21) (z_var 8)) (zs_cons (z_dput (un1 hr) (z_var 15) (z_var 8) (z_op zo_cat (z_dget (un1 hr) (z_var 15) (z_var 8)) (z_lst (za_cons (z_var 21) za_nil)))) (zs_cons (z_dput (un1 hr) (z_var 15) (z_var 21) (z_op zo_cat (z_dget (un1 hr) (z_var 15) (z_var 21)) (z_lst (za_cons (z_var 8) za_nil)))) zs_nil)) zs_nil))))) zs_nil))))))) (zs_cons (z_set (i := 22) sc_law.nd rfl (Or.inl rfl) (z_dc0 D_interference hr (by decide) (by rfl) (za_cons (z_var 2) za_nil))) (zs_cons (z_for (passes_of (by rfl)) rfl (zi_list (z_var 3)) (zg_name (i := 8) sc_law.nd rfl (Or.inl rfl)) (zs_one (z_if (z_tcmp (zo_neP hr.units) (z_callB (zf_sortD rfl) (by rfl) T.z_sorted (by decide +kernel) (za_cons (z_callTy (zf_dictP rfl) (by rfl) T.z_dict (by decide +kernel) (za_cons (z_lc (own := [("one", 23)]) rfl sc_law.nd (zi_list (z_dget (un1 hr) (z_var 15) (z_var 8))) (blkOk_by (by rfl)) (grel_name (by decide)) (fun _ _ _ _ _ => (pg_name (i := 23) sc_law.nd rfl (Or.inl rfl))) (fun _ _ _ _ _ => zts_nil) (fun _ _ _ _ _ => (z_tup (za_cons (z_var 23) (za_cons z_int za_nil))))) za_nil)) za_nil)) (z_get2 (un1 hr) (z_var 22) (z_var 8) (z_lst za_nil) ⟨rfl, rfl, rfl, rfl⟩)) (zs_one (z_ret z_bl)) zs_nil))) (zs_cons (z_set (i := 24) sc_law.nd rfl (Or.inr rfl) (z_lst (za_cons z_int za_nil))) (zs_cons (z_for (passes_of (by rfl)) rfl (zi_rng1 (by rfl) T.z_range (za_cons (z_var 4) za_nil)) (zg_name (i := 25) sc_law.nd rfl (Or.inl rfl)) (zs_one (z_set (i := 24) sc_law.nd rfl (Or.inr rfl) (z_op zo_cat (z_var 24) (z_lc (own := [("one", 23)]) rfl sc_law.nd (zi_list (z_dc0 D__law_next_blocks hr (by decide) (by rfl) (za_cons (z_var 2) (za_cons (z_ix (z_var 24) (z_callB (zf_min2 rfl) (by rfl) T.z_min (by decide +kernel) (za_cons (z_var 25) (za_cons (z_op zo_sub (z_callB zf_len (by rfl) T.z_len (by rfl) (za_cons (z_var 24) za_nil)) z_int) za_nil)))) za_nil)))) (blkOk_by (by rfl)) (grel_name (by decide)) (fun _ _ _ _ _ => (pg_name (i := 23) sc_law.nd rfl (Or.inl rfl))) (fun _ _ _ _ _ => (zts_one (z_tcmp (zo_notinP (un65 hr)) (z_var 23) (z_var 24)))) (fun _ _ _ _ _ => (z_var 23))))))) (zs_cons (z_set (i := 26) sc_law.nd rfl (Or.inr rfl) (z_dc0 D_predecessors hr (by decide) (by rfl) (za_cons (z_var 2) za_nil))) (zs_cons (z_if (zw_t (zw_or (z_tcmp (zo_neP hr.units) (z_dc0 D_reached_blocks hr (by decide) (by rfl) (za_cons (z_var 2) za_nil)) (z_var 24)) (zw_or1 (z_tcmp (zo_neP hr.units) (z_lc (own := [("number", 6)]) rfl sc_law.nd (zi_rng1 (by rfl) T.z_range (za_cons (z_var 4) za_nil)) (blkOk_by (by rfl)) (grel_name (by decide)) (fun _ _ _ _ _ => (pg_name (i := 6) sc_law.nd rfl (Or.inr rfl))) (fun _ _ _ _ _ => (zts_one (z_tcmp (zo_neP hr.units) (z_dget (un1 hr) (z_var 26) (z_var 6)) (z_lc (own := [("one", 23)]) rfl sc_law.nd (zi_rng1 (by rfl) T.z_range (za_cons (z_var 4) za_nil)) (blkOk_by (by rfl)) (grel_name (by decide)) (fun _ _ _ _ _ => (pg_name (i := 23) sc_law.nd rfl (Or.inl rfl))) (fun _ _ _ _ _ => (zts_one (z_tcmp (zo_inP (un65 hr)) (z_var 6) (z_dc0 D__law_next_blocks hr (by decide) (by rfl) (za_cons (z_var 2) (za_cons (z_var 23) za_nil)))))) (fun _ _ _ _ _ => (z_var 23)))))) (fun _ _ _ _ _ => (z_var 6))) (z_lst za_nil))))) (zs_one (z_ret z_bl)) zs_nil) zs_nil)))))))))))))) (zs_cons (z_set (i := 22) sc_law.nd rfl (Or.inl rfl) z_dnewK) (zs_cons (z_expr (z_dc0 D_join_all hr (by decide) (by rfl) (za_cons (z_var 22) (za_cons (z_lst (za_cons z_int (za_cons z_int za_nil))) za_nil)))) (zs_cons (z_expr (z_dc0 D_join_one hr (by decide) (by rfl) (za_cons (z_var 22) (za_cons z_int (za_cons (z_lst (za_cons z_int za_nil)) za_nil))))) (zs_cons (z_ret (z_and (z_cmp (zo_eqDL hr.units) (z_var 22) (z_disp (.cons z_int (z_lst (za_cons z_int (za_cons z_int za_nil))) (.cons z_int (z_lst (za_cons z_int za_nil)) (.cons z_int (z_lst (za_cons z_int za_nil)) .nil))) rfl rfl (by simp) (by decide))) (z_and (z_cmp (zo_eqP hr.units) (z_dc0 D_united hr (by decide) (by rfl) (za_cons (z_lst (za_cons z_int za_nil)) (za_cons (z_lst (za_cons z_int (za_cons z_int za_nil))) za_nil))) (z_lst (za_cons z_int (za_cons z_int za_nil)))) (z_and (z_cmp (zo_eqP hr.units) (z_dc0 D_without hr (by decide) (by rfl) (za_cons (z_lst (za_cons z_int (za_cons z_int za_nil))) (za_cons (z_lst (za_cons z_int za_nil)) za_nil))) (z_lst (za_cons z_int za_nil))) (z_one (z_cmp (zo_eqP hr.units) (z_dc0 D_names_in hr (by decide) (by rfl) (za_cons (z_tup (za_cons (z_tup (za_cons z_str (za_cons z_int za_nil))) (za_cons (z_tup (za_cons z_str (za_cons z_int za_nil))) za_nil))) za_nil)) (z_lst (za_cons z_int za_nil)))))))) zs_nil))))), ?_⟩
    walk_at "zr"
    refine ⟨sD, ns, rfl, hs, fun q d m G1 e1 hq1 hd1 hi1 nqd => ?_⟩
    walk_at "zr"
    refine ⟨fun i ρ G' => (i = 0 → ρ = zstart ["script", "dice", "graph", "names", "many", "found", "number", "block", "name", "due", "rows", "place", "target", "here", "after", "pairs", "entry", "group", "spots", "row", "others", "other", "table", "one", "reached", "turn", "before"] [sD] ∧ G' = G1) ∧ (0 < i → G' q = some (.lst [.ref d]) ∧ ∃ vscript vdice vgraph vnames vmany vfound vnumber vblock vname vdue vrows vplace vtarget vhere vafter vpairs ventry vgroup vspots vrow vothers vother vtable vone vreached vturn vbefore : Option D, ρ = [vscript, vdice, vgraph, vnames, vmany, vfound, vnumber, vblock, vname, vdue, vrows, vplace, vtarget, vhere, vafter, vpairs, ventry, vgroup, vspots, vrow, vothers, vother, vtable, vone, vreached, vturn, vbefore]) ∧ G' q = some (.lst [.ref d]), ⟨fun _ => ⟨rfl, rfl⟩, fun h => absurd h (by decide), hq1⟩, ?_, ?_⟩
    · rintro i dd ρ G' hi hP
      have hi0 : i = 0 := by
        have := (List.getElem?_eq_some_iff.mp hi).1
        simp at this
        omega
      subst hi0
      obtain ⟨rfl, rfl⟩ := hP.1 rfl
      cases Option.some.inj hi
      refine ⟨hq1, ?_⟩
      walk_at "zr"
      refine ⟨d, m, rfl, hd1, hi1, fun a bs g G2 R2 gr2 ok => ?_⟩
      have hq2 : G2 q = some (.lst [.ref d]) := R2.at_ nqd hq1
      refine ⟨a, _, bs, g, rfl, gr2, ok, fun G3 e3 => ?_⟩
      have gr3 := gr2.ext e3
      walk_at "zr"
      refine ⟨a, _, bs, g, rfl, gr3, ok, fun na nl G4 e4 sn hna => ?_⟩
      have gr4 := gr3.ext e4
      obtain ⟨dg4, hga4⟩ := gr4.at_
      walk_at "zr"
      rw [List.length_map, gr4.len]
      refine ⟨a, _, bs, g, rfl, gr4, ok, fun fa qs F G5 e5 hF fx => ?_⟩
      have wd : Wd CB CG a fa na bs g qs F nl G5 := ⟨gr4.ext e5, hF, e5 _ _ hna⟩
      have hq5 : G5 q = some (.lst [.ref d]) := e5 _ _ (e4 _ _ (e3 _ _ hq2))
      have nn := srt_nodup ok sn
      have nlen := srt_len ok sn
      have gl := ok.len
      walk_at "zr"
      refine r_krng1 (by omega) ?_
      refine ⟨fun i ρ G' => Ext G5 G' ∧ ∃ vnumber vblock vdue vrows vplace vhere vafter : Option D, ρ = [some (sD), some (.ref d), some (.ref a), some (.ref na), some (iD g.length), some (.ref fa), vnumber, vblock, none, vdue, vrows, vplace, none, vhere, vafter, none, none, none, none, none, none, none, none, none, none, none, none], ⟨Ext.refl _, _, _, _, _, _, _, _, rfl⟩, ?_, ?_⟩
      -- <A
      · rintro i dd ρ G6 hi6 ⟨e6, vnumber, vblock, vdue, vrows, vplace, vhere, vafter, rfl⟩
        obtain ⟨hil, rfl⟩ := rngD_get hi6
        rw [Int.zero_add]
        refine ⟨trivial, ?_⟩
        have wd6 := wd.ext e6
        obtain ⟨dg, hga⟩ := wd6.gr.at_
        have hB : g[i]? = some g[i] := List.getElem?_eq_getElem hil
        generalize g[i] = B at hB
        obtain ⟨b, hb, hbk⟩ := wd6.gr.get hB
        have hix : (bs.map D.ref)[i]? = some (.ref b) := by rw [List.getElem?_map, hb]; rfl
        walk_at "zr"
        refine r_ixT hix ?_
        have hna6 := wd6.nms
        walk_at "zr"
        have mB := List.mem_of_getElem? hB
        have htg := ok.lt i B hB
        have lenF := fx.len
        have few : ∀ t, (F.getD t []).length ≤ 60 := fun t => by
          cases hT : g[t]? with
          | none =>
            have : F.getD t [] = [] := by
              rw [List.getD_eq_getElem?_getD, List.getElem?_eq_none (by rw [lenF]; exact List.getElem?_eq_none_iff.mp hT)]
              rfl
            rw [this]
            simp
          | some TT => exact ok.few_of (fx.ord t).2 fun x hx => ok.live_mem ((fx.mem t TT x hT).mp hx).2
        refine lc_filter (fun x => Live g x i 0 ∧ x ∉ B.params) nl (fun G' e => (wd6.ext e).nms) (by omega) (fun j x acc R G7 hx e7 h1 h2 => ?_) fun p7 G7 due e7 mdue sdue ndue ldue hdue => ?_
        · have wd7 := wd6.ext e7
          obtain ⟨dx7, hb7⟩ := hbk.ext e7
          walk_at "zr"
          refine ⟨a, _, bs, g, x, i, 0, rfl, wd7.gr, ok, hil, fun c G8 e8 hc => ?_⟩
          obtain ⟨dx8, hb8⟩ := (hbk.ext e7).ext e8
          cases c with
          | false =>
            walk_at "zr"
            exact h2 G8 e8 fun h => by have := hc.mpr h.1; cases this
          | true =>
            walk_at "zr"
            refine r_inTI fun c2 hc2 => ?_
            walk_at "zr"
            refine r_niff hc2 (fun hm => ?_) fun hm => ?_
            · exact h2 G8 e8 fun h => h.2 hm
            · walk_at "zr"
              exact h1 G8 e8 ⟨hc.mp rfl, hm⟩
        · have wd7 := wd6.ext e7
          obtain ⟨fq, hfq1, hfq2, hfq3⟩ := wd7.fnd.get (List.getElem?_eq_getElem (show i < F.length by omega))
          have gFi : F.getD i [] = F[i] := getD_eq (List.getElem?_eq_getElem (show i < F.length by omega))
          have eqF : F[i] = due := by
            have o := fx.ord i
            rw [gFi] at o
            refine sorted_ext o.1 (sdue sn.2) o.2 (ndue nn) fun x => ?_
            rw [← gFi, fx.mem i B x hB, mdue]
            constructor
            · rintro ⟨h1, h2⟩
              exact ⟨sn.mem.mpr (ok.live_mem h2), h2, h1⟩
            · rintro ⟨_, h1, h2⟩
              exact ⟨h2, h1⟩
          have hfd := wd7.fnd.at_
          walk_at "zr"
          refine r_ixR hfd hfq1 ?_
          walk_at "zr"
          refine r_eqLI hfq3 hdue fun c hc => ?_
          walk_at "zr"
          refine r_niff hc (fun _ => ?_) fun h => absurd eqF h
          walk_at "zr"
          refine ⟨a, fa, b, qs, F, B, rfl, wd7.fnd, hbk.ext e7, fun t ht => by rw [lenF]; exact htg t ht, ok.tl B mB, few, ok.rl B mB, ok.al B mB, fun rL rs L G8 e8 hL okL _ => ?_⟩
          have wd8 := wd7.ext e8
          obtain ⟨dx8, hb8⟩ := (hbk.ext e7).ext e8
          have rl10 := ok.rl B mB
          walk_at "zr"
          rw [show (rowsD B.rows).length = B.rows.length by unfold rowsD; rw [List.length_map], show ((B.rows.length : Nat) : Int) + 1 = ((B.rows.length + 1 : Nat) : Int) by omega]
          refine r_krng1 (by omega) ?_
          refine ⟨fun k ρ G' => Ext G8 G' ∧ ∃ vplace vhere vafter : Option D, ρ = [some (sD), some (.ref d), some (.ref a), some (.ref na), some (iD g.length), some (.ref fa), some (iD i), some (.ref b), none, some (.ref p7), some (.ref rL), vplace, none, vhere, vafter, none, none, none, none, none, none, none, none, none, none, none, none], ⟨Ext.refl _, _, _, _, rfl⟩, ?_, ?_⟩
          · rintro k dd ρ G9 hk ⟨e9, vplace, vhere, vafter, rfl⟩
            obtain ⟨hkl, rfl⟩ := rngD_get hk
            rw [Int.zero_add]
            refine ⟨trivial, ?_⟩
            have wd9 := wd8.ext e9
            obtain ⟨dx9, hb9⟩ := ((hbk.ext e7).ext e8).ext e9
            have hL9 := hL.ext e9
            have hna9 := wd9.nms
            have hkL : k < L.length := by have := okL.1; omega
            have hLk : L[k]? = some L[k] := List.getElem?_eq_getElem hkL
            generalize L[k] = lk at hLk
            obtain ⟨q9, hq91, hq92, hq93⟩ := hL9.get hLk
            have sk := okL.2 k lk hLk
            have hL9at := hL9.at_
            -- the end of a turn: the law's row is the program's
            have done : ∀ (pz : Addr) (hl : Vs) (Gz : Gp), Ext G9 Gz → (∀ x, x ∈ hl ↔ x ∈ nl ∧ x ∈ behind B (afterOf F B.en) k) → (nl.Pairwise (· ≤ ·) → hl.Pairwise (· ≤ ·)) → (nl.Nodup → hl.Nodup) → lk = hl := by
              intro pz hl Gz _ mm ss nd
              refine sorted_ext sk.2 (ss sn.2) (sk.nodup ?_) (nd nn) fun x => ?_
              · unfold behind
                split
                · exact nodup_liveR nodup_afterOf
                · exact nodup_afterOf
              · rw [sk.mem, mm]
                constructor
                · intro h
                  refine ⟨sn.mem.mpr ?_, h⟩
                  unfold behind at h
                  split at h
                  · exact ok.live_mem ((fx.before hB htg (k + 1)).mp h)
                  · obtain ⟨t, _, T', _, _, hl⟩ := (fx.after htg).mp h
                    exact ok.live_mem hl
                · exact fun h => h.2
            walk_at "zr"
            rw [show (rowsD B.rows).length = B.rows.length by unfold rowsD; rw [List.length_map]]
            refine r_dec (fun hkr => ?_) fun hkr => ?_
            · walk_at "zr"
              refine lc_filter (fun x => Live g x i (k + 1)) nl (fun G' e => (wd9.ext e).nms) (by omega) (fun j x acc R GA hx eA h1 h2 => ?_) fun pA GA hl eA mm ss nd _ hhl => ?_
              · have wdA := wd9.ext eA
                walk_at "zr"
                refine ⟨a, _, bs, g, x, i, k + 1, rfl, wdA.gr, ok, hil, fun c GB eB hc => ?_⟩
                cases c with
                | false =>
                  walk_at "zr"
                  exact h2 GB eB fun h => by have := hc.mpr h; cases this
                | true =>
                  walk_at "zr"
                  exact h1 GB eB (hc.mp rfl)
              · have el : lk = hl := done pA hl GA eA (fun x => by
                  rw [mm]
                  unfold behind
                  rw [if_pos (by omega), fx.before hB htg (k + 1)]) ss nd
                have hL9A := eA _ _ hL9at
                have hq93A := eA _ _ hq93
                walk_at "zr"
                refine r_ixR hL9A hq91 ?_
                walk_at "zr"
                refine r_eqLI hq93A hhl fun c hc => ?_
                walk_at "zr"
                refine r_niff hc (fun _ => ?_) fun h => absurd el h
                walk_at "zr"
                exact ⟨e9.trans eA, _, _, _, rfl⟩
            · have kB : k = B.rows.length := by omega
              walk_at "zr"
              refine lc_filter (fun x => ∃ t ∈ succ B.en, x ∈ F.getD t []) nl (fun G' e => (wd9.ext e).nms) (by omega) (fun j x acc R GA hx eA h1 h2 => ?_) fun pA GA hl eA mm ss nd _ hhl => ?_
              · have wdA := wd9.ext eA
                walk_at "zr"
                refine ⟨a, _, bs, g, i, B, rfl, wdA.gr, ok, hB, fun pB GB eB hpB => ?_⟩
                have wdB := wdA.ext eB
                have hfB := wdB.fnd.at_
                have sl8 := succ_len (e := B.en)
                have tl8 := ok.tl B mB
                walk_at "zr"
                refine lc_pure (fun d => match d with | .int t => decide (x ∈ F.getD t.toNat []) | _ => false) (fun _ => .int 1) hpB (big_lt (by rw [List.length_map]; omega)) (fun l d R2 acc2 hl2 c1 c2 => ?_) fun pC GC nC hC => ?_
                · rw [List.getElem?_map] at hl2
                  cases ea : (succ B.en)[l]? with
                  | none => rw [ea] at hl2; cases hl2
                  | some t =>
                    rw [ea] at hl2
                    cases hl2
                    have htF : t < F.length := by rw [lenF]; exact htg t (List.mem_of_getElem? ea)
                    obtain ⟨ft, hft1, hft2, hft3⟩ := wdB.fnd.get (List.getElem?_eq_getElem htF)
                    have gFt : F.getD t [] = F[t] := getD_eq (List.getElem?_eq_getElem htF)
                    have val : decide (x ∈ F.getD ((t : Nat) : Int).toNat []) = decide (x ∈ F[t]) := by rw [Int.toNat_natCast, gFt]
                    walk_at "zr"
                    refine r_ixR hfB hft1 ?_
                    refine r_inLI hft3 fun c3 hc3 => ?_
                    walk_at "zr"
                    refine r_iff hc3 (fun hm => ?_) fun hm => ?_
                    · walk_at "zr"
                      exact c1 (val.trans (decide_eq_true hm))
                    · exact c2 (val.trans (decide_eq_false hm))
                · walk_at "zr"
                  intro pD GD nD hD
                  have hCD := hD.ext nD _ _ hC.is
                  have all1 : (List.map (fun _ => D.int 1) (List.filter (fun d : D => match d with | .int t => decide (x ∈ F.getD t.toNat []) | _ => false) ((succ B.en).map iD))).all (pl 60) = true := by
                    rw [List.all_eq_true]
                    intro d h
                    obtain ⟨_, _, rfl⟩ := List.mem_map.mp h
                    rfl
                  have ex : (List.map (fun _ => D.int 1) (List.filter (fun d : D => match d with | .int t => decide (x ∈ F.getD t.toNat []) | _ => false) ((succ B.en).map iD)) = []) ↔ ¬ ∃ t ∈ succ B.en, x ∈ F.getD t [] := by
                    rw [List.map_eq_nil_iff, List.filter_eq_nil_iff]
                    constructor
                    · rintro h ⟨t, ht, hx⟩
                      have := h (iD t) (List.mem_map.mpr ⟨t, ht, rfl⟩)
                      simp only [Int.toNat_natCast] at this
                      exact this (decide_eq_true hx)
                    · intro h d hd
                      obtain ⟨t, ht, rfl⟩ := List.mem_map.mp hd
                      simp only [Int.toNat_natCast]
                      intro z
                      exact h ⟨t, ht, of_decide_eq_true z⟩
                  refine r_eqL hCD hD.is all1 rfl fun c3 hc3 => ?_
                  have eD : Ext GA GD := eB.trans ((hC.ext nC).trans (hD.ext nD))
                  walk_at "zr"
                  refine r_niff (hc3.trans ex) (fun hm => ?_) fun hm => ?_
                  · exact h2 GD eD hm
                  · walk_at "zr"
                    exact h1 GD eD (Classical.not_not.mp hm)
              · have el : lk = hl := done pA hl GA eA (fun x => by
                  rw [mm]
                  unfold behind
                  rw [if_neg (by omega), mem_afterOf]) ss nd
                have hL9A := eA _ _ hL9at
                have hq93A := eA _ _ hq93
                walk_at "zr"
                refine r_ixR hL9A hq91 ?_
                walk_at "zr"
                refine r_eqLI hq93A hhl fun c hc => ?_
                walk_at "zr"
                refine r_niff hc (fun _ => ?_) fun h => absurd el h
                walk_at "zr"
                exact ⟨e9.trans eA, _, _, _, rfl⟩
          · rintro ρ G9 ⟨e9, vplace, vhere, vafter, rfl⟩
            refine ⟨trivial, ?_⟩
            have wd9 := wd8.ext e9
            have hbk9 := ((hbk.ext e7).ext e8).ext e9
            walk_at "zr"
            refine ⟨a, fa, b, qs, F, B, rfl, wd9.fnd, hbk9, fun t ht => by rw [lenF]; exact htg t ht, ok.tl B mB, few, fun pA GA eA hA => ?_⟩
            have al : (afterOf F B.en).length ≤ 180 := by
              have fl := foldU_len few (succ B.en) []
              have sl := succ_len (e := B.en)
              have tl := ok.tl B mB
              exact Nat.le_trans fl (by simp; omega)
            walk_at "zr"
            refine ⟨b, pA, B, _, rfl, hbk9.ext eA, hA, by omega, by omega, ok.al B mB, fun pB GB eB hB' => ?_⟩
            have wdB := (wd9.ext eA).ext eB
            walk_at "zr"
            refine r_sortI hB' fun s1 pC GC sp so nC hC => ?_
            have wdC := wdB.ext (hC.ext nC)
            have hnaC := wdC.nms
            walk_at "zr"
            refine lc_filter (fun x => Live g x i 0) nl (fun G' e => (wdC.ext e).nms) (by omega) (fun j x acc R GD hx eD h1 h2 => ?_) fun pD GD hl eD mm ss nd _ hhl => ?_
            · have wdD := wdC.ext eD
              walk_at "zr"
              refine ⟨a, _, bs, g, x, i, 0, rfl, wdD.gr, ok, hil, fun c GE eE hc => ?_⟩
              cases c with
              | false =>
                walk_at "zr"
                exact h2 GE eE fun h => by have := hc.mpr h; cases this
              | true =>
                walk_at "zr"
                exact h1 GE eE (hc.mp rfl)
            · have lvB : ∀ x, x ∈ liveB B (afterOf F B.en) ↔ Live g x i 0 := fun x => by
                have := fx.before hB htg (x := x) 0
                rw [List.drop_zero] at this
                exact this
              have el : s1 = hl := by
                have S1 : Sorted (liveB B (afterOf F B.en)) s1 := ⟨sp, so⟩
                refine S1.eq_of (nodup_liveR nodup_afterOf) (ss sn.2) (nd nn) fun x => ?_
                rw [lvB, mm]
                exact ⟨fun h => ⟨sn.mem.mpr (ok.live_mem h), h⟩, fun h => h.2⟩
              refine r_eqLI (eD _ _ hC.is) hhl fun c hc => ?_
              walk_at "zr"
              refine r_niff hc (fun _ => ?_) fun h => absurd el h
              walk_at "zr"
              exact ⟨e6.trans (e7.trans (e8.trans (e9.trans (eA.trans (eB.trans ((hC.ext nC).trans eD)))))), _, _, _, _, _, _, _, rfl⟩
      -- A>
      · rintro ρ G6 ⟨e6, vnumber, vblock, vdue, vrows, vplace, vhere, vafter, rfl⟩
        refine ⟨trivial, ?_⟩
        clear hi hP hq1 hd1 hi1
        have wd6 := wd.ext e6
        have hna6 := wd6.nms
        walk_at "zr"
        intro pa G7 npa h7
        have hna7 := h7.ext npa _ _ hna6
        walk_at "zr"
        refine ⟨fun i ρ G' => ∃ t : T3 Addr, Ext G6 G' ∧ TabR G' pa t ∧ keys t = nl.take i ∧ (∀ e ∈ t, e.2.2 = []) ∧ ∃ vnumber vblock vname vdue vrows vplace vhere vafter : Option D, ρ = [some (sD), some (.ref d), some (.ref a), some (.ref na), some (iD g.length), some (.ref fa), vnumber, vblock, vname, vdue, vrows, vplace, none, vhere, vafter, some (.ref pa), none, none, none, none, none, none, none, none, none, none, none], ⟨[], h7.ext npa, ⟨h7.is, fun e he => (by cases he)⟩, rfl, fun e he => (by cases he), _, _, _, _, _, _, _, _, rfl⟩, ?_, ?_⟩
        -- <B
        · rintro i dd ρ G8 hi8 ⟨t, e8, T8, ks, emp, vnumber, vblock, vname, vdue, vrows, vplace, vhere, vafter, rfl⟩
          have wd8 := wd6.ext e8
          refine ⟨wd8.nms, ?_⟩
          obtain ⟨x, hx, rfl⟩ := intsD_get hi8
          walk_at "zr"
          intro p9 G9 n9 h9
          have e9 := h9.ext n9
          have T9 := T8.ext e9
          have nk : x ∉ keys t := by
            rw [ks]
            intro hm
            obtain ⟨j, hj, ej⟩ := List.getElem_of_mem hm
            rw [List.length_take] at hj
            rw [List.getElem_take] at ej
            have hil := (List.getElem?_eq_some_iff.mp hx).1
            have e1 := (List.getElem?_eq_some_iff.mp hx).2
            have := (List.pairwise_iff_getElem.mp nn) j i (by omega) hil (by omega)
            rw [ej, e1] at this
            exact this rfl
          have tl : t.length ≤ 60 := by
            have := congrArg List.length ks
            unfold keys at this
            rw [List.length_map, List.length_take] at this
            omega
          walk_at "zr"
          refine r_kdput (k := Sum.inl x) T9.at_ rfl (big_lt (by unfold tabD; rw [List.length_map]; omega)) fun GA hA => ?_
          rw [tab_put nk] at hA
          refine ⟨t ++ [(x, p9, [])], ext_set (e8.trans e9) npa hA, T8.new e9 h9.is hA, ?_, fun e he => ?_, _, _, _, _, _, _, _, _, rfl⟩
          · unfold keys at ks ⊢
            rw [List.map_append, ks, List.take_add_one, hx]
            rfl
          · rcases List.mem_append.mp he with he | he
            · exact emp e he
            · rw [List.mem_singleton.mp he]
        -- B>
        · rintro ρ G8 ⟨t, e8, T8, ks, emp, vnumber, vblock, vname, vdue, vrows, vplace, vhere, vafter, rfl⟩
          have wd8 := wd6.ext e8
          refine ⟨wd8.nms, ?_⟩
          rw [intsD_len, List.take_length] at ks
          have pb0 : Pb t nl 0 (Adj [1, 2, 3] g 0) := ⟨ks, fun x y => by
            have g0 : getv t x = [] := by
              by_cases hx : x ∈ keys t
              · obtain ⟨p, _, hp⟩ := tab_some hx
                exact emp _ hp
              · exact getv_none hx
            rw [g0, ← adj_zero]
            simp, fun x => by
            by_cases hx : x ∈ keys t
            · obtain ⟨p, _, hp⟩ := tab_some hx
              have := emp _ hp
              simp only at this
              rw [this]
              simp
            · rw [getv_none hx]; simp⟩
          walk_at "zr"
          refine r_krng1 (by omega) ?_
          refine ⟨fun i ρ G' => ∃ (t : T3 Addr) (c : Nat), Ext G6 G' ∧ TabR G' pa t ∧ Pb t nl c (Adj [1, 2, 3] g i) ∧ c ≤ 50000 * i ∧ ∃ vnumber vblock vname vdue vrows vplace vhere vafter ventry vgroup vspots vrow vothers vother : Option D, ρ = [some (sD), some (.ref d), some (.ref a), some (.ref na), some (iD g.length), some (.ref fa), vnumber, vblock, vname, vdue, vrows, vplace, none, vhere, vafter, some (.ref pa), ventry, vgroup, vspots, vrow, vothers, vother, none, none, none, none, none], ⟨t, 0, e8, T8, pb0, by omega, _, _, _, _, _, _, _, _, _, _, _, _, _, _, rfl⟩, ?_, ?_⟩
          · rintro i dd ρ G9 hi9 ⟨t, c, e9, T9, pb, cb, vnumber, vblock, vname, vdue, vrows, vplace, vhere, vafter, ventry, vgroup, vspots, vrow, vothers, vother, rfl⟩
            obtain ⟨hil, rfl⟩ := rngD_get hi9
            rw [Int.zero_add]
            refine ⟨trivial, ?_⟩
            have wd9 := wd6.ext e9
            obtain ⟨dg, hga⟩ := wd9.gr.at_
            have hB : g[i]? = some g[i] := List.getElem?_eq_getElem hil
            generalize g[i] = B at hB
            have mB := List.mem_of_getElem? hB
            obtain ⟨b, hb, hbk⟩ := wd9.gr.get hB
            have hix : (bs.map D.ref)[i]? = some (.ref b) := by rw [List.getElem?_map, hb]; rfl
            have hbk' := hbk
            obtain ⟨dxb, hb9⟩ := hbk'
            have htg := ok.lt i B hB
            have lenF := fx.len
            have few : ∀ t, (F.getD t []).length ≤ 60 := fun t => by
              cases hT : g[t]? with
              | none =>
                have : F.getD t [] = [] := by
                  rw [List.getD_eq_getElem?_getD, List.getElem?_eq_none (by rw [lenF]; exact List.getElem?_eq_none_iff.mp hT)]
                  rfl
                rw [this]
                simp
              | some TT => exact ok.few_of (fx.ord t).2 fun x hx => ok.live_mem ((fx.mem t TT x hT).mp hx).2
            have bpl : B.params.length ≤ 60 := by
              have h1 := ok.few
              unfold allNames at h1
              have h2 := flat_snoc hB
              have h3 := flat_len (g := g) (i + 1)
              rw [h2, List.length_append] at h3
              have h4 : (blkNames B).length = B.params.length + B.rows.length := by unfold blkNames; simp
              rw [List.length_append] at h1
              omega
            walk_at "zr"
            refine r_ixT hix ?_
            -- the first names
            generalize hent : B.params ++ (if i = 0 then [1, 2, 3] else []) = ent
            have entl : ent.length ≤ 63 := by
              rw [← hent, List.length_append]
              split
              · simp; omega
              · simp; omega
            have entry : ∀ R : DK, (∀ q1 G5, Ext G9 G5 → G5 q1 = some (.lst (intsD ent)) → R (.ref q1) G5) →
                zOp dCat (zCB fList (zCons (zFld CB (zVar 7) "params") zNil)) (zIf (zTest (zOp (dEqF false) (zVar 6) (zC (.int 0)))) (zCB fList (zCons (zFld CG (zVar 2) "params") zNil)) (zLst zNil))
                  [some (sD), some (.ref d), some (.ref a), some (.ref na), some (iD g.length), some (.ref fa), some (iD i), some (.ref b), vname, vdue, vrows, vplace, none, vhere, vafter, some (.ref pa), ventry, vgroup, vspots, vrow, vothers, vother, none, none, none, none, none] G9 R := by
              intro R hR
              walk_at "zr"
              intro p1 GA n1 hA
              have e1 := hA.ext n1
              have hgaA := e1 _ _ hga
              walk_at "zr"
              refine r_ndec (fun h0 => ?_) fun h0 => ?_
              · walk_at "zr"
                intro p2 GB n2 hB2
                refine r_cat (hB2.ext n2 _ _ hA.is) hB2.is (big_ok (by simp only [intsD_len]; simp; omega)) fun p3 GC n3 hC => ?_
                refine hR p3 GC (e1.trans ((hB2.ext n2).trans (hC.ext n3))) ?_
                rw [← hent, if_pos (by omega), ← intsD_app]
                exact hC.is
              · walk_at "zr"
                intro p2 GB n2 hB2
                refine r_cat (hB2.ext n2 _ _ hA.is) hB2.is (big_ok (by simp only [intsD_len]; simp; omega)) fun p3 GC n3 hC => ?_
                refine hR p3 GC (e1.trans ((hB2.ext n2).trans (hC.ext n3))) ?_
                rw [← hent, if_neg (by omega), ← intsD_app]
                exact hC.is
            refine r_asg (entry _ fun q1 GA eA hq1' => ?_)
            have wdA := wd9.ext eA
            have hnaA := wdA.nms
            walk_at "zr"
            refine lc_filter (fun x => Live g x i 0 ∧ x ∉ ent) nl (fun G' e => (wdA.ext e).nms) (by omega) (fun j x acc R GB hx eB h1 h2 => ?_) fun p2 GB gl2 eB mg _ _ lg hg2 => ?_
            · have wdB := wdA.ext eB
              have hq1B := eB _ _ hq1'
              walk_at "zr"
              refine ⟨a, _, bs, g, x, i, 0, rfl, wdB.gr, ok, hil, fun c GC eC hc => ?_⟩
              cases c with
              | false =>
                walk_at "zr"
                exact h2 GC eC fun h => by have := hc.mpr h.1; cases this
              | true =>
                walk_at "zr"
                refine r_inLI (eC _ _ hq1B) fun c2 hc2 => ?_
                walk_at "zr"
                refine r_niff hc2 (fun hm => ?_) fun hm => ?_
                · exact h2 GC eC fun h => h.2 hm
                · walk_at "zr"
                  exact h1 GC eC ⟨hc.mp rfl, hm⟩
            generalize hgrp : ent ++ gl2 = grp
            have grpl : grp.length ≤ 130 := by rw [← hgrp, List.length_append]; omega
            have grpM : ∀ x, x ∈ grp ↔ Grp [1, 2, 3] g i x := fun x => by
              rw [← hgrp, List.mem_append, mg, ← hent, List.mem_append]
              unfold Grp
              constructor
              · rintro ((h | h) | ⟨_, h, _⟩)
                · exact ⟨B, hB, .inl h⟩
                · split at h
                  · rename_i i0; exact ⟨B, hB, .inr (.inl ⟨i0, h⟩)⟩
                  · cases h
                · exact ⟨B, hB, .inr (.inr h)⟩
              · rintro ⟨B', hB', h⟩
                rw [hB] at hB'
                cases hB'
                by_cases he : x ∈ B.params ∨ x ∈ (if i = 0 then ([1, 2, 3] : Vs) else [])
                · exact .inl he
                · rcases h with h | ⟨h1, h2⟩ | h
                  · exact absurd (.inl h) he
                  · exact absurd (.inr (by rw [if_pos h1]; exact h2)) he
                  · exact .inr ⟨sn.mem.mpr (ok.live_mem h), h, he⟩
            refine r_cat (eB _ _ hq1') hg2 (big_ok (by simp only [intsD_len]; omega)) fun gq GC nC hC => ?_
            rw [intsD_app, hgrp] at hC
            have eC := eB.trans (hC.ext nC)
            have hgq := hC.is
            walk_at "zr"
            refine lc_pure (fun _ => true) (fun d => .tup [d, .ref gq]) hgq (big_lt (by rw [intsD_len]; omega)) (fun j d R acc hj c1 c2 => ?_) fun sp GD nD hD => ?_
            · obtain ⟨x, hx, rfl⟩ := intsD_get hj
              walk_at "zr"
              exact c1 rfl
            have spl : List.map (fun d : D => .tup [d, .ref gq]) (List.filter (fun _ => true) (intsD grp)) = (grp.map fun x => Spt.mk x gq grp).map sptD := by
              unfold intsD
              rw [List.filter_eq_self.mpr (by simp), List.map_map, List.map_map]
              rfl
            rw [spl] at hD
            have eD := eA.trans (eC.trans (hD.ext nD))
            have wdD := wd9.ext eD
            have hbD := hbk.ext eD
            have hbD' := hbD
            obtain ⟨dxD, hbD1⟩ := hbD'
            have spN : G6 sp = none := (e9.trans (eA.trans eC)).back nD
            have rl10 := ok.rl B mB
            walk_at "zr"
            refine ⟨fun k ρ G' => ∃ L : List (Addr × Vs), Ext G9 G' ∧ Exb sp GD G' ∧ L.length = k ∧ k ≤ B.rows.length ∧ G' sp = some (.lst (((grp.map fun x => Spt.mk x gq grp) ++ List.zipWith (fun r p => Spt.mk r.1 p.1 p.2) B.rows L).map sptD)) ∧
                (∀ (j : Nat) p, L[j]? = some p → ∀ x, x ∈ p.2 ↔ Live g x i (j + 1)) ∧ (∀ p ∈ L, G' p.1 = some (.lst (intsD p.2)) ∧ p.1 ≠ sp ∧ p.2.length ≤ 60) ∧ ∃ vname vdue vrows vplace vhere vafter vrow vothers vother : Option D, ρ = [some (sD), some (.ref d), some (.ref a), some (.ref na), some (iD g.length), some (.ref fa), some (iD i), some (.ref b), vname, vdue, vrows, vplace, none, vhere, vafter, some (.ref pa), some (.ref q1), some (.ref gq), some (.ref sp), vrow, vothers, vother, none, none, none, none, none],
                ⟨[], eD, Exb.refl _ _, rfl, Nat.zero_le _, ?_, fun j p h => (by cases h), fun p h => (by cases h), _, _, _, _, _, _, _, _, _, rfl⟩, ?_, ?_⟩
            · simpa using hD.is
            · rintro k dd ρ GE hk ⟨L, e9E, xE, lL, lk, hsp, mL, vL, vname, vdue, vrows, vplace, vhere, vafter, vrow, vothers, vother, rfl⟩
              obtain ⟨r, hr, rfl⟩ := enD_rows hk
              have hkl := (List.getElem?_eq_some_iff.mp hr).1
              refine ⟨trivial, ?_⟩
              have wdE := wd9.ext e9E
              walk_at "zr"
              refine ⟨r_tyL hsp, ?_⟩
              walk_at "zr"
              refine ⟨a, fa, b, qs, F, B, rfl, wdE.fnd, hbk.ext e9E, fun t ht => by rw [lenF]; exact htg t ht, ok.tl B mB, few, ok.rl B mB, ok.al B mB, fun rL rs LL GF eF hL okL newR => ?_⟩
              have hkL : k < LL.length := by have := okL.1; omega
              have hLk : LL[k]? = some LL[k] := List.getElem?_eq_getElem hkL
              generalize LL[k] = lk' at hLk
              obtain ⟨q9, hq91, hq92, hq93⟩ := hL.get hLk
              have sk := okL.2 k lk' hLk
              have hLat := hL.at_
              have behindL : ∀ x, x ∈ lk' ↔ Live g x i (k + 1) := fun x => by
                rw [sk.mem]
                unfold behind
                rw [if_pos hkl]
                exact fx.before hB htg (k + 1)
              have lkl : lk'.length ≤ 60 := ok.few_of (sk.nodup (by unfold behind; rw [if_pos hkl]; exact nodup_liveR nodup_afterOf)) fun x hx => ok.live_mem ((behindL x).mp hx)
              walk_at "zr"
              refine r_ixR hLat hq91 ?_
              have hspF := eF _ _ hsp
              have q9s : q9 ≠ sp := fun z => by
                rw [z] at hq92
                rw [newR sp (List.mem_of_getElem? hq92)] at hsp
                cases hsp
              walk_at "zr"
              have nsp9 : G9 sp = none := (eA.trans eC).back nD
              refine r_append hspF (big_lt (by rw [List.length_map, List.length_append, List.length_map, List.length_zipWith]; omega)) fun GH hH => ?_
              walk_at "zr"
              refine ⟨L ++ [(q9, lk')], ext_set (e9E.trans eF) nsp9 hH, (xE.trans eF.exb).trans hH.exb, by rw [List.length_append, lL]; rfl, by omega, ?_, fun j p hp => ?_, fun p hp => ?_, _, _, _, _, _, _, _, _, _, rfl⟩
              · rw [hH.is, zip_snoc (r := r) (by rw [lL]; exact hr), ← List.append_assoc]
                show some (MO.lst (_ ++ List.map sptD [Spt.mk r.1 q9 lk'])) = _
                rw [← List.map_append]
              · by_cases hj : j < L.length
                · rw [List.getElem?_append_left hj] at hp
                  exact mL j p hp
                · have hj2 := (List.getElem?_eq_some_iff.mp hp).1
                  rw [List.length_append, List.length_singleton] at hj2
                  have hjk : j = k := by omega
                  subst hjk
                  rw [← lL, List.getElem?_append_right (by omega), Nat.sub_self] at hp
                  cases hp
                  exact behindL
              · rcases List.mem_append.mp hp with hp | hp
                · obtain ⟨v1, v2, v3⟩ := vL p hp
                  exact ⟨(hH.other _ v2).trans (eF _ _ v1), v2, v3⟩
                · rw [List.mem_singleton.mp hp]
                  exact ⟨(hH.other _ q9s).trans hq93, q9s, lkl⟩
            · rintro ρ GE ⟨L, e9E, xE, lL, _, hsp, mL, vL, vname, vdue, vrows, vplace, vhere, vafter, vrow, vothers, vother, rfl⟩
              refine ⟨trivial, ?_⟩
              have lL' : L.length = B.rows.length := by rw [lL, enD_len]; unfold rowsD; rw [List.length_map]
              have TE := T9.ext e9E
              have gqE : GE gq = some (.lst (intsD grp)) := xE gq _ (fun z => by rw [z, nD] at hgq; cases hgq) (hD.ext nD _ _ hgq)
              have liveN : ∀ {x : Int} {b p : Nat}, Live g x b p → x ∈ nl := fun h => sn.mem.mpr (ok.live_mem h)
              have grpN : ∀ x ∈ grp, x ∈ nl := fun x hx => by
                obtain ⟨B', hB', h⟩ := (grpM x).mp hx
                rcases h with h | ⟨_, h⟩ | h
                · exact sn.mem.mpr (GOk.blk_names hB' (List.mem_append_left _ h))
                · exact sn.mem.mpr (List.mem_append_left _ h)
                · exact liveN h
              have ssP : ∀ s ∈ (grp.map fun x => Spt.mk x gq grp) ++ List.zipWith (fun r p => Spt.mk r.1 p.1 p.2) B.rows L, GE s.o = some (.lst (intsD s.os)) ∧ s.os.length ≤ 130 ∧ s.n ∈ nl ∧ ∀ o ∈ s.os, o ∈ nl := fun s hs => by
                rcases List.mem_append.mp hs with h | h
                · obtain ⟨x, hx, rfl⟩ := List.mem_map.mp h
                  exact ⟨gqE, grpl, grpN x hx, grpN⟩
                · obtain ⟨k, r, p, h1, h2, rfl⟩ := (mem_zip (Nat.le_of_eq lL')).mp h
                  obtain ⟨v1, v2, v3⟩ := vL p (List.mem_of_getElem? h2)
                  exact ⟨v1, by show p.2.length ≤ 130; omega, sn.mem.mpr (GOk.blk_names hB (List.mem_append_right _ (List.mem_map.mpr ⟨r, List.mem_of_getElem? h1, rfl⟩))), fun o ho => liveN ((mL k p h2 o).mp ho)⟩
              have JB := fun x y => joinS_block (o := gq) hB grpM lL' mL (ss := (grp.map fun x => Spt.mk x gq grp) ++ List.zipWith (fun r p => Spt.mk r.1 p.1 p.2) B.rows L) (fun s => by
                rw [List.mem_append, List.mem_map, mem_zip (Nat.le_of_eq lL')]
                constructor
                · rintro (⟨x, hx, rfl⟩ | h)
                  · exact .inl ⟨x, hx, rfl⟩
                  · exact .inr h
                · rintro (⟨x, hx, rfl⟩ | h)
                  · exact .inl ⟨x, hx, rfl⟩
                  · exact .inr h) x y
              have ssl : ((grp.map fun x => Spt.mk x gq grp) ++ List.zipWith (fun r p => Spt.mk r.1 p.1 p.2) B.rows L).length ≤ 140 := by
                rw [List.length_append, List.length_map, List.length_zipWith]; omega
              generalize (grp.map fun x => Spt.mk x gq grp) ++ List.zipWith (fun r p => Spt.mk r.1 p.1 p.2) B.rows L = ss at hsp ssP JB ssl
              have nps : sp ≠ pa := fun z => by
                rw [z, TE.at_] at hsp
                cases hsp
              walk_at "zr"
              refine ⟨fun k ρ G' => ∃ (t : T3 Addr) (c : Nat), Exb pa GE G' ∧ Ext G6 G' ∧ TabR G' pa t ∧ Pb t nl c (JoinS (Adj [1, 2, 3] g i) (ss.take k)) ∧ c ≤ 50000 * i + 130 * k ∧ ∃ vnumber vblock vname vdue vrows vplace vhere vafter ventry vgroup vspots vrow vothers vother : Option D, ρ = [some (sD), some (.ref d), some (.ref a), some (.ref na), some (iD g.length), some (.ref fa), vnumber, vblock, vname, vdue, vrows, vplace, none, vhere, vafter, some (.ref pa), ventry, vgroup, vspots, vrow, vothers, vother, none, none, none, none, none], ⟨t, c, Exb.refl _ _, e9.trans e9E, TE, pb.congr (Nat.le_refl _) (fun x y => by simp [JoinS]), by omega, _, _, _, _, _, _, _, _, _, _, _, _, _, _, rfl⟩, ?_, ?_⟩
              · rintro k dd ρ GF hk ⟨t', c', xF, eF, TF, pF, cF, vnumber, vblock, vname, vdue, vrows, vplace, vhere, vafter, ventry, vgroup, vspots, vrow, vothers, vother, rfl⟩
                refine ⟨xF sp _ nps hsp, ?_⟩
                obtain ⟨s, hs', rfl⟩ := spts_get hk
                obtain ⟨so, sl, sN, sO⟩ := ssP s (List.mem_of_getElem? hs')
                have nso : s.o ≠ pa := fun z => by
                  rw [z, TE.at_] at so
                  cases so
                have kl := (List.getElem?_eq_some_iff.mp hs').1
                have soF := xF s.o _ nso so
                walk_at "zr"
                refine ⟨fun j ρ G' => ∃ (t : T3 Addr) (c : Nat), Exb pa GE G' ∧ Ext G6 G' ∧ TabR G' pa t ∧ Pb t nl c (Join (JoinS (Adj [1, 2, 3] g i) (ss.take k)) s.n (s.os.take j)) ∧ c ≤ 50000 * i + 130 * k + j ∧ ∃ vnumber vblock vdue vrows vplace vhere vafter ventry vgroup vspots vrow vothers vother : Option D, ρ = [some (sD), some (.ref d), some (.ref a), some (.ref na), some (iD g.length), some (.ref fa), vnumber, vblock, some (.int s.n), vdue, vrows, vplace, none, vhere, vafter, some (.ref pa), ventry, vgroup, vspots, vrow, vothers, vother, none, none, none, none, none],
                  ⟨t', c', xF, eF, TF, pF.congr (Nat.le_refl _) (fun x y => join_nil x y), by omega, _, _, _, _, _, _, _, _, _, _, _, _, _, rfl⟩, ?_, ?_⟩
                · rintro j dd ρ GG hj ⟨t2, c2, xG, eG, TG, pG, cG, vnumber, vblock, vdue, vrows, vplace, vhere, vafter, ventry, vgroup, vspots, vrow, vothers, vother, rfl⟩
                  refine ⟨xG s.o _ nso so, ?_⟩
                  obtain ⟨y, hy, rfl⟩ := intsD_get hj
                  have yN := sO y (List.mem_of_getElem? hy)
                  have tk : s.os.take (j + 1) = s.os.take j ++ [y] := by rw [List.take_add_one, hy]; rfl
                  have gaG := TG.at_
                  have jl := (List.getElem?_eq_some_iff.mp hy).1
                  have nk : (keys t2).Nodup := by rw [pG.keys]; exact nn
                  have kn : s.n ∈ keys t2 := by rw [pG.keys]; exact sN
                  have ky : y ∈ keys t2 := by rw [pG.keys]; exact yN
                  have kl2 : t2.length ≤ 60 := by
                    have := congrArg List.length pG.keys
                    unfold keys at this
                    rw [List.length_map] at this
                    omega
                  walk_at "zr"
                  refine r_tdec (fun e => ?_) fun e => ?_
                  · walk_at "zr"
                    refine ⟨t2, c2, xG, eG, TG, pG.congr (Nat.le_refl _) fun a b => ?_, by omega, _, _, _, _, _, _, _, _, _, _, _, _, _, rfl⟩
                    rw [tk, e]
                    exact join_self a b
                  · walk_at "zr"
                    obtain ⟨pn, hpn, mpn⟩ := tab_some kn
                    refine r_kdget ((dget_dk (k := Sum.inl s.n) gaG rfl).trans (by rw [hpn])) ?_
                    walk_at "zr"
                    intro p1 GH n1 h1
                    have TH := TG.ext (h1.ext n1)
                    have lenn := pG.len s.n
                    have leny := pG.len y
                    refine r_cat (TH.row _ mpn) h1.is (big_ok (by rw [intsD_len]; simp only [List.length_singleton]; omega)) fun p2 GI n2 h2 => ?_
                    have TI := TH.ext (h2.ext n2)
                    have gaI := TI.at_
                    walk_at "zr"
                    refine r_kdput (k := Sum.inl s.n) gaI rfl (big_lt (by unfold tabD; rw [List.length_map]; omega)) fun GJ h3 => ?_
                    rw [tab_rep (v := y) kn] at h3
                    have TJ := TI.rep nk kn (Ext.refl _) (by rw [← intsD_app]; exact h2.is) h3
                    have gaJ := TJ.at_
                    have ky3 : y ∈ keys (app t2 s.n y (some p2)) := by rw [keys_app]; exact ky
                    have gv3 : getv (app t2 s.n y (some p2)) y = getv t2 y := by rw [getv_app kn, if_neg e]
                    obtain ⟨py, hpy, mpy⟩ := tab_some ky3
                    have eJ := ext_set (eG.trans ((h1.ext n1).trans (h2.ext n2))) npa h3
                    have xJ := ((xG.trans (h1.ext n1).exb).trans (h2.ext n2).exb).trans h3.exb
                    walk_at "zr"
                    refine r_kdget ((dget_dk (k := Sum.inl y) gaJ rfl).trans (by rw [hpy])) ?_
                    walk_at "zr"
                    intro p3 GK n3 h4
                    have TK := TJ.ext (h4.ext n3)
                    refine r_cat (TK.row _ mpy) h4.is (big_ok (by rw [intsD_len, gv3]; simp only [List.length_singleton]; omega)) fun p4 GL n4 h5 => ?_
                    have TL := TK.ext (h5.ext n4)
                    have gaL := TL.at_
                    walk_at "zr"
                    refine r_kdput (k := Sum.inl y) gaL rfl (big_lt (by unfold tabD app; rw [List.length_map, List.length_map]; omega)) fun GM h6 => ?_
                    rw [tab_rep (v := s.n) ky3] at h6
                    have TM := TL.rep (by rw [keys_app]; exact nk) ky3 (Ext.refl _) (by rw [← intsD_app]; exact h5.is) h6
                    walk_at "zr"
                    refine ⟨_, c2 + 1, ((xJ.trans (h4.ext n3).exb).trans (h5.ext n4).exb).trans h6.exb, ext_set (eJ.trans ((h4.ext n3).trans (h5.ext n4))) npa h6, TM, (pG.join sN yN e (some p2) (some p4)).congr (Nat.le_refl _) fun a b => ?_, by omega, _, _, _, _, _, _, _, _, _, _, _, _, _, rfl⟩
                    rw [tk]
                    exact join_snoc e a b
                · rintro ρ GG ⟨t2, c2, xG, eG, TG, pG, cG, vnumber, vblock, vdue, vrows, vplace, vhere, vafter, ventry, vgroup, vspots, vrow, vothers, vother, rfl⟩
                  refine ⟨xG s.o _ nso so, ?_⟩
                  walk_at "zr"
                  rw [intsD_len, List.take_length] at pG
                  rw [intsD_len] at cG
                  refine ⟨t2, c2, xG, eG, TG, pG.congr (Nat.le_refl _) fun x y => ?_, by omega, _, _, _, _, _, _, _, _, _, _, _, _, _, _, rfl⟩
                  rw [List.take_add_one, hs']
                  exact joinS_snoc x y
              · rintro ρ GF ⟨t', c', xF, eF, TF, pF, cF, vnumber, vblock, vname, vdue, vrows, vplace, vhere, vafter, ventry, vgroup, vspots, vrow, vothers, vother, rfl⟩
                refine ⟨xF sp _ nps hsp, ?_⟩
                rw [List.length_map] at pF cF
                rw [List.take_length] at pF
                walk_at "zr"
                exact ⟨t', c', eF, TF, pF.congr (Nat.le_refl _) JB, by omega, _, _, _, _, _, _, _, _, _, _, _, _, _, _, rfl⟩
          · rintro ρ G9 ⟨t, c, e9, T9, pb, cb, vnumber, vblock, vname, vdue, vrows, vplace, vhere, vafter, ventry, vgroup, vspots, vrow, vothers, vother, rfl⟩
            refine ⟨trivial, ?_⟩
            rw [rngD_len] at pb cb
            have wd9 := wd6.ext e9
            walk_at "zr"
            refine ⟨a, _, bs, g, rfl, wd9.gr, ok, fun tb tt GA eA hT nT mT sT => ?_⟩
            have wdA := wd9.ext eA
            have TA := T9.ext eA
            have hnaA := wdA.nms
            walk_at "zr"
            refine ⟨fun k ρ G' => Ext GA G' ∧ ∃ vnumber vblock vname vdue vrows vplace vhere vafter ventry vgroup vspots vrow vothers vother : Option D, ρ = [some (sD), some (.ref d), some (.ref a), some (.ref na), some (iD g.length), some (.ref fa), vnumber, vblock, vname, vdue, vrows, vplace, none, vhere, vafter, some (.ref pa), ventry, vgroup, vspots, vrow, vothers, vother, some (.ref tb), none, none, none, none], ⟨Ext.refl _, _, _, _, _, _, _, _, _, _, _, _, _, _, _, rfl⟩, ?_, ?_⟩
            · rintro k dd ρ GB hk ⟨eB, vnumber, vblock, vname, vdue, vrows, vplace, vhere, vafter, ventry, vgroup, vspots, vrow, vothers, vother, rfl⟩
              have wdB := wdA.ext eB
              refine ⟨wdB.nms, ?_⟩
              obtain ⟨x, hx, rfl⟩ := intsD_get hk
              have xN := List.mem_of_getElem? hx
              have TB := TA.ext eB
              have TTB := hT.ext eB
              have gaB := TB.at_
              have kx : x ∈ keys t := by rw [pb.keys]; exact xN
              obtain ⟨px, hpx, mpx⟩ := tab_some kx
              have rx := TB.row _ mpx
              have lenx := pb.len x
              have eqS : ∀ s1, Sorted (united [] (getv t x)) s1 → s1 = getv tt x := fun s1 S1 => S1.eq_of (nodup_united List.nodup_nil) (sT x).1 (sT x).2 fun y => by
                rw [mem_united, pb.mem, mT]
                simp
              have lun : (united [] (getv t x)).length ≤ 60 := ok.few_of (nodup_united List.nodup_nil) fun y hy => by
                rcases mem_united.mp hy with h | h
                · cases h
                · exact adj_mem ok ((pb.mem x y).mp h)
              walk_at "zr"
              refine r_kdget ((dget_dk (k := Sum.inl x) gaB rfl).trans (by rw [hpx])) ?_
              refine r_klist rx ?_
              refine lc_pure (fun _ => true) (fun d => .tup [d, .int 1]) rx (big_lt (by rw [intsD_len]; exact Nat.le_trans lenx (by omega))) (fun j d R acc hj c1 c2 => ?_) fun p1 GC n1 h1 => ?_
              · obtain ⟨z, hz, rfl⟩ := intsD_get hj
                walk_at "zr"
                exact c1 rfl
              have spl : List.map (fun d : D => D.tup [d, .int 1]) (List.filter (fun _ => true) (intsD (getv t x))) = (oneD (getv t x)).map fun kv => .tup [kD kv.1, kv.2] := by
                rw [List.filter_eq_self.mpr (by simp), ← oneD_tup]
                unfold intsD
                rw [List.map_map]
                rfl
              rw [spl] at h1
              walk_at "zr"
              refine r_dictP h1.is fun p2 GD n2 h2 => ?_
              have om : mergeD [] (oneD (getv t x)) = oneD (united [] (getv t x)) := one_merge _ []
              rw [om] at h2
              walk_at "zr"
              refine r_sortD h2.is (one_keys _) (by omega) fun s1 p3 GE sp so n3 h3 => ?_
              have eE := (h1.ext n1).trans ((h2.ext n2).trans (h3.ext n3))
              have TTE := TTB.ext eE
              refine r_get2 (fun R => rfl) TTE.at_ ?_
              walk_at "zr"
              intro p4 GF n4 h4
              have eF := h4.ext n4
              have eq1 := eqS s1 ⟨sp, so⟩
              have h3F := eF _ _ h3.is
              have fin : Ext GA GF := eB.trans (eE.trans eF)
              rw [dget_dk (k := Sum.inl x) (TTE.ext eF).at_ rfl]
              by_cases hk : x ∈ keys tt
              · obtain ⟨pk, hpk, mpk⟩ := tab_some hk
                rw [hpk]
                refine r_eqLI h3F ((TTE.ext eF).row _ mpk) fun c hc => ?_
                walk_at "zr"
                refine r_niff hc (fun _ => ?_) fun h => absurd eq1 h
                walk_at "zr"
                exact ⟨fin, _, _, _, _, _, _, _, _, _, _, _, _, _, _, rfl⟩
              · rw [tab_none hk]
                rw [getv_none hk] at eq1
                refine r_eqLI (es := []) h3F h4.is fun c hc => ?_
                walk_at "zr"
                refine r_niff hc (fun _ => ?_) fun h => absurd eq1 h
                walk_at "zr"
                exact ⟨fin, _, _, _, _, _, _, _, _, _, _, _, _, _, _, rfl⟩
            · rintro ρ GB ⟨eB, vnumber, vblock, vname, vdue, vrows, vplace, vhere, vafter, ventry, vgroup, vspots, vrow, vothers, vother, rfl⟩
              have wdB := wdA.ext eB
              refine ⟨wdB.nms, ?_⟩
              walk_at "zr"
              intro r0 GC n0 h0
              have eC := eB.trans (h0.ext n0)
              have wdC := wdA.ext eC
              walk_at "zr"
              refine r_krng1 (by omega) ?_
              refine ⟨fun k ρ G' => ∃ rr : Addr, Ext GC G' ∧ G' rr = some (.lst ((walkR g k).map iD)) ∧ ∃ vnumber vblock vname vdue vrows vplace vhere vafter ventry vgroup vspots vrow vothers vother vturn : Option D, ρ = [some (sD), some (.ref d), some (.ref a), some (.ref na), some (iD g.length), some (.ref fa), vnumber, vblock, vname, vdue, vrows, vplace, none, vhere, vafter, some (.ref pa), ventry, vgroup, vspots, vrow, vothers, vother, some (.ref tb), none, some (.ref rr), vturn, none], ⟨r0, Ext.refl _, h0.is, _, _, _, _, _, _, _, _, _, _, _, _, _, _, _, rfl⟩, ?_, ?_⟩
              · rintro k dd ρ GD hk ⟨rr, eD, hrr, vnumber, vblock, vname, vdue, vrows, vplace, vhere, vafter, ventry, vgroup, vspots, vrow, vothers, vother, vturn, rfl⟩
                obtain ⟨hil, rfl⟩ := rngD_get hk
                rw [Int.zero_add]
                refine ⟨trivial, ?_⟩
                have wdD := wdC.ext eD
                have W := walkR_ok (by omega) ok.lt k
                have wpos := W.pos
                have wlen := walkR_len (g := g) (by omega) ok.lt k
                walk_at "zr"
                have ml : (if (((List.map iD (walkR g k)).length : Nat) : Int) - 1 < (k : Int) then (((List.map iD (walkR g k)).length : Nat) : Int) - 1 else (k : Int)) = ((min k ((walkR g k).length - 1) : Nat) : Int) := by
                  rw [List.length_map]
                  split <;> omega
                rw [ml]
                have hgm : (walkR g k)[min k ((walkR g k).length - 1)]? = some ((walkR g k).getD (min k ((walkR g k).length - 1)) 0) := by
                  have hm : min k ((walkR g k).length - 1) < (walkR g k).length := by omega
                  rw [List.getD_eq_getElem?_getD, List.getElem?_eq_getElem hm]
                  rfl
                have hlt := W.lt _ (List.mem_of_getElem? hgm)
                have wst : walkR g (k + 1) = united (walkR g k) (succ (enAt g ((walkR g k).getD (min k ((walkR g k).length - 1)) 0))) := rfl
                refine r_ixR hrr (x := iD ((walkR g k).getD (min k ((walkR g k).length - 1)) 0)) (by rw [List.getElem?_map, hgm]; rfl) ?_
                generalize (walkR g k).getD (min k ((walkR g k).length - 1)) 0 = bn at hlt wst
                have hB : g[bn]? = some g[bn] := List.getElem?_eq_getElem hlt
                generalize g[bn] = B at hB
                have sl := succ_len (e := B.en)
                have tl := ok.tl B (List.mem_of_getElem? hB)
                rw [enAt_eq hB, united_new nodup_succ] at wst
                walk_at "zr"
                refine ⟨a, _, bs, g, bn, B, rfl, wdD.gr, ok, hB, fun p1 GE eE hp1 => ?_⟩
                have hrrE := eE _ _ hrr
                refine r_klist hp1 ?_
                refine lc_pure (natP fun x => !decide (x ∈ walkR g k)) (fun d => d) hp1 (big_lt (by rw [List.length_map]; omega)) (fun j d R acc hj c1 c2 => ?_) fun p2 GF n2 h2 => ?_
                · rw [List.getElem?_map] at hj
                  cases ea : (succ B.en)[j]? with
                  | none => rw [ea] at hj; cases hj
                  | some t =>
                    rw [ea] at hj
                    cases hj
                    rw [natP_iD] at c1 c2
                    walk_at "zr"
                    refine r_inN hrrE fun c hc => ?_
                    walk_at "zr"
                    refine r_niff hc (fun hm => c2 (by simp [hm])) fun hm => ?_
                    walk_at "zr"
                    exact c1 (by simp [hm])
                · rw [filt_nat] at h2
                  have fl : (List.filter (fun x => !decide (x ∈ walkR g k)) (succ B.en)).length ≤ 3 := Nat.le_trans (List.length_filter_le _ _) (by omega)
                  refine r_cat ((h2.ext n2) _ _ hrrE) h2.is (big_ok (by rw [List.length_map, List.length_map]; omega)) fun p3 GG n3 h3 => ?_
                  rw [← List.map_append, ← wst] at h3
                  walk_at "zr"
                  exact ⟨p3, eD.trans (eE.trans ((h2.ext n2).trans (h3.ext n3))), h3.is, _, _, _, _, _, _, _, _, _, _, _, _, _, _, _, rfl⟩
              · rintro ρ GD ⟨rr, eD, hrr, vnumber, vblock, vname, vdue, vrows, vplace, vhere, vafter, ventry, vgroup, vspots, vrow, vothers, vother, vturn, rfl⟩
                refine ⟨trivial, ?_⟩
                rw [rngD_len] at hrr
                have wdD := wdC.ext eD
                walk_at "zr"
                refine ⟨a, _, bs, g, rfl, wdD.gr, ok, fun bb pt GE eE hP nP kP vP => ?_⟩
                have wdE := wdD.ext eE
                walk_at "zr"
                refine ⟨a, _, bs, g, rfl, wdE.gr, ok, fun p1 GF eF h1 => ?_⟩
                have wdF := wdE.ext eF
                have hrrF := eF _ _ (eE _ _ hrr)
                walk_at "zr"
                refine r_eqL h1 hrrF (all_iD _) (all_iD _) fun c hc => ?_
                walk_at "zr"
                refine r_niff hc (fun _ => ?_) fun h => absurd rfl h
                walk_at "zr"
                refine r_krng1 (by omega) ?_
                rw [rng_natI]
                refine lc_filter (fun _ => False) (natI (List.range g.length)) (fun G' e => trivial) (by unfold natI; rw [List.length_map, List.length_range]; omega) (fun j x acc R GG hx eG c1 c2 => ?_) fun p2 GG l eG ml _ _ _ hl => ?_
                · obtain ⟨n, hn, rfl⟩ := mem_natI.mp (List.mem_of_getElem? hx)
                  have hn' := List.mem_range.mp hn
                  have wdG := wdF.ext eG
                  have hPG := hP.ext (eF.trans eG)
                  have kn : (n : Int) ∈ keys pt := by rw [kP]; exact mem_natI.mpr ⟨n, hn, rfl⟩
                  obtain ⟨pn, hpn, mpn⟩ := tab_some kn
                  have rn := hPG.row _ mpn
                  rw [vP n hn'] at rn
                  walk_at "zr"
                  refine r_kdget ((dget_dk (k := Sum.inl (n : Int)) hPG.at_ rfl).trans (by rw [hpn])) ?_
                  walk_at "zr"
                  refine r_krng1 (by omega) ?_
                  rw [rng_natI]
                  refine lc_filter (fun z => ∃ m : Nat, m < g.length ∧ z = (m : Int) ∧ n ∈ succ (enAt g m)) (natI (List.range g.length)) (fun G' e => trivial) (by unfold natI; rw [List.length_map, List.length_range]; omega) (fun j2 y acc2 R2 GH hy eH d1 d2 => ?_) fun p3 GH l eH ml ss nd _ hl => ?_
                  · obtain ⟨m2, hm, rfl⟩ := mem_natI.mp (List.mem_of_getElem? hy)
                    have hm' := List.mem_range.mp hm
                    have hB : g[m2]? = some g[m2] := List.getElem?_eq_getElem hm'
                    generalize g[m2] = B at hB
                    walk_at "zr"
                    refine ⟨a, _, bs, g, m2, B, rfl, (wdG.ext eH).gr, ok, hB, fun p4 GI eI hp4 => ?_⟩
                    refine r_inN hp4 fun c hc => ?_
                    walk_at "zr"
                    refine r_iff hc (fun hm => ?_) fun hm => ?_
                    · walk_at "zr"
                      exact d1 GI eI ⟨m2, hm', rfl, by rw [enAt_eq hB]; exact hm⟩
                    · exact d2 GI eI fun ⟨m3, _, e, h⟩ => hm (by rw [← enAt_eq hB, show m2 = m3 by omega]; exact h)
                  · have el : natI (preds g g.length n) = l := sorted_ext natI_sub.1 (ss natI_range.1) natI_sub.2 (nd natI_range.2) fun y => by
                      rw [ml, mem_natI, mem_natI]
                      unfold preds
                      constructor
                      · rintro ⟨m, hm, rfl⟩
                        rw [List.mem_filter] at hm
                        exact ⟨⟨m, hm.1, rfl⟩, m, List.mem_range.mp hm.1, rfl, of_decide_eq_true hm.2⟩
                      · rintro ⟨_, m, hm, rfl, h⟩
                        exact ⟨m, List.mem_filter.mpr ⟨List.mem_range.mpr hm, decide_eq_true h⟩, rfl⟩
                    refine r_eqLI (eH _ _ rn) hl fun c hc => ?_
                    walk_at "zr"
                    refine r_niff hc (fun _ => ?_) fun h => absurd el h
                    exact c2 GH eH id
                · walk_at "zr"
                  intro p3 GH n3 h3
                  have el : l = [] := List.eq_nil_iff_forall_not_mem.mpr fun x hx => ((ml x).mp hx).2
                  refine r_eqLI (es := []) (h3.ext n3 _ _ hl) h3.is fun c hc => ?_
                  walk_at "zr"
                  refine r_niff hc (fun _ => ?_) fun h => absurd el h
                  walk_at "zr"
                  have hqH : GH q = some (.lst [.ref d]) := (e6.trans (e9.trans (eA.trans (eC.trans (eD.trans (eE.trans (eF.trans (eG.trans (h3.ext n3))))))))) _ _ hq5
                  exact ⟨fun h => absurd h (by decide), fun _ => ⟨hqH, _, _, _, _, _, _, _, _, _, _, _, _, _, _, _, _, _, _, _, _, _, _, _, _, _, _, _, rfl⟩, hqH⟩
    · rintro ρ G3 ⟨-, hz, -⟩
      obtain ⟨hq3, vscript, vdice, vgraph, vnames, vmany, vfound, vnumber, vblock, vname, vdue, vrows, vplace, vtarget, vhere, vafter, vpairs, ventry, vgroup, vspots, vrow, vothers, vother, vtable, vone, vreached, vturn, vbefore, rfl⟩ := hz (by simp)
      refine ⟨hq3, ?_⟩
      walk_at "zr"
      intro ta G4 n4 h4
      walk_at "zr"
      intro p1 G5 n5 h5
      have nta : p1 ≠ ta := fun z => by rw [z, h4.is] at n5; cases n5
      have g0 : Grew [1, 2, 3] ([] : T3 Addr) (fun _ _ => False) ta [] G5 G5 := ⟨⟨h5.ext n5 _ _ h4.is, fun e he => (by cases he), List.nodup_nil, fun h => (by simp [adr] at h)⟩, Tb.nil, fun x hx => (by simp [keys] at hx), fun x y r => r.elim, Keep.refl _ _, fun p hp => (by simp [adr] at hp)⟩
      refine ⟨ta, p1, [1, 2], [1, 2, 3], [], fun _ _ => False, rfl, h5.is, by simp [adr, nta], by decide, by decide, g0, fun t1 G6 g6 m6 => ?_⟩
      walk_at "zr"
      intro p2 G7 n7 h7
      have T7 := g6.tab.ext (h7.ext n7)
      refine ⟨ta, p2, 3, [1], [1, 2, 3], t1, _, rfl, h7.is, ?_, by decide, by decide, by decide, ⟨T7, g6.tb, g6.sub, g6.rsub, Keep.refl _ _, fun p hp => .inl hp⟩, fun t2 G8 g8 m8 => ?_⟩
      · intro hm
        rcases List.mem_cons.mp hm with h | h
        · rw [h, g6.tab.at_] at n7
          cases n7
        · obtain ⟨e, he, rfl⟩ := List.mem_map.mp h
          rw [g6.tab.row e he] at n7
          cases n7
      rw [m6] at m8
      obtain ⟨pa, pb, pc, rfl⟩ := er3 (m8.trans (by decide))
      have hta := g8.tab.at_
      have r1 := g8.tab.row (1, pa, [2, 3]) (by simp)
      have r2 := g8.tab.row (2, pb, [1]) (by simp)
      have r3 := g8.tab.row (3, pc, [1]) (by simp)
      walk_at "zr"
      intro pd G9 n9 h9
      have e9 := h9.ext n9
      refine r_pcons ?_
      walk_at "zr"
      intro v1 GA nA hA
      refine r_pcons ?_
      walk_at "zr"
      intro v2 GB nB hB
      refine r_pcons ?_
      walk_at "zr"
      intro v3 GC nC hC
      refine r_pnil ?_
      have eB := hB.ext nB
      have eC := hC.ext nC
      have eBC := eB.trans eC
      have eAC := (hA.ext nA).trans eBC
      have all := e9.trans eAC
      have npd := all _ _ hta
      refine ⟨eAC _ _ h9.is, [(Sum.inl 1, .ref v1), (Sum.inl 2, .ref v2), (Sum.inl 3, .ref v3)], rfl, Nat.le_of_ble_eq_true rfl, fun GD hD => ?_⟩
      have mg3 : mergeD [] [((Sum.inl 1 : Key), D.ref v1), (Sum.inl 2, .ref v2), (Sum.inl 3, .ref v3)] = [(Sum.inl 1, .ref v1), (Sum.inl 2, .ref v2), (Sum.inl 3, .ref v3)] := rfl
      rw [mg3] at hD
      have ne : ∀ {b : Addr} {l : List D}, GC b = some (.lst l) → GD b = some (.lst l) := fun {b l} h => (hD.other b (fun z => by
        rw [z, eAC _ _ h9.is] at h
        cases h)).trans h
      have tpd : ta ≠ pd := fun z => by
        rw [z, n9] at hta
        cases hta
      have htaD : GD ta = _ := (hD.other ta tpd).trans npd
      refine r_eqDL htaD hD.is rfl (fun p hp => ?_) ?_
      · simp only [tabD, List.map_cons, List.map_nil, List.mem_cons, List.not_mem_nil, or_false] at hp
        rcases hp with rfl | rfl | rfl
        · exact ⟨pa, v1, [2, 3], rfl, rfl, ne (all _ _ r1), ne (eBC _ _ hA.is)⟩
        · exact ⟨pb, v2, [1], rfl, rfl, ne (all _ _ r2), ne (eC _ _ hB.is)⟩
        · exact ⟨pc, v3, [1], rfl, rfl, ne (all _ _ r3), ne hC.is⟩
      walk_at "zr"
      intro p3 GE nE hE1
      walk_at "zr"
      intro p4 GF nF hF1
      refine ⟨p3, [1], p4, [2, 1], rfl, hF1.ext nF _ _ hE1.is, hF1.is, by decide, by decide, fun p5 GG nG eG hG => ?_⟩
      walk_at "zr"
      intro p6 GH nH hH1
      refine r_eqLI (es := [1, 2]) (hH1.ext nH _ _ hG) hH1.is fun c hc => ?_
      walk_at "zr"
      refine r_iff hc (fun _ => ?_) fun h => absurd (by decide) h
      walk_at "zr"
      intro p7 GI nI hI1
      walk_at "zr"
      intro p8 GJ nJ hJ1
      refine ⟨p7, [1, 2], .ref p8, [1], rfl, hJ1.ext nJ _ _ hI1.is, .inr ⟨p8, rfl, hJ1.is⟩, by decide, fun p9 GK eK hK => ?_⟩
      walk_at "zr"
      intro p10 GL nL hL1
      refine r_eqLI (es := [2]) (hL1.ext nL _ _ hK) hL1.is fun c hc => ?_
      walk_at "zr"
      refine r_iff hc (fun _ => ?_) fun h => absurd (by decide) h
      walk_at "zr"
      refine ⟨[.var 4, .int 5], rfl, by decide, fun p11 GM eM hM => ?_⟩
      walk_at "zr"
      intro p12 GN nN hN1
      refine r_eqLI (es := [4]) (hN1.ext nN _ _ hM) hN1.is fun c hc => ?_
      walk_at "zr"
      have : c = true := hc.mpr (by decide)
      subst this
      exact hq _
end
end K24

namespace K24
open PySem PySem.Spec PyProof.Rows L2 Z
theorem law_start {K : PySem.W.Frag} {H : Hp} {a : Addr} {ns : List Int} (hb : ∀ z ∈ ns, Builtin.Int.intBits z ≤ 1048576) (hl : ns.length ≤ 63) (hS : SqL K H a (ns.map V.int)) :
    letI τ : Tbl := ⟨[]⟩
    upSp K spLaw [.ref a] H (fun v _ => v = .bl true) fun _ _ _ => False := by
  letI τ : Tbl := ⟨[]⟩
  have tb : LamX.Tabs τ.T H := fun p hp => by cases hp
  have out : ∀ (G : Gp) (sD : D), Sim0 K H G → Rep K H (.ref a) sD → isScript G sD ns → upSp K spLaw [.ref a] H (fun v _ => v = .bl true) fun _ _ _ => False := fun G sD g r hs =>
    ⟨[sD], G, fun d _ => d = .bl true, fun _ _ => False, g, .cons r .nil, ⟨sD, ns, rfl, hs, fun _ => rfl⟩, fun d G' v H' e f g r => by subst e; cases r; rfl, fun c G' dx H' e => e.elim⟩
  have none0 : Sim0 K H (fun _ => none) := ⟨fun b m e => (by cases e), tb, fun p hp => rfl⟩
  rcases hS with (hS | ⟨o, hS⟩) | hS
  · refine out (put (fun _ => none) a (.lst (ns.map D.int))) (.ref a) ⟨fun b m e => ?_, tb, fun p hp => (by cases hp)⟩ (.ref a) (.inr ⟨a, rfl, put_same⟩)
    by_cases hb : b = a
    · subst hb
      rw [put_same] at e
      cases e
      exact ⟨_, hS, Reps.ints ns⟩
    · rw [put_ne hb] at e
      cases e
  · exact out _ (.cl (ns.map D.int)) none0 (.cl (.inl ⟨o, hS⟩) (Reps.ints ns)) (.inl rfl)
  · exact out _ (.cl (ns.map D.int)) none0 (.cl (.inr hS) (Reps.ints ns)) (.inl rfl)

theorem all_mk {l : PySem.W.OpenLaw} {w : World} {K : PySem.W.Frag} {h : Heap} {mg : Str → Option Value} {fa : Addr} (X : K.In h) (G : h.Ns mainGlobals mg) (hfa : mg "law" = some (.ref fa))
    {f0 f1 f2 f3 f4 f5 f6 f7 f8 f9 f10 f11 f12 f13 f14 f15 f16 f17 f18 f19 f20 f21 f22 f23 f24 f25 f26 f27 f28 f29 f30 f31 f32 CB CG aA : Addr} {od0 an0 od1 an1 od2 an2 od3 an3 od4 an4 od5 an5 od6 an6 od7 an7 od8 an8 od9 an9 od10 an10 od11 an11 od12 an12 od13 an13 od14 an14 od15 an15 od16 an16 od17 an17 od18 an18 od19 an19 od20 an20 od21 an21 od22 an22 od23 an23 od24 an24 od25 an25 od26 an26 od27 an27 od28 an28 od29 an29 od30 an30 od31 an31 od32 an32 : Option Addr} {sl0 sl1 sl2 sl3 sl4 sl5 sl6 sl7 sl8 sl9 sl10 sl11 sl12 sl13 sl14 sl15 sl16 sl17 sl18 sl19 sl20 sl21 sl22 sl23 sl24 sl25 sl26 sl27 sl28 sl29 sl30 sl31 sl32 : Array (Option Value)} {oc0 kV0 dc0 pm0 ct0 cd0 oc1 kV1 dc1 pm1 ct1 cd1 oc2 kV2 dc2 pm2 ct2 cd2 oc3 kV3 dc3 pm3 ct3 cd3 oc4 kV4 dc4 pm4 ct4 cd4 oc5 kV5 dc5 pm5 ct5 cd5 oc6 kV6 dc6 pm6 ct6 cd6 oc7 kV7 dc7 pm7 ct7 cd7 oc8 kV8 dc8 pm8 ct8 cd8 oc9 kV9 dc9 pm9 ct9 cd9 oc10 kV10 dc10 pm10 ct10 cd10 oc11 kV11 dc11 pm11 ct11 cd11 oc12 kV12 dc12 pm12 ct12 cd12 oc13 kV13 dc13 pm13 ct13 cd13 oc14 kV14 dc14 pm14 ct14 cd14 oc15 kV15 dc15 pm15 ct15 cd15 oc16 kV16 dc16 pm16 ct16 cd16 oc17 kV17 dc17 pm17 ct17 cd17 oc18 kV18 dc18 pm18 ct18 cd18 oc19 kV19 dc19 pm19 ct19 cd19 oc20 kV20 dc20 pm20 ct20 cd20 oc21 kV21 dc21 pm21 ct21 cd21 oc22 kV22 dc22 pm22 ct22 cd22 oc23 kV23 dc23 pm23 ct23 cd23 oc24 kV24 dc24 pm24 ct24 cd24 oc25 kV25 dc25 pm25 ct25 cd25 oc26 kV26 dc26 pm26 ct26 cd26 oc27 kV27 dc27 pm27 ct27 cd27 oc28 kV28 dc28 pm28 ct28 cd28 oc29 kV29 dc29 pm29 ct29 cd29 oc30 kV30 dc30 pm30 ct30 cd30 oc31 kV31 dc31 pm31 ct31 cd31 oc32 kV32 dc32 pm32 ct32 cd32 vi_print vi_atom : Value} {eA : Array DictEntry} {nA : Nat} 
    (a0 : PySem.W.nsIn K mainGlobals "names_in" = some (some (.ref f0)))
    (l0 : K.lookup f0 = some ⟨oc0, od0, .func (PySem.W.fnOf "names_in" "names_in" (defArgs s_names_in) (defBody s_names_in) (defScope s_names_in) .none kV0 dc0 pm0 an0 cd0 ct0), sl0⟩)
    (c0_ : PySem.W.codeIn K cd0 "names_in" = true)
    (k0 : PySem.W.keepIn K (.ref f0) = true)
    (a1 : PySem.W.nsIn K mainGlobals "without" = some (some (.ref f1)))
    (l1 : K.lookup f1 = some ⟨oc1, od1, .func (PySem.W.fnOf "without" "without" (defArgs s_without) (defBody s_without) (defScope s_without) .none kV1 dc1 pm1 an1 cd1 ct1), sl1⟩)
    (c1_ : PySem.W.codeIn K cd1 "without" = true)
    (k1 : PySem.W.keepIn K (.ref f1) = true)
    (a2 : PySem.W.nsIn K mainGlobals "united" = some (some (.ref f2)))
    (l2 : K.lookup f2 = some ⟨oc2, od2, .func (PySem.W.fnOf "united" "united" (defArgs s_united) (defBody s_united) (defScope s_united) .none kV2 dc2 pm2 an2 cd2 ct2), sl2⟩)
    (c2_ : PySem.W.codeIn K cd2 "united" = true)
    (k2 : PySem.W.keepIn K (.ref f2) = true)
    (a3 : PySem.W.nsIn K mainGlobals "operation_atoms" = some (some (.ref f3)))
    (l3 : K.lookup f3 = some ⟨oc3, od3, .func (PySem.W.fnOf "operation_atoms" "operation_atoms" (defArgs s_operation_atoms) (defBody s_operation_atoms) (defScope s_operation_atoms) .none kV3 dc3 pm3 an3 cd3 ct3), sl3⟩)
    (c3_ : PySem.W.codeIn K cd3 "operation_atoms" = true)
    (k3 : PySem.W.keepIn K (.ref f3) = true)
    (a4 : PySem.W.nsIn K mainGlobals "flat_atoms" = some (some (.ref f4)))
    (l4 : K.lookup f4 = some ⟨oc4, od4, .func (PySem.W.fnOf "flat_atoms" "flat_atoms" (defArgs s_flat_atoms) (defBody s_flat_atoms) (defScope s_flat_atoms) .none kV4 dc4 pm4 an4 cd4 ct4), sl4⟩)
    (c4_ : PySem.W.codeIn K cd4 "flat_atoms" = true)
    (k4 : PySem.W.keepIn K (.ref f4) = true)
    (a5 : PySem.W.nsIn K mainGlobals "end_atoms" = some (some (.ref f5)))
    (l5 : K.lookup f5 = some ⟨oc5, od5, .func (PySem.W.fnOf "end_atoms" "end_atoms" (defArgs s_end_atoms) (defBody s_end_atoms) (defScope s_end_atoms) .none kV5 dc5 pm5 an5 cd5 ct5), sl5⟩)
    (c5_ : PySem.W.codeIn K cd5 "end_atoms" = true)
    (k5 : PySem.W.keepIn K (.ref f5) = true)
    (a6 : PySem.W.nsIn K mainGlobals "successors" = some (some (.ref f6)))
    (l6 : K.lookup f6 = some ⟨oc6, od6, .func (PySem.W.fnOf "successors" "successors" (defArgs s_successors) (defBody s_successors) (defScope s_successors) .none kV6 dc6 pm6 an6 cd6 ct6), sl6⟩)
    (c6_ : PySem.W.codeIn K cd6 "successors" = true)
    (k6 : PySem.W.keepIn K (.ref f6) = true)
    (a7 : PySem.W.findIn K (.ref CB) "__init__" = some (some (.ref f7)))
    (i7 : PySem.W.isFn K (.ref f7) = true)
    (l7 : K.lookup f7 = some ⟨oc7, od7, .func (PySem.W.fnOf "__init__" "Block.__init__" (defArgs s_Block___init__) (defBody s_Block___init__) (defScope s_Block___init__) .none kV7 dc7 pm7 an7 cd7 ct7), sl7⟩)
    (c7_ : PySem.W.codeIn K cd7 "Block.__init__" = true)
    (k7 : PySem.W.keepIn K (.ref f7) = true)
    (a8 : PySem.W.findIn K (.ref CG) "__init__" = some (some (.ref f8)))
    (i8 : PySem.W.isFn K (.ref f8) = true)
    (l8 : K.lookup f8 = some ⟨oc8, od8, .func (PySem.W.fnOf "__init__" "Graph.__init__" (defArgs s_Graph___init__) (defBody s_Graph___init__) (defScope s_Graph___init__) .none kV8 dc8 pm8 an8 cd8 ct8), sl8⟩)
    (c8_ : PySem.W.codeIn K cd8 "Graph.__init__" = true)
    (k8 : PySem.W.keepIn K (.ref f8) = true)
    (a9 : PySem.W.nsIn K mainGlobals "check_names" = some (some (.ref f9)))
    (l9 : K.lookup f9 = some ⟨oc9, od9, .func (PySem.W.fnOf "check_names" "check_names" (defArgs s_check_names) (defBody s_check_names) (defScope s_check_names) .none kV9 dc9 pm9 an9 cd9 ct9), sl9⟩)
    (c9_ : PySem.W.codeIn K cd9 "check_names" = true)
    (k9 : PySem.W.keepIn K (.ref f9) = true)
    (a10 : PySem.W.nsIn K mainGlobals "check_block" = some (some (.ref f10)))
    (l10 : K.lookup f10 = some ⟨oc10, od10, .func (PySem.W.fnOf "check_block" "check_block" (defArgs s_check_block) (defBody s_check_block) (defScope s_check_block) .none kV10 dc10 pm10 an10 cd10 ct10), sl10⟩)
    (c10_ : PySem.W.codeIn K cd10 "check_block" = true)
    (k10 : PySem.W.keepIn K (.ref f10) = true)
    (a11 : PySem.W.nsIn K mainGlobals "check_graph" = some (some (.ref f11)))
    (l11 : K.lookup f11 = some ⟨oc11, od11, .func (PySem.W.fnOf "check_graph" "check_graph" (defArgs s_check_graph) (defBody s_check_graph) (defScope s_check_graph) .none kV11 dc11 pm11 an11 cd11 ct11), sl11⟩)
    (c11_ : PySem.W.codeIn K cd11 "check_graph" = true)
    (k11 : PySem.W.keepIn K (.ref f11) = true)
    (a12 : PySem.W.nsIn K mainGlobals "live_before" = some (some (.ref f12)))
    (l12 : K.lookup f12 = some ⟨oc12, od12, .func (PySem.W.fnOf "live_before" "live_before" (defArgs s_live_before) (defBody s_live_before) (defScope s_live_before) .none kV12 dc12 pm12 an12 cd12 ct12), sl12⟩)
    (c12_ : PySem.W.codeIn K cd12 "live_before" = true)
    (k12 : PySem.W.keepIn K (.ref f12) = true)
    (a13 : PySem.W.nsIn K mainGlobals "live_after" = some (some (.ref f13)))
    (l13 : K.lookup f13 = some ⟨oc13, od13, .func (PySem.W.fnOf "live_after" "live_after" (defArgs s_live_after) (defBody s_live_after) (defScope s_live_after) .none kV13 dc13 pm13 an13 cd13 ct13), sl13⟩)
    (c13_ : PySem.W.codeIn K cd13 "live_after" = true)
    (k13 : PySem.W.keepIn K (.ref f13) = true)
    (a14 : PySem.W.nsIn K mainGlobals "live_rows" = some (some (.ref f14)))
    (l14 : K.lookup f14 = some ⟨oc14, od14, .func (PySem.W.fnOf "live_rows" "live_rows" (defArgs s_live_rows) (defBody s_live_rows) (defScope s_live_rows) .none kV14 dc14 pm14 an14 cd14 ct14), sl14⟩)
    (c14_ : PySem.W.codeIn K cd14 "live_rows" = true)
    (k14 : PySem.W.keepIn K (.ref f14) = true)
    (a15 : PySem.W.nsIn K mainGlobals "live_ins" = some (some (.ref f15)))
    (l15 : K.lookup f15 = some ⟨oc15, od15, .func (PySem.W.fnOf "live_ins" "live_ins" (defArgs s_live_ins) (defBody s_live_ins) (defScope s_live_ins) .none kV15 dc15 pm15 an15 cd15 ct15), sl15⟩)
    (c15_ : PySem.W.codeIn K cd15 "live_ins" = true)
    (k15 : PySem.W.keepIn K (.ref f15) = true)
    (a16 : PySem.W.nsIn K mainGlobals "join_one" = some (some (.ref f16)))
    (l16 : K.lookup f16 = some ⟨oc16, od16, .func (PySem.W.fnOf "join_one" "join_one" (defArgs s_join_one) (defBody s_join_one) (defScope s_join_one) .none kV16 dc16 pm16 an16 cd16 ct16), sl16⟩)
    (c16_ : PySem.W.codeIn K cd16 "join_one" = true)
    (k16 : PySem.W.keepIn K (.ref f16) = true)
    (a17 : PySem.W.nsIn K mainGlobals "join_all" = some (some (.ref f17)))
    (l17 : K.lookup f17 = some ⟨oc17, od17, .func (PySem.W.fnOf "join_all" "join_all" (defArgs s_join_all) (defBody s_join_all) (defScope s_join_all) .none kV17 dc17 pm17 an17 cd17 ct17), sl17⟩)
    (c17_ : PySem.W.codeIn K cd17 "join_all" = true)
    (k17 : PySem.W.keepIn K (.ref f17) = true)
    (a18 : PySem.W.nsIn K mainGlobals "interference" = some (some (.ref f18)))
    (l18 : K.lookup f18 = some ⟨oc18, od18, .func (PySem.W.fnOf "interference" "interference" (defArgs s_interference) (defBody s_interference) (defScope s_interference) .none kV18 dc18 pm18 an18 cd18 ct18), sl18⟩)
    (c18_ : PySem.W.codeIn K cd18 "interference" = true)
    (k18 : PySem.W.keepIn K (.ref f18) = true)
    (a19 : PySem.W.nsIn K mainGlobals "reached_blocks" = some (some (.ref f19)))
    (l19 : K.lookup f19 = some ⟨oc19, od19, .func (PySem.W.fnOf "reached_blocks" "reached_blocks" (defArgs s_reached_blocks) (defBody s_reached_blocks) (defScope s_reached_blocks) .none kV19 dc19 pm19 an19 cd19 ct19), sl19⟩)
    (c19_ : PySem.W.codeIn K cd19 "reached_blocks" = true)
    (k19 : PySem.W.keepIn K (.ref f19) = true)
    (a20 : PySem.W.nsIn K mainGlobals "predecessors" = some (some (.ref f20)))
    (l20 : K.lookup f20 = some ⟨oc20, od20, .func (PySem.W.fnOf "predecessors" "predecessors" (defArgs s_predecessors) (defBody s_predecessors) (defScope s_predecessors) .none kV20 dc20 pm20 an20 cd20 ct20), sl20⟩)
    (c20_ : PySem.W.codeIn K cd20 "predecessors" = true)
    (k20 : PySem.W.keepIn K (.ref f20) = true)
    (a21 : PySem.W.nsIn K mainGlobals "_law_dice" = some (some (.ref f21)))
    (l21 : K.lookup f21 = some ⟨oc21, od21, .func (PySem.W.fnOf "_law_dice" "_law_dice" (defArgs s__law_dice) (defBody s__law_dice) (defScope s__law_dice) .none kV21 dc21 pm21 an21 cd21 ct21), sl21⟩)
    (c21_ : PySem.W.codeIn K cd21 "_law_dice" = true)
    (k21 : PySem.W.keepIn K (.ref f21) = true)
    (a22 : PySem.W.nsIn K mainGlobals "_law_roll" = some (some (.ref f22)))
    (l22 : K.lookup f22 = some ⟨oc22, od22, .func (PySem.W.fnOf "_law_roll" "_law_roll" (defArgs s__law_roll) (defBody s__law_roll) (defScope s__law_roll) .none kV22 dc22 pm22 an22 cd22 ct22), sl22⟩)
    (c22_ : PySem.W.codeIn K cd22 "_law_roll" = true)
    (k22 : PySem.W.keepIn K (.ref f22) = true)
    (a23 : PySem.W.nsIn K mainGlobals "_law_rounds" = some (some (.ref f23)))
    (l23 : K.lookup f23 = some ⟨oc23, od23, .func (PySem.W.fnOf "_law_rounds" "_law_rounds" (defArgs s__law_rounds) (defBody s__law_rounds) (defScope s__law_rounds) .none kV23 dc23 pm23 an23 cd23 ct23), sl23⟩)
    (c23_ : PySem.W.codeIn K cd23 "_law_rounds" = true)
    (k23 : PySem.W.keepIn K (.ref f23) = true)
    (a24 : PySem.W.nsIn K mainGlobals "_law_next" = some (some (.ref f24)))
    (l24 : K.lookup f24 = some ⟨oc24, od24, .func (PySem.W.fnOf "_law_next" "_law_next" (defArgs s__law_next) (defBody s__law_next) (defScope s__law_next) .none kV24 dc24 pm24 an24 cd24 ct24), sl24⟩)
    (c24_ : PySem.W.codeIn K cd24 "_law_next" = true)
    (k24 : PySem.W.keepIn K (.ref f24) = true)
    (a25 : PySem.W.nsIn K mainGlobals "_law_some" = some (some (.ref f25)))
    (l25 : K.lookup f25 = some ⟨oc25, od25, .func (PySem.W.fnOf "_law_some" "_law_some" (defArgs s__law_some) (defBody s__law_some) (defScope s__law_some) .none kV25 dc25 pm25 an25 cd25 ct25), sl25⟩)
    (c25_ : PySem.W.codeIn K cd25 "_law_some" = true)
    (k25 : PySem.W.keepIn K (.ref f25) = true)
    (a26 : PySem.W.nsIn K mainGlobals "_law_row" = some (some (.ref f26)))
    (l26 : K.lookup f26 = some ⟨oc26, od26, .func (PySem.W.fnOf "_law_row" "_law_row" (defArgs s__law_row) (defBody s__law_row) (defScope s__law_row) .none kV26 dc26 pm26 an26 cd26 ct26), sl26⟩)
    (c26_ : PySem.W.codeIn K cd26 "_law_row" = true)
    (k26 : PySem.W.keepIn K (.ref f26) = true)
    (a27 : PySem.W.nsIn K mainGlobals "_law_end" = some (some (.ref f27)))
    (l27 : K.lookup f27 = some ⟨oc27, od27, .func (PySem.W.fnOf "_law_end" "_law_end" (defArgs s__law_end) (defBody s__law_end) (defScope s__law_end) .none kV27 dc27 pm27 an27 cd27 ct27), sl27⟩)
    (c27_ : PySem.W.codeIn K cd27 "_law_end" = true)
    (k27 : PySem.W.keepIn K (.ref f27) = true)
    (a28 : PySem.W.nsIn K mainGlobals "_law_graph" = some (some (.ref f28)))
    (l28 : K.lookup f28 = some ⟨oc28, od28, .func (PySem.W.fnOf "_law_graph" "_law_graph" (defArgs s__law_graph) (defBody s__law_graph) (defScope s__law_graph) .none kV28 dc28 pm28 an28 cd28 ct28), sl28⟩)
    (c28_ : PySem.W.codeIn K cd28 "_law_graph" = true)
    (k28 : PySem.W.keepIn K (.ref f28) = true)
    (a29 : PySem.W.nsIn K mainGlobals "_law_names" = some (some (.ref f29)))
    (l29 : K.lookup f29 = some ⟨oc29, od29, .func (PySem.W.fnOf "_law_names" "_law_names" (defArgs s__law_names) (defBody s__law_names) (defScope s__law_names) .none kV29 dc29 pm29 an29 cd29 ct29), sl29⟩)
    (c29_ : PySem.W.codeIn K cd29 "_law_names" = true)
    (k29 : PySem.W.keepIn K (.ref f29) = true)
    (a30 : PySem.W.nsIn K mainGlobals "_law_next_blocks" = some (some (.ref f30)))
    (l30 : K.lookup f30 = some ⟨oc30, od30, .func (PySem.W.fnOf "_law_next_blocks" "_law_next_blocks" (defArgs s__law_next_blocks) (defBody s__law_next_blocks) (defScope s__law_next_blocks) .none kV30 dc30 pm30 an30 cd30 ct30), sl30⟩)
    (c30_ : PySem.W.codeIn K cd30 "_law_next_blocks" = true)
    (k30 : PySem.W.keepIn K (.ref f30) = true)
    (a31 : PySem.W.nsIn K mainGlobals "_law_live" = some (some (.ref f31)))
    (l31 : K.lookup f31 = some ⟨oc31, od31, .func (PySem.W.fnOf "_law_live" "_law_live" (defArgs s__law_live) (defBody s__law_live) (defScope s__law_live) .none kV31 dc31 pm31 an31 cd31 ct31), sl31⟩)
    (c31_ : PySem.W.codeIn K cd31 "_law_live" = true)
    (k31 : PySem.W.keepIn K (.ref f31) = true)
    (a32 : PySem.W.nsIn K mainGlobals "law" = some (some (.ref f32)))
    (l32 : K.lookup f32 = some ⟨oc32, od32, .func (PySem.W.fnOf "law" "law" (defArgs s_law) (defBody s_law) (defScope s_law) .none kV32 dc32 pm32 an32 cd32 ct32), sl32⟩)
    (c32_ : PySem.W.codeIn K cd32 "law" = true)
    (k32 : PySem.W.keepIn K (.ref f32) = true)
    (gCB : PySem.W.nsIn K mainGlobals "Block" = some (some (.ref CB)))
    (gCG : PySem.W.nsIn K mainGlobals "Graph" = some (some (.ref CG)))
    (mkCB : PySem.W.makesIn K CB = true)
    (kcCB : PySem.W.keepIn K (.ref CB) = true)
    (mkCG : PySem.W.makesIn K CG = true)
    (kcCG : PySem.W.keepIn K (.ref CG) = true)
    (pgCB : PySem.W.plainGet K CB Str.empty = true)
    (hdCB : PySem.W.hasDictIn K CB = true)
    (poCB : PySem.W.plainOver K CB = true)
    (saCB : PySem.W.findIn K (.ref CB) "__setattr__" = some (some (.builtin "object.__setattr__")))
    (pgCG : PySem.W.plainGet K CG Str.empty = true)
    (hdCG : PySem.W.hasDictIn K CG = true)
    (poCG : PySem.W.plainOver K CG = true)
    (saCG : PySem.W.findIn K (.ref CG) "__setattr__" = some (some (.builtin "object.__setattr__")))
    (n_Block_params : PySem.W.findIn K (.ref CB) "params" = some none)
    (n_Block_rows : PySem.W.findIn K (.ref CB) "rows" = some none)
    (n_Block_end : PySem.W.findIn K (.ref CB) "end" = some none)
    (n_Graph_label : PySem.W.findIn K (.ref CG) "label" = some none)
    (n_Graph_params : PySem.W.findIn K (.ref CG) "params" = some none)
    (n_Graph_captured : PySem.W.findIn K (.ref CG) "captured" = some none)
    (n_Graph_blocks : PySem.W.findIn K (.ref CG) "blocks" = some none)
    (g_ARITIES : PySem.W.nsIn K mainGlobals "ARITIES" = some (some (.ref aA)))
    (qd_ARITIES : K.lookup aA = some ⟨.type "dict", none, .dict eA nA, #[]⟩)
    (rd_ARITIES : PySem.W.KeysLit w.params eA.toList)
    (sd_ARITIES : (aA == sysModules) = false)
    (i_print : PySem.W.nsIn K aA "print" = some (some vi_print))
    (i_atom : PySem.W.nsIn K aA "atom" = some (some vi_atom))
    (z_len : PySem.W.nsIn K mainGlobals "len" = some none)
    (z_range : PySem.W.nsIn K mainGlobals "range" = some none)
    (z_int : PySem.W.nsIn K mainGlobals "int" = some none)
    (z_abs : PySem.W.nsIn K mainGlobals "abs" = some none)
    (z_list : PySem.W.nsIn K mainGlobals "list" = some none)
    (z_tuple : PySem.W.nsIn K mainGlobals "tuple" = some none)
    (z_sorted : PySem.W.nsIn K mainGlobals "sorted" = some none)
    (z_min : PySem.W.nsIn K mainGlobals "min" = some none)
    (z_dict : PySem.W.nsIn K mainGlobals "dict" = some none)
    (z_enumerate : PySem.W.nsIn K mainGlobals "enumerate" = some none) : LamX.LawAtS l w K (L2.CX l.prog w) 6 63 "script" mg fa h := by
  have e := hfa.symm.trans (PySem.W.mg_of X G a32)
  cases e
  have T : Txt K w mg CB CG aA eA nA :=
    { g_Block := PySem.W.mg_of X G gCB,
      g_Graph := PySem.W.mg_of X G gCG,
      c_Block := ⟨pgCB, hdCB, poCB, saCB⟩,
      c_Graph := ⟨pgCG, hdCG, poCG, saCG⟩,
      n_Block_params := n_Block_params,
      n_Block_rows := n_Block_rows,
      n_Block_end := n_Block_end,
      n_Graph_label := n_Graph_label,
      n_Graph_params := n_Graph_params,
      n_Graph_captured := n_Graph_captured,
      n_Graph_blocks := n_Graph_blocks,
      g_ARITIES := PySem.W.mg_of X G g_ARITIES,
      d_ARITIES := ⟨qd_ARITIES, rd_ARITIES, sd_ARITIES⟩,
      i_print := ⟨_, i_print⟩,
      i_atom := ⟨_, i_atom⟩,
      z_len := PySem.W.mg_none_of X G z_len,
      z_range := PySem.W.mg_none_of X G z_range,
      z_int := PySem.W.mg_none_of X G z_int,
      z_abs := PySem.W.mg_none_of X G z_abs,
      z_list := PySem.W.mg_none_of X G z_list,
      z_tuple := PySem.W.mg_none_of X G z_tuple,
      z_sorted := PySem.W.mg_none_of X G z_sorted,
      z_min := PySem.W.mg_none_of X G z_min,
      z_dict := PySem.W.mg_none_of X G z_dict,
      z_enumerate := PySem.W.mg_none_of X G z_enumerate }
  have F0 := fun_mk (st := s_names_in) l0 c0_ k0
  have b0 := F0.binds (ps := ["atoms"]) fun _ _ _ _ _ _ us hl => match us, hl with | [_], _ => rfl
  have F1 := fun_mk (st := s_without) l1 c1_ k1
  have b1 := F1.binds (ps := ["names", "gone"]) fun _ _ _ _ _ _ us hl => match us, hl with | [_, _], _ => rfl
  have F2 := fun_mk (st := s_united) l2 c2_ k2
  have b2 := F2.binds (ps := ["names", "more"]) fun _ _ _ _ _ _ us hl => match us, hl with | [_, _], _ => rfl
  have F3 := fun_mk (st := s_operation_atoms) l3 c3_ k3
  have b3 := F3.binds (ps := ["operation"]) fun _ _ _ _ _ _ us hl => match us, hl with | [_], _ => rfl
  have F4 := fun_mk (st := s_flat_atoms) l4 c4_ k4
  have b4 := F4.binds (ps := ["operation"]) fun _ _ _ _ _ _ us hl => match us, hl with | [_], _ => rfl
  have F5 := fun_mk (st := s_end_atoms) l5 c5_ k5
  have b5 := F5.binds (ps := ["end"]) fun _ _ _ _ _ _ us hl => match us, hl with | [_], _ => rfl
  have F6 := fun_mk (st := s_successors) l6 c6_ k6
  have b6 := F6.binds (ps := ["end"]) fun _ _ _ _ _ _ us hl => match us, hl with | [_], _ => rfl
  have F7 := fun_mk (st := s_Block___init__) l7 c7_ k7
  have b7 := F7.binds (ps := ["self", "params", "rows", "end"]) fun _ _ _ _ _ _ us hl => match us, hl with | [_, _, _, _], _ => rfl
  have F8 := fun_mk (st := s_Graph___init__) l8 c8_ k8
  have b8 := F8.binds (ps := ["self", "label", "params", "captured", "blocks"]) fun _ _ _ _ _ _ us hl => match us, hl with | [_, _, _, _, _], _ => rfl
  have F9 := fun_mk (st := s_check_names) l9 c9_ k9
  have b9 := F9.binds (ps := ["atoms", "names"]) fun _ _ _ _ _ _ us hl => match us, hl with | [_, _], _ => rfl
  have F10 := fun_mk (st := s_check_block) l10 c10_ k10
  have b10 := F10.binds (ps := ["block", "graph", "names"]) fun _ _ _ _ _ _ us hl => match us, hl with | [_, _, _], _ => rfl
  have F11 := fun_mk (st := s_check_graph) l11 c11_ k11
  have b11 := F11.binds (ps := ["graph"]) fun _ _ _ _ _ _ us hl => match us, hl with | [_], _ => rfl
  have F12 := fun_mk (st := s_live_before) l12 c12_ k12
  have b12 := F12.binds (ps := ["block", "after"]) fun _ _ _ _ _ _ us hl => match us, hl with | [_, _], _ => rfl
  have F13 := fun_mk (st := s_live_after) l13 c13_ k13
  have b13 := F13.binds (ps := ["graph", "found", "block"]) fun _ _ _ _ _ _ us hl => match us, hl with | [_, _, _], _ => rfl
  have F14 := fun_mk (st := s_live_rows) l14 c14_ k14
  have b14 := F14.binds (ps := ["graph", "found", "block"]) fun _ _ _ _ _ _ us hl => match us, hl with | [_, _, _], _ => rfl
  have F15 := fun_mk (st := s_live_ins) l15 c15_ k15
  have b15 := F15.binds (ps := ["graph"]) fun _ _ _ _ _ _ us hl => match us, hl with | [_], _ => rfl
  have F16 := fun_mk (st := s_join_one) l16 c16_ k16
  have b16 := F16.binds (ps := ["table", "name", "others"]) fun _ _ _ _ _ _ us hl => match us, hl with | [_, _, _], _ => rfl
  have F17 := fun_mk (st := s_join_all) l17 c17_ k17
  have b17 := F17.binds (ps := ["table", "names"]) fun _ _ _ _ _ _ us hl => match us, hl with | [_, _], _ => rfl
  have F18 := fun_mk (st := s_interference) l18 c18_ k18
  have b18 := F18.binds (ps := ["graph"]) fun _ _ _ _ _ _ us hl => match us, hl with | [_], _ => rfl
  have F19 := fun_mk (st := s_reached_blocks) l19 c19_ k19
  have b19 := F19.binds (ps := ["graph"]) fun _ _ _ _ _ _ us hl => match us, hl with | [_], _ => rfl
  have F20 := fun_mk (st := s_predecessors) l20 c20_ k20
  have b20 := F20.binds (ps := ["graph"]) fun _ _ _ _ _ _ us hl => match us, hl with | [_], _ => rfl
  have F21 := fun_mk (st := s__law_dice) l21 c21_ k21
  have b21 := F21.binds (ps := ["cell"]) fun _ _ _ _ _ _ us hl => match us, hl with | [_], _ => rfl
  have F22 := fun_mk (st := s__law_roll) l22 c22_ k22
  have b22 := F22.binds (ps := ["dice", "many"]) fun _ _ _ _ _ _ us hl => match us, hl with | [_, _], _ => rfl
  have F23 := fun_mk (st := s__law_rounds) l23 c23_ k23
  have b23 := F23.binds (ps := ["script", "most"]) fun _ _ _ _ _ _ us hl => match us, hl with | [_, _], _ => rfl
  have F24 := fun_mk (st := s__law_next) l24 c24_ k24
  have b24 := F24.binds (ps := ["made"]) fun _ _ _ _ _ _ us hl => match us, hl with | [_], _ => rfl
  have F25 := fun_mk (st := s__law_some) l25 c25_ k25
  have b25 := F25.binds (ps := ["dice", "here"]) fun _ _ _ _ _ _ us hl => match us, hl with | [_, _], _ => rfl
  have F26 := fun_mk (st := s__law_row) l26 c26_ k26
  have b26 := F26.binds (ps := ["dice", "here"]) fun _ _ _ _ _ _ us hl => match us, hl with | [_, _], _ => rfl
  have F27 := fun_mk (st := s__law_end) l27 c27_ k27
  have b27 := F27.binds (ps := ["dice", "here", "arities"]) fun _ _ _ _ _ _ us hl => match us, hl with | [_, _, _], _ => rfl
  have F28 := fun_mk (st := s__law_graph) l28 c28_ k28
  have b28 := F28.binds (ps := ["dice"]) fun _ _ _ _ _ _ us hl => match us, hl with | [_], _ => rfl
  have F29 := fun_mk (st := s__law_names) l29 c29_ k29
  have b29 := F29.binds (ps := ["graph"]) fun _ _ _ _ _ _ us hl => match us, hl with | [_], _ => rfl
  have F30 := fun_mk (st := s__law_next_blocks) l30 c30_ k30
  have b30 := F30.binds (ps := ["graph", "number"]) fun _ _ _ _ _ _ us hl => match us, hl with | [_, _], _ => rfl
  have F31 := fun_mk (st := s__law_live) l31 c31_ k31
  have b31 := F31.binds (ps := ["graph", "name", "number", "place"]) fun _ _ _ _ _ _ us hl => match us, hl with | [_, _, _, _], _ => rfl
  have F32 := fun_mk (st := s_law) l32 c32_ k32
  have b32 := F32.binds (ps := ["script"]) fun _ _ _ _ _ _ us hl => match us, hl with | [_], _ => rfl
  letI τ : Tbl := ⟨[]⟩
  refine ⟨PySem.W.fnOf "law" "law" (defArgs s_law) (defBody s_law) (defScope s_law) .none kV32 dc32 pm32 an32 cd32 ct32, [], upSp K spLaw, fun p hp => (by cases hp), fun p hp => (by cases hp), fun p hp => (by cases hp), fun s u => .of_eq rfl, ?_, fun base KB NB TB => ?_⟩
  · intro H a ns hl hb hH hS
    exact law_start hb hl hS
  · have D_names_in : Dfn l.prog w K mg base "names_in" 1 ["atoms"] (spNamesIn) := ⟨f0, _, PySem.W.mg_of X G a0, k0, b0, ok_NamesIn F0 T⟩
    have D_without : Dfn l.prog w K mg base "without" 1 ["names", "gone"] (spWithout) := ⟨f1, _, PySem.W.mg_of X G a1, k1, b1, ok_Without F1 T⟩
    have D_united : Dfn l.prog w K mg base "united" 1 ["names", "more"] (spUnited) := ⟨f2, _, PySem.W.mg_of X G a2, k2, b2, ok_United F2 T⟩
    have D_operation_atoms : Dfn l.prog w K mg base "operation_atoms" 1 ["operation"] (spOpAtoms) := ⟨f3, _, PySem.W.mg_of X G a3, k3, b3, ok_OpAtoms F3 T⟩
    have D_flat_atoms : Dfn l.prog w K mg base "flat_atoms" 2 ["operation"] (spFlat) := ⟨f4, _, PySem.W.mg_of X G a4, k4, b4, ok_Flat F4 T D_operation_atoms⟩
    have D_end_atoms : Dfn l.prog w K mg base "end_atoms" 1 ["end"] (spEndAtoms) := ⟨f5, _, PySem.W.mg_of X G a5, k5, b5, ok_EndAtoms F5 T⟩
    have D_successors : Dfn l.prog w K mg base "successors" 1 ["end"] (spSucc) := ⟨f6, _, PySem.W.mg_of X G a6, k6, b6, ok_Succ F6 T⟩
    have D_Block___init__ : Ini l.prog w K mg base CB 1 ["self", "params", "rows", "end"] ((spBlockI CB)) := ⟨f7, _, ⟨mkCB, a7, i7, kcCB⟩, b7, ok_BlockI F7 T⟩
    have D_Graph___init__ : Ini l.prog w K mg base CG 1 ["self", "label", "params", "captured", "blocks"] ((spGraphI CG)) := ⟨f8, _, ⟨mkCG, a8, i8, kcCG⟩, b8, ok_GraphI F8 T⟩
    have D_check_names : Dfn l.prog w K mg base "check_names" 1 ["atoms", "names"] (spCheckNames) := ⟨f9, _, PySem.W.mg_of X G a9, k9, b9, ok_CheckNames F9 T⟩
    have D_check_block : Dfn l.prog w K mg base "check_block" 3 ["block", "graph", "names"] ((spCheckBlock CB CG)) := ⟨f10, _, PySem.W.mg_of X G a10, k10, b10, ok_CheckBlock F10 T D_check_names D_flat_atoms D_end_atoms D_successors⟩
    have D_check_graph : Dfn l.prog w K mg base "check_graph" 4 ["graph"] ((spCheckGraph CB CG)) := ⟨f11, _, PySem.W.mg_of X G a11, k11, b11, ok_CheckGraph F11 T D_check_block⟩
    have D_live_before : Dfn l.prog w K mg base "live_before" 3 ["block", "after"] ((spLiveBefore CB)) := ⟨f12, _, PySem.W.mg_of X G a12, k12, b12, ok_LiveBefore F12 T D_united D_without D_names_in D_flat_atoms D_end_atoms⟩
    have D_live_after : Dfn l.prog w K mg base "live_after" 2 ["graph", "found", "block"] ((spLiveAfter CB CG)) := ⟨f13, _, PySem.W.mg_of X G a13, k13, b13, ok_LiveAfter F13 T D_united D_successors⟩
    have D_live_rows : Dfn l.prog w K mg base "live_rows" 3 ["graph", "found", "block"] ((spLiveRows CB CG)) := ⟨f14, _, PySem.W.mg_of X G a14, k14, b14, ok_LiveRows F14 T D_united D_without D_names_in D_flat_atoms D_end_atoms D_live_after⟩
    have D_live_ins : Dfn l.prog w K mg base "live_ins" 4 ["graph"] ((spLiveIns CB CG)) := ⟨f15, _, PySem.W.mg_of X G a15, k15, b15, ok_LiveIns F15 T D_without D_live_before D_live_after⟩
    have D_join_one : Dfn l.prog w K mg base "join_one" 1 ["table", "name", "others"] (spJoinOne) := ⟨f16, _, PySem.W.mg_of X G a16, k16, b16, ok_JoinOne F16 T⟩
    have D_join_all : Dfn l.prog w K mg base "join_all" 2 ["table", "names"] (spJoinAll) := ⟨f17, _, PySem.W.mg_of X G a17, k17, b17, ok_JoinAll F17 T D_join_one⟩
    have D_interference : Dfn l.prog w K mg base "interference" 5 ["graph"] ((spInterf CB CG)) := ⟨f18, _, PySem.W.mg_of X G a18, k18, b18, ok_Interf F18 T D_united D_live_ins D_live_before D_live_after D_live_rows D_join_one D_join_all⟩
    have D_reached_blocks : Dfn l.prog w K mg base "reached_blocks" 2 ["graph"] ((spReached CB CG)) := ⟨f19, _, PySem.W.mg_of X G a19, k19, b19, ok_Reached F19 T D_successors⟩
    have D_predecessors : Dfn l.prog w K mg base "predecessors" 2 ["graph"] ((spPreds CB CG)) := ⟨f20, _, PySem.W.mg_of X G a20, k20, b20, ok_Preds F20 T D_successors⟩
    have D__law_dice : Dfn l.prog w K mg base "_law_dice" 1 ["cell"] (spDice) := ⟨f21, _, PySem.W.mg_of X G a21, k21, b21, ok_Dice F21 T⟩
    have D__law_roll : Dfn l.prog w K mg base "_law_roll" 1 ["dice", "many"] (spRoll) := ⟨f22, _, PySem.W.mg_of X G a22, k22, b22, ok_Roll F22 T⟩
    have D__law_rounds : Dfn l.prog w K mg base "_law_rounds" 2 ["script", "most"] (spRounds) := ⟨f23, _, PySem.W.mg_of X G a23, k23, b23, ok_Rounds F23 T D__law_dice⟩
    have D__law_next : Dfn l.prog w K mg base "_law_next" 1 ["made"] (spNext) := ⟨f24, _, PySem.W.mg_of X G a24, k24, b24, ok_Next F24 T⟩
    have D__law_some : Dfn l.prog w K mg base "_law_some" 2 ["dice", "here"] (spSome) := ⟨f25, _, PySem.W.mg_of X G a25, k25, b25, ok_Some F25 T D__law_roll⟩
    have D__law_row : Dfn l.prog w K mg base "_law_row" 3 ["dice", "here"] (spRow) := ⟨f26, _, PySem.W.mg_of X G a26, k26, b26, ok_Row F26 T D__law_roll D__law_some⟩
    have D__law_end : Dfn l.prog w K mg base "_law_end" 3 ["dice", "here", "arities"] (spEnd) := ⟨f27, _, PySem.W.mg_of X G a27, k27, b27, ok_End F27 T D__law_roll D__law_some⟩
    have D__law_graph : Dfn l.prog w K mg base "_law_graph" 4 ["dice"] ((spGraph CB CG)) := ⟨f28, _, PySem.W.mg_of X G a28, k28, b28, ok_Graph F28 T D__law_roll D__law_next D__law_row D__law_end D_Block___init__ D_Graph___init__⟩
    have D__law_names : Dfn l.prog w K mg base "_law_names" 1 ["graph"] ((spNames CB CG)) := ⟨f29, _, PySem.W.mg_of X G a29, k29, b29, ok_Names F29 T⟩
    have D__law_next_blocks : Dfn l.prog w K mg base "_law_next_blocks" 1 ["graph", "number"] ((spNextB CB CG)) := ⟨f30, _, PySem.W.mg_of X G a30, k30, b30, ok_NextB F30 T⟩
    have D__law_live : Dfn l.prog w K mg base "_law_live" 3 ["graph", "name", "number", "place"] ((spLive CB CG)) := ⟨f31, _, PySem.W.mg_of X G a31, k31, b31, ok_Live F31 T D_flat_atoms D_end_atoms D__law_next_blocks⟩
    exact ok_Law F32 T D_check_graph D_live_ins D_live_rows D_live_after D_live_before D_interference D_predecessors D_reached_blocks D_join_all D_join_one D_united D_without D_names_in D__law_rounds D__law_graph D__law_names D__law_live D__law_next_blocks
end K24

namespace K24
open PySem PySem.Spec PyProof.Rows L2 Z
theorem cx_no {P : Program} {w : World} {H : Hp} {s : Shared} {e : Value} {s' : Shared} (h : L2.CX P w [] H s (fun _ _ _ => False) e s') : False := by
  obtain ⟨_, _, _, _, _, _, _, _, _, _, _, _, z⟩ := h
  exact z
end K24
open PySem PySem.W PyProof.Rows
set_option maxRecDepth 100000 in
set_option maxHeartbeats 0 in
theorem PySem.Challenge.cw_tonguestack_k24_what_is_live_where_holds : PySem.Challenge.rw_tonguestack_k24_what_is_live_where.Holds := by
  w_on; o_law; k_head; (case hw => w_witness2)
  k_fill
  refine LamX.walk_ofTs (l := PySem.Challenge.rw_tonguestack_k24_what_is_live_where) (n := 63) (k := 6) (x := "script") (CX := fun w => L2.CX PySem.Challenge.rw_tonguestack_k24_what_is_live_where.prog w) rfl (by decide) rfl ⟨rfl, by decide, by decide⟩ (fun w h Y => by first | exact PySem.W.kIn_of Y | exact PySem.W.km_in_of Y) ?F (fun _ _ _ _ _ h => K24.cx_no h)
  case F =>
    intro w mg fa h _ KX G hmg
    refine' K24.all_mk KX G hmg ?a0 ?l0 ?c0_ ?k0 ?a1 ?l1 ?c1_ ?k1 ?a2 ?l2 ?c2_ ?k2 ?a3 ?l3 ?c3_ ?k3 ?a4 ?l4 ?c4_ ?k4 ?a5 ?l5 ?c5_ ?k5 ?a6 ?l6 ?c6_ ?k6 ?a7 ?i7 ?l7 ?c7_ ?k7 ?a8 ?i8 ?l8 ?c8_ ?k8 ?a9 ?l9 ?c9_ ?k9 ?a10 ?l10 ?c10_ ?k10 ?a11 ?l11 ?c11_ ?k11 ?a12 ?l12 ?c12_ ?k12 ?a13 ?l13 ?c13_ ?k13 ?a14 ?l14 ?c14_ ?k14 ?a15 ?l15 ?c15_ ?k15 ?a16 ?l16 ?c16_ ?k16 ?a17 ?l17 ?c17_ ?k17 ?a18 ?l18 ?c18_ ?k18 ?a19 ?l19 ?c19_ ?k19 ?a20 ?l20 ?c20_ ?k20 ?a21 ?l21 ?c21_ ?k21 ?a22 ?l22 ?c22_ ?k22 ?a23 ?l23 ?c23_ ?k23 ?a24 ?l24 ?c24_ ?k24 ?a25 ?l25 ?c25_ ?k25 ?a26 ?l26 ?c26_ ?k26 ?a27 ?l27 ?c27_ ?k27 ?a28 ?l28 ?c28_ ?k28 ?a29 ?l29 ?c29_ ?k29 ?a30 ?l30 ?c30_ ?k30 ?a31 ?l31 ?c31_ ?k31 ?a32 ?l32 ?c32_ ?k32 ?gCB ?gCG ?mkCB ?kcCB ?mkCG ?kcCG ?pgCB ?hdCB ?poCB ?saCB ?pgCG ?hdCG ?poCG ?saCG ?n_Block_params ?n_Block_rows ?n_Block_end ?n_Graph_label ?n_Graph_params ?n_Graph_captured ?n_Graph_blocks ?g_ARITIES ?qd_ARITIES ?rd_ARITIES ?sd_ARITIES ?i_print ?i_atom ?z_len ?z_range ?z_int ?z_abs ?z_list ?z_tuple ?z_sorted ?z_min ?z_dict ?z_enumerate
    (case gCB => k_is)
    (case gCG => k_is)
    (case g_ARITIES => k_is)
    (case qd_ARITIES => k_is)
    (case a0 => k_is)
    (case l0 => k_is)
    (case c0_ => k_is)
    (case k0 => k_is)
    (case a1 => k_is)
    (case l1 => k_is)
    (case c1_ => k_is)
    (case k1 => k_is)
    (case a2 => k_is)
    (case l2 => k_is)
    (case c2_ => k_is)
    (case k2 => k_is)
    (case a3 => k_is)
    (case l3 => k_is)
    (case c3_ => k_is)
    (case k3 => k_is)
    (case a4 => k_is)
    (case l4 => k_is)
    (case c4_ => k_is)
    (case k4 => k_is)
    (case a5 => k_is)
    (case l5 => k_is)
    (case c5_ => k_is)
    (case k5 => k_is)
    (case a6 => k_is)
    (case l6 => k_is)
    (case c6_ => k_is)
    (case k6 => k_is)
    (case a7 => k_is)
    (case i7 => k_is)
    (case l7 => k_is)
    (case c7_ => k_is)
    (case k7 => k_is)
    (case a8 => k_is)
    (case i8 => k_is)
    (case l8 => k_is)
    (case c8_ => k_is)
    (case k8 => k_is)
    (case a9 => k_is)
    (case l9 => k_is)
    (case c9_ => k_is)
    (case k9 => k_is)
    (case a10 => k_is)
    (case l10 => k_is)
    (case c10_ => k_is)
    (case k10 => k_is)
    (case a11 => k_is)
    (case l11 => k_is)
    (case c11_ => k_is)
    (case k11 => k_is)
    (case a12 => k_is)
    (case l12 => k_is)
    (case c12_ => k_is)
    (case k12 => k_is)
    (case a13 => k_is)
    (case l13 => k_is)
    (case c13_ => k_is)
    (case k13 => k_is)
    (case a14 => k_is)
    (case l14 => k_is)
    (case c14_ => k_is)
    (case k14 => k_is)
    (case a15 => k_is)
    (case l15 => k_is)
    (case c15_ => k_is)
    (case k15 => k_is)
    (case a16 => k_is)
    (case l16 => k_is)
    (case c16_ => k_is)
    (case k16 => k_is)
    (case a17 => k_is)
    (case l17 => k_is)
    (case c17_ => k_is)
    (case k17 => k_is)
    (case a18 => k_is)
    (case l18 => k_is)
    (case c18_ => k_is)
    (case k18 => k_is)
    (case a19 => k_is)
    (case l19 => k_is)
    (case c19_ => k_is)
    (case k19 => k_is)
    (case a20 => k_is)
    (case l20 => k_is)
    (case c20_ => k_is)
    (case k20 => k_is)
    (case a21 => k_is)
    (case l21 => k_is)
    (case c21_ => k_is)
    (case k21 => k_is)
    (case a22 => k_is)
    (case l22 => k_is)
    (case c22_ => k_is)
    (case k22 => k_is)
    (case a23 => k_is)
    (case l23 => k_is)
    (case c23_ => k_is)
    (case k23 => k_is)
    (case a24 => k_is)
    (case l24 => k_is)
    (case c24_ => k_is)
    (case k24 => k_is)
    (case a25 => k_is)
    (case l25 => k_is)
    (case c25_ => k_is)
    (case k25 => k_is)
    (case a26 => k_is)
    (case l26 => k_is)
    (case c26_ => k_is)
    (case k26 => k_is)
    (case a27 => k_is)
    (case l27 => k_is)
    (case c27_ => k_is)
    (case k27 => k_is)
    (case a28 => k_is)
    (case l28 => k_is)
    (case c28_ => k_is)
    (case k28 => k_is)
    (case a29 => k_is)
    (case l29 => k_is)
    (case c29_ => k_is)
    (case k29 => k_is)
    (case a30 => k_is)
    (case l30 => k_is)
    (case c30_ => k_is)
    (case k30 => k_is)
    (case a31 => k_is)
    (case l31 => k_is)
    (case c31_ => k_is)
    (case k31 => k_is)
    (case a32 => k_is)
    (case l32 => k_is)
    (case c32_ => k_is)
    (case k32 => k_is)
    (case mkCB => k_is)
    (case kcCB => k_is)
    (case mkCG => k_is)
    (case kcCG => k_is)
    (case pgCB => k_is)
    (case hdCB => k_is)
    (case poCB => k_is)
    (case saCB => k_is)
    (case pgCG => k_is)
    (case hdCG => k_is)
    (case poCG => k_is)
    (case saCG => k_is)
    (case n_Block_params => k_is)
    (case n_Block_rows => k_is)
    (case n_Block_end => k_is)
    (case n_Graph_label => k_is)
    (case n_Graph_params => k_is)
    (case n_Graph_captured => k_is)
    (case n_Graph_blocks => k_is)
    (case rd_ARITIES => exact ⟨⟨_, _, rfl, rfl⟩, ⟨_, _, rfl, rfl⟩, ⟨_, _, rfl, rfl⟩, ⟨_, _, rfl, rfl⟩, ⟨_, _, rfl, rfl⟩, ⟨_, _, rfl, rfl⟩, ⟨_, _, rfl, rfl⟩, trivial⟩)
    (case sd_ARITIES => first | rfl | decide)
    (case i_print => k_is)
    (case i_atom => k_is)
    (case z_len => k_is)
    (case z_range => k_is)
    (case z_int => k_is)
    (case z_abs => k_is)
    (case z_list => k_is)
    (case z_tuple => k_is)
    (case z_sorted => k_is)
    (case z_min => k_is)
    (case z_dict => k_is)
    (case z_enumerate => k_is)

