import PyProof.Rows.All
import Wide.All
import OpenK.AllK
import Wide.FinOn
import HandS.ForMost
import HandS.Deep
import HandS.Lambda
import HandS.ForExc
import HandS.AnyAll
import KE.DatumOrd
import KE.KDictPairs
import HandS.More
import HandS.FStr
import HandS.RaiseMore
import PyProof.StrBlock2
import HandS.TryMany
import HandS.Style
import HandS.SortInts
import HandS.SetKeys
import HandS.TupAny
import HandS.DeepEq
import PyProof.P3In
import KE.GoesEnum
import HandS.Zip
import HandS.Conv
import HandS.GenList
import KE.KDictZip
import HandS.ExcValue
import HandS.EndTab
import HandS.Head0
import HandS.Head1
import HandS.Head2
import HandS.HeadEnd
import HandS.HeadHook4
import PySem.Challenge.RW_tonguestack_k05_kinds_made_alike
set_option Elab.async false
set_option linter.all false
set_option maxRecDepth 100000
set_option maxHeartbeats 4000000
namespace Z
open PySem PySem.Spec PyProof.Rows L2

/-! ### data: tuples by what they hold, what changes by its address -/
inductive D where
  | non
  | bl (b : Bool)
  | int (i : Int)
  | str (x : Str)
  | ty (n : String)
  | ref (a : Addr)
  | tup (ds : List D)
  | ct (ds : List D)
  | cl (ds : List D)

def TqT (K : PySem.W.Frag) (H : Hp) (a : Addr) (xs : List V) : Prop := H a = some (.tup xs)
def CqT (K : PySem.W.Frag) (a : Addr) (xs : List V) : Prop :=
  ∃ (o : Obj) (its : Array Value) (n : Nat), K.lookup a = some o ∧ o.cls = .type "tuple" ∧ o.data = .seq its n ∧ its.size ≤ sizeLine ∧ Vals xs its.toList
def CqL (K : PySem.W.Frag) (H : Hp) (a : Addr) (xs : List V) : Prop :=
  (∃ o, H a = some (.frz o (.lst xs))) ∨ ∃ (o : Obj) (its : Array Value) (n : Nat), K.lookup a = some o ∧ o.cls = .type "list" ∧ o.dict = none ∧ o.data = .seq its n ∧ its.size ≤ sizeLine ∧ Vals xs its.toList
theorem TqT.sq {K : PySem.W.Frag} {H : Hp} {a : Addr} {xs : List V} (h : TqT K H a xs) : SqT K H a xs := .inl (.inl h)
theorem CqT.sq {K : PySem.W.Frag} {H : Hp} {a : Addr} {xs : List V} (h : CqT K a xs) : SqT K H a xs := .inr h
theorem CqL.sq {K : PySem.W.Frag} {H : Hp} {a : Addr} {xs : List V} (h : CqL K H a xs) : SqL K H a xs := by
  rcases h with h | h
  · exact .inl (.inr h)
  · exact .inr h

mutual
inductive Rep (K : PySem.W.Frag) (H : Hp) : V → D → Prop
  | non : Rep K H .non .non
  | bl (b : Bool) : Rep K H (.bl b) (.bl b)
  | int (i : Int) : Rep K H (.int i) (.int i)
  | str (x : Str) : Rep K H (.str x) (.str x)
  | ty (n : String) : Rep K H (.ty n) (.ty n)
  | ref (a : Addr) : Rep K H (.ref a) (.ref a)
  | tup {a : Addr} {xs : List V} {ds : List D} : TqT K H a xs → Reps K H xs ds → Rep K H (.ref a) (.tup ds)
  | ct {a : Addr} {xs : List V} {ds : List D} : CqT K a xs → Reps K H xs ds → Rep K H (.ref a) (.ct ds)
  | cl {a : Addr} {xs : List V} {ds : List D} : CqL K H a xs → Reps K H xs ds → Rep K H (.ref a) (.cl ds)
inductive Reps (K : PySem.W.Frag) (H : Hp) : List V → List D → Prop
  | nil : Reps K H [] []
  | cons {v : V} {vs : List V} {d : D} {ds : List D} : Rep K H v d → Reps K H vs ds → Reps K H (v :: vs) (d :: ds)
end

def sta : HO → Prop
  | .tup _ => True
  | .frz _ (.lst _) => True
  | .ext _ => True
  | _ => False
def Tm (H H' : Hp) : Prop := ∀ a o, H a = some o → sta o → H' a = some o
theorem Tm.refl (H : Hp) : Tm H H := fun _ _ h _ => h
theorem Tm.trans {H H1 H2 : Hp} (a : Tm H H1) (b : Tm H1 H2) : Tm H H2 := fun x o h s => b x o (a x o h s) s
theorem Tm.tq {K : PySem.W.Frag} {H H' : Hp} {a : Addr} {xs : List V} (t : Tm H H') (h : TqT K H a xs) : TqT K H' a xs := t _ _ h trivial
theorem Tm.cq {K : PySem.W.Frag} {H H' : Hp} {a : Addr} {xs : List V} (t : Tm H H') (h : CqL K H a xs) : CqL K H' a xs := by
  rcases h with ⟨o, h⟩ | h
  · exact .inl ⟨o, t _ _ h trivial⟩
  · exact .inr h
mutual
theorem Rep.mono {K : PySem.W.Frag} {H H' : Hp} (t : Tm H H') : ∀ {d : D} {v : V}, Rep K H v d → Rep K H' v d
  | .non, _, .non => .non
  | .bl b, _, .bl _ => .bl b
  | .int b, _, .int _ => .int b
  | .str b, _, .str _ => .str b
  | .ty b, _, .ty _ => .ty b
  | .ref b, _, .ref _ => .ref b
  | .tup ds, _, .tup h r => .tup (t.tq h) (Reps.mono t r)
  | .ct ds, _, .ct h r => .ct h (Reps.mono t r)
  | .cl ds, _, .cl h r => .cl (t.cq h) (Reps.mono t r)
theorem Reps.mono {K : PySem.W.Frag} {H H' : Hp} (t : Tm H H') : ∀ {ds : List D} {vs : List V}, Reps K H vs ds → Reps K H' vs ds
  | [], _, .nil => .nil
  | _ :: _, _, .cons h r => .cons (Rep.mono t h) (Reps.mono t r)
end
section
variable {K : PySem.W.Frag} {H : Hp}
theorem Reps.length : ∀ {ds : List D} {vs : List V}, Reps K H vs ds → vs.length = ds.length
  | [], _, .nil => rfl
  | _ :: _, _, .cons _ r => by rw [List.length_cons, List.length_cons, r.length]
theorem Reps.append : ∀ {ds es : List D} {vs ws : List V}, Reps K H vs ds → Reps K H ws es → Reps K H (vs ++ ws) (ds ++ es)
  | [], _, _, _, .nil, s => s
  | _ :: _, _, _, _, .cons h r, s => .cons h (r.append s)
theorem Reps.get : ∀ {ds : List D} {vs : List V} {i : Nat} {d : D}, Reps K H vs ds → ds[i]? = some d → ∃ v, vs[i]? = some v ∧ Rep K H v d
  | _ :: _, _, 0, _, .cons h _, e => by
    cases e
    exact ⟨_, rfl, h⟩
  | _ :: _, _, i + 1, _, .cons _ r, e => by
    obtain ⟨v, h1, h2⟩ := Reps.get (i := i) r (by simpa using e)
    exact ⟨v, by simpa using h1, h2⟩
theorem Reps.set : ∀ {ds : List D} {vs : List V} (i : Nat) {v : V} {d : D}, Reps K H vs ds → Rep K H v d → Reps K H (vs.set i v) (ds.set i d)
  | [], _, _, _, _, .nil, _ => .nil
  | _ :: _, _, 0, _, _, .cons _ r, h => .cons h r
  | _ :: _, _, i + 1, _, _, .cons q r, h => .cons q (r.set i h)
theorem Reps.take : ∀ {ds : List D} {vs : List V} (n : Nat), Reps K H vs ds → Reps K H (vs.take n) (ds.take n)
  | _, _, 0, _ => by simpa using Reps.nil
  | [], _, _ + 1, .nil => .nil
  | _ :: _, _, n + 1, .cons h r => .cons h (r.take n)
theorem Reps.drop : ∀ {ds : List D} {vs : List V} (n : Nat), Reps K H vs ds → Reps K H (vs.drop n) (ds.drop n)
  | _, _, 0, r => r
  | [], _, _ + 1, .nil => .nil
  | _ :: _, _, n + 1, .cons _ r => r.drop n
theorem Reps.ints : ∀ ns : List Int, Reps K H (ns.map V.int) (ns.map D.int)
  | [] => .nil
  | n :: ns => .cons (.int n) (Reps.ints ns)
theorem Reps.of_ints : ∀ {ns : List Int} {vs : List V}, Reps K H vs (ns.map D.int) → vs = ns.map V.int
  | [], _, .nil => rfl
  | _ :: _, _, .cons (.int _) r => by rw [List.map_cons, Reps.of_ints r]
theorem Reps.dropLast {ds : List D} {vs : List V} (r : Reps K H vs ds) : Reps K H vs.dropLast ds.dropLast := by
  rw [List.dropLast_eq_take, List.dropLast_eq_take, r.length]
  exact r.take _
theorem Reps.reverse : ∀ {ds : List D} {vs : List V}, Reps K H vs ds → Reps K H vs.reverse ds.reverse
  | [], _, .nil => .nil
  | _ :: _, _, .cons h r => by
    rw [List.reverse_cons, List.reverse_cons]
    exact r.reverse.append (.cons h .nil)
end

/-! ### the heap of what changes -/
inductive MO where
  | lst (ds : List D)
  | dk (kvs : List (Key × D))
  | dt (kvs : List (List Key × D))
  | ldk (o : Obj) (xs : List (Key × V)) (kvs : List (Key × D))
  | ldt (o : Obj) (xs : List (List Key × V)) (kvs : List (List Key × D))
  | obj (C dx : Addr) (fs : List (Str × D))
abbrev Gp := Addr → Option MO
def put (G : Gp) (a : Addr) (m : MO) : Gp := fun b => if b = a then some m else G b
theorem put_same {G : Gp} {a : Addr} {m : MO} : put G a m a = some m := by unfold put; rw [if_pos rfl]
theorem put_ne {G : Gp} {a b : Addr} {m : MO} (h : b ≠ a) : put G a m b = G b := by unfold put; rw [if_neg h]
/-- pairs of a key and a value -/
inductive RepKV {κ : Type} (K : PySem.W.Frag) (H : Hp) : List (κ × V) → List (κ × D) → Prop
  | nil : RepKV K H [] []
  | cons {k : κ} {v : V} {d : D} {vs : List (κ × V)} {ds : List (κ × D)} : Rep K H v d → RepKV K H vs ds → RepKV K H ((k, v) :: vs) ((k, d) :: ds)
theorem RepKV.mono {κ : Type} {K : PySem.W.Frag} {H H' : Hp} (t : Tm H H') : ∀ {ds : List (κ × D)} {vs : List (κ × V)}, RepKV K H vs ds → RepKV K H' vs ds
  | [], _, .nil => .nil
  | _ :: _, _, .cons h r => .cons (h.mono t) (r.mono t)
def RepO (K : PySem.W.Frag) (H : Hp) (a : Addr) : MO → Prop
  | .lst ds => ∃ xs, H a = some (.lst xs) ∧ Reps K H xs ds
  | .dk kvs => ∃ xs, H a = some (.dK xs) ∧ RepKV K H xs kvs
  | .dt kvs => ∃ xs, H a = some (.dT xs) ∧ RepKV K H xs kvs
  | .ldk o xs kvs => H a = some (.frz o (.dK xs)) ∧ RepKV K H xs kvs
  | .ldt o xs kvs => H a = some (.frz o (.dT xs)) ∧ RepKV K H xs kvs
  | .obj C dx fs => ∃ xs, H a = some (.ins C dx xs) ∧ RepKV K H xs fs
/-- the tables of code objects of the law's defs that make lambdas -/
class Tbl where
  T : List (Addr × Str)
def Fr (H : Hp) (G : Gp) (H' : Hp) (G' : Gp) : Prop := ∀ b o, H b = some o → G b = none → (∀ ps, o ≠ .tbl ps) → H' b = some o ∧ G' b = none
theorem Fr.refl (H : Hp) (G : Gp) : Fr H G H G := fun _ _ h g _ => ⟨h, g⟩
theorem Fr.trans {H H1 H2 : Hp} {G G1 G2 : Gp} (a : Fr H G H1 G1) (b : Fr H1 G1 H2 G2) : Fr H G H2 G2 := fun x o h g n =>
  let ⟨h1, g1⟩ := a x o h g n
  b x o h1 g1 n
/-- what stands since a def was entered -/
class Bas where
  B : Hp → Gp → Prop
  keep : ∀ {H G H' G'}, B H G → Fr H G H' G' → B H' G'
@[reducible] def noBas : Bas := ⟨fun _ _ => True, fun _ _ => True.intro⟩
@[reducible] def frBas (H0 : Hp) (G0 : Gp) : Bas := ⟨fun H G => Fr H0 G0 H G, fun a b => a.trans b⟩
structure Sim0 [τ : Tbl] (K : PySem.W.Frag) (H : Hp) (G : Gp) : Prop where
  at_ : ∀ a m, G a = some m → RepO K H a m
  tabs : LamX.Tabs τ.T H
  apart : ∀ p ∈ τ.T, G p.1 = none
structure SimG [τ : Tbl] [β : Bas] (K : PySem.W.Frag) (H : Hp) (G : Gp) : Prop extends Sim0 K H G where
  base : β.B H G
instance [Tbl] [Bas] {K : PySem.W.Frag} {H : Hp} {G : Gp} : CoeFun (SimG K H G) (fun _ => ∀ a m, G a = some m → RepO K H a m) := ⟨fun s => s.at_⟩
theorem RepO.there {K : PySem.W.Frag} {H : Hp} {a : Addr} : ∀ {m : MO}, RepO K H a m → ∃ o, H a = some o ∧ ¬ sta o
  | .lst _, ⟨_, h, _⟩ => ⟨_, h, fun z => z⟩
  | .dk _, ⟨_, h, _⟩ => ⟨_, h, fun z => z⟩
  | .dt _, ⟨_, h, _⟩ => ⟨_, h, fun z => z⟩
  | .ldk _ _ _, ⟨h, _⟩ => ⟨_, h, fun z => z⟩
  | .ldt _ _ _, ⟨h, _⟩ => ⟨_, h, fun z => z⟩
  | .obj _ _ _, ⟨_, h, _⟩ => ⟨_, h, fun z => z⟩
section
variable [τ : Tbl] [β : Bas] {K : PySem.W.Frag} {H H' : Hp} {G G' : Gp}
theorem SimG.next (s : SimG K H G) (f : Fr H G H' G') (g : Sim0 K H' G') : SimG K H' G' := { g with base := β.keep s.base f }
theorem Sim0.none {p : Addr} (s : Sim0 K H G) (h : H p = none) : G p = none := by
  cases e : G p with
  | none => rfl
  | some m =>
    obtain ⟨o, ho, _⟩ := (s.at_ p m e).there
    rw [h] at ho
    cases ho
theorem SimG.none {p : Addr} (s : SimG K H G) (h : H p = none) : G p = none := s.toSim0.none h
theorem Sim0.tm (s : Sim0 K H G) (f : Fr H G H' G') : Tm H H' := fun a o h st => by
  cases e : G a with
  | none => exact (f a o h e (fun ps z => by rw [z] at st; exact st)).1
  | some m =>
    obtain ⟨o', ho, ns⟩ := (s.at_ a m e).there
    rw [h] at ho
    cases ho
    exact absurd st ns
theorem SimG.tm (s : SimG K H G) (f : Fr H G H' G') : Tm H H' := s.toSim0.tm f
end
theorem TabS.tm {H H' : Hp} {P : Addr} {q : Str} (t : LamX.TabS H P q) (m : Tm H H') (e : H' P = H P) : LamX.TabS H' P q := by
  obtain ⟨ps, h1, h2, h3⟩ := t
  refine ⟨ps, e.trans h1, h2, fun pos cv hc => ?_⟩
  obtain ⟨c, e1, e2⟩ := h3 pos cv hc
  exact ⟨c, e1, m c _ e2 True.intro⟩
theorem RepO.mono {K : PySem.W.Frag} {H H' : Hp} {a : Addr} (t : Tm H H') (e : H' a = H a) : ∀ {m : MO}, RepO K H a m → RepO K H' a m
  | .lst _, ⟨_, h, r⟩ => ⟨_, e.trans h, r.mono t⟩
  | .dk _, ⟨_, h, r⟩ => ⟨_, e.trans h, r.mono t⟩
  | .dt _, ⟨_, h, r⟩ => ⟨_, e.trans h, r.mono t⟩
  | .ldk _ _ _, ⟨h, r⟩ => ⟨e.trans h, r.mono t⟩
  | .ldt _ _ _, ⟨h, r⟩ => ⟨e.trans h, r.mono t⟩
  | .obj _ _ _, ⟨_, h, r⟩ => ⟨_, e.trans h, r.mono t⟩
/-- a tracked object changes, or a new one comes -/
theorem Tm.upd {H : Hp} {a : Addr} {o : HO} (h : ∀ u, H a = some u → ¬ sta u) : Tm H (upd H a o) := fun b u e st => by
  by_cases hb : b = a
  · subst hb
    exact absurd st (h u e)
  · rw [upd_ne hb]
    exact e
theorem Fr.put {H : Hp} {G : Gp} {a : Addr} {o : HO} {m : MO} (h : H a = Option.none ∨ ∃ n, G a = some n) : Fr H G (upd H a o) (put G a m) := fun b u e g _ => by
  have hb : b ≠ a := by
    rintro rfl
    rcases h with h | ⟨n, h⟩
    · rw [h] at e; cases e
    · rw [h] at g; cases g
  rw [upd_ne hb, put_ne hb]
  exact ⟨e, g⟩
/-- a new tuple: nothing that changes is new -/
theorem Fr.tup {H : Hp} {G : Gp} {a : Addr} {o : HO} (h : H a = Option.none) : Fr H G (upd H a o) G := fun b u e g _ => by
  have hb : b ≠ a := by
    rintro rfl
    rw [h] at e; cases e
  rw [upd_ne hb]
  exact ⟨e, g⟩
section
variable [τ : Tbl] [β : Bas] {K : PySem.W.Frag} {H H' : Hp} {G G' : Gp} {a : Addr} {o : HO} {m : MO}
theorem SimG.put (s : SimG K H G) (h : H a = Option.none ∨ ∃ n, G a = some n) (t : Tm H (upd H a o)) (new : RepO K (upd H a o) a m) : SimG K (upd H a o) (put G a m) := by
  have tb : ∀ p ∈ τ.T, p.1 ≠ a := fun p hp e => by
    obtain ⟨ps, h1, _⟩ := s.tabs p hp
    rcases h with h | ⟨n, h⟩
    · rw [e, h] at h1; cases h1
    · have := s.apart p hp
      rw [e, h] at this; cases this
  refine ⟨⟨fun b n e => ?_, fun p hp => TabS.tm (s.tabs p hp) t (upd_ne (tb p hp)), fun p hp => by rw [put_ne (tb p hp)]; exact s.apart p hp⟩, β.keep s.base (Fr.put h)⟩
  by_cases hb : b = a
  · subst hb
    rw [put_same] at e
    cases e
    exact new
  · rw [put_ne hb] at e
    exact (s b n e).mono t (upd_ne hb)
theorem SimG.keep (s : SimG K H G) (h : H a = Option.none) : SimG K (upd H a o) G := by
  have t : Tm H (L2.upd H a o) := Tm.upd fun u e => by rw [h] at e; cases e
  have nb : ∀ {b u}, H b = some u → b ≠ a := fun {b u} e z => by rw [z, h] at e; cases e
  refine ⟨⟨fun b n e => ?_, fun p hp => TabS.tm (s.tabs p hp) t (upd_ne (nb (s.tabs p hp).choose_spec.1)), s.apart⟩, β.keep s.base (Fr.tup h)⟩
  obtain ⟨u, hu, _⟩ := (s b n e).there
  exact (s b n e).mono t (upd_ne (nb hu))
end

/-! ### states -/
abbrev ZSt := List (Option D)
def SimS (K : PySem.W.Frag) (H : Hp) (σ : L2.St) (ρ : ZSt) : Prop := σ.length = ρ.length ∧ ∀ (i : Nat) (d : D), ρ[i]? = some (some d) → ∃ v, σ[i]? = some (some v) ∧ Rep K H v d
theorem SimS.mono {K : PySem.W.Frag} {H H' : Hp} {σ : L2.St} {ρ : ZSt} (t : Tm H H') (s : SimS K H σ ρ) : SimS K H' σ ρ := ⟨s.1, fun i d e =>
  let ⟨v, h1, h2⟩ := s.2 i d e
  ⟨v, h1, h2.mono t⟩⟩
theorem SimS.set {K : PySem.W.Frag} {H : Hp} {σ : L2.St} {ρ : ZSt} {i : Nat} {v : V} {d : D} (s : SimS K H σ ρ) (r : Rep K H v d) : SimS K H (σ.set i (some v)) (ρ.set i (some d)) := by
  refine ⟨by rw [List.length_set, List.length_set, s.1], fun j e h => ?_⟩
  by_cases hj : i = j
  · subst hj
    by_cases hl : i < ρ.length
    · rw [List.getElem?_set_self hl] at h
      cases h
      exact ⟨v, List.getElem?_set_self (by rw [s.1]; exact hl), r⟩
    · rw [List.getElem?_eq_none (by rw [List.length_set]; omega)] at h
      cases h
  · rw [List.getElem?_set_ne hj] at h ⊢
    exact s.2 j e h
theorem SimS.unset {K : PySem.W.Frag} {H : Hp} {σ : L2.St} {ρ : ZSt} {i : Nat} (s : SimS K H σ ρ) : SimS K H (σ.set i none) (ρ.set i none) := by
  refine ⟨by rw [List.length_set, List.length_set, s.1], fun j e h => ?_⟩
  by_cases hj : i = j
  · subst hj
    by_cases hl : i < ρ.length
    · rw [List.getElem?_set_self hl] at h
      cases h
    · rw [List.getElem?_eq_none (by rw [List.length_set]; omega)] at h
      cases h
  · rw [List.getElem?_set_ne hj] at h ⊢
    exact s.2 j e h

abbrev DK := D → Gp → Prop
abbrev DE := ZSt → Gp → DK → Prop
abbrev DT := ZSt → Gp → (Bool → Gp → Prop) → Prop
abbrev DA := ZSt → Gp → (List D → Gp → Prop) → Prop
structure ZEnds where
  nx : ZSt → Gp → Prop
  rt : DK
  bk : ZSt → Gp → Prop := fun _ _ => False
  ct : ZSt → Gp → Prop := fun _ _ => False
abbrev DS := ZEnds → ZSt → Gp → Prop

section
variable [τ : Tbl] [β : Bas]
def upE (K : PySem.W.Frag) (t : DE) : TE := fun σ H Q => ∃ ρ G Q0, SimS K H σ ρ ∧ SimG K H G ∧ t ρ G Q0 ∧ ∀ d G' v H', Q0 d G' → Fr H G H' G' → SimG K H' G' → Rep K H' v d → Q v H'
def upT (K : PySem.W.Frag) (t : DT) : TT := fun σ H Q => ∃ ρ G Q0, SimS K H σ ρ ∧ SimG K H G ∧ t ρ G Q0 ∧ ∀ b G' H', Q0 b G' → Fr H G H' G' → SimG K H' G' → Q b H'
def upA (K : PySem.W.Frag) (t : DA) : TA := fun σ H Q => ∃ ρ G Q0, SimS K H σ ρ ∧ SimG K H G ∧ t ρ G Q0 ∧ ∀ ds G' vs H', Q0 ds G' → Fr H G H' G' → SimG K H' G' → Reps K H' vs ds → Q vs H'
def upS (K : PySem.W.Frag) (t : DS) : TS := fun D σ H => ∃ ρ G Z, SimS K H σ ρ ∧ SimG K H G ∧ t Z ρ G ∧
  (∀ ρ' G' σ' H', Z.nx ρ' G' → Fr H G H' G' → SimG K H' G' → SimS K H' σ' ρ' → D.nx σ' H') ∧
  (∀ d G' v H', Z.rt d G' → Fr H G H' G' → SimG K H' G' → Rep K H' v d → D.rt v H') ∧
  (∀ ρ' G' σ' H', Z.bk ρ' G' → Fr H G H' G' → SimG K H' G' → SimS K H' σ' ρ' → D.bk σ' H') ∧
  (∀ ρ' G' σ' H', Z.ct ρ' G' → Fr H G H' G' → SimG K H' G' → SimS K H' σ' ρ' → D.ct σ' H')
def ZE (X : Cx) (e : Expr) (t : DE) : Prop := PE X e (upE X.K t)
def ZT (X : Cx) (e : Expr) (t : DT) : Prop := PT X e (upT X.K t)
def ZW (X : Cx) (e : Expr) (t : DT) : Prop := PW X e (upT X.K t)
def ZA (X : Cx) (es : List Expr) (t : DA) : Prop := PA X es (upA X.K t)
def ZS (X : Cx) (st : Stmt) (t : DS) : Prop := PS X st (upS X.K t)
def ZSs (X : Cx) (st : List Stmt) (t : DS) : Prop := PSs X st (upS X.K t)

end
theorem PEi {X : Cx} {e : Expr} {t t' : TE} (h : PE X e t) (i : ∀ σ H Q, t' σ H Q → t σ H Q) : PE X e t' := ⟨fun pins s σ H Q I q => h.run pins s σ H Q I (i σ H Q q)⟩
theorem PTi {X : Cx} {e : Expr} {t t' : TT} (h : PT X e t) (i : ∀ σ H Q, t' σ H Q → t σ H Q) : PT X e t' := ⟨fun pins s σ H Q I q => h.run pins s σ H Q I (i σ H Q q)⟩
theorem PWi {X : Cx} {e : Expr} {t t' : TT} (h : PW X e t) (i : ∀ σ H Q, t' σ H Q → t σ H Q) : PW X e t' := ⟨fun wh pins s σ H Q I q => h.run wh pins s σ H Q I (i σ H Q q)⟩
theorem PAi {X : Cx} {e : List Expr} {t t' : TA} (h : PA X e t) (i : ∀ σ H Q, t' σ H Q → t σ H Q) : PA X e t' := ⟨fun ps pins s σ H Q I q => h.run ps pins s σ H Q I (i σ H Q q)⟩
theorem PSi {X : Cx} {e : Stmt} {t t' : TS} (h : PS X e t) (i : ∀ D σ H, t' D σ H → t D σ H) : PS X e t' := ⟨fun pins s σ H D I q => h.run pins s σ H D I (i D σ H q)⟩
theorem PSsi {X : Cx} {e : List Stmt} {t t' : TS} (h : PSs X e t) (i : ∀ D σ H, t' D σ H → t D σ H) : PSs X e t' := ⟨fun pins s σ H D I q => h.run pins s σ H D I (i D σ H q)⟩

/-! ### names, constants -/
section
variable [τ : Tbl] [β : Bas] {X : Cx}
def zVar (i : Nat) : DE := fun ρ G Q => match ρ[i]? with
  | some (some d) => Q d G
  | _ => False
def zC (d : D) : DE := fun _ G Q => Q d G
theorem z_var (i : Nat) {x : Str} {pos : Pos} (hN : X.N[i]? = some x := by rfl) (hv : Vis X.env.scope x := by first | exact Or.inl rfl | exact Or.inr (Or.inl rfl) | exact Or.inr (Or.inr rfl)) (hd : (x == ("__debug__" : Str)) = false := by decide)
    (hcd : (x == ("__classdict__" : Str)) = false := by decide) : ZE X (.Name x pos) (zVar i) := PEi (pe_var hN hv hd hcd) fun σ H Q q => by
  obtain ⟨ρ, G, Q0, hs, hg, h, k⟩ := q
  unfold zVar at h
  split at h
  · rename_i d e
    obtain ⟨v, e1, r⟩ := hs.2 i d e
    exact ⟨v, e1, k d G v H h (Fr.refl H G) hg r⟩
  · cases h
theorem up_c {v : V} {d : D} {e : Expr} (h : PE X e (tC v)) (r : ∀ H, Rep X.K H v d) : ZE X e (zC d) := PEi h fun σ H Q q => by
  obtain ⟨ρ, G, Q0, hs, hg, h, k⟩ := q
  exact k d G v H h (Fr.refl H G) hg (r H)
theorem z_int {i j pos} : ZE X (.Constant (.int i) j pos) (zC (.int i)) := up_c pe_int fun _ => .int _
theorem z_bl {i j pos} : ZE X (.Constant (.bool i) j pos) (zC (.bl i)) := up_c pe_bl fun _ => .bl _
theorem z_str {i j pos} : ZE X (.Constant (.str i) j pos) (zC (.str i)) := up_c pe_str fun _ => .str _
theorem z_non {j pos} : ZE X (.Constant .none j pos) (zC .non) := up_c pe_non fun _ => .non
end
end Z

namespace Z
open PySem PySem.Spec PyProof.Rows L2
/-- a heap that is as G but at a -/
structure At (G : Gp) (a : Addr) (m : MO) (G' : Gp) : Prop where
  is : G' a = some m
  other : ∀ b, b ≠ a → G' b = G b
theorem At.put (G : Gp) (a : Addr) (m : MO) : At G a m (put G a m) := ⟨put_same, fun _ h => put_ne h⟩
def Ext (G G' : Gp) : Prop := ∀ b x, G b = some x → G' b = some x
theorem Ext.refl (G : Gp) : Ext G G := fun _ _ h => h
theorem Ext.trans {G G1 G2 : Gp} (a : Ext G G1) (b : Ext G1 G2) : Ext G G2 := fun x m h => b x m (a x m h)
theorem Ext.back {G G1 : Gp} (e : Ext G G1) {p : Addr} (h : G1 p = none) : G p = none := by
  cases q : G p with
  | none => rfl
  | some m =>
    rw [e p m q] at h
    cases h
theorem At.ext {G G' : Gp} {a : Addr} {m : MO} (h : At G a m G') (n : G a = none) : Ext G G' := fun b x e => by
  rw [h.other b (by rintro rfl; rw [n] at e; cases e)]
  exact e
/-- a heap that keeps all of G but what is at a -/
def Exb (a : Addr) (G G' : Gp) : Prop := ∀ b x, b ≠ a → G b = some x → G' b = some x
theorem Exb.refl (a : Addr) (G : Gp) : Exb a G G := fun _ _ _ h => h
theorem Exb.trans {a : Addr} {G G1 G2 : Gp} (x : Exb a G G1) (y : Exb a G1 G2) : Exb a G G2 := fun b m n h => y b m n (x b m n h)
theorem Ext.exb {a : Addr} {G G' : Gp} (e : Ext G G') : Exb a G G' := fun b m _ h => e b m h
theorem At.exb {G G' : Gp} {a : Addr} {m : MO} (h : At G a m G') : Exb a G G' := fun b x n e => by rw [h.other b n]; exact e
variable [τ : Tbl] [β : Bas]

abbrev CK (K : PySem.W.Frag) (H : Hp) (G : Gp) (Q0 : DK) (Q : VK) : Prop := ∀ d G' v H', Q0 d G' → Fr H G H' G' → SimG K H' G' → Rep K H' v d → Q v H'
theorem CK.go {K : PySem.W.Frag} {H H1 : Hp} {G G1 : Gp} {Q0 : DK} {Q : VK} (k : CK K H G Q0 Q) (f : Fr H G H1 G1) : CK K H1 G1 Q0 Q := fun d G' v H' q f' g r => k d G' v H' q (f.trans f') g r
theorem CK.at {K : PySem.W.Frag} {H : Hp} {G : Gp} {Q0 : DK} {Q : VK} (k : CK K H G Q0 Q) {d : D} {v : V} (q : Q0 d G) (g : SimG K H G) (r : Rep K H v d) : Q v H := k d G v H q (Fr.refl H G) g r
/-- a new tuple -/
theorem CK.tup {K : PySem.W.Frag} {H : Hp} {G : Gp} {Q0 : DK} {Q : VK} (k : CK K H G Q0 Q) {p : Addr} {xs : List V} {ds : List D} (hp : H p = none) (q : Q0 (.tup ds) G) (g : SimG K H G) (r : Reps K H xs ds) : Q (.ref p) (upd H p (.tup xs)) :=
  k _ G _ _ q (Fr.tup hp) (g.keep hp) (.tup upd_same (r.mono (Tm.upd fun u e => by rw [hp] at e; cases e)))
theorem tm_new {H : Hp} {p : Addr} {o : HO} (hp : H p = none) : Tm H (upd H p o) := Tm.upd fun u e => by rw [hp] at e; cases e
theorem tm_set {H : Hp} {p : Addr} {o u : HO} (hp : H p = some u) (n : ¬ sta u) : Tm H (upd H p o) := Tm.upd fun w e => by
  rw [hp] at e
  cases e
  exact n
/-- a new changing object -/
theorem CK.new {K : PySem.W.Frag} {H : Hp} {G : Gp} {Q0 : DK} {Q : VK} (k : CK K H G Q0 Q) {p : Addr} {o : HO} {m : MO} (hp : H p = none) (g : SimG K H G) (r : RepO K (upd H p o) p m) (q : ∀ G', G p = none → At G p m G' → Q0 (.ref p) G') : Q (.ref p) (upd H p o) :=
  k _ (put G p m) _ _ (q _ (g.none hp) (At.put G p m)) (Fr.put (.inl hp)) (g.put (.inl hp) (tm_new hp) r) (.ref p)
/-- one that stands changes -/
theorem CK.set {K : PySem.W.Frag} {H : Hp} {G : Gp} {Q0 : DK} {Q : VK} (k : CK K H G Q0 Q) {p : Addr} {o u : HO} {m n : MO} {v : V} {d : D} (hp : H p = some u) (hn : ¬ sta u) (hg : G p = some n) (g : SimG K H G) (r : RepO K (upd H p o) p m)
    (rv : Rep K (upd H p o) v d) (q : ∀ G', At G p m G' → Q0 d G') : Q v (upd H p o) :=
  k _ (put G p m) _ _ (q _ (At.put G p m)) (Fr.put (.inr ⟨n, hg⟩)) (g.put (.inr ⟨n, hg⟩) (tm_set hp hn) r) rv

abbrev Z2 := D → D → Gp → DK → Prop
def upR2 (K : PySem.W.Frag) (z : Z2) : R2 := fun x y H Q => ∃ d e G Q0, SimG K H G ∧ Rep K H x d ∧ Rep K H y e ∧ z d e G Q0 ∧ CK K H G Q0 Q
def ZOp (X : Cx) (f : Value → Value → Sem Value) (z : Z2) : Prop := OpR X f (upR2 X.K z)
def zOp (z : Z2) (ta tb : DE) : DE := fun ρ G Q => ta ρ G fun d G1 => tb ρ G1 fun e G2 => z d e G2 Q
theorem up_op {K : PySem.W.Frag} {z : Z2} {ta tb : DE} {σ : L2.St} {H : Hp} {Q : VK} (q : upE K (zOp z ta tb) σ H Q) : tOp (upR2 K z) (upE K ta) (upE K tb) σ H Q := by
  obtain ⟨ρ, G, Q0, hs, hg, h, k⟩ := q
  exact ⟨ρ, G, _, hs, hg, h, fun d G1 x H1 h1 f1 g1 r1 => ⟨ρ, G1, _, hs.mono (hg.tm f1), g1, h1, fun e G2 y H2 h2 f2 g2 r2 => ⟨d, e, G2, Q0, g2, r1.mono (g1.tm f2), r2, h2, CK.go k (f1.trans f2)⟩⟩⟩
theorem OpRi {X : Cx} {f : Value → Value → Sem Value} {r r' : R2} (h : OpR X f r) (i : ∀ x y H Q, r' x y H Q → r x y H Q) : OpR X f r' := fun pins s σ H x y v u Q I rx ry q => h pins s σ H x y v u Q I rx ry (i x y H Q q)
def zOr (z z' : Z2) : Z2 := fun d e G Q => z d e G Q ∨ z' d e G Q
theorem ZOp.or {X : Cx} {f : Value → Value → Sem Value} {z z' : Z2} (h : ZOp X f z) (h' : ZOp X f z') : ZOp X f (zOr z z') := OpRi (OpR.or h h') fun x y H Q q => by
  obtain ⟨d, e, G, Q0, g, rx, ry, h | h, k⟩ := q
  · exact .inl ⟨d, e, G, Q0, g, rx, ry, h, k⟩
  · exact .inr ⟨d, e, G, Q0, g, rx, ry, h, k⟩

section
variable {X : Cx} {a b : Expr} {ta tb : DE} {pos : Pos}
theorem z_op {op : Operator} {z : Z2} (ho : ZOp X (binaryOp op) z) (ha : ZE X a ta) (hb : ZE X b tb) : ZE X (.BinOp a op b pos) (zOp z ta tb) := PEi (pe_op ho ha hb) fun _ _ _ q => up_op q
theorem z_cmp {op : CmpOp} {z : Z2} (ho : ZOp X (compareOp op) z) (ha : ZE X a ta) (hb : ZE X b tb) (hm : behindInMarks op b = false := by rfl) : ZE X (.Compare a [op] [b] pos) (zOp z ta tb) := PEi (pe_cmpR ho ha hb hm) fun _ _ _ q => up_op q
/-- a value that is a bool, as a test -/
def zTest (t : DE) : DT := fun ρ G Q => t ρ G fun d G1 => match d with
  | .bl b => Q b G1
  | _ => False
theorem up_test {K : PySem.W.Frag} {t : DE} {σ : L2.St} {H : Hp} {Q : Bool → Hp → Prop} (q : upT K (zTest t) σ H Q) : tTest (upE K t) σ H Q := by
  obtain ⟨ρ, G, Q0, hs, hg, h, k⟩ := q
  refine ⟨ρ, G, _, hs, hg, h, fun d G1 x H1 h1 f1 g1 r1 => ?_⟩
  cases r1 with
  | bl b => exact ⟨b, rfl, k b G1 H1 h1 f1 g1⟩
  | _ => cases h1
theorem z_tcmp {op : CmpOp} {z : Z2} (ho : ZOp X (compareOp op) z) (ha : ZE X a ta) (hb : ZE X b tb) (hm : behindInMarks op b = false := by rfl) : ZT X (.Compare a [op] [b] pos) (zTest (zOp z ta tb)) := PTi (pt_cmpR ho ha hb hm) fun σ H Q q => by
  obtain ⟨ρ, G, Q0, hs, hg, h, k⟩ := up_test q
  exact up_op ⟨ρ, G, Q0, hs, hg, h, k⟩
/-- any value's truth -/
def zTru (t : DE) : DT := fun ρ G Q => t ρ G fun d G1 => match d with
  | .non => Q false G1
  | .bl b => Q b G1
  | .int i => Q (i != 0) G1
  | .str y => y.length ≤ sizeLine ∧ Q ((y.length : Int) != 0) G1
  | .tup ds => Q (!ds.isEmpty) G1
  | .ct ds => Q (!ds.isEmpty) G1
  | .cl ds => Q (!ds.isEmpty) G1
  | .ref p => match G1 p with
    | some (.lst ds) => Q (!ds.isEmpty) G1
    | some (.dk ds) => Q (!ds.isEmpty) G1
    | _ => False
  | _ => False
theorem Reps.isEmpty {K : PySem.W.Frag} {H : Hp} {xs : List V} {ds : List D} (r : Reps K H xs ds) : xs.isEmpty = ds.isEmpty := by cases r <;> rfl
theorem RepKV.isEmpty {κ : Type} {K : PySem.W.Frag} {H : Hp} {xs : List (κ × V)} {ds : List (κ × D)} (r : RepKV K H xs ds) : xs.isEmpty = ds.isEmpty := by cases r <;> rfl
theorem z_tru (ha : ZE X a ta) (he : ∀ whole, isTrue a X.env whole = (do let v ← whole; standAt a.pos; holding [v] (truthy v)) := by intro _; rfl) : ZT X a (zTru ta) := PTi (pt_truth ha he) fun σ H Q q => by
  obtain ⟨ρ, G, Q0, hs, hg, h, k⟩ := q
  refine ⟨ρ, G, _, hs, hg, h, fun d G1 x H1 h1 f1 g1 r1 => ?_⟩
  have fin : ∀ b, Q0 b G1 → Q b H1 := fun b q => k b G1 H1 q f1 g1
  cases r1 with
  | non => exact ⟨_, rfl, fin _ h1⟩
  | bl b => exact ⟨_, rfl, fin _ h1⟩
  | int i => exact ⟨_, rfl, fin _ h1⟩
  | str i => exact ⟨_, ⟨h1.1, rfl⟩, fin _ h1.2⟩
  | ty n => cases h1
  | tup hq r => exact ⟨_, .inr (.inl ⟨_, hq.sq, rfl⟩), fin _ (by rw [r.isEmpty]; exact h1)⟩
  | ct hq r => exact ⟨_, .inr (.inl ⟨_, hq.sq, rfl⟩), fin _ (by rw [r.isEmpty]; exact h1)⟩
  | cl hq r => exact ⟨_, .inl ⟨_, hq.sq, rfl⟩, fin _ (by rw [r.isEmpty]; exact h1)⟩
  | ref p =>
    simp only at h1
    split at h1
    · rename_i ds e
      obtain ⟨xs, hx, r⟩ := g1 p _ e
      exact ⟨_, .inl ⟨_, .inl (.inl hx), rfl⟩, fin _ (by rw [r.isEmpty]; exact h1)⟩
    · rename_i ds e
      obtain ⟨xs, hx, r⟩ := g1 p _ e
      exact ⟨_, .inr (.inr ⟨_, hx, rfl⟩), fin _ (by rw [r.isEmpty]; exact h1)⟩
    · cases h1

/-! ### and, or, not; a if c else b -/
variable {t u : DT} {rest : List Expr}
def zAnd (t u : DT) : DT := fun ρ G Q => t ρ G fun c G1 => if c = true then u ρ G1 Q else Q false G1
def zOrT (t u : DT) : DT := fun ρ G Q => t ρ G fun c G1 => if c = true then Q true G1 else u ρ G1 Q
def zNot (t : DT) : DT := fun ρ G Q => t ρ G fun c G1 => Q (!c) G1
theorem zw_and1 (ha : ZT X a t) : ZW X (.BoolOp .And [a] pos) t := pw_and1 ha
theorem zw_or1 (ha : ZT X a t) : ZW X (.BoolOp .Or [a] pos) t := pw_or1 ha
theorem zw_and (ha : ZT X a t) (hb : ZW X (.BoolOp .And (b :: rest) pos) u) : ZW X (.BoolOp .And (a :: b :: rest) pos) (zAnd t u) := PWi (pw_and ha hb) fun σ H Q q => by
  obtain ⟨ρ, G, Q0, hs, hg, h, k⟩ := q
  refine ⟨ρ, G, _, hs, hg, h, fun c G1 H1 h1 f1 g1 => ?_⟩
  cases c with
  | true =>
    rw [if_pos rfl] at h1 ⊢
    exact ⟨ρ, G1, Q0, hs.mono (hg.tm f1), g1, h1, fun b G' H' q f g => k b G' H' q (f1.trans f) g⟩
  | false =>
    rw [if_neg Bool.false_ne_true] at h1 ⊢
    exact k false G1 H1 h1 f1 g1
theorem zw_or (ha : ZT X a t) (hb : ZW X (.BoolOp .Or (b :: rest) pos) u) : ZW X (.BoolOp .Or (a :: b :: rest) pos) (zOrT t u) := PWi (pw_or ha hb) fun σ H Q q => by
  obtain ⟨ρ, G, Q0, hs, hg, h, k⟩ := q
  refine ⟨ρ, G, _, hs, hg, h, fun c G1 H1 h1 f1 g1 => ?_⟩
  cases c with
  | true =>
    rw [if_pos rfl] at h1 ⊢
    exact k true G1 H1 h1 f1 g1
  | false =>
    rw [if_neg Bool.false_ne_true] at h1 ⊢
    exact ⟨ρ, G1, Q0, hs.mono (hg.tm f1), g1, h1, fun b G' H' q f g => k b G' H' q (f1.trans f) g⟩
theorem z_not (ha : ZT X a t) : ZT X (.UnaryOp .Not a pos) (zNot t) := PTi (pt_not ha) fun σ H Q q => by
  obtain ⟨ρ, G, Q0, hs, hg, h, k⟩ := q
  exact ⟨ρ, G, _, hs, hg, h, fun c G1 H1 h1 f1 g1 => k (!c) G1 H1 h1 f1 g1⟩
theorem zw_t {e : Expr} (h : ZW X e t) : ZT X e t := PW.pt h
def zIf (t : DT) (ta tb : DE) : DE := fun ρ G Q => t ρ G fun c G1 => if c = true then ta ρ G1 Q else tb ρ G1 Q
theorem z_ifE {c : Expr} (hc : ZT X c t) (ha : ZE X a ta) (hb : ZE X b tb) : ZE X (.IfExp c a b pos) (zIf t ta tb) := PEi (pe_ifExp hc ha hb) fun σ H Q q => by
  obtain ⟨ρ, G, Q0, hs, hg, h, k⟩ := q
  refine ⟨ρ, G, _, hs, hg, h, fun c G1 H1 h1 f1 g1 => ?_⟩
  cases c with
  | true =>
    rw [if_pos rfl] at h1 ⊢
    exact ⟨ρ, G1, Q0, hs.mono (hg.tm f1), g1, h1, CK.go k f1⟩
  | false =>
    rw [if_neg Bool.false_ne_true] at h1 ⊢
    exact ⟨ρ, G1, Q0, hs.mono (hg.tm f1), g1, h1, CK.go k f1⟩
/-- and, or, not as values of bools -/
def zAndV (ta tb : DE) : DE := fun ρ G Q => ta ρ G fun d G1 => match d with
  | .bl c => if c = true then tb ρ G1 Q else Q (.bl false) G1
  | _ => False
def zOrV (ta tb : DE) : DE := fun ρ G Q => ta ρ G fun d G1 => match d with
  | .bl c => if c = true then Q (.bl true) G1 else tb ρ G1 Q
  | _ => False
def zNotV (ta : DE) : DE := fun ρ G Q => ta ρ G fun d G1 => match d with
  | .bl c => Q (.bl (!c)) G1
  | _ => False
theorem z_one {op} {t : DE} (h : ZE X a t) : ZE X (.BoolOp op [a] pos) t := pe_one h
theorem z_and (ha : ZE X a ta) (hb : ZE X (.BoolOp .And (b :: rest) pos) tb) : ZE X (.BoolOp .And (a :: b :: rest) pos) (zAndV ta tb) := PEi (pe_and ha hb) fun σ H Q q => by
  obtain ⟨ρ, G, Q0, hs, hg, h, k⟩ := q
  refine ⟨ρ, G, _, hs, hg, h, fun d G1 x H1 h1 f1 g1 r1 => ?_⟩
  cases r1 with
  | bl c =>
    refine ⟨c, rfl, ?_⟩
    cases c with
    | true => exact ⟨ρ, G1, Q0, hs.mono (hg.tm f1), g1, h1, CK.go k f1⟩
    | false => exact k _ G1 _ H1 h1 f1 g1 (.bl _)
  | _ => cases h1
theorem z_or (ha : ZE X a ta) (hb : ZE X (.BoolOp .Or (b :: rest) pos) tb) : ZE X (.BoolOp .Or (a :: b :: rest) pos) (zOrV ta tb) := PEi (pe_or ha hb) fun σ H Q q => by
  obtain ⟨ρ, G, Q0, hs, hg, h, k⟩ := q
  refine ⟨ρ, G, _, hs, hg, h, fun d G1 x H1 h1 f1 g1 r1 => ?_⟩
  cases r1 with
  | bl c =>
    refine ⟨c, rfl, ?_⟩
    cases c with
    | true => exact k _ G1 _ H1 h1 f1 g1 (.bl _)
    | false => exact ⟨ρ, G1, Q0, hs.mono (hg.tm f1), g1, h1, CK.go k f1⟩
  | _ => cases h1
theorem z_notV (ha : ZE X a ta) : ZE X (.UnaryOp .Not a pos) (zNotV ta) := PEi (pe_not ha) fun σ H Q q => by
  obtain ⟨ρ, G, Q0, hs, hg, h, k⟩ := q
  refine ⟨ρ, G, _, hs, hg, h, fun d G1 x H1 h1 f1 g1 r1 => ?_⟩
  cases r1 with
  | bl c => exact ⟨c, rfl, k _ G1 _ H1 h1 f1 g1 (.bl _)⟩
  | _ => cases h1

/-! ### argument lists, displays -/
variable {es : List Expr} {tA : DA}
def zNil : DA := fun _ G Q => Q [] G
def zCons (ta : DE) (tr : DA) : DA := fun ρ G Q => ta ρ G fun d G1 => tr ρ G1 fun ds G2 => Q (d :: ds) G2
theorem za_nil : ZA X [] zNil := PAi pa_nil fun σ H Q q => by
  obtain ⟨ρ, G, Q0, hs, hg, h, k⟩ := q
  exact k [] G [] H h (Fr.refl H G) hg .nil
theorem za_cons (ha : ZE X a ta) (hr : ZA X es tA) (hs : starEach (a :: es) X.env = (false, eval a X.env) :: starEach es X.env := by rfl) : ZA X (a :: es) (zCons ta tA) := PAi (pa_cons ha hr hs) fun σ H Q q => by
  obtain ⟨ρ, G, Q0, hs, hg, h, k⟩ := q
  exact ⟨ρ, G, _, hs, hg, h, fun d G1 x H1 h1 f1 g1 r1 => ⟨ρ, G1, _, hs.mono (hg.tm f1), g1, h1, fun ds G2 xs H2 h2 f2 g2 r2 => k _ G2 _ H2 h2 (f1.trans f2) g2 (.cons (r1.mono (g1.tm f2)) r2)⟩⟩
def zTup (ta : DA) : DE := fun ρ G Q => ta ρ G fun ds G1 => ds.length ≤ sizeLine ∧ Q (.tup ds) G1
def zLst (ta : DA) : DE := fun ρ G Q => ta ρ G fun ds G1 => ds.length ≤ sizeLine ∧ ∀ p G2, G1 p = none → At G1 p (.lst ds) G2 → Q (.ref p) G2
theorem z_tup {x1} (h : ZA X es tA) : ZE X (.Tuple es x1 pos) (zTup tA) := PEi (pe_tup h) fun σ H Q q => by
  obtain ⟨ρ, G, Q0, hs, hg, h, k⟩ := q
  exact ⟨ρ, G, _, hs, hg, h, fun ds G1 xs H1 h1 f1 g1 r1 => ⟨by rw [r1.length]; exact h1.1, fun p hp => CK.tup (CK.go k f1) hp h1.2 g1 r1⟩⟩
theorem z_lst (h : ZA X es tA) : ZE X (.List es pos) (zLst tA) := PEi (pe_lst h) fun σ H Q q => by
  obtain ⟨ρ, G, Q0, hs, hg, h, k⟩ := q
  exact ⟨ρ, G, _, hs, hg, h, fun ds G1 xs H1 h1 f1 g1 r1 => ⟨by rw [r1.length]; exact h1.1, fun p hp => CK.new (m := .lst ds) (CK.go k f1) hp g1 ⟨xs, upd_same, r1.mono (tm_new hp)⟩ fun G' n at_ => h1.2 p G' n at_⟩⟩

/-! ### calls of builtins -/
abbrev ZF := List D → Gp → DK → Prop
def upC (K : PySem.W.Frag) (z : ZF) : List V → Hp → VK → Prop := fun xs H Q => ∃ ds G Q0, SimG K H G ∧ Reps K H xs ds ∧ z ds G Q0 ∧ CK K H G Q0 Q
def ZCall (X : Cx) (f : Value) (z : ZF) : Prop := CallR X f (upC X.K z)
theorem CallRi {X : Cx} {f : Value} {r r' : List V → Hp → VK → Prop} (h : CallR X f r) (i : ∀ xs H Q, r' xs H Q → r xs H Q) : CallR X f r' := fun pins s σ H xs us Q I rx q => h pins s σ H xs us Q I rx (i xs H Q q)
def zfOr (z z' : ZF) : ZF := fun ds G Q => z ds G Q ∨ z' ds G Q
theorem ZCall.or {f : Value} {z z' : ZF} (h : ZCall X f z) (h' : ZCall X f z') : ZCall X f (zfOr z z') := CallRi (CallR.or h h') fun xs H Q q => by
  obtain ⟨ds, G, Q0, g, r, h | h, k⟩ := q
  · exact .inl ⟨ds, G, Q0, g, r, h, k⟩
  · exact .inr ⟨ds, G, Q0, g, r, h, k⟩
def zCB (z : ZF) (t : DA) : DE := fun ρ G Q => t ρ G fun ds G1 => z ds G1 Q
theorem up_cb {K : PySem.W.Frag} {z : ZF} {t : DA} {σ : L2.St} {H : Hp} {Q : VK} (q : upE K (zCB z t) σ H Q) : tCB (upC K z) (upA K t) σ H Q := by
  obtain ⟨ρ, G, Q0, hs, hg, h, k⟩ := q
  exact ⟨ρ, G, _, hs, hg, h, fun ds G1 xs H1 h1 f1 g1 r1 => ⟨ds, G1, Q0, g1, r1, h1, CK.go k f1⟩⟩
theorem z_callB {id : String} {x : Str} {p : Pos} {z : ZF} (hc : ZCall X (.builtin id) z) (hg : Gl X x) (hm : X.mg x = none) (hv : bootBuiltins x = some (.builtin id)) (ha : ZA X (a :: es) tA) (hn : x ≠ "__name__" := by decide)
    (hdb : (x == ("__debug__" : Str)) = false := by decide) (he : starEach (a :: es) X.env = (false, eval a X.env) :: starEach es X.env := by rfl) (hpl : (backTo pos (starEach es X.env)).any (·.1) = false := by rfl) :
    ZE X (.Call (.Name x p) (a :: es) [] pos) (zCB z tA) := PEi (pe_callB hc hg hm hv ha hn hdb he hpl) fun _ _ _ q => up_cb q
theorem z_callTy {T : String} {x : Str} {p : Pos} {z : ZF} (hc : ZCall X (.type T) z) (hg : Gl X x) (hm : X.mg x = none) (hv : bootBuiltins x = some (.type T)) (ha : ZA X (a :: es) tA) (hn : x ≠ "__name__" := by decide)
    (hdb : (x == ("__debug__" : Str)) = false := by decide) (he : starEach (a :: es) X.env = (false, eval a X.env) :: starEach es X.env := by rfl) (hpl : (backTo pos (starEach es X.env)).any (·.1) = false := by rfl) :
    ZE X (.Call (.Name x p) (a :: es) [] pos) (zCB z tA) := PEi (pe_callTy hc hg hm hv ha hn hdb he hpl) fun _ _ _ q => up_cb q

/-! ### calls of the program's defs -/
abbrev XKz := Value → Gp → Prop
abbrev ZSp := List D → Gp → DK → XKz → Prop
def upSp (K : PySem.W.Frag) (z : ZSp) : Sp := fun vs H Q E => ∃ ds G Q0 E0, Sim0 K H G ∧ Reps K H vs ds ∧ z ds G Q0 E0 ∧ (∀ d G' v H', Q0 d G' → Fr H G H' G' → Sim0 K H' G' → Rep K H' v d → Q v H') ∧ ∀ c G' dx H', E0 c G' → Fr H G H' G' → Sim0 K H' G' → E c dx H'
/-- what is wanted of an exception here: E0 told as E -/
def EOk (K : PySem.W.Frag) (E0 : XKz) (E : XK) : Prop := ∀ c G' dx H', E0 c G' → SimG K H' G' → E c dx H'
def zCall (z : ZSp) (E0 : XKz) (t : DA) : DE := fun ρ G Q => t ρ G fun ds G1 => z ds G1 Q E0
theorem up_call {K : PySem.W.Frag} {z : ZSp} {t : DA} {E0 : XKz} {E : XK} (hE : EOk K E0 E) {σ : L2.St} {H : Hp} {Q : VK} (q : upE K (zCall z E0 t) σ H Q) : tCall (upSp K z) [] E (upA K t) σ H Q := by
  obtain ⟨ρ, G, Q0, hs, hg, h, k⟩ := q
  exact ⟨ρ, G, _, hs, hg, h, fun ds G1 xs H1 h1 f1 g1 r1 => ⟨ds, G1, Q0, E0, g1.toSim0, by rw [List.append_nil]; exact r1, h1, fun d G' v H' q f g r => k d G' v H' q (f1.trans f) (g1.next f g) r, fun c G' dx H' q f g => hE c G' dx H' q (g1.next f g)⟩⟩
/-- no exception comes here -/
abbrev X0 : XKz := fun _ _ => False
theorem eok0 {K : PySem.W.Frag} {E : XK} : EOk K X0 E := fun _ _ _ _ h _ => h.elim
theorem z_call {k : Nat} {f : Addr} {fd : FuncData} {ps : List Str} {z : ZSp} {x : Str} {p : Pos} {E0 : XKz} {E : XK} (F : FnOk X.prog X.w X.K X.mg X.base (L2.CX X.prog X.w) k f fd ps (upSp X.K z)) (hr : Room k X.A) (hg : Gl X x) (hm : X.mg x = some (.ref f)) (hk : PySem.W.keepIn X.K (.ref f) = true) (hb : Binds X.K fd ps [])
    (hE : EOk X.K E0 E) (hx : Passes (L2.CX X.prog X.w) X E) (ha : ZA X (a :: es) tA) (hdb : (x == ("__debug__" : Str)) = false := by decide) (he : starEach (a :: es) X.env = (false, eval a X.env) :: starEach es X.env := by rfl) (hpl : (backTo pos (starEach es X.env)).any (·.1) = false := by rfl) :
    ZE X (.Call (.Name x p) (a :: es) [] pos) (zCall z E0 tA) := PEi (pe_call F hr hg hm hk hb .nil hx ha hdb he hpl) fun _ _ _ q => up_call hE q
/-- a call that lets nothing out -/
theorem z_call0 {k : Nat} {f : Addr} {fd : FuncData} {ps : List Str} {z : ZSp} {x : Str} {p : Pos} (F : FnOk X.prog X.w X.K X.mg X.base (L2.CX X.prog X.w) k f fd ps (upSp X.K z)) (hr : Room k X.A) (hg : Gl X x) (hm : X.mg x = some (.ref f)) (hk : PySem.W.keepIn X.K (.ref f) = true) (hb : Binds X.K fd ps [])
    (ha : ZA X (a :: es) tA) (hdb : (x == ("__debug__" : Str)) = false := by decide) (he : starEach (a :: es) X.env = (false, eval a X.env) :: starEach es X.env := by rfl) (hpl : (backTo pos (starEach es X.env)).any (·.1) = false := by rfl) :
    ZE X (.Call (.Name x p) (a :: es) [] pos) (zCall z X0 tA) := z_call (E := L2.E0) F hr hg hm hk hb eok0 (passL (X := X)) ha hdb he hpl
end

/-! ### statements -/
section
variable {X : Cx} {st : Stmt} {rest : List Stmt} {a b : Expr} {ta tb : DE} {pos : Pos} {t u : DS}
def zNext : DS := fun Z ρ G => Z.nx ρ G
def zSeq (t u : DS) : DS := fun Z ρ G => t { Z with nx := u Z } ρ G
abbrev SK (K : PySem.W.Frag) (H : Hp) (G : Gp) (Z : ZSt → Gp → Prop) (D : L2.St → Hp → Prop) : Prop := ∀ ρ' G' σ' H', Z ρ' G' → Fr H G H' G' → SimG K H' G' → SimS K H' σ' ρ' → D σ' H'
theorem SK.go {K : PySem.W.Frag} {H H1 : Hp} {G G1 : Gp} {Z : ZSt → Gp → Prop} {D : L2.St → Hp → Prop} (k : SK K H G Z D) (f : Fr H G H1 G1) : SK K H1 G1 Z D := fun ρ' G' σ' H' q f' g s => k ρ' G' σ' H' q (f.trans f') g s
theorem zs_nil : ZSs X [] zNext := PSsi pss_nil fun D σ H q => by
  obtain ⟨ρ, G, Z, hs, hg, h, k, _⟩ := q
  exact k ρ G σ H h (Fr.refl H G) hg hs
theorem zs_cons (h1 : ZS X st t) (h2 : ZSs X rest u) : ZSs X (st :: rest) (zSeq t u) := PSsi (pss_cons h1 h2) fun D σ H q => by
  obtain ⟨ρ, G, Z, hs, hg, h, k1, k2, k3, k4⟩ := q
  exact ⟨ρ, G, _, hs, hg, h, fun ρ' G' σ' H' h' f' g' s' => ⟨ρ', G', Z, s', g', h', SK.go k1 f', CK.go k2 f', SK.go k3 f', SK.go k4 f'⟩, k2, k3, k4⟩
theorem zs_one (h1 : ZS X st t) : ZSs X [st] t := pss_one h1
def zBreak : DS := fun Z ρ G => Z.bk ρ G
def zCont : DS := fun Z ρ G => Z.ct ρ G
theorem z_pass : ZS X (.Pass pos) zNext := PSi ps_pass fun D σ H q => by
  obtain ⟨ρ, G, Z, hs, hg, h, k, _⟩ := q
  exact k ρ G σ H h (Fr.refl H G) hg hs
theorem z_break : ZS X (.Break pos) zBreak := PSi ps_break fun D σ H q => by
  obtain ⟨ρ, G, Z, hs, hg, h, _, _, k, _⟩ := q
  exact k ρ G σ H h (Fr.refl H G) hg hs
theorem z_continue : ZS X (.Continue pos) zCont := PSi ps_continue fun D σ H q => by
  obtain ⟨ρ, G, Z, hs, hg, h, _, _, _, k⟩ := q
  exact k ρ G σ H h (Fr.refl H G) hg hs
def zDrop (te : DE) : DS := fun Z ρ G => te ρ G fun _ G1 => Z.nx ρ G1
theorem z_expr (he : ZE X a ta) (hs : swapsWith a none pos.line X.env = pure false := by rfl) : ZS X (.Expr a pos) (zDrop ta) := PSi (ps_expr he hs) fun D σ H q => by
  obtain ⟨ρ, G, Z, hs, hg, h, k, _⟩ := q
  exact ⟨ρ, G, _, hs, hg, h, fun d G1 x H1 h1 f1 g1 r1 => k ρ G1 σ H1 h1 f1 g1 (hs.mono (hg.tm f1))⟩
def zRet (te : DE) : DS := fun Z ρ G => te ρ G Z.rt
theorem z_ret (he : ZE X a ta) : ZS X (.Return (some a) pos) (zRet ta) := PSi (ps_ret he) fun D σ H q => by
  obtain ⟨ρ, G, Z, hs, hg, h, _, k, _⟩ := q
  exact ⟨ρ, G, _, hs, hg, h, k⟩
def zRetN : DS := fun Z _ G => Z.rt .non G
theorem z_retN : ZS X (.Return none pos) zRetN := PSi ps_retN fun D σ H q => by
  obtain ⟨ρ, G, Z, hs, hg, h, _, k, _⟩ := q
  exact k _ G _ H h (Fr.refl H G) hg .non
def zIfS (c : DT) (t u : DS) : DS := fun Z ρ G => c ρ G fun b G1 => if b = true then t Z ρ G1 else u Z ρ G1
theorem z_if {c : Expr} {sa sb : List Stmt} {tc : DT} (hc : ZT X c tc) (ha : ZSs X sa t) (hb : ZSs X sb u) : ZS X (.If c sa sb pos) (zIfS tc t u) := PSi (ps_if hc ha hb) fun D σ H q => by
  obtain ⟨ρ, G, Z, hs, hg, h, k1, k2, k3, k4⟩ := q
  refine ⟨ρ, G, _, hs, hg, h, fun c G1 H1 h1 f1 g1 => ?_⟩
  cases c with
  | true =>
    rw [if_pos rfl] at h1 ⊢
    exact ⟨ρ, G1, Z, hs.mono (hg.tm f1), g1, h1, SK.go k1 f1, CK.go k2 f1, SK.go k3 f1, SK.go k4 f1⟩
  | false =>
    rw [if_neg Bool.false_ne_true] at h1 ⊢
    exact ⟨ρ, G1, Z, hs.mono (hg.tm f1), g1, h1, SK.go k1 f1, CK.go k2 f1, SK.go k3 f1, SK.go k4 f1⟩
theorem z_doc {x j pos'} : ZS X (.Expr (.Constant (.str x) j pos) pos') zNext := PSi ps_doc fun D σ H q => by
  obtain ⟨ρ, G, Z, hs, hg, h, k, _⟩ := q
  exact k ρ G σ H h (Fr.refl H G) hg hs

/-! ### targets, assignments -/
abbrev DG := D → ZSt → Gp → (ZSt → Gp → Prop) → Prop
abbrev DGs := List D → ZSt → Gp → (ZSt → Gp → Prop) → Prop
def upG (K : PySem.W.Frag) (t : DG) : TG := fun v σ H Q => ∃ d ρ G Q0, Rep K H v d ∧ SimS K H σ ρ ∧ SimG K H G ∧ t d ρ G Q0 ∧ SK K H G Q0 Q
def upGs (K : PySem.W.Frag) (t : DGs) : TGs := fun vs σ H Q => ∃ ds ρ G Q0, Reps K H vs ds ∧ SimS K H σ ρ ∧ SimG K H G ∧ t ds ρ G Q0 ∧ SK K H G Q0 Q
def ZG (X : Cx) (e : Expr) (t : DG) : Prop := PG X e (upG X.K t)
def ZGs (X : Cx) (es : List Expr) (t : DGs) : Prop := PGs X es (upGs X.K t)
theorem PGi {e : Expr} {t t' : TG} (h : PG X e t) (i : ∀ v σ H Q, t' v σ H Q → t v σ H Q) : PG X e t' := ⟨fun pins s σ H v u Q I r q => h.run pins s σ H v u Q I r (i v σ H Q q)⟩
theorem PGsi {e : List Expr} {t t' : TGs} (h : PGs X e t) (i : ∀ v σ H Q, t' v σ H Q → t v σ H Q) : PGs X e t' := ⟨fun pins s σ H v u Q I r q => h.run pins s σ H v u Q I r (i v σ H Q q)⟩
def zName (i : Nat) : DG := fun d ρ G Q => Q (ρ.set i (some d)) G
theorem zg_name {i : Nat} {x : Str} (hN : X.N.Nodup) (hi : X.N[i]? = some x) (hx : Loc X.env.scope x) (hf : X.fn x = true ∨ X.env.scope.names.lookup x = some .local := by first | exact .inl rfl | exact .inr rfl | assumption) : ZG X (.Name x pos) (zName i) := PGi (pg_name hN hi hx hf) fun v σ H Q q => by
  obtain ⟨d, ρ, G, Q0, r, hs, hg, h, k⟩ := q
  exact k _ G _ H h (Fr.refl H G) hg (hs.set r)
def zgNil : DGs := fun ds ρ G Q => ds = [] ∧ Q ρ G
def zgCons (t : DG) (u : DGs) : DGs := fun ds ρ G Q => match ds with
  | d :: r => t d ρ G fun ρ' G' => u r ρ' G' Q
  | [] => False
theorem zgs_nil : ZGs X [] zgNil := PGsi pgs_nil fun v σ H Q q => by
  obtain ⟨d, ρ, G, Q0, r, hs, hg, ⟨e, h⟩, k⟩ := q
  subst e
  cases r
  exact ⟨rfl, k _ G _ H h (Fr.refl H G) hg hs⟩
theorem zgs_cons {e : Expr} {es : List Expr} {t : DG} {u : DGs} (h1 : ZG X e t) (h2 : ZGs X es u) (hs : (assignEach (e :: es) X.env).map (·.2) = assign e X.env :: (assignEach es X.env).map (·.2) := by rfl) : ZGs X (e :: es) (zgCons t u) := PGsi (pgs_cons h1 h2 hs) fun v σ H Q q => by
  obtain ⟨ds, ρ, G, Q0, r, hs, hg, h, k⟩ := q
  cases r with
  | nil => exact False.elim h
  | cons r1 r2 => exact ⟨_, _, rfl, _, ρ, G, _, r1, hs, hg, h, fun ρ' G' σ' H' h' f' g' s' => ⟨_, ρ', G', Q0, r2.mono (hg.tm f'), s', g', h', SK.go k f'⟩⟩
/-- a, b, .. = a tuple -/
def zgTup (n : Nat) (u : DGs) : DG := fun d ρ G Q => match d with
  | .tup ds => ds.length = n ∧ u ds ρ G Q
  | _ => False
theorem zg_tup {es : List Expr} {k : Nat} {t : DGs} {n : Nat} (hc : X.calm = true) (h : ZGs X es t) (hn : (assignEach es X.env).length = n := by rfl) (hst : (assignEach es X.env).findIdx? (·.1) = none := by rfl) : ZG X (.Tuple es k pos) (zgTup n t) := PGi (pg_tup hc h hn hst) fun v σ H Q q => by
  obtain ⟨d, ρ, G, Q0, r, hs, hg, h, k⟩ := q
  cases r with
  | tup hq r => exact ⟨_, _, rfl, hq.sq, by rw [r.length]; exact h.1, _, ρ, G, Q0, r, hs, hg, h.2, k⟩
  | _ => exact False.elim h
def zAsg (te : DE) (g : DG) : DS := fun Z ρ G => te ρ G fun d G1 => g d ρ G1 Z.nx
theorem up_asg {K : PySem.W.Frag} {te : DE} {g : DG} {D : Ends} {σ : L2.St} {H : Hp} (q : upS K (zAsg te g) D σ H) : tAsg (upE K te) (upG K g) D σ H := by
  obtain ⟨ρ, G, Z, hs, hg, h, k, _⟩ := q
  exact ⟨ρ, G, _, hs, hg, h, fun d G1 x H1 h1 f1 g1 r1 => ⟨d, ρ, G1, Z.nx, r1, hs.mono (hg.tm f1), g1, h1, SK.go k f1⟩⟩
theorem z_asg {tg e : Expr} {te : DE} {g : DG} (he : ZE X e te) (hg : ZG X tg g) (hs : swapsWithSole [tg] e pos.line X.env = pure false := by rfl) (hw : swappedStores [tg] e X.env = pure none := by rfl)
    (h1 : (assignEach [tg] X.env).map (·.2) = [assign tg X.env] := by rfl) : ZS X (.Assign [tg] e pos) (zAsg te g) := PSi (ps_asg he hg hs hw h1) fun D σ H q => up_asg q
theorem z_set {i : Nat} {x : Str} {e : Expr} {te : DE} {pos' : Pos} (hN : X.N.Nodup) (hi : X.N[i]? = some x) (hx : Loc X.env.scope x) (he : ZE X e te) (hs : swapsWith e (some (.Name x pos')) pos.line X.env = pure false := by rfl) (hf : X.fn x = true ∨ X.env.scope.names.lookup x = some .local := by first | exact .inl rfl | exact .inr rfl | assumption) :
    ZS X (.Assign [.Name x pos'] e pos) (zAsg te (zName i)) := PSi (ps_set hN hi hx he hs hf) fun D σ H q => by
  obtain ⟨ρ, G, Z, hs, hg, h, k, _⟩ := q
  exact ⟨ρ, G, _, hs, hg, h, fun d G1 x H1 h1 f1 g1 r1 => k _ G1 _ H1 h1 f1 g1 ((hs.mono (hg.tm f1)).set r1)⟩
/-- a, b = x, y -/
def zPar (i j : Nat) (ta : DA) : DS := fun Z ρ G => ta ρ G fun ds G1 => match ds with
  | [d, e] => Z.nx ((ρ.set i (some d)).set j (some e)) G1
  | _ => False
theorem z_par {i j : Nat} {x y : Str} {a b : Expr} {ta : DA} {px py pt : Pos} {kt k2 pt2} (hc : X.calm = true) (hN : X.N.Nodup) (hi : X.N[i]? = some x) (hj : X.N[j]? = some y) (hij : i ≠ j)
    (hx : X.env.scope.names.lookup x = some .local) (hy : X.env.scope.names.lookup y = some .local) (ha : ZA X [a, b] ta)
    (hw : swappedStores [.Tuple [.Name x px, .Name y py] kt pt] (.Tuple [a, b] k2 pt2) X.env = pure (some [x, y]))
    (hs : swapsWithSole [.Tuple [.Name x px, .Name y py] kt pt] (.Tuple [a, b] k2 pt2) pos.line X.env = pure false := by rfl) :
    ZS X (.Assign [.Tuple [.Name x px, .Name y py] kt pt] (.Tuple [a, b] k2 pt2) pos) (zPar i j ta) := PSi (ps_par hc hN hi hj hij hx hy ha hw hs) fun D σ H q => by
  obtain ⟨ρ, G, Z, hs, hg, h, k, _⟩ := q
  refine ⟨ρ, G, _, hs, hg, h, fun ds G1 xs H1 h1 f1 g1 r1 => ?_⟩
  cases r1 with
  | nil => cases h1
  | cons p r1 =>
    cases r1 with
    | nil => cases h1
    | cons p' r1 =>
      cases r1 with
      | nil => exact ⟨_, _, rfl, k _ G1 _ H1 h1 f1 g1 (((hs.mono (hg.tm f1)).set p).set p')⟩
      | cons p2 r2 => cases h1

/-! ### while -/
def zWhile (c : DT) (tb : DS) : DS := fun Z ρ G => ∃ W : Nat → ZSt → Gp → Prop, (∃ m, W m ρ G) ∧ ∀ m ρ' G', W m ρ' G' →
  c ρ' G' fun b G1 => if b = true then tb { Z with nx := fun ρ2 G2 => ∃ m', m' < m ∧ W m' ρ2 G2, ct := fun ρ2 G2 => ∃ m', m' < m ∧ W m' ρ2 G2, bk := Z.nx } ρ' G1 else Z.nx ρ' G1
theorem z_while {c : Expr} {body : List Stmt} {tc : DT} {tb : DS} (hp : PassesOwn (model X.prog X.w) X.A X.env X.xe) (hc : ZT X c tc) (hb : ZSs X body tb) : ZS X (.While c body [] pos) (zWhile tc tb) := PSi (ps_while hp hc hb) fun D σ H q => by
  obtain ⟨ρ, G, Z, hs, hg, ⟨W, ⟨m0, w0⟩, turn⟩, k1, k2, k3, k4⟩ := q
  refine ⟨fun m σ' H' => ∃ ρ' G', SimS X.K H' σ' ρ' ∧ SimG X.K H' G' ∧ Fr H G H' G' ∧ W m ρ' G', ⟨m0, ρ, G, hs, hg, Fr.refl H G, w0⟩, ?_⟩
  rintro m σ' H' ⟨ρ', G', hs', hg', f', w⟩
  refine ⟨ρ', G', _, hs', hg', turn m ρ' G' w, fun b G1 H1 h1 f1 g1 => ?_⟩
  cases b with
  | true =>
    rw [if_pos rfl] at h1 ⊢
    refine ⟨fun σ2 H2 => ∃ ρ2 G2, SimS X.K H2 σ2 ρ2 ∧ SimG X.K H2 G2 ∧ Fr H G H2 G2 ∧ ∃ m', m' < m ∧ W m' ρ2 G2, fun σ2 H2 ⟨ρ2, G2, s2, g2, f2, m', hm, w2⟩ => ⟨m', hm, ρ2, G2, s2, g2, f2, w2⟩, ?_⟩
    have ff := f'.trans f1
    have nn : SK X.K H1 G1 (fun ρ2 G2 => ∃ m', m' < m ∧ W m' ρ2 G2) (fun σ2 H2 => ∃ ρ2 G2, SimS X.K H2 σ2 ρ2 ∧ SimG X.K H2 G2 ∧ Fr H G H2 G2 ∧ ∃ m', m' < m ∧ W m' ρ2 G2) := fun ρ2 G2 σ2 H2 w2 f2 g2 s2 => ⟨ρ2, G2, s2, g2, ff.trans f2, w2⟩
    exact ⟨ρ', G1, _, hs'.mono (hg'.tm f1), g1, h1, nn, CK.go k2 ff, SK.go k1 ff, nn⟩
  | false =>
    rw [if_neg Bool.false_ne_true] at h1 ⊢
    exact k1 ρ' G1 σ' H1 h1 (f'.trans f1) g1 (hs'.mono (hg'.tm f1))
end
end Z

namespace Z
open PySem PySem.Spec PyProof.Rows L2
variable [τ : Tbl] [β : Bas]

/-! ### what a loop walks: its items, and what must stand at every turn -/
abbrev DI := ZSt → Gp → (List D → (Gp → Prop) → Gp → Prop) → Prop
structure ItOk (K : PySem.W.Frag) (Hs : Hp) (J : It) (items : List D) (live : Gp → Prop) : Prop where
  go : ∀ i H G, Tm Hs H → SimG K H G → live G → i < items.length → J.go i H
  yld : ∀ i d H G x H', Tm Hs H → SimG K H G → live G → items[i]? = some d → J.yld i H x H' → Fr H G H' G ∧ SimG K H' G ∧ Rep K H' x d
  stop : ∀ H G, Tm Hs H → SimG K H G → live G → J.stop items.length H
def upI (K : PySem.W.Frag) (t : DI) : TI := fun σ H R => ∃ ρ G Q0, SimS K H σ ρ ∧ SimG K H G ∧ t ρ G Q0 ∧ ∀ items live G' H' J, Q0 items live G' → Fr H G H' G' → SimG K H' G' → ItOk K H' J items live → R J H'
def ZI (X : Cx) (tg iter : Expr) (t : DI) : Prop := PI X tg iter (upI X.K t)
theorem PIi {X : Cx} {tg e : Expr} {t t' : TI} (h : PI X tg e t) (i : ∀ σ H Q, t' σ H Q → t σ H Q) : PI X tg e t' := ⟨fun pins s σ H R I q => h.run pins s σ H R I (i σ H R q)⟩

theorem itok_list {K : PySem.W.Frag} {Hs : Hp} {a : Addr} {ds : List D} : ItOk K Hs (Itl K a) ds (fun G => G a = some (.lst ds)) where
  go := fun i H G _ g l hi => by
    obtain ⟨xs, hx, r⟩ := g a _ l
    obtain ⟨v, hv, _⟩ := r.get (List.getElem?_eq_getElem hi)
    exact ⟨xs, v, SqL.of hx, hv⟩
  yld := fun i d H G x H' _ g l hi y => by
    obtain ⟨rfl, y⟩ := y
    obtain ⟨xs, hx, r⟩ := g a _ l
    obtain ⟨v, hv, rv⟩ := r.get hi
    have e := y xs (SqL.of hx)
    rw [hv] at e
    cases e
    exact ⟨Fr.refl _ _, g, rv⟩
  stop := fun H G _ g l => by
    obtain ⟨xs, hx, r⟩ := g a _ l
    exact ⟨xs, SqL.of hx, by rw [r.length]; exact Nat.le_refl _⟩
theorem itok_cl {K : PySem.W.Frag} {Hs : Hp} {a : Addr} {xs : List V} {ds : List D} (hq : CqL K Hs a xs) (r : Reps K Hs xs ds) : ItOk K Hs (Itl K a) ds (fun _ => True) where
  go := fun i H G t g l hi => by
    obtain ⟨v, hv, _⟩ := r.get (List.getElem?_eq_getElem hi)
    exact ⟨xs, v, (t.cq hq).sq, hv⟩
  yld := fun i d H G x H' t g l hi y => by
    obtain ⟨rfl, y⟩ := y
    obtain ⟨v, hv, rv⟩ := r.get hi
    have e := y xs (t.cq hq).sq
    rw [hv] at e
    cases e
    exact ⟨Fr.refl _ _, g, rv.mono t⟩
  stop := fun H G t g l => ⟨xs, (t.cq hq).sq, by rw [r.length]; exact Nat.le_refl _⟩
theorem itok_tup {K : PySem.W.Frag} {Hs : Hp} {a : Addr} {xs : List V} {ds : List D} (hq : TqT K Hs a xs) (r : Reps K Hs xs ds) : ItOk K Hs (Itt K a) ds (fun _ => True) where
  go := fun i H G t g l hi => by
    obtain ⟨v, hv, _⟩ := r.get (List.getElem?_eq_getElem hi)
    exact ⟨xs, v, (t.tq hq).sq, hv⟩
  yld := fun i d H G x H' t g l hi y => by
    obtain ⟨rfl, y⟩ := y
    obtain ⟨v, hv, rv⟩ := r.get hi
    have e := y xs (t.tq hq).sq
    rw [hv] at e
    cases e
    exact ⟨Fr.refl _ _, g, rv.mono t⟩
  stop := fun H G t g l => ⟨xs, (t.tq hq).sq, by rw [r.length]; exact Nat.le_refl _⟩
theorem itok_ct {K : PySem.W.Frag} {Hs : Hp} {a : Addr} {xs : List V} {ds : List D} (hq : CqT K a xs) (r : Reps K Hs xs ds) : ItOk K Hs (Itt K a) ds (fun _ => True) where
  go := fun i H G t g l hi => by
    obtain ⟨v, hv, _⟩ := r.get (List.getElem?_eq_getElem hi)
    exact ⟨xs, v, hq.sq, hv⟩
  yld := fun i d H G x H' t g l hi y => by
    obtain ⟨rfl, y⟩ := y
    obtain ⟨v, hv, rv⟩ := r.get hi
    have e := y xs hq.sq
    rw [hv] at e
    cases e
    exact ⟨Fr.refl _ _, g, rv.mono t⟩
  stop := fun H G t g l => ⟨xs, hq.sq, by rw [r.length]; exact Nat.le_refl _⟩
def rngD (lo : Int) (n : Nat) : List D := (List.range n).map fun i => D.int (lo + (i : Nat))
theorem rngD_len (lo : Int) (n : Nat) : (rngD lo n).length = n := by simp [rngD]
theorem rngD_get {lo : Int} {n i : Nat} {d : D} (h : (rngD lo n)[i]? = some d) : i < n ∧ d = .int (lo + (i : Nat)) := by
  have hi : i < n := by
    have := (List.getElem?_eq_some_iff.mp h).1
    rw [rngD_len] at this
    exact this
  refine ⟨hi, ?_⟩
  unfold rngD at h
  rw [List.getElem?_map, List.getElem?_range hi] at h
  cases h
  rfl
theorem itok_rng {K : PySem.W.Frag} {Hs : Hp} {lo : Int} {n : Nat} : ItOk K Hs (Itr lo n) (rngD lo n) (fun _ => True) where
  go := fun i H G t g l hi => by rw [rngD_len] at hi; exact hi
  yld := fun i d H G x H' t g l hi y => by
    obtain ⟨rfl, rfl⟩ := y
    obtain ⟨_, rfl⟩ := rngD_get hi
    exact ⟨Fr.refl _ _, g, .int _⟩
  stop := fun H G t g l => by rw [rngD_len]; exact Nat.le_refl n
def enD (ds : List D) : List D := ds.zipIdx.map fun p => .tup [.int (p.2 : Nat), p.1]
theorem enD_len (ds : List D) : (enD ds).length = ds.length := by simp [enD]
theorem enD_get {ds : List D} {i : Nat} {d : D} (h : (enD ds)[i]? = some d) : ∃ e, ds[i]? = some e ∧ d = .tup [.int (i : Nat), e] := by
  unfold enD at h
  rw [List.getElem?_map, List.getElem?_zipIdx] at h
  cases e : ds[i]? with
  | none => rw [e] at h; cases h
  | some x =>
    rw [e] at h
    simp only [Option.map_some, Nat.zero_add, Option.some.injEq] at h
    exact ⟨x, rfl, h.symm⟩
theorem itok_enum {K : PySem.W.Frag} {Hs : Hp} {a : Addr} {ds : List D} : ItOk K Hs (Ite K a) (enD ds) (fun G => G a = some (.lst ds)) where
  go := fun i H G _ g l hi => by
    rw [enD_len] at hi
    obtain ⟨xs, hx, r⟩ := g a _ l
    obtain ⟨v, hv, _⟩ := r.get (List.getElem?_eq_getElem hi)
    exact ⟨xs, v, SqL.of hx, hv⟩
  yld := fun i d H G x H' _ g l hi y => by
    obtain ⟨T, w, rfl, hT, rfl, y⟩ := y
    obtain ⟨e, he, rfl⟩ := enD_get hi
    obtain ⟨xs, hx, r⟩ := g a _ l
    obtain ⟨v, hv, rv⟩ := r.get he
    have e := y xs (SqL.of hx)
    rw [hv] at e
    cases e
    have t := tm_new (o := .tup [.int (i : Nat), w]) hT
    exact ⟨Fr.tup hT, g.keep hT, .tup upd_same (.cons (.int _) (.cons (rv.mono t) .nil))⟩
  stop := fun H G _ g l => by
    obtain ⟨xs, hx, r⟩ := g a _ l
    exact ⟨xs, SqL.of hx, by rw [r.length, enD_len]; exact Nat.le_refl _⟩
def zipD (ds es : List D) : List D := (ds.zip es).map fun p => .tup [p.1, p.2]
theorem zipD_get {ds es : List D} {i : Nat} {d : D} (h : (zipD ds es)[i]? = some d) : ∃ x y, ds[i]? = some x ∧ es[i]? = some y ∧ d = .tup [x, y] := by
  unfold zipD at h
  rw [List.getElem?_map] at h
  cases e : (ds.zip es)[i]? with
  | none => rw [e] at h; cases h
  | some p =>
    rw [e] at h
    simp only [Option.map_some, Option.some.injEq] at h
    obtain ⟨h1, h2⟩ := List.getElem?_zip_eq_some.mp e
    exact ⟨p.1, p.2, h1, h2, h.symm⟩
theorem zipD_len (ds es : List D) : (zipD ds es).length = min ds.length es.length := by simp [zipD]
theorem itok_zip {K : PySem.W.Frag} {Hs : Hp} {a b : Addr} {ds es : List D} : ItOk K Hs (Itz K a b) (zipD ds es) (fun G => G a = some (.lst ds) ∧ G b = some (.lst es)) where
  go := fun i H G _ g l hi => by
    rw [zipD_len] at hi
    obtain ⟨xs, hx, r⟩ := g a _ l.1
    obtain ⟨ys, hy, r2⟩ := g b _ l.2
    obtain ⟨v, hv, _⟩ := r.get (List.getElem?_eq_getElem (show i < ds.length by omega))
    obtain ⟨w, hw, _⟩ := r2.get (List.getElem?_eq_getElem (show i < es.length by omega))
    exact ⟨xs, ys, v, w, SqL.of hx, SqL.of hy, hv, hw⟩
  yld := fun i d H G x H' _ g l hi y => by
    obtain ⟨T, w, u, rfl, hT, rfl, y1, y2⟩ := y
    obtain ⟨e1, e2, he1, he2, rfl⟩ := zipD_get hi
    obtain ⟨xs, hx, r⟩ := g a _ l.1
    obtain ⟨ys, hy, r2⟩ := g b _ l.2
    obtain ⟨v, hv, rv⟩ := r.get he1
    obtain ⟨v2, hv2, rv2⟩ := r2.get he2
    have e := y1 xs (SqL.of hx)
    rw [hv] at e
    cases e
    have e := y2 ys (SqL.of hy)
    rw [hv2] at e
    cases e
    have t := tm_new (o := .tup [w, u]) hT
    exact ⟨Fr.tup hT, g.keep hT, .tup upd_same (.cons (rv.mono t) (.cons (rv2.mono t) .nil))⟩
  stop := fun H G _ g l => by
    obtain ⟨xs, hx, r⟩ := g a _ l.1
    obtain ⟨ys, hy, r2⟩ := g b _ l.2
    refine ⟨xs, ys, SqL.of hx, SqL.of hy, ?_⟩
    have h1 := r.length
    have h2 := r2.length
    rw [zipD_len]
    omega
theorem RepKV.len {κ : Type} {K : PySem.W.Frag} {H : Hp} : ∀ {ds : List (κ × D)} {vs : List (κ × V)}, RepKV K H vs ds → vs.length = ds.length
  | [], _, .nil => rfl
  | _ :: _, _, .cons _ r => by rw [List.length_cons, List.length_cons, r.len]
theorem RepKV.get {κ : Type} {K : PySem.W.Frag} {H : Hp} : ∀ {ds : List (κ × D)} {vs : List (κ × V)} {i : Nat} {k : κ} {d : D}, RepKV K H vs ds → ds[i]? = some (k, d) → ∃ v, vs[i]? = some (k, v) ∧ Rep K H v d
  | _ :: _, _, 0, _, _, .cons h _, e => by
    cases e
    exact ⟨_, rfl, h⟩
  | _ :: _, _, i + 1, _, _, .cons _ r, e => by
    obtain ⟨v, h1, h2⟩ := RepKV.get (i := i) r (by simpa using e)
    exact ⟨v, by simpa using h1, h2⟩
def kD : Key → D
  | .inl i => .int i
  | .inr x => .str x
theorem rep_kD {K : PySem.W.Frag} {H : Hp} : ∀ k : Key, Rep K H (kV k) (kD k)
  | .inl i => .int i
  | .inr x => .str x
theorem reps_kD {K : PySem.W.Frag} {H : Hp} : ∀ k : List Key, Reps K H (k.map kV) (k.map kD)
  | [] => .nil
  | k :: r => .cons (rep_kD k) (reps_kD r)
theorem itok_keys {K : PySem.W.Frag} {Hs : Hp} {a : Addr} {o : Obj} {xs : List (Key × V)} {kvs : List (Key × D)} : ItOk K Hs (Itk a o xs) (kvs.map fun p => kD p.1) (fun G => G a = some (.ldk o xs kvs)) where
  go := fun i H G _ g l hi => by
    obtain ⟨hx, r⟩ := g a _ l
    rw [List.length_map] at hi
    exact ⟨hx, by rw [r.len]; exact hi⟩
  yld := fun i d H G x H' _ g l hi y => by
    obtain ⟨rfl, k, v, hk, rfl⟩ := y
    obtain ⟨hx, r⟩ := g a _ l
    rw [List.getElem?_map] at hi
    cases e : kvs[i]? with
    | none => rw [e] at hi; cases hi
    | some p =>
      obtain ⟨k', d'⟩ := p
      rw [e] at hi
      simp only [Option.map_some, Option.some.injEq] at hi
      subst hi
      obtain ⟨v', hv', _⟩ := r.get e
      rw [hv'] at hk
      cases hk
      exact ⟨Fr.refl _ _, g, rep_kD _⟩
  stop := fun H G _ g l => by
    obtain ⟨hx, r⟩ := g a _ l
    exact ⟨hx, by rw [r.len, List.length_map]; exact Nat.le_refl _⟩
theorem itok_keysT {K : PySem.W.Frag} {Hs : Hp} {a : Addr} {o : Obj} {xs : List (List Key × V)} {kvs : List (List Key × D)} : ItOk K Hs (Itkt a o xs) (kvs.map fun p => .tup (p.1.map kD)) (fun G => G a = some (.ldt o xs kvs)) where
  go := fun i H G _ g l hi => by
    obtain ⟨hx, r⟩ := g a _ l
    rw [List.length_map] at hi
    exact ⟨hx, by rw [r.len]; exact hi⟩
  yld := fun i d H G x H' _ g l hi y => by
    obtain ⟨rfl, k, v, q, hk, rfl, hq⟩ := y
    obtain ⟨hx, r⟩ := g a _ l
    rw [List.getElem?_map] at hi
    cases e : kvs[i]? with
    | none => rw [e] at hi; cases hi
    | some p =>
      obtain ⟨k', d'⟩ := p
      rw [e] at hi
      simp only [Option.map_some, Option.some.injEq] at hi
      subst hi
      obtain ⟨v', hv', _⟩ := r.get e
      rw [hv'] at hk
      cases hk
      exact ⟨Fr.refl _ _, g, .tup hq (reps_kD _)⟩
  stop := fun H G _ g l => by
    obtain ⟨hx, r⟩ := g a _ l
    exact ⟨hx, by rw [r.len, List.length_map]; exact Nat.le_refl _⟩
def strD (x : Str) : List D := x.cps.toList.map fun c => .str ⟨#[c]⟩
theorem strD_len (x : Str) : (strD x).length = x.cps.size := by simp [strD]
theorem itok_str {K : PySem.W.Frag} {Hs : Hp} {x : Str} : ItOk K Hs (Its x) (strD x) (fun _ => True) where
  go := fun i H G _ g l hi => by rw [strD_len] at hi; exact hi
  yld := fun i d H G v H' _ g l hi y => by
    obtain ⟨rfl, c, hc, rfl⟩ := y
    unfold strD at hi
    rw [List.getElem?_map, Array.getElem?_toList, hc] at hi
    cases hi
    exact ⟨Fr.refl _ _, g, .str _⟩
  stop := fun H G _ g l => by rw [strD_len]; exact Nat.le_refl _

section
variable {X : Cx} {tg a b : Expr} {ta tb : DE} {tA : DA} {pos p : Pos}
/-- a list that stands (tracked or written) -/
def zList (te : DE) : DI := fun ρ G Q => te ρ G fun d G1 => match d with
  | .cl ds => Q ds (fun _ => True) G1
  | .ref a => match G1 a with
    | some (.lst ds) => Q ds (fun G => G a = some (.lst ds)) G1
    | _ => False
  | _ => False
theorem zi_list (h : ZE X a ta) : ZI X tg a (zList ta) := PIi (pi_list h) fun σ H R q => by
  obtain ⟨ρ, G, Q0, hs, hg, h, k⟩ := q
  refine ⟨ρ, G, _, hs, hg, h, fun d G1 x H1 h1 f1 g1 r1 => ?_⟩
  cases r1 with
  | cl hq r => exact ⟨_, rfl, ⟨_, hq.sq⟩, k _ _ G1 H1 _ h1 f1 g1 (itok_cl hq r)⟩
  | ref p =>
    simp only at h1
    split at h1
    · rename_i ds e
      obtain ⟨xs, hx, r⟩ := g1 p _ e
      exact ⟨_, rfl, ⟨_, SqL.of hx⟩, k _ _ G1 H1 _ h1 f1 g1 itok_list⟩
    · cases h1
  | _ => cases h1
def zTupI (te : DE) : DI := fun ρ G Q => te ρ G fun d G1 => match d with
  | .tup ds => Q ds (fun _ => True) G1
  | .ct ds => Q ds (fun _ => True) G1
  | _ => False
theorem zi_tup (h : ZE X a ta) : ZI X tg a (zTupI ta) := PIi (pi_tup h) fun σ H R q => by
  obtain ⟨ρ, G, Q0, hs, hg, h, k⟩ := q
  refine ⟨ρ, G, _, hs, hg, h, fun d G1 x H1 h1 f1 g1 r1 => ?_⟩
  cases r1 with
  | tup hq r => exact ⟨_, rfl, ⟨_, hq.sq⟩, k _ _ G1 H1 _ h1 f1 g1 (itok_tup hq r)⟩
  | ct hq r => exact ⟨_, rfl, ⟨_, hq.sq⟩, k _ _ G1 H1 _ h1 f1 g1 (itok_ct hq r)⟩
  | _ => cases h1
def zStrI (te : DE) : DI := fun ρ G Q => te ρ G fun d G1 => match d with
  | .str x => Q (strD x) (fun _ => True) G1
  | _ => False
theorem zi_str (h : ZE X a ta) : ZI X tg a (zStrI ta) := PIi (pi_str h) fun σ H R q => by
  obtain ⟨ρ, G, Q0, hs, hg, h, k⟩ := q
  refine ⟨ρ, G, _, hs, hg, h, fun d G1 x H1 h1 f1 g1 r1 => ?_⟩
  cases r1 with
  | str y => exact ⟨_, rfl, k _ _ G1 H1 _ h1 f1 g1 itok_str⟩
  | _ => cases h1
def zKeysI (te : DE) : DI := fun ρ G Q => te ρ G fun d G1 => match d with
  | .ref a => match G1 a with
    | some (.ldk o xs kvs) => Q (kvs.map fun p => kD p.1) (fun G => G a = some (.ldk o xs kvs)) G1
    | some (.ldt o xs kvs) => Q (kvs.map fun p => .tup (p.1.map kD)) (fun G => G a = some (.ldt o xs kvs)) G1
    | _ => False
  | _ => False
theorem zi_keys (h : ZE X a ta) : ZI X tg a (zKeysI ta) := PIi (pi_keys h) fun σ H R q => by
  obtain ⟨ρ, G, Q0, hs, hg, h, k⟩ := q
  refine ⟨ρ, G, _, hs, hg, h, fun d G1 x H1 h1 f1 g1 r1 => ?_⟩
  cases r1 with
  | ref p =>
    simp only at h1
    split at h1
    · rename_i o xs kvs e
      exact ⟨_, o, rfl, .inl ⟨xs, (g1 p _ e).1, k _ _ G1 H1 _ h1 f1 g1 itok_keys⟩⟩
    · rename_i o xs kvs e
      exact ⟨_, o, rfl, .inr ⟨xs, (g1 p _ e).1, k _ _ G1 H1 _ h1 f1 g1 itok_keysT⟩⟩
    · cases h1
  | _ => cases h1
def zRng1 (tA : DA) : DI := fun ρ G Q => tA ρ G fun ds G1 => match ds with
  | [.int n] => -(2 ^ 62) ≤ n ∧ n < 2 ^ 62 ∧ Q (rngD 0 n.toNat) (fun _ => True) G1
  | _ => False
theorem zi_rng1 (hg : Gl X "range") (hm : X.mg "range" = none) (ha : ZA X [a] tA) (hs : starEach [a] X.env = [(false, eval a X.env)] := by rfl) : ZI X tg (.Call (.Name "range" p) [a] [] pos) (zRng1 tA) := PIi (pi_range1 hg hm ha hs) fun σ H R q => by
  obtain ⟨ρ, G, Q0, hs, hg, h, k⟩ := q
  refine ⟨ρ, G, _, hs, hg, h, fun ds G1 xs H1 h1 f1 g1 r1 => ?_⟩
  cases r1 with
  | nil => cases h1
  | cons r r2 =>
    cases r2 with
    | nil =>
      cases r with
      | int n => exact ⟨n, rfl, h1.1, h1.2.1, k _ _ G1 H1 _ h1.2.2 f1 g1 itok_rng⟩
      | _ => cases h1
    | cons r3 r4 => cases r <;> cases h1
def zRng2 (tA : DA) : DI := fun ρ G Q => tA ρ G fun ds G1 => match ds with
  | [.int i, .int j] => (-(2 ^ 62) ≤ i ∧ i < 2 ^ 62 ∧ -(2 ^ 62) ≤ j ∧ j < 2 ^ 62) ∧ Q (rngD i (j - i).toNat) (fun _ => True) G1
  | _ => False
theorem zi_rng2 (hg : Gl X "range") (hm : X.mg "range" = none) (ha : ZA X [a, b] tA) (hs : starEach [a, b] X.env = [(false, eval a X.env), (false, eval b X.env)] := by rfl) (hs2 : starEach [b] X.env = [(false, eval b X.env)] := by rfl) :
    ZI X tg (.Call (.Name "range" p) [a, b] [] pos) (zRng2 tA) := PIi (pi_range2 hg hm ha hs hs2) fun σ H R q => by
  obtain ⟨ρ, G, Q0, hs, hg, h, k⟩ := q
  refine ⟨ρ, G, _, hs, hg, h, fun ds G1 xs H1 h1 f1 g1 r1 => ?_⟩
  match ds, xs, r1, h1 with
  | [.int i, .int j], _, .cons (.int _) (.cons (.int _) .nil), h1 => exact ⟨i, j, rfl, h1.1, k _ _ G1 H1 _ h1.2 f1 g1 itok_rng⟩
def zEnum (tA : DA) : DI := fun ρ G Q => tA ρ G fun ds G1 => match ds with
  | [.ref a] => match G1 a with
    | some (.lst ds) => Q (enD ds) (fun G => G a = some (.lst ds)) G1
    | _ => False
  | _ => False
theorem zi_enum {elts : List Expr} {kk : Nat} {tpos : Pos} (hg : Gl X "enumerate") (hm : X.mg "enumerate" = none) (ha : ZA X [a] tA) (hs : starEach [a] X.env = [(false, eval a X.env)] := by rfl) :
    ZI X (.Tuple elts kk tpos) (.Call (.Name "enumerate" p) [a] [] pos) (zEnum tA) := PIi (pi_enum hg hm ha hs) fun σ H R q => by
  obtain ⟨ρ, G, Q0, hs, hg, h, k⟩ := q
  refine ⟨ρ, G, _, hs, hg, h, fun ds G1 xs H1 h1 f1 g1 r1 => ?_⟩
  match ds, xs, r1, h1 with
  | [.ref q], _, .cons (.ref _) .nil, h1 =>
    simp only at h1
    split at h1
    · rename_i ds e
      obtain ⟨xs, hx, r⟩ := g1 q _ e
      exact ⟨q, xs, rfl, SqL.of hx, k _ _ G1 H1 _ h1 f1 g1 itok_enum⟩
    · cases h1
def zZip (tA : DA) : DI := fun ρ G Q => tA ρ G fun ds G1 => match ds with
  | [.ref a, .ref b] => match G1 a, G1 b with
    | some (.lst ds), some (.lst es) => Q (zipD ds es) (fun G => G a = some (.lst ds) ∧ G b = some (.lst es)) G1
    | _, _ => False
  | _ => False
theorem zi_zip {elts : List Expr} {kk : Nat} {tpos : Pos} (hg : Gl X "zip") (hm : X.mg "zip" = none) (ha : ZA X [a, b] tA) (hs : starEach [a, b] X.env = (false, eval a X.env) :: starEach [b] X.env := by rfl) (hpl : (backTo pos (starEach [b] X.env)).any (·.1) = false := by rfl) :
    ZI X (.Tuple elts kk tpos) (.Call (.Name "zip" p) [a, b] [] pos) (zZip tA) := PIi (pi_zip hg hm ha hs hpl) fun σ H R q => by
  obtain ⟨ρ, G, Q0, hs, hg, h, k⟩ := q
  refine ⟨ρ, G, _, hs, hg, h, fun ds G1 xs H1 h1 f1 g1 r1 => ?_⟩
  match ds, xs, r1, h1 with
  | [.ref q, .ref q2], _, .cons (.ref _) (.cons (.ref _) .nil), h1 =>
    simp only at h1
    split at h1
    · rename_i ds es e e2
      obtain ⟨xs, hx, r⟩ := g1 q _ e
      obtain ⟨ys, hy, r2⟩ := g1 q2 _ e2
      exact ⟨q, q2, xs, ys, rfl, SqL.of hx, SqL.of hy, k _ _ G1 H1 _ h1 f1 g1 itok_zip⟩
    · cases h1

/-! ### for -/
def zFor (zi : DI) (g : DG) (tb : DS) : DS := fun Z ρ G => zi ρ G fun items live G1 => ∃ P : Nat → ZSt → Gp → Prop, P 0 ρ G1 ∧
  (∀ i d ρ' G', items[i]? = some d → P i ρ' G' → live G' ∧ g d ρ' G' fun ρ2 G2 => tb { nx := P (i + 1), ct := P (i + 1), bk := Z.nx, rt := Z.rt } ρ2 G2) ∧
  ∀ ρ' G', P items.length ρ' G' → live G' ∧ Z.nx ρ' G'
theorem z_for {iter : Expr} {body : List Stmt} {wi : DI} {g : DG} {tb : DS} (hp : PassesOwn (model X.prog X.w) X.A X.env X.xe) (hc : X.calm = true) (hi : ZI X tg iter wi) (hg : ZG X tg g) (hb : ZSs X body tb)
    (hs : ∀ x, foldedSetIterable iter X.env x = pure x := by intro _; rfl) : ZS X (.For tg iter body [] pos) (zFor wi g tb) := PSi (ps_for hp hc hi hg hb hs) fun D σ H q => by
  obtain ⟨ρ, G, Z, hs, hg, h, k1, k2, k3, k4⟩ := q
  refine ⟨ρ, G, _, hs, hg, h, fun items live G1 H1 J h1 f1 g1 it => ?_⟩
  obtain ⟨P, p0, step, done⟩ := h1
  refine ⟨fun i m σ' H' => m = items.length - i ∧ i ≤ items.length ∧ ∃ ρ' G', SimS X.K H' σ' ρ' ∧ SimG X.K H' G' ∧ Fr H1 G1 H' G' ∧ P i ρ' G', ⟨_, rfl, Nat.zero_le _, ρ, G1, hs.mono (hg.tm f1), g1, Fr.refl _ _, p0⟩, ?_⟩
  rintro i m σ' H' ⟨rfl, hi, ρ', G', s', g', f', p'⟩
  have tm := g1.tm f'
  by_cases hlt : i < items.length
  · have hd := List.getElem?_eq_getElem hlt
    obtain ⟨lv, st⟩ := step i _ ρ' G' hd p'
    refine .inr ⟨it.go i H' G' tm g' lv hlt, fun σ2 H2 => ∃ ρ2 G2, SimS X.K H2 σ2 ρ2 ∧ SimG X.K H2 G2 ∧ Fr H1 G1 H2 G2 ∧ P (i + 1) ρ2 G2, fun σ2 H2 ⟨ρ2, G2, s2, g2, f2, p2⟩ => ⟨_, by omega, rfl, hlt, ρ2, G2, s2, g2, f2, p2⟩, fun x H2 y => ?_⟩
    obtain ⟨fy, gy, ry⟩ := it.yld i _ H' G' x H2 tm g' lv hd y
    refine ⟨_, ρ', G', _, ry, s'.mono (g'.tm fy), gy, st, fun ρ3 G3 σ3 H3 h3 f3 g3 s3 => ?_⟩
    have ff : Fr H1 G1 H3 G3 := (f'.trans fy).trans f3
    have nn : SK X.K H3 G3 (P (i + 1)) (fun σ2 H2 => ∃ ρ2 G2, SimS X.K H2 σ2 ρ2 ∧ SimG X.K H2 G2 ∧ Fr H1 G1 H2 G2 ∧ P (i + 1) ρ2 G2) := fun ρ4 G4 σ4 H4 p4 f4 g4 s4 => ⟨ρ4, G4, s4, g4, ff.trans f4, p4⟩
    exact ⟨ρ3, G3, _, s3, g3, h3, nn, CK.go k2 (f1.trans ff), SK.go k1 (f1.trans ff), nn⟩
  · have e : i = items.length := by omega
    subst e
    obtain ⟨lv, nx⟩ := done ρ' G' p'
    exact .inl ⟨it.stop H' G' tm g' lv, k1 ρ' G' σ' H' nx (f1.trans f') g' s'⟩

/-! ### comprehensions -/
def zwipe (ρ : ZSt) : List Nat → ZSt
  | [] => ρ
  | v :: vs => (zwipe ρ vs).set v none
theorem SimS.wipe {K : PySem.W.Frag} {H : Hp} {σ : L2.St} {ρ : ZSt} (s : SimS K H σ ρ) : ∀ vs : List Nat, SimS K H (wipe σ vs) (zwipe ρ vs)
  | [] => s
  | v :: vs => (SimS.wipe s vs).unset
/-- a target that stores into the block's own slots alone -/
def GRel (K : PySem.W.Frag) (vs : List Nat) (gv : TG) (g : DG) : Prop := ∀ d v ρ σ H G Q0 Q, Rep K H v d → SimS K H σ ρ → SimG K H G → g d ρ G Q0 →
  (∀ ρ' G' σ' H', Q0 ρ' G' → Fr H G H' G' → SimG K H' G' → SimS K H' σ' ρ' → wipe σ' vs = wipe σ vs → Q σ' H') → gv v σ H Q
def GsRel (K : PySem.W.Frag) (vs : List Nat) (gv : TGs) (g : DGs) : Prop := ∀ d v ρ σ H G Q0 Q, Reps K H v d → SimS K H σ ρ → SimG K H G → g d ρ G Q0 →
  (∀ ρ' G' σ' H', Q0 ρ' G' → Fr H G H' G' → SimG K H' G' → SimS K H' σ' ρ' → wipe σ' vs = wipe σ vs → Q σ' H') → gv v σ H Q
theorem wipe_set {σ : L2.St} {i : Nat} {x : Option V} : ∀ {vs : List Nat}, i ∈ vs → wipe (σ.set i x) vs = wipe σ vs
  | v :: vs, h => by
    by_cases hv : i ∈ vs
    · unfold wipe
      rw [wipe_set hv]
    · have e : i = v := by
        rcases List.mem_cons.mp h with e | e
        · exact e
        · exact absurd e hv
      subst e
      have out : ∀ {us : List Nat}, i ∉ us → wipe (σ.set i x) us = (wipe σ us).set i x := by
        intro us
        induction us with
        | nil => intro _; rfl
        | cons u us ih =>
          intro hu
          unfold wipe
          rw [ih (fun z => hu (List.mem_cons_of_mem _ z)), List.set_comm _ _ (fun z => hu (by rw [z]; exact List.mem_cons_self))]
      show (wipe (σ.set i x) vs).set i none = (wipe σ vs).set i none
      rw [out hv, List.set_set]
theorem grel_name {K : PySem.W.Frag} {vs : List Nat} {i : Nat} (h : i ∈ vs) : GRel K vs (gName i) (zName i) := fun d v ρ σ H G Q0 Q r s g q k => k _ G _ H q (Fr.refl H G) g (s.set r) (wipe_set h)
theorem gsrel_nil {K : PySem.W.Frag} {vs : List Nat} : GsRel K vs gNil zgNil := fun d v ρ σ H G Q0 Q r s g q k => by
  obtain ⟨rfl, q⟩ := q
  cases r
  exact ⟨rfl, k _ G _ H q (Fr.refl H G) g s rfl⟩
theorem gsrel_cons {K : PySem.W.Frag} {vs : List Nat} {gv : TG} {g : DG} {uv : TGs} {u : DGs} (h1 : GRel K vs gv g) (h2 : GsRel K vs uv u) : GsRel K vs (gCons gv uv) (zgCons g u) := fun d v ρ σ H G Q0 Q r s g q k => by
  cases r with
  | nil => exact q.elim
  | cons ra rb => exact ⟨_, _, rfl, h1 _ _ ρ σ H G _ _ ra s g q fun ρ' G' σ' H' q' f' g' s' w' => h2 _ _ ρ' σ' H' G' Q0 Q (rb.mono (g.tm f')) s' g' q' fun ρ2 G2 σ2 H2 q2 f2 g2 s2 w2 => k ρ2 G2 σ2 H2 q2 (f'.trans f2) g2 s2 (w2.trans w')⟩
theorem grel_tup {K : PySem.W.Frag} {vs : List Nat} {n : Nat} {uv : TGs} {u : DGs} (h : GsRel K vs uv u) : GRel K vs (gTup K n uv) (zgTup n u) := fun d v ρ σ H G Q0 Q r s g q k => by
  cases r with
  | tup hq r => exact ⟨_, _, rfl, hq.sq, by rw [r.length]; exact q.1, h _ _ ρ σ H G Q0 Q r s g q.2 k⟩
  | _ => exact False.elim q
def zYes : DT := fun _ G Q => Q true G
def ZTs (X : Cx) (ifs : List Expr) (t : DT) : Prop := PTs X ifs (upT X.K t)
theorem PTsi {ifs : List Expr} {t t' : TT} (h : PTs X ifs t) (i : ∀ σ H Q, t' σ H Q → t σ H Q) : PTs X ifs t' := ⟨fun pins s σ H Q I q => h.run pins s σ H Q I (i σ H Q q)⟩
theorem zts_nil : ZTs X [] zYes := PTsi pts_nil fun σ H Q q => by
  obtain ⟨ρ, G, Q0, hs, hg, h, k⟩ := q
  exact k true G H h (Fr.refl H G) hg
theorem zts_one {c : Expr} {t : DT} (h : ZT X c t) : ZTs X [c] t := pts_one h
theorem sim_own {K : PySem.W.Frag} {H : Hp} {G : Gp} {D : Addr} {xs ys : List V} (s : SimG K H G) (h : H D = some (.lst xs)) (n : G D = Option.none) (bb : β.B (upd H D (.lst ys)) G) : SimG K (upd H D (.lst ys)) G := by
  have t : Tm H (L2.upd H D (.lst ys)) := tm_set h fun z => z
  refine ⟨⟨fun b m e => ?_, fun p hp => TabS.tm (s.tabs p hp) t (upd_ne ?_), s.apart⟩, bb⟩
  · have hb : b ≠ D := by
      rintro rfl
      rw [n] at e; cases e
    exact (s b m e).mono t (upd_ne hb)
  · intro z
    obtain ⟨ps, h1, _⟩ := s.tabs p hp
    rw [z, h] at h1; cases h1
theorem sim_join {K : PySem.W.Frag} {H : Hp} {G : Gp} {D : Addr} {xs : List V} {m : MO} (s : SimG K H G) (h : H D = some (.lst xs)) (r : RepO K H D m) (bb : β.B H (put G D m)) : SimG K H (put G D m) := by
  refine ⟨⟨fun b n e => ?_, s.tabs, fun p hp => ?_⟩, bb⟩
  · by_cases hb : b = D
    · subst hb
      rw [put_same] at e
      cases e
      exact r
    · rw [put_ne hb] at e
      exact s b n e
  · have hb : p.1 ≠ D := by
      intro z
      obtain ⟨ps, h1, _⟩ := s.tabs p hp
      rw [z, h] at h1; cases h1
    rw [put_ne hb]
    exact s.apart p hp
def zLc (zi : DI) (g : DG) (tt : DT) (te : DE) (vs : List Nat) : DE := fun ρ G Q => zi ρ G fun items live G1 => ∃ P : Nat → List D → Gp → Prop, P 0 [] G1 ∧
  (∀ i d acc G', items[i]? = some d → P i acc G' → live G' ∧ acc.length < sizeLine ∧ g d (zwipe ρ vs) G' fun ρ2 G2 => tt ρ2 G2 fun b G3 => if b = true then te ρ2 G3 fun e G4 => P (i + 1) (acc ++ [e]) G4 else P (i + 1) acc G3) ∧
  ∀ acc G', P items.length acc G' → live G' ∧ ∀ p G2, G' p = none → At G' p (.lst acc) G2 → Q (.ref p) G2
theorem up_lc {K : PySem.W.Frag} {zi : DI} {gv : TG} {g : DG} {tt : DT} {te : DE} {vs : List Nat} (gr : GRel K vs gv g) {σ : L2.St} {H : Hp} {Q : VK} (q : upE K (zLc zi g tt te vs) σ H Q) : tLc (upI K zi) gv (upT K tt) (upE K te) vs σ H Q := by
  obtain ⟨ρ, G, Q0, hs, hg, h, k⟩ := q
  refine ⟨ρ, G, _, hs, hg, h, fun items live G1 H1 J h1 f1 g1 it D hD => ?_⟩
  obtain ⟨P, p0, step, done⟩ := h1
  have gD := g1.none hD
  -- the new list at D stands beside what the walk knows
  refine ⟨fun i m H' => m = items.length - i ∧ i ≤ items.length ∧ ∃ acc xs G', H' D = some (.lst xs) ∧ G' D = none ∧ Reps K H' xs acc ∧ SimG K H' G' ∧ Fr H1 G1 H' G' ∧ P i acc G',
    ⟨_, rfl, Nat.zero_le _, [], [], G1, upd_same, gD, .nil, g1.keep hD, Fr.tup hD, p0⟩, ?_⟩
  rintro i m H' ⟨rfl, hi, acc, xs, G', hL, nG, rL, g', f', p'⟩
  have tm := g1.tm f'
  by_cases hlt : i < items.length
  · have hd := List.getElem?_eq_getElem hlt
    obtain ⟨lv, sz, st⟩ := step i _ acc G' hd p'
    refine .inr ⟨it.go i H' G' tm g' lv hlt, fun H2 => ∃ acc xs G2, H2 D = some (.lst xs) ∧ G2 D = none ∧ Reps K H2 xs acc ∧ SimG K H2 G2 ∧ Fr H1 G1 H2 G2 ∧ P (i + 1) acc G2, fun H2 ⟨acc, xs, G2, a1, a2, a3, a4, a5, a6⟩ => ⟨_, by omega, rfl, hlt, acc, xs, G2, a1, a2, a3, a4, a5, a6⟩, fun x H2 y => ?_⟩
    obtain ⟨fy, gy, ry⟩ := it.yld i _ H' G' x H2 tm g' lv hd y
    have s2 : SimS K H2 σ ρ := (hs.mono (hg.tm f1)).mono (g1.tm (f'.trans fy))
    refine gr _ _ _ _ H2 G' _ _ ry (s2.wipe vs) gy st fun ρ3 G3 σ3 H3 h3 f3 g3 s3 w3 => ⟨?_, ?_⟩
    · have w : wipe (wipe σ vs) vs = wipe σ vs := by
        have : ∀ {σ : L2.St} (us : List Nat), (∀ u ∈ us, u ∈ vs) → wipe (wipe σ us) vs = wipe σ vs := by
          intro σ us
          induction us with
          | nil => intro _; rfl
          | cons u us ih =>
            intro hu
            show wipe ((wipe σ us).set u none) vs = wipe σ vs
            rw [wipe_set (hu u List.mem_cons_self)]
            exact ih fun z hz => hu z (List.mem_cons_of_mem _ hz)
        exact this vs fun _ z => z
      rw [w3, w]
    refine ⟨ρ3, G3, _, s3, g3, h3, fun b G4 H4 h4 f4 g4 => ?_⟩
    have f14 : Fr H' G' H4 G4 := (fy.trans f3).trans f4
    obtain ⟨hL4, nG4⟩ := f14 D _ hL nG (fun _ z => nomatch z)
    cases b with
    | false =>
      rw [if_neg Bool.false_ne_true] at h4
      dsimp only
      rw [if_neg Bool.false_ne_true]
      exact ⟨acc, xs, G4, hL4, nG4, rL.mono (g'.tm f14), g4, f'.trans f14, h4⟩
    | true =>
      rw [if_pos rfl] at h4
      dsimp only
      rw [if_pos rfl]
      refine ⟨ρ3, G4, _, s3.mono (g3.tm f4), g4, h4, fun e G5 v H5 h5 f5 g5 r5 => ?_⟩
      have f15 := f14.trans f5
      obtain ⟨hL5, nG5⟩ := f15 D _ hL nG (fun _ z => nomatch z)
      have t5 : Tm H5 (upd H5 D (.lst (xs ++ [v]))) := tm_set hL5 fun z => z
      have ff : Fr H1 G1 (upd H5 D (.lst (xs ++ [v]))) G5 := fun b o e' n nt => by
        have hb : b ≠ D := by
          rintro rfl
          rw [hD] at e'; cases e'
        rw [upd_ne hb]
        exact (f'.trans f15) b o e' n nt
      exact ⟨xs, hL5, by rw [rL.length]; exact sz, acc ++ [e], xs ++ [v], G5, upd_same, nG5, ((rL.mono (g'.tm f15)).append (.cons r5 .nil)).mono t5, sim_own g5 hL5 nG5 (β.keep g1.base ff), ff, h5⟩
  · have e : i = items.length := by omega
    subst e
    obtain ⟨lv, fin⟩ := done acc G' p'
    have ff : Fr H1 G1 H' (put G' D (.lst acc)) := fun b o eb n nt => by
      obtain ⟨x1, x2⟩ := f' b o eb n nt
      have hb : b ≠ D := by
        rintro rfl
        rw [hD] at eb; cases eb
      rw [put_ne hb]
      exact ⟨x1, x2⟩
    exact .inl ⟨it.stop H' G' tm g' lv, k _ (put G' D (.lst acc)) _ H' (fin D _ nG (At.put G' D (.lst acc))) (f1.trans ff) (sim_join g' hL (show RepO K H' D (.lst acc) from ⟨xs, hL, rL⟩) (β.keep g1.base ff)) (.ref D)⟩
theorem z_lc {elt tg iter : Expr} {ifs : List Expr} {scope : Scope} {own : List (Str × Nat)} {pos : Pos} {wi : DI} {gv : TG} {g : DG} {tt : DT} {te : DE} (hc : X.calm = true) (hN : X.N.Nodup) (hi : ZI X tg iter wi) (ok : BlkOk X.N X.env.scope scope own) (gr : GRel X.K (own.map (·.2)) gv g)
    (hg : ∀ (s : Shared) (H : Hp) (C : Addr) (cl : List (Str × Addr)) (fp : List Addr), PG (X.blk s H scope (compEnvC scope cl C X.env) fp) tg gv) (ht : ∀ (s : Shared) (H : Hp) (C : Addr) (cl : List (Str × Addr)) (fp : List Addr), ZTs (X.blk s H scope (compEnvC scope cl C X.env) fp) ifs tt)
    (he : ∀ (s : Shared) (H : Hp) (C : Addr) (cl : List (Str × Addr)) (fp : List Addr), ZE (X.blk s H scope (compEnvC scope cl C X.env) fp) elt te) (hs : ∀ x, foldedSetIterable iter X.env x = pure x := by intro _; rfl) :
    ZE X (.ListComp elt [⟨tg, iter, ifs, 0⟩] scope pos) (zLc wi g tt te (own.map (·.2))) := PEi (pe_lc (wi := upI X.K wi) (tt := upT X.K tt) (te := upE X.K te) hc hN hi ok hg ht he hs) fun σ H Q q => up_lc gr q
theorem z_setLc {i : Nat} {y : Str} {py : Pos} {elt tg iter : Expr} {ifs : List Expr} {scope : Scope} {own : List (Str × Nat)} {pos spos : Pos} {wi : DI} {gv : TG} {g : DG} {tt : DT} {te : DE} (hc : X.calm = true) (hN : X.N.Nodup) (hy : X.N[i]? = some y) (hyl : X.env.scope.names.lookup y = some .local)
    (hsw : swapsWith (.ListComp elt [⟨tg, iter, ifs, 0⟩] scope pos) (some (.Name y py)) spos.line X.env = pure true) (hi : ZI X tg iter wi) (ok : BlkOk X.N X.env.scope scope own) (gr : GRel X.K (own.map (·.2)) gv g)
    (hg : ∀ (s : Shared) (H : Hp) (C : Addr) (cl : List (Str × Addr)) (fp : List Addr), PG (X.blk s H scope (compEnvC scope cl C X.env) fp) tg gv) (ht : ∀ (s : Shared) (H : Hp) (C : Addr) (cl : List (Str × Addr)) (fp : List Addr), ZTs (X.blk s H scope (compEnvC scope cl C X.env) fp) ifs tt)
    (he : ∀ (s : Shared) (H : Hp) (C : Addr) (cl : List (Str × Addr)) (fp : List Addr), ZE (X.blk s H scope (compEnvC scope cl C X.env) fp) elt te) (hs : ∀ x, foldedSetIterable iter X.env x = pure x := by intro _; rfl) :
    ZS X (.Assign [.Name y py] (.ListComp elt [⟨tg, iter, ifs, 0⟩] scope pos) spos) (zAsg (zLc wi g tt te (own.map (·.2))) (zName i)) := PSi (ps_setLc (wi := upI X.K wi) (tt := upT X.K tt) (te := upE X.K te) hc hN hy hyl hsw hi ok hg ht he hs) fun D σ H q => by
  obtain ⟨ρ, G, Z, hs, hg, h, k, _⟩ := q
  exact up_lc gr ⟨ρ, G, _, hs, hg, h, fun d G1 x H1 h1 f1 g1 r1 => k _ G1 _ H1 h1 f1 g1 ((hs.mono (hg.tm f1)).set r1)⟩
end
end Z

namespace Z
open PySem PySem.Spec PyProof.Rows L2
variable [τ : Tbl] [β : Bas]

/-! ### ints -/
def dI0 (g : Int → Int → D) : Z2 := fun d e G Q => match d, e with
  | .int i, .int j => Q (g i j) G
  | _, _ => False
def dI (C : Int → Int → Prop) (g : Int → Int → D) : Z2 := fun d e G Q => match d, e with
  | .int i, .int j => C i j ∧ Q (g i j) G
  | _, _ => False
section
variable {X : Cx} {f : Value → Value → Sem Value}
theorem op_i0 {g : Int → Int → V} {g' : Int → Int → D} (h : OpR X f (rI0 g)) (hg : ∀ H i j, Rep X.K H (g i j) (g' i j)) : ZOp X f (dI0 g') := OpRi h fun x y H Q q => by
  obtain ⟨d, e, G, Q0, sg, rx, ry, h, k⟩ := q
  unfold dI0 at h
  split at h
  · rename_i i j
    cases rx
    cases ry
    exact ⟨i, j, rfl, rfl, CK.at k h sg (hg H i j)⟩
  · cases h
theorem op_iC {C : Int → Int → Prop} {g : Int → Int → V} {g' : Int → Int → D} (h : OpR X f (rI C g)) (hg : ∀ H i j, Rep X.K H (g i j) (g' i j)) : ZOp X f (dI C g') := OpRi h fun x y H Q q => by
  obtain ⟨d, e, G, Q0, sg, rx, ry, h, k⟩ := q
  unfold dI at h
  split at h
  · rename_i i j
    cases rx
    cases ry
    exact ⟨i, j, rfl, rfl, h.1, CK.at k h.2 sg (hg H i j)⟩
  · cases h
theorem zo_add : ZOp X (binaryOp .Add) (dI0 fun i j => .int (i + j)) := op_i0 op_add fun _ _ _ => .int _
theorem zo_sub : ZOp X (binaryOp .Sub) (dI0 fun i j => .int (i - j)) := op_i0 op_sub fun _ _ _ => .int _
theorem zo_mul : ZOp X (binaryOp .Mult) (dI CMul fun i j => .int (i * j)) := op_iC op_mul fun _ _ _ => .int _
theorem zo_div : ZOp X (binaryOp .FloorDiv) (dI CDivN fun i j => .int (i.fdiv j)) := op_iC op_fdivN fun _ _ _ => .int _
theorem zo_mod : ZOp X (binaryOp .Mod) (dI (fun _ j => j ≠ 0) fun i j => .int (i.fmod j)) := op_iC op_modN fun _ _ _ => .int _
theorem zo_pow : ZOp X (binaryOp .Pow) (dI CPow fun i j => .int (i ^ j.toNat)) := op_iC op_pow fun _ _ _ => .int _
theorem zo_lt : ZOp X (compareOp .Lt) (dI0 fun i j => .bl (decide (i < j))) := op_i0 op_lt fun _ _ _ => .bl _
theorem zo_le : ZOp X (compareOp .LtE) (dI0 fun i j => .bl (decide (i ≤ j))) := op_i0 op_le fun _ _ _ => .bl _
theorem zo_gt : ZOp X (compareOp .Gt) (dI0 fun i j => .bl (decide (j < i))) := op_i0 op_gt fun _ _ _ => .bl _
theorem zo_ge : ZOp X (compareOp .GtE) (dI0 fun i j => .bl (decide (j ≤ i))) := op_i0 op_ge fun _ _ _ => .bl _
end
/-- -a -/
def zNeg (ta : DE) : DE := fun ρ G Q => ta ρ G fun d G1 => match d with
  | .int i => Q (.int (-i)) G1
  | _ => False
theorem z_neg {X : Cx} {a : Expr} {ta : DE} {pos : Pos} (ha : ZE X a ta) : ZE X (.UnaryOp .USub a pos) (zNeg ta) := PEi (pe_un un_neg ha) fun σ H Q q => by
  obtain ⟨ρ, G, Q0, hs, hg, h, k⟩ := q
  refine ⟨ρ, G, _, hs, hg, h, fun d G1 x H1 h1 f1 g1 r1 => ?_⟩
  cases r1 with
  | int i => exact ⟨i, rfl, k _ G1 _ H1 h1 f1 g1 (.int _)⟩
  | _ => cases h1
/-- a < b < c -/
def zChain (z z' : Z2) (ta tb tc : DE) : DE := fun ρ G Q => ta ρ G fun x G1 => tb ρ G1 fun y G2 => z x y G2 fun c G3 => match c with
  | .bl k => if k = true then tc ρ G3 fun w G4 => z' y w G4 Q else Q (.bl false) G3
  | _ => False
theorem z_tchain {X : Cx} {a b c : Expr} {ta tb tc : DE} {pos : Pos} {op op' : CmpOp} {z z' : Z2} (ho : ZOp X (compareOp op) z) (ho' : ZOp X (compareOp op') z') (ha : ZE X a ta) (hb : ZE X b tb) (hc : ZE X c tc)
    (hm : lastMarks [op, op'] [b, c] = false := by with_unfolding_all rfl) : ZT X (.Compare a [op, op'] [b, c] pos) (zTest (zChain z z' ta tb tc)) := PTi (pt_chain ho ho' ha hb hc hm) fun σ H Q q => by
  obtain ⟨ρ, G, Q0, hs, hg, h, k⟩ := q
  refine ⟨ρ, G, _, hs, hg, h, fun d G1 x H1 h1 f1 g1 r1 => ⟨ρ, G1, _, hs.mono (hg.tm f1), g1, h1, fun e G2 y H2 h2 f2 g2 r2 => ?_⟩⟩
  refine ⟨d, e, G2, _, g2, r1.mono (g1.tm f2), r2, h2, fun c G3 v H3 h3 f3 g3 r3 => ?_⟩
  cases r3 with
  | bl b =>
    refine ⟨b, rfl, ?_⟩
    have f13 := f1.trans (f2.trans f3)
    cases b with
    | true =>
      rw [if_pos rfl]
      exact ⟨ρ, G3, _, hs.mono (hg.tm f13), g3, h3, fun w G4 u H4 h4 f4 g4 r4 => ⟨e, w, G4, _, g4, r2.mono ((g2.tm f3).trans (g3.tm f4)), r4, h4, fun d5 G5 v5 H5 h5 f5 g5 r5 => by
        cases r5 with
        | bl b5 => exact ⟨b5, rfl, k b5 G5 H5 h5 (f13.trans (f4.trans f5)) g5⟩
        | _ => cases h5⟩⟩
    | false =>
      rw [if_neg Bool.false_ne_true]
      exact ⟨false, rfl, k false G3 H3 h3 f13 g3⟩
  | _ => cases h3

/-! ### data as the semantics reads it -/
mutual
def pd : D → Option PyData
  | .non => some .none
  | .bl b => some (.bool b)
  | .int i => some (.int i)
  | .str x => some (.str x)
  | .tup ds => (pds ds).map .tuple
  | .ct ds => (pds ds).map .tuple
  | .cl ds => (pds ds).map .list
  | .ty _ => none
  | .ref _ => none
def pds : List D → Option (List PyData)
  | [] => some []
  | d :: ds => match pd d, pds ds with
    | some p, some ps => some (p :: ps)
    | _, _ => none
end
mutual
theorem Rep.dp {K : PySem.W.Frag} {H : Hp} : ∀ {d : D} {v : V} {p : PyData}, Rep K H v d → pd d = some p → Dp K H v p
  | .non, _, _, .non, e => by cases e; exact .non
  | .bl b, _, _, .bl _, e => by cases e; exact .bl _
  | .int b, _, _, .int _, e => by cases e; exact .int _
  | .str b, _, _, .str _, e => by cases e; exact .str _
  | .tup ds, _, p, .tup h r, e => by
    unfold pd at e
    cases q : pds ds with
    | none => rw [q] at e; cases e
    | some ps =>
      rw [q] at e
      cases e
      exact .tup h.sq (Reps.dp r q)
  | .ct ds, _, p, .ct h r, e => by
    unfold pd at e
    cases q : pds ds with
    | none => rw [q] at e; cases e
    | some ps =>
      rw [q] at e
      cases e
      exact .tup h.sq (Reps.dp r q)
  | .cl ds, _, p, .cl h r, e => by
    unfold pd at e
    cases q : pds ds with
    | none => rw [q] at e; cases e
    | some ps =>
      rw [q] at e
      cases e
      exact .lst h.sq (Reps.dp r q)
  | .ty _, _, _, _, e => by cases e
  | .ref _, _, _, _, e => by cases e
theorem Reps.dp {K : PySem.W.Frag} {H : Hp} : ∀ {ds : List D} {vs : List V} {ps : List PyData}, Reps K H vs ds → pds ds = some ps → DpAll K H vs ps
  | [], _, _, .nil, e => by cases e; exact .nil
  | d :: ds, _, ps, .cons h r, e => by
    unfold pds at e
    split at e
    · rename_i p qs e1 e2
      cases e
      exact .cons (Rep.dp h e1) (Reps.dp r e2)
    · cases e
end
/-- one list of what changes at the top -/
def pdT (G : Gp) (d : D) : Option PyData := match d with
  | .ref a => match G a with
    | some (.lst ds) => (pds ds).map .list
    | _ => none
  | d => pd d
theorem pdT_dp {K : PySem.W.Frag} {H : Hp} {G : Gp} {d : D} {v : V} {p : PyData} (g : SimG K H G) (r : Rep K H v d) (e : pdT G d = some p) : Dp K H v p := by
  unfold pdT at e
  split at e
  · rename_i a
    split at e
    · rename_i ds ha
      cases q : pds ds with
      | none => rw [q] at e; cases e
      | some ps =>
        rw [q] at e
        cases e
        obtain ⟨xs, hx, r'⟩ := g a _ ha
        cases r
        exact .lst (SqL.of hx) (r'.dp q)
    · cases e
  · exact r.dp e
def dEq : Z2 := fun d e G Q => match pdT G d, pdT G e with
  | some p, some q => SeqAt.shaped p = true ∧ SeqAt.shaped q = true ∧ Q (.bl (PyData.eqv p q)) G
  | _, _ => False
def dNe : Z2 := fun d e G Q => match pdT G d, pdT G e with
  | some p, some q => SeqAt.shaped p = true ∧ SeqAt.shaped q = true ∧ Q (.bl (!PyData.eqv p q)) G
  | _, _ => False
section
variable {X : Cx}
theorem zo_eq (hu : X.A.units + 64 < cLine) : ZOp X (compareOp .Eq) dEq := OpRi (op_eqD hu) fun x y H Q q => by
  obtain ⟨d, e, G, Q0, sg, rx, ry, h, k⟩ := q
  unfold dEq at h
  split at h
  · rename_i p q e1 e2
    exact ⟨p, q, pdT_dp sg rx e1, pdT_dp sg ry e2, h.1, h.2.1, CK.at k h.2.2 sg (.bl _)⟩
  · cases h
theorem zo_ne (hu : X.A.units + 64 < cLine) : ZOp X (compareOp .NotEq) dNe := OpRi (op_neD hu) fun x y H Q q => by
  obtain ⟨d, e, G, Q0, sg, rx, ry, h, k⟩ := q
  unfold dNe at h
  split at h
  · rename_i p q e1 e2
    exact ⟨p, q, pdT_dp sg rx e1, pdT_dp sg ry e2, h.1, h.2.1, CK.at k h.2.2 sg (.bl _)⟩
  · cases h
/-- in, not in: a list -/
def dIn (neg : Bool) : Z2 := fun d e G Q => match pd d, pdT G e with
  | some p, some (.list qs) => SeqAt.shaped p = true ∧ SeqAt.shaped (.list qs) = true ∧ Q (.bl (if neg then !(qs.any fun z => PyData.eqv z p) else qs.any fun z => PyData.eqv z p)) G
  | _, _ => False
theorem zo_in (hu : X.A.units + 65 < cLine) : ZOp X (compareOp .In) (dIn false) := OpRi (op_inD hu) fun x y H Q q => by
  obtain ⟨d, e, G, Q0, sg, rx, ry, h, k⟩ := q
  unfold dIn at h
  split at h
  · rename_i p qs e1 e2
    exact ⟨p, qs, rx.dp e1, pdT_dp sg ry e2, h.1, h.2.1, CK.at k h.2.2 sg (.bl _)⟩
  · cases h
theorem zo_notin (hu : X.A.units + 65 < cLine) : ZOp X (compareOp .NotIn) (dIn true) := OpRi (op_notInD hu) fun x y H Q q => by
  obtain ⟨d, e, G, Q0, sg, rx, ry, h, k⟩ := q
  unfold dIn at h
  split at h
  · rename_i p qs e1 e2
    exact ⟨p, qs, rx.dp e1, pdT_dp sg ry e2, h.1, h.2.1, CK.at k h.2.2 sg (.bl _)⟩
  · cases h
/-- in, not in: a tuple of flat things -/
def flD : D → Bool
  | .non => true
  | .bl _ => true
  | .int _ => true
  | .str _ => true
  | _ => false
def eqF (d e : D) : Bool := match pd d, pd e with
  | some p, some q => PyData.eqv p q
  | _, _ => false
theorem flat_rep {K : PySem.W.Frag} {H : Hp} {v : V} {d : D} (r : Rep K H v d) (h : flD d = true) : flatV v = true := by
  cases r <;> first | rfl | cases h
theorem eqF_rep {K : PySem.W.Frag} {H : Hp} {v w : V} {d e : D} (r : Rep K H v d) (r' : Rep K H w e) (h : flD d = true) (h' : flD e = true) : eqV v w = eqF d e := by
  cases r <;> first | (exact absurd h Bool.false_ne_true) | (cases r' <;> first | (exact absurd h' Bool.false_ne_true) | rfl | (simp [eqV, eqF, pd, PyData.eqv]; done))
theorem flats_rep {K : PySem.W.Frag} {H : Hp} : ∀ {ds : List D} {vs : List V}, Reps K H vs ds → ds.all flD = true → vs.all flatV = true
  | [], _, .nil, _ => rfl
  | _ :: _, _, .cons h r, e => by
    rw [List.all_cons, Bool.and_eq_true] at e ⊢
    exact ⟨flat_rep h e.1, flats_rep r e.2⟩
theorem inV_rep {K : PySem.W.Frag} {H : Hp} {w : V} {e : D} (rw' : Rep K H w e) (he : flD e = true) : ∀ {ds : List D} {vs : List V}, Reps K H vs ds → ds.all flD = true → inV w vs = ds.any fun d => eqF d e
  | [], _, .nil, _ => rfl
  | _ :: _, _, .cons h r, q => by
    rw [List.all_cons, Bool.and_eq_true] at q
    have ih := inV_rep rw' he r q.2
    unfold inV at ih ⊢
    rw [List.any_cons, List.any_cons, ih, eqF_rep h rw' q.1 he]
/-- the items of a tuple or a list -/
def seqD (G : Gp) : D → Option (List D)
  | .tup ds => some ds
  | .ct ds => some ds
  | .cl ds => some ds
  | .ref a => match G a with
    | some (.lst ds) => some ds
    | _ => none
  | _ => none
theorem seqD_rep {K : PySem.W.Frag} {H : Hp} {G : Gp} {v : V} {d : D} {ds : List D} (g : SimG K H G) (r : Rep K H v d) (e : seqD G d = some ds) : ∃ p xs, v = .ref p ∧ (SqL K H p xs ∨ SqT K H p xs) ∧ Reps K H xs ds := by
  cases r with
  | tup h r => cases e; exact ⟨_, _, rfl, .inr h.sq, r⟩
  | ct h r => cases e; exact ⟨_, _, rfl, .inr h.sq, r⟩
  | cl h r => cases e; exact ⟨_, _, rfl, .inl h.sq, r⟩
  | ref a =>
    unfold seqD at e
    simp only at e
    split at e
    · rename_i es ha
      cases e
      obtain ⟨xs, hx, r⟩ := g a _ ha
      exact ⟨a, xs, rfl, .inl (SqL.of hx), r⟩
    · cases e
  | _ => cases e
def dInF (neg : Bool) : Z2 := fun d e G Q => match seqD G e with
  | some es => flD d = true ∧ es.all flD = true ∧ Q (.bl (if neg then !(es.any fun z => eqF z d) else es.any fun z => eqF z d)) G
  | none => False
theorem zo_inF : ZOp X (compareOp .In) (dInF false) := OpRi op_in_seq fun x y H Q q => by
  obtain ⟨d, e, G, Q0, sg, rx, ry, h, k⟩ := q
  unfold dInF at h
  split at h
  · rename_i es e1
    obtain ⟨p, xs, rfl, hq, r⟩ := seqD_rep sg ry e1
    refine ⟨p, xs, rfl, hq, flat_rep rx h.1, flats_rep r h.2.1, ?_⟩
    rw [inV_rep rx h.1 r h.2.1]
    exact CK.at k h.2.2 sg (.bl _)
  · cases h
theorem zo_notinF : ZOp X (compareOp .NotIn) (dInF true) := OpRi op_notIn_seq fun x y H Q q => by
  obtain ⟨d, e, G, Q0, sg, rx, ry, h, k⟩ := q
  unfold dInF at h
  split at h
  · rename_i es e1
    obtain ⟨p, xs, rfl, hq, r⟩ := seqD_rep sg ry e1
    refine ⟨p, xs, rfl, hq, flat_rep rx h.1, flats_rep r h.2.1, ?_⟩
    rw [inV_rep rx h.1 r h.2.1]
    exact CK.at k h.2.2 sg (.bl _)
  · cases h
/-- is None -/
def dIsN (neg : Bool) : Z2 := fun d e G Q => match e with
  | .non => match d with
    | .non => Q (.bl (!neg)) G
    | _ => Q (.bl neg) G
  | _ => False
theorem zo_isN : ZOp X (compareOp .Is) (dIsN false) := OpRi op_isN fun x y H Q q => by
  obtain ⟨d, e, G, Q0, sg, rx, ry, h, k⟩ := q
  cases ry with
  | non => cases rx <;> exact ⟨rfl, CK.at k h sg (.bl _)⟩
  | _ => cases h
theorem zo_notN : ZOp X (compareOp .IsNot) (dIsN true) := OpRi op_notN fun x y H Q q => by
  obtain ⟨d, e, G, Q0, sg, rx, ry, h, k⟩ := q
  cases ry with
  | non => cases rx <;> exact ⟨rfl, CK.at k h sg (.bl _)⟩
  | _ => cases h

/-! ### items -/
theorem atI_rep {K : PySem.W.Frag} {H : Hp} {ds : List D} {xs : List V} {i : Int} {d : D} (r : Reps K H xs ds) (e : atI ds i = some d) : ∃ v, atI xs i = some v ∧ Rep K H v d := by
  unfold atI at e ⊢
  rw [r.length]
  cases q : ixN ds.length i with
  | none => rw [q] at e; cases e
  | some j =>
    rw [q] at e
    exact r.get (show ds[j]? = some d from e)
def dIx : Z2 := fun d e G Q => match d, e with
  | .str z, .int i => z.length ≤ sizeLine ∧ (match atI z.cps.toList i with
    | some c => Q (.str ⟨#[c]⟩) G
    | none => False)
  | d, .int i => match seqD G d with
    | some ds => (match atI ds i with
      | some x => Q x G
      | none => False)
    | none => False
  | _, _ => False
def ZIx (X : Cx) (z : Z2) : Prop := IxR X (upR2 X.K z)
theorem zo_ix : ZIx X dIx := by
  intro value slice pins s σ H x y v u Q I rx ry q hs
  refine ix_seq value slice pins s σ H x y v u Q I rx ry ?_ hs
  obtain ⟨d, e, G, Q0, sg, rx, ry, h, k⟩ := q
  unfold dIx at h
  split at h
  · rename_i z i
    cases rx
    cases ry
    refine .inr (.inr ?_)
    obtain ⟨h1, h2⟩ := h
    split at h2
    · rename_i c e
      exact ⟨z, i, c, rfl, rfl, h1, e, CK.at k h2 sg (.str _)⟩
    · cases h2
  · rename_i i _
    cases ry
    split at h
    · rename_i ds e1
      split at h
      · rename_i w e2
        obtain ⟨p, xs, rfl, hq, r⟩ := seqD_rep sg rx e1
        obtain ⟨w', hw, rw'⟩ := atI_rep r e2
        rcases hq with hq | hq
        · exact .inl ⟨p, xs, i, w', rfl, rfl, hq, hw, CK.at k h sg rw'⟩
        · exact .inr (.inl ⟨p, xs, i, w', rfl, rfl, hq, hw, CK.at k h sg rw'⟩)
      · cases h
    · cases h
  · cases h
theorem z_ix {a b : Expr} {ta tb : DE} {pos : Pos} (ha : ZE X a ta) (hb : ZE X b tb) (hs : PlainIx b := by exact fun _ _ => rfl) : ZE X (.Subscript a b pos) (zOp dIx ta tb) := PEi (pe_ix zo_ix ha hb hs) fun _ _ _ q => up_op q

/-! ### slices -/
abbrev DO := ZSt → Gp → (Option Int → Gp → Prop) → Prop
def upO (K : PySem.W.Frag) (t : DO) : TO := fun σ H Q => ∃ ρ G Q0, SimS K H σ ρ ∧ SimG K H G ∧ t ρ G Q0 ∧ ∀ o G' H', Q0 o G' → Fr H G H' G' → SimG K H' G' → Q o H'
def ZO (X : Cx) (e : Option Expr) (t : DO) : Prop := PO X e (upO X.K t)
theorem POi {e : Option Expr} {t t' : TO} (h : PO X e t) (i : ∀ σ H Q, t' σ H Q → t σ H Q) : PO X e t' := ⟨fun pins s σ H Q I q => h.run pins s σ H Q I (i σ H Q q)⟩
def zNoP : DO := fun _ G Q => Q none G
def zPart (t : DE) : DO := fun ρ G Q => t ρ G fun d G1 => match d with
  | .int i => Q (some i) G1
  | _ => False
theorem zo_none : ZO X none zNoP := POi po_none fun σ H Q q => by
  obtain ⟨ρ, G, Q0, hs, hg, h, k⟩ := q
  exact k none G H h (Fr.refl H G) hg
theorem zo_some {e : Expr} {te : DE} (h : ZE X e te) : ZO X (some e) (zPart te) := POi (po_some h) fun σ H Q q => by
  obtain ⟨ρ, G, Q0, hs, hg, h, k⟩ := q
  refine ⟨ρ, G, _, hs, hg, h, fun d G1 x H1 h1 f1 g1 r1 => ?_⟩
  cases r1 with
  | int i => exact ⟨i, rfl, k _ G1 H1 h1 f1 g1⟩
  | _ => cases h1
abbrev Z3 := D → Option Int → Option Int → Gp → DK → Prop
def upR3 (K : PySem.W.Frag) (z : Z3) : V → Option Int → Option Int → Hp → VK → Prop := fun x lo hi H Q => ∃ d G Q0, SimG K H G ∧ Rep K H x d ∧ z d lo hi G Q0 ∧ CK K H G Q0 Q
def ZSl (X : Cx) (z : Z3) : Prop := SlR X (upR3 X.K z)
def zSl (z : Z3) (te : DE) (tl th : DO) : DE := fun ρ G Q => te ρ G fun d G1 => tl ρ G1 fun l G2 => th ρ G2 fun u G3 => z d l u G3 Q
theorem z_slice {e : Expr} {te : DE} {lo hi : Option Expr} {tl th : DO} {pos p2 : Pos} {z : Z3} (hr : ZSl X z) (he : ZE X e te) (hl : ZO X lo tl) (hu : ZO X hi th) : ZE X (.Subscript e (.Slice lo hi none p2) pos) (zSl z te tl th) := PEi (pe_slice hr he hl hu) fun σ H Q q => by
  obtain ⟨ρ, G, Q0, hs, hg, h, k⟩ := q
  exact ⟨ρ, G, _, hs, hg, h, fun d G1 x H1 h1 f1 g1 r1 => ⟨ρ, G1, _, hs.mono (hg.tm f1), g1, h1, fun l G2 H2 h2 f2 g2 => ⟨ρ, G2, _, hs.mono (hg.tm (f1.trans f2)), g2, h2, fun u G3 H3 h3 f3 g3 => ⟨d, G3, Q0, g3, r1.mono (g1.tm (f2.trans f3)), h3, CK.go k (f1.trans (f2.trans f3))⟩⟩⟩⟩
def cutD (xs : List D) (lo hi : Option Int) : List D := (xs.drop (HT.sIx xs.length 0 lo)).take (HT.sIx xs.length xs.length hi - HT.sIx xs.length 0 lo)
theorem cut_rep {K : PySem.W.Frag} {H : Hp} {ds : List D} {xs : List V} {lo hi : Option Int} (r : Reps K H xs ds) : Reps K H (cutV xs lo hi) (cutD ds lo hi) := by
  unfold cutV cutD
  rw [r.length]
  exact (r.drop _).take _
/-- a list's -/
def dSlL : Z3 := fun d lo hi G Q => match d with
  | .cl ds => ∀ p G', G p = none → At G p (.lst (cutD ds lo hi)) G' → Q (.ref p) G'
  | .ref a => match G a with
    | some (.lst ds) => ∀ p G', G p = none → At G p (.lst (cutD ds lo hi)) G' → Q (.ref p) G'
    | _ => False
  | _ => False
theorem zsl_list : ZSl X dSlL := by
  intro pins s σ H x v vl vu lo hi sl Q I rx hs pl pu q
  refine sl_list pins s σ H x v vl vu lo hi sl Q I rx hs pl pu ?_
  obtain ⟨d, G, Q0, sg, rx, h, k⟩ := q
  cases rx with
  | cl hq r => exact ⟨_, _, rfl, hq.sq, fun p hp => CK.new (m := .lst (cutD _ lo hi)) k hp sg ⟨_, upd_same, (cut_rep r).mono (tm_new hp)⟩ fun G' n at_ => h p G' n at_⟩
  | ref a =>
    unfold dSlL at h
    simp only at h
    split at h
    · rename_i ds e
      obtain ⟨xs, hx, r⟩ := sg a _ e
      exact ⟨_, _, rfl, SqL.of hx, fun p hp => CK.new (m := .lst (cutD _ lo hi)) k hp sg ⟨_, upd_same, (cut_rep r).mono (tm_new hp)⟩ fun G' n at_ => h p G' n at_⟩
    · cases h
  | _ => exact False.elim h
/-- a tuple's, not the whole -/
def dSlT : Z3 := fun d lo hi G Q => match d with
  | .tup ds => ¬ (HT.sIx ds.length 0 lo = 0 ∧ HT.sIx ds.length ds.length hi = ds.length) ∧ Q (.tup (cutD ds lo hi)) G
  | .ct ds => ¬ (HT.sIx ds.length 0 lo = 0 ∧ HT.sIx ds.length ds.length hi = ds.length) ∧ Q (.tup (cutD ds lo hi)) G
  | _ => False
theorem zsl_tup : ZSl X dSlT := by
  intro pins s σ H x v vl vu lo hi sl Q I rx hs pl pu q
  refine sl_tup pins s σ H x v vl vu lo hi sl Q I rx hs pl pu ?_
  obtain ⟨d, G, Q0, sg, rx, h, k⟩ := q
  cases rx with
  | tup hq r => exact ⟨_, _, rfl, hq.sq, by rw [r.length]; exact h.1, fun p hp => CK.tup k hp h.2 sg (cut_rep r)⟩
  | ct hq r => exact ⟨_, _, rfl, hq.sq, by rw [r.length]; exact h.1, fun p hp => CK.tup k hp h.2 sg (cut_rep r)⟩
  | _ => exact False.elim h
def dSlS : Z3 := fun d lo hi G Q => match d with
  | .str z => z.length ≤ sizeLine ∧ Q (.str (cutS z lo hi)) G
  | _ => False
theorem zsl_str : ZSl X dSlS := by
  intro pins s σ H x v vl vu lo hi sl Q I rx hs pl pu q
  refine sl_str pins s σ H x v vl vu lo hi sl Q I rx hs pl pu ?_
  obtain ⟨d, G, Q0, sg, rx, h, k⟩ := q
  cases rx with
  | str z => exact ⟨z, rfl, h.1, CK.at k h.2 sg (.str _)⟩
  | _ => exact False.elim h

/-! ### dicts -/
def keyD : D → Option Key
  | .int i => some (.inl i)
  | .str x => some (.inr x)
  | _ => none
def keysD : List D → Option (List Key)
  | [] => some []
  | d :: ds => match keyD d, keysD ds with
    | some k, some ks => some (k :: ks)
    | _, _ => none
theorem keyD_rep {K : PySem.W.Frag} {H : Hp} {v : V} {d : D} {k : Key} (r : Rep K H v d) (e : keyD d = some k) : v = kV k := by
  cases r <;> first | (cases e; rfl) | cases e
theorem keysD_rep {K : PySem.W.Frag} {H : Hp} : ∀ {ds : List D} {vs : List V} {ks : List Key}, Reps K H vs ds → keysD ds = some ks → vs = ks.map kV
  | [], _, _, .nil, e => by cases e; rfl
  | _ :: _, _, _, .cons h r, e => by
    unfold keysD at e
    split at e
    · rename_i k ks e1 e2
      cases e
      rw [List.map_cons, keyD_rep h e1, keysD_rep r e2]
    · cases e
def valD {κ : Type} [DecidableEq κ] (kvs : List (κ × D)) (k : κ) : Option D := (kvs.find? fun kv => decide (kv.1 = k)).map (·.2)
def putD {κ : Type} [DecidableEq κ] (kvs : List (κ × D)) (k : κ) (v : D) : List (κ × D) :=
  if (kvs.any fun kv => decide (kv.1 = k)) then kvs.map fun kv => if kv.1 = k then (kv.1, v) else kv else kvs ++ [(k, v)]
def RepO' (K : PySem.W.Frag) (H : Hp) : Option V → Option D → Prop
  | some v, some d => Rep K H v d
  | none, none => True
  | _, _ => False
theorem RepKV.val {κ : Type} [DecidableEq κ] {K : PySem.W.Frag} {H : Hp} (k : κ) : ∀ {ds : List (κ × D)} {vs : List (κ × V)}, RepKV K H vs ds → RepO' K H (valV vs k) (valD ds k)
  | [], _, .nil => trivial
  | _ :: _, _, .cons (k := k') h r => by
    by_cases e : k' = k
    · rw [valV_pos (show (k', _).1 = k from e)]
      unfold valD
      rw [List.find?_cons_of_pos (by simpa using e)]
      exact h
    · rw [valV_neg (show ¬ (k', _).1 = k from e)]
      unfold valD
      rw [List.find?_cons_of_neg (by simpa using e)]
      exact r.val k
theorem RepKV.any {κ : Type} [DecidableEq κ] {K : PySem.W.Frag} {H : Hp} (k : κ) : ∀ {ds : List (κ × D)} {vs : List (κ × V)}, RepKV K H vs ds → (vs.any fun kv => decide (kv.1 = k)) = ds.any fun kv => decide (kv.1 = k)
  | [], _, .nil => rfl
  | _ :: _, _, .cons h r => by rw [List.any_cons, List.any_cons, r.any k]
theorem RepKV.append {κ : Type} {K : PySem.W.Frag} {H : Hp} : ∀ {ds es : List (κ × D)} {vs ws : List (κ × V)}, RepKV K H vs ds → RepKV K H ws es → RepKV K H (vs ++ ws) (ds ++ es)
  | [], _, _, _, .nil, s => s
  | _ :: _, _, _, _, .cons h r, s => .cons h (r.append s)
theorem RepKV.repl {κ : Type} [DecidableEq κ] {K : PySem.W.Frag} {H : Hp} (k : κ) {v : V} {d : D} (rv : Rep K H v d) : ∀ {ds : List (κ × D)} {vs : List (κ × V)}, RepKV K H vs ds → RepKV K H (vs.map fun kv => if kv.1 = k then (kv.1, v) else kv) (ds.map fun kv => if kv.1 = k then (kv.1, d) else kv)
  | [], _, .nil => .nil
  | _ :: _, _, .cons (k := k') h r => by
    rw [List.map_cons, List.map_cons]
    by_cases e : k' = k
    · rw [if_pos (show (k', _).1 = k from e), if_pos (show (k', _).1 = k from e)]
      exact .cons rv (r.repl k rv)
    · rw [if_neg (show ¬ (k', _).1 = k from e), if_neg (show ¬ (k', _).1 = k from e)]
      exact .cons h (r.repl k rv)
theorem RepKV.put {κ : Type} [DecidableEq κ] {K : PySem.W.Frag} {H : Hp} {k : κ} {v : V} {d : D} {ds : List (κ × D)} {vs : List (κ × V)} (r : RepKV K H vs ds) (rv : Rep K H v d) : RepKV K H (putK vs k v) (putD ds k d) := by
  unfold putK putD
  rw [r.any k]
  split
  · exact r.repl k rv
  · exact r.append (.cons rv .nil)
def tGet (kvs : List (List Key × D)) (d : D) : Option (Option D) := match d with
  | .tup ds => (keysD ds).map (valD kvs)
  | _ => none
/-- what the dict at a holds at d; none: no such key can be asked -/
def dGet (G : Gp) (a : Addr) (d : D) : Option (Option D) := match G a with
  | some (.dk kvs) => (keyD d).map (valD kvs)
  | some (.ldk _ _ kvs) => (keyD d).map (valD kvs)
  | some (.dt kvs) => tGet kvs d
  | some (.ldt _ _ kvs) => tGet kvs d
  | _ => none
theorem tget_rep {K : PySem.W.Frag} {H : Hp} {a : Addr} {kvs : List (List Key × D)} {xs : List (List Key × V)} (hr : Rd H a (.dT xs)) (rk : RepKV K H xs kvs) : ∀ {d : D} {y : V} {r : Option D}, Rep K H y d → tGet kvs d = some r → ∃ o, DGet H a y o ∧ RepO' K H o r
  | .tup ds, _, r, .tup hq rr, e => by
    have e : (keysD ds).map (valD kvs) = some r := e
    cases q : keysD ds with
    | none => rw [q] at e; cases e
    | some k =>
      rw [q] at e
      cases e
      have := keysD_rep rr q
      subst this
      exact ⟨_, .inr ⟨xs, k, _, hr, rfl, hq, rfl⟩, rk.val k⟩
theorem dget_rep {K : PySem.W.Frag} {H : Hp} {G : Gp} {a : Addr} {y : V} {d : D} {r : Option D} (g : SimG K H G) (ry : Rep K H y d) (e : dGet G a d = some r) : ∃ o, DGet H a y o ∧ RepO' K H o r := by
  have kk : ∀ {kvs : List (Key × D)} {xs : List (Key × V)}, Rd H a (.dK xs) → RepKV K H xs kvs → (keyD d).map (valD kvs) = some r → ∃ o, DGet H a y o ∧ RepO' K H o r := by
    intro kvs xs hr rk e
    cases q : keyD d with
    | none => rw [q] at e; cases e
    | some k =>
      rw [q] at e
      cases e
      exact ⟨_, .inl ⟨xs, k, hr, keyD_rep ry q, rfl⟩, rk.val k⟩
  unfold dGet at e
  split at e
  · rename_i kvs ha
    obtain ⟨xs, hx, rk⟩ := g a _ ha
    exact kk (.inl hx) rk e
  · rename_i o xs kvs ha
    obtain ⟨hx, rk⟩ := g a _ ha
    exact kk (.inr ⟨_, hx⟩) rk e
  · rename_i kvs ha
    obtain ⟨xs, hx, rk⟩ := g a _ ha
    exact tget_rep (.inl hx) rk ry e
  · rename_i o xs kvs ha
    obtain ⟨hx, rk⟩ := g a _ ha
    exact tget_rep (.inr ⟨_, hx⟩) rk ry e
  · cases e
def zDGet (td ty : DE) : DE := fun ρ G Q => td ρ G fun x G1 => ty ρ G1 fun y G2 => match x with
  | .ref a => match dGet G2 a y with
    | some (some d) => Q d G2
    | _ => False
  | _ => False
theorem z_dget {o i : Expr} {td ty : DE} {pos : Pos} (hu : X.A.units + 1 < cLine) (ho : ZE X o td) (hi : ZE X i ty) (hs : NoSl i := by exact fun _ _ => rfl) : ZE X (.Subscript o i pos) (zDGet td ty) := PEi (pe_dget hu ho hi hs) fun σ H Q q => by
  obtain ⟨ρ, G, Q0, hs, hg, h, k⟩ := q
  refine ⟨ρ, G, _, hs, hg, h, fun d G1 x H1 h1 f1 g1 r1 => ⟨ρ, G1, _, hs.mono (hg.tm f1), g1, h1, fun e G2 y H2 h2 f2 g2 r2 => ?_⟩⟩
  cases r1 with
  | ref a =>
    simp only at h2
    split at h2
    · rename_i d e1
      obtain ⟨o, ho, ro⟩ := dget_rep g2 r2 e1
      cases o with
      | none => exact ro.elim
      | some v => exact ⟨a, v, rfl, ho, k d G2 v H2 h2 (f1.trans f2) g2 ro⟩
    · cases h2
  | _ => exact False.elim h2
def zDIn (neg : Bool) (ty td : DE) : DE := fun ρ G Q => ty ρ G fun y G1 => td ρ G1 fun x G2 => match x with
  | .ref a => match dGet G2 a y with
    | some r => Q (.bl (if neg then !r.isSome else r.isSome)) G2
    | none => False
  | _ => False
theorem z_din {o i : Expr} {td ty : DE} {pos : Pos} (hu : X.A.units + 1 < cLine) (hi : ZE X i ty) (ho : ZE X o td) (h1 : behindInMarks .In o = false := by rfl) : ZE X (.Compare i [.In] [o] pos) (zDIn false ty td) := PEi (pe_cmp (pc_din hu hi ho) h1) fun σ H Q q => by
  obtain ⟨ρ, G, Q0, hs, hg, h, k⟩ := q
  refine ⟨ρ, G, _, hs, hg, h, fun d G1 x H1 h1 f1 g1 r1 => ⟨ρ, G1, _, hs.mono (hg.tm f1), g1, h1, fun e G2 y H2 h2 f2 g2 r2 => ?_⟩⟩
  cases r2 with
  | ref a =>
    simp only at h2
    split at h2
    · rename_i r e1
      obtain ⟨o, ho, ro⟩ := dget_rep g2 (r1.mono (g1.tm f2)) e1
      refine ⟨a, o, rfl, ho, ?_⟩
      have e : o.isSome = r.isSome := by cases o <;> cases r <;> first | rfl | exact ro.elim
      rw [e]
      exact k _ G2 _ H2 h2 (f1.trans f2) g2 (.bl _)
    · cases h2
  | _ => exact False.elim h2
theorem z_dnotin {o i : Expr} {td ty : DE} {pos : Pos} (hu : X.A.units + 1 < cLine) (hi : ZE X i ty) (ho : ZE X o td) (h1 : behindInMarks .NotIn o = false := by rfl) : ZE X (.Compare i [.NotIn] [o] pos) (zDIn true ty td) := PEi (pe_cmp (pc_dnotin hu hi ho) h1) fun σ H Q q => by
  obtain ⟨ρ, G, Q0, hs, hg, h, k⟩ := q
  refine ⟨ρ, G, _, hs, hg, h, fun d G1 x H1 h1 f1 g1 r1 => ⟨ρ, G1, _, hs.mono (hg.tm f1), g1, h1, fun e G2 y H2 h2 f2 g2 r2 => ?_⟩⟩
  cases r2 with
  | ref a =>
    simp only at h2
    split at h2
    · rename_i r e1
      obtain ⟨o, ho, ro⟩ := dget_rep g2 (r1.mono (g1.tm f2)) e1
      refine ⟨a, o, rfl, ho, ?_⟩
      have e : o.isSome = r.isSome := by cases o <;> cases r <;> first | rfl | exact ro.elim
      rw [e]
      exact k _ G2 _ H2 h2 (f1.trans f2) g2 (.bl _)
    · cases h2
  | _ => exact False.elim h2
/-- a value's test where it is a bool -/
theorem z_val {a : Expr} {ta : DE} (h : ZE X a ta) (he : ∀ whole, isTrue a X.env whole = (do let v ← whole; standAt a.pos; holding [v] (truthy v)) := by intro _; rfl) : ZT X a (zTest ta) := PTi (pt_val h he) fun σ H Q q => by
  obtain ⟨ρ, G, Q0, hs, hg, h, k⟩ := q
  refine ⟨ρ, G, _, hs, hg, h, fun d G1 x H1 h1 f1 g1 r1 => ?_⟩
  cases r1 with
  | bl b => exact ⟨b, rfl, k b G1 H1 h1 f1 g1⟩
  | _ => cases h1
theorem z_tdin {o i : Expr} {td ty : DE} {pos : Pos} (hu : X.A.units + 1 < cLine) (hi : ZE X i ty) (ho : ZE X o td) (h1 : behindInMarks .In o = false := by rfl) : ZT X (.Compare i [.In] [o] pos) (zTest (zDIn false ty td)) := PTi (pt_cmp (pc_din hu hi ho) h1) fun σ H Q q => by
  obtain ⟨ρ, G, Q0, hs, hg, h, k⟩ := q
  refine ⟨ρ, G, _, hs, hg, h, fun d G1 x H1 h1 f1 g1 r1 => ⟨ρ, G1, _, hs.mono (hg.tm f1), g1, h1, fun e G2 y H2 h2 f2 g2 r2 => ?_⟩⟩
  cases r2 with
  | ref a =>
    simp only at h2
    split at h2
    · rename_i r e1
      obtain ⟨o, ho, ro⟩ := dget_rep g2 (r1.mono (g1.tm f2)) e1
      refine ⟨a, o, rfl, ho, _, rfl, ?_⟩
      have e : o.isSome = r.isSome := by cases o <;> cases r <;> first | rfl | exact ro.elim
      rw [e]
      exact k _ G2 H2 h2 (f1.trans f2) g2
    · cases h2
  | _ => exact False.elim h2
theorem z_tdnotin {o i : Expr} {td ty : DE} {pos : Pos} (hu : X.A.units + 1 < cLine) (hi : ZE X i ty) (ho : ZE X o td) (h1 : behindInMarks .NotIn o = false := by rfl) : ZT X (.Compare i [.NotIn] [o] pos) (zTest (zDIn true ty td)) := PTi (pt_cmp (pc_dnotin hu hi ho) h1) fun σ H Q q => by
  obtain ⟨ρ, G, Q0, hs, hg, h, k⟩ := q
  refine ⟨ρ, G, _, hs, hg, h, fun d G1 x H1 h1 f1 g1 r1 => ⟨ρ, G1, _, hs.mono (hg.tm f1), g1, h1, fun e G2 y H2 h2 f2 g2 r2 => ?_⟩⟩
  cases r2 with
  | ref a =>
    simp only at h2
    split at h2
    · rename_i r e1
      obtain ⟨o, ho, ro⟩ := dget_rep g2 (r1.mono (g1.tm f2)) e1
      refine ⟨a, o, rfl, ho, _, rfl, ?_⟩
      have e : o.isSome = r.isSome := by cases o <;> cases r <;> first | rfl | exact ro.elim
      rw [e]
      exact k _ G2 H2 h2 (f1.trans f2) g2
    · cases h2
  | _ => exact False.elim h2
/-- d[k] = v -/
def zDPut (td ty tv : DE) : DS := fun Z ρ G => tv ρ G fun v G1 => td ρ G1 fun x G2 => ty ρ G2 fun y G3 => match x with
  | .ref a => (match G3 a with
    | some (.dk kvs) => (match keyD y with
      | some k => kvs.length < sizeLine ∧ ∀ G4, At G3 a (.dk (putD kvs k v)) G4 → Z.nx ρ G4
      | none => False)
    | some (.dt kvs) => (match y with
      | .tup ds => (match keysD ds with
        | some k => kvs.length < sizeLine ∧ ∀ G4, At G3 a (.dt (putD kvs k v)) G4 → Z.nx ρ G4
        | none => False)
      | _ => False)
    | _ => False)
  | _ => False
theorem z_dput {o i value : Expr} {td ty tv : DE} {pos pos' : Pos} (hu : X.A.units + 1 < cLine) (ho : ZE X o td) (hi : ZE X i ty) (hv : ZE X value tv) (hs : swapsWith value (some (.Subscript o i pos')) pos.line X.env = pure false := by rfl) :
    ZS X (.Assign [.Subscript o i pos'] value pos) (zDPut td ty tv) := PSi (ps_dput hu ho hi hv hs) fun D σ H q => by
  obtain ⟨ρ, G, Z, hs, hg, h, k1, _⟩ := q
  refine ⟨ρ, G, _, hs, hg, h, fun v G1 xv H1 h1 f1 g1 r1 => ⟨ρ, G1, _, hs.mono (hg.tm f1), g1, h1, fun d G2 x H2 h2 f2 g2 r2 => ⟨ρ, G2, _, hs.mono (hg.tm (f1.trans f2)), g2, h2, fun e G3 y H3 h3 f3 g3 r3 => ?_⟩⟩⟩
  have ff := f1.trans (f2.trans f3)
  have r1' := r1.mono (g1.tm (f2.trans f3))
  have s3 := hs.mono (hg.tm ff)
  cases r2 with
  | ref a =>
    simp only at h3
    split at h3
    · rename_i kvs ha
      split at h3
      · rename_i kk hk
        obtain ⟨xs, hx, rk⟩ := g3 a _ ha
        have t := tm_set (o := .dK (putK xs kk xv)) hx fun z => z
        refine ⟨a, _, rfl, .inl ⟨xs, kk, hx, keyD_rep r3 hk, by rw [rk.len]; exact h3.1, rfl⟩, ?_⟩
        exact k1 ρ (put G3 a (.dk (putD kvs kk v))) σ _ (h3.2 _ (At.put _ _ _)) (ff.trans (Fr.put (.inr ⟨_, ha⟩))) (g3.put (.inr ⟨_, ha⟩) t ⟨_, upd_same, (rk.put r1').mono t⟩) (s3.mono t)
      · cases h3
    · rename_i kvs ha
      split at h3
      · rename_i ds
        split at h3
        · rename_i kk hk
          obtain ⟨xs, hx, rk⟩ := g3 a _ ha
          have t := tm_set (o := .dT (putK xs kk xv)) hx fun z => z
          cases r3 with
          | tup hq rr =>
            have e := keysD_rep rr hk
            subst e
            refine ⟨a, _, rfl, .inr ⟨xs, kk, _, hx, rfl, hq, by rw [rk.len]; exact h3.1, rfl⟩, ?_⟩
            exact k1 ρ (put G3 a (.dt (putD kvs kk v))) σ _ (h3.2 _ (At.put _ _ _)) (ff.trans (Fr.put (.inr ⟨_, ha⟩))) (g3.put (.inr ⟨_, ha⟩) t ⟨_, upd_same, (rk.put r1').mono t⟩) (s3.mono t)
        · cases h3
      · cases h3
    · cases h3
  | _ => exact False.elim h3
/-- {} -/
def zDNewK : DE := fun _ G Q => ∀ p G', G p = none → At G p (.dk []) G' → Q (.ref p) G'
def zDNewT : DE := fun _ G Q => ∀ p G', G p = none → At G p (.dt []) G' → Q (.ref p) G'
theorem z_dnewK {pos : Pos} : ZE X (.Dict [] [] pos) zDNewK := PEi pe_dnewK fun σ H Q q => by
  obtain ⟨ρ, G, Q0, hs, hg, h, k⟩ := q
  exact fun p hp => CK.new (m := .dk []) k hp hg ⟨_, upd_same, .nil⟩ fun G' n at_ => h p G' n at_
theorem z_dnewT {pos : Pos} : ZE X (.Dict [] [] pos) zDNewT := PEi pe_dnewT fun σ H Q q => by
  obtain ⟨ρ, G, Q0, hs, hg, h, k⟩ := q
  exact fun p hp => CK.new (m := .dt []) k hp hg ⟨_, upd_same, .nil⟩ fun G' n at_ => h p G' n at_
/-- a dict is locked while it is walked -/
def zLock (t : DS) : DS := fun Z ρ G => ∃ a, (∃ kvs, G a = some (.dk kvs) ∧ ∀ o xs G1, At G a (.ldk o xs kvs) G1 →
    t ⟨fun ρ' G' => G' a = some (.ldk o xs kvs) ∧ ∀ G2, At G' a (.dk kvs) G2 → Z.nx ρ' G2, fun d G' => G' a = some (.ldk o xs kvs) ∧ ∀ G2, At G' a (.dk kvs) G2 → Z.rt d G2,
      fun ρ' G' => G' a = some (.ldk o xs kvs) ∧ ∀ G2, At G' a (.dk kvs) G2 → Z.bk ρ' G2, fun ρ' G' => G' a = some (.ldk o xs kvs) ∧ ∀ G2, At G' a (.dk kvs) G2 → Z.ct ρ' G2⟩ ρ G1) ∨
  ∃ kvs, G a = some (.dt kvs) ∧ ∀ o xs G1, At G a (.ldt o xs kvs) G1 →
    t ⟨fun ρ' G' => G' a = some (.ldt o xs kvs) ∧ ∀ G2, At G' a (.dt kvs) G2 → Z.nx ρ' G2, fun d G' => G' a = some (.ldt o xs kvs) ∧ ∀ G2, At G' a (.dt kvs) G2 → Z.rt d G2,
      fun ρ' G' => G' a = some (.ldt o xs kvs) ∧ ∀ G2, At G' a (.dt kvs) G2 → Z.bk ρ' G2, fun ρ' G' => G' a = some (.ldt o xs kvs) ∧ ∀ G2, At G' a (.dt kvs) G2 → Z.ct ρ' G2⟩ ρ G1
theorem unlockS {K : PySem.W.Frag} {H : Hp} {G : Gp} {a : Addr} {o : Obj} {u : HO} {m n l : MO} {Zx : ZSt → Gp → Prop} {D : L2.St → Hp → Prop} (hH : H a = some u) (hG : G a = some n) (nu : ¬ sta u) (nf : ¬ sta (.frz o u)) (hg : SimG K H G) (k : SK K H G Zx D)
    (hl : ∀ H', RepO K H' a l → H' a = some (.frz o u)) (hm : ∀ H', RepO K H' a l → Tm H' (upd H' a u) → RepO K (upd H' a u) a m) :
    SK K (upd H a (.frz o u)) (put G a l) (fun ρ' G' => G' a = some l ∧ ∀ G2, At G' a m G2 → Zx ρ' G2) fun σ' H' => H' a = some (.frz o u) ∧ D σ' (upd H' a u) := fun ρ' G' σ' H' q f g s => by
  obtain ⟨e, q⟩ := q
  have x1 := hl H' (g a _ e)
  have t : Tm H' (upd H' a u) := tm_set x1 nf
  refine ⟨x1, k ρ' (put G' a m) σ' _ (q _ (At.put _ _ _)) (fun b ob hb nb nt => ?_) (g.put (.inr ⟨_, e⟩) t (hm H' (g a _ e) t)) (s.mono t)⟩
  have hba : b ≠ a := by
    rintro rfl
    rw [hG] at nb; cases nb
  obtain ⟨y1, y2⟩ := f b ob (by rw [upd_ne hba]; exact hb) (by rw [put_ne hba]; exact nb) nt
  rw [upd_ne hba, put_ne hba]
  exact ⟨y1, y2⟩
theorem unlockR {K : PySem.W.Frag} {H : Hp} {G : Gp} {a : Addr} {o : Obj} {u : HO} {m n l : MO} {Zx : DK} {D : VK} (hH : H a = some u) (hG : G a = some n) (nu : ¬ sta u) (nf : ¬ sta (.frz o u)) (hg : SimG K H G) (k : CK K H G Zx D)
    (hl : ∀ H', RepO K H' a l → H' a = some (.frz o u)) (hm : ∀ H', RepO K H' a l → Tm H' (upd H' a u) → RepO K (upd H' a u) a m) :
    CK K (upd H a (.frz o u)) (put G a l) (fun d G' => G' a = some l ∧ ∀ G2, At G' a m G2 → Zx d G2) fun v H' => H' a = some (.frz o u) ∧ D v (upd H' a u) := fun d G' v H' q f g s => by
  obtain ⟨e, q⟩ := q
  have x1 := hl H' (g a _ e)
  have t : Tm H' (upd H' a u) := tm_set x1 nf
  refine ⟨x1, k d (put G' a m) v _ (q _ (At.put _ _ _)) (fun b ob hb nb nt => ?_) (g.put (.inr ⟨_, e⟩) t (hm H' (g a _ e) t)) (s.mono t)⟩
  have hba : b ≠ a := by
    rintro rfl
    rw [hG] at nb; cases nb
  obtain ⟨y1, y2⟩ := f b ob (by rw [upd_ne hba]; exact hb) (by rw [put_ne hba]; exact nb) nt
  rw [upd_ne hba, put_ne hba]
  exact ⟨y1, y2⟩
theorem z_lock {st : Stmt} {t : DS} (h : ZS X st t) : ZS X st (zLock t) := PSi (ps_lock h) fun D σ H q => by
  obtain ⟨ρ, G, Z, hs, hg, ⟨a, h⟩, k1, k2, k3, k4⟩ := q
  rcases h with ⟨kvs, ha, h⟩ | ⟨kvs, ha, h⟩
  · obtain ⟨xs, hx, rk⟩ := hg a _ ha
    show ∃ d u, H d = some u ∧ Mut (some u) ∧ _
    refine ⟨a, .dK xs, hx, True.intro, fun od => ?_⟩
    have t := tm_set (o := .frz od (.dK xs)) hx fun z => z
    have hl : ∀ H', RepO X.K H' a (.ldk od xs kvs) → H' a = some (.frz od (.dK xs)) := fun H' z => z.1
    have hm : ∀ H', RepO X.K H' a (.ldk od xs kvs) → Tm H' (upd H' a (.dK xs)) → RepO X.K (upd H' a (.dK xs)) a (.dk kvs) := fun H' z t => ⟨xs, upd_same, z.2.mono t⟩
    exact ⟨ρ, put G a (.ldk od xs kvs), _, hs.mono t, hg.put (.inr ⟨_, ha⟩) t ⟨upd_same, rk.mono t⟩, h od xs _ (At.put _ _ _), unlockS hx ha (fun z => z) (fun z => z) hg k1 hl hm, unlockR hx ha (fun z => z) (fun z => z) hg k2 hl hm, unlockS hx ha (fun z => z) (fun z => z) hg k3 hl hm, unlockS hx ha (fun z => z) (fun z => z) hg k4 hl hm⟩
  · obtain ⟨xs, hx, rk⟩ := hg a _ ha
    refine ⟨a, .dT xs, hx, trivial, fun od => ?_⟩
    have t := tm_set (o := .frz od (.dT xs)) hx fun z => z
    have hl : ∀ H', RepO X.K H' a (.ldt od xs kvs) → H' a = some (.frz od (.dT xs)) := fun H' z => z.1
    have hm : ∀ H', RepO X.K H' a (.ldt od xs kvs) → Tm H' (upd H' a (.dT xs)) → RepO X.K (upd H' a (.dT xs)) a (.dt kvs) := fun H' z t => ⟨xs, upd_same, z.2.mono t⟩
    exact ⟨ρ, put G a (.ldt od xs kvs), _, hs.mono t, hg.put (.inr ⟨_, ha⟩) t ⟨upd_same, rk.mono t⟩, h od xs _ (At.put _ _ _), unlockS hx ha (fun z => z) (fun z => z) hg k1 hl hm, unlockR hx ha (fun z => z) (fun z => z) hg k2 hl hm, unlockS hx ha (fun z => z) (fun z => z) hg k3 hl hm, unlockS hx ha (fun z => z) (fun z => z) hg k4 hl hm⟩
end
end Z

namespace Z
open PySem PySem.Spec PyProof.Rows L2
variable [τ : Tbl] [β : Bas]
section
variable {X : Cx}

/-! ### built-in functions -/
def fAbs : ZF := fun ds G Q => match ds with
  | [.int i] => Q (.int (if i < 0 then -i else i)) G
  | _ => False
theorem zf_abs : ZCall X (.builtin "abs") fAbs := CallRi call_abs fun xs H Q q => by
  obtain ⟨ds, G, Q0, g, r, h, k⟩ := q
  unfold fAbs at h
  split at h
  · rename_i i
    cases r with
    | cons r1 r2 =>
      cases r1
      cases r2
      exact ⟨i, rfl, CK.at k h g (.int _)⟩
  · cases h
/-- int(n), int(flag) -/
def fInt : ZF := fun ds G Q => match ds with
  | [.int i] => Q (.int i) G
  | [.bl b] => Q (.int (if b then 1 else 0)) G
  | _ => False
theorem zf_int : ZCall X (.type "int") fInt := CallRi call_int1 fun xs H Q q => by
  obtain ⟨ds, G, Q0, g, r, h, k⟩ := q
  unfold fInt at h
  split at h
  · rename_i i
    cases r with
    | cons r1 r2 =>
      cases r1
      cases r2
      exact .inl ⟨i, rfl, CK.at k h g (.int _)⟩
  · rename_i b
    cases r with
    | cons r1 r2 =>
      cases r1
      cases r2
      exact .inr ⟨b, rfl, CK.at k h g (.int _)⟩
  · cases h
/-- len of a list, a tuple, a text -/
def fLen : ZF := fun ds G Q => match ds with
  | [.str y] => y.length ≤ sizeLine ∧ Q (.int (y.length : Nat)) G
  | [d] => match seqD G d with
    | some es => Q (.int (es.length : Nat)) G
    | none => False
  | _ => False
theorem zf_len : ZCall X (.builtin "len") fLen := CallRi call_len fun xs H Q q => by
  obtain ⟨ds, G, Q0, g, r, h, k⟩ := q
  unfold fLen at h
  split at h
  · rename_i y
    cases r with
    | cons r1 r2 =>
      cases r1
      cases r2
      exact ⟨_, _, rfl, ⟨h.1, rfl⟩, CK.at k h.2 g (.int _)⟩
  · rename_i d _
    split at h
    · rename_i es e
      cases r with
      | cons r1 r2 =>
        cases r2
        obtain ⟨p, ys, rfl, hq, r⟩ := seqD_rep g r1 e
        refine ⟨_, ys.length, rfl, ?_, CK.at k (by rw [r.length]; exact h) g (.int _)⟩
        rcases hq with hq | hq
        · exact .inl ⟨ys, hq, rfl⟩
        · exact .inr ⟨ys, hq, rfl⟩
    · cases h
  · cases h
/-- tuple(list) -/
def fTup : ZF := fun ds G Q => match ds with
  | [d] => match seqD G d with
    | some es => es.length ≤ sizeLine ∧ Q (.tup es) G
    | none => False
  | _ => False
def isLst (G : Gp) : D → Bool
  | .cl _ => true
  | .ref a => match G a with
    | some (.lst _) => true
    | _ => false
  | _ => false
def fTupL : ZF := fun ds G Q => match ds with
  | [.cl es] => Q (.tup es) G
  | [.tup es] => Q (.tup es) G
  | [.ct es] => Q (.ct es) G
  | [.ref a] => match G a with
    | some (.lst es) => Q (.tup es) G
    | _ => False
  | _ => False
theorem zf_tuple : ZCall X (.type "tuple") fTupL := CallRi call_tuple_of fun xs H Q q => by
  obtain ⟨ds, G, Q0, g, r, h, k⟩ := q
  unfold fTupL at h
  split at h
  · cases r with
    | cons r1 r2 =>
      cases r2
      cases r1 with
      | cl hq r => exact ⟨_, _, rfl, .inl ⟨hq.sq, fun p hp => CK.tup k hp h g r⟩⟩
  · cases r with
    | cons r1 r2 =>
      cases r2
      cases r1 with
      | tup hq r => exact ⟨_, _, rfl, .inr ⟨hq.sq, CK.at k h g (.tup hq r)⟩⟩
  · cases r with
    | cons r1 r2 =>
      cases r2
      cases r1 with
      | ct hq r => exact ⟨_, _, rfl, .inr ⟨hq.sq, CK.at k h g (.ct hq r)⟩⟩
  · split at h
    · rename_i es e
      cases r with
      | cons r1 r2 =>
        cases r2
        cases r1 with
        | ref a =>
          obtain ⟨ys, hy, r⟩ := g _ _ e
          exact ⟨_, _, rfl, .inl ⟨SqL.of hy, fun p hp => CK.tup k hp h g r⟩⟩
    · cases h
  · cases h
/-- list(seq) -/
def fList : ZF := fun ds G Q => match ds with
  | [d] => match seqD G d with
    | some es => ∀ p G', G p = none → At G p (.lst es) G' → Q (.ref p) G'
    | none => False
  | _ => False
theorem zf_list : ZCall X (.type "list") fList := CallRi call_list_of fun xs H Q q => by
  obtain ⟨ds, G, Q0, g, r, h, k⟩ := q
  unfold fList at h
  split at h
  · split at h
    · rename_i es e
      cases r with
      | cons r1 r2 =>
        cases r2
        obtain ⟨p, ys, rfl, hq, r⟩ := seqD_rep g r1 e
        exact ⟨_, ys, rfl, hq, fun l hl => CK.new (m := .lst es) k hl g ⟨ys, upd_same, r.mono (tm_new hl)⟩ fun G' n at_ => h l G' n at_⟩
    · cases h
  · cases h

/-! ### methods of built-in types -/
abbrev ZM := D → List D → Gp → DK → Prop
def upM (K : PySem.W.Frag) (z : ZM) : V → List V → Hp → VK → Prop := fun x xs H Q => ∃ d ds G Q0, SimG K H G ∧ Rep K H x d ∧ Reps K H xs ds ∧ z d ds G Q0 ∧ CK K H G Q0 Q
def ZMt (X : Cx) (id : String) (z : ZM) : Prop := MtR X id (upM X.K z)
theorem MtRi {id : String} {r r' : V → List V → Hp → VK → Prop} (h : MtR X id r) (i : ∀ x xs H Q, r' x xs H Q → r x xs H Q) : MtR X id r' := fun pins s σ H x xs v us Q I rx rs q => h pins s σ H x xs v us Q I rx rs (i x xs H Q q)
/-- the type of a value -/
def tyZ (T : String) (d : D) (G : Gp) : Prop := match d with
  | .str _ => T = "str"
  | .int _ => T = "int"
  | .cl _ => T = "list"
  | .ref a => match G a with
    | some (.lst _) => T = "list"
    | some (.dk _) => T = "dict"
    | some (.dt _) => T = "dict"
    | _ => False
  | _ => False
theorem tyZ_rep {K : PySem.W.Frag} {H : Hp} {G : Gp} {T : String} {v : V} {d : D} (g : SimG K H G) (r : Rep K H v d) (t : tyZ T d G) : tyV K T v H := by
  cases r with
  | str x => exact t
  | int x => exact t
  | cl hq r => exact .inl ⟨t, _, hq.sq⟩
  | ref a =>
    unfold tyZ at t
    simp only at t
    split at t
    · rename_i es e
      obtain ⟨xs, hx, _⟩ := g _ _ e
      exact .inl ⟨t, _, SqL.of hx⟩
    · rename_i es e
      obtain ⟨xs, hx, _⟩ := g _ _ e
      exact .inr (.inr (.inl ⟨t, .inl ⟨_, hx⟩⟩))
    · rename_i es e
      obtain ⟨xs, hx, _⟩ := g _ _ e
      exact .inr (.inr (.inl ⟨t, .inr ⟨_, hx⟩⟩))
    · cases t
  | _ => exact False.elim t
def zBM (T : String) (z : ZM) (to : DE) (t : DA) : DE := fun ρ G Q => to ρ G fun d G1 => tyZ T d G1 ∧ t ρ G1 fun ds G2 => z d ds G2 Q
def zBM0 (T : String) (z : ZM) (to : DE) : DE := fun ρ G Q => to ρ G fun d G1 => tyZ T d G1 ∧ z d [] G1 Q
variable {o e : Expr} {es : List Expr} {to : DE} {t : DA} {name : Str} {apos cpos : Pos} {T id : String} {z : ZM}
theorem z_bm0 (pa : PlainAttrs T) (slot : Slot T name id) (hty : typeOf (.builtin id) = pure (.type "method_descriptor")) (hm : ZMt X id z) (ho : ZE X o to)
    (hbase : attributeBase o name X.env (eval o X.env) = eval o X.env := by rfl) (hline : (apos.endLine == cpos.line) = true := by rfl) : ZE X (.Call (.Attribute o name apos) [] [] cpos) (zBM0 T z to) := PEi (pe_bm0 pa slot hty hm ho hbase hline) fun σ H Q q => by
  obtain ⟨ρ, G, Q0, hs, hg, h, k⟩ := q
  exact ⟨ρ, G, _, hs, hg, h, fun d G1 x H1 h1 f1 g1 r1 => ⟨tyZ_rep g1 r1 h1.1, d, [], G1, Q0, g1, r1, .nil, h1.2, CK.go k f1⟩⟩
theorem z_bm (pa : PlainAttrs T) (slot : Slot T name id) (hty : typeOf (.builtin id) = pure (.type "method_descriptor")) (hm : ZMt X id z) (ho : ZE X o to) (ha : ZA X (e :: es) t)
    (hbase : attributeBase o name X.env (eval o X.env) = eval o X.env := by rfl)
    (hfew : ((backTo cpos (starEach (e :: es) X.env)).all (fun x => !x.1) && (backToKw cpos (keywordEach [] X.env)).all (fun x => x.1.isSome)
      && decide ((e :: es).length + ([] : List Keyword).length + (if ([] : List Keyword).isEmpty then 0 else 1) < 30)) = true := by rfl)
    (hline : (apos.endLine == cpos.line) = true := by rfl) (hs : starEach (e :: es) X.env = (false, eval e X.env) :: starEach es X.env := by rfl) (hplain : (backTo cpos (starEach es X.env)).any (·.1) = false := by rfl) :
    ZE X (.Call (.Attribute o name apos) (e :: es) [] cpos) (zBM T z to t) := PEi (pe_bm pa slot hty hm ho ha hbase hfew hline hs hplain) fun σ H Q q => by
  obtain ⟨ρ, G, Q0, hs, hg, h, k⟩ := q
  exact ⟨ρ, G, _, hs, hg, h, fun d G1 x H1 h1 f1 g1 r1 => ⟨tyZ_rep g1 r1 h1.1, ρ, G1, _, hs.mono (hg.tm f1), g1, h1.2, fun ds G2 xs H2 h2 f2 g2 r2 => ⟨d, ds, G2, Q0, g2, r1.mono (g1.tm f2), r2, h2, CK.go k (f1.trans f2)⟩⟩⟩
def mAppend : ZM := fun d ds G Q => match d, ds with
  | .ref a, [x] => (match G a with
    | some (.lst es) => es.length < sizeLine ∧ ∀ G', At G a (.lst (es ++ [x])) G' → Q .non G'
    | _ => False)
  | _, _ => False
theorem zm_append : ZMt X "list.append" mAppend := MtRi mt_append fun x xs H Q q => by
  obtain ⟨d, ds, G, Q0, g, r, rs, h, k⟩ := q
  unfold mAppend at h
  split at h
  · split at h
    · rename_i es e
      cases rs with
      | cons r1 r2 =>
        cases r2
        cases r with
        | ref a =>
          obtain ⟨ys, hy, ry⟩ := g _ _ e
          exact ⟨_, ys, _, rfl, rfl, hy, by rw [ry.length]; exact h.1, CK.set (m := .lst _) k hy (fun z => z) e g ⟨_, upd_same, (ry.append (.cons r1 .nil)).mono (tm_set hy fun z => z)⟩ .non fun G' at_ => h.2 G' at_⟩
    · cases h
  · cases h
def mPop : ZM := fun d ds G Q => match d, ds with
  | .ref a, [] => (match G a with
    | some (.lst es) => (match es[es.length - 1]? with
      | some y => ∀ G', At G a (.lst es.dropLast) G' → Q y G'
      | none => False)
    | _ => False)
  | _, _ => False
theorem zm_pop : ZMt X "list.pop" mPop := MtRi mt_pop fun x xs H Q q => by
  obtain ⟨d, ds, G, Q0, g, r, rs, h, k⟩ := q
  unfold mPop at h
  split at h
  · split at h
    · rename_i es e
      split at h
      · rename_i y hy2
        cases rs
        cases r with
        | ref a =>
          obtain ⟨ys, hy, ry⟩ := g _ _ e
          obtain ⟨v, hv, rv⟩ := ry.get hy2
          have tt := tm_set (o := .lst ys.dropLast) hy fun z => z
          exact ⟨_, ys, v, rfl, rfl, hy, by rw [ry.length]; exact hv, CK.set (m := .lst _) k hy (fun z => z) e g ⟨_, upd_same, ry.dropLast.mono tt⟩ (rv.mono tt) fun G' at_ => h G' at_⟩
      · cases h
    · cases h
  · cases h

/-! ### xs[i] = e -/
def zSetL (to ti : DE) : DG := fun v ρ G Q => to ρ G fun o G1 => ti ρ G1 fun i G2 => match o, i with
  | .ref a, .int n => (match G2 a with
    | some (.lst es) => (match ixN es.length n with
      | some j => ∀ G', At G2 a (.lst (es.set j v)) G' → Q ρ G'
      | none => False)
    | _ => False)
  | _, _ => False
theorem zg_setL {o i : Expr} {to ti : DE} {pos : Pos} (ho : ZE X o to) (hi : ZE X i ti)
    (ha : ∀ v, assign (.Subscript o i pos) X.env v = (do
      let ov ← holding [v] (eval o X.env)
      let iv ← holding [v, ov] (eval i X.env)
      standAt pos
      holding [v, ov, iv] (setItem ov iv v)
      release [v, ov, iv] []) := by intro _; rfl) : ZG X (.Subscript o i pos) (zSetL to ti) := PGi (pg_sub ho hi set_list ha) fun v σ H Q q => by
  obtain ⟨d, ρ, G, Q0, r, hs, hg, h, k⟩ := q
  refine ⟨ρ, G, _, hs, hg, h, fun w G1 x H1 h1 f1 g1 r1 => ⟨ρ, G1, _, hs.mono (hg.tm f1), g1, h1, fun u G2 y H2 h2 f2 g2 r2 => ?_⟩⟩
  split at h2
  · split at h2
    · rename_i es e
      split at h2
      · rename_i j ej
        cases r2
        cases r1 with
        | ref a =>
          obtain ⟨ys, hy, ry⟩ := g2 _ _ e
          have tt := tm_set (o := .lst (ys.set j v)) hy fun z => z
          have rv := r.mono (hg.tm (f1.trans f2))
          refine ⟨_, ys, _, j, rfl, rfl, hy, by rw [ry.length]; exact ej, ?_⟩
          exact k ρ (put G2 _ (.lst (es.set j d))) σ _ (h2 _ (At.put _ _ _)) (f1.trans (f2.trans (Fr.put (.inr ⟨_, e⟩)))) (g2.put (.inr ⟨_, e⟩) tt ⟨_, upd_same, (ry.set j rv).mono tt⟩) ((hs.mono (hg.tm (f1.trans f2))).mono tt)
      · cases h2
    · cases h2
  · cases h2
/-- name op= e -/
def zAug (i : Nat) (te : DE) (z : Z2) : DS := fun Z ρ G => match ρ[i]? with
  | some (some x) => te ρ G fun y G1 => z x y G1 fun w G2 => Z.nx (ρ.set i (some w)) G2
  | _ => False
theorem z_aug {i : Nat} {x : Str} {e : Expr} {te : DE} {op : Operator} {z : Z2} {pos pos' : Pos} (hN : X.N.Nodup) (hi : X.N[i]? = some x) (hx : Loc X.env.scope x) (he : ZE X e te) (ho : ZOp X (inplaceOp op) z) (hf : X.fn x = true ∨ X.env.scope.names.lookup x = some .local := by first | exact .inl rfl | exact .inr rfl | assumption) :
    ZS X (.AugAssign (.Name x pos') op e pos) (zAug i te z) := PSi (ps_aug (ti := upR2 X.K z) hN hi hx he (fun pins s σ H x y v u Q I r1 r2 h => ho pins s σ H x y v u Q I r1 r2 h) hf) fun D σ H q => by
  obtain ⟨ρ, G, Z, hs, hg, h, k1, _⟩ := q
  unfold zAug at h
  split at h
  · rename_i d ed
    obtain ⟨v, hv, rv⟩ := hs.2 i d ed
    exact ⟨v, hv, ρ, G, _, hs, hg, h, fun y G1 u H1 h1 f1 g1 r1 => ⟨d, y, G1, _, g1, rv.mono (hg.tm f1), r1, h1, fun w G2 u2 H2 h2 f2 g2 r2 => k1 _ G2 _ H2 h2 (f1.trans f2) g2 ((hs.mono (hg.tm (f1.trans f2))).set r2)⟩⟩
  · cases h
theorem zi_add : ZOp X (inplaceOp .Add) (dI0 fun i j => .int (i + j)) := op_i0 iop_add fun _ _ _ => .int _
theorem zi_sub : ZOp X (inplaceOp .Sub) (dI0 fun i j => .int (i - j)) := op_i0 iop_sub fun _ _ _ => .int _
theorem zi_div : ZOp X (inplaceOp .FloorDiv) (dI CDiv fun i j => .int (i / j)) := op_iC iop_fdiv fun _ _ _ => .int _

/-! ### list + list -/
def dCat : Z2 := fun d e G Q => match d, e with
  | .ref a, .ref b => (match G a, G b with
    | some (.lst xs), some (.lst ys) => xs.length + ys.length ≤ sizeLine ∧ ∀ p G', G p = none → At G p (.lst (xs ++ ys)) G' → Q (.ref p) G'
    | _, _ => False)
  | _, _ => False
theorem zo_cat : ZOp X (binaryOp .Add) dCat := OpRi op_cat fun x y H Q q => by
  obtain ⟨d, e, G, Q0, g, rx, ry, h, k⟩ := q
  unfold dCat at h
  split at h
  · split at h
    · rename_i xs ys e1 e2
      cases rx
      cases ry
      obtain ⟨us, hu, ru⟩ := g _ _ e1
      obtain ⟨ws, hw, rw'⟩ := g _ _ e2
      exact ⟨_, _, us, ws, rfl, rfl, hu, hw, by rw [ru.length, rw'.length]; exact h.1, fun p hp => CK.new (m := .lst (xs ++ ys)) k hp g ⟨_, upd_same, (ru.append rw').mono (tm_new hp)⟩ fun G' n at_ => h.2 p G' n at_⟩
    · cases h
  · cases h
def dCatS : Z2 := fun d e G Q => match d, e with
  | .str a, .str b => a.length + b.length ≤ sizeLine ∧ Q (.str (a ++ b)) G
  | _, _ => False
theorem zo_catS : ZOp X (binaryOp .Add) dCatS := OpRi op_add_str fun x y H Q q => by
  obtain ⟨d, e, G, Q0, g, rx, ry, h, k⟩ := q
  unfold dCatS at h
  split at h
  · cases rx
    cases ry
    exact ⟨_, _, rfl, rfl, h.1, CK.at k h.2 g (.str _)⟩
  · cases h
/-- t + u, tuples -/
def dCatT : Z2 := fun d e G Q => match d, e with
  | .tup a, .tup b => a ≠ [] ∧ a.length + b.length ≤ sizeLine ∧ Q (.tup (a ++ b)) G
  | .tup a, .ct b => a ≠ [] ∧ a.length + b.length ≤ sizeLine ∧ Q (.tup (a ++ b)) G
  | _, _ => False
theorem zo_catT : ZOp X (binaryOp .Add) dCatT := OpRi op_catT fun x y H Q q => by
  obtain ⟨d, e, G, Q0, g, rx, ry, h, k⟩ := q
  have go : ∀ {a b : Addr} {xs ys : List V} {ds es : List D}, TqT X.K H a xs → SqT X.K H b ys → Reps X.K H xs ds → Reps X.K H ys es → ds ≠ [] ∧ ds.length + es.length ≤ sizeLine ∧ Q0 (.tup (ds ++ es)) G → rCatT X.K (.ref a) (.ref b) H Q := by
    intro a b xs ys ds es ha hb ra rb h
    refine ⟨a, b, xs, ys, rfl, rfl, ha.sq, hb, ?_, by rw [ra.length, rb.length]; exact h.2.1, fun e => ?_, fun _ p hp => CK.tup k hp h.2.2 g (ra.append rb)⟩
    · rintro rfl
      cases ra
      exact h.1 rfl
    · subst e
      cases rb
      have q := h.2.2
      rw [List.append_nil] at q
      exact CK.at k q g (.tup ha ra)
  unfold dCatT at h
  split at h
  · cases rx with
    | tup ha ra =>
      cases ry with
      | tup hb rb => exact go ha hb.sq ra rb h
  · cases rx with
    | tup ha ra =>
      cases ry with
      | ct hb rb => exact go ha hb.sq ra rb h
  · cases h
end
end Z

namespace Z
open PySem PySem.Spec PyProof.Rows L2
variable [τ : Tbl] [β : Bas]

/-! ### attributes as pairs -/
def putA (f : Str) (v : D) : List (Str × D) → List (Str × D)
  | [] => [(f, v)]
  | (g, x) :: r => if g = f then (g, v) :: r else (g, x) :: putA f v r
theorem RepKV.lookup {K : PySem.W.Frag} {H : Hp} (f : Str) : ∀ {ds : List (Str × D)} {vs : List (Str × V)}, RepKV K H vs ds → RepO' K H (vs.lookup f) (ds.lookup f)
  | [], _, .nil => True.intro
  | _ :: _, _, .cons (k := k) h r => by
    rw [List.lookup_cons, List.lookup_cons]
    cases e : f == k with
    | true => exact h
    | false => exact r.lookup f
theorem RepKV.putA {K : PySem.W.Frag} {H : Hp} {f : Str} {v : V} {d : D} (rv : Rep K H v d) : ∀ {ds : List (Str × D)} {vs : List (Str × V)}, RepKV K H vs ds → RepKV K H (putF f v vs) (putA f d ds)
  | [], _, .nil => .cons rv .nil
  | _ :: _, _, .cons (k := k) h r => by
    unfold putF Z.putA
    by_cases e : k = f
    · rw [if_pos e, if_pos e]
      exact .cons rv r
    · rw [if_neg e, if_neg e]
      exact .cons h (r.putA rv)

section
variable {X : Cx} {C : Addr} {o e value : Expr} {f m : Str} {pos pos' tpos apos p : Pos} {to tv : DE} {es : List Expr} {tA : DA}
/-- o.f -/
def zFld (C : Addr) (to : DE) (f : Str) : DE := fun ρ G Q => to ρ G fun d G1 => match d with
  | .ref a => (match G1 a with
    | some (.obj C' _ fs) => C' = C ∧ (match fs.lookup f with
      | some x => Q x G1
      | none => False)
    | _ => False)
  | _ => False
theorem z_fld (c : Cls X.K C) (n : NoAttr X.K C f) (ho : ZE X o to) (hb : attributeBase o f X.env (eval o X.env) = eval o X.env := by rfl) : ZE X (.Attribute o f pos) (zFld C to f) := PEi (pe_fld ho hb) fun σ H Q q => by
  obtain ⟨ρ, G, Q0, hs, hg, h, k⟩ := q
  refine ⟨ρ, G, _, hs, hg, h, fun d G1 x H1 h1 f1 g1 r1 => ?_⟩
  cases r1 with
  | ref a =>
    simp only at h1
    split at h1
    · rename_i C' dx fs ea
      obtain ⟨rfl, h1⟩ := h1
      split at h1
      · rename_i d ed
        obtain ⟨xs, hx, rx⟩ := g1 a _ ea
        have rl := rx.lookup f
        rw [ed] at rl
        cases el : xs.lookup f with
        | none => rw [el] at rl; exact rl.elim
        | some v =>
          rw [el] at rl
          exact ⟨a, _, _, xs, v, rfl, hx, c, n, el, k d G1 v H1 h1 f1 g1 rl⟩
      · cases h1
    · cases h1
  | _ => exact False.elim h1
/-- o.f = e -/
def zSFld (C : Addr) (to tv : DE) (f : Str) : DS := fun Z ρ G => tv ρ G fun y G1 => to ρ G1 fun x G2 => match x with
  | .ref a => (match G2 a with
    | some (.obj C' dx fs) => C' = C ∧ fs.length < 1000 ∧ ∀ G3, At G2 a (.obj C dx (putA f y fs)) G3 → Z.nx ρ G3
    | _ => False)
  | _ => False
theorem z_sfld (c : Cls X.K C) (n : NoAttr X.K C f) (ho : ZE X o to) (hv : ZE X value tv) (hs : swapsWith value (some (.Attribute o f pos')) pos.line X.env = pure false := by rfl) : ZS X (.Assign [.Attribute o f pos'] value pos) (zSFld C to tv f) := PSi (ps_fld ho hv hs) fun D σ H q => by
  obtain ⟨ρ, G, Z, hs, hg, h, k1, _⟩ := q
  refine ⟨ρ, G, _, hs, hg, h, fun y G1 v H1 h1 f1 g1 r1 => ⟨ρ, G1, _, hs.mono (hg.tm f1), g1, h1, fun x G2 u H2 h2 f2 g2 r2 => ?_⟩⟩
  cases r2 with
  | ref a =>
    simp only at h2
    split at h2
    · rename_i C' dx fs ea
      obtain ⟨rfl, hl, h2⟩ := h2
      obtain ⟨xs, hx, rx⟩ := g2 a _ ea
      have t := tm_set (o := .ins C' dx (putF f v xs)) hx fun z => z
      exact ⟨a, _, dx, xs, rfl, hx, c, n, by rw [rx.len]; exact hl, k1 ρ (put G2 a (.obj C' dx (putA f y fs))) σ _ (h2 _ (At.put _ _ _)) ((f1.trans f2).trans (Fr.put (.inr ⟨_, ea⟩))) (g2.put (.inr ⟨_, ea⟩) t ⟨_, upd_same, (rx.putA (r1.mono (g1.tm f2))).mono t⟩) ((hs.mono (hg.tm (f1.trans f2))).mono t)⟩
    · cases h2
  | _ => exact False.elim h2
/-- o.f op= e -/
def zFldAug (C : Addr) (to tv : DE) (z : Z2) (f : Str) : DS := fun Z ρ G => to ρ G fun x G1 => match x with
  | .ref a => (match G1 a with
    | some (.obj C' _ fs) => C' = C ∧ (match fs.lookup f with
      | some d => tv ρ G1 fun y G2 => z d y G2 fun w G3 => (match G3 a with
        | some (.obj C2 dx fs') => C2 = C ∧ fs'.length < 1000 ∧ ∀ G4, At G3 a (.obj C dx (putA f w fs')) G4 → Z.nx ρ G4
        | _ => False)
      | none => False)
    | _ => False)
  | _ => False
theorem z_fldaug {op : Operator} {z : Z2} (c : Cls X.K C) (n : NoAttr X.K C f) (ho : ZE X o to) (hv : ZE X value tv) (hop : ZOp X (inplaceOp op) z) : ZS X (.AugAssign (.Attribute o f tpos) op value pos) (zFldAug C to tv z f) := PSi (ps_fldaug (rd := upR2 X.K z) ho hv (fun pins s σ H x y u v Q I rx ry q => hop pins s σ H x y u v Q I rx ry q)) fun D σ H q => by
  obtain ⟨ρ, G, Z, hs, hg, h, k1, _⟩ := q
  refine ⟨ρ, G, _, hs, hg, h, fun x G1 u H1 h1 f1 g1 r1 => ?_⟩
  cases r1 with
  | ref a =>
    simp only at h1
    split at h1
    · rename_i C' dx fs ea
      obtain ⟨rfl, h1⟩ := h1
      split at h1
      · rename_i d ed
        obtain ⟨xs, hx, rx⟩ := g1 a _ ea
        have rl := rx.lookup f
        rw [ed] at rl
        cases el : xs.lookup f with
        | none => rw [el] at rl; exact rl.elim
        | some v =>
          rw [el] at rl
          refine ⟨a, _, _, xs, v, rfl, hx, c, n, el, ρ, G1, _, hs.mono (hg.tm f1), g1, h1, fun y G2 w H2 h2 f2 g2 r2 => ⟨d, y, G2, _, g2, rl.mono (g1.tm f2), r2, h2, fun w' G3 u3 H3 h3 f3 g3 r3 => ?_⟩⟩
          split at h3
          · rename_i C2 dx2 fs2 ea2
            obtain ⟨rfl, hl, h3⟩ := h3
            obtain ⟨xs2, hx2, rx2⟩ := g3 a _ ea2
            have t := tm_set (o := .ins C2 dx2 (putF f u3 xs2)) hx2 fun z => z
            have ff := f1.trans (f2.trans f3)
            exact ⟨dx2, xs2, hx2, by rw [rx2.len]; exact hl, k1 ρ (put G3 a (.obj C2 dx2 (putA f w' fs2))) σ _ (h3 _ (At.put _ _ _)) (ff.trans (Fr.put (.inr ⟨_, ea2⟩))) (g3.put (.inr ⟨_, ea2⟩) t ⟨_, upd_same, (rx2.putA r3).mono t⟩) ((hs.mono (hg.tm ff)).mono t)⟩
          · cases h3
      · cases h1
    · cases h1
  | _ => exact False.elim h1
/-- C(e, ..) -/
def zMake (C : Addr) (z : ZSp) (E0 : XKz) (t : DA) : DE := fun ρ G Q => t ρ G fun ds G1 => ∀ x dx G2, G1 x = none → At G1 x (.obj C dx []) G2 → z (.ref x :: ds) G2 (fun d G3 => d = .non ∧ Q (.ref x) G3) E0
theorem z_make {k : Nat} {g : Addr} {fd : FuncData} {ps : List Str} {z : ZSp} {x : Str} {E0 : XKz} {E : XK} (M : Mk X.K C g) (F : FnOk X.prog X.w X.K X.mg X.base (L2.CX X.prog X.w) k g fd ps (upSp X.K z)) (hr : Room (k + 1) X.A) (hg : Gl X x) (hm : X.mg x = some (.ref C)) (hb : Binds X.K fd ps [])
    (hE : EOk X.K E0 E) (hx : Passes (L2.CX X.prog X.w) X E) (ha : ZA X (e :: es) tA) (hdb : (x == ("__debug__" : Str)) = false := by decide) (he : starEach (e :: es) X.env = (false, eval e X.env) :: starEach es X.env := by rfl) (hpl : (backTo pos (starEach es X.env)).any (·.1) = false := by rfl) :
    ZE X (.Call (.Name x p) (e :: es) [] pos) (zMake C z E0 tA) := PEi (pe_make M F hr hg hm hb .nil hx ha hdb he hpl) fun σ H Q q => by
  obtain ⟨ρ, G, Q0, hs, hg, h, k⟩ := q
  refine ⟨ρ, G, _, hs, hg, h, fun ds G1 xs H1 h1 f1 g1 r1 x dx hx hdx ne => ?_⟩
  have ga := g1.keep (o := .own x) hdx
  have fa := Fr.tup (G := G1) (o := .own x) hdx
  have hx' : upd H1 dx (.own x) x = none := by rw [upd_ne (Ne.symm ne)]; exact hx
  have tb := tm_new (o := .ins C dx []) hx'
  have gb := ga.put (m := .obj C dx []) (.inl hx') tb ⟨[], upd_same, .nil⟩
  have fb := fa.trans (Fr.put (G := G1) (o := .ins C dx []) (m := .obj C dx []) (.inl hx'))
  have r2 := (r1.mono (g1.tm fa)).mono tb
  refine ⟨.ref x :: ds, put G1 x (.obj C dx []), _, E0, gb.toSim0, by rw [List.append_nil]; exact .cons (.ref x) r2, h1 x dx _ (g1.none hx) (At.put _ _ _), fun d G' v H' q f g r => ?_, fun c G' dx' H' q f g => hE c G' dx' H' q (gb.next f g)⟩
  obtain ⟨rfl, q⟩ := q
  cases r
  exact ⟨rfl, k _ G' _ H' q (f1.trans (fb.trans f)) (gb.next f g) (.ref x)⟩
theorem z_make0 {k : Nat} {g : Addr} {fd : FuncData} {ps : List Str} {z : ZSp} {x : Str} {E0 : XKz} {E : XK} (M : Mk X.K C g) (F : FnOk X.prog X.w X.K X.mg X.base (L2.CX X.prog X.w) k g fd ps (upSp X.K z)) (hr : Room (k + 1) X.A) (hg : Gl X x) (hm : X.mg x = some (.ref C)) (hb : Binds X.K fd ps [])
    (hE : EOk X.K E0 E) (hx : Passes (L2.CX X.prog X.w) X E) (hdb : (x == ("__debug__" : Str)) = false := by decide) : ZE X (.Call (.Name x p) [] [] pos) (zMake C z E0 zNil) := PEi (pe_make0 M F hr hg hm hb .nil hx hdb) fun σ H Q q => by
  obtain ⟨ρ, G, Q0, hs, hg, h, k⟩ := q
  intro x dx hx hdx ne
  have ga := hg.keep (o := .own x) hdx
  have fa := Fr.tup (G := G) (o := .own x) hdx
  have hx' : upd H dx (.own x) x = none := by rw [upd_ne (Ne.symm ne)]; exact hx
  have tb := tm_new (o := .ins C dx []) hx'
  have gb := ga.put (m := .obj C dx []) (.inl hx') tb ⟨[], upd_same, .nil⟩
  have fb := fa.trans (Fr.put (G := G) (o := .ins C dx []) (m := .obj C dx []) (.inl hx'))
  refine ⟨[.ref x], put G x (.obj C dx []), _, E0, gb.toSim0, .cons (.ref x) .nil, h x dx _ (hg.none hx) (At.put _ _ _), fun d G' v H' q f g r => ?_, fun c G' dx' H' q f g => hE c G' dx' H' q (gb.next f g)⟩
  obtain ⟨rfl, q⟩ := q
  cases r
  exact ⟨rfl, k _ G' _ H' q (fb.trans f) (gb.next f g) (.ref x)⟩
/-- o.m(e, ..) -/
def zMeth (C : Addr) (m : Str) (z : ZSp) (E0 : XKz) (to : DE) (t : DA) : DE := fun ρ G Q => to ρ G fun d G1 => match d with
  | .ref a => (match G1 a with
    | some (.obj C' _ fs) => C' = C ∧ fs.lookup m = none ∧ t ρ G1 fun ds G2 => z (.ref a :: ds) G2 Q E0
    | _ => False)
  | _ => False
theorem up_meth {K : PySem.W.Frag} {C : Addr} {m : Str} {z : ZSp} {E0 : XKz} {E : XK} {to : DE} {t : DA} (hE : EOk K E0 E) {σ : L2.St} {H : Hp} {Q : VK} (q : upE K (zMeth C m z E0 to t) σ H Q) : tMeth C m (upSp K z) [] E (upE K to) (upA K t) σ H Q := by
  obtain ⟨ρ, G, Q0, hs, hg, h, k⟩ := q
  refine ⟨ρ, G, _, hs, hg, h, fun d G1 x H1 h1 f1 g1 r1 => ?_⟩
  cases r1 with
  | ref a =>
    simp only at h1
    split at h1
    · rename_i C' dx fs ea
      obtain ⟨rfl, hn, h1⟩ := h1
      obtain ⟨xs, hx, rx⟩ := g1 a _ ea
      have rl := rx.lookup m
      rw [hn] at rl
      have el : xs.lookup m = none := by
        cases el : xs.lookup m with
        | none => rfl
        | some v => rw [el] at rl; exact rl.elim
      exact ⟨a, dx, xs, rfl, hx, el, ρ, G1, _, hs.mono (hg.tm f1), g1, h1, fun ds G2 vs H2 h2 f2 g2 r2 => ⟨.ref a :: ds, G2, Q0, E0, g2.toSim0, by rw [List.append_nil]; exact .cons (.ref a) r2, h2, fun d G' v H' q f g r => k d G' v H' q (f1.trans (f2.trans f)) (g2.next f g) r, fun c G' dx H' q f g => hE c G' dx H' q (g2.next f g)⟩⟩
    · cases h1
  | _ => exact False.elim h1
theorem z_meth {k : Nat} {g : Addr} {fd : FuncData} {ps : List Str} {z : ZSp} {pl : Sem Bool} {E0 : XKz} {E : XK} (c : Cls X.K C) (hm : Meth X.K C m g) (F : FnOk X.prog X.w X.K X.mg X.base (L2.CX X.prog X.w) k g fd ps (upSp X.K z)) (hr : Room k X.A) (hb : Binds X.K fd ps [])
    (hE : EOk X.K E0 E) (hx : Passes (L2.CX X.prog X.w) X E) (ho : ZE X o to) (ha : ZA X (e :: es) tA)
    (hst : starEach (e :: es) X.env = (false, eval e X.env) :: starEach es X.env := by rfl) (hpl : (backTo pos (starEach es X.env)).any (·.1) = false := by rfl)
    (ht : eval (.Call (.Attribute o m apos) (e :: es) [] pos) X.env = (do
      let ov ← eval o X.env
      standAt apos.atName
      let (f, first) ← holding [ov] (getMethod ov m pl)
      callWith pos f first (backTo pos (starEach (e :: es) X.env)) (backToKw pos (keywordEach [] X.env))) := by rfl) :
    ZE X (.Call (.Attribute o m apos) (e :: es) [] pos) (zMeth C m z E0 to tA) := PEi (pe_meth ho c hm F hr hb .nil hx ha hst hpl ht) fun _ _ _ q => up_meth hE q
theorem z_meth0 {k : Nat} {g : Addr} {fd : FuncData} {ps : List Str} {z : ZSp} {pl : Sem Bool} {E0 : XKz} {E : XK} (c : Cls X.K C) (hm : Meth X.K C m g) (F : FnOk X.prog X.w X.K X.mg X.base (L2.CX X.prog X.w) k g fd ps (upSp X.K z)) (hr : Room k X.A) (hb : Binds X.K fd ps [])
    (hE : EOk X.K E0 E) (hx : Passes (L2.CX X.prog X.w) X E) (ho : ZE X o to)
    (ht : eval (.Call (.Attribute o m apos) [] [] pos) X.env = (do
      let ov ← eval o X.env
      standAt apos.atName
      let (f, first) ← holding [ov] (getMethod ov m pl)
      callWith pos f first (backTo pos (starEach [] X.env)) (backToKw pos (keywordEach [] X.env))) := by rfl) :
    ZE X (.Call (.Attribute o m apos) [] [] pos) (zMeth C m z E0 to zNil) := PEi (pe_meth0 ho c hm F hr hb .nil hx ht) fun σ H Q q => by
  obtain ⟨ρ, G, Q0, hs, hg, h, k⟩ := q
  refine ⟨ρ, G, _, hs, hg, h, fun d G1 x H1 h1 f1 g1 r1 => ?_⟩
  cases r1 with
  | ref a =>
    simp only at h1
    split at h1
    · rename_i C' dx fs ea
      obtain ⟨rfl, hn, h1⟩ := h1
      obtain ⟨xs, hx, rx⟩ := g1 a _ ea
      have rl := rx.lookup m
      rw [hn] at rl
      have el : xs.lookup m = none := by
        cases el : xs.lookup m with
        | none => rfl
        | some v => rw [el] at rl; exact rl.elim
      exact ⟨a, dx, xs, rfl, hx, el, [.ref a], G1, Q0, E0, g1.toSim0, .cons (.ref a) .nil, h1, fun d G' v H' q f g r => k d G' v H' q (f1.trans f) (g1.next f g) r, fun c G' dx H' q f g => hE c G' dx H' q (g1.next f g)⟩
    · cases h1
  | _ => exact False.elim h1

/-! ### raise, f-strings -/
def zRaise (C : Addr) (E0 : XKz) : DS := fun _ _ G => E0 (.ref C) G
def zRaise1 (C : Addr) (E0 : XKz) (te : DE) : DS := fun _ ρ G => te ρ G fun _ G1 => E0 (.ref C) G1
theorem z_raise1 {B newId initId : String} {bmB : List Value} {x : Str} {p2 : Pos} {te : DE} {E0 : XKz} {E : XK} (F : ExcBaseFacts B newId initId bmB) (q : PySem.W.excIn X.K C bmB newId = true) (gC : X.mg x = some (.ref C)) (kC : PySem.W.keepIn X.K (.ref C) = true) (r : Raises X (.ref C)) (hg : Gl X x)
    (hc : X.calm = true) (tk : Takes X (fun cls d _ H => E cls d H)) (hE : EOk X.K E0 E) (he : ZE X e te) (hs : starEach [e] X.env = (false, eval e X.env) :: starEach [] X.env := by rfl) (hdb : (x == ("__debug__" : Str)) = false := by decide) :
    ZS X (.Raise (some (.Call (.Name x p) [e] [] p2)) none pos) (zRaise1 C E0 te) := PSi (ps_raise hc tk (SkE.pmk_own1 F q gC kC r hg he hs hdb)) fun D σ H q => by
  obtain ⟨ρ, G, Z, hs, hg, h, _⟩ := q
  exact ⟨ρ, G, _, hs, hg, h, fun d G1 x H1 h1 f1 g1 r1 => hE _ _ _ _ h1 g1⟩
/-- a statement that is never reached -/
def zNever : DS := fun _ _ _ => False
theorem z_never {st : Stmt} : ZS X st zNever := PSi (t := L2.tNever) ps_never fun D σ H q => by
  obtain ⟨ρ, G, Z, hs, hg, h, _⟩ := q
  exact h.elim
def zFmt (te : DE) : DE := fun ρ G Q => te ρ G fun d G1 => match d with
  | .str y => y.length ≤ sizeLine ∧ Q (.str y) G1
  | .int i => i.natAbs.log2 < 1920 ∧ Q (.str (toString i)) G1
  | _ => False
theorem z_fmt {te : DE} (he : ZE X e te) : ZE X (.FormattedValue e (-1) none pos) (zFmt te) := PEi (pe_fmt he) fun σ H Q q => by
  obtain ⟨ρ, G, Q0, hs, hg, h, k⟩ := q
  refine ⟨ρ, G, _, hs, hg, h, fun d G1 x H1 h1 f1 g1 r1 => ?_⟩
  cases r1 with
  | str y => exact .inl ⟨y, rfl, h1.1, k _ G1 _ H1 h1.2 f1 g1 (.str _)⟩
  | int i => exact .inr ⟨i, rfl, h1.1, k _ G1 _ H1 h1.2 f1 g1 (.str _)⟩
  | _ => exact False.elim h1
inductive ZJ (X : Cx) : List Expr → List DE → Prop where
  | nil : ZJ X [] []
  | cons {e : Expr} {t : DE} {es : List Expr} {ts : List DE} (h : ZE X e t) (r : ZJ X es ts) : ZJ X (e :: es) (t :: ts)
def zJs : List DE → Str → ZSt → Gp → (Str → Gp → Prop) → Prop
  | [], acc, _, G, Q => Q acc G
  | t :: ts, acc, ρ, G, Q => t ρ G fun d G1 => match d with
    | .str y => (acc ++ y).length ≤ sizeLine ∧ zJs ts (acc ++ y) ρ G1 Q
    | _ => False
theorem zj_pj {es : List Expr} {ts : List DE} (h : ZJ X es ts) : PJ X es (ts.map (upE X.K)) := by
  induction h with
  | nil => exact .nil
  | cons h _ ih => exact .cons h ih
theorem up_js {K : PySem.W.Frag} : ∀ {ts : List DE} {acc : Str} {σ : L2.St} {ρ : ZSt} {H : Hp} {G : Gp} {Q0 : Str → Gp → Prop} {Q : Str → Hp → Prop}, SimS K H σ ρ → SimG K H G → zJs ts acc ρ G Q0 → (∀ y G' H', Q0 y G' → Fr H G H' G' → SimG K H' G' → Q y H') → tJs (ts.map (upE K)) acc σ H Q
  | [], _, _, _, _, _, _, _, _, hg, h, k => k _ _ _ h (Fr.refl _ _) hg
  | t :: ts, acc, σ, ρ, H, G, Q0, Q, hs, hg, h, k => ⟨ρ, G, _, hs, hg, h, fun d G1 x H1 h1 f1 g1 r1 => by
      cases r1 with
      | str y => exact ⟨y, rfl, h1.1, up_js (hs.mono (hg.tm f1)) g1 h1.2 fun y G' H' q f g => k y G' H' q (f1.trans f) g⟩
      | _ => exact False.elim h1⟩
def zJoin (ts : List DE) : DE := fun ρ G Q => zJs ts Str.empty ρ G fun y G1 => Q (.str y) G1
theorem z_joined {v1 v2 : Expr} {rest : List Expr} {ts : List DE} (h : ZJ X (v1 :: v2 :: rest) ts) : ZE X (.JoinedStr (v1 :: v2 :: rest) pos) (zJoin ts) := PEi (pe_joined (zj_pj h)) fun σ H Q q => by
  obtain ⟨ρ, G, Q0, hs, hg, h, k⟩ := q
  exact up_js hs hg h fun y G' H' q f g => k _ G' _ H' q f g (.str _)
end

/-! ### a def's promise by its body -/
def zstart (N : List Str) (ds : List D) : ZSt := ds.map some ++ List.replicate (N.length - ds.length) none
theorem sims_start {K : PySem.W.Frag} {H : Hp} {N : List Str} {vs : List V} {ds : List D} (r : Reps K H vs ds) : SimS K H (L2.start N vs) (zstart N ds) := by
  unfold L2.start zstart
  refine ⟨by simp [r.length], fun i d e => ?_⟩
  by_cases hi : i < ds.length
  · rw [List.getElem?_append_left (by simpa using hi), List.getElem?_map] at e
    cases q : ds[i]? with
    | none => rw [q] at e; cases e
    | some d' =>
      rw [q] at e
      cases e
      obtain ⟨v, hv, rv⟩ := r.get q
      exact ⟨v, by rw [List.getElem?_append_left (by rw [List.length_map, r.length]; exact hi), List.getElem?_map, hv]; rfl, rv⟩
  · rw [List.getElem?_append_right (by simp; omega)] at e
    have := List.mem_of_getElem? e
    rw [List.mem_replicate] at this
    cases this.2
end Z
namespace Z
open PySem PySem.Spec PyProof.Rows L2
variable [τ : Tbl]
section
variable {P : Program} {w : World} {K : PySem.W.Frag} {mg : Str → Option Value} {base : Heap}
theorem z_fn {x qual : Str} {st : Stmt} {f : Addr} {fd : FuncData} {N ps : List Str} {k : Nat} {z : ZSp} (F : Fun K x qual st f fd) (S : FnScope N ps (defScope st)) (len : ∀ ds G Q E, z ds G Q E → ds.length = ps.length)
    (hbody : ∀ (bas : Bas) (cdv : Value) (A : Around) (outer : List Env) (s : Shared) (H : Hp) (E : XK), Room k (A.deeper (envOfC qual (defScope st) s.heap.objs.size f cdv)) → ∀ (ds : List D) (G : Gp) (Q : DK) (E0 : XKz), @EOk τ bas K E0 E → z ds G Q E0 →
      ∃ t, @ZSs τ bas (cxOf (L2.CX P w) P w K mg base N qual (defScope st) f cdv A outer s H E) (defBody st) t ∧ t { nx := fun _ G' => Q .non G', rt := Q } (zstart N ds) G) : FnOk P w K mg base (L2.CX P w) (k + 1) f fd ps (upSp K z) := by
  refine F.okX S (fun vs H Q E h => ?_) (fun cdv A outer s H vs Q E hr h => ?_)
  · obtain ⟨ds, G, Q0, E0, _, r, hz, _⟩ := h
    rw [r.length]
    exact len _ _ _ _ hz
  · obtain ⟨ds, G, Q0, E0, g, r, hz, k1, k2⟩ := h
    obtain ⟨t, ht, hq⟩ := hbody (frBas H G) cdv A outer s H E hr ds G Q0 E0 (fun c G' dx H' e g' => k2 c G' dx H' e (@SimG.base τ (frBas H G) _ _ _ g') (@SimG.toSim0 τ (frBas H G) _ _ _ g')) hz
    letI : Bas := frBas H G
    exact ⟨_, ht, zstart N ds, G, _, sims_start r, ⟨g, Fr.refl H G⟩, hq, fun ρ' G' σ' H' q f g' s' => k1 .non G' .non H' q f g'.toSim0 .non, fun d G' v H' q f g' r => k1 d G' v H' q f g'.toSim0 r, fun _ _ _ _ q => q.elim, fun _ _ _ _ q => q.elim⟩
end
end Z

namespace Z
open PySem PySem.Spec PyProof.Rows L2
variable [τ : Tbl] [β : Bas]

/-! ### names of the module's top -/
section
variable {X : Cx} {pos : Pos}
theorem up_glob {v : V} {d : D} {x : Str} {u : Value} (hg : Gl X x) (hm : X.mg x = some u) (r : RelV v u) (rd : ∀ H, Rep X.K H v d) (hd : (x == ("__debug__" : Str)) = false := by decide) : ZE X (.Name x pos) (zC d) := up_c (pe_glob hg hm r hd) rd
theorem z_gint {x : Str} {i : Int} (hg : Gl X x) (hm : ∃ t, X.mg x = some (.int i t)) (hd : (x == ("__debug__" : Str)) = false := by decide) : ZE X (.Name x pos) (zC (.int i)) := by
  obtain ⟨t, hm⟩ := hm
  exact up_glob (v := .int i) hg hm ⟨t, rfl⟩ (fun _ => .int _) hd
theorem z_gstr {x y : Str} (hg : Gl X x) (hm : ∃ t, X.mg x = some (.str y t)) (hd : (x == ("__debug__" : Str)) = false := by decide) : ZE X (.Name x pos) (zC (.str y)) := by
  obtain ⟨t, hm⟩ := hm
  exact up_glob (v := .str y) hg hm ⟨t, rfl⟩ (fun _ => .str _) hd
/-- a written tuple at the top -/
theorem z_gct {x : Str} {a : Addr} {xs : List V} {ds : List D} (hg : Gl X x) (hm : X.mg x = some (.ref a)) (hq : CqT X.K a xs) (hr : ∀ H, Reps X.K H xs ds) (hd : (x == ("__debug__" : Str)) = false := by decide) : ZE X (.Name x pos) (zC (.ct ds)) :=
  up_glob (v := .ref a) hg hm rfl (fun H => .ct hq (hr H)) hd
end
theorem reps_strs {K : PySem.W.Frag} {H : Hp} : ∀ ys : List Str, Reps K H (ys.map V.str) (ys.map D.str)
  | [] => .nil
  | y :: r => .cons (.str y) (reps_strs r)
theorem Reps.of_strs {K : PySem.W.Frag} {H : Hp} : ∀ {ys : List Str} {vs : List V}, Reps K H vs (ys.map D.str) → vs = ys.map V.str
  | [], _, .nil => rfl
  | _ :: _, _, .cons (.str _) r => by rw [List.map_cons, Reps.of_strs r]

/-! ### plain comparisons -/
def dEqF (neg : Bool) : Z2 := fun d e G Q => match d, e with
  | .int i, .int j => Q (.bl (neg != decide (i = j))) G
  | .str i, .str j => Q (.bl (neg != decide (i = j))) G
  | .bl i, .bl j => Q (.bl (neg != decide (i = j))) G
  | _, _ => False
section
variable {X : Cx}
theorem dec_inj {α : Type} [DecidableEq α] {c : α → V} (h : ∀ a b, c a = c b → a = b) (a b : α) : decide (c a = c b) = decide (a = b) := decide_eq_decide.mpr ⟨h a b, fun e => by rw [e]⟩
theorem zo_eqF : ZOp X (compareOp .Eq) (dEqF false) := OpRi op_eq fun x y H Q q => by
  obtain ⟨d, e, G, Q0, sg, rx, ry, h, k⟩ := q
  unfold dEqF at h
  split at h
  · cases rx; cases ry
    refine ⟨rfl, ?_⟩
    rw [dec_inj (c := V.int) (fun a b e => V.int.inj e)]
    exact CK.at k h sg (by simpa using Rep.bl _)
  · cases rx; cases ry
    refine ⟨rfl, ?_⟩
    rw [dec_inj (c := V.str) (fun a b e => V.str.inj e)]
    exact CK.at k h sg (by simpa using Rep.bl _)
  · cases rx; cases ry
    refine ⟨rfl, ?_⟩
    rw [dec_inj (c := V.bl) (fun a b e => V.bl.inj e)]
    exact CK.at k h sg (by simpa using Rep.bl _)
  · cases h
theorem zo_neF : ZOp X (compareOp .NotEq) (dEqF true) := OpRi op_ne fun x y H Q q => by
  obtain ⟨d, e, G, Q0, sg, rx, ry, h, k⟩ := q
  unfold dEqF at h
  split at h
  · cases rx; cases ry
    refine ⟨rfl, ?_⟩
    rw [dec_inj (c := V.int) (fun a b e => V.int.inj e)]
    exact CK.at k h sg (by simpa using Rep.bl _)
  · cases rx; cases ry
    refine ⟨rfl, ?_⟩
    rw [dec_inj (c := V.str) (fun a b e => V.str.inj e)]
    exact CK.at k h sg (by simpa using Rep.bl _)
  · cases rx; cases ry
    refine ⟨rfl, ?_⟩
    rw [dec_inj (c := V.bl) (fun a b e => V.bl.inj e)]
    exact CK.at k h sg (by simpa using Rep.bl _)
  · cases h
/-- one sign in a text -/
def dSign (neg : Bool) : Z2 := fun d e G Q => match d, e with
  | .str x, .str z => ∃ c, x = ⟨#[c]⟩ ∧ Q (.bl (neg != decide (c ∈ z.cps.toList))) G
  | _, _ => False
theorem zo_sign : ZOp X (compareOp .In) (dSign false) := OpRi op_in_sign fun x y H Q q => by
  obtain ⟨d, e, G, Q0, sg, rx, ry, h, k⟩ := q
  unfold dSign at h
  split at h
  · cases rx; cases ry
    obtain ⟨c, rfl, h⟩ := h
    exact ⟨c, _, rfl, rfl, CK.at k h sg (by simpa using Rep.bl _)⟩
  · cases h
theorem zo_notsign : ZOp X (compareOp .NotIn) (dSign true) := OpRi op_notIn_sign fun x y H Q q => by
  obtain ⟨d, e, G, Q0, sg, rx, ry, h, k⟩ := q
  unfold dSign at h
  split at h
  · cases rx; cases ry
    obtain ⟨c, rfl, h⟩ := h
    exact ⟨c, _, rfl, rfl, CK.at k h sg (by simpa using Rep.bl _)⟩
  · cases h
/-- a text, many times -/
def dRep : Z2 := fun d e G Q => match d, e with
  | .str x, .int n => (1 < n ∧ n < 1000 ∧ 0 < x.length ∧ x.length < 1000) ∧ Q (.str (Txt.mul x n)) G
  | _, _ => False
theorem mulOk {x : Str} {n : Int} (h : 1 < n ∧ n < 1000 ∧ 0 < x.length ∧ x.length < 1000) : MulOk x n := by
  obtain ⟨h1, h2, h3, h4⟩ := h
  refine ⟨?_, fun _ _ => ?_, fun _ _ => ?_⟩
  · rw [decide_eq_false (by omega), decide_eq_false (by omega)] <;> rfl
  · have e : (1000 : Int) ≤ (2 ^ 63 - 1) / n := by
      rw [Int.le_ediv_iff_mul_le (by omega)]
      omega
    omega
  · unfold Builtin.Str.tooLong
    have : x.length * n.toNat ≤ 1000 * 1000 := Nat.mul_le_mul (by omega) (by omega)
    have hs : (1000 * 1000 : Nat) ≤ sizeLine := by decide
    simp only [decide_eq_false_iff_not]
    omega
theorem zo_rep : ZOp X (binaryOp .Mult) dRep := by
  intro pins s σ H x y v u Q I rx ry q
  obtain ⟨d, e, G, Q0, sg, qx, qy, h, k⟩ := q
  unfold dRep at h
  split at h
  · cases qx; cases qy
    obtain ⟨t, rfl⟩ := rx
    obtain ⟨t', rfl⟩ := ry
    exact SB.mul (mulOk h.1) fun t9 tk => ⟨.str (Txt.mul _ _), H, I.tok _, ⟨_, rfl⟩, CK.at k h.2 sg (.str _)⟩
  · cases h
/-- str(n) -/
def fStrI : ZF := fun ds G Q => match ds with
  | [.int i] => i.natAbs.log2 < 1920 ∧ Q (.str (toString i)) G
  | _ => False
theorem zf_strI : ZCall X (.type "str") fStrI := CallRi call_str_int fun xs H Q q => by
  obtain ⟨ds, G, Q0, sg, rs, h, k⟩ := q
  unfold fStrI at h
  split at h
  · cases rs with
    | cons r rs =>
      cases rs
      cases r
      exact ⟨_, rfl, h.1, CK.at k h.2 sg (.str _)⟩
  · cases h
/-- int(text) -/
def fIntS : ZF := fun ds G Q => match ds with
  | [.str a] => a.length ≤ 640 ∧ ∃ n, PySem.intText? a = some n ∧ Q (.int n) G
  | _ => False
theorem zf_intS : ZCall X (.type "int") fIntS := CallRi call_int_str fun xs H Q q => by
  obtain ⟨ds, G, Q0, sg, rs, h, k⟩ := q
  unfold fIntS at h
  split at h
  · cases rs with
    | cons r rs =>
      cases rs
      cases r
      obtain ⟨h1, n, h2, h3⟩ := h
      exact ⟨_, n, rfl, h2, h1, CK.at k h3 sg (.int _)⟩
  · cases h
/-- sep.join(list of texts) -/
def mJoin : ZM := fun d ds G Q => match d, ds with
  | .str a, [.ref p] => ∃ ys : List Str, G p = some (.lst (ys.map D.str)) ∧ (ys.map (·.length)).sum + ys.length * a.length ≤ 16777216 ∧ Q (.str (Txt.join a ys)) G
  | _, _ => False
theorem zm_join : ZMt X "str.join" mJoin := MtRi mt_join fun x xs H Q q => by
  obtain ⟨d, ds, G, Q0, sg, rx, rs, h, k⟩ := q
  unfold mJoin at h
  split at h
  · cases rx
    cases rs with
    | cons r rs =>
      cases rs
      cases r
      obtain ⟨ys, hG, h1, h2⟩ := h
      obtain ⟨vs, hv, rv⟩ := sg _ _ hG
      have := rv.of_strs
      subst this
      exact ⟨_, _, ys, rfl, rfl, .inl (SqL.of hv), h1, CK.at k h2 sg (.str _)⟩
  · cases h
end
end Z

namespace Z
open PySem PySem.Spec PyProof.Rows L2
open GxR (TabB GenS trF trF_some)
open LamX (Tabs TabS ExtN CodeO)

/-! ### all(test for x in text), the test over what the module's top has written -/
def EltK (X : Cx) (scope : Scope) (x : Str) (elt : Expr) (pb : Nat → Bool) : Prop :=
  ∀ (ce : Env) (B : Around) (Ex : Value → Shared → Prop) (c : Nat) (t : Tok) (z : Shared) (m : Str → Option Value), ce.scope = scope → ce.globals = mainGlobals → X.K.In z.heap → z.heap.Ns mainGlobals X.mg → z.heap.Ns ce.locals m → m x = some (.str ⟨#[c]⟩ t) →
    wpAny (model X.prog X.w) B (eval elt ce) (fun y z' => y = .bool (pb c) ∧ Keeps z z') Ex z
theorem not_old {n : Nat} {b : Addr} {h : Heap} {o : Obj} (e : h.get? b = some o) (hn : h.objs.size ≤ n) : b ≠ n := fun z => by
  have := Heap.lt_size e
  subst z
  exact absurd this (Nat.not_lt.mpr hn)
/-- where the generator stands once its code is found: the heap y3, in it the iterator at it0; G3: y3 without that -/
structure Mid (X : Cx) (pins : List (Addr × Obj)) (σ : L2.St) (H3 : Hp) (P it0 : Addr) (ps : Array Value) (s1 : Shared) (y3 : Heap) (tq : Nat) (G3 : Heap) : Prop where
  inv : Inv X pins σ H3 { s1 with heap := G3, toks := tq }
  sub : ∀ b o, G3.get? b = some o → y3.get? b = some o ∧ b ≠ it0
  hP : H3 P = some (.tbl ps)
  lt : it0 < y3.objs.size
/-- the generator g over the signs of a, to be walked from s5 -/
def ReadyT (X : Cx) (pins : List (Addr × Obj)) (σ : L2.St) (H3 : Hp) (a : Str) (pb : Nat → Bool) (g : Addr) (s5 : Shared) : Prop :=
  ∃ (fp wr : List Addr) (G : Array GenState → Array GenState → Prop) (F : Nat → Value → Prop) (St : Nat → Shared → Prop), WalksS X.prog X.w X.A.in1 g fp wr G a.cps.size F St ∧ St 0 s5 ∧ TruthOf X.prog X.w X.A.in1 F (trF pb a.cps.toList) ∧
    ∀ s', Moved wr G s5 s' → Inv X pins σ H3 s'
section
variable {X : Cx} {pins : List (Addr × Obj)} {σ : L2.St} {H1 H3 : Hp} {P it0 : Addr} {ps more : Array Value} {s1 : Shared} {y3 G3 : Heap} {tq : Nat}
theorem Mid.ready {a : Str} {pb : Nat → Bool} {scope : Scope} {x : Str} {elt : Expr} {k : Nat} {code : Value} {c : Addr} {St : Nat → Heap → Prop} {Q' : Value → Shared → Prop} {E : Value → Shared → Prop}
    (M : Mid X pins σ H3 P it0 ps s1 y3 tq G3) (hr : Room k X.A) (TB : TabB X.base X.mg c P) (hel : EltK X scope x elt pb)
    (W : ∀ A' : Around, A'.handled = none → Walks X.prog X.w A' it0 [it0] [it0] a.cps.size (SignAt a) St) (h0 : St 0 y3) (lim : y3.NoLimit) (hcs : cStatics < it0)
    (hQ : ∀ g s5, ReadyT X pins σ H3 a pb g s5 → Q' (.ref g) s5) :
    wpAny (model X.prog X.w) X.A (builtinsFor X.env.globals X.env.builtins) (fun bi s₄ =>
      ∃ I fp wr n₀ Pz St₀ pz F, Value.ref it0 = .ref I ∧ (∀ A' : Around, A'.handled = none → Walks X.prog X.w A' I fp wr n₀ Pz St₀) ∧ St₀ 0 s₄.heap ∧ (∀ b ∈ fp, b < s₄.heap.objs.size) ∧ s₄.heap.NoLimit ∧ cStatics ∉ wr ∧
        (∀ hz : Heap, (∀ b o, s₄.heap.get? b = some o → hz.get? b = some o) → QuietGen X.prog X.w (genEnv scope (cloFrom X.env.cells scope.names []) s₄.heap.objs.size code bi X.env) x [] elt (List.range s₄.heap.objs.size) wr Pz pz F hz) ∧
        (∀ g h₅ tk gs, gs.bare = true → s₄.heap.objs.size < g → h₅.objs.size = g + 1 → (∀ b o, s₄.heap.get? b = some o → h₅.get? b = some o) →
          WalksS X.prog X.w X.A.in4 g (g :: s₄.heap.objs.size :: List.range s₄.heap.objs.size) (s₄.heap.objs.size :: wr) (GenOnlyQ s₄.gens.size) (passing pz n₀ 0).length
            (fun j y => ∃ i, (passing pz n₀ 0)[j]? = some i ∧ F i y) (GenAt X.prog X.w X.A.in4 g s₄.gens.size s₄.heap.objs.size (List.range s₄.heap.objs.size) wr pz n₀ F) →
          GenAt X.prog X.w X.A.in4 g s₄.gens.size s₄.heap.objs.size (List.range s₄.heap.objs.size) wr pz n₀ F 0 { s₄ with gens := s₄.gens.push gs, toks := tk, heap := h₅ } →
          Q' (.ref g) { s₄ with gens := s₄.gens.push gs, toks := tk, heap := h₅ })) E { s1 with heap := y3, toks := tq } := by
  have mainG : G3.Ns mainGlobals X.mg := M.inv.mod.glob.keeps M.inv.bk
  have kinG : X.K.In G3 := M.inv.kIn
  have mainY : y3.Ns mainGlobals X.mg := mainG.at fun o e => (M.sub _ o e).1
  obtain ⟨bm, ob, b1, b2, _, b4, b5, b6, b7, b8⟩ := TB.bm
  refine wpAny_builtinsFor (m := X.mg) (by rw [M.inv.ok.glob]; exact mainY) b1 b2 (M.sub _ _ (M.inv.bk _ _ b5)).1 b6 b7 b8 ?_
  refine ⟨it0, [it0], [it0], a.cps.size, SignAt a, St, fun _ => true, fun i y => ∃ q, a.cps[i]? = some q ∧ y = .bool (pb q), rfl, W, h0, fun b hb => ?_, lim, fun z => ?_, fun hz kz => ⟨?_, ?_⟩, fun g h5 tk gs gb ag sz k5 W5 at5 => ?_⟩
  · rw [List.mem_singleton] at hb
    rw [hb]
    exact M.lt
  · rw [List.mem_singleton] at z
    exact absurd hcs (by rw [z]; exact Nat.lt_irrefl _)
  · -- no tests
    intro A' E' i v z2 m2 _ _ _ _ _
    simp only [List.forIn_nil]
    exact wpAny_pure ⟨rfl, GxR.keeps_refl _⟩
  · -- the element
    intro A' E' i v z2 m2 _ hv _ hn hm hk
    obtain ⟨q, u, hq, rfl⟩ := hv
    have kept : ∀ b o, G3.get? b = some o → z2.heap.get? b = some o := fun b o e => by
      obtain ⟨e1, nb⟩ := M.sub b o e
      exact hk b (List.mem_range.mpr (Heap.lt_size e1)) (fun w => nb (List.mem_singleton.mp w)) o (kz b o e1)
    exact wpAny_mono (hel _ A' E' q u z2 m2 rfl M.inv.ok.glob (kinG.keeps kept) (mainG.keeps kept) hn hm) (fun y z3 r => ⟨⟨q, hq, r.1⟩, r.2⟩) fun _ _ e => e
  · simp only [GxR.passing_true, List.length_range] at W5
    refine hQ g _ ⟨_, _, _, _, _, W5.in4_1, at5, fun j y sj Qj Ej hy hq => ?_, fun s' mv => ?_⟩
    · obtain ⟨i, hi, q, hcq, rfl⟩ := hy
      obtain ⟨hj, ej⟩ := List.getElem?_eq_some_iff.mp hi
      rw [List.getElem_range] at ej
      subst ej
      have hq : Qj (trF pb a.cps.toList j) sj := hq
      rw [trF_some (b := q) (by rw [Array.getElem?_toList]; exact hcq)] at hq
      exact wpAny_truthy_bool hq
    · have go : ∀ b u, G3.get? b = some u → s'.heap.get? b = some u := fun b u e => by
        obtain ⟨e1, nb⟩ := M.sub b u e
        refine mv.heap b u (fun hb => ?_) (k5 b u e1)
        rw [List.mem_cons, List.mem_singleton] at hb
        rcases hb with hb | hb
        · rw [hb] at e1
          exact Nat.lt_irrefl _ (Heap.lt_size e1)
        · exact nb hb
      have J := GxR.inv_tab (more := #[]) (h' := s'.heap) (g' := s'.gens) (d' := s'.drawn) (t' := s'.toks) M.inv M.hP (fun b u _ e => go b u e) (by rw [Array.append_empty]; exact go P _ (M.inv.hok P _ M.hP)) (AllBare.movedS (M.inv.bare.push gb) mv)
      have same : upd H3 P (.tbl (ps ++ #[])) = H3 := funext fun b => by
        by_cases hb : b = P
        · rw [hb, upd_same, M.hP, Array.append_empty]
        · rw [upd_ne hb]
      rw [same] at J
      have es : ({ s1 with heap := s'.heap, gens := s'.gens, drawn := s'.drawn, toks := s'.toks } : Shared) = s' := GxR.sh_eta s1 s' mv.os
      rw [← es]
      exact J
theorem gen_signs {T : List (Addr × Str)} {s : Shared} {H : Hp} {c : Addr} {elt iter : Expr} {x : Str} {px gpos : Pos} {scope : Scope} {pb : Nat → Bool} {te : TE} {k : Nat} {Q' : Value → Shared → Prop} {R : Str → Hp → Prop}
    (hmT : (P, X.env.qual ++ "<genexpr>") ∈ T) (hu : ∀ p ∈ T, p.1 = P → p.2 = X.env.qual ++ "<genexpr>")
    (hr : Room k X.A) (TB : TabB X.base X.mg c P) (hcode : X.env.code = .ref c) (S : GenS X.env scope x) (hi : PE X iter te) (hel : EltK X scope x elt pb) (hs : ∀ v, genFold iter X.env v = pure v)
    (I : Inv X pins σ H s) (h : te σ H fun v H1 => ∃ a : Str, v = .str a ∧ Tabs T H1 ∧ ∀ H3, ExtN H1 H3 → Tabs T H3 → R a H3) (hQ : ∀ a H3 g s5, R a H3 → ReadyT X pins σ H3 a pb g s5 → Q' (.ref g) s5) :
    wpAny (model X.prog X.w) X.A (eval (.GeneratorExp elt [⟨.Name x px, iter, [], 0⟩] scope gpos) X.env) Q' X.xe s := by
  refine wpAny_GeneratorExp_walksQ hr.hd S.co (closure_ok S.free) S.cell S.dot S.loc S.kind hr.depth (thn (hi.run pins s σ H _ I h) fun xv s1 hh => ?_) hs
  obtain ⟨v, H1, I1, r1, a, ev, hT, hR⟩ := hh
  subst ev
  obtain ⟨t, et⟩ := _root_.id r1
  subst et
  obtain ⟨ps, hP, ht, hall⟩ := hT _ hmT
  have tabS : s1.heap.get? P = some { cls := .none, data := .fields ps } := I1.hok P _ hP
  have low : cStatics < s1.heap.objs.size := by
    obtain ⟨m, hn, _⟩ := I1.nolimit
    exact hn.lt
  have offP : cStatics ≠ P := fun z => by
    obtain ⟨m, ⟨o, es, ep, h1, h2, _⟩, _⟩ := I1.nolimit
    rw [z, tabS] at h1
    rw [← Option.some.inj h1] at h2
    cases h2
  refine wpAny_pyIter_str fun o St W h0 => ⟨I1.nolimit.push o, ?_⟩
  have tab2 : (s1.heap.push o).get? P = some { cls := .none, data := .fields ps } := Heap.get?_push_of_some _ tabS
  have hd2 : PySem.W.CodeHd (s1.heap.push o) c P := TB.code.keeps fun b u e => Heap.get?_push_of_some _ (I1.bk b u e)
  have one : s1.heap.objs.size < (s1.heap.push o).objs.size := by
    rw [Heap.size_push]
    exact Nat.lt_succ_self _
  -- the rest
  have rest : ∀ (code : Value) (H3 : Hp) (y3 G3 : Heap) (tq : Nat) (ps3 : Array Value), Mid X pins σ H3 P s1.heap.objs.size ps3 s1 y3 tq G3 → R a H3 → Heap.ExtBut P (s1.heap.push o) y3 →
      wpAny (model X.prog X.w) X.A (builtinsFor X.env.globals X.env.builtins) _ X.xe { s1 with heap := y3, toks := tq } := fun code H3 y3 G3 tq ps3 M hR3 xb => by
    refine Mid.ready (code := code) (St := St) M hr TB hel W ?_ ((I1.nolimit.push o).extBut xb offP) low fun g s5 rd => hQ a H3 g s5 hR3 rd
    refine (W X.A hr.hd).frame _ _ _ h0 fun b hb u e => xb b u (fun z => ?_) e
    rw [List.mem_singleton] at hb
    rw [← z, hb] at tabS
    exact Nat.lt_irrefl _ (Heap.lt_size tabS)
  have nit : ∀ {b u}, s1.heap.get? b = some u → b ≠ s1.heap.objs.size := fun e => not_old e (Nat.le_refl _)
  cases hf : codeAmong gpos ps.toList with
  | none =>
    refine wpAny_genexprCodeX hcode (hd2.code tab2 ht) (hd2.tab tab2) hf fun c' h' tk xb ge lt ic cr tb _ => ?_
    obtain ⟨c2, oc, vs, t2, e2, hoc, hdc, hvc⟩ := cr
    cases e2
    have big : s1.heap.objs.size < c' := Nat.lt_of_lt_of_le one ge
    have nC : H1 c' = none := I1.hok.fresh (Nat.le_of_lt big)
    have nPc : P ≠ c' := ne_of_none hP nC
    obtain ⟨G3, g1, g2⟩ := restrict h' fun b => decide (b ≠ s1.heap.objs.size)
    have gk : ∀ b, b ≠ s1.heap.objs.size → G3.get? b = h'.get? b := fun b hb => g1 b (decide_eq_true hb)
    have gn : G3.get? s1.heap.objs.size = none := g2 _ (by simp)
    have J := LamX.inv_table (t' := tk) (c := c') (q := X.env.qual ++ "<genexpr>") (more := #[rawInt gpos.line, rawInt gpos.col, .ref c']) (h' := G3) I1 hP (fun b u nb e => (gk b (nit e)).trans (xb b u nb (Heap.get?_push_of_some _ e)))
      ((gk P (nit tabS)).trans tb.2) (Nat.le_of_lt big) ⟨oc, vs, t2, (gk c' (Nat.ne_of_gt big)).trans hoc, hdc, hvc⟩
    have hE : ExtN H1 (upd (upd H1 P (.tbl (ps ++ #[rawInt gpos.line, rawInt gpos.col, .ref c']))) c' (CodeO c' (X.env.qual ++ "<genexpr>"))) := fun b u e n => by
      have nb : b ≠ P := fun z => n ps (Option.some.inj (e.symm.trans (by rw [z]; exact hP)))
      rw [upd_ne (ne_of_none e nC), upd_ne nb]
      exact e
    have eL : (ps ++ #[rawInt gpos.line, rawInt gpos.col, .ref c']).toList = ps.toList ++ [rawInt gpos.line, rawInt gpos.col, .ref c'] := by simp
    have hT3 : Tabs T (upd (upd H1 P (.tbl (ps ++ #[rawInt gpos.line, rawInt gpos.col, .ref c']))) c' (CodeO c' (X.env.qual ++ "<genexpr>"))) := fun p hp => by
      by_cases hb : p.1 = P
      · refine ⟨_, by rw [hb, upd_ne nPc, upd_same], by rw [eL]; exact TriplesOk_snoc _ _ _ _ ht, fun p9 cv hcv => ?_⟩
        rw [eL] at hcv
        rcases LamX.among_app _ ht hcv with z | z
        · obtain ⟨c0, x1, x2⟩ := hall p9 cv z
          exact ⟨c0, x1, by rw [hu p hp hb]; exact hE _ _ x2 LamX.codeO_ne⟩
        · exact ⟨c', z, by rw [hu p hp hb]; exact upd_same⟩
      · obtain ⟨qs, a1, a2, a3⟩ := hT p hp
        refine ⟨qs, by rw [upd_ne (ne_of_none a1 nC), upd_ne hb]; exact a1, a2, fun p9 cv hcv => ?_⟩
        obtain ⟨c0, x1, x2⟩ := a3 p9 cv hcv
        exact ⟨c0, x1, hE _ _ x2 LamX.codeO_ne⟩
    refine rest (.ref c') _ h' G3 tk _ ⟨J, fun b u e => ?_, by rw [upd_ne nPc, upd_same], Nat.lt_trans big lt⟩ (hR _ hE hT3) xb
    by_cases hb : b = s1.heap.objs.size
    · rw [hb, gn] at e
      cases e
    · exact ⟨(gk b hb).symm.trans e, hb⟩
  | some cv =>
    refine wpAny_genexprCode_hit hcode (hd2.code tab2 ht) hf ?_
    exact rest cv H1 (s1.heap.push o) s1.heap s1.toks ps ⟨I1, fun b u e => ⟨Heap.get?_push_of_some _ e, nit e⟩, hP, one⟩ (hR H1 (ExtN.refl H1) hT) (Heap.ExtBut.refl _ _)
def tAllT (T : List (Addr × Str)) (pb : Nat → Bool) (te : TE) : TE := fun σ H Q => te σ H fun v H1 => ∃ a : Str, v = .str a ∧ Tabs T H1 ∧ ∀ H3, ExtN H1 H3 → Tabs T H3 → Q (.bl (a.cps.toList.all pb)) H3
theorem pe_allK {T : List (Addr × Str)} {c : Addr} {elt iter : Expr} {x : Str} {px p pos gpos : Pos} {scope : Scope} {pb : Nat → Bool} {te : TE} {k : Nat} (hmT : (P, X.env.qual ++ "<genexpr>") ∈ T) (hu : ∀ p ∈ T, p.1 = P → p.2 = X.env.qual ++ "<genexpr>")
    (hr : Room k X.A) (hg : Gl X "all") (hm : X.mg "all" = none) (hb : bootBuiltins "all" = some (.builtin "all")) (TB : TabB X.base X.mg c P) (hcode : X.env.code = .ref c) (S : GenS X.env scope x) (hi : PE X iter te) (hel : EltK X scope x elt pb)
    (hs : ∀ v, genFold iter X.env v = pure v)
    (he : starEach [.GeneratorExp elt [⟨.Name x px, iter, [], 0⟩] scope gpos] X.env = (false, eval (.GeneratorExp elt [⟨.Name x px, iter, [], 0⟩] scope gpos) X.env) :: starEach [] X.env := by rfl) :
    PE X (.Call (.Name "all" p) [.GeneratorExp elt [⟨.Name x px, iter, [], 0⟩] scope gpos] [] pos) (tAllT T pb te) := by
  refine ⟨fun pins s σ H Q I h => wpAny_Call_Name_kw (ld_blt I hg hm hb (PyProof.Rows.callWith_builtin1 ?_ he (by rfl)))⟩
  rw [he]
  refine Calls.spliced_cons (gen_signs (R := fun a H3 => Q (.bl (a.cps.toList.all pb)) H3) hmT hu hr TB hcode S hi hel hs I h fun a H3 g s5 hR hG => Calls.spliced_nil ?_)
  obtain ⟨fp, wr, G, F, St, W, hst, htr, hI⟩ := hG
  refine call_all_walkS (W.self 0 _ _ _ hst ⟨g, fp, wr, G, _, F, St, _, rfl, W, hst, htr, fun s' mv => ?_⟩)
  exact ⟨.bl _, H3, hI s' mv, rfl, by rw [GxR.all_signs a pb]; exact hR⟩
end
theorem extN_fr {H H' : Hp} {G : Gp} (x : ExtN H H') : Fr H G H' G := fun b o e g n => ⟨x b o e n, g⟩
theorem extN_sim [τ : Tbl] [β : Bas] {K : PySem.W.Frag} {H H' : Hp} {G : Gp} (s : SimG K H G) (x : ExtN H H') (hT : Tabs τ.T H') : SimG K H' G := by
  have f := extN_fr (G := G) x
  refine s.next f ⟨fun a m e => ?_, hT, s.apart⟩
  obtain ⟨o, ho, ns⟩ := (s a m e).there
  have no : ∀ ps, o ≠ .tbl ps := fun ps z => by
    have h := s a m e
    subst z
    cases m <;> first | (obtain ⟨_, h, _⟩ := h; rw [ho] at h; cases h) | (obtain ⟨h, _⟩ := h; rw [ho] at h; cases h)
  exact (s a m e).mono (s.tm f) ((x a o ho no).trans ho.symm)
/-- all(test for x in text) -/
def zAllS (pb : Nat → Bool) (te : DE) : DE := fun ρ G Q => te ρ G fun d G1 => match d with
  | .str a => Q (.bl (a.cps.toList.all pb)) G1
  | _ => False
theorem z_allS [τ : Tbl] [β : Bas] {X : Cx} {c P : Addr} {elt iter : Expr} {x : Str} {px p pos gpos : Pos} {scope : Scope} {pb : Nat → Bool} {te : DE} {k : Nat} (hmT : (P, X.env.qual ++ "<genexpr>") ∈ τ.T) (hu : ∀ p ∈ τ.T, p.1 = P → p.2 = X.env.qual ++ "<genexpr>")
    (hr : Room k X.A) (hg : Gl X "all") (hm : X.mg "all" = none) (TB : TabB X.base X.mg c P) (hcode : X.env.code = .ref c) (S : GenS X.env scope x) (hi : ZE X iter te) (hel : EltK X scope x elt pb)
    (hs : ∀ v, genFold iter X.env v = pure v) (hb : bootBuiltins "all" = some (.builtin "all") := by first | rfl | decide)
    (he : starEach [.GeneratorExp elt [⟨.Name x px, iter, [], 0⟩] scope gpos] X.env = (false, eval (.GeneratorExp elt [⟨.Name x px, iter, [], 0⟩] scope gpos) X.env) :: starEach [] X.env := by rfl) :
    ZE X (.Call (.Name "all" p) [.GeneratorExp elt [⟨.Name x px, iter, [], 0⟩] scope gpos] [] pos) (zAllS pb te) := PEi (pe_allK hmT hu hr hg hm hb TB hcode S hi hel hs he) fun σ H Q q => by
  obtain ⟨ρ, G, Q0, sg, gg, h, kk⟩ := q
  refine ⟨ρ, G, _, sg, gg, h, fun d G1 v H1 h1 f1 g1 r1 => ?_⟩
  cases r1 with
  | str a => exact ⟨a, rfl, g1.tabs, fun H2 x2 hT => kk _ G1 _ H2 h1 (f1.trans (extN_fr x2)) (extN_sim g1 x2 hT) (.bl _)⟩
  | _ => exact False.elim h1
end Z

namespace Z
open PySem PySem.Spec PyProof.Rows L2
open LamX (Tabs TabS ExtN CodeO GivesTo lamCx lamEnv tLam LamS)

/-! ### told(lambda: body): try: return body / except A: return 'A' .. -/
inductive Clauses (X : Cx) (sg : Scope) : List ExceptHandler → List (Addr × Str) → Prop
  | nil : Clauses X sg [] []
  | cons {e ret : Str} {C : Addr} {j : Nat} {p4 p5 p6 p7 : Pos} {hds : List ExceptHandler} {l : List (Addr × Str)} (hn : sg.names.lookup e = some .globalImplicit) (hm : X.mg e = some (.ref C)) (hd : (e == ("__debug__" : Str)) = false) (r : Clauses X sg hds l) :
      Clauses X sg (.ExceptHandler (some (.Name e p4)) none [.Return (some (.Constant (.str ret) j p5)) p6] p7 :: hds) ((C, ret) :: l)
def toldV (K : PySem.W.Frag) (Q : VK) : List (Addr × Str) → Value → Hp → Prop
  | [], _, _ => False
  | (C, r) :: l, cls, H => ∃ b, PySem.W.exmOne K cls (.ref C) = some b ∧ (b = true → Q (.str r) H) ∧ (b = false → toldV K Q l cls H)
def TTmany (K : PySem.W.Frag) (l : List (Addr × Str)) : (XK → Hp → VK → Prop) → Hp → VK → Prop := fun tl H Q => tl (fun cls _ H' => toldV K Q l cls H') H Q
def toSuites (l : List (Addr × Str)) : List (Value × (Addr → Value → Option Addr → TS)) := l.map fun p => (.ref p.1, fun _ _ _ => tRet (tC (.str p.2)))
theorem told_w {K : PySem.W.Frag} {D : Ends} {cls : Value} {d : Option Addr} {σ : L2.St} {H : Hp} : ∀ {l : List (Addr × Str)}, toldV K D.rt l cls H → wMany K (fun _ _ _ _ => False) D (toSuites l) cls d σ H
  | [], h => h
  | (C, r) :: l, ⟨b, h1, h2, h3⟩ => ⟨b, h1, fun hb a _ => h2 hb, fun hb => told_w (h3 hb)⟩
theorem clauses_ok {X Z : Cx} {sg : Scope} (hs : Z.env.scope = sg) (hm : Z.mg = X.mg) : ∀ {hds : List ExceptHandler} {l : List (Addr × Str)}, Clauses X sg hds l → HdsOk Z hds (toSuites l)
  | _, _, .nil => .nil
  | _, _, .cons hn hg hd r => .cons ⟨by show Z.env.scope.names.lookup _ = _; rw [hs]; exact hn, hd, .inl (by rw [hm]; exact hg)⟩ (fun a oe cls d pn _ _ => pss_one (ps_ret pe_str)) (clauses_ok hs hm r)
section
variable {X : Cx}
theorem many_gives {Ng : List Str} {x a q : Str} {sg : Scope} {g : Addr} {cdg : Value} {h0 : ExceptHandler} {hds : List ExceptHandler} {l : List (Addr × Str)} {p1 p2 p3 p8 : Pos} (hc : Clauses X sg (h0 :: hds) l) (hstart : ∀ f : Addr, (L2.start Ng [V.ref f])[0]? = some (some (V.ref f))) :
    GivesTo X Ng x sg g cdg [.Try [.Return (some (.Call (.Name a p1) [] [] p2)) p3] (h0 :: hds) [] [] p8] a q (TTmany X.K l) := by
  intro f c' s H Q tl act hco h
  refine ⟨_, pss_one (ps_try_many (X := (cxOf C8.CX0 X.prog X.w X.K X.mg X.base Ng x sg g cdg X.A X.stack s H C8.E0).nox) (Wout := fun _ _ _ _ => False)
    (tb := fun W D σ H => ∃ Ech : XK, (∀ cls d σ' H', Ech cls d H' → W cls d σ' H') ∧ σ[0]? = some (some (.ref f)) ∧ H c' = some (CodeO c' q) ∧ tl Ech H D.rt)
    rfl rfl LamX.takes0 (fun W pn xe tk _ => ⟨fun pins s' σ H' D I ⟨Ech, hW, h1, h2, h3⟩ => (pss_one (ps_ret (pos := p3) (act W pn xe Ech p1 p2 tk hW))).run pins s' σ H' D I ⟨h1, h2, h3⟩⟩) (clauses_ok (X := X) (sg := sg) (Z := (cxOf C8.CX0 X.prog X.w X.K X.mg X.base Ng x sg g cdg X.A X.stack s H C8.E0).nox) rfl rfl hc)), ?_⟩
  exact ⟨_, fun cls d σ' H' hh => told_w hh, hstart f, hco, h⟩
end
def toldZ (K : PySem.W.Frag) (Q : DK) : List (Addr × Str) → XKz
  | [], _, _ => False
  | (C, r) :: l, cls, G => ∃ b, PySem.W.exmOne K cls (.ref C) = some b ∧ (b = true → Q (.str r) G) ∧ (b = false → toldZ K Q l cls G)
theorem toldZ_up {K : PySem.W.Frag} {Q0 : DK} {Q : VK} {cls : Value} {G' : Gp} {H' : Hp} (k : ∀ x, Q0 (.str x) G' → Q (.str x) H') : ∀ {l : List (Addr × Str)}, toldZ K Q0 l cls G' → toldV K Q l cls H'
  | [], h => h
  | (C, r) :: l, ⟨b, h1, h2, h3⟩ => ⟨b, h1, fun hb => k _ (h2 hb), fun hb => toldZ_up k (h3 hb)⟩
/-- the body's reading, by what is let out -/
abbrev DL := XKz → DE
def upL [τ : Tbl] (K : PySem.W.Frag) (t : DL) : XK → TE := fun E σ H Q => ∃ ρ G Q0 E0, SimS K H σ ρ ∧ Sim0 K H G ∧ t E0 ρ G Q0 ∧ (∀ d G' v H', Q0 d G' → Fr H G H' G' → Sim0 K H' G' → Rep K H' v d → Q v H') ∧ ∀ c G' dx H', E0 c G' → Fr H G H' G' → Sim0 K H' G' → E c dx H'
theorem lam_body [τ : Tbl] {Y : Cx} {e : Expr} {t : DL} {E : XK} (h : ∀ (bas : Bas) (E0 : XKz), @EOk τ bas Y.K E0 E → @ZE τ bas Y e (t E0)) : PE Y e (upL Y.K t E) := ⟨fun pins s σ H Q I q => by
  obtain ⟨ρ, G, Q0, E0, hs, hg, ht, k1, k2⟩ := q
  have hz := h (frBas H G) E0 fun c G' dx H' e g' => k2 c G' dx H' e (@SimG.base τ (frBas H G) _ _ _ g') (@SimG.toSim0 τ (frBas H G) _ _ _ g')
  letI : Bas := frBas H G
  exact PE.run hz pins s σ H Q I ⟨ρ, G, Q0, hs, ⟨hg, Fr.refl H G⟩, ht, fun d G' v H' q f g' r => k1 d G' v H' q f g'.toSim0 r⟩⟩
section
variable [τ : Tbl] [β : Bas] {X : Cx}
def zTold (K : PySem.W.Frag) (l : List (Addr × Str)) (t : DL) : DE := fun ρ G Q => t (toldZ K Q l) ρ G Q
theorem z_told {x a : Str} {g c P : Addr} {k : Nat} {pg : Arguments} {h0 : ExceptHandler} {hds : List ExceptHandler} {sg : Scope} {dV kV doc pm cdv ct oc : Value} {an od : Option Addr} {osl : Array (Option Value)} {Ng : List Str}
    {params : Arguments} {body : Expr} {scope : Scope} {t : DL} {l : List (Addr × Str)} {p lpos pos p1 p2 p3 p8 : Pos} (hg : Gl X x) (hm : X.mg x = some (.ref g)) (hk : PySem.W.keepIn X.K (.ref g) = true)
    (lk : X.K.lookup g = some ⟨oc, od, .func (PySem.W.fnOf x x pg [.Try [.Return (some (.Call (.Name a p1) [] [] p2)) p3] (h0 :: hds) [] [] p8] sg dV kV doc pm an cdv ct), osl⟩) (hcg : PySem.W.codeIn X.K cdv x = true)
    (hb : L2.Binds X.K (PySem.W.fnOf x x pg [.Try [.Return (some (.Call (.Name a p1) [] [] p2)) p3] (h0 :: hds) [] [] p8] sg dV kV doc pm an cdv ct) [a] []) (Sg : FnScope Ng [a] sg) (hNg : Ng[0]? = some a) (hva : Vis sg a)
    (hc : Clauses X sg (h0 :: hds) l) (hstart : ∀ f : Addr, (L2.start Ng [V.ref f])[0]? = some (some (V.ref f)))
    (TB : LamX.TabB X.base X.mg c P) (hcode : X.env.code = .ref c) (hmT : (P, X.env.qual ++ "<lambda>") ∈ τ.T) (hu : ∀ p ∈ τ.T, p.1 = P → p.2 = X.env.qual ++ "<lambda>") (hr : Room (k + 2) X.A) (L : LamS X.env.scope scope) (hdef : defaultsOf params X.env = ([], []))
    (hbind : ∀ (q : Str) (cl : List (Str × Addr)) (pm cv ctv : Value), bindArgs (PySem.W.kla_fn "<lambda>" q params body scope cl pm cv ctv) ⟨[], []⟩ = pure [])
    (hbody : ∀ (bas : Bas) (A : Around) (outer : List Env) (s : Shared) (H : Hp) (E : XK) (f c' : Addr) (E0 : XKz), Room k (A.deeper (lamEnv X scope s.heap.objs.size f c')) → @EOk τ bas X.K E0 E → @ZE τ bas (lamCx X A outer s H E scope f c') body (t E0))
    (hdb : (x == ("__debug__" : Str)) = false := by decide) (hd : (a == ("__debug__" : Str)) = false := by decide) (hcd : (a == ("__classdict__" : Str)) = false := by decide) :
    ZE X (.Call (.Name x p) [.Lambda params body scope lpos] [] pos) (zTold X.K l t) := by
  refine PEi (LamX.pe_lamcall (t := upL X.K t) hg hm hk lk hcg hb Sg hNg hva (many_gives hc hstart) TB hcode hmT hu hr L hdef hbind (fun A outer s H E f c' hr2 => lam_body fun bas E0 hE => hbody bas A outer s H E f c' E0 hr2 hE) hdb hd hcd) fun σ H Q q => ?_
  obtain ⟨ρ, G, Q0, hs, hg, h, kk⟩ := q
  refine ⟨hg.tabs, fun H1 xN hT => ?_⟩
  have f1 := extN_fr (G := G) xN
  have g1 := extN_sim hg xN hT
  exact ⟨ρ, G, Q0, _, hs.mono (hg.tm f1), g1.toSim0, h, fun d G' v H' q f g r => kk d G' v H' q (f1.trans f) (g1.next f g) r, fun c G' dx H' q f g => toldZ_up (fun x hx => kk _ G' _ H' hx (f1.trans f) (g1.next f g) (.str _)) q⟩
end
end Z

namespace Z
open PySem PySem.Spec PyProof.Rows L2

theorem At.trans {G G1 G2 : Gp} {a : Addr} {m n : MO} (x : At G a m G1) (y : At G1 a n G2) : At G a n G2 := ⟨y.is, fun b h => (y.other b h).trans (x.other b h)⟩
theorem At.self {G : Gp} {a : Addr} {m : MO} (h : G a = some m) : At G a m G := ⟨h, fun _ _ => rfl⟩
theorem dI0_e {g : Int → Int → D} {i j : Int} {G : Gp} {Q : DK} : dI0 g (.int i) (.int j) G Q = Q (g i j) G := rfl
theorem dI_e {C : Int → Int → Prop} {g : Int → Int → D} {i j : Int} {G : Gp} {Q : DK} : dI C g (.int i) (.int j) G Q = (C i j ∧ Q (g i j) G) := rfl
theorem dEqF_i {neg : Bool} {i j : Int} {G : Gp} {Q : DK} : dEqF neg (.int i) (.int j) G Q = Q (.bl (neg != decide (i = j))) G := rfl
theorem dEqF_s {neg : Bool} {i j : Str} {G : Gp} {Q : DK} : dEqF neg (.str i) (.str j) G Q = Q (.bl (neg != decide (i = j))) G := rfl
theorem dEqF_b {neg : Bool} {i j : Bool} {G : Gp} {Q : DK} : dEqF neg (.bl i) (.bl j) G Q = Q (.bl (neg != decide (i = j))) G := rfl
theorem dCatS_e {x y : Str} {G : Gp} {Q : DK} : dCatS (.str x) (.str y) G Q = (x.length + y.length ≤ sizeLine ∧ Q (.str (x ++ y)) G) := rfl
theorem fLen_s {x : Str} {G : Gp} {Q : DK} : fLen [.str x] G Q = (x.length ≤ sizeLine ∧ Q (.int (x.length : Nat)) G) := rfl
theorem fInt_i {i : Int} {G : Gp} {Q : DK} : fInt [.int i] G Q = Q (.int i) G := rfl
theorem fAbs_i {i : Int} {G : Gp} {Q : DK} : fAbs [.int i] G Q = Q (.int (if i < 0 then -i else i)) G := rfl
theorem fInt_b {b : Bool} {G : Gp} {Q : DK} : fInt [.bl b] G Q = Q (.int (if b then 1 else 0)) G := rfl
theorem zTest_e {t : DE} {ρ : ZSt} {G : Gp} {Q : Bool → Gp → Prop} : zTest t ρ G Q = t ρ G (fun d G1 => match d with | .bl b => Q b G1 | _ => False) := rfl
/-- x, y, z = a, b, c -/
def zPar3 (i j l : Nat) (ta : DA) : DS := fun Z ρ G => ta ρ G fun ds G1 => match ds with
  | [d, e, f] => Z.nx (((ρ.set i (some d)).set j (some e)).set l (some f)) G1
  | _ => False
section
variable [τ : Tbl] [β : Bas] {X : Cx}
theorem z_par3 {i j l : Nat} {x y z : Str} {a b c : Expr} {ta : DA} {px py pz pt pos : Pos} {kt k2 pt2} (hc : X.calm = true) (hN : X.N.Nodup) (hi : X.N[i]? = some x) (hj : X.N[j]? = some y) (hl : X.N[l]? = some z) (hij : i ≠ j) (hil : i ≠ l) (hjl : j ≠ l)
    (hx : X.env.scope.names.lookup x = some .local) (hy : X.env.scope.names.lookup y = some .local) (hz : X.env.scope.names.lookup z = some .local) (ha : ZA X [a, b, c] ta)
    (hw : swappedStores [.Tuple [.Name x px, .Name y py, .Name z pz] kt pt] (.Tuple [a, b, c] k2 pt2) X.env = pure (some [x, y, z]))
    (hs : swapsWithSole [.Tuple [.Name x px, .Name y py, .Name z pz] kt pt] (.Tuple [a, b, c] k2 pt2) pos.line X.env = pure false := by rfl) :
    ZS X (.Assign [.Tuple [.Name x px, .Name y py, .Name z pz] kt pt] (.Tuple [a, b, c] k2 pt2) pos) (zPar3 i j l ta) := PSi (ps_par3 hc hN hi hj hl hij hil hjl hx hy hz ha hw hs) fun D σ H q => by
  obtain ⟨ρ, G, Z, hs, hg, h, k, _⟩ := q
  refine ⟨ρ, G, _, hs, hg, h, fun ds G1 xs H1 h1 f1 g1 r1 => ?_⟩
  cases r1 with
  | nil => cases h1
  | cons p r1 =>
    cases r1 with
    | nil => cases h1
    | cons p' r1 =>
      cases r1 with
      | nil => cases h1
      | cons p'' r1 =>
        cases r1 with
        | nil => exact ⟨_, _, _, rfl, k _ G1 _ H1 h1 f1 g1 ((((hs.mono (hg.tm f1)).set p).set p').set p'')⟩
        | cons p2 r2 => cases h1
end

/-! ### what is known of a def, a method, a maker -/
section
variable [τ : Tbl]
structure Dfn (P : Program) (w : World) (K : PySem.W.Frag) (mg : Str → Option Value) (base : Heap) (x : Str) (k : Nat) (ps : List Str) (z : ZSp) : Prop where
  ex : ∃ (f : Addr) (fd : FuncData), mg x = some (.ref f) ∧ PySem.W.keepIn K (.ref f) = true ∧ Binds K fd ps [] ∧ FnOk P w K mg base (L2.CX P w) k f fd ps (upSp K z)
structure Mtd (P : Program) (w : World) (K : PySem.W.Frag) (mg : Str → Option Value) (base : Heap) (C : Addr) (m : Str) (k : Nat) (ps : List Str) (z : ZSp) : Prop where
  ex : ∃ (g : Addr) (fd : FuncData), Meth K C m g ∧ Binds K fd ps [] ∧ FnOk P w K mg base (L2.CX P w) k g fd ps (upSp K z)
structure Ini (P : Program) (w : World) (K : PySem.W.Frag) (mg : Str → Option Value) (base : Heap) (C : Addr) (k : Nat) (ps : List Str) (z : ZSp) : Prop where
  ex : ∃ (g : Addr) (fd : FuncData), Mk K C g ∧ Binds K fd ps [] ∧ FnOk P w K mg base (L2.CX P w) k g fd ps (upSp K z)
end
section
variable [τ : Tbl] [β : Bas] {X : Cx} {k m : Nat} {ps : List Str} {z : ZSp} {x : Str} {p pos apos : Pos} {a e o : Expr} {es : List Expr} {tA : DA} {to : DE} {C : Addr} {E0 : XKz} {E : XK}
theorem z_dc0 (D : Dfn X.prog X.w X.K X.mg X.base x k ps z) (hr : Room m X.A) (hk : k ≤ m) (hg : Gl X x) (ha : ZA X (a :: es) tA) (hdb : (x == ("__debug__" : Str)) = false := by decide)
    (he : starEach (a :: es) X.env = (false, eval a X.env) :: starEach es X.env := by rfl) (hpl : (backTo pos (starEach es X.env)).any (·.1) = false := by rfl) : ZE X (.Call (.Name x p) (a :: es) [] pos) (zCall z X0 tA) := by
  obtain ⟨f, fd, h1, h2, h3, h4⟩ := D.ex
  exact z_call0 h4 (hr.mono hk) hg h1 h2 h3 ha hdb he hpl
theorem z_dc (D : Dfn X.prog X.w X.K X.mg X.base x k ps z) (hr : Room m X.A) (hk : k ≤ m) (hg : Gl X x) (hE : EOk X.K E0 E) (hx : Passes (L2.CX X.prog X.w) X E) (ha : ZA X (a :: es) tA) (hdb : (x == ("__debug__" : Str)) = false := by decide)
    (he : starEach (a :: es) X.env = (false, eval a X.env) :: starEach es X.env := by rfl) (hpl : (backTo pos (starEach es X.env)).any (·.1) = false := by rfl) : ZE X (.Call (.Name x p) (a :: es) [] pos) (zCall z E0 tA) := by
  obtain ⟨f, fd, h1, h2, h3, h4⟩ := D.ex
  exact z_call h4 (hr.mono hk) hg h1 h2 h3 hE hx ha hdb he hpl
theorem z_mc {y : Str} {pl : Sem Bool} (c : Cls X.K C) (D : Mtd X.prog X.w X.K X.mg X.base C y k ps z) (hr : Room m X.A) (hk : k ≤ m) (hE : EOk X.K E0 E) (hx : Passes (L2.CX X.prog X.w) X E) (ho : ZE X o to) (ha : ZA X (e :: es) tA)
    (hst : starEach (e :: es) X.env = (false, eval e X.env) :: starEach es X.env := by rfl) (hpl : (backTo pos (starEach es X.env)).any (·.1) = false := by rfl)
    (ht : eval (.Call (.Attribute o y apos) (e :: es) [] pos) X.env = (do
      let ov ← eval o X.env
      standAt apos.atName
      let (f, first) ← holding [ov] (getMethod ov y pl)
      callWith pos f first (backTo pos (starEach (e :: es) X.env)) (backToKw pos (keywordEach [] X.env))) := by rfl) : ZE X (.Call (.Attribute o y apos) (e :: es) [] pos) (zMeth C y z E0 to tA) := by
  obtain ⟨g, fd, h1, h3, h4⟩ := D.ex
  exact z_meth c h1 h4 (hr.mono hk) h3 hE hx ho ha hst hpl ht
theorem z_mc0 {y : Str} {pl : Sem Bool} (c : Cls X.K C) (D : Mtd X.prog X.w X.K X.mg X.base C y k ps z) (hr : Room m X.A) (hk : k ≤ m) (hE : EOk X.K E0 E) (hx : Passes (L2.CX X.prog X.w) X E) (ho : ZE X o to)
    (ht : eval (.Call (.Attribute o y apos) [] [] pos) X.env = (do
      let ov ← eval o X.env
      standAt apos.atName
      let (f, first) ← holding [ov] (getMethod ov y pl)
      callWith pos f first (backTo pos (starEach [] X.env)) (backToKw pos (keywordEach [] X.env))) := by rfl) : ZE X (.Call (.Attribute o y apos) [] [] pos) (zMeth C y z E0 to zNil) := by
  obtain ⟨g, fd, h1, h3, h4⟩ := D.ex
  exact z_meth0 c h1 h4 (hr.mono hk) h3 hE hx ho ht
/-- nothing is let out -/
theorem z_mm {y : Str} {pl : Sem Bool} (c : Cls X.K C) (D : Mtd X.prog X.w X.K X.mg X.base C y k ps z) (hr : Room m X.A) (hk : k ≤ m) (ho : ZE X o to) (ha : ZA X (e :: es) tA)
    (hst : starEach (e :: es) X.env = (false, eval e X.env) :: starEach es X.env := by rfl) (hpl : (backTo pos (starEach es X.env)).any (·.1) = false := by rfl)
    (ht : eval (.Call (.Attribute o y apos) (e :: es) [] pos) X.env = (do
      let ov ← eval o X.env
      standAt apos.atName
      let (f, first) ← holding [ov] (getMethod ov y pl)
      callWith pos f first (backTo pos (starEach (e :: es) X.env)) (backToKw pos (keywordEach [] X.env))) := by rfl) : ZE X (.Call (.Attribute o y apos) (e :: es) [] pos) (zMeth C y z X0 to tA) :=
  z_mc (E := L2.E0) c D hr hk eok0 (passL (X := X)) ho ha hst hpl ht
theorem z_mm0 {y : Str} {pl : Sem Bool} (c : Cls X.K C) (D : Mtd X.prog X.w X.K X.mg X.base C y k ps z) (hr : Room m X.A) (hk : k ≤ m) (ho : ZE X o to)
    (ht : eval (.Call (.Attribute o y apos) [] [] pos) X.env = (do
      let ov ← eval o X.env
      standAt apos.atName
      let (f, first) ← holding [ov] (getMethod ov y pl)
      callWith pos f first (backTo pos (starEach [] X.env)) (backToKw pos (keywordEach [] X.env))) := by rfl) : ZE X (.Call (.Attribute o y apos) [] [] pos) (zMeth C y z X0 to zNil) :=
  z_mc0 (E := L2.E0) c D hr hk eok0 (passL (X := X)) ho ht
theorem z_new (D : Ini X.prog X.w X.K X.mg X.base C k ps z) (hr : Room m X.A) (hk : k + 1 ≤ m) (hg : Gl X x) (hm : X.mg x = some (.ref C)) (ha : ZA X (e :: es) tA) (hdb : (x == ("__debug__" : Str)) = false := by decide)
    (he : starEach (e :: es) X.env = (false, eval e X.env) :: starEach es X.env := by rfl) (hpl : (backTo pos (starEach es X.env)).any (·.1) = false := by rfl) : ZE X (.Call (.Name x p) (e :: es) [] pos) (zMake C z X0 tA) := by
  obtain ⟨g, fd, h1, h3, h4⟩ := D.ex
  exact z_make (E := L2.E0) h1 h4 (hr.mono hk) hg hm h3 eok0 (passL (X := X)) ha hdb he hpl
end
section
variable [τ : Tbl] {P : Program} {w : World} {K : PySem.W.Frag} {mg : Str → Option Value} {base : Heap}
/-- a def whose code object is known -/
theorem z_fnC {x qual : Str} {st : Stmt} {f : Addr} {N ps : List Str} {k : Nat} {z : ZSp} {oc kV doc pm cdv ct : Value} {od an : Option Addr} {osl : Array (Option Value)}
    (lk : K.lookup f = some ⟨oc, od, .func (PySem.W.fnOf x qual (defArgs st) (defBody st) (defScope st) .none kV doc pm an cdv ct), osl⟩) (hcd : PySem.W.codeIn K cdv qual = true) (S : FnScope N ps (defScope st)) (len : ∀ ds G Q E, z ds G Q E → ds.length = ps.length)
    (hbody : ∀ (bas : Bas) (A : Around) (outer : List Env) (s : Shared) (H : Hp) (E : XK), Room k (A.deeper (envOfC qual (defScope st) s.heap.objs.size f cdv)) → ∀ (ds : List D) (G : Gp) (Q : DK) (E0 : XKz), @EOk τ bas K E0 E → z ds G Q E0 →
      ∃ t, @ZSs τ bas (cxOf (L2.CX P w) P w K mg base N qual (defScope st) f cdv A outer s H E) (defBody st) t ∧ t { nx := fun _ G' => Q .non G', rt := Q } (zstart N ds) G) :
    FnOk P w K mg base (L2.CX P w) (k + 1) f (PySem.W.fnOf x qual (defArgs st) (defBody st) (defScope st) .none kV doc pm an cdv ct) ps (upSp K z) := by
  refine fn_of lk hcd S (fun vs H Q E h => ?_) fun A outer s H vs Q E hr h => ?_
  · obtain ⟨ds, G, Q0, E0, _, r, hz, _⟩ := h
    rw [r.length]
    exact len _ _ _ _ hz
  · obtain ⟨ds, G, Q0, E0, g, r, hz, k1, k2⟩ := h
    obtain ⟨t, ht, hq⟩ := hbody (frBas H G) A outer s H E hr ds G Q0 E0 (fun c G' dx H' e g' => k2 c G' dx H' e (@SimG.base τ (frBas H G) _ _ _ g') (@SimG.toSim0 τ (frBas H G) _ _ _ g')) hz
    letI : Bas := frBas H G
    exact ⟨_, ht, zstart N ds, G, _, sims_start r, ⟨g, Fr.refl H G⟩, hq, fun ρ' G' σ' H' q f g' s' => k1 .non G' .non H' q f g'.toSim0 .non, fun d G' v H' q f g' r => k1 d G' v H' q f g'.toSim0 r, fun _ _ _ _ q => q.elim, fun _ _ _ _ q => q.elim⟩
end
/-! ### one statement at a time (the rest stays folded) -/
section
variable {te : DE} {c : DT} {t e u : DS} {Z : ZEnds} {ρ : ZSt} {G : Gp} {i : Nat} {g : DG}
theorem s_asg (h : te ρ G fun d G1 => u Z (ρ.set i (some d)) G1) : zSeq (zAsg te (zName i)) u Z ρ G := h
theorem s_asgG (h : te ρ G fun d G1 => g d ρ G1 (u Z)) : zSeq (zAsg te g) u Z ρ G := h
theorem s_if (h : c ρ G fun b G1 => if b = true then t { Z with nx := u Z } ρ G1 else e { Z with nx := u Z } ρ G1) : zSeq (zIfS c t e) u Z ρ G := h
theorem s_drop (h : te ρ G fun _ G1 => u Z ρ G1) : zSeq (zDrop te) u Z ρ G := h
theorem s_ret (h : te ρ G Z.rt) : zSeq (zRet te) u Z ρ G := h
theorem s_next (h : Z.nx ρ G) : zNext Z ρ G := h
theorem s_seq (h : t { Z with nx := u Z } ρ G) : zSeq t u Z ρ G := h
end
end Z

namespace Z
open PySem PySem.Spec PyProof.Rows L2

/-! ### t[::-1] of a tuple -/
theorem adjust_rev (n : Nat) : Builtin.Slice.sliceAdjust none none (-1) (n : Int) = ((n : Int) - 1, -1) := by
  unfold Builtin.Slice.sliceAdjust
  simp
theorem places_rev (n : Nat) : Builtin.Slice.slicePlaces ((n : Int) - 1) (-1) (-1) = n := by
  unfold Builtin.Slice.slicePlaces
  have h1 : ¬ ((-1 : Int) > 0) := by omega
  simp only [h1, if_false, Int.neg_neg, Int.ediv_one]
  split <;> omega
theorem pick_rev (xs : Array Value) : ((List.range xs.size).filterMap fun (m : Nat) => xs[(((xs.size : Nat) : Int) - 1 + (m : Int) * (-1)).toNat]?).toArray = xs.toList.reverse.toArray := by
  congr 1
  have e : ∀ m ∈ List.range xs.size, xs[(((xs.size : Nat) : Int) - 1 + (m : Int) * (-1)).toNat]? = some (xs.toList.reverse.getD m .none) := by
    intro m hm
    have hm := List.mem_range.mp hm
    have : (((xs.size : Nat) : Int) - 1 + (m : Int) * (-1)).toNat = xs.size - 1 - m := by omega
    rw [this, List.getD_eq_getElem?_getD, List.getElem?_reverse (by rw [Array.length_toList]; exact hm), Array.length_toList, Array.getElem?_toList]
    have h2 : xs.size - 1 - m < xs.size := by omega
    rw [Array.getElem?_eq_getElem h2]
    rfl
  have e2 : (List.range xs.size).filterMap (fun (m : Nat) => xs[(((xs.size : Nat) : Int) - 1 + (m : Int) * (-1)).toNat]?) = (List.range xs.size).map fun m => xs.toList.reverse.getD m .none := by
    generalize List.range xs.size = l at e
    induction l with
    | nil => rfl
    | cons a l ih => rw [List.filterMap_cons, e a List.mem_cons_self, List.map_cons, ih fun m hm => e m (List.mem_cons_of_mem _ hm)]
  rw [e2]
  apply List.ext_getElem
  · simp
  · intro i h1 h2
    simp at h1
    simp [h1]
theorem sliceApplied_rev {P : Program} {w : World} {A : Around} {E : Value → Shared → Prop} {s : Shared} {sl : Addr} {vl vu vs : Value} {n : Nat} {Q : Int × Int × Nat → Shared → Prop} (hs : s.heap.IsSliceOf sl vl vu vs) (pl : IsPart vl none) (pu : IsPart vu none) (ps : IsPart vs (some (-1)))
    (h : Q ((n : Int) - 1, -1, n) s) : wpAny (model P w) A (Builtin.Slice.sliceApplied (.ref sl) (pure (n : Int))) Q E s := by
  obtain ⟨os, hos, hcs, hds⟩ := id hs
  unfold Builtin.Slice.sliceApplied Builtin.Slice.sliceFields
  refine wpAny_bind (wpAny_bind (wpAny_field hos hds (x := vl) rfl (wpAny_bind (wpAny_field hos hds (x := vu) rfl (wpAny_bind (wpAny_field hos hds (x := vs) rfl (wpAny_pure ?_)))))))
  refine wpAny_bind (HT.slicePart_ ps ?_)
  show wpAny _ _ (if ((-1 : Int) == 0) = true then _ else _) _ _ s
  rw [if_neg (by decide)]
  refine wpAny_bind (HT.slicePart_ pl (wpAny_bind (HT.slicePart_ pu (wpAny_bind (wpAny_pure ?_)))))
  show wpAny _ _ (match Builtin.Slice.sliceAdjust none none (-1) (n : Int) with | (lo, hi) => pure (lo, (-1 : Int), Builtin.Slice.slicePlaces lo hi (-1))) _ _ s
  rw [adjust_rev n]
  show wpAny _ _ (pure ((n : Int) - 1, (-1 : Int), Builtin.Slice.slicePlaces ((n : Int) - 1) (-1) (-1))) _ _ s
  rw [places_rev]
  exact wpAny_pure h
open HT in
theorem getItem_tuple_rev {prog : Program} {w : World} {A : Around} {E : Value → Shared → Prop} {s : Shared} {t sl : Addr} {items : Array Value} {vl vu vs : Value} {Q : Value → Shared → Prop} (ht : IsTup s.heap t items) (hs : s.heap.IsSliceOf sl vl vu vs) (pl : IsPart vl none) (pu : IsPart vu none) (ps : IsPart vs (some (-1)))
    (h : Q (.ref s.heap.objs.size) { s with heap := s.heap.push { cls := .type "tuple", data := .seq items.toList.reverse.toArray } })
    (hsz : items.size ≤ sizeLine) : wpAny (model prog w) A (getItem (.ref t) (.ref sl)) Q E s := by
  have htake : sizeOk (.seq items.toList.reverse.toArray) := by
    show items.toList.reverse.toArray.size ≤ sizeLine
    rw [List.size_toArray, List.length_reverse, Array.length_toList]
    exact hsz
  obtain ⟨os, hos, hcs, hds⟩ := id hs
  have hTs : s.TypeIs (.ref sl) "slice" := ⟨os, hos, hcs⟩
  unfold getItem
  try with_reducible refine wpAny_holding ?_
  first | refine wpAny_bind (wpAny_pure ?_) | skip
  refine wpAny_bind (wpAny_sequenceKey ht.typeIs (by decide) ?_)
  refine wpAny_bind (wpAny_callSpecial?_slot (name := Str.ofString "__getitem__") ht.typeIs PyProof.Rows.slot_tuple_getitem
    (wpAny_call_entry PyProof.Rows.slot_tuple_getitem ht.typeIs entry_tuple_getitem ?_ (args_tuple_getitem _ _)))
  show wpAny _ _ (Builtin.Tuple.tupleItemsOf (.ref t) >>= _) _ _ s
  refine wpAny_bind (tupleItemsOf_ ht ?_)
  refine wpAny_bind (wpAny_typeOf hTs ?_)
  rw [if_pos (by decide)]
  refine wpAny_bind (sliceApplied_rev hs pl pu ps ?_)
  have hno : ¬ ((((items.size : Nat) : Int) - 1 == 0 && (-1 : Int) == 1 && items.size == items.size) = true) := by simp
  show wpAny _ _ (if (((items.size : Nat) : Int) - 1 == 0 && (-1 : Int) == 1 && items.size == items.size) = true then _ else _) _ _ s
  rw [if_neg hno, pick_rev]
  first
    | exact wpAny_bind (m := Builtin.Tuple.tupleExact _) (wpAny_newObj_type (wpAny_pure ⟨_, rfl, wpAny_pure h⟩) htake)
    | exact wpAny_bind (m := Builtin.Tuple.tupleExact _) (wpAny_newObj_type (wpAny_bind (wpAny_pure (wpAny_pure ⟨_, rfl, wpAny_pure h⟩))) htake)
    | exact wpAny_bind (wpAny_bind (m := Builtin.Tuple.tupleExact _) (wpAny_newObj_type (wpAny_pure (wpAny_pure ⟨_, rfl, wpAny_pure h⟩)) htake))
    | exact wpAny_bind (wpAny_bind (m := Builtin.Tuple.tupleExact _) (wpAny_newObj_type (wpAny_pure ⟨_, rfl, wpAny_pure h⟩) htake))
def tRevA (K : PySem.W.Frag) (te : TE) : TE := fun σ H Q => te σ H fun x H1 => ∃ a xs, x = .ref a ∧ ((SqL K H1 a xs ∧ ∀ p, H1 p = none → Q (.ref p) (upd H1 p (.lst xs.reverse))) ∨ (SqT K H1 a xs ∧ ∀ p, H1 p = none → Q (.ref p) (upd H1 p (.tup xs.reverse))))
theorem pe_revA {X : Cx} {e : Expr} {te : TE} {k : Nat} {p1 p2 p3 pos : Pos} (he : PE X e te) : PE X (.Subscript e (.Slice none none (some (.UnaryOp .USub (.Constant (.int 1) k p1) p2)) p3) pos) (tRevA X.K te) := by
  refine ⟨fun pins s σ H Q I h => ?_⟩
  refine Subscript_ (thn (he.run pins s σ H _ I h) fun v s1 ⟨x, H1, I1, r1, q1⟩ => ?_)
  obtain ⟨a, xs, ex, q1⟩ := q1
  subst ex
  cases r1
  have hst : PO X (some (.UnaryOp .USub (.Constant (.int 1) k p1) p2)) (tPart (tUn (rU fun i => .int (-i)) (tC (.int 1)))) := po_some (pe_un un_neg pe_int)
  refine wpAny_Slice (thn (po_none.run pins s1 σ H1 (fun o H2 => o = none ∧ H2 = H1) I1 ⟨rfl, rfl⟩) fun vl s2 ⟨l, H2, I2, pl, el, e2⟩ => ?_)
  subst el e2
  refine thn (po_none.run pins s2 σ H2 (fun o H3 => o = none ∧ H3 = H2) I2 ⟨rfl, rfl⟩) fun vu s3 ⟨u, H3, I3, pu, eu, e3⟩ => ?_
  subst eu e3
  refine thn (hst.run pins s3 σ H3 (fun o H4 => o = some (-1) ∧ H4 = H3) I3 ⟨1, rfl, -1, rfl, rfl, rfl⟩) fun vs s4 ⟨o, H4, I4, ps, eo, e4⟩ => ?_
  subst eo e4
  have I5 : Inv X pins σ H4 { s4 with heap := s4.heap.push { cls := .type "slice", data := .fields #[vl, vu, vs] } } := I4.kept (t' := s4.toks) fun b ob q => Heap.get?_push_of_some _ q
  rcases q1 with ⟨hx, q⟩ | ⟨hx, q⟩
  · obtain ⟨its, r, ht, hz⟩ := I5.list hx
    have hlen := r.length
    show wpAny (model X.prog X.w) X.A (subscriptTail e (.Slice none none (some (.UnaryOp .USub (.Constant (.int 1) k p1) p2)) p3) (.ref a) (.ref s4.heap.objs.size)) (EP X pins σ Q) X.xe { s4 with heap := s4.heap.push { cls := .type "slice", data := .fields #[vl, vu, vs] } }
    refine tail_any (ops := [.ref a, .ref s4.heap.objs.size]) ht.isList.typeIs (PySem.slot_list_getitem.lookup) ?_ (by with_unfolding_all rfl)
    refine wpAny_getItem_list_slice ht.isList (Heap.IsSliceOf.new _ vl vu vs) pl pu ps (by decide) ?_ (by rw [List.size_toArray]; omega)
    rw [PySem.W.krv_pick]
    refine ⟨.ref _, _, I5.laid (t' := s4.toks) (o := .lst xs.reverse) (fun b ob q => Heap.get?_push_of_some _ q) (Nat.le_refl _) ?_, rfl, q _ (I5.hok.fresh (Nat.le_refl _))⟩
    exact ⟨by rw [List.length_reverse]; exact hz, _, 0, r.reverse, Heap.get?_push_size _ rfl⟩
  · obtain ⟨its, r, ht, hz⟩ := I5.tuple hx
    have hlen := r.length
    show wpAny (model X.prog X.w) X.A (subscriptTail e (.Slice none none (some (.UnaryOp .USub (.Constant (.int 1) k p1) p2)) p3) (.ref a) (.ref s4.heap.objs.size)) (EP X pins σ Q) X.xe { s4 with heap := s4.heap.push { cls := .type "slice", data := .fields #[vl, vu, vs] } }
    refine tail_any (ops := [.ref a, .ref s4.heap.objs.size]) ht.typeIs (PyProof.Rows.slot_tuple_getitem.lookup) ?_ (by with_unfolding_all rfl)
    refine getItem_tuple_rev ht (Heap.IsSliceOf.new _ vl vu vs) pl pu ps ?_ (by rw [List.size_toArray]; omega)
    refine ⟨.ref _, _, I5.laid (t' := s4.toks) (o := .tup xs.reverse) (fun b ob q => Heap.get?_push_of_some _ q) (Nat.le_refl _) ?_, rfl, q _ (I5.hok.fresh (Nat.le_refl _))⟩
    exact ⟨by rw [List.length_reverse]; exact hz, _, r.reverse, IsTup.new _ _⟩

section
variable [τ : Tbl] [β : Bas] {X : Cx}
/-! ### x[::-1] -/
def zRev (te : DE) : DE := fun ρ G Q => te ρ G fun d G1 => match d with
  | .tup ds => Q (.tup ds.reverse) G1
  | .ref a => match G1 a with
    | some (.lst ds) => ∀ p G2, G1 p = none → At G1 p (.lst ds.reverse) G2 → Q (.ref p) G2
    | _ => False
  | _ => False
theorem z_rev {e : Expr} {te : DE} {k : Nat} {p1 p2 p3 pos : Pos} (he : ZE X e te) : ZE X (.Subscript e (.Slice none none (some (.UnaryOp .USub (.Constant (.int 1) k p1) p2)) p3) pos) (zRev te) := PEi (pe_revA he) fun σ H Q q => by
  obtain ⟨ρ, G, Q0, hs, hg, h, k⟩ := q
  refine ⟨ρ, G, _, hs, hg, h, fun d G1 x H1 h1 f1 g1 r1 => ?_⟩
  cases r1 with
  | tup hq r => exact ⟨_, _, rfl, .inr ⟨hq.sq, fun p hp => CK.tup (CK.go k f1) hp h1 g1 r.reverse⟩⟩
  | ref a =>
    simp only at h1
    split at h1
    · rename_i ds e
      obtain ⟨xs, hx, r⟩ := g1 a _ e
      exact ⟨_, _, rfl, .inl ⟨SqL.of hx, fun p hp => CK.new (m := .lst ds.reverse) (CK.go k f1) hp g1 ⟨_, upd_same, r.reverse.mono (tm_new hp)⟩ fun G' n at_ => h1 p G' n at_⟩⟩
    · cases h1
  | _ => exact False.elim h1
/-! ### t[a:b], the whole too -/
def dSlA : Z3 := fun d lo hi G Q => match d with
  | .tup ds => Q (.tup (cutD ds lo hi)) G
  | _ => False
theorem zsl_tupA : ZSl X dSlA := by
  intro pins s σ H x v vl vu lo hi sl Q I rx hs pl pu h
  refine sl_tupA pins s σ H x v vl vu lo hi sl Q I rx hs pl pu ?_
  obtain ⟨d, G, Q0, g, r, h, k⟩ := h
  unfold dSlA at h
  split at h
  · rename_i ds
    cases r with
    | tup hq r =>
      rename_i a xs
      refine ⟨_, xs, rfl, hq.sq, fun hw => ?_, fun hw p hp => CK.tup k hp h g (cut_rep r)⟩
      refine CK.at k h g (.tup hq ?_)
      rw [r.length] at hw
      have : cutD ds lo hi = ds := by
        unfold cutD
        rw [hw.1, hw.2]
        simp
      rw [this]
      exact r
  · cases h
/-! ### sorted -/
def fSortI : ZF := fun ds G Q => match ds with
  | [.ref a] => match G a with
    | some (.lst es) => ∃ ns : List Int, es = ns.map D.int ∧ ∀ (ns' : List Int) p G', ns'.Perm ns → ns'.Pairwise (· ≤ ·) → G p = none → At G p (.lst (ns'.map D.int)) G' → Q (.ref p) G'
    | _ => False
  | _ => False
theorem zf_sortI : ZCall X (.builtin "sorted") fSortI := CallRi cr_sortedI fun xs H Q q => by
  obtain ⟨ds, G, Q0, g, r, h, k⟩ := q
  unfold fSortI at h
  split at h
  · split at h
    · rename_i es e
      obtain ⟨ns, rfl, h⟩ := h
      cases r with
      | cons r1 r2 =>
        cases r2
        cases r1 with
        | ref a =>
          obtain ⟨ys, hy, ry⟩ := g _ _ e
          have := Reps.of_ints ry
          subst this
          exact ⟨_, ns, rfl, SqL.of hy, fun ns' p hp ho hn => CK.new (m := .lst (ns'.map D.int)) k hn g ⟨_, upd_same, Reps.ints ns'⟩ fun G' n at_ => h ns' p G' hp ho n at_⟩
    · cases h
  · cases h
def fSortD : ZF := fun ds G Q => match ds with
  | [.ref a] => match G a with
    | some (.dk kvs) => ∃ ns : List Int, kvs.map (·.1) = ns.map Sum.inl ∧ ns.length < 64 ∧ ∀ (ns' : List Int) p G', ns'.Perm ns → ns'.Pairwise (· ≤ ·) → G p = none → At G p (.lst (ns'.map D.int)) G' → Q (.ref p) G'
    | _ => False
  | _ => False
theorem RepKV.keys {κ : Type} {K : PySem.W.Frag} {H : Hp} : ∀ {ds : List (κ × D)} {vs : List (κ × V)}, RepKV K H vs ds → vs.map (·.1) = ds.map (·.1)
  | [], _, .nil => rfl
  | _ :: _, _, .cons _ r => by rw [List.map_cons, List.map_cons, RepKV.keys r]
theorem zf_sortD (hc : X.calm = true) : ZCall X (.builtin "sorted") fSortD := CallRi (call_sortedDI hc) fun xs H Q q => by
  obtain ⟨ds, G, Q0, g, r, h, k⟩ := q
  unfold fSortD at h
  split at h
  · split at h
    · rename_i es e
      obtain ⟨ns, hk, hl, h⟩ := h
      cases r with
      | cons r1 r2 =>
        cases r2
        cases r1 with
        | ref a =>
          obtain ⟨ys, hy, ry⟩ := g _ _ e
          exact ⟨_, ys, ns, rfl, .inl hy, ry.keys.trans hk, hl, fun ns' p hp ho hn => CK.new (m := .lst (ns'.map D.int)) k hn g ⟨_, upd_same, Reps.ints ns'⟩ fun G' n at_ => h ns' p G' hp ho n at_⟩
    · cases h
  · cases h
/-! ### min of two -/
def fMin2 : ZF := fun ds G Q => match ds with
  | [.int i, .int j] => Q (.int (if j < i then j else i)) G
  | _ => False
theorem zf_min2 (hc : X.calm = true) : ZCall X (.builtin "min") fMin2 := CallRi (call_min2 hc) fun xs H Q q => by
  obtain ⟨ds, G, Q0, g, r, h, k⟩ := q
  unfold fMin2 at h
  split at h
  · cases r with
    | cons r1 r2 =>
      cases r2 with
      | cons r2 r3 =>
        cases r3
        cases r1
        cases r2
        exact ⟨_, _, rfl, CK.at k h g (.int _)⟩
  · cases h
/-! ### d.setdefault(k, z), d.get(k, z) -/
def zSetd (td ty tx : DE) : DE := fun ρ G Q => td ρ G fun x G1 => match x with
  | .ref a => (∃ kvs, G1 a = some (.dk kvs)) ∧ ty ρ G1 fun y G2 => tx ρ G2 fun z G3 => match G3 a with
    | some (.dk kvs) => match keyD y with
      | some k => kvs.length < sizeLine ∧ match valD kvs k with
        | some v => Q v G3
        | none => ∀ G4, At G3 a (.dk (putD kvs k z)) G4 → Q z G4
      | none => False
    | _ => False
  | _ => False
theorem z_setd {o e f : Expr} {td ty tx : DE} {apos cpos : Pos} (ho : ZE X o td) (he : ZE X e ty) (hf : ZE X f tx) (m : M2 X o "setdefault" apos e f cpos) : ZE X (.Call (.Attribute o "setdefault" apos) [e, f] [] cpos) (zSetd td ty tx) := PEi (pe_dsetd ho he hf m) fun σ H Q q => by
  obtain ⟨ρ, G, Q0, hs, hg, h, k⟩ := q
  refine ⟨ρ, G, _, hs, hg, h, fun d G1 x H1 h1 f1 g1 r1 => ?_⟩
  cases r1 with
  | ref a =>
    simp only at h1
    obtain ⟨⟨kvs0, e0⟩, h1⟩ := h1
    obtain ⟨xs0, hx0, _⟩ := g1 a _ e0
    refine ⟨a, rfl, .inl ⟨xs0, .inl hx0⟩, ρ, G1, _, hs.mono (hg.tm f1), g1, h1, fun y G2 v2 H2 h2 f2 g2 r2 => ⟨ρ, G2, _, (hs.mono (hg.tm f1)).mono (g1.tm f2), g2, h2, fun z G3 v3 H3 h3 f3 g3 r3 => ?_⟩⟩
    split at h3
    · rename_i kvs e
      split at h3
      · rename_i kk ek
        obtain ⟨xs, hx, rk⟩ := g3 a _ e
        have ey := keyD_rep r2 ek
        have rv := rk.val kk
        refine ⟨xs, kk, hx, ey, by rw [rk.len]; exact h3.1, fun v hv => ?_, fun hv => ?_⟩
        · rw [hv] at rv
          cases ed : valD kvs kk with
          | none => rw [ed] at rv; exact rv.elim
          | some d =>
            rw [ed] at rv
            have h4 := h3.2
            rw [ed] at h4
            exact CK.at (CK.go k (f1.trans (f2.trans f3))) h4 g3 rv
        · rw [hv] at rv
          cases ed : valD kvs kk with
          | some d => rw [ed] at rv; exact rv.elim
          | none =>
            have h4 := h3.2
            rw [ed] at h4
            have tt := tm_set (o := .dK (putK xs kk v3)) hx fun z => z
            exact CK.set (m := .dk _) (CK.go k (f1.trans (f2.trans f3))) hx (fun z => z) e g3 ⟨_, upd_same, (rk.mono tt).put (r3.mono tt)⟩ (r3.mono tt) fun G' at_ => h4 G' at_
      · cases h3
    · cases h3
  | _ => exact False.elim h1
def zGet2 (td ty tx : DE) : DE := fun ρ G Q => td ρ G fun x G1 => match x with
  | .ref a => (∃ kvs, G1 a = some (.dk kvs)) ∧ ty ρ G1 fun y G2 => tx ρ G2 fun z G3 => match dGet G3 a y with
    | some o => Q (o.getD z) G3
    | none => False
  | _ => False
theorem z_get2 {o e f : Expr} {td ty tx : DE} {apos cpos : Pos} (hu : X.A.units + 1 < cLine) (ho : ZE X o td) (he : ZE X e ty) (hf : ZE X f tx) (m : M2 X o "get" apos e f cpos) : ZE X (.Call (.Attribute o "get" apos) [e, f] [] cpos) (zGet2 td ty tx) := PEi (pe_dget2 hu ho he hf m) fun σ H Q q => by
  obtain ⟨ρ, G, Q0, hs, hg, h, k⟩ := q
  refine ⟨ρ, G, _, hs, hg, h, fun d G1 x H1 h1 f1 g1 r1 => ?_⟩
  cases r1 with
  | ref a =>
    simp only at h1
    obtain ⟨⟨kvs0, e0⟩, h1⟩ := h1
    obtain ⟨xs0, hx0, _⟩ := g1 a _ e0
    refine ⟨a, rfl, .inl ⟨xs0, .inl hx0⟩, ρ, G1, _, hs.mono (hg.tm f1), g1, h1, fun y G2 v2 H2 h2 f2 g2 r2 => ⟨ρ, G2, _, (hs.mono (hg.tm f1)).mono (g1.tm f2), g2, h2, fun z G3 v3 H3 h3 f3 g3 r3 => ?_⟩⟩
    split at h3
    · rename_i o e
      obtain ⟨o', ho', ro⟩ := dget_rep g3 (r2.mono (g2.tm f3)) e
      refine ⟨o', ho', CK.at (CK.go k (f1.trans (f2.trans f3))) h3 g3 ?_⟩
      cases o' with
      | none =>
        cases o with
        | none => exact r3
        | some d => exact ro.elim
      | some v =>
        cases o with
        | none => exact ro.elim
        | some d => exact ro
    · cases h3
  | _ => exact False.elim h1

/-! ### dict(pairs), displays -/
def mergeD (kvs more : List (Key × D)) : List (Key × D) := more.foldl (fun acc kv => putD acc kv.1 kv.2) kvs
theorem RepKV.merge {K : PySem.W.Frag} {H : Hp} : ∀ {more : List (Key × D)} {ms : List (Key × V)} {kvs : List (Key × D)} {vs : List (Key × V)}, RepKV K H ms more → RepKV K H vs kvs → RepKV K H (mergeK vs ms) (mergeD kvs more)
  | [], _, _, _, .nil, r => r
  | _ :: more, _ :: ms, _, _, .cons h m, r => by
    show RepKV K H (mergeK (putK _ _ _) ms) (mergeD (putD _ _ _) more)
    exact RepKV.merge m (r.put h)
def fDictP : ZF := fun ds G Q => match ds with
  | [.ref a] => match G a with
    | some (.lst es) => ∃ kvs : List (Key × D), es = kvs.map (fun kv => .tup [kD kv.1, kv.2]) ∧ ∀ p G', G p = none → At G p (.dk (mergeD [] kvs)) G' → Q (.ref p) G'
    | _ => False
  | _ => False
theorem pairs_rep {K : PySem.W.Frag} {H : Hp} : ∀ {kvs : List (Key × D)} {xs : List V}, Reps K H xs (kvs.map fun kv => .tup [kD kv.1, kv.2]) → ∃ (ps : List Addr) (vs : List (Key × V)), xs = ps.map V.ref ∧ Paired (fun p kv => SqT K H p [kV kv.1, kv.2]) ps vs ∧ RepKV K H vs kvs
  | [], _, .nil => ⟨[], [], rfl, .nil, .nil⟩
  | kv :: kvs, _, .cons h r => by
    obtain ⟨ps, vs, rfl, hp, hr⟩ := pairs_rep r
    cases h with
    | tup hq rr =>
      rename_i a xs
      cases rr with
      | cons r1 r2 =>
        cases r2 with
        | cons r2 r3 =>
          cases r3
          rename_i k v
          have : k = kV kv.1 := by
            revert r1
            cases kv.1 with
            | inl i => intro r1; cases r1; rfl
            | inr i => intro r1; cases r1; rfl
          subst this
          exact ⟨a :: ps, (kv.1, v) :: vs, rfl, .cons hq.sq hp, .cons r2 hr⟩
theorem zf_dictP (hc : X.calm = true) : ZCall X (.type "dict") fDictP := CallRi (call_dictP hc) fun xs H Q q => by
  obtain ⟨ds, G, Q0, g, r, h, k⟩ := q
  unfold fDictP at h
  split at h
  · split at h
    · rename_i es e
      obtain ⟨kvs, rfl, h⟩ := h
      cases r with
      | cons r1 r2 =>
        cases r2
        cases r1 with
        | ref a =>
          obtain ⟨ys, hy, ry⟩ := g _ _ e
          obtain ⟨ps, vs, rfl, hp, hr⟩ := pairs_rep ry
          exact ⟨_, ps, vs, rfl, SqL.of hy, hp, fun p hn => CK.new (m := .dk (mergeD [] kvs)) k hn g ⟨_, upd_same, RepKV.merge (hr.mono (tm_new hn)) .nil⟩ fun G' n at_ => h p G' n at_⟩
    · cases h
  · cases h
def fDictD : ZF := fun ds G Q => match ds with
  | [.ref a] => match G a with
    | some (.dk kvs) => ∀ p G', G p = none → At G p (.dk kvs) G' → Q (.ref p) G'
    | _ => False
  | _ => False
theorem zf_dictD : ZCall X (.type "dict") fDictD := CallRi call_dictD fun xs H Q q => by
  obtain ⟨ds, G, Q0, g, r, h, k⟩ := q
  unfold fDictD at h
  split at h
  · split at h
    · rename_i es e
      cases r with
      | cons r1 r2 =>
        cases r2
        cases r1 with
        | ref a =>
          obtain ⟨ys, hy, ry⟩ := g _ _ e
          exact ⟨_, ys, rfl, .inl hy, fun p hn => CK.new (m := .dk es) k hn g ⟨_, upd_same, ry.mono (tm_new hn)⟩ fun G' n at_ => h p G' n at_⟩
    · cases h
  · cases h
def zPairs : List (DE × DE) → ZSt → Gp → (List (D × D) → Gp → Prop) → Prop
  | [], _, G, Q => Q [] G
  | (tk, tv) :: r, ρ, G, Q => tk ρ G fun x G1 => tv ρ G1 fun y G2 => zPairs r ρ G2 fun ps G3 => Q ((x, y) :: ps) G3
inductive ZPs (X : Cx) (pos : Pos) : List (Option Expr) → List Expr → List (DE × DE) → Prop where
  | nil : ZPs X pos [] [] []
  | cons {k v : Expr} {ks : List (Option Expr)} {vs : List Expr} {tk tv : DE} {ts : List (DE × DE)} : ZE X k tk → ZE X v tv → ZPs X pos ks vs ts → ZPs X pos (some k :: ks) (v :: vs) ((tk, tv) :: ts)
theorem ZPs.pps {pos : Pos} {ks : List (Option Expr)} {vs : List Expr} {ts : List (DE × DE)} (h : ZPs X pos ks vs ts) : PPs X pos ks vs (ts.map fun t => (upE X.K t.1, upE X.K t.2)) := by
  induction h with
  | nil => exact pps_nil
  | cons h1 h2 _ ih => exact pps_cons h1 h2 ih
inductive RepPs (K : PySem.W.Frag) (H : Hp) : List (V × V) → List (D × D) → Prop
  | nil : RepPs K H [] []
  | cons {v u : V} {d e : D} {vs : List (V × V)} {ds : List (D × D)} : Rep K H v d → Rep K H u e → RepPs K H vs ds → RepPs K H ((v, u) :: vs) ((d, e) :: ds)
theorem up_pairs {K : PySem.W.Frag} : ∀ {ts : List (DE × DE)} {σ : L2.St} {ρ : ZSt} {H : Hp} {G : Gp} {Q0 : List (D × D) → Gp → Prop} {Q : List (V × V) → Hp → Prop}, SimS K H σ ρ → SimG K H G → zPairs ts ρ G Q0 →
    (∀ ps G' vs H', Q0 ps G' → Fr H G H' G' → SimG K H' G' → RepPs K H' vs ps → Q vs H') → tPairs (ts.map fun t => (upE K t.1, upE K t.2)) σ H Q
  | [], σ, ρ, H, G, Q0, Q, hs, hg, h, k => k [] G [] H h (Fr.refl H G) hg .nil
  | (tk, tv) :: r, σ, ρ, H, G, Q0, Q, hs, hg, h, k => ⟨ρ, G, _, hs, hg, h, fun d G1 x H1 h1 f1 g1 r1 => ⟨ρ, G1, _, hs.mono (hg.tm f1), g1, h1, fun e G2 y H2 h2 f2 g2 r2 =>
      up_pairs ((hs.mono (hg.tm f1)).mono (g1.tm f2)) g2 h2 fun ps G3 vs H3 h3 f3 g3 r3 => k _ G3 _ H3 h3 (f1.trans (f2.trans f3)) g3 (.cons ((r1.mono (g1.tm f2)).mono (g2.tm f3)) (r2.mono (g2.tm f3)) r3)⟩⟩
theorem key_rep {K : PySem.W.Frag} {H : Hp} {v : V} {k : Key} (r : Rep K H v (kD k)) : v = kV k := by
  revert r
  cases k with
  | inl i => intro r1; cases r1; rfl
  | inr i => intro r1; cases r1; rfl
theorem RepPs.keys {K : PySem.W.Frag} {H : Hp} : ∀ {kvs : List (Key × D)} {vs : List (V × V)}, RepPs K H vs (kvs.map fun kv => (kD kv.1, kv.2)) → ∃ ks : List (Key × V), vs = ks.map (fun kv => (kV kv.1, kv.2)) ∧ RepKV K H ks kvs
  | [], _, .nil => ⟨[], rfl, .nil⟩
  | kv :: kvs, _, .cons r1 r2 r3 => by
    obtain ⟨ks, rfl, hr⟩ := RepPs.keys r3
    have e := key_rep r1
    subst e
    exact ⟨(kv.1, _) :: ks, rfl, .cons r2 hr⟩
def zDisp (ts : List (DE × DE)) : DE := fun ρ G Q => ∀ p G1, G p = none → At G p (.dk []) G1 → zPairs ts ρ G1 fun ps G2 => G2 p = some (.dk []) ∧ ∃ kvs : List (Key × D), ps = kvs.map (fun kv => (kD kv.1, kv.2)) ∧ kvs.length ≤ 15 ∧ ∀ G3, At G2 p (.dk (mergeD [] kvs)) G3 → Q (.ref p) G3
theorem z_disp {pos : Pos} {keys : List (Option Expr)} {values : List Expr} {ts : List (DE × DE)} (h : ZPs X pos keys values ts) (hall : keys.all (·.isSome) = true) (hl : keys.length = values.length) (h0 : keys ≠ []) (h15 : keys.length ≤ 15) : ZE X (.Dict keys values pos) (zDisp ts) := PEi (pe_disp h.pps hall hl h0 h15) fun σ H Q q => by
  obtain ⟨ρ, G, Q0, hs, hg, h, k⟩ := q
  intro p hp
  have g1 : SimG X.K (upd H p (.dK [])) (put G p (.dk [])) := hg.put (.inl hp) (tm_new hp) ⟨_, upd_same, .nil⟩
  have f1 : Fr H G (upd H p (.dK [])) (put G p (.dk [])) := Fr.put (.inl hp)
  refine up_pairs (hs.mono (hg.tm f1)) g1 (h p (put G p (.dk [])) (hg.none hp) (At.put G p _)) fun ps G2 vs H2 h2 f2 g2 r2 => ?_
  obtain ⟨e, kvs, rfl, hl, h2⟩ := h2
  obtain ⟨ks, rfl, hr⟩ := r2.keys
  obtain ⟨xs, hx, rx⟩ := g2 p _ e
  cases rx
  have tt := tm_set (o := .dK (mergeK [] ks)) hx fun z => z
  exact ⟨hx, ks, rfl, by rw [hr.len]; exact hl, CK.set (m := .dk _) (CK.go k (f1.trans f2)) hx (fun z => z) e g2 ⟨_, upd_same, RepKV.merge (hr.mono tt) .nil⟩ (.ref p) fun G' at_ => h2 G' at_⟩
/-! ### == of dicts of rows of ints, where it is True -/
def dEqDL : Z2 := fun x y G Q => match x, y with
  | .ref a, .ref b => match G a, G b with
    | some (.dk ks), some (.dk ls) => ks.length = ls.length ∧ (∀ p ∈ ks, ∃ (a1 b1 : Addr) (ns : List Int), p.2 = .ref a1 ∧ valD ls p.1 = some (.ref b1) ∧ G a1 = some (.lst (ns.map D.int)) ∧ G b1 = some (.lst (ns.map D.int))) ∧ Q (.bl true) G
    | _, _ => False
  | _, _ => False
theorem RepKV.mem {κ : Type} {K : PySem.W.Frag} {H : Hp} : ∀ {ds : List (κ × D)} {vs : List (κ × V)} {q : κ × V}, RepKV K H vs ds → q ∈ vs → ∃ p ∈ ds, p.1 = q.1 ∧ Rep K H q.2 p.2
  | [], _, q, .nil, m => by cases m
  | _ :: _, _ :: _, q, .cons h r, m => by
    rcases List.mem_cons.mp m with rfl | m
    · exact ⟨_, List.mem_cons_self, rfl, h⟩
    · obtain ⟨p, h1, h2⟩ := r.mem m
      exact ⟨p, List.mem_cons_of_mem _ h1, h2⟩
theorem ints_paired {E : V → V → Prop} (h : ∀ i : Int, E (.int i) (.int i)) : ∀ ns : List Int, Paired E (ns.map V.int) (ns.map V.int)
  | [] => .nil
  | n :: ns => .cons (h n) (ints_paired h ns)
theorem zo_eqDL (hu : X.A.units + 64 < cLine) : ZOp X (compareOp .Eq) dEqDL := OpRi (op_eqV hu) fun x y H Q q => by
  obtain ⟨d, e, G, Q0, g, rx, ry, h, k⟩ := q
  unfold dEqDL at h
  split at h
  · split at h
    · rename_i a b ks ls e1 e2
      cases rx
      cases ry
      obtain ⟨us, hu, ru⟩ := g _ _ e1
      obtain ⟨ws, hw, rw'⟩ := g _ _ e2
      refine ⟨2, by decide, .inr ⟨_, _, us, ws, rfl, rfl, hu, hw, by rw [ru.len, rw'.len]; exact h.1, fun q hq => ?_⟩, CK.at k h.2.2 g (.bl _)⟩
      obtain ⟨p, hp, ep, rp⟩ := ru.mem hq
      obtain ⟨a1, b1, ns, c1, c2, c3, c4⟩ := h.2.1 p hp
      have rv := rw'.val p.1
      rw [c2] at rv
      cases ev : valV ws p.1 with
      | none => rw [ev] at rv; exact rv.elim
      | some u =>
        rw [ev] at rv
        rw [c1] at rp
        obtain ⟨x1, hx1, rx1⟩ := g _ _ c3
        obtain ⟨x2, hx2, rx2⟩ := g _ _ c4
        have := Reps.of_ints rx1
        subst this
        have := Reps.of_ints rx2
        subst this
        have e3 : q.2 = .ref a1 := by
          revert rp
          generalize q.2 = z
          intro rp
          cases rp
          rfl
        have e4 : u = .ref b1 := by cases rv; rfl
        refine ⟨u, by rw [← ep]; exact ev, .inr (.inr ?_)⟩
        rw [e3, e4]
        exact .inl ⟨_, _, _, _, rfl, rfl, SqL.of hx1, SqL.of hx2, ints_paired (fun i => .inl ⟨rfl, rfl⟩) ns⟩
    · cases h
  · cases h
/-! ### a text in a dict of the written part -/
def dInKd (d : Addr) (neg : Bool) : Z2 := fun x y G Q => match x, y with
  | .str z, .ref b => b = d ∧ ∃ r : Option Value, PySem.W.nsIn X.K d z = some r ∧ Q (.bl (if neg then !r.isSome else r.isSome)) G
  | _, _ => False
theorem zo_in_kd {d : Addr} {es : Array DictEntry} {n : Nat} (D : KDict X.K X.w d es n) : ZOp X (compareOp .In) (dInKd (X := X) d false) := OpRi (op_in_kd D) fun x y H Q q => by
  obtain ⟨a, e, G, Q0, g, rx, ry, h, k⟩ := q
  unfold dInKd at h
  split at h
  · obtain ⟨rfl, r, h1, h2⟩ := h
    cases rx
    cases ry
    exact ⟨_, r, rfl, rfl, h1, CK.at k h2 g (.bl _)⟩
  · cases h
theorem zo_notin_kd {d : Addr} {es : Array DictEntry} {n : Nat} (D : KDict X.K X.w d es n) : ZOp X (compareOp .NotIn) (dInKd (X := X) d true) := OpRi (op_notIn_kd D) fun x y H Q q => by
  obtain ⟨a, e, G, Q0, g, rx, ry, h, k⟩ := q
  unfold dInKd at h
  split at h
  · obtain ⟨rfl, r, h1, h2⟩ := h
    cases rx
    cases ry
    exact ⟨_, r, rfl, rfl, h1, CK.at k h2 g (.bl _)⟩
  · cases h
theorem z_gref {x : Str} {a : Addr} {pos : Pos} (hg : Gl X x) (hm : X.mg x = some (.ref a)) (hd : (x == ("__debug__" : Str)) = false := by decide) : ZE X (.Name x pos) (zC (.ref a)) := up_glob (v := .ref a) hg hm rfl (fun H => .ref a) hd
end
end Z

namespace Z
open PySem PySem.Spec PyProof.Rows L2
/-! ### plain data: ints, texts, None and tuples of such, to a depth -/
def pl : Nat → D → Bool
  | _, .non => true
  | _, .int _ => true
  | _, .str x => PyData.strOk x
  | n + 1, .tup ds => ds.all (pl n)
  | _, _ => false
theorem pds_all {n : Nat} (ih : ∀ d, pl n d = true → ∃ p, pd d = some p ∧ p.canLay0 = true ∧ p.depth ≤ n) : ∀ {ds : List D}, ds.all (pl n) = true → ∃ ps, pds ds = some ps ∧ PyData.canLayAll0 ps = true ∧ PyData.depthAll ps ≤ n
  | [], _ => ⟨[], rfl, rfl, by simp [PyData.depthAll]⟩
  | d :: ds, h => by
    rw [List.all_cons, Bool.and_eq_true] at h
    obtain ⟨p, e1, c1, d1⟩ := ih d h.1
    obtain ⟨ps, e2, c2, d2⟩ := pds_all ih h.2
    refine ⟨p :: ps, ?_, ?_, ?_⟩
    · show (match pd d, pds ds with | some p, some ps => some (p :: ps) | _, _ => none) = _
      rw [e1, e2]
    · show (p.canLay0 && PyData.canLayAll0 ps) = true
      rw [c1, c2]
      rfl
    · simp only [PyData.depthAll]
      omega
theorem pl_pd : ∀ (n : Nat) (d : D), pl n d = true → ∃ p, pd d = some p ∧ p.canLay0 = true ∧ p.depth ≤ n
  | n, .non, _ => ⟨.none, rfl, rfl, by simp [PyData.depth]⟩
  | n, .int i, _ => ⟨.int i, rfl, rfl, by simp [PyData.depth]⟩
  | n, .str x, h => ⟨.str x, rfl, by show PyData.strOk x = true; cases n <;> exact h, by simp [PyData.depth]⟩
  | n + 1, .tup ds, h => by
    obtain ⟨ps, e, c, dd⟩ := pds_all (pl_pd n) (ds := ds) h
    refine ⟨.tuple ps, ?_, c, ?_⟩
    · show (pds ds).map PyData.tuple = _
      rw [e]
      rfl
    · simp only [PyData.depth]
      omega
  | 0, .tup ds, h => by cases h
  | n, .bl _, h => by cases n <;> cases h
  | n, .ty _, h => by cases n <;> cases h
  | n, .ref _, h => by cases n <;> cases h
  | n, .ct _, h => by cases n <;> cases h
  | n, .cl _, h => by cases n <;> cases h

theorem pl_down {n : Nat} {ds : List D} (h : pl n (.tup ds) = true) : ∃ m, n = m + 1 ∧ ds.all (pl m) = true := by
  cases n with
  | zero => cases h
  | succ m => exact ⟨m, rfl, h⟩
theorem pd_tup {ds : List D} {p : PyData} (h : pd (.tup ds) = some p) : ∃ ps, pds ds = some ps ∧ p = .tuple ps := by
  have h : (pds ds).map PyData.tuple = some p := h
  cases e : pds ds with
  | none => rw [e] at h; cases h
  | some ps => rw [e] at h; cases h; exact ⟨ps, rfl, rfl⟩
theorem pds_cons {d : D} {ds : List D} {qs : List PyData} (h : pds (d :: ds) = some qs) : ∃ p ps, pd d = some p ∧ pds ds = some ps ∧ qs = p :: ps := by
  have h : (match pd d, pds ds with | some p, some ps => some (p :: ps) | _, _ => none) = some qs := h
  split at h
  · rename_i p ps e1 e2
    cases h
    exact ⟨p, ps, e1, e2, rfl⟩
  · cases h
theorem pds_eq {n : Nat} (ih : ∀ (d : D) (e : D) (p q : PyData) (m : Nat), pl n d = true → pl m e = true → pd d = some p → pd e = some q → (PyData.eqv p q = true ↔ d = e)) :
    ∀ {ds es : List D} {ps qs : List PyData} {m : Nat}, ds.all (pl n) = true → es.all (pl m) = true → pds ds = some ps → pds es = some qs → (PyData.eqvAll ps qs = true ↔ ds = es)
  | [], [], ps, qs, m, _, _, e1, e2 => by cases e1; cases e2; simp [PyData.eqvAll]
  | [], e :: es, ps, qs, m, _, _, e1, e2 => by
    cases e1
    obtain ⟨q, qs', _, _, rfl⟩ := pds_cons e2
    simp [PyData.eqvAll]
  | d :: ds, [], ps, qs, m, _, _, e1, e2 => by
    cases e2
    obtain ⟨q, qs', _, _, rfl⟩ := pds_cons e1
    simp [PyData.eqvAll]
  | d :: ds, e :: es, ps, qs, m, h1, h2, e1, e2 => by
    rw [List.all_cons, Bool.and_eq_true] at h1 h2
    obtain ⟨p, ps', a1, a2, rfl⟩ := pds_cons e1
    obtain ⟨q, qs', b1, b2, rfl⟩ := pds_cons e2
    simp only [PyData.eqvAll, Bool.and_eq_true]
    rw [ih d e p q m h1.1 h2.1 a1 b1, pds_eq ih h1.2 h2.2 a2 b2, List.cons.injEq]
theorem pl_eq : ∀ (n : Nat) (d e : D) (p q : PyData) (m : Nat), pl n d = true → pl m e = true → pd d = some p → pd e = some q → (PyData.eqv p q = true ↔ d = e) := by
  intro n
  induction n with
  | zero =>
    intro d e p q m hd he e1 e2
    cases d with
    | non => cases e1; cases e with
      | non => cases e2; simp [PyData.eqv]
      | int i => cases e2; simp [PyData.eqv]
      | str x => cases e2; simp [PyData.eqv]
      | tup ds => obtain ⟨ps, _, rfl⟩ := pd_tup e2; simp [PyData.eqv]
      | _ => cases m <;> cases he
    | int i => cases e1; cases e with
      | non => cases e2; simp [PyData.eqv]
      | int i => cases e2; simp [PyData.eqv]
      | str x => cases e2; simp [PyData.eqv]
      | tup ds => obtain ⟨ps, _, rfl⟩ := pd_tup e2; simp [PyData.eqv]
      | _ => cases m <;> cases he
    | str x => cases e1; cases e with
      | non => cases e2; simp [PyData.eqv]
      | int i => cases e2; simp [PyData.eqv]
      | str x => cases e2; simp [PyData.eqv]
      | tup ds => obtain ⟨ps, _, rfl⟩ := pd_tup e2; simp [PyData.eqv]
      | _ => cases m <;> cases he
    | _ => cases hd
  | succ n ih =>
    intro d e p q m hd he e1 e2
    cases d with
    | non => cases e1; cases e with
      | non => cases e2; simp [PyData.eqv]
      | int i => cases e2; simp [PyData.eqv]
      | str x => cases e2; simp [PyData.eqv]
      | tup ds => obtain ⟨ps, _, rfl⟩ := pd_tup e2; simp [PyData.eqv]
      | _ => cases m <;> cases he
    | int i => cases e1; cases e with
      | non => cases e2; simp [PyData.eqv]
      | int i => cases e2; simp [PyData.eqv]
      | str x => cases e2; simp [PyData.eqv]
      | tup ds => obtain ⟨ps, _, rfl⟩ := pd_tup e2; simp [PyData.eqv]
      | _ => cases m <;> cases he
    | str x => cases e1; cases e with
      | non => cases e2; simp [PyData.eqv]
      | int i => cases e2; simp [PyData.eqv]
      | str x => cases e2; simp [PyData.eqv]
      | tup ds => obtain ⟨ps, _, rfl⟩ := pd_tup e2; simp [PyData.eqv]
      | _ => cases m <;> cases he
    | tup ds =>
      obtain ⟨ps, a1, rfl⟩ := pd_tup e1
      cases e with
      | non => cases e2; simp [PyData.eqv]
      | int i => cases e2; simp [PyData.eqv]
      | str x => cases e2; simp [PyData.eqv]
      | tup es =>
        obtain ⟨qs, b1, rfl⟩ := pd_tup e2
        obtain ⟨m', rfl, he'⟩ := pl_down he
        show PyData.eqvAll ps qs = true ↔ _
        rw [pds_eq (fun d e p q m => ih d e p q m) hd he' a1 b1, D.tup.injEq]
      | _ => cases m <;> cases he
    | _ => cases hd
/-! ### ==, !=, in, not in of plain data -/
def dEqP (neg : Bool) : Z2 := fun d e G Q => (pl 60 d = true ∧ pl 60 e = true ∧ ∀ c : Bool, (c = true ↔ d = e) → Q (.bl (neg != c)) G) ∨
  ∃ a b ds es, d = .ref a ∧ e = .ref b ∧ G a = some (.lst ds) ∧ G b = some (.lst es) ∧ ds.all (pl 60) = true ∧ es.all (pl 60) = true ∧ ∀ c : Bool, (c = true ↔ ds = es) → Q (.bl (neg != c)) G
theorem shaped_of {p : PyData} {n : Nat} (hn : n ≤ 63) (h1 : p.canLay0 = true) (h2 : p.depth ≤ n) : SeqAt.shaped p = true := by
  unfold SeqAt.shaped
  rw [h1]
  simp
  omega
theorem shaped_list {ps : List PyData} {n : Nat} (hn : n ≤ 62) (h1 : PyData.canLayAll0 ps = true) (h2 : PyData.depthAll ps ≤ n) : SeqAt.shaped (.list ps) = true :=
  shaped_of (n := n + 1) (by omega) h1 (by simp only [PyData.depth]; omega)
theorem shaped_tup {ps : List PyData} {n : Nat} (hn : n ≤ 62) (h1 : PyData.canLayAll0 ps = true) (h2 : PyData.depthAll ps ≤ n) : SeqAt.shaped (.tuple ps) = true :=
  shaped_of (n := n + 1) (by omega) h1 (by simp only [PyData.depth]; omega)
section
variable [τ : Tbl] [β : Bas] {X : Cx}
theorem lst_dp {K : PySem.W.Frag} {H : Hp} {G : Gp} {a : Addr} {v : V} {ds : List D} {ps : List PyData} (g : SimG K H G) (r : Rep K H v (.ref a)) (e : G a = some (.lst ds)) (h : pds ds = some ps) : Dp K H v (.list ps) := by
  refine pdT_dp g r ?_
  show (match G a with | some (.lst ds) => (pds ds).map PyData.list | _ => none) = _
  rw [e]
  simp [h]
theorem zo_eqP (hu : X.A.units + 64 < cLine) : ZOp X (compareOp .Eq) (dEqP false) := OpRi (op_eqD hu) fun x y H Q q => by
  obtain ⟨d, e, G, Q0, g, rx, ry, h | ⟨a, b, ds, es, rfl, rfl, e1, e2, p1, p2, h⟩, k⟩ := q
  · obtain ⟨p1, p2, h⟩ := h
    obtain ⟨p, a1, a2, a3⟩ := pl_pd 60 d p1
    obtain ⟨q, b1, b2, b3⟩ := pl_pd 60 e p2
    exact ⟨p, q, rx.dp a1, ry.dp b1, shaped_of (n := 60) (by decide) a2 a3, shaped_of (n := 60) (by decide) b2 b3, CK.at k (by have := h (PyData.eqv p q) (pl_eq 60 d e p q 60 p1 p2 a1 b1); simpa using this) g (.bl _)⟩
  · obtain ⟨ps, a1, a2, a3⟩ := pds_all (pl_pd 60) p1
    obtain ⟨qs, b1, b2, b3⟩ := pds_all (pl_pd 60) p2
    refine ⟨.list ps, .list qs, lst_dp g rx e1 a1, lst_dp g ry e2 b1, shaped_list (n := 60) (by decide) a2 a3, shaped_list (n := 60) (by decide) b2 b3, CK.at k ?_ g (.bl _)⟩
    have := h (PyData.eqvAll ps qs) (pds_eq (pl_eq 60) p1 p2 a1 b1)
    simpa [PyData.eqv] using this
theorem zo_neP (hu : X.A.units + 64 < cLine) : ZOp X (compareOp .NotEq) (dEqP true) := OpRi (op_neD hu) fun x y H Q q => by
  obtain ⟨d, e, G, Q0, g, rx, ry, h | ⟨a, b, ds, es, rfl, rfl, e1, e2, p1, p2, h⟩, k⟩ := q
  · obtain ⟨p1, p2, h⟩ := h
    obtain ⟨p, a1, a2, a3⟩ := pl_pd 60 d p1
    obtain ⟨q, b1, b2, b3⟩ := pl_pd 60 e p2
    exact ⟨p, q, rx.dp a1, ry.dp b1, shaped_of (n := 60) (by decide) a2 a3, shaped_of (n := 60) (by decide) b2 b3, CK.at k (by have := h (PyData.eqv p q) (pl_eq 60 d e p q 60 p1 p2 a1 b1); simpa using this) g (.bl _)⟩
  · obtain ⟨ps, a1, a2, a3⟩ := pds_all (pl_pd 60) p1
    obtain ⟨qs, b1, b2, b3⟩ := pds_all (pl_pd 60) p2
    refine ⟨.list ps, .list qs, lst_dp g rx e1 a1, lst_dp g ry e2 b1, shaped_list (n := 60) (by decide) a2 a3, shaped_list (n := 60) (by decide) b2 b3, CK.at k ?_ g (.bl _)⟩
    have := h (PyData.eqvAll ps qs) (pds_eq (pl_eq 60) p1 p2 a1 b1)
    simpa [PyData.eqv] using this
def dInP (neg : Bool) : Z2 := fun d e G Q => ∃ ds : List D, (e = .tup ds ∨ ∃ b, e = .ref b ∧ G b = some (.lst ds)) ∧ pl 60 d = true ∧ ds.all (pl 60) = true ∧ ∀ c : Bool, (c = true ↔ d ∈ ds) → Q (.bl (neg != c)) G
def rInA (K : PySem.W.Frag) (neg : Bool) : R2 := fun x y H Q => ∃ d ds, Dp K H x d ∧ (Dp K H y (.list ds) ∨ Dp K H y (.tuple ds)) ∧ SeqAt.shaped d = true ∧ SeqAt.shaped (.list ds) = true ∧ Q (.bl (neg != (ds.any fun z => PyData.eqv z d))) H
theorem op_inA (hu : X.A.units + 65 < cLine) : OpR X (compareOp .In) (rInA X.K false) := by
  intro pins s σ H x y v u Q I rx ry h
  obtain ⟨d, ds, hd, he, sd, se, q⟩ := h
  obtain ⟨as, r1⟩ := Dp.reads I d x v hd rx
  have q' : Q (.bl (ds.any fun z => PyData.eqv z d)) H := by simpa using q
  rcases he with he | he
  · obtain ⟨bs, r2⟩ := Dp.reads I (.list ds) y u he ry
    exact SeqAt.in_list_reads r2 r1 (SeqAt.canLay_of_shaped se) (SeqAt.canLay_of_shaped sd) (room_in_shaped sd hu) ⟨.bl _, H, I, rfl, q'⟩
  · obtain ⟨bs, r2⟩ := Dp.reads I (.tuple ds) y u he ry
    exact SeqAt.in_tuple_reads r2 r1 (SeqAt.canLay_of_shaped se) (SeqAt.canLay_of_shaped sd) (room_in_shaped sd hu) ⟨.bl _, H, I, rfl, q'⟩
theorem op_notInA (hu : X.A.units + 65 < cLine) : OpR X (compareOp .NotIn) (rInA X.K true) := by
  intro pins s σ H x y v u Q I rx ry h
  obtain ⟨d, ds, hd, he, sd, se, q⟩ := h
  obtain ⟨as, r1⟩ := Dp.reads I d x v hd rx
  have q' : Q (.bl (!ds.any fun z => PyData.eqv z d)) H := by simpa using q
  rcases he with he | he
  · obtain ⟨bs, r2⟩ := Dp.reads I (.list ds) y u he ry
    exact SeqAt.notIn_list_reads r2 r1 (SeqAt.canLay_of_shaped se) (SeqAt.canLay_of_shaped sd) (room_in_shaped sd hu) ⟨.bl _, H, I, rfl, q'⟩
  · obtain ⟨bs, r2⟩ := Dp.reads I (.tuple ds) y u he ry
    exact SeqAt.notIn_tuple_reads r2 r1 (SeqAt.canLay_of_shaped se) (SeqAt.canLay_of_shaped sd) (room_in_shaped sd hu) ⟨.bl _, H, I, rfl, q'⟩
theorem any_mem {n m : Nat} {d : D} {p : PyData} (hd : pl n d = true) (ep : pd d = some p) : ∀ {ds : List D} {ps : List PyData}, ds.all (pl m) = true → pds ds = some ps → ((ps.any fun z => PyData.eqv z p) = true ↔ d ∈ ds)
  | [], ps, _, e => by cases e; simp
  | x :: ds, ps, h, e => by
    rw [List.all_cons, Bool.and_eq_true] at h
    obtain ⟨q, qs, a1, a2, rfl⟩ := pds_cons e
    rw [List.any_cons, Bool.or_eq_true, any_mem hd ep h.2 a2, pl_eq m x d q p n h.1 hd a1 ep, List.mem_cons]
    exact ⟨fun z => z.elim (fun z => .inl z.symm) .inr, fun z => z.elim (fun z => .inl z.symm) .inr⟩
theorem in_up {K : PySem.W.Frag} {neg : Bool} {x y : V} {H : Hp} {Q : VK} (q : upR2 K (dInP neg) x y H Q) : rInA K neg x y H Q := by
  obtain ⟨d, e, G, Q0, g, rx, ry, ⟨ds, he, p1, p2, h⟩, k⟩ := q
  obtain ⟨p, a1, a2, a3⟩ := pl_pd 60 d p1
  obtain ⟨qs, b1, b2, b3⟩ := pds_all (pl_pd 60) p2
  refine ⟨p, qs, rx.dp a1, ?_, shaped_of (n := 60) (by decide) a2 a3, shaped_list (n := 60) (by decide) b2 b3, CK.at k (h _ (any_mem p1 a1 p2 b1)) g (.bl _)⟩
  rcases he with rfl | ⟨b, rfl, e⟩
  · refine .inr (ry.dp ?_)
    show (pds ds).map PyData.tuple = _
    rw [b1]
    rfl
  · exact .inl (lst_dp g ry e b1)
theorem zo_inP (hu : X.A.units + 65 < cLine) : ZOp X (compareOp .In) (dInP false) := OpRi (op_inA hu) fun x y H Q q => in_up q
theorem zo_notinP (hu : X.A.units + 65 < cLine) : ZOp X (compareOp .NotIn) (dInP true) := OpRi (op_notInA hu) fun x y H Q q => in_up q
end
theorem all_ints {n : Nat} : ∀ ns : List Int, (ns.map D.int).all (pl n) = true
  | [] => rfl
  | i :: ns => by
    rw [List.map_cons, List.all_cons, all_ints ns]
    cases n <;> rfl
theorem mem_ints {i : Int} {ns : List Int} : D.int i ∈ ns.map D.int ↔ i ∈ ns := by
  rw [List.mem_map]
  constructor
  · rintro ⟨j, h, e⟩
    cases e
    exact h
  · intro h
    exact ⟨i, h, rfl⟩
theorem ints_inj {ns ms : List Int} : ns.map D.int = ms.map D.int ↔ ns = ms := by
  constructor
  · intro h
    induction ns generalizing ms with
    | nil => cases ms with
      | nil => rfl
      | cons m ms => cases h
    | cons n ns ih => cases ms with
      | nil => cases h
      | cons m ms =>
        rw [List.map_cons, List.map_cons] at h
        injection h with h1 h2
        injection h1 with h1
        rw [h1, ih h2]
  · rintro rfl
    rfl
end Z

namespace Z
open PySem PySem.Spec PyProof.Rows L2
open Sem (wp)
set_option maxHeartbeats 1000000 in
open AutoSeq1 (wpAny_loadPart') in
theorem enum_new1 {v : Value} {o : Obj} {H : Heap → Prop} (B : Begins v o H) :
    Meets (Builtin.«enumerate.__new__» ⟨[.type "enumerate", v], []⟩) (fun _ R s => H s.heap ∧
      R (.ok (.ret (.ref (s.heap.push o).objs.size))) { s with heap := (s.heap.push o).push { cls := .type "enumerate", data := .fields #[.none, .bool false, .ref s.heap.objs.size, rawInt 0, .none, .none] } }) :=
  .of_wp fun prog w A R s h => by
    obtain ⟨hp, g, d, tk, os⟩ := s; obtain ⟨h1, h⟩ := h
    have hsub := sub_enumerate
    have q1 : ∀ {A' : Around} {E : Value → Shared → Prop} {Q : Value → Shared → Prop}, Q (.ref hp.objs.size) ⟨hp.push o, g, d, tk, os⟩ → wpAny (model prog w) A' (pyIter v) Q E ⟨hp, g, d, tk, os⟩ :=
      fun q => B.iter prog w _ _ ⟨hp, g, d, tk, os⟩ _ h1 q
    wp_walk using q1
    refine wpAny_stack_any fun st => wpAny_pure ?_
    split
    · rename_i c _ _ _ _ _
      cases (c == Value.type "enumerate")
      · wp_walk using q1
        exact ⟨_, rfl, h⟩
      · wp_walk using q1
        exact ⟨_, rfl, h⟩
    · wp_walk using q1
      exact ⟨_, rfl, h⟩
theorem enum_call1 {prog : Program} {w : World} {A : Around} {E : Value → Shared → Prop} {s : Shared} {v : Value} {o : Obj} {H : Heap → Prop} {Q : Value → Shared → Prop} (B : Begins v o H) (h1 : H s.heap)
    (h : ∀ h', IsEnum h' (s.heap.objs.size + 1) s.heap.objs.size 0 .none → h'.get? s.heap.objs.size = some o → h'.objs.size = s.heap.objs.size + 2 →
      (∀ b o, s.heap.get? b = some o → h'.get? b = some o) → Q (.ref (s.heap.objs.size + 1)) { s with heap := h' }) :
    wpAny (model prog w) A (call (.type "enumerate") [v]) Q E s := by
  refine callType_new F.called_enumerate (by decide) (F.typeCall_enumerate_1 _) (F.newCall_enumerate_1 _) (fun obj => F.args_object_init_2 obj _) F.entry_enumerate_new
    (enum_new1 B) ⟨h1, ?_⟩
  have hz : (s.heap.push o).objs.size = s.heap.objs.size + 1 := Heap.size_push ..
  show _ ∧ _
  rw [hz]
  have he : IsEnum ((s.heap.push o).push { cls := .type "enumerate", data := .fields #[.none, .bool false, .ref s.heap.objs.size, rawInt 0, .none, .none] }) (s.heap.objs.size + 1) s.heap.objs.size 0 .none := by
    have := Heap.get?_push_size (s.heap.push o) (o := { cls := .type "enumerate", data := .fields #[.none, .bool false, .ref s.heap.objs.size, rawInt 0, .none, .none] }) rfl
    rw [hz] at this; exact this
  refine ⟨⟨_, he, rfl⟩, h _ he (Heap.get?_push_of_some _ (Heap.get?_push_size _ B.free)) (by rw [Heap.size_push, hz]) fun b o x => Heap.get?_push_of_some _ (Heap.get?_push_of_some _ x)⟩
/-! ### enumerate(tuple) -/
def IteT (K : PySem.W.Frag) (a : Addr) : It :=
  ⟨fun i H => ∃ (xs : List V) (x : V), SqT K H a xs ∧ xs[i]? = some x, fun i H v H' => ∃ T x, v = .ref T ∧ H T = none ∧ H' = upd H T (.tup [.int (i : Nat), x]) ∧ ∀ xs, SqT K H a xs → xs[i]? = some x, fun i H => ∃ xs : List V, SqT K H a xs ∧ xs.length ≤ i⟩
theorem turn_enumT {P : Program} {w : World} {K : PySem.W.Frag} {elts : List Expr} {kk : Nat} {tpos : Pos} (a e it : Addr) (hai : a ≠ it) (hea : e ≠ a) :
    Turn P w K (.Tuple elts kk tpos) (IteT K a) [e, it] e (fun i h => (∃ old, IsEnum h e it ((i : Nat) : Int) old) ∧ h.IsTupleIter it a i ∧ e ≠ it) where
  mem := by simp
  obj := fun i h st b hb => by
    obtain ⟨⟨old, he⟩, ⟨o, ho, hc, hd⟩, _⟩ := st
    have e' : b = e ∨ b = it := by simpa using hb
    rcases e' with z | z
    · rw [z]; exact ⟨_, he, fun v q => nomatch q⟩
    · rw [z]; exact ⟨o, ho, fun v q => by rw [hd] at q; cases q⟩
  keep := fun i h h' st k => let ⟨⟨old, he⟩, hi, hne⟩ := st; ⟨⟨old, k e (by simp) _ he⟩, hi.at fun o q => k it (by simp) o q, hne⟩
  item := by
    intro X hP hw hK hc i pins s σ H E I hf st hg
    subst hP hw hK
    obtain ⟨⟨old, he⟩, hit, hne⟩ := st
    obtain ⟨xs, x, hq, hx⟩ := hg
    obtain ⟨its, rv, p, hz⟩ := I.tuple hq
    obtain ⟨u, hu, ru⟩ := rv.get hx
    have hel : e < s.heap.objs.size := Heap.lt_size he
    have hil : it < s.heap.objs.size := by obtain ⟨_, q, _⟩ := hit; exact Heap.lt_size q
    have hlt : i < its.toArray.size := by rw [List.size_toArray]; exact (List.getElem?_eq_some_iff.mp hu).1
    refine wpAny_pyNext_enum_itemD (Draws.tuple (A := X.A.in1) (I.ok.hd hc) it a hai its.toArray) he ⟨hit, p⟩ hlt hne (by simp [hne, hea]) fun v h' tk hv ho st' hT hsz hk => ?_
    have hv' : v = u := by
      have h1 : its.toArray[i]? = some v := hv
      have h2 : its.toArray[i]? = some u := by simpa using hu
      exact Option.some.inj (h1.symm.trans h2)
    subst hv'
    obtain ⟨hit', _⟩ := st'
    refine ⟨_, rfl, wpAny_letOwnedTupleGo_enum (s := { s with heap := h', toks := tk + 1 }) ho fun h'' he' sb => ?_⟩
    have hT2 : h''.get? s.heap.objs.size = some { cls := .type "tuple", data := .seq #[.int i tk, v] } := (sb.2 _ (Nat.ne_of_gt hel)).trans hT
    have new : ObjOk X.prog X.w (upd H s.heap.objs.size (.tup [.int (i : Nat), x])) h'' s.heap.objs.size (.tup [.int (i : Nat), x]) :=
      ⟨by show 2 ≤ sizeLine; decide, [.int i tk, v], .cons ⟨_, rfl⟩ (.cons ru .nil), ⟨_, hT2, rfl, _, rfl⟩⟩
    have I1 : Inv X pins σ (upd H s.heap.objs.size (.tup [.int (i : Nat), x])) { s with heap := h'', toks := tk + 1 } :=
      I.turnedNew (ch := [e, it]) (fun b ob hb q => (sb.2 b (fun z => hb (by simp [z]))).trans (hk b ob (fun z => hb (by simp [z])) (fun z => hb (by simp [z])) q)) hf (Nat.le_refl _) new
    refine ⟨.ref s.heap.objs.size, _, I1, rfl, ⟨_, x, rfl, I.hok.fresh (Nat.le_refl _), rfl, fun ys hy => by rw [I.tuple_inj hy hq]; exact hx⟩, ⟨⟨v, ?_⟩, hit'.at fun o q => (sb.2 it (Ne.symm hne)).trans q, hne⟩, fun b hb => ?_⟩
    · have e1 : ((i + 1 : Nat) : Int) = (i : Int) + 1 := by omega
      rw [e1]; exact he'
    · have hb' : b < s.heap.objs.size := by
        have e' : b = e ∨ b = it := by simpa using hb
        rcases e' with z | z
        · rw [z]; exact hel
        · rw [z]; exact hil
      rw [upd_ne (Nat.ne_of_lt hb')]
      exact (hf b hb).1
  done := by
    intro X hP hw hK hc i pins s σ H E I hf st hg
    subst hP hw hK
    obtain ⟨⟨old, he⟩, hit, hne⟩ := st
    obtain ⟨xs, hq, hx⟩ := hg
    obtain ⟨its, rv, p, hz⟩ := I.tuple hq
    obtain ⟨f0, f1, f2, f3, f4, f5⟩ := hf it (by simp)
    have hl := rv.length
    have hT : s.TypeIs (.ref e) "enumerate" := ⟨_, he, rfl⟩
    unfold pyNext
    refine wpAny_bind (wpAny_attempt (wpAny_callSpecial?_slot (name := Str.ofString "__next__") hT F.slot_enumerate_next
      (wpAny_call_entry F.slot_enumerate_next hT F.entry_enumerate_next ?_ (F.args_enumerate_next_1 _))))
    show wpAny _ _ (field (.ref e) 2 >>= _) _ _ _
    refine wpAny_bind (wpAny_field he rfl (x := .ref it) rfl ?_)
    refine wpAny_bind (wpAny_nextOf_tuple_end (I.ok.hd hc) hit p (by simp; omega) fun h' x he' hx' => ?_)
    obtain ⟨o, ho, hc'⟩ := hx'
    refine wpAny_bind (wpAny_isInstance (T := "StopIteration") (b := true) ⟨o, ho, hc'⟩ isSubtype_stop ?_)
    exact wpAny_pure ⟨rfl, I.turned (t' := s.toks) (fun b o hb q => he' b o hb q) f0 f1 f3 f4 f5⟩
  self := fun A i s Q E st h => let ⟨⟨_, he⟩, _⟩ := st; wpAny_pyIter_enum he h
def iEnumA (K : PySem.W.Frag) (ta : TA) : TI := fun σ H R => ta σ H fun vs H1 => ∃ a xs, vs = [.ref a] ∧ ((SqL K H1 a xs ∧ R (Ite K a) H1) ∨ (SqT K H1 a xs ∧ R (IteT K a) H1))
theorem pi_enumA {X : Cx} {e : Expr} {ta : TA} {p pos tpos : Pos} {elts : List Expr} {kk : Nat} (hg : Gl X "enumerate") (hm : X.mg "enumerate" = none) (ha : PA X [e] ta) (hs : starEach [e] X.env = [(false, eval e X.env)] := by rfl) :
    PI X (.Tuple elts kk tpos) (.Call (.Name "enumerate" p) [e] [] pos) (iEnumA X.K ta) := by
  refine ⟨fun pins s σ H R I h => ?_⟩
  refine Call_ (ld_blt I hg hm boot_enumerate (PyProof.Rows.callWith_type1 (thn (ha.run pos pins s σ H _ I h) fun us s1 ⟨vs, H1, I1, r1, q1⟩ => ?_) hs rfl))
  obtain ⟨a, xs, ex, q⟩ := q1
  subst ex
  cases r1 with
  | cons r rr =>
    cases rr
    cases r
    have fp : ∀ b, b ∈ [s1.heap.objs.size + 1, s1.heap.objs.size] → FpOk X pins H1 b := fun b hb => by
      have e' : b = s1.heap.objs.size + 1 ∨ b = s1.heap.objs.size := by simpa using hb
      have hle : s1.heap.objs.size ≤ b := by
        rcases e' with z | z
        · rw [z]; exact Nat.le_add_right _ _
        · rw [z]; exact Nat.le_refl _
      exact I1.fpOk hle (I1.hok.fresh hle)
    rcases q with ⟨hq, q⟩ | ⟨hq, q⟩
    · obtain ⟨its, rv, p', hz⟩ := I1.list hq
      refine call_enumerate_list p'.isList fun h' he hit hsz hk => wpAny_pyIter_enum he ?_
      have I2 : Inv X pins σ H1 { s1 with heap := h' } := I1.kept (t' := s1.toks) hk
      exact ⟨s1.heap.objs.size + 1, [s1.heap.objs.size + 1, s1.heap.objs.size], _, _, H1, rfl, I2, turn_enum a (s1.heap.objs.size + 1) s1.heap.objs.size, ⟨⟨.none, he⟩, hit, Nat.succ_ne_self _⟩, fp, q⟩
    · obtain ⟨its, rv, p', hz⟩ := I1.tuple hq
      obtain ⟨o, ho, _⟩ := id p'
      have hlt := Heap.lt_size ho
      refine enum_call1 (begins_tuple a its.toArray) p' fun h' he hit hsz hk => wpAny_pyIter_enum he ?_
      have I2 : Inv X pins σ H1 { s1 with heap := h' } := I1.kept (t' := s1.toks) hk
      exact ⟨s1.heap.objs.size + 1, [s1.heap.objs.size + 1, s1.heap.objs.size], _, _, H1, rfl, I2, turn_enumT a (s1.heap.objs.size + 1) s1.heap.objs.size (Nat.ne_of_lt hlt) (by have : a < s1.heap.objs.size := hlt; exact fun z => absurd z (Nat.ne_of_gt (Nat.lt_succ_of_lt this))), ⟨⟨.none, he⟩, ⟨_, hit, rfl, rfl⟩, Nat.succ_ne_self _⟩, fp, q⟩

theorem itok_enumT [τ : Tbl] [β : Bas] {K : PySem.W.Frag} {Hs : Hp} {a : Addr} {ys : List V} {ds : List D} (hq : TqT K Hs a ys) (r : Reps K Hs ys ds) : ItOk K Hs (IteT K a) (enD ds) (fun _ => True) where
  go := fun i H G t g l hi => by
    rw [enD_len] at hi
    obtain ⟨v, hv, _⟩ := r.get (List.getElem?_eq_getElem hi)
    exact ⟨ys, v, (t.tq hq).sq, hv⟩
  yld := fun i d H G x H' t g l hi y => by
    obtain ⟨T, w, rfl, hT, rfl, y⟩ := y
    obtain ⟨e, he, rfl⟩ := enD_get hi
    obtain ⟨v, hv, rv⟩ := r.get he
    have e := y ys (t.tq hq).sq
    rw [hv] at e
    cases e
    have t2 := tm_new (o := .tup [.int (i : Nat), w]) hT
    exact ⟨Fr.tup hT, g.keep hT, .tup upd_same (.cons (.int _) (.cons ((rv.mono t).mono t2) .nil))⟩
  stop := fun H G t g l => ⟨ys, (t.tq hq).sq, by rw [r.length, enD_len]; exact Nat.le_refl _⟩
theorem itok_zipT [τ : Tbl] [β : Bas] {K : PySem.W.Frag} {Hs : Hp} {a b : Addr} {xs ys : List V} {ds es : List D} (hq : TqT K Hs a xs) (r : Reps K Hs xs ds) (hq2 : TqT K Hs b ys) (r2 : Reps K Hs ys es) : ItOk K Hs (RZ.ItzT K a b) (zipD ds es) (fun _ => True) where
  go := fun i H G t g l hi => by
    rw [zipD_len] at hi
    obtain ⟨v, hv, _⟩ := r.get (List.getElem?_eq_getElem (show i < ds.length by omega))
    obtain ⟨w, hw, _⟩ := r2.get (List.getElem?_eq_getElem (show i < es.length by omega))
    exact ⟨xs, ys, v, w, (t.tq hq).sq, (t.tq hq2).sq, hv, hw⟩
  yld := fun i d H G x H' t g l hi y => by
    obtain ⟨T, w, u, rfl, hT, rfl, y1, y2⟩ := y
    obtain ⟨e1, e2, he1, he2, rfl⟩ := zipD_get hi
    obtain ⟨v, hv, rv⟩ := r.get he1
    obtain ⟨v2, hv2, rv2⟩ := r2.get he2
    have e := y1 xs (t.tq hq).sq
    rw [hv] at e
    cases e
    have e := y2 ys (t.tq hq2).sq
    rw [hv2] at e
    cases e
    have t2 := tm_new (o := .tup [w, u]) hT
    exact ⟨Fr.tup hT, g.keep hT, .tup upd_same (.cons ((rv.mono t).mono t2) (.cons ((rv2.mono t).mono t2) .nil))⟩
  stop := fun H G t g l => by
    refine ⟨xs, ys, (t.tq hq).sq, (t.tq hq2).sq, ?_⟩
    have h1 := r.length
    have h2 := r2.length
    rw [zipD_len]
    omega
section
variable [τ : Tbl] [β : Bas] {X : Cx} {a b : Expr} {tA : DA} {p pos : Pos}
def zEnumA (tA : DA) : DI := fun ρ G Q => tA ρ G fun ds G1 => match ds with
  | [.ref a] => (match G1 a with
    | some (.lst ds) => Q (enD ds) (fun G => G a = some (.lst ds)) G1
    | _ => False)
  | [.tup ds] => Q (enD ds) (fun _ => True) G1
  | _ => False
theorem zi_enumA {elts : List Expr} {kk : Nat} {tpos : Pos} (hg : Gl X "enumerate") (hm : X.mg "enumerate" = none) (ha : ZA X [a] tA) (hs : starEach [a] X.env = [(false, eval a X.env)] := by rfl) :
    ZI X (.Tuple elts kk tpos) (.Call (.Name "enumerate" p) [a] [] pos) (zEnumA tA) := PIi (pi_enumA hg hm ha hs) fun σ H R q => by
  obtain ⟨ρ, G, Q0, hs, hg, h, k⟩ := q
  refine ⟨ρ, G, _, hs, hg, h, fun ds G1 xs H1 h1 f1 g1 r1 => ?_⟩
  cases r1 with
  | nil => exact False.elim h1
  | cons r r2 =>
    cases r2 with
    | cons r3 r4 => cases r <;> exact False.elim h1
    | nil =>
      cases r with
      | ref q =>
        simp only at h1
        split at h1
        · rename_i ds e
          obtain ⟨xs, hx, r⟩ := g1 q _ e
          exact ⟨q, xs, rfl, .inl ⟨SqL.of hx, k _ _ G1 H1 _ h1 f1 g1 itok_enum⟩⟩
        · cases h1
      | tup hq r => exact ⟨_, _, rfl, .inr ⟨hq.sq, k _ _ G1 H1 _ h1 f1 g1 (itok_enumT hq r)⟩⟩
      | _ => exact False.elim h1
def zZipA (tA : DA) : DI := fun ρ G Q => tA ρ G fun ds G1 => match ds with
  | [.ref a, .ref b] => (match G1 a, G1 b with
    | some (.lst ds), some (.lst es) => Q (zipD ds es) (fun G => G a = some (.lst ds) ∧ G b = some (.lst es)) G1
    | _, _ => False)
  | [.tup ds, .tup es] => Q (zipD ds es) (fun _ => True) G1
  | _ => False
theorem zi_zipA {elts : List Expr} {kk : Nat} {tpos : Pos} (hg : Gl X "zip") (hm : X.mg "zip" = none) (ha : ZA X [a, b] tA) (hs : starEach [a, b] X.env = (false, eval a X.env) :: starEach [b] X.env := by rfl) (hpl : (backTo pos (starEach [b] X.env)).any (·.1) = false := by rfl) :
    ZI X (.Tuple elts kk tpos) (.Call (.Name "zip" p) [a, b] [] pos) (zZipA tA) := PIi (RZ.pi_zipA hg hm ha hs hpl) fun σ H R q => by
  obtain ⟨ρ, G, Q0, hs, hg, h, k⟩ := q
  refine ⟨ρ, G, _, hs, hg, h, fun ds G1 xs H1 h1 f1 g1 r1 => ?_⟩
  split at h1
  · split at h1
    · rename_i a b _ _ ds es e e2
      cases r1 with
      | cons ra r1 =>
        cases r1 with
        | cons rb r1 =>
          cases r1
          cases ra
          cases rb
          obtain ⟨xs, hx, r⟩ := g1 _ _ e
          obtain ⟨ys, hy, r2⟩ := g1 _ _ e2
          exact ⟨_, _, xs, ys, rfl, .inl ⟨SqL.of hx, SqL.of hy, k _ _ G1 H1 _ h1 f1 g1 itok_zip⟩⟩
    · cases h1
  · cases r1 with
    | cons ra r1 =>
      cases r1 with
      | cons rb r1 =>
        cases r1
        cases ra with
        | tup hq r =>
          cases rb with
          | tup hq2 r2 => exact ⟨_, _, _, _, rfl, .inr ⟨hq.sq, hq2.sq, k _ _ G1 H1 _ h1 f1 g1 (itok_zipT hq r hq2 r2)⟩⟩
  · cases h1
end
end Z

namespace Z
open PySem PySem.Spec PyProof.Rows L2
/-! ### one step of a reading at a time -/
section
variable {te ta tb tc to tv td ty tx : DE} {c : DT} {tA : DA} {t e u : DS} {Z : ZEnds} {ρ : ZSt} {G : Gp} {i j l : Nat} {g : DG} {gs : DGs} {Q R : DK} {d : D} {T : Bool → Gp → Prop} {QA : List D → Gp → Prop}
theorem r_asg (h : te ρ G fun d G1 => u Z (ρ.set i (some d)) G1) : zSeq (zAsg te (zName i)) u Z ρ G := h
theorem r_asgT {n : Nat} (h : te ρ G fun d G1 => match d with | .tup ds => ds.length = n ∧ gs ds ρ G1 (u Z) | _ => False) : zSeq (zAsg te (zgTup n gs)) u Z ρ G := h
theorem r_asgG (h : te ρ G fun d G1 => g d ρ G1 (u Z)) : zSeq (zAsg te g) u Z ρ G := h
theorem r_asg1 (h : te ρ G fun d G1 => g d ρ G1 Z.nx) : zAsg te g Z ρ G := h
theorem r_if (h : c ρ G fun b G1 => if b = true then t { Z with nx := u Z } ρ G1 else e { Z with nx := u Z } ρ G1) : zSeq (zIfS c t e) u Z ρ G := h
theorem r_if1 (h : c ρ G fun b G1 => if b = true then t Z ρ G1 else e Z ρ G1) : zIfS c t e Z ρ G := h
theorem r_drop (h : te ρ G fun _ G1 => u Z ρ G1) : zSeq (zDrop te) u Z ρ G := h
theorem r_drop1 (h : te ρ G fun _ G1 => Z.nx ρ G1) : zDrop te Z ρ G := h
theorem r_ret (h : te ρ G Z.rt) : zSeq (zRet te) u Z ρ G := h
theorem r_ret1 (h : te ρ G Z.rt) : zRet te Z ρ G := h
theorem r_retN (h : Z.rt .non G) : zRetN Z ρ G := h
theorem r_nx (h : u Z ρ G) : zSeq zNext u Z ρ G := h
theorem r_nx1 (h : Z.nx ρ G) : zNext Z ρ G := h
theorem r_bk (h : Z.bk ρ G) : zBreak Z ρ G := h
theorem r_ct (h : Z.ct ρ G) : zCont Z ρ G := h
theorem r_par (h : tA ρ G fun ds G1 => match ds with | [d, e] => u Z ((ρ.set i (some d)).set j (some e)) G1 | _ => False) : zSeq (zPar i j tA) u Z ρ G := h
theorem r_par1 (h : tA ρ G fun ds G1 => match ds with | [d, e] => Z.nx ((ρ.set i (some d)).set j (some e)) G1 | _ => False) : zPar i j tA Z ρ G := h
theorem r_par3 (h : tA ρ G fun ds G1 => match ds with | [d, e, f] => u Z (((ρ.set i (some d)).set j (some e)).set l (some f)) G1 | _ => False) : zSeq (zPar3 i j l tA) u Z ρ G := h
theorem r_par31 (h : tA ρ G fun ds G1 => match ds with | [d, e, f] => Z.nx (((ρ.set i (some d)).set j (some e)).set l (some f)) G1 | _ => False) : zPar3 i j l tA Z ρ G := h
theorem r_for {zi : DI} (h : zi ρ G fun items live G1 => ∃ P : Nat → ZSt → Gp → Prop, P 0 ρ G1 ∧
    (∀ i d ρ' G', items[i]? = some d → P i ρ' G' → live G' ∧ g d ρ' G' fun ρ2 G2 => t { nx := P (i + 1), ct := P (i + 1), bk := u Z, rt := Z.rt } ρ2 G2) ∧ ∀ ρ' G', P items.length ρ' G' → live G' ∧ u Z ρ' G') : zSeq (zFor zi g t) u Z ρ G := h
theorem r_for1 {zi : DI} (h : zi ρ G fun items live G1 => ∃ P : Nat → ZSt → Gp → Prop, P 0 ρ G1 ∧
    (∀ i d ρ' G', items[i]? = some d → P i ρ' G' → live G' ∧ g d ρ' G' fun ρ2 G2 => t { nx := P (i + 1), ct := P (i + 1), bk := Z.nx, rt := Z.rt } ρ2 G2) ∧ ∀ ρ' G', P items.length ρ' G' → live G' ∧ Z.nx ρ' G') : zFor zi g t Z ρ G := h
theorem r_while (h : ∃ W : Nat → ZSt → Gp → Prop, (∃ m, W m ρ G) ∧ ∀ m ρ' G', W m ρ' G' →
    c ρ' G' fun b G1 => if b = true then t { nx := fun ρ2 G2 => ∃ m', m' < m ∧ W m' ρ2 G2, ct := fun ρ2 G2 => ∃ m', m' < m ∧ W m' ρ2 G2, bk := u Z, rt := Z.rt } ρ' G1 else u Z ρ' G1) : zSeq (zWhile c t) u Z ρ G := h
theorem r_aug {z : Z2} {x : D} (h : ρ[i]? = some (some x)) (q : te ρ G fun d G1 => z x d G1 fun y G2 => u Z (ρ.set i (some y)) G2) : zSeq (zAug i te z) u Z ρ G := by
  show (match ρ[i]? with | some (some x) => _ | _ => False)
  rw [h]
  exact q
theorem r_aug1 {z : Z2} {x : D} (h : ρ[i]? = some (some x)) (q : te ρ G fun d G1 => z x d G1 fun y G2 => Z.nx (ρ.set i (some y)) G2) : zAug i te z Z ρ G := by
  show (match ρ[i]? with | some (some x) => _ | _ => False)
  rw [h]
  exact q
theorem r_name {x : D} {QS : ZSt → Gp → Prop} (h : QS (ρ.set i (some x)) G) : zName i x ρ G QS := h
theorem r_gtup {n : Nat} {ds : List D} {QS : ZSt → Gp → Prop} (hn : ds.length = n) (h : gs ds ρ G QS) : zgTup n gs (.tup ds) ρ G QS := ⟨hn, h⟩
theorem r_gcons {x : D} {xs : List D} {QS : ZSt → Gp → Prop} (h : g x ρ G fun ρ' G' => gs xs ρ' G' QS) : zgCons g gs (x :: xs) ρ G QS := h
theorem r_gnil {QS : ZSt → Gp → Prop} (h : QS ρ G) : zgNil [] ρ G QS := ⟨rfl, h⟩
/- expressions -/
theorem r_var (h : ρ[i]? = some (some d)) (q : Q d G) : zVar i ρ G Q := by
  unfold zVar
  rw [h]
  exact q
theorem r_c (q : Q d G) : zC d ρ G Q := q
theorem r_op {z : Z2} (h : ta ρ G fun d G1 => tb ρ G1 fun e G2 => z d e G2 Q) : zOp z ta tb ρ G Q := h
theorem r_ifE (h : c ρ G fun b G1 => if b = true then ta ρ G1 Q else tb ρ G1 Q) : zIf c ta tb ρ G Q := h
theorem r_nil (h : QA [] G) : zNil ρ G QA := h
theorem r_cons (h : ta ρ G fun d G1 => tA ρ G1 fun ds G2 => QA (d :: ds) G2) : zCons ta tA ρ G QA := h
theorem r_yes (h : T true G) : zYes ρ G T := h
theorem r_tup (h : tA ρ G fun ds G1 => ds.length ≤ sizeLine ∧ Q (.tup ds) G1) : zTup tA ρ G Q := h
theorem r_lst (h : tA ρ G fun ds G1 => ds.length ≤ sizeLine ∧ ∀ p G2, G1 p = none → At G1 p (.lst ds) G2 → Q (.ref p) G2) : zLst tA ρ G Q := h
theorem r_cb {z : ZF} (h : tA ρ G fun ds G1 => z ds G1 Q) : zCB z tA ρ G Q := h
theorem r_call {z : ZSp} {E0 : XKz} (h : tA ρ G fun ds G1 => z ds G1 Q E0) : zCall z E0 tA ρ G Q := h
theorem r_test (h : te ρ G fun d G1 => match d with | .bl b => T b G1 | _ => False) : zTest te ρ G T := h
theorem r_not {c : DT} (h : c ρ G fun b G1 => T (!b) G1) : zNot c ρ G T := h
theorem r_and {c1 c2 : DT} (h : c1 ρ G fun b G1 => if b = true then c2 ρ G1 T else T false G1) : zAnd c1 c2 ρ G T := h
theorem r_or {c1 c2 : DT} (h : c1 ρ G fun b G1 => if b = true then T true G1 else c2 ρ G1 T) : zOrT c1 c2 ρ G T := h
theorem r_andV (h : ta ρ G fun d G1 => match d with | .bl c => if c = true then tb ρ G1 Q else Q (.bl false) G1 | _ => False) : zAndV ta tb ρ G Q := h
theorem r_orV (h : ta ρ G fun d G1 => match d with | .bl c => if c = true then Q (.bl true) G1 else tb ρ G1 Q | _ => False) : zOrV ta tb ρ G Q := h
theorem r_notV (h : ta ρ G fun d G1 => match d with | .bl c => Q (.bl (!c)) G1 | _ => False) : zNotV ta ρ G Q := h
theorem r_neg (h : ta ρ G fun d G1 => match d with | .int i => Q (.int (-i)) G1 | _ => False) : zNeg ta ρ G Q := h
theorem r_bm {T0 : String} {z : ZM} (h : to ρ G fun d G1 => tyZ T0 d G1 ∧ tA ρ G1 fun ds G2 => z d ds G2 Q) : zBM T0 z to tA ρ G Q := h
theorem r_bm0 {T0 : String} {z : ZM} (h : to ρ G fun d G1 => tyZ T0 d G1 ∧ z d [] G1 Q) : zBM0 T0 z to ρ G Q := h
theorem r_sl {z : Z3} {tl th : DO} (h : te ρ G fun d G1 => tl ρ G1 fun l G2 => th ρ G2 fun u G3 => z d l u G3 Q) : zSl z te tl th ρ G Q := h
theorem r_part {QO : Option Int → Gp → Prop} (h : te ρ G fun d G1 => match d with | .int i => QO (some i) G1 | _ => False) : zPart te ρ G QO := h
theorem r_noP {QO : Option Int → Gp → Prop} (h : QO none G) : zNoP ρ G QO := h
theorem r_chain {z z' : Z2} (h : ta ρ G fun x G1 => tb ρ G1 fun y G2 => z x y G2 fun c G3 => match c with | .bl k => if k = true then tc ρ G3 fun w G4 => z' y w G4 Q else Q (.bl false) G3 | _ => False) : zChain z z' ta tb tc ρ G Q := h
theorem r_int2 {f : Int → Int → D} {a b : Int} (h : Q (f a b) G) : dI0 f (.int a) (.int b) G Q := h
theorem r_intC {C : Int → Int → Prop} {f : Int → Int → D} {a b : Int} (hc : C a b) (h : Q (f a b) G) : dI C f (.int a) (.int b) G Q := ⟨hc, h⟩
theorem r_eqI {neg : Bool} {a b : Int} (h : Q (.bl (neg != decide (a = b))) G) : dEqF neg (.int a) (.int b) G Q := h
theorem r_eqS {neg : Bool} {a b : Str} (h : Q (.bl (neg != decide (a = b))) G) : dEqF neg (.str a) (.str b) G Q := h
theorem r_eqB {neg : Bool} {a b : Bool} (h : Q (.bl (neg != decide (a = b))) G) : dEqF neg (.bl a) (.bl b) G Q := h
theorem r_fInt {a : Int} (h : Q (.int a) G) : fInt [.int a] G Q := h
theorem r_fIntB {b : Bool} (h : Q (.int (if b then 1 else 0)) G) : fInt [.bl b] G Q := h
theorem r_fAbs {a : Int} (h : Q (.int (if a < 0 then -a else a)) G) : fAbs [.int a] G Q := h
theorem r_fMin {a b : Int} (h : Q (.int (if b < a then b else a)) G) : fMin2 [.int a, .int b] G Q := h
theorem seq_ref {a : Addr} {ds : List D} (h : G a = some (.lst ds)) : seqD G (.ref a) = some ds := by
  show (match G a with | some (.lst ds) => some ds | _ => none) = _
  rw [h]
theorem r_lenR {a : Addr} {ds : List D} (h : G a = some (.lst ds)) (q : Q (.int (ds.length : Nat)) G) : fLen [.ref a] G Q := by
  show (match seqD G (.ref a) with | some es => Q (.int (es.length : Nat)) G | none => False)
  rw [seq_ref h]
  exact q
theorem r_lenT {ds : List D} (q : Q (.int (ds.length : Nat)) G) : fLen [.tup ds] G Q := q
theorem r_lenS {x : Str} (h : x.length ≤ sizeLine) (q : Q (.int (x.length : Nat)) G) : fLen [.str x] G Q := ⟨h, q⟩
theorem r_isNN {neg : Bool} (h : Q (.bl (!neg)) G) : dIsN neg .non .non G Q := h
theorem r_isNI {neg : Bool} {x : Int} (h : Q (.bl neg) G) : dIsN neg (.int x) .non G Q := h
theorem r_isNT {neg : Bool} {x : List D} (h : Q (.bl neg) G) : dIsN neg (.tup x) .non G Q := h
theorem r_isNR {neg : Bool} {x : Addr} (h : Q (.bl neg) G) : dIsN neg (.ref x) .non G Q := h
theorem r_ixR {a : Addr} {ds : List D} {n : Nat} {x : D} (h : G a = some (.lst ds)) (hx : ds[n]? = some x) (q : Q x G) : dIx (.ref a) (.int (n : Int)) G Q := by
  show (match seqD G (.ref a) with | some ds => (match atI ds n with | some x => Q x G | none => False) | none => False)
  rw [seq_ref h]
  show (match atI ds n with | some x => Q x G | none => False)
  rw [atI_nat hx]
  exact q
theorem r_ixT {ds : List D} {n : Nat} {x : D} (hx : ds[n]? = some x) (q : Q x G) : dIx (.tup ds) (.int (n : Int)) G Q := by
  show (match atI ds n with | some x => Q x G | none => False)
  rw [atI_nat hx]
  exact q
theorem r_ixT0 {d : D} {ds : List D} (q : Q d G) : dIx (.tup (d :: ds)) (.int 0) G Q := r_ixT (n := 0) rfl q
theorem r_ixT1 {d d1 : D} {ds : List D} (q : Q d1 G) : dIx (.tup (d :: d1 :: ds)) (.int 1) G Q := r_ixT (n := 1) rfl q
theorem r_ixT2 {d d1 d2 : D} {ds : List D} (q : Q d2 G) : dIx (.tup (d :: d1 :: d2 :: ds)) (.int 2) G Q := r_ixT (n := 2) rfl q
theorem r_ixT3 {d d1 d2 d3 : D} {ds : List D} (q : Q d3 G) : dIx (.tup (d :: d1 :: d2 :: d3 :: ds)) (.int 3) G Q := r_ixT (n := 3) rfl q
def kFld (C : Addr) (f : Str) (d : D) (G1 : Gp) (Q : DK) : Prop := match d with
  | .ref a => (match G1 a with
    | some (.obj C' _ fs) => C' = C ∧ (match fs.lookup f with
      | some x => Q x G1
      | none => False)
    | _ => False)
  | _ => False
theorem r_fld {C : Addr} {f : Str} (h : to ρ G fun d G1 => kFld C f d G1 Q) : zFld C to f ρ G Q := h
theorem r_kfld {C dx a : Addr} {f : Str} {fs : List (Str × D)} {x : D} (h1 : G a = some (.obj C dx fs)) (h2 : fs.lookup f = some x) (q : Q x G) : kFld C f (.ref a) G Q := by
  show (match G a with | some (.obj C' _ fs) => C' = C ∧ (match fs.lookup f with | some x => Q x G | none => False) | _ => False)
  rw [h1]
  show C = C ∧ (match fs.lookup f with | some x => Q x G | none => False)
  rw [h2]
  exact ⟨rfl, q⟩
def kSFld (C : Addr) (f : Str) (y x : D) (G2 : Gp) (Q : Gp → Prop) : Prop := match x with
  | .ref a => (match G2 a with
    | some (.obj C' dx fs) => C' = C ∧ fs.length < 1000 ∧ ∀ G3, At G2 a (.obj C dx (putA f y fs)) G3 → Q G3
    | _ => False)
  | _ => False
theorem r_sfld {C : Addr} {f : Str} (h : tv ρ G fun y G1 => to ρ G1 fun x G2 => kSFld C f y x G2 (u Z ρ)) : zSeq (zSFld C to tv f) u Z ρ G := h
theorem r_sfld1 {C : Addr} {f : Str} (h : tv ρ G fun y G1 => to ρ G1 fun x G2 => kSFld C f y x G2 (Z.nx ρ)) : zSFld C to tv f Z ρ G := h
theorem r_ksfld {C dx a : Addr} {f : Str} {y : D} {fs : List (Str × D)} {R : Gp → Prop} (h1 : G a = some (.obj C dx fs)) (hl : Nat.ble fs.length 999 = true) (q : ∀ G3, At G a (.obj C dx (putA f y fs)) G3 → R G3) : kSFld C f y (.ref a) G R := by
  show (match G a with | some (.obj C' dx fs) => C' = C ∧ fs.length < 1000 ∧ ∀ G3, At G a (.obj C dx (putA f y fs)) G3 → R G3 | _ => False)
  rw [h1]
  exact ⟨rfl, Nat.lt_succ_of_le (Nat.le_of_ble_eq_true hl), q⟩
/- what a loop walks -/
section
variable {QI : List D → (Gp → Prop) → Gp → Prop}
def kList (d : D) (G1 : Gp) (QI : List D → (Gp → Prop) → Gp → Prop) : Prop := match d with
  | .cl ds => QI ds (fun _ => True) G1
  | .ref a => match G1 a with
    | some (.lst ds) => QI ds (fun G => G a = some (.lst ds)) G1
    | _ => False
  | _ => False
theorem r_list (h : te ρ G fun d G1 => kList d G1 QI) : zList te ρ G QI := h
theorem r_klist {a : Addr} {ds : List D} (h : G a = some (.lst ds)) (q : QI ds (fun G => G a = some (.lst ds)) G) : kList (.ref a) G QI := by
  show (match G a with | some (.lst ds) => QI ds (fun G => G a = some (.lst ds)) G | _ => False)
  rw [h]
  exact q
theorem r_kcl {ds : List D} (q : QI ds (fun _ => True) G) : kList (.cl ds) G QI := q
def kTupI (d : D) (G1 : Gp) (QI : List D → (Gp → Prop) → Gp → Prop) : Prop := match d with
  | .tup ds => QI ds (fun _ => True) G1
  | .ct ds => QI ds (fun _ => True) G1
  | _ => False
theorem r_tupI (h : te ρ G fun d G1 => kTupI d G1 QI) : zTupI te ρ G QI := h
theorem r_ktupI {ds : List D} (h : QI ds (fun _ => True) G) : kTupI (.tup ds) G QI := h
theorem r_kctI {ds : List D} (h : QI ds (fun _ => True) G) : kTupI (.ct ds) G QI := h
def kRng1 (ds : List D) (G1 : Gp) (QI : List D → (Gp → Prop) → Gp → Prop) : Prop := match ds with
  | [.int n] => -(2 ^ 62) ≤ n ∧ n < 2 ^ 62 ∧ QI (rngD 0 n.toNat) (fun _ => True) G1
  | _ => False
theorem r_krng1 {n : Nat} (hn : n ≤ 1000000) (h : QI (rngD 0 n) (fun _ => True) G) : kRng1 [.int (n : Int)] G QI := ⟨by omega, by omega, by rw [Int.toNat_natCast]; exact h⟩
theorem r_rng1 (h : tA ρ G fun ds G1 => kRng1 ds G1 QI) : zRng1 tA ρ G QI := h
theorem r_rng2 (h : tA ρ G fun ds G1 => match ds with | [.int i, .int j] => (-(2 ^ 62) ≤ i ∧ i < 2 ^ 62 ∧ -(2 ^ 62) ≤ j ∧ j < 2 ^ 62) ∧ QI (rngD i (j - i).toNat) (fun _ => True) G1 | _ => False) : zRng2 tA ρ G QI := h
def kEnum (ds : List D) (G1 : Gp) (QI : List D → (Gp → Prop) → Gp → Prop) : Prop := match ds with
  | [.ref a] => (match G1 a with
    | some (.lst ds) => QI (enD ds) (fun G => G a = some (.lst ds)) G1
    | _ => False)
  | [.tup ds] => QI (enD ds) (fun _ => True) G1
  | _ => False
theorem r_enum (h : tA ρ G fun ds G1 => kEnum ds G1 QI) : zEnumA tA ρ G QI := h
theorem r_kenumT {ds : List D} (h : QI (enD ds) (fun _ => True) G) : kEnum [.tup ds] G QI := h
theorem r_kenum {a : Addr} {ds : List D} (h : G a = some (.lst ds)) (q : QI (enD ds) (fun G => G a = some (.lst ds)) G) : kEnum [.ref a] G QI := by
  show (match G a with | some (.lst ds) => QI (enD ds) (fun G => G a = some (.lst ds)) G | _ => False)
  rw [h]
  exact q
end
/- lists, tuples -/
theorem r_append {a : Addr} {es : List D} {x : D} (h : G a = some (.lst es)) (hl : es.length < sizeLine) (q : ∀ G', At G a (.lst (es ++ [x])) G' → Q .non G') : mAppend (.ref a) [x] G Q := by
  show (match G a with | some (.lst es) => es.length < sizeLine ∧ ∀ G', At G a (.lst (es ++ [x])) G' → Q .non G' | _ => False)
  rw [h]
  exact ⟨hl, q⟩
theorem r_tyL {a : Addr} {es : List D} (h : G a = some (.lst es)) : tyZ "list" (.ref a) G := by
  unfold tyZ
  simp only
  rw [h]
  trivial
theorem r_pop {a : Addr} {es : List D} {y : D} (h : G a = some (.lst (es ++ [y]))) (q : ∀ G', At G a (.lst es) G' → Q y G') : mPop (.ref a) [] G Q := by
  show (match G a with | some (.lst es) => (match es[es.length - 1]? with | some y => ∀ G', At G a (.lst es.dropLast) G' → Q y G' | none => False) | _ => False)
  rw [h]
  simp only
  rw [show (es ++ [y])[(es ++ [y]).length - 1]? = some y by simp]
  simp only [List.dropLast_concat]
  exact q
theorem r_cat {a b : Addr} {xs ys : List D} (ha : G a = some (.lst xs)) (hb : G b = some (.lst ys)) (hl : xs.length + ys.length ≤ sizeLine) (q : ∀ p G', G p = none → At G p (.lst (xs ++ ys)) G' → Q (.ref p) G') : dCat (.ref a) (.ref b) G Q := by
  show (match G a, G b with | some (.lst xs), some (.lst ys) => xs.length + ys.length ≤ sizeLine ∧ ∀ p G', G p = none → At G p (.lst (xs ++ ys)) G' → Q (.ref p) G' | _, _ => False)
  rw [ha, hb]
  exact ⟨hl, q⟩
theorem r_fListR {a : Addr} {ds : List D} (h : G a = some (.lst ds)) (q : ∀ p G', G p = none → At G p (.lst ds) G' → Q (.ref p) G') : fList [.ref a] G Q := by
  show (match seqD G (.ref a) with | some es => ∀ p G', G p = none → At G p (.lst es) G' → Q (.ref p) G' | none => False)
  rw [seq_ref h]
  exact q
theorem r_fListT {ds : List D} (q : ∀ p G', G p = none → At G p (.lst ds) G' → Q (.ref p) G') : fList [.tup ds] G Q := q
theorem r_fTupR {a : Addr} {ds : List D} (h : G a = some (.lst ds)) (q : Q (.tup ds) G) : fTupL [.ref a] G Q := by
  show (match G a with | some (.lst es) => Q (.tup es) G | _ => False)
  rw [h]
  exact q
theorem r_fTupT {ds : List D} (q : Q (.tup ds) G) : fTupL [.tup ds] G Q := q
theorem r_sortI {a : Addr} {ns : List Int} (h : G a = some (.lst (ns.map D.int))) (q : ∀ (ns' : List Int) p G', ns'.Perm ns → ns'.Pairwise (· ≤ ·) → G p = none → At G p (.lst (ns'.map D.int)) G' → Q (.ref p) G') : fSortI [.ref a] G Q := by
  show (match G a with | some (.lst es) => ∃ ns : List Int, es = ns.map D.int ∧ ∀ (ns' : List Int) p G', ns'.Perm ns → ns'.Pairwise (· ≤ ·) → G p = none → At G p (.lst (ns'.map D.int)) G' → Q (.ref p) G' | _ => False)
  rw [h]
  exact ⟨ns, rfl, q⟩
def kRev (d : D) (G1 : Gp) (Q : DK) : Prop := match d with
  | .tup ds => Q (.tup ds.reverse) G1
  | .ref a => match G1 a with
    | some (.lst ds) => ∀ p G2, G1 p = none → At G1 p (.lst ds.reverse) G2 → Q (.ref p) G2
    | _ => False
  | _ => False
theorem r_rev (h : te ρ G fun d G1 => kRev d G1 Q) : zRev te ρ G Q := h
theorem r_krevT {ds : List D} (q : Q (.tup ds.reverse) G) : kRev (.tup ds) G Q := q
theorem r_krev {a : Addr} {ds : List D} (h : G a = some (.lst ds)) (q : ∀ p G2, G p = none → At G p (.lst ds.reverse) G2 → Q (.ref p) G2) : kRev (.ref a) G Q := by
  show (match G a with | some (.lst ds) => ∀ p G2, G p = none → At G p (.lst ds.reverse) G2 → Q (.ref p) G2 | _ => False)
  rw [h]
  exact q
def kSetL (v : D) (ρ : ZSt) (o i : D) (G2 : Gp) (R : ZSt → Gp → Prop) : Prop := match o, i with
  | .ref a, .int i => (match G2 a with
    | some (.lst es) => (match ixN es.length i with
      | some j => ∀ G3, At G2 a (.lst (es.set j v)) G3 → R ρ G3
      | none => False)
    | _ => False)
  | _, _ => False
theorem r_setL {v : D} {R : ZSt → Gp → Prop} (h : to ρ G fun o G1 => ty ρ G1 fun i G2 => kSetL v ρ o i G2 R) : zSetL to ty v ρ G R := h
theorem r_ksetL {v : D} {R : ZSt → Gp → Prop} {a : Addr} {es : List D} {n : Nat} (h : G a = some (.lst es)) (hn : n < es.length) (q : ∀ G3, At G a (.lst (es.set n v)) G3 → R ρ G3) : kSetL v ρ (.ref a) (.int (n : Int)) G R := by
  show (match G a with | some (.lst es) => (match ixN es.length n with | some j => ∀ G3, At G a (.lst (es.set j v)) G3 → R ρ G3 | none => False) | _ => False)
  rw [h]
  simp only
  rw [show ixN es.length (n : Int) = some n by unfold ixN; rw [if_pos (by omega)]; simp [hn]]
  exact q
theorem r_eqP {neg : Bool} {d e : D} (h1 : pl 60 d = true) (h2 : pl 60 e = true) (q : ∀ c : Bool, (c = true ↔ d = e) → Q (.bl (neg != c)) G) : dEqP neg d e G Q := .inl ⟨h1, h2, q⟩
theorem r_eqL {neg : Bool} {a b : Addr} {ds es : List D} (h1 : G a = some (.lst ds)) (h2 : G b = some (.lst es)) (h3 : ds.all (pl 60) = true) (h4 : es.all (pl 60) = true) (q : ∀ c : Bool, (c = true ↔ ds = es) → Q (.bl (neg != c)) G) : dEqP neg (.ref a) (.ref b) G Q :=
  .inr ⟨a, b, ds, es, rfl, rfl, h1, h2, h3, h4, q⟩
theorem r_eqLI {neg : Bool} {a b : Addr} {ds es : List Int} (h1 : G a = some (.lst (ds.map D.int))) (h2 : G b = some (.lst (es.map D.int))) (q : ∀ c : Bool, (c = true ↔ ds = es) → Q (.bl (neg != c)) G) : dEqP neg (.ref a) (.ref b) G Q :=
  r_eqL h1 h2 (all_ints _) (all_ints _) fun c hc => q c (hc.trans ints_inj)
theorem r_inL {neg : Bool} {d : D} {a : Addr} {ds : List D} (h : G a = some (.lst ds)) (h1 : pl 60 d = true) (h2 : ds.all (pl 60) = true) (q : ∀ c : Bool, (c = true ↔ d ∈ ds) → Q (.bl (neg != c)) G) : dInP neg d (.ref a) G Q := ⟨ds, .inr ⟨a, rfl, h⟩, h1, h2, q⟩
theorem r_inT {neg : Bool} {d : D} {ds : List D} (h1 : pl 60 d = true) (h2 : ds.all (pl 60) = true) (q : ∀ c : Bool, (c = true ↔ d ∈ ds) → Q (.bl (neg != c)) G) : dInP neg d (.tup ds) G Q := ⟨ds, .inl rfl, h1, h2, q⟩
theorem r_inLI {neg : Bool} {i : Int} {a : Addr} {ds : List Int} (h : G a = some (.lst (ds.map D.int))) (q : ∀ c : Bool, (c = true ↔ i ∈ ds) → Q (.bl (neg != c)) G) : dInP neg (.int i) (.ref a) G Q := r_inL h rfl (all_ints _) fun c hc => q c (hc.trans mem_ints)
theorem r_inTI {neg : Bool} {i : Int} {ds : List Int} (q : ∀ c : Bool, (c = true ↔ i ∈ ds) → Q (.bl (neg != c)) G) : dInP neg (.int i) (.tup (ds.map D.int)) G Q := r_inT rfl (all_ints _) fun c hc => q c (hc.trans mem_ints)
/-- a test by a bool that tells p -/
theorem r_iff {p : Prop} {c : Bool} {A B : Prop} (hc : c = true ↔ p) (h1 : p → A) (h2 : ¬ p → B) : if (false != c) = true then A else B := by
  cases c with
  | true => exact h1 (hc.mp rfl)
  | false => exact h2 fun h => by have := hc.mpr h; cases this
theorem r_niff {p : Prop} {c : Bool} {A B : Prop} (hc : c = true ↔ p) (h1 : p → B) (h2 : ¬ p → A) : if (true != c) = true then A else B := by
  cases c with
  | true => exact h1 (hc.mp rfl)
  | false => exact h2 fun h => by have := hc.mpr h; cases this
/- dicts -/
def kDGet (x y : D) (G2 : Gp) (Q : DK) : Prop := match x with
  | .ref a => match dGet G2 a y with
    | some (some d) => Q d G2
    | _ => False
  | _ => False
theorem r_dget (h : td ρ G fun x G1 => ty ρ G1 fun y G2 => kDGet x y G2 Q) : zDGet td ty ρ G Q := h
theorem r_kdget {a : Addr} {y d : D} (h : dGet G a y = some (some d)) (q : Q d G) : kDGet (.ref a) y G Q := by
  show (match dGet G a y with | some (some d) => Q d G | _ => False)
  rw [h]
  exact q
/- a comprehension whose test and element change nothing: what it makes -/
theorem r_lc0 {zi : DI} {tt : DT} {vs : List Nat} (h : zi ρ G fun items live G1 => ∃ P : Nat → List D → Gp → Prop, P 0 [] G1 ∧
  (∀ i d acc G', items[i]? = some d → P i acc G' → live G' ∧ acc.length < sizeLine ∧ g d (zwipe ρ vs) G' fun ρ2 G2 => tt ρ2 G2 fun b G3 => if b = true then te ρ2 G3 fun e G4 => P (i + 1) (acc ++ [e]) G4 else P (i + 1) acc G3) ∧
  ∀ acc G', P items.length acc G' → live G' ∧ ∀ p G2, G' p = none → At G' p (.lst acc) G2 → Q (.ref p) G2) : zLc zi g tt te vs ρ G Q := h
/-- p: the test; f: the element -/
theorem lc_pure {QQ : Addr → Gp → Prop} {tt : DT} {vs : List Nat} {items : List D} {live : Gp → Prop} (p : D → Bool) (f : D → D) (lv : live G) (hl : items.length < sizeLine)
    (step : ∀ (i : Nat) (d : D) (R : List D → Gp → Prop) acc, items[i]? = some d → (p d = true → R (acc ++ [f d]) G) → (p d = false → R acc G) → g d (zwipe ρ vs) G fun ρ2 G2 => tt ρ2 G2 fun b G3 => if b = true then te ρ2 G3 fun e G4 => R (acc ++ [e]) G4 else R acc G3)
    (q : ∀ a G2, G a = none → At G a (.lst ((items.filter p).map f)) G2 → QQ a G2) :
    ∃ P : Nat → List D → Gp → Prop, P 0 [] G ∧
    (∀ i d acc G', items[i]? = some d → P i acc G' → live G' ∧ acc.length < sizeLine ∧ g d (zwipe ρ vs) G' fun ρ2 G2 => tt ρ2 G2 fun b G3 => if b = true then te ρ2 G3 fun e G4 => P (i + 1) (acc ++ [e]) G4 else P (i + 1) acc G3) ∧
    ∀ acc G', P items.length acc G' → live G' ∧ ∀ p G2, G' p = none → At G' p (.lst acc) G2 → QQ p G2 := by
  refine ⟨fun i acc G1 => G1 = G ∧ acc = ((items.take i).filter p).map f, ⟨rfl, rfl⟩, ?_, ?_⟩
  · rintro i d acc G' hi ⟨eG, rfl⟩
    subst eG
    refine ⟨lv, ?_, ?_⟩
    · rw [List.length_map]
      have h1 := List.length_filter_le p (items.take i)
      rw [List.length_take] at h1
      omega
    · have e : items.take (i + 1) = items.take i ++ [d] := by rw [List.take_add_one, hi]; rfl
      refine step i d (fun acc G2 => G2 = G' ∧ acc = ((items.take (i + 1)).filter p).map f) _ hi (fun hp => ⟨rfl, ?_⟩) fun hp => ⟨rfl, ?_⟩
      · rw [e, List.filter_append, List.map_append]
        simp [hp]
      · rw [e, List.filter_append, List.map_append]
        simp [hp]
  · rintro acc G' ⟨rfl, rfl⟩
    rw [List.take_length]
    exact ⟨lv, q⟩
theorem r_ifT {b : Bool} {A B : Prop} (h : b = true) (q : A) : if b = true then A else B := by
  rw [if_pos h]
  exact q
theorem r_ifF {b : Bool} {A B : Prop} (h : b = false) (q : B) : if b = true then A else B := by
  rw [if_neg (by rw [h]; exact Bool.false_ne_true)]
  exact q
theorem r_inFT {neg b : Bool} {x : D} {ds : List D} (h1 : flD x = true) (h2 : ds.all flD = true) (h3 : (ds.any fun z => eqF z x) = b) (q : Q (.bl (if neg then !b else b)) G) : dInF neg x (.tup ds) G Q := by
  show flD x = true ∧ ds.all flD = true ∧ Q (.bl (if neg then !(ds.any fun d => eqF d x) else ds.any fun d => eqF d x)) G
  rw [h3]
  exact ⟨h1, h2, q⟩
theorem r_dec {p : Prop} [Decidable p] {A B : Prop} (h1 : p → A) (h2 : ¬ p → B) : if decide p = true then A else B := by
  by_cases h : p
  · rw [if_pos (decide_eq_true h)]
    exact h1 h
  · rw [if_neg (by simpa using h)]
    exact h2 h
theorem r_ndec {p : Prop} [Decidable p] {A B : Prop} (h1 : p → A) (h2 : ¬ p → B) : if (false != decide p) = true then A else B := by
  by_cases h : p
  · rw [if_pos (by simpa using h)]
    exact h1 h
  · rw [if_neg (by simpa using h)]
    exact h2 h
theorem r_tdec {p : Prop} [Decidable p] {A B : Prop} (h1 : p → B) (h2 : ¬ p → A) : if (true != decide p) = true then A else B := by
  by_cases h : p
  · rw [if_neg (by simpa using h)]
    exact h1 h
  · rw [if_pos (by simpa using h)]
    exact h2 h
end
end Z

namespace Z
open PySem PySem.Spec PyProof.Rows L2
section
variable [τ : Tbl] [β : Bas] {X : Cx} {a : Expr} {ta : DE} {p p2 pos pos2 : Pos}
/-! ### list(range(n)) -/
def zLRng (ta : DE) : DE := fun ρ G Q => ta ρ G fun d G1 => match d with
  | .int n => RgOk 0 n ∧ ∀ q G2, G1 q = none → At G1 q (.lst (rngD 0 n.toNat)) G2 → Q (.ref q) G2
  | _ => False
theorem reps_rng {K : PySem.W.Frag} {H : Hp} (n : Int) : Reps K H (rgV 0 n) (rngD 0 n.toNat) := by
  have e : rngD 0 n.toNat = ((List.range n.toNat).map fun i => ((0 : Int) + (i : Nat))).map D.int := by
    unfold rngD
    rw [List.map_map]
    rfl
  have e2 : rgV 0 n = ((List.range n.toNat).map fun i => ((0 : Int) + (i : Nat))).map V.int := by
    unfold rgV
    simp
  rw [e, e2]
  exact Reps.ints _
theorem z_lRng (hg1 : Gl X "list") (hm1 : X.mg "list" = none) (hg : Gl X "range") (hm : X.mg "range" = none) (ha : ZE X a ta) (hc : X.calm = true := by rfl) (na : starEach [a] X.env = (false, eval a X.env) :: starEach [] X.env := by rfl)
    (nb : starEach [.Call (.Name "range" p) [a] [] pos] X.env = (false, eval (.Call (.Name "range" p) [a] [] pos) X.env) :: starEach [] X.env := by rfl) :
    ZE X (.Call (.Name "list" p2) [.Call (.Name "range" p) [a] [] pos] [] pos2) (zLRng ta) := PEi (pe_listRg hc hg1 hm1 (prg_1 hg hm ha na) nb) fun σ H Q q => by
  obtain ⟨ρ, G, Q0, hs, hg, h, k⟩ := q
  refine ⟨ρ, G, _, hs, hg, h, fun d G1 x H1 h1 f1 g1 r1 => ?_⟩
  cases r1 with
  | int n => exact ⟨n, rfl, h1.1, fun q hq => CK.new (m := .lst _) (CK.go k f1) hq g1 ⟨_, upd_same, reps_rng n⟩ fun G' nn at_ => h1.2 q G' nn at_⟩
  | _ => exact False.elim h1
theorem r_lrng {ρ : ZSt} {G : Gp} {Q : DK} (h : ta ρ G fun d G1 => match d with | .int n => RgOk 0 n ∧ ∀ q G2, G1 q = none → At G1 q (.lst (rngD 0 n.toNat)) G2 → Q (.ref q) G2 | _ => False) : zLRng ta ρ G Q := h
end
/-! ### xs += ys, text += text -/
def dExt : Z2 := fun x y G Q => match x, y with
  | .ref l, .ref b => (match G l, G b with
    | some (.lst xs), some (.lst ys) => xs.length + ys.length ≤ sizeLine ∧ ∀ G', At G l (.lst (xs ++ ys)) G' → Q (.ref l) G'
    | _, _ => False)
  | _, _ => False
section
variable [τ : Tbl] [β : Bas] {X : Cx}
theorem zi_ext : ZOp X (inplaceOp .Add) dExt := OpRi iop_ext fun x y H Q q => by
  obtain ⟨d, e, G, Q0, g, rx, ry, h, k⟩ := q
  unfold dExt at h
  split at h
  · split at h
    · rename_i xs ys e1 e2
      cases rx
      cases ry
      obtain ⟨us, hu, ru⟩ := g _ _ e1
      obtain ⟨ws, hw, rw'⟩ := g _ _ e2
      have tt := tm_set (o := .lst (us ++ ws)) hu fun z => z
      exact ⟨_, _, us, ws, rfl, rfl, hu, hw, by rw [ru.length, rw'.length]; exact h.1, CK.set (m := .lst (xs ++ ys)) k hu (fun z => z) e1 g ⟨_, upd_same, (ru.append rw').mono tt⟩ (.ref _) fun G' at_ => h.2 G' at_⟩
    · cases h
  · cases h
theorem zi_catS : ZOp X (inplaceOp .Add) dCatS := OpRi iop_add_str fun x y H Q q => by
  obtain ⟨d, e, G, Q0, g, rx, ry, h, k⟩ := q
  unfold dCatS at h
  split at h
  · cases rx
    cases ry
    exact ⟨_, _, rfl, rfl, h.1, CK.at k h.2 g (.str _)⟩
  · cases h
end
theorem r_ext {G : Gp} {Q : DK} {l b : Addr} {xs ys : List D} (h1 : G l = some (.lst xs)) (h2 : G b = some (.lst ys)) (hl : xs.length + ys.length ≤ sizeLine) (q : ∀ G', At G l (.lst (xs ++ ys)) G' → Q (.ref l) G') : dExt (.ref l) (.ref b) G Q := by
  show (match G l, G b with | some (.lst xs), some (.lst ys) => xs.length + ys.length ≤ sizeLine ∧ ∀ G', At G l (.lst (xs ++ ys)) G' → Q (.ref l) G' | _, _ => False)
  rw [h1, h2]
  exact ⟨hl, q⟩
/-! ### dicts with keys of ints and texts -/
def kDIn (neg : Bool) (y x : D) (G2 : Gp) (Q : DK) : Prop := match x with
  | .ref a => match dGet G2 a y with
    | some r => Q (.bl (if neg then !r.isSome else r.isSome)) G2
    | none => False
  | _ => False
theorem r_din {ty td : DE} {neg : Bool} {ρ : ZSt} {G : Gp} {Q : DK} (h : ty ρ G fun y G1 => td ρ G1 fun x G2 => kDIn neg y x G2 Q) : zDIn neg ty td ρ G Q := h
theorem r_kdin {neg : Bool} {y : D} {a : Addr} {G : Gp} {Q : DK} {r : Option D} (h : dGet G a y = some r) (q : Q (.bl (if neg then !r.isSome else r.isSome)) G) : kDIn neg y (.ref a) G Q := by
  show (match dGet G a y with | some r => Q (.bl (if neg then !r.isSome else r.isSome)) G | none => False)
  rw [h]
  exact q
theorem dget_dk {G : Gp} {a : Addr} {kvs : List (Key × D)} {d : D} {k : Key} (h : G a = some (.dk kvs)) (hk : keyD d = some k) : dGet G a d = some (valD kvs k) := by
  unfold dGet
  rw [h]
  simp only
  rw [hk]
  rfl
def kDPut (v x y : D) (G3 : Gp) (R : Gp → Prop) : Prop := match x with
  | .ref a => (match G3 a with
    | some (.dk kvs) => (match keyD y with
      | some k => kvs.length < sizeLine ∧ ∀ G4, At G3 a (.dk (putD kvs k v)) G4 → R G4
      | none => False)
    | some (.dt kvs) => (match y with
      | .tup ds => (match keysD ds with
        | some k => kvs.length < sizeLine ∧ ∀ G4, At G3 a (.dt (putD kvs k v)) G4 → R G4
        | none => False)
      | _ => False)
    | _ => False)
  | _ => False
theorem r_dput {td ty tv : DE} {u : DS} {Z : ZEnds} {ρ : ZSt} {G : Gp} (h : tv ρ G fun v G1 => td ρ G1 fun x G2 => ty ρ G2 fun y G3 => kDPut v x y G3 (u Z ρ)) : zSeq (zDPut td ty tv) u Z ρ G := h
theorem r_dput1 {td ty tv : DE} {Z : ZEnds} {ρ : ZSt} {G : Gp} (h : tv ρ G fun v G1 => td ρ G1 fun x G2 => ty ρ G2 fun y G3 => kDPut v x y G3 (Z.nx ρ)) : zDPut td ty tv Z ρ G := h
theorem r_kdput {v y : D} {a : Addr} {G : Gp} {R : Gp → Prop} {kvs : List (Key × D)} {k : Key} (h : G a = some (.dk kvs)) (hk : keyD y = some k) (hl : kvs.length < sizeLine) (q : ∀ G4, At G a (.dk (putD kvs k v)) G4 → R G4) : kDPut v (.ref a) y G R := by
  show (match G a with
    | some (.dk kvs) => (match keyD y with
      | some k => kvs.length < sizeLine ∧ ∀ G4, At G a (.dk (putD kvs k v)) G4 → R G4
      | none => False)
    | some (.dt kvs) => _
    | _ => False)
  rw [h]
  simp only
  rw [hk]
  exact ⟨hl, q⟩
theorem r_dnewK {ρ : ZSt} {G : Gp} {Q : DK} (h : ∀ p G', G p = none → At G p (.dk []) G' → Q (.ref p) G') : zDNewK ρ G Q := h
def kSetdA (ty tx : DE) (ρ : ZSt) (x : D) (G1 : Gp) (Q : DK) : Prop := match x with
  | .ref a => (∃ kvs, G1 a = some (.dk kvs)) ∧ ty ρ G1 fun y G2 => tx ρ G2 fun z G3 => match G3 a with
    | some (.dk kvs) => match keyD y with
      | some k => kvs.length < sizeLine ∧ match valD kvs k with
        | some v => Q v G3
        | none => ∀ G4, At G3 a (.dk (putD kvs k z)) G4 → Q z G4
      | none => False
    | _ => False
  | _ => False
def kSetdB (a : Addr) (y z : D) (G3 : Gp) (Q : DK) : Prop := match G3 a with
    | some (.dk kvs) => match keyD y with
      | some k => kvs.length < sizeLine ∧ match valD kvs k with
        | some v => Q v G3
        | none => ∀ G4, At G3 a (.dk (putD kvs k z)) G4 → Q z G4
      | none => False
    | _ => False
theorem r_setd {td ty tx : DE} {ρ : ZSt} {G : Gp} {Q : DK} (h : td ρ G fun x G1 => kSetdA ty tx ρ x G1 Q) : zSetd td ty tx ρ G Q := h
theorem r_ksetdA {ty tx : DE} {ρ : ZSt} {a : Addr} {kvs : List (Key × D)} {G : Gp} {Q : DK} (h : G a = some (.dk kvs)) (q : ty ρ G fun y G2 => tx ρ G2 fun z G3 => kSetdB a y z G3 Q) : kSetdA ty tx ρ (.ref a) G Q := ⟨⟨kvs, h⟩, q⟩
theorem r_ksetdB {a : Addr} {y z : D} {k : Key} {kvs : List (Key × D)} {G : Gp} {Q : DK} (h : G a = some (.dk kvs)) (hk : keyD y = some k) (hl : kvs.length < sizeLine) (q1 : ∀ v, valD kvs k = some v → Q v G) (q2 : valD kvs k = none → ∀ G4, At G a (.dk (putD kvs k z)) G4 → Q z G4) : kSetdB a y z G Q := by
  show (match G a with
    | some (.dk kvs) => match keyD y with
      | some k => kvs.length < sizeLine ∧ match valD kvs k with
        | some v => Q v G
        | none => ∀ G4, At G a (.dk (putD kvs k z)) G4 → Q z G4
      | none => False
    | _ => False)
  rw [h]
  simp only
  rw [hk]
  simp only
  refine ⟨hl, ?_⟩
  cases e : valD kvs k with
  | some v => exact q1 v e
  | none => exact q2 e
theorem r_get2 {td ty tx : DE} {ρ : ZSt} {G : Gp} {Q : DK} {a : Addr} {kvs : List (Key × D)} (hd : ∀ R, td ρ G R = R (.ref a) G) (h : G a = some (.dk kvs)) (q : ty ρ G fun y G2 => tx ρ G2 fun z G3 => match dGet G3 a y with
    | some o => Q (o.getD z) G3
    | none => False) : zGet2 td ty tx ρ G Q := by
  show td ρ G _
  rw [hd]
  exact ⟨⟨kvs, h⟩, q⟩
theorem r_lockK {t u : DS} {Z : ZEnds} {ρ : ZSt} {G : Gp} {a : Addr} {kvs : List (Key × D)} (h : G a = some (.dk kvs)) (q : ∀ o xs G1, At G a (.ldk o xs kvs) G1 →
    t ⟨fun ρ' G' => G' a = some (.ldk o xs kvs) ∧ ∀ G2, At G' a (.dk kvs) G2 → u Z ρ' G2, fun d G' => G' a = some (.ldk o xs kvs) ∧ ∀ G2, At G' a (.dk kvs) G2 → Z.rt d G2,
      fun ρ' G' => G' a = some (.ldk o xs kvs) ∧ ∀ G2, At G' a (.dk kvs) G2 → Z.bk ρ' G2, fun ρ' G' => G' a = some (.ldk o xs kvs) ∧ ∀ G2, At G' a (.dk kvs) G2 → Z.ct ρ' G2⟩ ρ G1) : zSeq (zLock t) u Z ρ G := ⟨a, .inl ⟨kvs, h, q⟩⟩
def kKeysI (d : D) (G1 : Gp) (QI : List D → (Gp → Prop) → Gp → Prop) : Prop := match d with
  | .ref a => match G1 a with
    | some (.ldk o xs kvs) => QI (kvs.map fun p => kD p.1) (fun G => G a = some (.ldk o xs kvs)) G1
    | some (.ldt o xs kvs) => QI (kvs.map fun p => .tup (p.1.map kD)) (fun G => G a = some (.ldt o xs kvs)) G1
    | _ => False
  | _ => False
theorem r_keysI {te : DE} {ρ : ZSt} {G : Gp} {QI : List D → (Gp → Prop) → Gp → Prop} (h : te ρ G fun d G1 => kKeysI d G1 QI) : zKeysI te ρ G QI := h
theorem r_kkeysI {a : Addr} {o : Obj} {xs : List (Key × V)} {kvs : List (Key × D)} {G : Gp} {QI : List D → (Gp → Prop) → Gp → Prop} (h : G a = some (.ldk o xs kvs)) (q : QI (kvs.map fun p => kD p.1) (fun G => G a = some (.ldk o xs kvs)) G) : kKeysI (.ref a) G QI := by
  show (match G a with
    | some (.ldk o xs kvs) => QI (kvs.map fun p => kD p.1) (fun G => G a = some (.ldk o xs kvs)) G
    | some (.ldt o xs kvs) => _
    | _ => False)
  rw [h]
  exact q
theorem dget_ldk {G : Gp} {a : Addr} {o : Obj} {xs : List (Key × V)} {kvs : List (Key × D)} {d : D} {k : Key} (h : G a = some (.ldk o xs kvs)) (hk : keyD d = some k) : dGet G a d = some (valD kvs k) := by
  unfold dGet
  rw [h]
  simp only
  rw [hk]
  rfl
theorem un65 {k : Nat} {A : Around} (hr : Room k A) : A.units + 65 < cLine := by
  have := hr.un
  omega
theorem un1 {k : Nat} {A : Around} (hr : Room k A) : A.units + 1 < cLine := by
  have := hr.units
  omega
theorem r_szc {l : List D} {B : Prop} (h : l.length ≤ 1000) (q : B) : l.length ≤ sizeLine ∧ B := ⟨Nat.le_trans h (by decide), q⟩
theorem r_eqlen {l : List D} {n : Nat} {B : Prop} (h : l.length = n) (q : B) : l.length = n ∧ B := ⟨h, q⟩
end Z

/-! generator expressions whose elements are any expressions of the program, drained by any, all, tuple -/
namespace Zx
open PySem PySem.Spec PyProof.Rows L2 Z GenW
open GxR (TabB)
open LamX (Tabs TabS ExtN CodeO)
theorem over_gx {A : Around} {elt tg iter : Expr} {ifs : List Expr} {scope : Scope} {pos : Pos} {it acc : Value} {env : Env} : A.over (.compLoop (.GeneratorExp elt [⟨tg, iter, ifs, 0⟩] scope pos) 0 it acc env) [] = A.deeper env := by
  first
    | rfl
    | (obtain ⟨hd, d, fr, gs, u⟩ := A; simp [Around.over, Around.deeper, marksOver, frameCount, unitsOf, envsOf, guardsOf, pushEnvs, pushGuards, Code.envs, Code.env?, Code.isFrame, Code.guards, Code.isGuard, Code.weight, Code.frames, Code.isCreation, Code.isCaller, Code.cUnits])
theorem over_gs {A : Around} {elt tg iter : Expr} {ifs : List Expr} {scope : Scope} {pos : Pos} {it acc : Value} {env : Env} : A.over (.compStart (.GeneratorExp elt [⟨tg, iter, ifs, 0⟩] scope pos) 0 it acc env) [] = A.deeper env := by
  first
    | rfl
    | (obtain ⟨hd, d, fr, gs, u⟩ := A; simp [Around.over, Around.deeper, marksOver, frameCount, unitsOf, envsOf, guardsOf, pushEnvs, pushGuards, Code.envs, Code.env?, Code.isFrame, Code.guards, Code.isGuard, Code.weight, Code.frames, Code.isCreation, Code.isCaller, Code.cUnits])
/-- the environment of the body of a generator expression made in X -/
abbrev gEnv (X : Cx) (scope : Scope) (C : Addr) (code : Value) : Env := genEnv scope (cloFrom X.env.cells scope.names []) C code builtinsNs X.env
/-- the context of the body, woken under A -/
abbrev gxCx (X : Cx) (A : Around) (s : Shared) (H : Hp) (cenv : Env) (fp : List Addr) (pn : List (Addr × Obj)) : Cx :=
  { X with A := A.deeper cenv, s_0 := s, H_0 := H, env := cenv, outer := X.stack, stack := cenv :: X.stack, ex := fp, fn := fun _ => false, pn := pn, calm := true, xe := fun _ _ => False }
/-- the names of the body -/
structure GxS (N : List Str) (sc scope : Scope) (own : List (Str × Nat)) : Prop where
  blk : BlkOk N sc scope own
  co : scope.isCoroutine = false
  cell : ∀ y ∈ scope.names, y.2 ≠ .cell
  dot : scope.names.lookup (".0" : Str) = some NameKind.local
section
variable {X : Cx} {pins : List (Addr × Obj)} {σ : L2.St} {H : Hp} {s : Shared}
theorem gx_start {A : Around} {scope : Scope} {own : List (Str × Nat)} {fp : List Addr} {code : Value} {s' : Shared} {a : Addr} {go : Obj} (hN : X.N.Nodup)
    (I : Inv X pins σ H s) (L : GxS X.N X.env.scope scope own) (hA : A.frames = some X.stack) (hd : A.handled = none) (hfp : ∀ b ∈ fp, FpOk X pins H b ∧ b < s.heap.objs.size)
    (hns : ∃ m, s'.heap.Ns s.heap.objs.size m) (kp : ∀ b o, s.heap.get? b = some o → s'.heap.get? b = some o) (hos : s'.os = s.os) (hb : AllBare s'.gens) (ha : s'.heap.get? a = some go) (hal : s.heap.objs.size < a) (hgo : ∀ v, go.data ≠ .cell v) :
    Inv (gxCx X A s H (gEnv X scope s.heap.objs.size code) fp [(a, go)]) [] (wipe σ (own.map (·.2))) H s' := by
  have hfree : ∀ y ∈ scope.names, y.2 = .free → ∃ c, X.env.cells.lookup y.1 = some c := fun y hy e => by
    rcases L.blk.free y hy e with k | k
    · exact I.ok.has _ (.inl k)
    · exact I.ok.has _ (.inr k)
  have cm : ∀ {y c}, (cloFrom X.env.cells scope.names []).lookup y = some c → X.env.cells.lookup y = some c := fun {y c} e => by
    rcases cloFrom_mem (PySem.mem_of_lookup e) with hm | ⟨h1, h2⟩
    · cases hm
    · obtain ⟨c1, hc⟩ := hfree _ h1 rfl
      have hc : X.env.cells.lookup y = some c1 := hc
      have e2 : c = c1 := by
        rw [h2, hc] <;> rfl
      rw [e2]
      exact hc
  have look : ∀ {y}, scope.names.lookup y = some .free → ∃ c, (cloFrom X.env.cells scope.names []).lookup y = some c := fun {y} hl => by
    have hy : (y, NameKind.free) ∈ scope.names := PySem.mem_of_lookup hl
    exact mem_lookup (cloFrom_has (cells := X.env.cells) (acc := []) hy)
  have e0 := I.env0
  have cellK : ∀ {c : Addr} {v : Option Value}, s.heap.IsCell c v → s'.heap.IsCell c v := fun {c v} ⟨o, ho, hd⟩ => ⟨o, kp _ _ ho, hd⟩
  have ltc : ∀ {y c}, X.env.cells.lookup y = some c → c < s.heap.objs.size := fun {y c} e => by
    obtain ⟨v, z⟩ := I.cell y c e
    exact z.lt
  refine ⟨⟨I.ok.mod, L.blk.kind, I.ok.glob, rfl, Nat.le_refl _, fun y z c e1 e2 => I.ok.inj y z c (cm e1) (cm e2), fun y hy => ?_, fun y c z _ => ?_, fun _ => hd, Around.frames_deeper hA, .inr ⟨rfl, rfl⟩, fun b hb => ⟨?_, fun y c e z => ?_⟩,
      I.bs, Nat.le_trans I.ok.bsz I.sz, fun b o e hb => ?_, fun b hb z => ?_, I.stack, I.stkFree⟩,
    hos, hb, Un.kept kp, ?_, fun y c e => ?_, I.hok.fresh (Nat.le_refl _), fun y c e => I.freeC y c (cm e), fun p hp => ?_, I.hok.kept kp, by rw [wipe_length]; exact I.len⟩
  · have hy : scope.names.lookup y = some .cell ∨ scope.names.lookup y = some .free := hy
    rcases hy with hy | hy
    · exact absurd rfl (L.cell _ (PySem.mem_of_lookup hy))
    · exact look hy
  · have z : false = true := z
    cases z
  · exact Nat.ne_of_lt (hfp b hb).2
  · exact (hfp b hb).1.2.2.2.2.1 y c (cm e) z
  · rcases (hfp b hb).1.2.2.2.1 with z | z
    · exact I.ok.noex b o e z
    · exact absurd (Nat.lt_of_lt_of_le (Heap.lt_size e) (Nat.le_trans I.ok.bsz z)) (Nat.lt_irrefl _)
  · rcases List.mem_cons.mp (I.stkSub b z) with z | z
    · exact (hfp b hb).1.2.1 z
    · exact (hfp b hb).1.2.2.1 z
  · obtain ⟨m1, hns⟩ := hns
    refine ⟨m1, hns, fun i y v e1 e2 e3 => ?_⟩
    obtain ⟨e2, hne⟩ := wipe_some e2
    have e3 : Vis scope y := e3
    have k : scope.names.lookup y = some .free := by
      have no : ∀ k', scope.names.lookup y = some k' → ¬ (k' = .local ∨ k' = .cell) := fun k' e hh => by
        rcases L.blk.own _ (PySem.mem_of_lookup e) hh with e' | e'
        · obtain ⟨p, hp, hpy⟩ := List.mem_map.mp e'
          have e3 := L.blk.ix p hp
          have : p.1 = y := hpy
          rw [this] at e3
          exact hne (List.mem_map.mpr ⟨p, hp, nodup_ix hN e3 e1⟩)
        · exact e' (List.mem_of_getElem? e1)
      rcases e3 with k | k | k
      · exact absurd (.inl rfl) (no _ k)
      · exact absurd (.inr rfl) (no _ k)
      · exact k
    obtain ⟨m, hn, hl⟩ := I.loc
    have hvis : Vis X.env.scope y := (L.blk.free _ (PySem.mem_of_lookup k) rfl).elim (fun k => .inr (.inl k)) (fun k => .inr (.inr k))
    obtain ⟨w', r, q⟩ := hl i y v e1 e2 hvis
    obtain ⟨c2, h2⟩ := look k
    refine ⟨w', r, .inr ⟨.inr k, c2, h2, ?_⟩⟩
    have c1 := cm h2
    rcases q with ⟨k', _⟩ | ⟨_, c3, e', z⟩
    · have k' : X.env.scope.names.lookup y = some .local := k'
      rcases L.blk.free _ (PySem.mem_of_lookup k) rfl with k2 | k2 <;> rw [show X.env.scope.names.lookup y = _ from k2] at k' <;> cases k'
    · rw [c1] at e'
      cases e'
      exact cellK z
  · obtain ⟨w', z⟩ := I.cell y c (cm e)
    exact ⟨w', cellK z⟩
  · have hp : p ∈ [(a, go)] ++ [] := hp
    simp only [List.append_nil, List.mem_singleton] at hp
    subst hp
    refine ⟨ha, I.hok.fresh (Nat.le_of_lt hal), Nat.ne_of_gt hal, fun z => ?_, hgo⟩
    have z : a ∈ frs X.stack := z
    rcases List.mem_cons.mp (I.stkSub a z) with e | e
    · have h1 := I.lt
      rw [← e] at h1
      exact Nat.lt_irrefl _ (Nat.lt_trans h1 hal)
    · exact I.nofs (Nat.le_of_lt hal) e
end
/-! ### the consumer: it holds a list of its own at S, or nothing -/
def CI (So : Option Addr) (X : Cx) (ip : List (Addr × Obj)) (ys : List V) (σ : L2.St) (H : Hp) (s : Shared) : Prop := match So with
  | none => Inv X ip σ H s
  | some S => GI X S ip ys σ H s
def Sl (So : Option Addr) (v : Value) (s s' : Shared) : Prop := match So with
  | none => s'.os = s.os ∧ AllBare s'.gens ∧ ∀ b o, s.heap.get? b = some o → s'.heap.get? b = some o
  | some S => Slept S v s s'
/-- the consumer's list lies apart -/
def CA (So : Option Addr) (X : Cx) : Prop := match So with
  | none => True
  | some S => Apart X S ∧ ∀ p ∈ X.pn, p.1 ≠ S
theorem CI.open_ {So : Option Addr} {X : Cx} {ip : List (Addr × Obj)} {ys : List V} {σ : L2.St} {H : Hp} {s : Shared} (h : CI So X ip ys σ H s) :
    ∃ pz, Inv X (pz ++ ip) σ H s ∧ (∀ {ip' σ' H' s'}, Inv X (pz ++ ip') σ' H' s' → CI So X ip' ys σ' H' s') ∧ ∀ p ∈ pz, So = some p.1 := by
  cases So with
  | none => exact ⟨[], h, fun h => h, fun p hp => by cases hp⟩
  | some S =>
    obtain ⟨acc, c, r, I⟩ := h
    exact ⟨[(S, lstObj acc c)], I, fun I' => ⟨acc, c, r, I'⟩, fun p hp => by rw [List.mem_singleton.mp hp]⟩
theorem CI.woken {So : Option Addr} {X : Cx} {ip : List (Addr × Obj)} {ys : List V} {x : V} {v : Value} {σ : L2.St} {H : Hp} {s s' : Shared} (hA : CA So X) (hip : ∀ S, So = some S → ∀ p ∈ ip, p.1 ≠ S) (h : CI So X ip ys σ H s) (rv : RelV x v) (z : Sl So v s s') : CI So X ip (ys ++ [x]) σ H s' := by
  cases So with
  | none =>
    obtain ⟨z1, z2, z3⟩ := z
    obtain ⟨hh, g, d, t, o⟩ := s'
    have z1 : o = s.os := z1
    subst z1
    have I : Inv X ip σ H s := h
    exact I.step (g' := g) (t' := t) (d' := d) (ch := []) (fun b hb => absurd hb (by simp)) (fun b ob _ _ _ q _ => z3 b ob q) (fun b ob _ _ _ q _ => ⟨ob.slots, z3 b ob q⟩) (fun _ _ _ _ n => n) (fun b ob _ q => ⟨ob, z3 b ob q⟩)
      (fun _ _ q => q) (fun _ _ _ q => q) (fun b ps q => ⟨#[], by rw [q]; simp⟩) (fun m hm => by
        obtain ⟨ob, es, ep, ho, r⟩ := hm
        exact ⟨ob, es, ep, z3 _ ob ho, r⟩) (fun b u q => (I.hok b u q).stay (fun c v _ y => z3 c v y) (fun _ y => y) fun _ _ y => y) z2
  | some S => exact GI.woken hA.2 (hip S rfl) hA.1 h rv z
def GY2 (So : Option Addr) (X : Cx) (Fc : V → Hp → Prop) (Go : V → Prop) : Protocol := fun n s0 v s kap =>
  ∃ ys y ip σ H, n + 1 + ys.length = sizeLine ∧ RelV y v ∧ CI So X ip ys σ H s ∧ Fc y H ∧ (Go y → ∀ s', Sl So v s s' → kap (.send .none) s')
def GR2 (So : Option Addr) (X : Cx) (Qe : List V → Hp → Prop) : GenEnd := fun n s0 r s => ((r = .ok (.ret .none) ∨ r = .ok .next) ∧ ∃ ys ip σ H, n + ys.length = sizeLine ∧ CI So X ip ys σ H s ∧ Qe ys H) ∨ ∃ e, r = .error e ∧ False
/-- the turns of a generator expression -/
def GxT (J : It) (g : TG) (tt : TT) (te : TE) (vs : List Nat) (σ : L2.St) (Fc : V → Hp → Prop) (Go : V → Prop) (Qe : List V → Hp → Prop) (W : Nat → Nat → List V → Hp → Prop) : Prop :=
  ∀ i m ys H, W i m ys H → (J.stop i H ∧ Qe ys H) ∨ (J.go i H ∧ ∃ Nx : List V → Hp → Prop, (∀ ys' H', Nx ys' H' → ∃ m', m' < m ∧ W (i + 1) m' ys' H') ∧ ∀ x H', J.yld i H x H' → g x (wipe σ vs) H' fun σ2 H2 => wipe σ2 vs = wipe σ vs ∧ tt σ2 H2 fun b H3 =>
    if b = true then te σ2 H3 fun y H4 => ys.length < sizeLine ∧ Fc y H4 ∧ (Go y → Nx (ys ++ [y]) H4) else Nx ys H3)
section
variable {X : Cx} {σ : L2.St} {H : Hp} {s : Shared} {A : Around} {scope : Scope} {own : List (Str × Nat)} {fp : List Addr} {C : Addr} {code : Value} {a : Addr} {go : Obj} {elt tg iter : Expr} {ifs : List Expr} {pos : Pos} {it : Addr} {J : It} {tn : Nat → Heap → Prop}
  {g : TG} {tt : TT} {te : TE} {Fc : V → Hp → Prop} {Go : V → Prop} {Qe : List V → Hp → Prop} {W : Nat → Nat → List V → Hp → Prop} {So : Option Addr}
theorem gx_loop (hco : scope.isCoroutine = false) (T : Turn X.prog X.w X.K tg J fp it tn) (hafp : a ∉ fp) (hSfp : ∀ S, So = some S → S ∉ fp) (hCA : CA So (gxCx X A s H (gEnv X scope C code) fp [(a, go)]))
    (pg : PG (gxCx X A s H (gEnv X scope C code) fp [(a, go)]) tg g) (pt : PTs (gxCx X A s H (gEnv X scope C code) fp [(a, go)]) ifs tt) (pe : PE (gxCx X A s H (gEnv X scope C code) fp [(a, go)]) elt te)
    (turn : GxT J g tt te (own.map (·.2)) σ Fc Go Qe W) : ∀ (m i n : Nat) (ys : List V) (s0 s1 : Shared) (H1 : Hp), n + ys.length = sizeLine → CI So (gxCx X A s H (gEnv X scope C code) fp [(a, go)]) [] ys (wipe σ (own.map (·.2))) H1 s1 → tn i s1.heap → (∀ b ∈ fp, H1 b = none) → W i m ys H1 →
      Seg (model X.prog X.w) A (GR2 So (gxCx X A s H (gEnv X scope C code) fp [(a, go)]) Qe) (GY2 So (gxCx X A s H (gEnv X scope C code) fp [(a, go)]) Fc Go) n s0 (.compLoop (.GeneratorExp elt [⟨tg, iter, ifs, 0⟩] scope pos) 0 (.ref it) .none (gEnv X scope C code))
        ((model X.prog X.w).den (.compLoop (.GeneratorExp elt [⟨tg, iter, ifs, 0⟩] scope pos) 0 (.ref it) .none (gEnv X scope C code))) [] s1 := by
  have stat : ∀ {pz : List (Addr × Obj)} {σ' : L2.St} {H' : Hp} {s' : Shared}, Inv (gxCx X A s H (gEnv X scope C code) fp [(a, go)]) pz σ' H' s' → (∀ p ∈ pz, p.1 ∉ fp) → (∀ b ∈ fp, H' b = none) → ∀ b ∈ fp, FpOk (gxCx X A s H (gEnv X scope C code) fp [(a, go)]) pz H' b := fun {pz σ' H' s'} I' hpz hn b hb =>
    ⟨hn b hb, (I'.ok.exf b hb).1, I'.ok.exfs b hb, .inl hb, fun x c e => (I'.ok.exf b hb).2 x c e, fun p hp z => by
      rcases List.mem_append.mp hp with hp | hp
      · rw [List.mem_singleton.mp hp] at z
        exact hafp (by rw [show a = b from z]; exact hb)
      · exact hpz p hp (by rw [z]; exact hb)⟩
  intro m
  induction m using Nat.strongRecOn with
  | ind m ih =>
    intro i n ys s0 s1 H1 hn hI st1 n1 w1
    show Seg _ A _ _ _ s0 _ ((compTurn (.GeneratorExp elt [⟨tg, iter, ifs, 0⟩] scope pos) 0 (.ref it) .none (gEnv X scope C code)).onRaise (leaving (gEnv X scope C code))) [] s1
    rw [compTurn_gen, Sem.onRaise_eq_wrap]
    refine seg_bind_wrap (wpAny_standAt ?_)
    obtain ⟨pz, I1, back, hSz⟩ := hI.open_
    rw [List.append_nil] at I1
    have pzf : ∀ p ∈ pz, p.1 ∉ fp := fun p hp => hSfp p.1 (hSz p hp)
    rcases turn i m ys H1 w1 with ⟨stop, qq⟩ | ⟨goi, Nx, hNx, step⟩
    · have td := T.done (gxCx X A s H (gEnv X scope C code) fp [(a, go)]) rfl rfl rfl rfl i pz s1 _ H1 (fun _ _ => False) I1 (stat I1 pzf n1) st1 stop
      refine seg_bind_wrap ?_
      rw [over_gx]
      refine thnF td fun r s6 ⟨hr, I6⟩ => ?_
      subst hr
      exact seg_end (.ok .next) (.inl ⟨.inr rfl, ys, [], _, H1, hn, back (by rw [List.append_nil]; exact I6), qq⟩)
    · have ti := T.item (gxCx X A s H (gEnv X scope C code) fp [(a, go)]) rfl rfl rfl rfl i pz s1 _ H1 (fun _ _ => False) I1 (stat I1 pzf n1) st1 goi
      refine seg_bind_wrap ?_
      rw [over_gx]
      refine thnF ti fun r s6 ⟨u, hr, h6⟩ => ?_
      subst hr
      refine seg_bind_wrap ?_
      rw [over_gx]
      refine thnF h6 fun _ s7 ⟨x, H7, I7, r7, y7, st7, n7⟩ => ?_
      have I7' := I7.pinned (stat I7 pzf n7) (T.obj _ _ st7)
      refine seg_bind_wrap ?_
      rw [over_gx]
      refine thnF (pg.run _ s7 _ H7 x u _ I7' r7 (step x H7 y7)) fun _ s8 ⟨σ8, H8, I8, hw8, q8⟩ => ?_
      refine seg_bind_wrap ?_
      rw [over_gx]
      refine thnF (pt.run _ s8 σ8 H8 _ I8 q8) fun b s9 ⟨H9, I9, q9⟩ => ?_
      have fin : ∀ {ys' : List V} {n' : Nat} {s0' s' : Shared} {H' : Hp}, n' + ys'.length = sizeLine → CI So (gxCx X A s H (gEnv X scope C code) fp [(a, go)]) (pinsAt fp s7.heap) ys' σ8 H' s' → Nx ys' H' →
          Seg (model X.prog X.w) A (GR2 So (gxCx X A s H (gEnv X scope C code) fp [(a, go)]) Qe) (GY2 So (gxCx X A s H (gEnv X scope C code) fp [(a, go)]) Fc Go) n' s0' (.compLoop (.GeneratorExp elt [⟨tg, iter, ifs, 0⟩] scope pos) 0 (.ref it) .none (gEnv X scope C code))
            ((model X.prog X.w).den (.compLoop (.GeneratorExp elt [⟨tg, iter, ifs, 0⟩] scope pos) 0 (.ref it) .none (gEnv X scope C code))) [] s' := fun {ys' n' s0' s' H'} hn' hC nx => by
        obtain ⟨m', hm, w'⟩ := hNx ys' H' nx
        obtain ⟨pz2, I2, back2, _⟩ := hC.open_
        have pin' : ∀ b ∈ fp, ∀ o, s7.heap.get? b = some o → s'.heap.get? b = some o ∧ H' b = none := fun b hb o e =>
          let z := I2.pin (b, o) (List.mem_append_right _ (List.mem_append_right _ (mem_pinsAt hb e)))
          ⟨z.1, z.2.1⟩
        have hl : (wipe σ (own.map (·.2))).length = σ8.length := by rw [← hw8, wipe_length]
        refine ih m' hm (i + 1) n' ys' s0' s' H' hn' (back2 (ip' := []) ?_) (T.keep _ _ _ st7 fun b hb o e => (pin' b hb o e).1) (fun b hb => ?_) w'
        · rw [List.append_nil]
          refine (I2.unpinned (pins := pz2)).weak hl (fun j v e => ?_)
          rw [← hw8] at e
          exact (wipe_some e).1
        · obtain ⟨o, e, _⟩ := T.obj _ _ st7 b hb
          exact (pin' b hb o e).2
      cases b with
      | false =>
        simp only [Bool.false_eq_true, if_false] at q9 ⊢
        exact seg_again rfl (fin hn (back I9) q9)
      | true =>
        simp only [if_true] at q9 ⊢
        have hy : ∀ v, yieldOut (gEnv X scope C code) v = yieldValue v := fun v => by simp only [yieldOut]; rw [show (gEnv X scope C code).scope.isCoroutine = false from hco]; rfl
        simp only [hy]
        rw [Sem.bind_eq_wrap', Sem.bind_eq_wrap', Sem.wrap_wrap, Sem.wrap_wrap]
        refine seg_wrap ?_
        rw [over_gx]
        refine thnF (pe.run _ s9 σ8 H9 _ I9 q9) fun z s10 ⟨yv, H10, I10, r10, lt, fc, nx⟩ => ?_
        obtain ⟨n, rfl⟩ : ∃ m, n = m + 1 := ⟨n - 1, by omega⟩
        refine seg_at (seg_yield rfl rfl rfl ⟨ys, yv, pinsAt fp s7.heap, σ8, H10, hn, r10, back I10, fc, fun hgo s'' hal => ?_⟩)
        refine seg_again rfl (fin (by rw [List.length_append, List.length_singleton]; omega) (CI.woken hCA ?_ (back I10) r10 hal) (nx hgo))
        intro S e p hp z
        exact hSfp S e (by rw [← z]; exact (of_pinsAt hp).1)
theorem gx_seg (hco : scope.isCoroutine = false) (T : Turn X.prog X.w X.K tg J fp it tn) (hafp : a ∉ fp) (hSfp : ∀ S, So = some S → S ∉ fp) (hCA : CA So (gxCx X A s H (gEnv X scope C code) fp [(a, go)]))
    (pg : PG (gxCx X A s H (gEnv X scope C code) fp [(a, go)]) tg g) (pt : PTs (gxCx X A s H (gEnv X scope C code) fp [(a, go)]) ifs tt) (pe : PE (gxCx X A s H (gEnv X scope C code) fp [(a, go)]) elt te)
    (turn : GxT J g tt te (own.map (·.2)) σ Fc Go Qe W) {m : Nat} {s0 s1 : Shared} {H1 : Hp} (hI : CI So (gxCx X A s H (gEnv X scope C code) fp [(a, go)]) [] [] (wipe σ (own.map (·.2))) H1 s1) (st : tn 0 s1.heap) (n1 : ∀ b ∈ fp, H1 b = none) (w1 : W 0 m [] H1) :
      Seg (model X.prog X.w) A (GR2 So (gxCx X A s H (gEnv X scope C code) fp [(a, go)]) Qe) (GY2 So (gxCx X A s H (gEnv X scope C code) fp [(a, go)]) Fc Go) sizeLine s0 (.compStart (.GeneratorExp elt [⟨tg, iter, ifs, 0⟩] scope pos) 0 (.ref it) .none (gEnv X scope C code))
        ((model X.prog X.w).den (.compStart (.GeneratorExp elt [⟨tg, iter, ifs, 0⟩] scope pos) 0 (.ref it) .none (gEnv X scope C code))) [] s1 := by
  have loop := gx_loop (iter := iter) (pos := pos) hco T hafp hSfp hCA pg pt pe turn m 0 sizeLine [] s0 s1 H1 (Nat.add_zero _) hI st n1 w1
  show Seg _ A _ _ _ s0 _ ((compStart (.GeneratorExp elt [⟨tg, iter, ifs, 0⟩] scope pos) 0 (.ref it) .none (gEnv X scope C code)).onRaise (leaving (gEnv X scope C code))) [] s1
  unfold compStart
  rw [Sem.onRaise_eq_wrap]
  show Seg _ A _ _ _ s0 _ ((ask >>= _).wrap _ _ _ _) [] s1
  refine seg_bind_wrap (wpAny_askSetting ?_)
  split
  · exact seg_again rfl loop
  · first
      | exact seg_bind_wrap (wpAny_rule (seg_bind_wrap (wpAny_standAt (seg_bind_wrap (T.self _ 0 s1 _ _ st (seg_again rfl loop))))))
      | (refine seg_bind_wrap (wpAny_rule ?_); show Seg _ A _ _ _ s0 _ ((standAt iter.pos >>= _).wrap _ _ _ _) [] s1; exact seg_bind_wrap (wpAny_standAt (seg_bind_wrap (T.self _ 0 s1 _ _ st (seg_again rfl loop)))))
end
/-! ### the making -/
/-- the generator at a is made, and has not begun -/
structure GMd (X : Cx) (pins : List (Addr × Obj)) (σ : L2.St) (tg elt iter : Expr) (ifs : List Expr) (scope : Scope) (pos : Pos) (J : It) (H3 : Hp) (a : Addr) (s5 : Shared) (s4 : Shared) (fp : List Addr) (code : Value) (go : Obj) (tn : Nat → Heap → Prop) (it : Addr) (g : Nat) : Prop where
  inv : Inv X pins σ H3 s4
  turn : Turn X.prog X.w X.K tg J fp it tn
  fps : ∀ b ∈ fp, FpOk X pins H3 b ∧ b < s4.heap.objs.size
  st : tn 0 s4.heap
  lt1 : s4.heap.objs.size < a
  lt2 : a < s5.heap.objs.size
  at_ : s5.heap.get? a = some go
  gen : ∀ h : Heap, h.get? a = some go → h.IsGen a g
  nocell : ∀ v, go.data ≠ .cell v
  gs : s5.gens[g]? = some (.fresh (.compStart (.GeneratorExp elt [⟨tg, iter, ifs, 0⟩] scope pos) 0 (.ref it) .none (gEnv X scope s4.heap.objs.size code)))
  os : s5.os = s4.os
  bare : AllBare s5.gens
  ns : ∃ m, s5.heap.Ns s4.heap.objs.size m
  keep : ∀ b o, s4.heap.get? b = some o → s5.heap.get? b = some o
  nolim : s5.heap.NoLimit
def GMk (X : Cx) (pins : List (Addr × Obj)) (σ : L2.St) (tg elt iter : Expr) (ifs : List Expr) (scope : Scope) (pos : Pos) (J : It) (H3 : Hp) (a : Addr) (s5 : Shared) : Prop :=
  ∃ (s4 : Shared) (fp : List Addr) (code : Value) (go : Obj) (tn : Nat → Heap → Prop) (it : Addr) (g : Nat), GMd X pins σ tg elt iter ifs scope pos J H3 a s5 s4 fp code go tn it g
/-- the body's parts, in the body's context -/
def GBody (X : Cx) (k : Nat) (scope : Scope) (tg elt : Expr) (ifs : List Expr) (g : TG) (tt : TT) (te : TE) : Prop :=
  ∀ (A : Around) (s : Shared) (H : Hp) (C : Addr) (code : Value) (fp : List Addr) (pn : List (Addr × Obj)), Room k (A.deeper (gEnv X scope C code)) →
    PG (gxCx X A s H (gEnv X scope C code) fp pn) tg g ∧ PTs (gxCx X A s H (gEnv X scope C code) fp pn) ifs tt ∧ PE (gxCx X A s H (gEnv X scope C code) fp pn) elt te
section
variable {X : Cx} {pins : List (Addr × Obj)} {σ : L2.St} {H H3 : Hp} {s s5 : Shared} {scope : Scope} {own : List (Str × Nat)} {a : Addr} {elt tg iter : Expr} {ifs : List Expr} {pos gpos : Pos} {J : It} {g : TG} {tt : TT} {te : TE} {wi : TI} {P c : Addr} {T : List (Addr × Str)}
theorem gx_make {Q' : Value → Shared → Prop} {R : It → Hp → Prop} (hmT : (P, X.env.qual ++ "<genexpr>") ∈ T) (hu : ∀ p ∈ T, p.1 = P → p.2 = X.env.qual ++ "<genexpr>") (hroom : X.A.depth < recursionLimit) (TB : TabB X.base X.mg c P) (hcode : X.env.code = .ref c)
    (L : GxS X.N X.env.scope scope own) (hi : PI X tg iter wi) (hs : ∀ v, genFold iter X.env v = pure v) (I : Inv X pins σ H s) (h : wi σ H fun J H1 => Tabs T H1 ∧ ∀ H3, ExtN H1 H3 → Tabs T H3 → R J H3)
    (hQ : ∀ J H3 a s5, R J H3 → GMk X pins σ tg elt iter ifs scope gpos J H3 a s5 → Q' (.ref a) s5) :
    wpAny (model X.prog X.w) X.A (eval (.GeneratorExp elt [⟨tg, iter, ifs, 0⟩] scope gpos) X.env) Q' X.xe s := by
  have hfree : ∀ y ∈ scope.names, y.2 = .free → ∃ c, X.env.cells.lookup y.1 = some c := fun y hy e => by
    rcases L.blk.free y hy e with k | k
    · exact I.ok.has _ (.inl k)
    · exact I.ok.has _ (.inr k)
  refine wpAny_GeneratorExp_make L.co (closure_ok hfree) L.cell L.dot L.blk.kind hroom (thn (hi.run pins s σ H _ I h) fun xv s1 hx => thn hx fun itv s2 h2 => ?_) hs
  obtain ⟨it, fp, tn, J, H1, e, I2, Tu, st2, f2, hT, hR⟩ := h2
  subst e
  obtain ⟨ps, hP, ht, hall⟩ := hT _ hmT
  have tabS : s2.heap.get? P = some { cls := .none, data := .fields ps } := I2.hok P _ hP
  have low : cStatics < s2.heap.objs.size := by
    obtain ⟨m, hn, _⟩ := I2.nolimit
    exact hn.lt
  have hd2 : PySem.W.CodeHd s2.heap c P := TB.code.keeps fun b u e => I2.bk b u e
  have sz : ∀ b ∈ fp, b < s2.heap.objs.size := fun b hb => by
    obtain ⟨o, e, _⟩ := Tu.obj _ _ st2 b hb
    exact Heap.lt_size e
  refine ⟨I2.nolimit, ?_⟩
  -- the rest, once the code is known
  have rest : ∀ (code : Value) (H3 : Hp) (s4 : Shared), Inv X pins σ H3 s4 → R J H3 → (∀ b ∈ fp, H3 b = none) → (∀ b ∈ fp, ∀ o, s2.heap.get? b = some o → s4.heap.get? b = some o) → s2.heap.objs.size ≤ s4.heap.objs.size →
      wpAny (model X.prog X.w) X.A (builtinsFor X.env.globals X.env.builtins) (fun bi s₄ =>
        ∀ h', h'.Ns s₄.heap.objs.size (fun y => if y = ".0" then some (Value.ref it) else none) → Heap.SameBut s₄.heap.objs.size (s₄.heap.push { cls := .type "frame", data := .dict #[] }) h' →
          Q' (.ref h'.objs.size) { s₄ with
            gens := s₄.gens.push (.fresh (.compStart (.GeneratorExp elt [⟨tg, iter, ifs, 0⟩] scope gpos) 0 (.ref it) .none (genEnv scope (cloFrom X.env.cells scope.names []) s₄.heap.objs.size code bi X.env))),
            toks := s₄.toks + 1 + 1 + 1,
            heap := h'.push { cls := .type "generator", data := .fields #[.int s₄.gens.size 0, .str "<genexpr>" (s₄.toks + 1), .str (X.env.qual ++ "<genexpr>") (s₄.toks + 1 + 1)] } }) X.xe s4 := fun code H3 s4 I4 hR3 n3 k3 zz => by
    have main4 : s4.heap.Ns mainGlobals X.mg := I4.mod.glob.keeps I4.bk
    obtain ⟨bm, ob, b1, b2, _, b4, b5, b6, b7, b8⟩ := TB.bm
    refine wpAny_builtinsFor (m := X.mg) (by rw [I4.ok.glob]; exact main4) b1 b2 (I4.bk _ _ b5) b6 b7 b8 ?_
    intro h' hn' hs'
    have hsz : h'.objs.size = s4.heap.objs.size + 1 := by rw [hs'.1, Heap.size_push]
    have keep' : ∀ b o, s4.heap.get? b = some o → h'.get? b = some o := fun b o e => hs'.extBut b o (Nat.ne_of_lt (Heap.lt_size e)) (Heap.get?_push_of_some _ e)
    have keep5 : ∀ b o, s4.heap.get? b = some o → (h'.push { cls := .type "generator", data := .fields #[.int s4.gens.size 0, .str "<genexpr>" (s4.toks + 1), .str (X.env.qual ++ "<genexpr>") (s4.toks + 1 + 1)] }).get? b = some o :=
      fun b o e => Heap.get?_push_of_some _ (keep' b o e)
    refine hQ J H3 _ _ hR3 ⟨s4, fp, code, _, tn, it, s4.gens.size, I4, Tu, fun b hb => ⟨⟨n3 b hb, (f2 b hb).2⟩, Nat.lt_of_lt_of_le (sz b hb) zz⟩, Tu.keep _ _ _ st2 k3, by omega, by rw [Heap.size_push]; exact Nat.lt_succ_self _, Heap.get?_push_size _ rfl, fun h e => ⟨_, _, _, e, rfl, rfl, rfl⟩,
      (fun v z => by cases z), Array.getElem?_push_size .., rfl, AllBare.push I4.bare rfl, ⟨_, hn'.push _⟩, keep5, I4.nolimit.keeps keep5⟩
  cases hf : codeAmong gpos ps.toList with
  | none =>
    refine wpAny_genexprCodeX hcode (hd2.code tabS ht) (hd2.tab tabS) hf fun c' h' tk xb ge lt ic cr tb _ => ?_
    obtain ⟨c2, oc, vs, t2, e2, hoc, hdc, hvc⟩ := cr
    cases e2
    have nC : H1 c' = none := I2.hok.fresh ge
    have nPc : P ≠ c' := ne_of_none hP nC
    have J2 := LamX.inv_table (t' := tk) (c := c') (q := X.env.qual ++ "<genexpr>") (more := #[rawInt gpos.line, rawInt gpos.col, .ref c']) (h' := h') I2 hP (fun b u nb e => xb b u nb e) tb.2 ge ⟨oc, vs, t2, hoc, hdc, hvc⟩
    have hE : ExtN H1 (upd (upd H1 P (.tbl (ps ++ #[rawInt gpos.line, rawInt gpos.col, .ref c']))) c' (LamX.CodeO c' (X.env.qual ++ "<genexpr>"))) := fun b u e n => by
      have nb : b ≠ P := fun z => n ps (Option.some.inj (e.symm.trans (by rw [z]; exact hP)))
      rw [upd_ne (ne_of_none e nC), upd_ne nb]
      exact e
    have eL : (ps ++ #[rawInt gpos.line, rawInt gpos.col, .ref c']).toList = ps.toList ++ [rawInt gpos.line, rawInt gpos.col, .ref c'] := by simp
    have hT3 : Tabs T (upd (upd H1 P (.tbl (ps ++ #[rawInt gpos.line, rawInt gpos.col, .ref c']))) c' (LamX.CodeO c' (X.env.qual ++ "<genexpr>"))) := fun p hp => by
      by_cases hb : p.1 = P
      · refine ⟨_, by rw [hb, upd_ne nPc, upd_same], by rw [eL]; exact TriplesOk_snoc _ _ _ _ ht, fun p9 cv hcv => ?_⟩
        rw [eL] at hcv
        rcases LamX.among_app _ ht hcv with z | z
        · obtain ⟨c0, x1, x2⟩ := hall p9 cv z
          exact ⟨c0, x1, by rw [hu p hp hb]; exact hE _ _ x2 LamX.codeO_ne⟩
        · exact ⟨c', z, by rw [hu p hp hb]; exact upd_same⟩
      · obtain ⟨qs, a1, a2, a3⟩ := hT p hp
        refine ⟨qs, by rw [upd_ne (ne_of_none a1 nC), upd_ne hb]; exact a1, a2, fun p9 cv hcv => ?_⟩
        obtain ⟨c0, x1, x2⟩ := a3 p9 cv hcv
        exact ⟨c0, x1, hE _ _ x2 LamX.codeO_ne⟩
    have nP : ∀ b ∈ fp, b ≠ P := fun b hb z => by
      have := (f2 b hb).1
      rw [z, hP] at this
      cases this
    refine rest (.ref c') _ { s2 with heap := h', toks := tk } J2 (hR _ hE hT3) (fun b hb => ?_) (fun b hb o e => xb b o (nP b hb) e) (Nat.le_of_lt (Nat.lt_of_le_of_lt ge lt))
    rw [upd_ne (Nat.ne_of_lt (Nat.lt_of_lt_of_le (sz b hb) ge)), upd_ne (nP b hb)]
    exact (f2 b hb).1
  | some cv =>
    refine wpAny_genexprCode_hit hcode (hd2.code tabS ht) hf ?_
    exact rest cv H1 s2 I2 (hR H1 (ExtN.refl H1) hT) (fun b hb => (f2 b hb).1) (fun b hb o e => e) (Nat.le_refl _)
/-- it is woken under A, the consumer's list at S -/
theorem GMd.seg {s4 : Shared} {fp : List Addr} {code : Value} {go : Obj} {tn : Nat → Heap → Prop} {it : Addr} {gi : Nat} {A : Around} {So : Option Addr} {s2 : Shared} {Fc : V → Hp → Prop} {Go : V → Prop} {Qe : List V → Hp → Prop} {W : Nat → Nat → List V → Hp → Prop} {m : Nat} {k : Nat} (hN : X.N.Nodup) (L : GxS X.N X.env.scope scope own)
    (hb : GBody X k scope tg elt ifs g tt te) (M : GMd X pins σ tg elt iter ifs scope gpos J H3 a s5 s4 fp code go tn it gi) (turn : GxT J g tt te (own.map (·.2)) σ Fc Go Qe W) (w0 : W 0 m [] H3)
    (hA : A.frames = some X.stack) (hd : A.handled = none) (hr : ∀ env, Room k (A.deeper env)) (hk : ∀ b o, s5.heap.get? b = some o → s2.heap.get? b = some o) (os2 : s2.os = s5.os) (b2 : AllBare s2.gens)
    (hS : ∀ S, So = some S → s5.heap.objs.size ≤ S ∧ ∃ c, s2.heap.get? S = some (lstObj #[] c)) {s0 : Shared} :
    Seg (model X.prog X.w) A (GR2 So (gxCx X A s4 H3 (gEnv X scope s4.heap.objs.size code) fp [(a, go)]) Qe) (GY2 So (gxCx X A s4 H3 (gEnv X scope s4.heap.objs.size code) fp [(a, go)]) Fc Go) sizeLine s0
      (.compStart (.GeneratorExp elt [⟨tg, iter, ifs, 0⟩] scope gpos) 0 (.ref it) .none (gEnv X scope s4.heap.objs.size code)) ((model X.prog X.w).den (.compStart (.GeneratorExp elt [⟨tg, iter, ifs, 0⟩] scope gpos) 0 (.ref it) .none (gEnv X scope s4.heap.objs.size code))) [] s2 := by
  obtain ⟨pg, pt, pe⟩ := hb A s4 H3 s4.heap.objs.size code fp [(a, go)] (hr _)
  have kp : ∀ b o, s4.heap.get? b = some o → s2.heap.get? b = some o := fun b o e => hk b o (M.keep b o e)
  have ns2 : ∃ m, s2.heap.Ns s4.heap.objs.size m := by
    obtain ⟨m, hm⟩ := M.ns
    exact ⟨m, hm.keeps hk⟩
  have I0 := gx_start (A := A) (code := code) (a := a) (go := go) hN M.inv L hA hd M.fps ns2 kp (os2.trans M.os) b2 (hk _ _ M.at_) M.lt1 M.nocell
  have afp : a ∉ fp := fun z => Nat.lt_irrefl _ (Nat.lt_trans M.lt1 (M.fps a z).2)
  have old : ∀ {S}, So = some S → s4.heap.objs.size < S := fun {S} e => Nat.lt_of_lt_of_le (Nat.lt_trans M.lt1 M.lt2) (hS S e).1
  have Sfp : ∀ S, So = some S → S ∉ fp := fun S e z => Nat.lt_irrefl _ (Nat.lt_trans (old e) (M.fps S z).2)
  have cells : ∀ {y c}, (cloFrom X.env.cells scope.names []).lookup y = some c → c < s4.heap.objs.size := fun {y c} e => by
    obtain ⟨v, z⟩ := I0.cell y c e
    rcases cloFrom_mem (PySem.mem_of_lookup e) with hm | ⟨h1, h2⟩
    · cases hm
    · have : ∃ c1, X.env.cells.lookup y = some c1 := by
        rcases L.blk.free _ h1 rfl with k | k
        · exact M.inv.ok.has _ (.inl k)
        · exact M.inv.ok.has _ (.inr k)
      obtain ⟨c1, hc⟩ := this
      obtain ⟨v1, z1⟩ := M.inv.cell y c1 hc
      have e2 : c = c1 := by
        rw [h2, hc] <;> rfl
      rw [e2]
      exact z1.lt
  refine gx_seg L.co M.turn afp Sfp ?_ pg pt pe turn ?_ (M.turn.keep _ _ _ M.st fun b _ o e => kp b o e) (fun b hb => (M.fps b hb).1.1) w0
  · cases So with
    | none => exact True.intro
    | some S => exact ⟨⟨Nat.le_of_lt (old rfl), Nat.ne_of_gt (old rfl), fun x c e => Nat.ne_of_lt (Nat.lt_trans (cells e) (old rfl))⟩, fun p hp => by
        rw [List.mem_singleton.mp hp]
        exact Nat.ne_of_lt (Nat.lt_of_lt_of_le M.lt2 (hS S rfl).1)⟩
  · cases So with
    | none => exact I0
    | some S =>
      obtain ⟨h1, cS, h2⟩ := hS S rfl
      refine ⟨#[], cS, .nil, I0.pins_of fun p hp => ?_⟩
      rw [List.mem_singleton.mp hp]
      refine ⟨h2, M.inv.hok.fresh (Nat.le_of_lt (old rfl)), Nat.ne_of_gt (old rfl), fun z => ?_, fun v q => by cases q⟩
      have z : S ∈ frs X.stack := z
      rcases List.mem_cons.mp (M.inv.stkSub S z) with e | e
      · have h1 := M.inv.lt
        rw [← e] at h1
        exact Nat.lt_irrefl _ (Nat.lt_trans h1 (old rfl))
      · exact M.inv.nofs (Nat.le_of_lt (old rfl)) e
/-- back in the def's context -/
theorem GMd.out {s4 : Shared} {fp : List Addr} {code : Value} {go : Obj} {tn : Nat → Heap → Prop} {it : Addr} {gi : Nat} {A : Around} {ip : List (Addr × Obj)} {σ' : L2.St} {H' : Hp} {s' s'' : Shared} (M : GMd X pins σ tg elt iter ifs scope gpos J H3 a s5 s4 fp code go tn it gi)
    (I : Inv (gxCx X A s4 H3 (gEnv X scope s4.heap.objs.size code) fp [(a, go)]) ip σ' H' s') (ho : s''.os = s'.os) (hb : AllBare s''.gens) (hk : ∀ b o, s'.heap.get? b = some o → s''.heap.get? b = some o) : Inv X pins σ H' s'' :=
  M.inv.call' (ch := fp) (ho.trans I.os) (I.base.trans (Un.kept hk)) (I.hok.kept hk) hb fun b hb => ⟨(M.fps b hb).1.2.2.2.1, (M.fps b hb).1.2.1, (M.fps b hb).1.2.2.2.2.1, (M.fps b hb).1.2.2.2.2.2⟩
theorem GMd.isGen {s4 : Shared} {fp : List Addr} {code : Value} {go : Obj} {tn : Nat → Heap → Prop} {it : Addr} {gi : Nat} {A : Around} {ip : List (Addr × Obj)} {σ' : L2.St} {H' : Hp} {s' : Shared} (M : GMd X pins σ tg elt iter ifs scope gpos J H3 a s5 s4 fp code go tn it gi)
    (I : Inv (gxCx X A s4 H3 (gEnv X scope s4.heap.objs.size code) fp [(a, go)]) ip σ' H' s') : s'.heap.IsGen a gi := M.gen _ (I.pin (a, go) (List.mem_append_left _ (List.mem_singleton.mpr rfl))).1
end
/-! ### any, all -/
theorem any_run {GX : Cx} {A : Around} {a : Addr} {gi : Nat} {Fc : V → Hp → Prop} {Go : V → Prop} {Qe : List V → Hp → Prop} {R : Result → Shared → Prop} (hh : A.handled = none) (hd : A.depth < recursionLimit)
    (gen : ∀ {ip σ H s}, Inv GX ip σ H s → s.heap.IsGen a gi) (hFc : ∀ y H, Fc y H → ∃ b, y = .bl b ∧ (b = false → Go y))
    (hstop : ∀ ip σ H s s', Inv GX ip σ H s → Fc (.bl true) H → s'.os = s.os → AllBare s'.gens → (∀ b o, s.heap.get? b = some o → s'.heap.get? b = some o) → R (.ok (.ret (.bool true))) s')
    (hend : ∀ ys ip σ H s s', Inv GX ip σ H s → Qe ys H → s'.os = s.os → AllBare s'.gens → (∀ b o, s.heap.get? b = some o → s'.heap.get? b = some o) → R (.ok (.ret (.bool false))) s') :
    ∀ (n : Nat) (s : Shared), s.heap.IsGen a gi → s.heap.NoLimit → (∃ gs, s.gens[gi]? = some gs ∧ gs.Goes (model GX.prog GX.w) A.in1.in1 (GR2 none GX Qe) (GY2 none GX Fc Go) n (.send .none) (s.setGen gi .running)) →
      codeAny (model GX.prog GX.w) A (.builtin "any.loop" ⟨[.ref a], []⟩) R s := by
  have goes : ∀ {gs : GenState} {B : Around} {n : Nat} {r : Resume} {s : Shared}, gs.Goes (model GX.prog GX.w) B (GR2 none GX Qe) (GY2 none GX Fc Go) n r s →
      gs.Goes (model GX.prog GX.w) B (fun n s₀ r s1 => ((r = .ok (.ret .none) ∨ r = .ok .next) ∧ (∃ ys ip σ H, n + ys.length = sizeLine ∧ CI none GX ip ys σ H s1 ∧ Qe ys H)) ∨ ∃ e, r = .error e ∧ False) (GY2 none GX Fc Go) n r s := fun h => h
  intro n
  induction n with
  | zero =>
    intro s hg hl ⟨gs, hgs, hgo⟩
    refine codeAny_builtin F.entry_any_loop ?_
    rw [Around.under_plainId F.plain_any_loop _]
    show wpAny _ A.in1 (pyNext (.ref a) >>= _) _ _ s
    refine wpAny_bind (next_genG (A := A.in1) hh hl hd hg hgs (goes hgo) (fun v s₁ gs' hbare hv => ?_) (fun s₁ hp h' hk => ?_) fun e s₁ he => he.elim)
    · obtain ⟨ys, y, ip, σ, H, _, rv, hI, fc, kap⟩ := hv
      obtain ⟨b, rfl, hgo2⟩ := hFc y H fc
      have ev : v = .bool b := rv
      subst ev
      have hI : Inv GX ip σ H s₁ := hI
      refine wpAny_bind (wpAny_holding (wpAny_truthy_bool ?_))
      refine wpAny_bind (wpAny_letGo ?_)
      cases b with
      | false => exact (kap (hgo2 rfl) s₁ ⟨rfl, hI.bare, fun _ _ e => e⟩).elim
      | true =>
        simp only [Bool.false_eq_true, if_true, if_false]
        refine wpAny_bind (wpAny_rule (wpAny_pure ?_))
        exact hstop ip σ H s₁ _ hI fc rfl (allBare_setGen hI.bare hbare) fun _ _ e => e
    · obtain ⟨ys, ip, σ, H, _, hI, q⟩ := hp
      have hI : Inv GX ip σ H s₁ := hI
      refine wpAny_bind (wpAny_rule (wpAny_pure ?_))
      exact hend ys ip σ H s₁ _ hI q rfl (allBare_setGen hI.bare rfl) hk
  | succ n ih =>
    intro s hg hl ⟨gs, hgs, hgo⟩
    have hgl : gi < s.gens.size := (Array.getElem?_eq_some_iff.mp hgs).1
    refine codeAny_builtin F.entry_any_loop ?_
    rw [Around.under_plainId F.plain_any_loop _]
    show wpAny _ A.in1 (pyNext (.ref a) >>= _) _ _ s
    refine wpAny_bind (wpAny_gsz (n := gi + 1) hgl (next_genG (A := A.in1) hh hl hd hg hgs (goes hgo) (fun v s₁ gs' hbare hv => ?_) (fun s₁ hp h' hk => ?_) fun e s₁ he => he.elim))
    · intro hsz
      obtain ⟨ys, y, ip, σ, H, _, rv, hI, fc, kap⟩ := hv
      obtain ⟨b, rfl, hgo2⟩ := hFc y H fc
      have ev : v = .bool b := rv
      subst ev
      have hI : Inv GX ip σ H s₁ := hI
      have hsz1 : gi < s₁.gens.size := by
        have q : (s₁.setGen gi gs').gens.size = s₁.gens.size := setGen_size _ _ _
        have hsz' : gi + 1 ≤ (s₁.setGen gi gs').gens.size := hsz
        omega
      refine wpAny_bind (wpAny_holding (wpAny_truthy_bool ?_))
      refine wpAny_bind (wpAny_letGo ?_)
      cases b with
      | false =>
        simp only [Bool.false_eq_true, if_true, if_false]
        refine wpAny_pure ⟨plainId_quiet F.plain_any_loop _, ih (s₁.setGen gi gs') (by have z := gen hI; exact z) hI.nolimit ⟨gs', setGen_at hsz1, ?_⟩⟩
        exact kap (hgo2 rfl) _ ⟨rfl, allBare_setGen (s := s₁.setGen gi gs') (allBare_setGen hI.bare hbare) rfl, fun _ _ e => e⟩
      | true =>
        simp only [Bool.false_eq_true, if_true, if_false]
        refine wpAny_bind (wpAny_rule (wpAny_pure ?_))
        exact hstop ip σ H s₁ _ hI fc rfl (allBare_setGen hI.bare hbare) fun _ _ e => e
    · intro hsz
      obtain ⟨ys, ip, σ, H, _, hI, q⟩ := hp
      have hI : Inv GX ip σ H s₁ := hI
      refine wpAny_bind (wpAny_rule (wpAny_pure ?_))
      exact hend ys ip σ H s₁ _ hI q rfl (allBare_setGen hI.bare rfl) hk
theorem all_run {GX : Cx} {A : Around} {a : Addr} {gi : Nat} {Fc : V → Hp → Prop} {Go : V → Prop} {Qe : List V → Hp → Prop} {R : Result → Shared → Prop} (hh : A.handled = none) (hd : A.depth < recursionLimit)
    (gen : ∀ {ip σ H s}, Inv GX ip σ H s → s.heap.IsGen a gi) (hFc : ∀ y H, Fc y H → ∃ b, y = .bl b ∧ (b = true → Go y))
    (hstop : ∀ ip σ H s s', Inv GX ip σ H s → Fc (.bl false) H → s'.os = s.os → AllBare s'.gens → (∀ b o, s.heap.get? b = some o → s'.heap.get? b = some o) → R (.ok (.ret (.bool false))) s')
    (hend : ∀ ys ip σ H s s', Inv GX ip σ H s → Qe ys H → s'.os = s.os → AllBare s'.gens → (∀ b o, s.heap.get? b = some o → s'.heap.get? b = some o) → R (.ok (.ret (.bool true))) s') :
    ∀ (n : Nat) (s : Shared), s.heap.IsGen a gi → s.heap.NoLimit → (∃ gs, s.gens[gi]? = some gs ∧ gs.Goes (model GX.prog GX.w) A.in1.in1 (GR2 none GX Qe) (GY2 none GX Fc Go) n (.send .none) (s.setGen gi .running)) →
      codeAny (model GX.prog GX.w) A (.builtin "all.loop" ⟨[.ref a], []⟩) R s := by
  have goes : ∀ {gs : GenState} {B : Around} {n : Nat} {r : Resume} {s : Shared}, gs.Goes (model GX.prog GX.w) B (GR2 none GX Qe) (GY2 none GX Fc Go) n r s →
      gs.Goes (model GX.prog GX.w) B (fun n s₀ r s1 => ((r = .ok (.ret .none) ∨ r = .ok .next) ∧ (∃ ys ip σ H, n + ys.length = sizeLine ∧ CI none GX ip ys σ H s1 ∧ Qe ys H)) ∨ ∃ e, r = .error e ∧ False) (GY2 none GX Fc Go) n r s := fun h => h
  intro n
  induction n with
  | zero =>
    intro s hg hl ⟨gs, hgs, hgo⟩
    refine codeAny_builtin F.entry_all_loop ?_
    rw [Around.under_plainId F.plain_all_loop _]
    show wpAny _ A.in1 (pyNext (.ref a) >>= _) _ _ s
    refine wpAny_bind (next_genG (A := A.in1) hh hl hd hg hgs (goes hgo) (fun v s₁ gs' hbare hv => ?_) (fun s₁ hp h' hk => ?_) fun e s₁ he => he.elim)
    · obtain ⟨ys, y, ip, σ, H, _, rv, hI, fc, kap⟩ := hv
      obtain ⟨b, rfl, hgo2⟩ := hFc y H fc
      have ev : v = .bool b := rv
      subst ev
      have hI : Inv GX ip σ H s₁ := hI
      refine wpAny_bind (wpAny_holding (wpAny_truthy_bool ?_))
      refine wpAny_bind (wpAny_letGo ?_)
      cases b with
      | true => exact (kap (hgo2 rfl) s₁ ⟨rfl, hI.bare, fun _ _ e => e⟩).elim
      | false =>
        simp only [Bool.false_eq_true, if_true, if_false]
        refine wpAny_bind (wpAny_rule (wpAny_pure ?_))
        exact hstop ip σ H s₁ _ hI fc rfl (allBare_setGen hI.bare hbare) fun _ _ e => e
    · obtain ⟨ys, ip, σ, H, _, hI, q⟩ := hp
      have hI : Inv GX ip σ H s₁ := hI
      refine wpAny_bind (wpAny_rule (wpAny_pure ?_))
      exact hend ys ip σ H s₁ _ hI q rfl (allBare_setGen hI.bare rfl) hk
  | succ n ih =>
    intro s hg hl ⟨gs, hgs, hgo⟩
    have hgl : gi < s.gens.size := (Array.getElem?_eq_some_iff.mp hgs).1
    refine codeAny_builtin F.entry_all_loop ?_
    rw [Around.under_plainId F.plain_all_loop _]
    show wpAny _ A.in1 (pyNext (.ref a) >>= _) _ _ s
    refine wpAny_bind (wpAny_gsz (n := gi + 1) hgl (next_genG (A := A.in1) hh hl hd hg hgs (goes hgo) (fun v s₁ gs' hbare hv => ?_) (fun s₁ hp h' hk => ?_) fun e s₁ he => he.elim))
    · intro hsz
      obtain ⟨ys, y, ip, σ, H, _, rv, hI, fc, kap⟩ := hv
      obtain ⟨b, rfl, hgo2⟩ := hFc y H fc
      have ev : v = .bool b := rv
      subst ev
      have hI : Inv GX ip σ H s₁ := hI
      have hsz1 : gi < s₁.gens.size := by
        have q : (s₁.setGen gi gs').gens.size = s₁.gens.size := setGen_size _ _ _
        have hsz' : gi + 1 ≤ (s₁.setGen gi gs').gens.size := hsz
        omega
      refine wpAny_bind (wpAny_holding (wpAny_truthy_bool ?_))
      refine wpAny_bind (wpAny_letGo ?_)
      cases b with
      | true =>
        simp only [Bool.false_eq_true, if_true, if_false]
        refine wpAny_pure ⟨plainId_quiet F.plain_all_loop _, ih (s₁.setGen gi gs') (by have z := gen hI; exact z) hI.nolimit ⟨gs', setGen_at hsz1, ?_⟩⟩
        exact kap (hgo2 rfl) _ ⟨rfl, allBare_setGen (s := s₁.setGen gi gs') (allBare_setGen hI.bare hbare) rfl, fun _ _ e => e⟩
      | false =>
        simp only [Bool.false_eq_true, if_true, if_false]
        refine wpAny_bind (wpAny_rule (wpAny_pure ?_))
        exact hstop ip σ H s₁ _ hI fc rfl (allBare_setGen hI.bare hbare) fun _ _ e => e
    · intro hsz
      obtain ⟨ys, ip, σ, H, _, hI, q⟩ := hp
      have hI : Inv GX ip σ H s₁ := hI
      refine wpAny_bind (wpAny_rule (wpAny_pure ?_))
      exact hend ys ip σ H s₁ _ hI q rfl (allBare_setGen hI.bare rfl) hk
section
variable {X : Cx} {scope : Scope} {own : List (Str × Nat)} {elt tg iter : Expr} {ifs : List Expr} {p pos gpos : Pos} {g : TG} {tt : TT} {te : TE} {wi : TI} {P c : Addr} {T : List (Addr × Str)}
/-- any(elt for target in iter if ..) -/
def tAnyG (T : List (Addr × Str)) (wi : TI) (g : TG) (tt : TT) (te : TE) (vs : List Nat) : TE := fun σ H Q => wi σ H fun J H1 => Tabs T H1 ∧ ∀ H3, ExtN H1 H3 → Tabs T H3 → ∃ W : Nat → Nat → List V → Hp → Prop, (∃ m, W 0 m [] H3) ∧
  GxT J g tt te vs σ (fun y H' => ∃ b, y = .bl b ∧ (b = true → Q (.bl true) H')) (fun y => y = .bl false) (fun _ H' => Q (.bl false) H') W
theorem pe_anyG {k : Nat} (hmT : (P, X.env.qual ++ "<genexpr>") ∈ T) (hu : ∀ p ∈ T, p.1 = P → p.2 = X.env.qual ++ "<genexpr>") (hr : Room (k + 1) X.A) (hg : Gl X "any") (hm : X.mg "any" = none) (hbt : bootBuiltins "any" = some (.builtin "any")) (TB : TabB X.base X.mg c P) (hcode : X.env.code = .ref c)
    (hN : X.N.Nodup) (L : GxS X.N X.env.scope scope own) (hi : PI X tg iter wi) (hb : GBody X k scope tg elt ifs g tt te) (hs : ∀ v, genFold iter X.env v = pure v)
    (he : starEach [.GeneratorExp elt [⟨tg, iter, ifs, 0⟩] scope gpos] X.env = (false, eval (.GeneratorExp elt [⟨tg, iter, ifs, 0⟩] scope gpos) X.env) :: starEach [] X.env := by rfl) :
    PE X (.Call (.Name "any" p) [.GeneratorExp elt [⟨tg, iter, ifs, 0⟩] scope gpos] [] pos) (tAnyG T wi g tt te (own.map (·.2))) := by
  refine ⟨fun pins s σ H Q I h => wpAny_Call_Name_kw (ld_blt I hg hm hbt (PyProof.Rows.callWith_builtin1 ?_ he (by rfl)))⟩
  rw [he]
  refine Calls.spliced_cons (gx_make hmT hu hr.depth TB hcode L hi hs I h fun J H3 a s5 hR hM => Calls.spliced_nil ?_)
  obtain ⟨W, ⟨m, w0⟩, turn⟩ := hR
  obtain ⟨s4, fp, code, go, tn, it, gi, M⟩ := hM
  have hgen := M.gen _ M.at_
  refine call_function_tree F.kind_any F.plain_any F.entry_any (F.args_any1 _) ?_
  unfold Builtin.«any»
  refine wpAny_bind (m := oneArg "any" _) (wpAny_pure ?_)
  refine wpAny_bind (wpAny_pyIter_gen hgen ?_)
  refine wpAny_pure ⟨plainId_quiet F.plain_any_loop _, ?_⟩
  refine any_run (GX := gxCx X X.A.in1.in1 s4 H3 (gEnv X scope s4.heap.objs.size code) fp [(a, go)]) (gi := gi) (Qe := fun _ H' => Q (.bl false) H') (Fc := fun y H' => ∃ b, y = .bl b ∧ (b = true → Q (.bl true) H')) (Go := fun y => y = .bl false) hr.hd hr.depth
    (fun I => M.isGen I) (fun y H' hy => ?_) (fun ip σ' H' s1 s2 I' fc ho hb hk => ?_) (fun ys ip σ' H' s1 s2 I' q ho hb hk => ?_) sizeLine s5 hgen M.nolim ⟨_, M.gs, rfl, ?_⟩
  · obtain ⟨b, rfl, _⟩ := hy
    exact ⟨b, rfl, fun e => by rw [e]⟩
  · obtain ⟨b, e, q⟩ := fc
    cases e
    exact ⟨.bl true, H', M.out I' ho hb hk, rfl, q rfl⟩
  · exact ⟨.bl false, H', M.out I' ho hb hk, rfl, q⟩
  · refine M.seg (A := X.A.in1.in1) (So := none) hN L hb turn w0 I.ok.frames hr.hd (fun env => ⟨hr.hd, ?_, ?_⟩) (s2 := s5.setGen gi .running) (fun _ _ e => e) rfl (allBare_setGen M.bare rfl) (fun S e => by cases e)
    · have := hr.dp
      show X.A.depth + 1 + 3 * k + 5 < _
      omega
    · have := hr.un
      show X.A.units + 1 + 1 + 3 + 16 * k + 200 < _
      omega
/-- all(elt for target in iter if ..) -/
def tAllG (T : List (Addr × Str)) (wi : TI) (g : TG) (tt : TT) (te : TE) (vs : List Nat) : TE := fun σ H Q => wi σ H fun J H1 => Tabs T H1 ∧ ∀ H3, ExtN H1 H3 → Tabs T H3 → ∃ W : Nat → Nat → List V → Hp → Prop, (∃ m, W 0 m [] H3) ∧
  GxT J g tt te vs σ (fun y H' => ∃ b, y = .bl b ∧ (b = false → Q (.bl false) H')) (fun y => y = .bl true) (fun _ H' => Q (.bl true) H') W
theorem pe_allG {k : Nat} (hmT : (P, X.env.qual ++ "<genexpr>") ∈ T) (hu : ∀ p ∈ T, p.1 = P → p.2 = X.env.qual ++ "<genexpr>") (hr : Room (k + 1) X.A) (hg : Gl X "all") (hm : X.mg "all" = none) (hbt : bootBuiltins "all" = some (.builtin "all")) (TB : TabB X.base X.mg c P) (hcode : X.env.code = .ref c)
    (hN : X.N.Nodup) (L : GxS X.N X.env.scope scope own) (hi : PI X tg iter wi) (hb : GBody X k scope tg elt ifs g tt te) (hs : ∀ v, genFold iter X.env v = pure v)
    (he : starEach [.GeneratorExp elt [⟨tg, iter, ifs, 0⟩] scope gpos] X.env = (false, eval (.GeneratorExp elt [⟨tg, iter, ifs, 0⟩] scope gpos) X.env) :: starEach [] X.env := by rfl) :
    PE X (.Call (.Name "all" p) [.GeneratorExp elt [⟨tg, iter, ifs, 0⟩] scope gpos] [] pos) (tAllG T wi g tt te (own.map (·.2))) := by
  refine ⟨fun pins s σ H Q I h => wpAny_Call_Name_kw (ld_blt I hg hm hbt (PyProof.Rows.callWith_builtin1 ?_ he (by rfl)))⟩
  rw [he]
  refine Calls.spliced_cons (gx_make hmT hu hr.depth TB hcode L hi hs I h fun J H3 a s5 hR hM => Calls.spliced_nil ?_)
  obtain ⟨W, ⟨m, w0⟩, turn⟩ := hR
  obtain ⟨s4, fp, code, go, tn, it, gi, M⟩ := hM
  have hgen := M.gen _ M.at_
  refine call_function_tree F.kind_all F.plain_all F.entry_all (F.args_all1 _) ?_
  unfold Builtin.«all»
  refine wpAny_bind (m := oneArg "all" _) (wpAny_pure ?_)
  refine wpAny_bind (wpAny_pyIter_gen hgen ?_)
  refine wpAny_pure ⟨plainId_quiet F.plain_all_loop _, ?_⟩
  refine all_run (GX := gxCx X X.A.in1.in1 s4 H3 (gEnv X scope s4.heap.objs.size code) fp [(a, go)]) (gi := gi) (Qe := fun _ H' => Q (.bl true) H') (Fc := fun y H' => ∃ b, y = .bl b ∧ (b = false → Q (.bl false) H')) (Go := fun y => y = .bl true) hr.hd hr.depth
    (fun I => M.isGen I) (fun y H' hy => ?_) (fun ip σ' H' s1 s2 I' fc ho hb hk => ?_) (fun ys ip σ' H' s1 s2 I' q ho hb hk => ?_) sizeLine s5 hgen M.nolim ⟨_, M.gs, rfl, ?_⟩
  · obtain ⟨b, rfl, _⟩ := hy
    exact ⟨b, rfl, fun e => by rw [e]⟩
  · obtain ⟨b, e, q⟩ := fc
    cases e
    exact ⟨.bl false, H', M.out I' ho hb hk, rfl, q rfl⟩
  · exact ⟨.bl true, H', M.out I' ho hb hk, rfl, q⟩
  · refine M.seg (A := X.A.in1.in1) (So := none) hN L hb turn w0 I.ok.frames hr.hd (fun env => ⟨hr.hd, ?_, ?_⟩) (s2 := s5.setGen gi .running) (fun _ _ e => e) rfl (allBare_setGen M.bare rfl) (fun S e => by cases e)
    · have := hr.dp
      show X.A.depth + 1 + 3 * k + 5 < _
      omega
    · have := hr.un
      show X.A.units + 1 + 1 + 3 + 16 * k + 200 < _
      omega
end
end Zx

/-! tuple(..), list(..), sorted(..) of a generator expression -/
namespace Zx
open PySem PySem.Spec PyProof.Rows L2 Z GenW
open GxR (TabB)
open LamX (Tabs TabS ExtN CodeO)
abbrev EX0 : XK := fun _ _ _ => False
section
variable {X : Cx} {pins : List (Addr × Obj)} {σ : L2.St} {H H3 : Hp} {s s5 : Shared} {scope : Scope} {own : List (Str × Nat)} {a : Addr} {elt tg iter : Expr} {ifs : List Expr} {pos gpos : Pos} {J : It} {g : TG} {tt : TT} {te : TE} {wi : TI} {P c : Addr} {T : List (Addr × Str)}
theorem GMd.made {s4 : Shared} {fp : List Addr} {code : Value} {go : Obj} {tn : Nat → Heap → Prop} {it : Addr} {gi : Nat} {Qe : List V → Hp → Prop} {W : Nat → Nat → List V → Hp → Prop} {m : Nat} {k : Nat} (hN : X.N.Nodup) (L : GxS X.N X.env.scope scope own)
    (hb : GBody X k scope tg elt ifs g tt te) (M : GMd X pins σ tg elt iter ifs scope gpos J H3 a s5 s4 fp code go tn it gi) (turn : GxT J g tt te (own.map (·.2)) σ (fun _ _ => True) (fun _ => True) Qe W) (w0 : W 0 m [] H3) :
    GMade X.prog X.w (k + 1) X.stack H3 s4 fp Qe EX0 (.ref a) s5 := by
  refine ⟨a, gi, _, rfl, Nat.le_of_lt M.lt1, M.lt2, M.gen _ M.at_, M.gs, M.os, M.bare, M.nolim, M.keep, fun A S s2 hr hA hS hk hSo os2 b2 => ?_⟩
  refine seg_imp (fun n s0 r s1 hR => ?_) (fun n s0 v s1 kap kap' hkk hY => ?_) sizeLine (M.seg (A := A) (So := some S) (s2 := s2) hN L hb turn w0 hA hr.hd (fun env => hr.deeper env) hk (os2.trans M.os.symm) b2 fun S' e => by cases e; exact ⟨hS, hSo⟩)
  · rcases hR with ⟨hr2, ys, ip, σ', H', hn, hI, q⟩ | ⟨e, _, z⟩
    · have hI : GI (gxCx X A s4 H3 (gEnv X scope s4.heap.objs.size code) fp [(a, go)]) S ip ys σ' H' s1 := hI
      obtain ⟨a1, _, _, acc, cc, ra, ea⟩ := hI.at
      obtain ⟨_, _, _, I⟩ := hI
      exact .inl ⟨hr2, H', ys, acc, cc, I.os, I.bare, I.base, I.hok, a1, ea, ra, by omega, q⟩
    · exact z.elim
  · obtain ⟨ys, y, ip, σ', H', hn, rv, hI, _, h3⟩ := hY
    have hI : GI (gxCx X A s4 H3 (gEnv X scope s4.heap.objs.size code) fp [(a, go)]) S ip ys σ' H' s1 := hI
    obtain ⟨_, _, _, acc, cc, ra, ea⟩ := hI.at
    obtain ⟨_, _, _, I⟩ := hI
    have hsz : acc.size = ys.length := by
      have e1 := ra.length
      have e2 : acc.toList.length = acc.size := by simp
      omega
    exact ⟨I.os, I.bare, I.nolimit, M.isGen I, ⟨acc, cc, ea, by rw [hsz]; exact hn⟩, fun s' z => hkk _ _ (h3 True.intro s' z)⟩
end
/-- collect(g) -/
theorem collect_new {P : Program} {w : World} {outer : List Env} {H : Hp} {sc s : Shared} {ex : List Addr} {Q : List V → Hp → Prop} {A : Around} {k : Nat} {u : Value} {Q' : List Value → Shared → Prop} {E : Value → Shared → Prop}
    (hh : A.handled = none) (hdp : A.depth + 3 * k + 5 < recursionLimit) (hun : A.units + 2 + 16 * k + 200 < cLine) (hfr : A.frames = some outer) (h : GMade P w k outer H sc ex Q EX0 u s)
    (hQ : ∀ S s' acc c H' ys, s.heap.objs.size ≤ S → s'.heap.get? S = some (lstObj acc c) → Vals ys acc.toList → ys.length ≤ sizeLine → s'.os = sc.os → AllBare s'.gens → Un (frs outer) ex H H' sc.heap s'.heap → HOk P w H' s'.heap → H' S = none → Q ys H' → Q' acc.toList s') :
    wpAny (model P w) A (collect u) Q' E s := by
  obtain ⟨a, g, c, rfl, ha1, ha2, hg, hgs, hos, hb, hl, hkp, wake⟩ := h
  have hSa : s.heap.objs.size ≠ a := Nat.ne_of_gt ha2
  have hcl : cStatics < s.heap.objs.size := let ⟨_, hn, _⟩ := hl; hn.lt
  have hSc : s.heap.objs.size ≠ cStatics := Nat.ne_of_gt hcl
  unfold collect
  refine wpAny_bind (wpAny_runValue (codeAny_builtin F.entry_proto_collect ?_))
  rw [Around.under_plainId F.plain_proto_collect _]
  show wpAny _ A.in1 (newList [] >>= fun l => again (.builtin "list.__iadd__" ⟨[l, .ref a], []⟩)) _ _ s
  refine wpAny_bind (wpAny_newObj_type ?_)
  refine wpAny_pure ⟨plainId_quiet F.plain_list_iadd _, codeAny_builtin F.entry_list_iadd ?_⟩
  rw [Around.under_plainId F.plain_list_iadd _]
  show wpAny _ A.in1 (Builtin.List.listExtendWith (.ref s.heap.objs.size) (.ref a) (.ref s.heap.objs.size)) _ _ _
  unfold Builtin.List.listExtendWith
  have hS : (s.heap.push { cls := .type "list", data := .seq ([] : List Value).toArray }).get? s.heap.objs.size = some { cls := .type "list", data := .seq ([] : List Value).toArray } := Heap.get?_push_size _ rfl
  have up : ∀ (h : Heap) (f : Obj → Obj), (∀ b o, s.heap.get? b = some o → h.get? b = some o) → ∀ b o, s.heap.get? b = some o → (h.update s.heap.objs.size f).get? b = some o := fun h f q b o e =>
    (Heap.get?_update_other _ _ (Ne.symm (Nat.ne_of_lt (Heap.lt_size e)))).trans (q b o e)
  have k1 : ∀ b o, s.heap.get? b = some o → (s.heap.push { cls := .type "list", data := .seq ([] : List Value).toArray }).get? b = some o := fun b o e => Heap.get?_push_of_some _ e
  have gty : ∀ {h : Heap}, (∀ b o, s.heap.get? b = some o → h.get? b = some o) → h.IsGen a g := fun {h} q => hg.keeps q
  refine wpAny_bind (wpAny_typeOf (Heap.IsGen.typeIs (s := { s with heap := _ }) (gty k1)) ?_)
  have h1 : Builtin.List.listSameRef (.ref s.heap.objs.size) (.ref a) = false := by simp [Builtin.List.listSameRef, hSa]
  have h2 : (Value.type "generator" == Value.type "list") = false := by decide
  have h3 : (Value.type "generator" == Value.type "tuple") = false := by decide
  simp only [h1, h2, h3, Bool.or_false, Bool.false_eq_true, if_false]
  refine wpAny_bind (wpAny_pyIter_gen (s := { s with heap := _ }) (gty k1) ?_)
  refine wpAny_bind (wpAny_holding ?_)
  unfold Builtin.List.listLengthHint
  refine wpAny_bind (wpAny_specialOf (Heap.IsGen.typeIs (s := { s with heap := _ }) (gty k1)) F.gen_no_len ?_)
  show wpAny _ A.in1 (specialOf (Value.ref a) (Str.ofString "__length_hint__") >>= _) _ _ _
  refine wpAny_bind (wpAny_specialOf (Heap.IsGen.typeIs (s := { s with heap := _ }) (gty k1)) F.gen_no_hint ?_)
  refine wpAny_pure ?_
  show wpAny _ A.in1 (rule "list.extend.makes-room" >>= fun _ => Builtin.List.listTouch (.ref s.heap.objs.size) >>= fun _ =>
    again (.builtin "list.extend.loop" ⟨[.ref s.heap.objs.size, .ref a, .ref s.heap.objs.size], []⟩)) _ _ _
  refine wpAny_bind (wpAny_rule ?_)
  refine wpAny_bind ?_
  show wpAny _ A.in1 (updateSeq s.heap.objs.size (·.push .none) >>= fun _ => updateSeq s.heap.objs.size (·.pop)) _ _ _
  refine wpAny_bind (wpAny_updateSeq hS rfl ?_)
  have hS3 := Heap.get?_update_self (Obj.mapSeq (·.push Value.none)) hS rfl
  refine wpAny_updateSeq (hz := by seq_fits) hS3 rfl ?_
  have hS4 := Heap.get?_update_self (Obj.mapSeq (·.pop)) hS3 rfl
  have k4 := up _ (Obj.mapSeq (·.pop)) (up _ (Obj.mapSeq (·.push Value.none)) k1)
  refine wpAny_pure ⟨plainId_quiet F.plain_extend_loop _, ?_⟩
  refine drain (P := P) (w := w) (outer := outer) (H := H) (sc := sc) (ex := ex) (Q := Q) (EX := EX0) (A := A) (g := g) hh (by omega) hSa hSc
    (fun s' acc c H' ys q1 q2 q3 q4 q5 q6 q7 q8 q9 => ?_) (fun e s' hc => ?_)
    sizeLine _ (gty k4) (hl.keeps k4) ⟨_, hgs, rfl, ?_⟩
  · show wpAny _ A (load s.heap.objs.size >>= _) _ _ s'
    refine wpAny_bind (wpAny_load q1 ?_)
    exact wpAny_pure (hQ _ s' acc c H' ys (Nat.le_refl _) q1 q2 q3 q4 q5 q6 q7 q8 q9)
  · obtain ⟨_, _, _, _, _, _, _, _, _, _, _, _, z⟩ := hc
    exact z.elim
  · refine wake _ _ _ ⟨hh, ?_, ?_⟩ hfr (Nat.le_refl _) k4 ⟨_, hS4⟩ hos (allBare_setGen (s := { s with heap := _ }) hb rfl)
    · show A.depth + 3 * k + 5 < _
      omega
    · show A.units + 1 + 1 + 16 * k + 200 < _
      omega
theorem code_tuple_newG {P : Program} {w : World} {outer : List Env} {H : Hp} {sc s : Shared} {ex : List Addr} {Q : List V → Hp → Prop} {A : Around} {k : Nat} {a : Addr} {Q1 : Value → Shared → Prop} {E : Value → Shared → Prop} (hh : A.handled = none) (hdp : A.depth + 3 * k + 5 < recursionLimit) (hun : A.units + 3 + 16 * k + 200 < cLine) (hfr : A.frames = some outer) (hT : s.TypeIs (.ref a) "generator") (h : GMade P w k outer H sc ex Q EX0 (.ref a) s)
    (hQ : ∀ (s' : Shared) (acc : Array Value) (H' : Hp) (ys : List V), Vals ys acc.toList → ys.length ≤ sizeLine → s'.os = sc.os → AllBare s'.gens → Un (frs outer) ex H H' sc.heap s'.heap → HOk P w H' s'.heap → Q ys H' → Q1 (.ref s'.heap.objs.size) { s' with heap := s'.heap.push { cls := .type "tuple", data := .seq acc } }) :
    codeAny (model P w) A (.call (.builtin "tuple.__new__") ⟨[.type "tuple", .ref a], []⟩) (wants Q1 E) s := by
  refine codeAny_of_tree ?_
  show wpAny _ A.in1 (do checkBuiltinCall "tuple.__new__" ⟨[.type "tuple", .ref a], []⟩; again (.builtin "tuple.__new__" ⟨[.type "tuple", .ref a], []⟩)) _ _ s
  refine wpAny_bind (wpAny_of_eq (F.newCall_tuple_1 _) (wpAny_pure ⟨plainId_quiet F.plain_tuple_new _, codeAny_builtin F.entry_tuple_new ?_⟩))
  rw [Around.under_plainId F.plain_tuple_new _]
  have hsub := sub_tuple_self
  have hinit := init_tuple_lookup
  have hmh := madeHere_tuple
  have go : ∀ {Q' : List Value → Shared → Prop} {E' : Value → Shared → Prop}, (∀ (s' : Shared) (acc : Array Value) (H' : Hp) (ys : List V), Vals ys acc.toList → ys.length ≤ sizeLine → s'.os = sc.os → AllBare s'.gens → Un (frs outer) ex H H' sc.heap s'.heap → HOk P w H' s'.heap → Q ys H' → Q' acc.toList s') → wpAny (model P w) A.in1 (collect (.ref a)) Q' E' s := fun {Q' E'} q =>
    collect_new (k := k) hh hdp (show A.units + 1 + 2 + 16 * k + 200 < cLine by omega) hfr h fun S s' acc c H' ys _ _ q2 q3 q4 q5 q6 q7 _ q9 => q s' acc H' ys q2 q3 q4 q5 q6 q7 q9
  wp_walk using wpAny_typeOf hT, go
  intro s' acc H' ys r1 r2 r3 r4 r5 r6 r7
  show wpAny _ _ (Builtin.Tuple.tupleExact acc.toList.toArray >>= fun v => ret v) _ _ _
  unfold Builtin.Tuple.tupleExact
  have hac : acc.size = ys.length := by
    have e1 := r1.length
    have e2 : acc.toList.length = acc.size := by simp
    omega
  refine wpAny_bind (wpAny_newObj_type ?_ (by show acc.toList.toArray.size ≤ sizeLine; simp only [Array.toArray_toList]; omega))
  refine wpAny_pure ?_
  have e : acc.toList.toArray = acc := by simp
  rw [e]
  exact hQ s' acc H' ys r1 r2 r3 r4 r5 r6 r7
/-- tuple(elt for target in iter if ..) -/
def tTupG (T : List (Addr × Str)) (wi : TI) (g : TG) (tt : TT) (te : TE) (vs : List Nat) : TE := fun σ H Q => wi σ H fun J H1 => Tabs T H1 ∧ ∀ H3, ExtN H1 H3 → Tabs T H3 → ∃ W : Nat → Nat → List V → Hp → Prop, (∃ m, W 0 m [] H3) ∧
  GxT J g tt te vs σ (fun _ _ => True) (fun _ => True) (fun ys H' => ∀ p, H' p = none → Q (.ref p) (upd H' p (.tup ys))) W
section
variable {X : Cx} {scope : Scope} {own : List (Str × Nat)} {elt tg iter : Expr} {ifs : List Expr} {p pos gpos : Pos} {g : TG} {tt : TT} {te : TE} {wi : TI} {P c : Addr} {T : List (Addr × Str)}
theorem pe_tupG {k : Nat} (hmT : (P, X.env.qual ++ "<genexpr>") ∈ T) (hu : ∀ p ∈ T, p.1 = P → p.2 = X.env.qual ++ "<genexpr>") (hr : Room (k + 2) X.A) (hg : Gl X "tuple") (hm : X.mg "tuple" = none) (hbt : bootBuiltins "tuple" = some (.type "tuple")) (TB : TabB X.base X.mg c P) (hcode : X.env.code = .ref c)
    (hN : X.N.Nodup) (L : GxS X.N X.env.scope scope own) (hi : PI X tg iter wi) (hb : GBody X k scope tg elt ifs g tt te) (hs : ∀ v, genFold iter X.env v = pure v)
    (he : starEach [.GeneratorExp elt [⟨tg, iter, ifs, 0⟩] scope gpos] X.env = (false, eval (.GeneratorExp elt [⟨tg, iter, ifs, 0⟩] scope gpos) X.env) :: starEach [] X.env := by rfl) :
    PE X (.Call (.Name "tuple" p) [.GeneratorExp elt [⟨tg, iter, ifs, 0⟩] scope gpos] [] pos) (tTupG T wi g tt te (own.map (·.2))) := by
  refine ⟨fun pins s σ H Q I h => wpAny_Call_Name_kw (ld_blt I hg hm hbt (PyProof.Rows.callWith_type1 ?_ he rfl))⟩
  rw [he]
  refine Calls.spliced_cons (gx_make hmT hu hr.depth TB hcode L hi hs I h fun J H3 a s5 hR hM => Calls.spliced_nil ?_)
  obtain ⟨W, ⟨m, w0⟩, turn⟩ := hR
  obtain ⟨s4, fp, code, go, tn, it, gi, M⟩ := hM
  have hgen := M.gen _ M.at_
  refine callType_codes (Q₁ := fun obj s₁ => s₁.TypeIs obj "tuple" ∧ EP X pins σ Q obj s₁) F.called_tuple (F.typeCall_tuple_1 _) F.entry_object_init
    (code_tuple_newG (k := k + 1) (outer := X.stack) (H := H3) (sc := s4) (ex := fp) hr.hd (by have := hr.dp; show X.A.depth + 3 * (k + 1) + 5 < _; omega) (by have := hr.un; show X.A.units + 1 + 3 + 16 * (k + 1) + 200 < _; omega) I.ok.frames hgen.typeIs (M.made hN L hb turn w0)
      fun s' acc H' ys r1 r2 r3 r4 r5 r6 r7 => ⟨⟨_, Heap.get?_push_size _ rfl, rfl⟩, ?_⟩) fun obj s₁ h₁ => ?_
  · have I6 : Inv X pins σ H' s' := M.inv.call' (ch := fp) r3 r5 r6 r4 fun b hb => ⟨(M.fps b hb).1.2.2.2.1, (M.fps b hb).1.2.1, (M.fps b hb).1.2.2.2.2.1, (M.fps b hb).1.2.2.2.2.2⟩
    have I7 : Inv X pins σ (upd H' s'.heap.objs.size (.tup ys)) { s' with heap := s'.heap.push { cls := .type "tuple", data := .seq acc } } :=
      I6.laid (t' := s'.toks) (fun b o e => Heap.get?_push_of_some _ e) (Nat.le_refl _) (show ObjOk X.prog X.w _ _ _ (.tup ys) from ⟨r2, acc.toList, r1, IsTup.new _ _⟩)
    exact ⟨.ref s'.heap.objs.size, _, I7, rfl, r7 _ (I6.hok.fresh (Nat.le_refl _))⟩
  · exact ⟨h₁.1, F.args_object_init_2 obj _, object_init_meets F.called_tuple.init.lookup F.called_tuple.made (by decide) X.prog X.w X.A.in1 _ s₁ ⟨h₁.1, rfl, h₁.2⟩⟩
end
end Zx

namespace Zx
open PySem PySem.Spec PyProof.Rows L2 Z GenW
open GxR (TabB)
open LamX (Tabs TabS ExtN CodeO)
/-- any (b0: true), all (b0: false) of a generator expression -/
def zBoolG (b0 : Bool) (zi : DI) (g : DG) (tt : DT) (te : DE) (vs : List Nat) : DE := fun ρ G Q => zi ρ G fun items live G1 => items.length ≤ sizeLine ∧ ∃ P : Nat → Gp → Prop, P 0 G1 ∧
  (∀ i d G', items[i]? = some d → P i G' → live G' ∧ g d (zwipe ρ vs) G' fun ρ2 G2 => tt ρ2 G2 fun b G3 => if b = true then te ρ2 G3 fun e G4 => (match e with
    | .bl c => if c = b0 then Q (.bl b0) G4 else P (i + 1) G4
    | _ => False) else P (i + 1) G3) ∧
  ∀ G', P items.length G' → live G' ∧ Q (.bl (!b0)) G'
/-- tuple(..) of a generator expression -/
def zTupG (zi : DI) (g : DG) (tt : DT) (te : DE) (vs : List Nat) : DE := fun ρ G Q => zi ρ G fun items live G1 => items.length ≤ sizeLine ∧ ∃ P : Nat → List D → Gp → Prop, P 0 [] G1 ∧
  (∀ i d acc G', items[i]? = some d → P i acc G' → live G' ∧ g d (zwipe ρ vs) G' fun ρ2 G2 => tt ρ2 G2 fun b G3 => if b = true then te ρ2 G3 fun e G4 => P (i + 1) (acc ++ [e]) G4 else P (i + 1) acc G3) ∧
  ∀ acc G', P items.length acc G' → live G' ∧ Q (.tup acc) G'
section
variable [τ : Tbl] [β : Bas]
theorem wipe_wipe {σ : L2.St} {vs : List Nat} : wipe (wipe σ vs) vs = wipe σ vs := by
  have : ∀ {σ : L2.St} (us : List Nat), (∀ u ∈ us, u ∈ vs) → wipe (wipe σ us) vs = wipe σ vs := by
    intro σ us
    induction us with
    | nil => intro _; rfl
    | cons u us ih =>
      intro hu
      show wipe ((wipe σ us).set u none) vs = wipe σ vs
      rw [wipe_set (hu u List.mem_cons_self)]
      exact ih fun z hz => hu z (List.mem_cons_of_mem _ hz)
  exact this vs fun _ z => z
theorem up_boolG {b0 : Bool} {K : PySem.W.Frag} {zi : DI} {gv : TG} {g : DG} {tt : DT} {te : DE} {vs : List Nat} (gr : GRel K vs gv g) {σ : L2.St} {H : Hp} {Q : VK} (q : upE K (zBoolG b0 zi g tt te vs) σ H Q) :
    (upI K zi) σ H fun J H1 => Tabs τ.T H1 ∧ ∀ H3, ExtN H1 H3 → Tabs τ.T H3 → ∃ W : Nat → Nat → List V → Hp → Prop, (∃ m, W 0 m [] H3) ∧
      GxT J gv (upT K tt) (upE K te) vs σ (fun y H' => ∃ b, y = .bl b ∧ (b = b0 → Q (.bl b0) H')) (fun y => y = .bl (!b0)) (fun _ H' => Q (.bl (!b0)) H') W := by
  obtain ⟨ρ, G, Q0, hs, hg, h, k⟩ := q
  refine ⟨ρ, G, _, hs, hg, h, fun items live G1 H1 J h1 f1 g1 it => ?_⟩
  obtain ⟨sz, P, p0, step, done⟩ := h1
  refine ⟨g1.tabs, fun H3 x3 t3 => ⟨fun i m ys H' => m = items.length - i ∧ i ≤ items.length ∧ ys.length ≤ i ∧ ∃ G', SimG K H' G' ∧ Fr H1 G1 H' G' ∧ P i G', ⟨_, rfl, Nat.zero_le _, Nat.le_refl _, G1, extN_sim g1 x3 t3, extN_fr x3, p0⟩, ?_⟩⟩
  rintro i m ys H' ⟨rfl, hi, hy, G', g', f', p'⟩
  have tm := g1.tm f'
  by_cases hlt : i < items.length
  · have hd := List.getElem?_eq_getElem hlt
    obtain ⟨lv, st⟩ := step i _ G' hd p'
    refine .inr ⟨it.go i H' G' tm g' lv hlt, fun ys2 H2 => ys2.length ≤ i + 1 ∧ ∃ G2, SimG K H2 G2 ∧ Fr H1 G1 H2 G2 ∧ P (i + 1) G2, fun ys2 H2 ⟨a1, G2, a2, a3, a4⟩ => ⟨_, by omega, rfl, hlt, a1, G2, a2, a3, a4⟩, fun x H2 y => ?_⟩
    obtain ⟨fy, gy, ry⟩ := it.yld i _ H' G' x H2 tm g' lv hd y
    have s2 : SimS K H2 σ ρ := (hs.mono (hg.tm f1)).mono (g1.tm (f'.trans fy))
    refine gr _ _ _ _ H2 G' _ _ ry (s2.wipe vs) gy st fun ρ3 G3 σ3 H3 h3 f3 g3 s3 w3 => ⟨by rw [w3, wipe_wipe], ?_⟩
    refine ⟨ρ3, G3, _, s3, g3, h3, fun b G4 H4 h4 f4 g4 => ?_⟩
    have f14 : Fr H' G' H4 G4 := (fy.trans f3).trans f4
    cases b with
    | false =>
      rw [if_neg Bool.false_ne_true] at h4
      dsimp only
      rw [if_neg Bool.false_ne_true]
      exact ⟨by omega, G4, g4, f'.trans f14, h4⟩
    | true =>
      rw [if_pos rfl] at h4
      dsimp only
      rw [if_pos rfl]
      refine ⟨ρ3, G4, _, s3.mono (g3.tm f4), g4, h4, fun e G5 v H5 h5 f5 g5 r5 => ?_⟩
      have f15 := f14.trans f5
      cases r5 with
      | bl c =>
        refine ⟨Nat.lt_of_le_of_lt hy (Nat.lt_of_lt_of_le hlt sz), ⟨c, rfl, fun e => ?_⟩, fun e => ⟨by rw [List.length_append, List.length_singleton]; omega, G5, g5, f'.trans f15, ?_⟩⟩
        · have h5 : if c = b0 then _ else _ := h5
          rw [if_pos e] at h5
          exact k _ G5 _ H5 h5 (f1.trans (f'.trans f15)) g5 (.bl b0)
        · have h5 : if c = b0 then _ else _ := h5
          have e : c = !b0 := V.bl.inj e
          rw [if_neg (by rw [e]; cases b0 <;> decide)] at h5
          exact h5
      | _ => exact False.elim h5
  · have e : i = items.length := by omega
    subst e
    obtain ⟨lv, fin⟩ := done G' p'
    exact .inl ⟨it.stop H' G' tm g' lv, k _ G' _ H' fin (f1.trans f') g' (.bl _)⟩
theorem up_tupG {K : PySem.W.Frag} {zi : DI} {gv : TG} {g : DG} {tt : DT} {te : DE} {vs : List Nat} (gr : GRel K vs gv g) {σ : L2.St} {H : Hp} {Q : VK} (q : upE K (zTupG zi g tt te vs) σ H Q) :
    (upI K zi) σ H fun J H1 => Tabs τ.T H1 ∧ ∀ H3, ExtN H1 H3 → Tabs τ.T H3 → ∃ W : Nat → Nat → List V → Hp → Prop, (∃ m, W 0 m [] H3) ∧
      GxT J gv (upT K tt) (upE K te) vs σ (fun _ _ => True) (fun _ => True) (fun ys H' => ∀ p, H' p = none → Q (.ref p) (upd H' p (.tup ys))) W := by
  obtain ⟨ρ, G, Q0, hs, hg, h, k⟩ := q
  refine ⟨ρ, G, _, hs, hg, h, fun items live G1 H1 J h1 f1 g1 it => ?_⟩
  obtain ⟨sz, P, p0, step, done⟩ := h1
  refine ⟨g1.tabs, fun H3 x3 t3 => ⟨fun i m ys H' => m = items.length - i ∧ i ≤ items.length ∧ ys.length ≤ i ∧ ∃ acc G', Reps K H' ys acc ∧ SimG K H' G' ∧ Fr H1 G1 H' G' ∧ P i acc G', ⟨_, rfl, Nat.zero_le _, Nat.le_refl _, [], G1, .nil, extN_sim g1 x3 t3, extN_fr x3, p0⟩, ?_⟩⟩
  rintro i m ys H' ⟨rfl, hi, hy, acc, G', rL, g', f', p'⟩
  have tm := g1.tm f'
  by_cases hlt : i < items.length
  · have hd := List.getElem?_eq_getElem hlt
    obtain ⟨lv, st⟩ := step i _ acc G' hd p'
    refine .inr ⟨it.go i H' G' tm g' lv hlt, fun ys2 H2 => ys2.length ≤ i + 1 ∧ ∃ acc G2, Reps K H2 ys2 acc ∧ SimG K H2 G2 ∧ Fr H1 G1 H2 G2 ∧ P (i + 1) acc G2, fun ys2 H2 ⟨a1, acc, G2, a0, a2, a3, a4⟩ => ⟨_, by omega, rfl, hlt, a1, acc, G2, a0, a2, a3, a4⟩, fun x H2 y => ?_⟩
    obtain ⟨fy, gy, ry⟩ := it.yld i _ H' G' x H2 tm g' lv hd y
    have s2 : SimS K H2 σ ρ := (hs.mono (hg.tm f1)).mono (g1.tm (f'.trans fy))
    refine gr _ _ _ _ H2 G' _ _ ry (s2.wipe vs) gy st fun ρ3 G3 σ3 H3 h3 f3 g3 s3 w3 => ⟨by rw [w3, wipe_wipe], ?_⟩
    refine ⟨ρ3, G3, _, s3, g3, h3, fun b G4 H4 h4 f4 g4 => ?_⟩
    have f14 : Fr H' G' H4 G4 := (fy.trans f3).trans f4
    cases b with
    | false =>
      rw [if_neg Bool.false_ne_true] at h4
      dsimp only
      rw [if_neg Bool.false_ne_true]
      exact ⟨by omega, acc, G4, rL.mono (g'.tm f14), g4, f'.trans f14, h4⟩
    | true =>
      rw [if_pos rfl] at h4
      dsimp only
      rw [if_pos rfl]
      refine ⟨ρ3, G4, _, s3.mono (g3.tm f4), g4, h4, fun e G5 v H5 h5 f5 g5 r5 => ?_⟩
      have f15 := f14.trans f5
      exact ⟨Nat.lt_of_le_of_lt hy (Nat.lt_of_lt_of_le hlt sz), True.intro, fun _ => ⟨by rw [List.length_append, List.length_singleton]; omega, acc ++ [e], G5, (rL.mono (g'.tm f15)).append (.cons r5 .nil), g5, f'.trans f15, h5⟩⟩
  · have e : i = items.length := by omega
    subst e
    obtain ⟨lv, fin⟩ := done acc G' p'
    exact .inl ⟨it.stop H' G' tm g' lv, fun p hp => CK.tup (CK.go k (f1.trans f')) hp fin g' rL⟩
end
section
variable [τ : Tbl] [β : Bas] {X : Cx} {scope : Scope} {own : List (Str × Nat)} {elt tg iter : Expr} {ifs : List Expr} {p pos gpos : Pos} {gv : TG} {g : DG} {tt : DT} {te : DE} {zi : DI} {P c : Addr}
theorem z_anyG {k : Nat} (hmT : (P, X.env.qual ++ "<genexpr>") ∈ τ.T) (hu : ∀ p ∈ τ.T, p.1 = P → p.2 = X.env.qual ++ "<genexpr>") (hr : Room (k + 1) X.A) (hg : Gl X "any") (hm : X.mg "any" = none) (TB : TabB X.base X.mg c P) (hcode : X.env.code = .ref c)
    (hN : X.N.Nodup) (L : GxS X.N X.env.scope scope own) (hi : ZI X tg iter zi) (gr : GRel X.K (own.map (·.2)) gv g) (hb : GBody X k scope tg elt ifs gv (upT X.K tt) (upE X.K te)) (hs : ∀ v, genFold iter X.env v = pure v) (hbt : bootBuiltins "any" = some (.builtin "any") := by first | rfl | decide)
    (he : starEach [.GeneratorExp elt [⟨tg, iter, ifs, 0⟩] scope gpos] X.env = (false, eval (.GeneratorExp elt [⟨tg, iter, ifs, 0⟩] scope gpos) X.env) :: starEach [] X.env := by rfl) :
    ZE X (.Call (.Name "any" p) [.GeneratorExp elt [⟨tg, iter, ifs, 0⟩] scope gpos] [] pos) (zBoolG true zi g tt te (own.map (·.2))) := PEi (pe_anyG (wi := upI X.K zi) (tt := upT X.K tt) (te := upE X.K te) hmT hu hr hg hm hbt TB hcode hN L hi hb hs he) fun σ H Q q => up_boolG gr q
theorem z_allG {k : Nat} (hmT : (P, X.env.qual ++ "<genexpr>") ∈ τ.T) (hu : ∀ p ∈ τ.T, p.1 = P → p.2 = X.env.qual ++ "<genexpr>") (hr : Room (k + 1) X.A) (hg : Gl X "all") (hm : X.mg "all" = none) (TB : TabB X.base X.mg c P) (hcode : X.env.code = .ref c)
    (hN : X.N.Nodup) (L : GxS X.N X.env.scope scope own) (hi : ZI X tg iter zi) (gr : GRel X.K (own.map (·.2)) gv g) (hb : GBody X k scope tg elt ifs gv (upT X.K tt) (upE X.K te)) (hs : ∀ v, genFold iter X.env v = pure v) (hbt : bootBuiltins "all" = some (.builtin "all") := by first | rfl | decide)
    (he : starEach [.GeneratorExp elt [⟨tg, iter, ifs, 0⟩] scope gpos] X.env = (false, eval (.GeneratorExp elt [⟨tg, iter, ifs, 0⟩] scope gpos) X.env) :: starEach [] X.env := by rfl) :
    ZE X (.Call (.Name "all" p) [.GeneratorExp elt [⟨tg, iter, ifs, 0⟩] scope gpos] [] pos) (zBoolG false zi g tt te (own.map (·.2))) := PEi (pe_allG (wi := upI X.K zi) (tt := upT X.K tt) (te := upE X.K te) hmT hu hr hg hm hbt TB hcode hN L hi hb hs he) fun σ H Q q => up_boolG gr q
theorem z_tupG {k : Nat} (hmT : (P, X.env.qual ++ "<genexpr>") ∈ τ.T) (hu : ∀ p ∈ τ.T, p.1 = P → p.2 = X.env.qual ++ "<genexpr>") (hr : Room (k + 2) X.A) (hg : Gl X "tuple") (hm : X.mg "tuple" = none) (TB : TabB X.base X.mg c P) (hcode : X.env.code = .ref c)
    (hN : X.N.Nodup) (L : GxS X.N X.env.scope scope own) (hi : ZI X tg iter zi) (gr : GRel X.K (own.map (·.2)) gv g) (hb : GBody X k scope tg elt ifs gv (upT X.K tt) (upE X.K te)) (hs : ∀ v, genFold iter X.env v = pure v) (hbt : bootBuiltins "tuple" = some (.type "tuple") := by first | rfl | decide)
    (he : starEach [.GeneratorExp elt [⟨tg, iter, ifs, 0⟩] scope gpos] X.env = (false, eval (.GeneratorExp elt [⟨tg, iter, ifs, 0⟩] scope gpos) X.env) :: starEach [] X.env := by rfl) :
    ZE X (.Call (.Name "tuple" p) [.GeneratorExp elt [⟨tg, iter, ifs, 0⟩] scope gpos] [] pos) (zTupG zi g tt te (own.map (·.2))) := PEi (pe_tupG (wi := upI X.K zi) (tt := upT X.K tt) (te := upE X.K te) hmT hu hr hg hm hbt TB hcode hN L hi hb hs he) fun σ H Q q => up_tupG gr q
end
end Zx

/-! list(zip(a, b)) of two lists -/
namespace Zl
open PySem PySem.Spec PyProof.Rows L2 Z
theorem zip_no_len : typeLookup (.type "zip") "__len__" = pure none := am_miss_of_fast (by decide +kernel)
theorem zip_no_hint : typeLookup (.type "zip") "__length_hint__" = pure none := am_miss_of_fast (by decide +kernel)
section
variable {P : Program} {w : World} {A : Around} {z TI TO i1 i2 l1 l2 S : Addr} {xs ys : Array Value}
abbrev lst (acc : Array Value) (c : Nat) : Obj := { cls := .type "list", dict := none, data := .seq acc c, slots := #[] }
/-- the zip at a turn -/
structure At (s : Heap) (z TI TO i1 i2 l1 l2 : Addr) (xs ys : Array Value) (i : Nat) : Prop where
  ti : IsPair s TI (.ref i1) (.ref i2)
  a1 : s.IsListIter i1 l1 i
  a2 : s.IsListIter i2 l2 i
  b1 : s.IsList l1 xs
  b2 : s.IsList l2 ys
  st : (IsZip s z TI TO .none ∧ ∃ a b, IsPair s TO a b) ∨ ∃ T f oT, IsZipHeld s z TI TO T f ∧ s.get? T = some oT
theorem At.keep {h h' : Heap} {i : Nat} (a : At h z TI TO i1 i2 l1 l2 xs ys i) (k : ∀ b o, h.get? b = some o → b ≠ S → h'.get? b = some o) (n1 : TI ≠ S) (n2 : i1 ≠ S) (n3 : i2 ≠ S) (n4 : l1 ≠ S) (n5 : l2 ≠ S) (n6 : z ≠ S) (n7 : TO ≠ S) (sT : ∃ o, h'.get? S = some o) : At h' z TI TO i1 i2 l1 l2 xs ys i where
  ti := k _ _ a.ti n1
  a1 := a.a1.at fun o e => k _ o e n2
  a2 := a.a2.at fun o e => k _ o e n3
  b1 := by obtain ⟨o, e, r⟩ := a.b1; exact ⟨o, k _ o e n4, r⟩
  b2 := by obtain ⟨o, e, r⟩ := a.b2; exact ⟨o, k _ o e n5, r⟩
  st := by
    rcases a.st with ⟨h1, x, y, h2⟩ | ⟨T, f, oT, h1, h2⟩
    · exact .inl ⟨k _ _ h1 n6, x, y, k _ _ h2 n7⟩
    · by_cases e : T = S
      · obtain ⟨o, ho⟩ := sT
        exact .inr ⟨T, f, o, k _ _ h1 n6, by rw [e]; exact ho⟩
      · exact .inr ⟨T, f, oT, k _ _ h1 n6, k _ _ h2 e⟩
structure Ap (S z TI TO i1 i2 l1 l2 : Addr) : Prop where
  d : ZipApart z TI TO i1 i2 l1 l2
  n1 : TI ≠ S
  n2 : i1 ≠ S
  n3 : i2 ≠ S
  n4 : l1 ≠ S
  n5 : l2 ≠ S
  n6 : z ≠ S
  n7 : TO ≠ S
theorem drain (hh : A.handled = none) (D : Ap S z TI TO i1 i2 l1 l2) (hn : min xs.size ys.size ≤ sizeLine) {R : Result → Shared → Prop} {res : Value} (n0 : Nat) :
    ∀ (k i : Nat) (s : Shared) (acc : Array Value) (c : Nat) (Ts : List Addr), min xs.size ys.size - i = k → i ≤ min xs.size ys.size → n0 ≤ s.heap.objs.size → (∀ b, b ∈ [S, z, TI, TO, i1, i2, l1, l2] → b < n0) → At s.heap z TI TO i1 i2 l1 l2 xs ys i → s.heap.get? S = some (lst acc c) → acc.toList = Ts.map Value.ref → Ts.length = i → (∀ T ∈ Ts, n0 ≤ T ∧ T < s.heap.objs.size) → Ts.Nodup →
      (∀ (j : Nat) (T : Addr), Ts[j]? = some T → ∃ x y, xs[j]? = some x ∧ ys[j]? = some y ∧ IsPair s.heap T x y) →
      (∀ (h' : Heap) (acc' : Array Value) (c' : Nat) (Ts' : List Addr), h'.get? S = some (lst acc' c') → acc'.toList = Ts'.map Value.ref → Ts'.length = min xs.size ys.size → (∀ T ∈ Ts', n0 ≤ T) → Ts'.Nodup → (∀ (j : Nat) (T : Addr), Ts'[j]? = some T → ∃ x y, xs[j]? = some x ∧ ys[j]? = some y ∧ IsPair h' T x y) →
        (∀ b o, b ∉ [S, z, TI, TO, i1, i2] → s.heap.get? b = some o → h'.get? b = some o) → R (.ok (.ret res)) { s with heap := h' }) →
      codeAny (model P w) A (.builtin "list.extend.loop" ⟨[.ref S, .ref z, res], []⟩) R s := by
  intro k
  induction k with
  | zero =>
    intro i s acc c Ts hk hi hn0 hlow a hS hacc hl hT nd hp hR
    have hin : i = min xs.size ys.size := by omega
    refine codeAny_builtin F.entry_extend_loop ?_
    rw [Around.under_plainId F.plain_extend_loop _]
    show wpAny _ A.in1 (pyNext (.ref z) >>= _) _ _ s
    have hend : xs[i]? = none ∨ ys[i]? = none := by
      rw [Array.getElem?_eq_none_iff, Array.getElem?_eq_none_iff]
      omega
    have fin : ∀ h', (∀ c o, c ≠ z → c ≠ TO → c ≠ i1 → c ≠ i2 → s.heap.get? c = some o → h'.get? c = some o) → R (.ok (.ret res)) { s with heap := h' } := fun h' hk' => by
      have up : ∀ T, n0 ≤ T → T ≠ z ∧ T ≠ TO ∧ T ≠ i1 ∧ T ≠ i2 := fun T hT => by
        have m1 := hlow z (by simp)
        have m2 := hlow TO (by simp)
        have m3 := hlow i1 (by simp)
        have m4 := hlow i2 (by simp)
        exact ⟨fun e => absurd hT (Nat.not_le_of_lt (e ▸ m1)), fun e => absurd hT (Nat.not_le_of_lt (e ▸ m2)), fun e => absurd hT (Nat.not_le_of_lt (e ▸ m3)), fun e => absurd hT (Nat.not_le_of_lt (e ▸ m4))⟩
      refine hR h' acc c Ts (hk' S _ D.n6.symm D.n7.symm D.n2.symm D.n3.symm hS) hacc (by omega) (fun T h => (hT T h).1) nd (fun j T hj => ?_) fun b o hb e => ?_
      · obtain ⟨x, y, hx, hy, q⟩ := hp j T hj
        obtain ⟨u1, u2, u3, u4⟩ := up T (hT T (List.mem_of_getElem? hj)).1
        exact ⟨x, y, hx, hy, hk' T _ u1 u2 u3 u4 q⟩
      · simp only [List.mem_cons, List.not_mem_nil, or_false, not_or] at hb
        exact hk' b o hb.2.1 hb.2.2.2.1 hb.2.2.2.2.1 hb.2.2.2.2.2 e
    rcases a.st with ⟨h1, x, y, h2⟩ | ⟨T, f, oT, h1, h2⟩
    · exact wpAny_bind (wpAny_pyNext_zip_end hh D.d h1 a.ti h2 a.a1 a.a2 a.b1 a.b2 hend fun h' hk' => wpAny_pure (fin h' hk'))
    · exact wpAny_bind (wpAny_pyNext_zip_end_held hh D.d h1 h2 a.ti a.a1 a.a2 a.b1 a.b2 hend fun h' hk' => wpAny_pure (fin h' fun c o c1 _ c3 c4 e => hk' c o c1 c3 c4 e))
  | succ k ih =>
    intro i s acc c Ts hk hi hn0 hlow a hS hacc hl hT nd hp hR
    have hlt : i < min xs.size ys.size := by omega
    obtain ⟨x, hx⟩ : ∃ x, xs[i]? = some x := ⟨_, Array.getElem?_eq_getElem (show i < xs.size by omega)⟩
    obtain ⟨y, hy⟩ : ∃ y, ys[i]? = some y := ⟨_, Array.getElem?_eq_getElem (show i < ys.size by omega)⟩
    refine codeAny_builtin F.entry_extend_loop ?_
    rw [Around.under_plainId F.plain_extend_loop _]
    show wpAny _ A.in1 (pyNext (.ref z) >>= _) _ _ s
    have low : ∀ b, b ∈ [S, z, TI, TO, i1, i2, l1, l2] → b < s.heap.objs.size := fun b hb => Nat.lt_of_lt_of_le (hlow b hb) hn0
    have go : ∀ h', ((IsZip h' z TI TO (rawInt s.heap.objs.size) ∨ ∃ T oT, IsZipHeld h' z TI TO T true ∧ h'.get? T = some oT)) → h'.IsListIter i1 l1 (i + 1) → h'.IsListIter i2 l2 (i + 1) → IsPair h' s.heap.objs.size x y → h'.objs.size = s.heap.objs.size + 1 →
        (∀ c o, c ≠ z → c ≠ TO → c ≠ i1 → c ≠ i2 → s.heap.get? c = some o → h'.get? c = some o) →
        wpAny (model P w) A.in1 (updateSeq S (·.push (.ref s.heap.objs.size)) >>= fun _ => again (.builtin "list.extend.loop" ⟨[.ref S, .ref z, res], []⟩))
          (fun fin s' => match fin with | .done f => R (.ok f) s' | .again c' => c'.quiet = true ∧ codeAny (model P w) A c' R s') (fun e s' => R (.error e) s') { s with heap := h' } := fun h' hz1 g1 g2 gp gs gk => by
      have hS' : h'.get? S = some (lst acc c) := gk S _ D.n6.symm D.n7.symm D.n2.symm D.n3.symm hS
      have tS : s.heap.objs.size ≠ S := fun e => Nat.lt_irrefl _ (e ▸ low S (by simp))
      refine wpAny_bind ?_
      have asz : acc.size = i := by
        have := congrArg List.length hacc
        rw [List.length_map, Array.length_toList] at this
        omega
      refine wpAny_updateSeq (s := { s with heap := h' }) hS' rfl (wpAny_pure ⟨plainId_quiet F.plain_extend_loop _, ?_⟩) (by rw [asz]; omega) (by show (acc.push _).size ≤ sizeLine + 1; rw [Array.size_push, asz]; omega)
      have kk : ∀ b o, h'.get? b = some o → b ≠ S → (h'.update S (Obj.mapSeq (·.push (.ref s.heap.objs.size)))).get? b = some o := fun b o e n => (Heap.get?_update_other _ _ (Ne.symm n)).trans e
      have hSn := Heap.get?_update_self (Obj.mapSeq (·.push (.ref s.heap.objs.size))) hS' rfl
      have sz2 : (h'.update S (Obj.mapSeq (·.push (.ref s.heap.objs.size)))).objs.size = h'.objs.size := (Heap.SameBut.update h' S _).1
      have a' : At h' z TI TO i1 i2 l1 l2 xs ys (i + 1) := by
        refine ⟨gk _ _ D.d.TIz D.d.TITO D.d.TIi1 D.d.TIi2 a.ti, g1, g2, ?_, ?_, ?_⟩
        · obtain ⟨o, e, r⟩ := a.b1; exact ⟨o, gk _ o D.d.l1z D.d.l1TO D.d.l1i1 D.d.l1i2 e, r⟩
        · obtain ⟨o, e, r⟩ := a.b2; exact ⟨o, gk _ o D.d.l2z D.d.l2TO D.d.l2i1 D.d.l2i2 e, r⟩
        · rcases hz1 with h | ⟨T, oT, h, h2⟩
          · exact .inr ⟨s.heap.objs.size, false, _, h, gp⟩
          · exact .inr ⟨T, true, oT, h, h2⟩
      refine ih (i + 1) _ (acc.push (.ref s.heap.objs.size)) _ (Ts ++ [s.heap.objs.size]) (by omega) hlt ?_ hlow (a'.keep kk D.n1 D.n2 D.n3 D.n4 D.n5 D.n6 D.n7 ⟨_, hSn⟩) hSn ?_ ?_ ?_ ?_ ?_ ?_
      · show n0 ≤ (h'.update S _).objs.size
        rw [sz2, gs]
        omega
      · rw [Array.toList_push, hacc, List.map_append]
        rfl
      · rw [List.length_append, hl]
        rfl
      · intro T hm
        have e0 : s.heap.objs.size + 1 = (h'.update S (Obj.mapSeq (·.push (.ref s.heap.objs.size)))).objs.size := (sz2.trans gs).symm
        rcases List.mem_append.mp hm with hm | hm
        · exact ⟨(hT T hm).1, Nat.lt_of_lt_of_eq (Nat.lt_succ_of_lt (hT T hm).2) e0⟩
        · rw [List.mem_singleton.mp hm]
          exact ⟨hn0, Nat.lt_of_lt_of_eq (Nat.lt_succ_self _) e0⟩
      · rw [List.nodup_append]
        exact ⟨nd, by simp, fun a ha b hb e => by rw [List.mem_singleton] at hb; have := hT a ha; rw [e, hb] at this; exact Nat.lt_irrefl _ this.2⟩
      · intro j T hj
        have up : ∀ T, n0 ≤ T → T ≠ S ∧ T ≠ z ∧ T ≠ TO ∧ T ≠ i1 ∧ T ≠ i2 := fun T hT => by
          have m0 := hlow S (by simp)
          have m1 := hlow z (by simp)
          have m2 := hlow TO (by simp)
          have m3 := hlow i1 (by simp)
          have m4 := hlow i2 (by simp)
          exact ⟨fun e => absurd hT (Nat.not_le_of_lt (e ▸ m0)), fun e => absurd hT (Nat.not_le_of_lt (e ▸ m1)), fun e => absurd hT (Nat.not_le_of_lt (e ▸ m2)), fun e => absurd hT (Nat.not_le_of_lt (e ▸ m3)), fun e => absurd hT (Nat.not_le_of_lt (e ▸ m4))⟩
        by_cases hjl : j < Ts.length
        · rw [List.getElem?_append_left hjl] at hj
          obtain ⟨x', y', hx', hy', q⟩ := hp j T hj
          obtain ⟨u0, u1, u2, u3, u4⟩ := up T (hT T (List.mem_of_getElem? hj)).1
          exact ⟨x', y', hx', hy', kk _ _ (gk T _ u1 u2 u3 u4 q) u0⟩
        · rw [List.getElem?_append_right (by omega)] at hj
          have hj0 : j - Ts.length = 0 := by
            have := (List.getElem?_eq_some_iff.mp hj).1
            simp at this
            omega
          rw [hj0] at hj
          cases Option.some.inj hj
          have : j = i := by omega
          subst this
          exact ⟨x, y, hx, hy, kk _ _ gp tS⟩
      · intro h3 acc' c' Ts' r1 r2 r3 r4 r5 r6 r7
        refine hR h3 acc' c' Ts' r1 r2 r3 r4 r5 r6 fun b o hb e => r7 b o hb ?_
        simp only [List.mem_cons, List.not_mem_nil, or_false, not_or] at hb
        exact kk _ _ (gk b o hb.2.1 hb.2.2.2.1 hb.2.2.2.2.1 hb.2.2.2.2.2 e) hb.1
    rcases a.st with ⟨h1, x', y', h2⟩ | ⟨T, f, oT, h1, h2⟩
    · exact wpAny_bind (wpAny_pyNext_zip_item D.d h1 a.ti h2 a.a1 a.a2 a.b1 a.b2 hx hy fun h' q1 _ q3 q4 q5 q6 q7 => go h' (.inl q1) q3 q4 q5 q6 q7)
    · refine wpAny_bind (wpAny_pyNext_zip_item_held D.d h1 h2 a.ti a.a1 a.a2 a.b1 a.b2 hx hy fun h' q1 q3 q4 q5 q6 q7 => go h' (.inr ?_) q3 q4 q5 q6 fun c o c1 _ c3 c4 e => q7 c o c1 c3 c4 e)
      by_cases e1 : T = z
      · exact ⟨T, _, q1, by rw [e1]; exact q1⟩
      · by_cases e2 : T = i1
        · obtain ⟨o, e, _⟩ := q3
          exact ⟨T, o, q1, by rw [e2]; exact e⟩
        · by_cases e3 : T = i2
          · obtain ⟨o, e, _⟩ := q4
            exact ⟨T, o, q1, by rw [e3]; exact e⟩
          · exact ⟨T, oT, q1, q7 T _ e1 e2 e3 h2⟩

theorem ext_zip (hh : A.handled = none) (D : Ap S z TI TO i1 i2 l1 l2) (hn : min xs.size ys.size ≤ sizeLine) {R : Result → Shared → Prop} {res : Value} {s : Shared} {c₀ : Nat} (n0 : Nat) (hn0 : n0 ≤ s.heap.objs.size) (hlow : ∀ b, b ∈ [S, z, TI, TO, i1, i2, l1, l2] → b < n0)
    (hz : IsZip s.heap z TI TO .none) (a : At s.heap z TI TO i1 i2 l1 l2 xs ys 0) (hS : s.heap.get? S = some { cls := .type "list", data := .seq #[] c₀ })
    (hR : ∀ (h' : Heap) (acc' : Array Value) (c' : Nat) (Ts' : List Addr), h'.get? S = some (lst acc' c') → acc'.toList = Ts'.map Value.ref → Ts'.length = min xs.size ys.size → (∀ T ∈ Ts', n0 ≤ T) → Ts'.Nodup → (∀ (j : Nat) (T : Addr), Ts'[j]? = some T → ∃ x y, xs[j]? = some x ∧ ys[j]? = some y ∧ IsPair h' T x y) →
        (∀ b o, b ∉ [S, z, TI, TO, i1, i2] → s.heap.get? b = some o → h'.get? b = some o) → R (.ok (.ret res)) { s with heap := h' }) :
    wpAny (model P w) A.in1 (Builtin.List.listExtendWith (.ref S) (.ref z) res)
      (fun fin s' => match fin with | .done f => R (.ok f) s' | .again c' => c'.quiet = true ∧ codeAny (model P w) A c' R s') (fun e s' => R (.error e) s') s := by
  have hT : s.TypeIs (.ref z) "zip" := ⟨_, hz, rfl⟩
  unfold Builtin.List.listExtendWith
  refine wpAny_bind (wpAny_typeOf hT ?_)
  have h1 : Builtin.List.listSameRef (.ref S) (.ref z) = false := by simp [Builtin.List.listSameRef, D.n6.symm]
  have h2 : (Value.type "zip" == Value.type "list") = false := by decide
  have h3 : (Value.type "zip" == Value.type "tuple") = false := by decide
  simp only [h1, h2, h3, Bool.or_false, Bool.false_eq_true, if_false]
  refine wpAny_bind (wpAny_pyIter_zip hz ?_)
  refine wpAny_bind (wpAny_holding ?_)
  unfold Builtin.List.listLengthHint
  refine wpAny_bind (wpAny_specialOf hT zip_no_len ?_)
  show wpAny _ A.in1 (specialOf (Value.ref z) (Str.ofString "__length_hint__") >>= _) _ _ _
  refine wpAny_bind (wpAny_specialOf hT zip_no_hint ?_)
  refine wpAny_pure ?_
  show wpAny _ A.in1 (rule "list.extend.makes-room" >>= fun _ => Builtin.List.listTouch (.ref S) >>= fun _ =>
    again (.builtin "list.extend.loop" ⟨[.ref S, .ref z, res], []⟩)) _ _ _
  refine wpAny_bind (wpAny_rule ?_)
  refine wpAny_bind ?_
  show wpAny _ A.in1 (updateSeq S (·.push .none) >>= fun _ => updateSeq S (·.pop)) _ _ _
  refine wpAny_bind (wpAny_updateSeq hS rfl ?_)
  have hS₂ := Heap.get?_update_self (Obj.mapSeq (·.push Value.none)) hS rfl
  refine wpAny_updateSeq (hz := by seq_fits) hS₂ rfl ?_
  have hS₃ := Heap.get?_update_self (Obj.mapSeq (·.pop)) hS₂ rfl
  have oth : ∀ b o, s.heap.get? b = some o → b ≠ S → ((s.heap.update S (Obj.mapSeq (·.push Value.none))).update S (Obj.mapSeq (·.pop))).get? b = some o :=
    fun b o e hb => (Heap.get?_update_other _ _ (Ne.symm hb)).trans ((Heap.get?_update_other _ _ (Ne.symm hb)).trans e)
  have sz : ((s.heap.update S (Obj.mapSeq (·.push Value.none))).update S (Obj.mapSeq (·.pop))).objs.size = s.heap.objs.size := (Heap.SameBut.update _ S _).1.trans (Heap.SameBut.update _ S _).1
  refine wpAny_pure ⟨plainId_quiet F.plain_extend_loop _, drain hh D hn n0 _ 0 _ _ _ [] rfl (Nat.zero_le _) (Nat.le_trans hn0 (Nat.le_of_eq sz.symm)) hlow (a.keep oth D.n1 D.n2 D.n3 D.n4 D.n5 D.n6 D.n7 ⟨_, hS₃⟩) hS₃ rfl rfl (fun T hT => nomatch hT) List.nodup_nil (fun j T hj => by simp at hj) ?_⟩
  intro h' acc' c' Ts' r1 r2 r3 r4 r5 r6 r7
  refine hR h' acc' c' Ts' r1 r2 r3 r4 r5 r6 fun b o hb e => r7 b o hb (oth b o e ?_)
  simp only [List.mem_cons, List.not_mem_nil, or_false, not_or] at hb
  exact hb.1
theorem init_zip (hh : A.handled = none) (D : Ap S z TI TO i1 i2 l1 l2) (hn : min xs.size ys.size ≤ sizeLine) {R : Result → Shared → Prop} {s : Shared} (n0 : Nat) (hn0 : n0 ≤ s.heap.objs.size) (hlow : ∀ b, b ∈ [S, z, TI, TO, i1, i2, l1, l2] → b < n0)
    (hz : IsZip s.heap z TI TO .none) (a : At s.heap z TI TO i1 i2 l1 l2 xs ys 0) (hS : s.heap.get? S = some { cls := .type "list", data := .seq #[] })
    (hR : ∀ (h' : Heap) (acc' : Array Value) (c' : Nat) (Ts' : List Addr), h'.get? S = some (lst acc' c') → acc'.toList = Ts'.map Value.ref → Ts'.length = min xs.size ys.size → (∀ T ∈ Ts', n0 ≤ T) → Ts'.Nodup → (∀ (j : Nat) (T : Addr), Ts'[j]? = some T → ∃ x y, xs[j]? = some x ∧ ys[j]? = some y ∧ IsPair h' T x y) →
        (∀ b o, b ∉ [S, z, TI, TO, i1, i2] → s.heap.get? b = some o → h'.get? b = some o) → R (.ok (.ret .none)) { s with heap := h' }) :
    wpAny (model P w) A.in1 (Builtin.«list.__init__» ⟨[.ref S, .ref z], []⟩)
      (fun fin s' => match fin with | .done f => R (.ok f) s' | .again c' => c'.quiet = true ∧ codeAny (model P w) A c' R s') (fun e s' => R (.error e) s') s := by
  show wpAny _ A.in1 (do let old ← Builtin.List.listItems (.ref S); Builtin.List.listUpdate (.ref S) (fun _ => #[]); letGo old.toList.reverse; Builtin.List.listExtendWith (.ref S) (.ref z) .none) _ _ s
  refine wpAny_bind ?_
  unfold Builtin.List.listItems
  refine wpAny_bind (wpAny_seqItems hS rfl (wpAny_pure ?_))
  show wpAny _ A.in1 (updateSeq S (fun _ => #[]) >>= fun _ => letGo (#[] : Array Value).toList.reverse >>= fun _ => Builtin.List.listExtendWith (.ref S) (.ref z) .none) _ _ s
  refine wpAny_bind (wpAny_updateSeq hS rfl ?_)
  have hS₂ := Heap.get?_update_self (Obj.mapSeq (fun _ => (#[] : Array Value))) hS rfl
  have oth : ∀ b o, s.heap.get? b = some o → b ≠ S → (s.heap.update S (Obj.mapSeq (fun _ => (#[] : Array Value)))).get? b = some o :=
    fun b o e hb => (Heap.get?_update_other _ _ (Ne.symm hb)).trans e
  have sz : (s.heap.update S (Obj.mapSeq (fun _ => (#[] : Array Value)))).objs.size = s.heap.objs.size := (Heap.SameBut.update _ S _).1
  refine wpAny_bind (wpAny_letGo ?_)
  refine ext_zip hh D hn n0 (Nat.le_trans hn0 (Nat.le_of_eq sz.symm)) hlow (oth _ _ hz D.n6) (a.keep oth D.n1 D.n2 D.n3 D.n4 D.n5 D.n6 D.n7 ⟨_, hS₂⟩) hS₂ ?_
  intro h' acc' c' Ts' r1 r2 r3 r4 r5 r6 r7
  refine hR h' acc' c' Ts' r1 r2 r3 r4 r5 r6 fun b o hb e => r7 b o hb (oth b o e ?_)
  simp only [List.mem_cons, List.not_mem_nil, or_false, not_or] at hb
  exact hb.1
/-- list(zip(l1, l2)) -/
theorem call_listzip {E : Value → Shared → Prop} {Q : Value → Shared → Prop} {s : Shared} (hh : A.handled = none) (hl1 : s.heap.IsList l1 xs) (hl2 : s.heap.IsList l2 ys) (p1 : l1 < s.heap.objs.size) (p2 : l2 < s.heap.objs.size) (hn : min xs.size ys.size ≤ sizeLine)
    (hQ : ∀ (h' : Heap) (S : Addr) (acc' : Array Value) (c' : Nat) (Ts' : List Addr), s.heap.objs.size ≤ S → S ∉ Ts' → h'.get? S = some (lst acc' c') → acc'.toList = Ts'.map Value.ref → Ts'.length = min xs.size ys.size → (∀ T ∈ Ts', s.heap.objs.size ≤ T) → Ts'.Nodup → (∀ (j : Nat) (T : Addr), Ts'[j]? = some T → ∃ x y, xs[j]? = some x ∧ ys[j]? = some y ∧ IsPair h' T x y) →
        (∀ b o, s.heap.get? b = some o → h'.get? b = some o) → Q (.ref S) { s with heap := h' }) :
    wpAny (model P w) A (call (.type "zip") [.ref l1, .ref l2]) (fun v s1 => wpAny (model P w) A (call (.type "list") [v]) Q E s1) E s := by
  refine call_zip_2 hl1 hl2 fun h1 hz hTI hTO h1a h2a hsz hk => ?_
  have D0 := PySem.W.ktu_apart s.heap.objs.size l1 l2 p1 p2
  refine callType_codes (Q₁ := fun obj s₁ => obj = .ref h1.objs.size ∧ s₁ = { s with heap := h1.push { cls := .type "list", data := .seq #[] } }) F.called_list (F.typeCall_list_1 _) F.entry_list_init
    (code_list_new _ ⟨rfl, rfl⟩) fun obj s₁ h₁ => ?_
  obtain ⟨rfl, rfl⟩ := h₁
  have hS : (h1.push { cls := .type "list", data := .seq #[] }).get? h1.objs.size = some { cls := .type "list", data := .seq #[] } := Heap.get?_push_size _ rfl
  have kp : ∀ b o, h1.get? b = some o → (h1.push { cls := .type "list", data := .seq #[] }).get? b = some o := fun b o e => Heap.get?_push_of_some _ e
  have sz1 : (h1.push { cls := .type "list", data := .seq #[] }).objs.size = h1.objs.size + 1 := Heap.size_push ..
  have hh1 : A.in1.handled = none := hh
  have ne : ∀ {x : Nat}, x < h1.objs.size → x ≠ h1.objs.size := fun h => Nat.ne_of_lt h
  have le0 : s.heap.objs.size ≤ h1.objs.size := by omega
  have D : Ap h1.objs.size (s.heap.objs.size + 4) (s.heap.objs.size + 2) (s.heap.objs.size + 3) s.heap.objs.size (s.heap.objs.size + 1) l1 l2 := ⟨D0, ne (by omega), ne (by omega), ne (by omega), ne (Nat.lt_of_lt_of_le p1 le0), ne (Nat.lt_of_lt_of_le p2 le0), ne (by omega), ne (by omega)⟩
  have a : At (h1.push { cls := .type "list", data := .seq #[] }) (s.heap.objs.size + 4) (s.heap.objs.size + 2) (s.heap.objs.size + 3) s.heap.objs.size (s.heap.objs.size + 1) l1 l2 xs ys 0 :=
    ⟨kp _ _ hTI, h1a.at fun o e => kp _ o e, h2a.at fun o e => kp _ o e, by obtain ⟨o, e, r⟩ := hl1; exact ⟨o, kp _ o (hk _ o e), r⟩, by obtain ⟨o, e, r⟩ := hl2; exact ⟨o, kp _ o (hk _ o e), r⟩, .inl ⟨kp _ _ hz, _, _, kp _ _ hTO⟩⟩
  refine ⟨⟨_, hS, rfl⟩, F.args_list_init_2 _ _, init_zip (s := { s with heap := _ }) hh1 D hn (h1.objs.size + 1) (Nat.le_of_eq sz1.symm) (fun b hb => ?_) (kp _ _ hz) a hS ?_⟩
  · simp only [List.mem_cons, List.not_mem_nil, or_false] at hb
    have go : ∀ {x : Nat}, b = x → x < h1.objs.size + 1 → b < h1.objs.size + 1 := fun e h => e ▸ h
    rcases hb with e | e | e | e | e | e | e | e <;> first | exact go e (by omega) | exact go e (Nat.lt_succ_of_lt (Nat.lt_of_lt_of_le p1 le0)) | exact go e (Nat.lt_succ_of_lt (Nat.lt_of_lt_of_le p2 le0))
  · intro h' acc' c' Ts' r1 r2 r3 r4 r5 r6 r7
    refine ⟨rfl, hQ h' h1.objs.size acc' c' Ts' (Nat.le_of_lt (show s.heap.objs.size < h1.objs.size by omega)) (fun hm => ?_) r1 r2 r3 (fun T hT => ?_) r5 r6 fun b o e => ?_⟩
    · have h9 : h1.objs.size + 1 ≤ h1.objs.size := r4 _ hm
      exact absurd h9 (Nat.not_succ_le_self _)
    · have h9 : h1.objs.size + 1 ≤ (T : Nat) := r4 T hT
      show s.heap.objs.size ≤ (T : Nat)
      omega
    · have lt := Heap.lt_size e
      refine r7 b o (fun hm => ?_) (kp b o (hk b o e))
      simp only [List.mem_cons, List.not_mem_nil, or_false] at hm
      have go : ∀ {x : Nat}, b = x → ¬ x < s.heap.objs.size → False := fun e h => h (e ▸ lt)
      rcases hm with e | e | e | e | e | e <;> exact go e (by omega)
end

inductive Laid : Hp → List (V × V) → List V → Hp → Prop
  | nil (H : Hp) : Laid H [] [] H
  | snoc {H H' : Hp} {T : Addr} {ps : List (V × V)} {vs : List V} {x y : V} : Laid H ps vs H' → H' T = none → Laid H (ps ++ [(x, y)]) (vs ++ [.ref T]) (upd H' T (.tup [x, y]))
def tLz (K : PySem.W.Frag) (ta : TA) : TE := fun σ H Q => ta σ H fun vs H1 => ∃ a b xs ys, vs = [.ref a, .ref b] ∧ SqL K H1 a xs ∧ SqL K H1 b ys ∧ ∀ H2 q us, Laid H1 (xs.zip ys) us H2 → H2 q = none → Q (.ref q) (upd H2 q (.lst us))
section
variable {X : Cx} {e e2 : Expr} {ta : TA} {p p2 pos pos2 : Pos}
theorem lay {P : Program} {w : World} {H1 : Hp} {h' : Heap} {xs ys : List V} {its its2 : List Value} {Ts : List Addr} (hok : HOk P w H1 h') (rv : Vals xs its) (rv2 : Vals ys its2) (hl : Ts.length = min its.length its2.length) (nd : Ts.Nodup) (nw : ∀ T ∈ Ts, H1 T = none)
    (hp : ∀ (j : Nat) (T : Addr), Ts[j]? = some T → ∃ x y, its.toArray[j]? = some x ∧ its2.toArray[j]? = some y ∧ IsPair h' T x y) : ∀ j, j ≤ Ts.length → ∃ H2, Laid H1 ((xs.zip ys).take j) ((Ts.take j).map V.ref) H2 ∧ HOk P w H2 h' ∧ ∀ b, b ∉ Ts.take j → H2 b = H1 b := by
  intro j
  induction j with
  | zero => exact fun _ => ⟨H1, by simpa using Laid.nil H1, hok, fun _ _ => rfl⟩
  | succ j ih =>
    intro hj
    obtain ⟨H2, l2, ok2, n2⟩ := ih (by omega)
    obtain ⟨T, hT⟩ : ∃ T, Ts[j]? = some T := ⟨_, List.getElem?_eq_getElem (show j < Ts.length by omega)⟩
    obtain ⟨x, y, hx, hy, q⟩ := hp j T hT
    have hx : its[j]? = some x := by simpa using hx
    have hy : its2[j]? = some y := by simpa using hy
    obtain ⟨vx, hvx⟩ : ∃ v, xs[j]? = some v := ⟨_, List.getElem?_eq_getElem (show j < xs.length by have := rv.length; have := (List.getElem?_eq_some_iff.mp hx).1; omega)⟩
    obtain ⟨vy, hvy⟩ : ∃ v, ys[j]? = some v := ⟨_, List.getElem?_eq_getElem (show j < ys.length by have := rv2.length; have := (List.getElem?_eq_some_iff.mp hy).1; omega)⟩
    obtain ⟨u, hu, ru⟩ := rv.get hvx
    obtain ⟨u2, hu2, ru2⟩ := rv2.get hvy
    rw [hx] at hu
    rw [hy] at hu2
    cases hu
    cases hu2
    have nT : T ∉ Ts.take j := fun m => by
      obtain ⟨i, hi, ei⟩ := List.getElem_of_mem m
      have hj2 := (List.getElem?_eq_some_iff.mp hT).1
      rw [List.length_take] at hi
      rw [List.getElem_take] at ei
      exact (List.pairwise_iff_getElem.mp nd) i j (by omega) hj2 (by omega) (ei.trans (List.getElem?_eq_some_iff.mp hT).2.symm)
    have h2T : H2 T = none := (n2 T nT).trans (nw T (List.mem_of_getElem? hT))
    have tk : Ts.take (j + 1) = Ts.take j ++ [T] := by rw [List.take_add_one, hT]; rfl
    have tz : (xs.zip ys).take (j + 1) = (xs.zip ys).take j ++ [(vx, vy)] := by
      rw [List.take_add_one, (List.getElem?_zip_eq_some (z := (vx, vy))).mpr ⟨hvx, hvy⟩]
      rfl
    refine ⟨upd H2 T (.tup [vx, vy]), by rw [tk, tz, List.map_append]; exact .snoc l2 h2T, HOk.laidN ok2 (fun b u e => e) h2T ⟨by show 2 ≤ sizeLine; decide, [x, y], .cons ru (.cons ru2 .nil), ⟨_, q, rfl, _, rfl⟩⟩, fun b hb => ?_⟩
    rw [tk] at hb
    have h3 : b ≠ T := fun z => hb (by rw [z]; simp)
    rw [upd_ne h3]
    exact n2 b fun m => hb (List.mem_append_left _ m)
theorem pe_listZip (hc : X.calm = true) (hg : Gl X "list") (hm : X.mg "list" = none) (hg2 : Gl X "zip") (hm2 : X.mg "zip" = none) (ha : PA X [e, e2] ta)
    (hs : starEach [e, e2] X.env = (false, eval e X.env) :: starEach [e2] X.env := by rfl) (hpl : (backTo pos2 (starEach [e2] X.env)).any (·.1) = false := by rfl)
    (na : starEach [.Call (.Name "zip" p2) [e, e2] [] pos2] X.env = (false, eval (.Call (.Name "zip" p2) [e, e2] [] pos2) X.env) :: starEach [] X.env := by rfl) :
    PE X (.Call (.Name "list" p) [.Call (.Name "zip" p2) [e, e2] [] pos2] [] pos) (tLz X.K ta) := by
  refine ⟨fun pins s σ H Q I h => ?_⟩
  refine Call_ (ld_blt I hg hm boot_list (PyProof.Rows.callWith_type1 (args_cons (thn (Q := fun v s1 => wpAny (model X.prog X.w) X.A (call (.type "list") [v]) (EP X pins σ Q) X.xe s1)
    (Call_ (ld_blt I hg2 hm2 PyProof.Rows.boot_zip (PyProof.Rows.callWith_type1 (thn (ha.run pos2 pins s σ H _ I h) fun us s1 ⟨vs, H1, I1, r1, q1⟩ => ?_) hs hpl))) fun x s1 q => args_nil q) na) na))
  obtain ⟨a, b, xs, ys, ex, hqx, hqy, q⟩ := q1
  subst ex
  cases r1 with
  | cons r rr =>
    cases rr with
    | cons r' rr =>
      cases rr
      cases r
      cases r'
      obtain ⟨its, rv, p1, lx⟩ := I1.list hqx
      obtain ⟨its2, rv2, p2, ly⟩ := I1.list hqy
      have lrv := rv.length
      have lrv2 := rv2.length
      refine call_listzip (I1.ok.hd hc) p1.isList p2.isList p1.lt p2.lt (by simp; omega) fun h' S acc' c' Ts' g1 g2 g3 g4 g5 g6 g7 g8 g9 => ?_
      have g5' : Ts'.length = min its.length its2.length := by simpa using g5
      obtain ⟨H2, l2, ok2, n2⟩ := lay (I1.hok.kept g9) rv rv2 g5' g7 (fun T hT => I1.hok.fresh (g6 T hT)) g8 Ts'.length (Nat.le_refl _)
      rw [List.take_length] at l2 n2
      have hz : (xs.zip ys).take Ts'.length = xs.zip ys := List.take_of_length_le (by rw [List.length_zip, g5', lrv, lrv2]; exact Nat.le_refl _)
      rw [hz] at l2
      have hS2 : H2 S = none := (n2 S g2).trans (I1.hok.fresh g1)
      have old : ∀ b o, s1.heap.get? b = some o → b ≠ S ∧ b ∉ Ts' := fun b o e => ⟨Nat.ne_of_lt (Nat.lt_of_lt_of_le (Heap.lt_size e) g1), fun m => absurd (Heap.lt_size e) (Nat.not_lt_of_le (g6 b m))⟩
      have oldH : ∀ b u, H1 b = some u → (upd H2 S (.lst (Ts'.map V.ref))) b = some u := fun b u e => by
        have h1 := I1.hok.lt e
        have h2 : b ≠ S := Nat.ne_of_lt (Nat.lt_of_lt_of_le h1 g1)
        rw [upd_ne h2, n2 b fun m => absurd h1 (Nat.not_lt_of_le (g6 b m))]
        exact e
      have vals : ∀ l : List Addr, Vals (l.map V.ref) (l.map Value.ref) := fun l => by
        induction l with
        | nil => exact .nil
        | cons a l ih => exact .cons rfl ih
      refine ⟨.ref S, _, I1.un ⟨fun b o e _ _ _ => g9 b o e, fun b o e _ _ _ => ⟨o.slots, g9 b o e⟩, fun b o e n _ => ?_, fun b o e _ => ⟨o, g9 b o e⟩, fun b xs e => oldH b _ e, fun b o u e => oldH b _ e, fun b ps e => ⟨#[], by rw [oldH b _ e]; simp⟩⟩
        (HOk.laidN ok2 (fun b u e => e) hS2 ⟨?_, acc'.toList, c', by rw [g4]; exact vals Ts', by rw [Array.toArray_toList]; exact g3⟩), rfl, q H2 S _ l2 hS2⟩
      · rw [upd_ne (old b o e).1, n2 b (old b o e).2]
        exact n
      · rw [List.length_map, g5']
        omega
end
/-! ### the reading -/
section
variable [τ : Tbl] [β : Bas] {X : Cx} {a b : Expr} {tA : DA} {p p2 pos pos2 : Pos}
theorem laid_sim {K : PySem.W.Frag} {H H2 : Hp} {G : Gp} {ps : List (V × V)} {us : List V} (l : Laid H ps us H2) (g : SimG K H G) {xs ys : List V} {ds es : List D} (r : Reps K H xs ds) (r2 : Reps K H ys es) (n : Nat) (hp : ps = (xs.zip ys).take n) :
    SimG K H2 G ∧ Fr H G H2 G ∧ Reps K H2 us ((zipD ds es).take n) := by
  induction l generalizing n with
  | nil =>
    refine ⟨g, Fr.refl _ _, ?_⟩
    have h1 : ((xs.zip ys).take n).length = 0 := by rw [← hp]; rfl
    have e : (zipD ds es).take n = [] := by
      rw [← List.length_eq_zero_iff, List.length_take, zipD_len]
      rw [List.length_take, List.length_zip, r.length, r2.length] at h1
      exact h1
    rw [e]
    exact .nil
  | @snoc H' T ps vs x y l nT ih =>
    have hlen : ps.length + 1 ≤ n ∧ ps.length + 1 ≤ (xs.zip ys).length := by
      have := congrArg List.length hp
      rw [List.length_append, List.length_take] at this
      simp only [List.length_cons, List.length_nil] at this
      omega
    have e1 : ps = (xs.zip ys).take ps.length := by
      have := congrArg (List.take ps.length) hp
      rw [List.take_left, List.take_take, Nat.min_eq_left (by omega)] at this
      exact this
    obtain ⟨g', f', r'⟩ := ih ps.length e1
    have hxy : (xs.zip ys)[ps.length]? = some (x, y) := by
      have := congrArg (fun l => l[ps.length]?) hp
      simp only [List.getElem?_take] at this
      rw [if_pos (by omega), List.getElem?_append_right (Nat.le_refl _), Nat.sub_self] at this
      exact this.symm
    obtain ⟨hx, hy⟩ := List.getElem?_zip_eq_some.mp hxy
    have hxl := (List.getElem?_eq_some_iff.mp hx).1
    have hyl := (List.getElem?_eq_some_iff.mp hy).1
    have rl := r.length
    have rl2 := r2.length
    obtain ⟨d, hd⟩ : ∃ d, ds[ps.length]? = some d := ⟨_, List.getElem?_eq_getElem (show ps.length < ds.length by omega)⟩
    obtain ⟨e, he⟩ : ∃ e, es[ps.length]? = some e := ⟨_, List.getElem?_eq_getElem (show ps.length < es.length by omega)⟩
    obtain ⟨v, hv, rv⟩ := r.get hd
    obtain ⟨v2, hv2, rv2⟩ := r2.get he
    rw [hx] at hv
    rw [hy] at hv2
    cases hv
    cases hv2
    have t2 := tm_new (o := .tup [x, y]) nT
    have tt := g.tm f'
    refine ⟨g'.keep nT, f'.trans (Fr.tup nT), ?_⟩
    have ez : (zipD ds es).take n = (zipD ds es).take ps.length ++ [.tup [d, e]] := by
      have hn : n = ps.length + 1 ∨ (zipD ds es).length ≤ n := by
        have := congrArg List.length hp
        rw [List.length_append, List.length_take, List.length_zip] at this
        simp only [List.length_cons, List.length_nil] at this
        rw [zipD_len]
        omega
      have h1 : (zipD ds es).take (ps.length + 1) = (zipD ds es).take ps.length ++ [.tup [d, e]] := by
        rw [List.take_add_one]
        have : (zipD ds es)[ps.length]? = some (.tup [d, e]) := by
          unfold zipD
          rw [List.getElem?_map, (List.getElem?_zip_eq_some (z := (d, e))).mpr ⟨hd, he⟩]
          rfl
        rw [this]
        rfl
      have : (zipD ds es).take n = (zipD ds es).take (ps.length + 1) := by
        have h0 := congrArg List.length hp
        rw [List.length_append, List.length_take, List.length_zip] at h0
        simp only [List.length_cons, List.length_nil] at h0
        rcases hn with hn | hn
        · rw [hn]
        · rw [List.take_of_length_le hn, List.take_of_length_le (by rw [zipD_len] at hn ⊢; omega)]
      rw [this, h1]
    rw [ez]
    exact (r'.mono t2).append (.cons (.tup upd_same (.cons ((rv.mono tt).mono t2) (.cons ((rv2.mono tt).mono t2) .nil))) .nil)
def zLz (tA : DA) : DE := fun ρ G Q => tA ρ G fun ds G1 => match ds with
  | [.ref a, .ref b] => (match G1 a, G1 b with
    | some (.lst ds), some (.lst es) => ∀ q G2, G1 q = none → Z.At G1 q (.lst (zipD ds es)) G2 → Q (.ref q) G2
    | _, _ => False)
  | _ => False
theorem z_listZip (hg : Gl X "list") (hm : X.mg "list" = none) (hg2 : Gl X "zip") (hm2 : X.mg "zip" = none) (ha : ZA X [a, b] tA) (hc : X.calm = true := by rfl) (hs : starEach [a, b] X.env = (false, eval a X.env) :: starEach [b] X.env := by rfl) (hpl : (backTo pos2 (starEach [b] X.env)).any (·.1) = false := by rfl)
    (na : starEach [.Call (.Name "zip" p2) [a, b] [] pos2] X.env = (false, eval (.Call (.Name "zip" p2) [a, b] [] pos2) X.env) :: starEach [] X.env := by rfl) :
    ZE X (.Call (.Name "list" p) [.Call (.Name "zip" p2) [a, b] [] pos2] [] pos) (zLz tA) := PEi (pe_listZip hc hg hm hg2 hm2 ha hs hpl na) fun σ H Q q => by
  obtain ⟨ρ, G, Q0, hs, hg, h, k⟩ := q
  refine ⟨ρ, G, _, hs, hg, h, fun ds G1 xs H1 h1 f1 g1 r1 => ?_⟩
  split at h1
  · split at h1
    · rename_i a b _ _ ds es e e2
      cases r1 with
      | cons ra r1 =>
        cases r1 with
        | cons rb r1 =>
          cases r1
          cases ra
          cases rb
          obtain ⟨xs, hx, r⟩ := g1 _ _ e
          obtain ⟨ys, hy, r2⟩ := g1 _ _ e2
          refine ⟨_, _, xs, ys, rfl, SqL.of hx, SqL.of hy, fun H2 q us l hq => ?_⟩
          obtain ⟨g2, f2, r3⟩ := laid_sim l g1 r r2 (xs.zip ys).length (by rw [List.take_length])
          have ez : (zipD ds es).take (xs.zip ys).length = zipD ds es := List.take_of_length_le (by rw [zipD_len, List.length_zip, r.length, r2.length]; exact Nat.le_refl _)
          rw [ez] at r3
          exact CK.new (m := .lst _) (CK.go k (f1.trans f2)) hq g2 ⟨_, upd_same, r3.mono (tm_new hq)⟩ fun G' nn at_ => h1 q G' nn at_
    · cases h1
  · cases h1
end
end Zl

/-! the head told by names: defs, methods, facts, the tables of code objects (of methods too) -/
namespace Zh
open PySem PySem.Spec PyProof.Rows L2 He
abbrev AlQ : Type := Al × Bool
/-- the part that is looked at -/
def part (n : Nat) (g : Addr → Option Obj) : PySem.W.Frag := frT g (asG g n)
def obsQ (n : Nat) (fa : List Fa) (fn : List FnD) (tf : List Defn) (ex : PySem.W.Frag → Bool) (g : Addr → Option Obj) : AlQ := (obsE fa fn (part n g), ex (part n g) && tabsB g tf (part n g))
structure SaysQ (fa : List Fa) (fn : List FnD) (tf : List Defn) (ex : PySem.W.Frag → Bool) (h : Heap) (K : PySem.W.Frag) : Prop where
  e : SaysE fa fn K
  more : ex K = true
  tab : ∀ p ∈ tf, PySem.W.codeHdIn K (cT K p).1 (cT K p).2 = true ∧ K.lookup (cT K p).2 = none ∧ h.get? (cT K p).2 = some { cls := .none, data := .fields #[] }
theorem saysQ_of {n : Nat} {fa : List Fa} {fn : List FnD} {tf : List Defn} {ex : PySem.W.Frag → Bool} {h : Heap} (e : obsQ n fa fn tf ex h.get? = (valE fn, true)) : SaysQ fa fn tf ex h (part n h.get?) := by
  injection e with e1 e2
  have e3 := ba e2
  refine ⟨e1, e3.1, fun p hp => ?_⟩
  have e4 := ba (List.all_eq_true.mp e3.2 p hp)
  have e5 := e4.2
  generalize q : h.get? (cT (part n h.get?) p).2 = r at e5
  cases r with
  | none => cases e5
  | some o => exact ⟨e4.1, frT_none q e5, by rw [emptyTab_eq e5]⟩
def hookQ (n : Nat) (fa : List Fa) (fn : List FnD) (tf : List Defn) (ex : PySem.W.Frag → Bool) : PySem.W.Hook where
  α := AlQ
  obs s := obsQ n fa fn tf ex s.heap.get?
  val _ := (valE fn, true)
  says _ h := ∃ K : PySem.W.Frag, K.In h ∧ SaysQ fa fn tf ex h K
  of _ _ e := ⟨_, frT_in, saysQ_of e⟩
  keeps _ _ _ x k := by
    obtain ⟨K, hK, c⟩ := x
    exact ⟨K, hK.keeps k, c.e, c.more, fun p hp => ⟨(c.tab p hp).1, (c.tab p hp).2.1, k _ _ (c.tab p hp).2.2⟩⟩
theorem obsQ_eq {n : Nat} {fa : List Fa} {fn : List FnD} {tf : List Defn} {ex : PySem.W.Frag → Bool} {g : Addr → Option Obj} {s : Shared} (h : ∀ a, g a = s.heap.get? a) : obsQ n fa fn tf ex g = (hookQ n fa fn tf ex).obs s := by
  obtain rfl : g = s.heap.get? := funext h
  rfl
/-- what a def is, by where it stands -/
structure Def (K : PySem.W.Frag) (d : FnD) (c P : Addr) : Prop where
  ex : ∃ (oc kV doc pm ct : Value) (od an : Option Addr) (osl : Array (Option Value)), K.lookup (fAd K d.at_) = some ⟨oc, od, .func (PySem.W.fnOf d.name d.qual d.params d.body d.scope .none kV doc pm an (.ref c) ct), osl⟩
  cd : PySem.W.codeIn K (.ref c) d.qual = true
theorem SaysQ.def_ {fa : List Fa} {fn : List FnD} {tf : List Defn} {ex : PySem.W.Frag → Bool} {h : Heap} {K : PySem.W.Frag} (s : SaysQ fa fn tf ex h K) (i : Nat) {d : FnD} (hd : fn[i]? = some d := by rfl) : Def K d (cT K d.at_).1 (cT K d.at_).2 := by
  obtain ⟨oc, od, osl, kV, doc, pm, an, cdv, ct, lk, hc⟩ := s.e.def_ i hd
  obtain ⟨c, rfl⟩ := codeIn_ref hc
  have e : codeOf K d.at_ = c := codeOf_eq lk rfl
  refine ⟨⟨oc, kV, doc, pm, ct, od, an, osl, ?_⟩, ?_⟩
  · show K.lookup (fAd K d.at_) = some ⟨oc, od, .func (PySem.W.fnOf d.name d.qual d.params d.body d.scope .none kV doc pm an (.ref (codeOf K d.at_)) ct), osl⟩
    rw [e]
    exact lk
  · show PySem.W.codeIn K (.ref (codeOf K d.at_)) d.qual = true
    rw [e]
    exact hc
/-- the end: K and all that is known of it come with the heap -/
theorem walk_q {l : PySem.W.OpenLaw} {n k : Nat} {q : Program} {loose : List Str} {XP : (Str → Option Value) → Heap → Prop} {YP : World → Heap → Prop} {d : DefRec} {CX : World → CXT} {x : Str} (h1 : l.most = some n) (h2 : n ≤ sizeLine) (h3 : d.params.defaults = []) (h4 : Room k callerA)
    (h6 : ∀ (w : World) (mg : Str → Option Value) (fa : Addr) (h : Heap), YP w h → h.Ns mainGlobals mg → mg d.name = some (.ref fa) → ∃ K : PySem.W.Frag, K.In h ∧ LamX.LawAtS l w K (CX w) k n x mg fa h)
    (h7 : ∀ (w : World) (H : Hp) (s : Shared) (e : Value) (s' : Shared), CX w [] H s (fun _ _ _ => False) e s' → False) : PySem.W.WalkO q loose XP YP l.row.toRowW d [] (fun f vs => PySem.call f vs) := by
  refine Att.attach_callB h1 h3 fun w z0 z1 mg mb fa o pm cd doc a vs ns GG YY o1 o2 o3 hm obj nts len bits gns => ?_
  obtain ⟨K, kx, fd, cs, sp, a1, a2, a3, a4, a5, a6⟩ := h6 w mg fa _ YY GG.T.g hm
  exact LamX.law_callTs kx GG.T.g GG.T.b GG.T.builtins GG.T.nolimit gns a1 a2 a3 GG.T.bmain obj nts (Nat.le_trans len h2) h4 a6 a4 (fun H t u => a5 H a ns len bits t u) fun H e s' => h7 w H z1 e s'
end Zh

/-! kinds and their unification, in plain Lean -/
namespace K05
open PySem
inductive Hd where
  | int | bool | unit | list | ref | fn | pair
  | data (name : Str)
  deriving DecidableEq
inductive Kd where
  | any (n : Int)
  | nd (h : Hd) (as : List Kd)
namespace Kd
theorem ind {p : Kd → Prop} (ha : ∀ n, p (.any n)) (hn : ∀ h as, (∀ a ∈ as, p a) → p (.nd h as)) : ∀ k, p k := fun k =>
  Kd.rec (motive_1 := p) (motive_2 := fun as => ∀ a ∈ as, p a) ha (fun h as ih => hn h as ih) (fun a h => by cases h) (fun a as h1 h2 b hb => by
    rcases List.mem_cons.mp hb with rfl | hb
    · exact h1
    · exact h2 b hb) k
end Kd
mutual
def sub (σ : Int → Kd) : Kd → Kd
  | .any n => σ n
  | .nd h as => .nd h (subs σ as)
def subs (σ : Int → Kd) : List Kd → List Kd
  | [] => []
  | a :: as => sub σ a :: subs σ as
end
mutual
def vars : Kd → List Int
  | .any n => [n]
  | .nd _ as => varss as
def varss : List Kd → List Int
  | [] => []
  | a :: as => vars a ++ varss as
end
mutual
def dep : Kd → Nat
  | .any _ => 0
  | .nd _ as => deps as
def deps : List Kd → Nat
  | [] => 0
  | a :: as => max (dep a + 1) (deps as)
end
mutual
def sz : Kd → Nat
  | .any _ => 1
  | .nd _ as => 1 + szs as
def szs : List Kd → Nat
  | [] => 0
  | a :: as => sz a + szs as
end
theorem subs_map (σ : Int → Kd) : ∀ as, subs σ as = as.map (sub σ)
  | [] => rfl
  | a :: as => by rw [subs, subs_map σ as, List.map_cons]
theorem sub_nd (σ : Int → Kd) (h : Hd) (as : List Kd) : sub σ (.nd h as) = .nd h (as.map (sub σ)) := by rw [sub, subs_map]
theorem mem_varss {x : Int} : ∀ {as : List Kd}, x ∈ varss as ↔ ∃ a ∈ as, x ∈ vars a
  | [] => by simp [varss]
  | a :: as => by rw [varss, List.mem_append, mem_varss]; simp
theorem vars_nd {h : Hd} {as : List Kd} {x : Int} : x ∈ vars (.nd h as) ↔ ∃ a ∈ as, x ∈ vars a := by rw [vars]; exact mem_varss
theorem le_deps {a : Kd} : ∀ {as : List Kd}, a ∈ as → dep a + 1 ≤ deps as
  | b :: as, h => by
    rw [deps]
    rcases List.mem_cons.mp h with rfl | h
    · exact Nat.le_max_left _ _
    · exact Nat.le_trans (le_deps h) (Nat.le_max_right _ _)
theorem deps_le {n : Nat} : ∀ {as : List Kd}, (∀ a ∈ as, dep a + 1 ≤ n) → deps as ≤ n
  | [], _ => Nat.zero_le _
  | b :: as, h => by
    rw [deps]
    exact Nat.max_le.mpr ⟨h b List.mem_cons_self, deps_le fun a ha => h a (List.mem_cons_of_mem _ ha)⟩
theorem dep_child {h : Hd} {as : List Kd} {a : Kd} (m : a ∈ as) : dep a < dep (.nd h as) := by rw [dep.eq_2]; exact le_deps m
theorem sub_congr {σ τ : Int → Kd} : ∀ k, (∀ x ∈ vars k, σ x = τ x) → sub σ k = sub τ k := Kd.ind (fun n h => h n (by simp [vars])) fun hd as ih h => by
  rw [sub_nd, sub_nd]
  congr 1
  exact List.map_congr_left fun a ha => ih a ha fun x hx => h x (vars_nd.mpr ⟨a, ha, hx⟩)
theorem sub_any : ∀ k, sub .any k = k := Kd.ind (fun n => rfl) fun hd as ih => by
  rw [sub_nd]
  congr 1
  conv => rhs; rw [← List.map_id as]
  exact List.map_congr_left ih
theorem sub_sub (σ τ : Int → Kd) : ∀ k, sub σ (sub τ k) = sub (fun x => sub σ (τ x)) k := Kd.ind (fun n => rfl) fun hd as ih => by
  rw [sub_nd, sub_nd, sub_nd, List.map_map]
  congr 1
  exact List.map_congr_left ih
theorem vars_sub {σ : Int → Kd} {x : Int} : ∀ {k : Kd}, x ∈ vars (sub σ k) ↔ ∃ y ∈ vars k, x ∈ vars (σ y) := fun {k} => Kd.ind (p := fun k => x ∈ vars (sub σ k) ↔ ∃ y ∈ vars k, x ∈ vars (σ y)) (fun n => by simp [sub, vars]) (fun hd as ih => by
  rw [sub_nd, vars_nd]
  constructor
  · rintro ⟨b, hb, hx⟩
    obtain ⟨a, ha, rfl⟩ := List.mem_map.mp hb
    obtain ⟨y, hy, h⟩ := (ih a ha).mp hx
    exact ⟨y, vars_nd.mpr ⟨a, ha, hy⟩, h⟩
  · rintro ⟨y, hy, h⟩
    obtain ⟨a, ha, hy⟩ := vars_nd.mp hy
    exact ⟨_, List.mem_map.mpr ⟨a, ha, rfl⟩, (ih a ha).mpr ⟨y, hy, h⟩⟩) k
theorem sz_child {h : Hd} {a : Kd} : ∀ {as : List Kd}, a ∈ as → sz a < sz (.nd h as)
  | b :: as, m => by
    rw [sz, szs]
    rcases List.mem_cons.mp m with rfl | m
    · omega
    · have := sz_child (h := h) m
      rw [sz] at this
      omega
theorem sz_var {σ : Int → Kd} {x : Int} : ∀ k, x ∈ vars k → sz (σ x) ≤ sz (sub σ k) := Kd.ind (fun n h => by
  rw [vars, List.mem_singleton] at h
  rw [h]
  exact Nat.le_refl _) fun hd as ih h => by
  obtain ⟨a, ha, hx⟩ := vars_nd.mp h
  rw [sub_nd]
  exact Nat.le_of_lt (Nat.lt_of_le_of_lt (ih a ha hx) (sz_child (List.mem_map.mpr ⟨a, ha, rfl⟩)))
/-- no finite solution where a variable would hold itself -/
theorem occurs_no {σ : Int → Kd} {x : Int} {h : Hd} {as : List Kd} (m : x ∈ vars (.nd h as)) : σ x ≠ sub σ (.nd h as) := fun e => by
  obtain ⟨a, ha, hx⟩ := vars_nd.mp m
  have h1 := sz_var (σ := σ) a hx
  have h2 : sz (sub σ a) < sz (sub σ (.nd h as)) := by
    rw [sub_nd]
    exact sz_child (List.mem_map.mpr ⟨a, ha, rfl⟩)
  rw [← e] at h2
  omega
/-! ### one variable replaced -/
def put1 (x : Int) (t : Kd) : Int → Kd := fun y => if y = x then t else .any y
theorem put1_same {x : Int} {t : Kd} : put1 x t x = t := if_pos rfl
theorem put1_ne {x y : Int} {t : Kd} (h : y ≠ x) : put1 x t y = .any y := if_neg h
theorem put1_out {x : Int} {t k : Kd} (h : x ∉ vars k) : sub (put1 x t) k = k := by
  conv => rhs; rw [← sub_any k]
  exact sub_congr k fun y hy => put1_ne fun e => h (e ▸ hy)
theorem vars_put1 {x y : Int} {t k : Kd} (h : y ∈ vars (sub (put1 x t) k)) : y ∈ vars t ∨ (y ∈ vars k ∧ y ≠ x) := by
  obtain ⟨z, hz, h⟩ := vars_sub.mp h
  unfold put1 at h
  split at h
  · exact .inl h
  · rename_i ne
    rw [vars, List.mem_singleton] at h
    subst h
    exact .inr ⟨hz, ne⟩
theorem sub_put1 {θ : Int → Kd} {x : Int} {t : Kd} (e : θ x = sub θ t) (k : Kd) : sub θ (sub (put1 x t) k) = sub θ k := by
  rw [sub_sub]
  refine sub_congr k fun y _ => ?_
  unfold put1
  split
  · rename_i h
    rw [h, e]
  · rfl
/-! ### a table in its solved form -/
abbrev Tb := List (Int × Kd)
def dom (τ : Tb) : List Int := τ.map (·.1)
def SolT (θ : Int → Kd) (τ : Tb) : Prop := ∀ p ∈ τ, θ p.1 = sub θ p.2
structure Form (τ : Tb) (φ : Int → Kd) (r : Int → Nat) : Prop where
  nod : (dom τ).Nodup
  out : ∀ v, v ∉ dom τ → φ v = .any v
  eqs : ∀ p ∈ τ, φ p.1 = sub φ p.2
  vrs : ∀ v x, x ∈ vars (φ v) → x ∉ dom τ
  mg : ∀ θ, SolT θ τ → ∀ v, θ v = sub θ (φ v)
  rank : ∀ p ∈ τ, ∀ y ∈ vars p.2, r y < r p.1
theorem Form.nil : Form [] .any fun _ => 0 := ⟨List.nodup_nil, fun _ _ => rfl, fun _ h => (by cases h), fun _ _ _ h => (by cases h), fun θ _ v => rfl, fun _ h => (by cases h)⟩
theorem Form.mgk {τ : Tb} {φ : Int → Kd} {r : Int → Nat} (F : Form τ φ r) {θ : Int → Kd} (h : SolT θ τ) (k : Kd) : sub θ (sub φ k) = sub θ k := by
  rw [sub_sub]
  exact sub_congr k fun y _ => (F.mg θ h y).symm
theorem Form.sol {τ : Tb} {φ : Int → Kd} {r : Int → Nat} (F : Form τ φ r) : SolT φ τ := F.eqs
theorem Form.idem {τ : Tb} {φ : Int → Kd} {r : Int → Nat} (F : Form τ φ r) (k : Kd) : sub φ (sub φ k) = sub φ k := F.mgk F.sol k
theorem Form.vars_k {τ : Tb} {φ : Int → Kd} {r : Int → Nat} (F : Form τ φ r) {k : Kd} {x : Int} (h : x ∈ vars (sub φ k)) : x ∉ dom τ := by
  obtain ⟨y, _, h⟩ := vars_sub.mp h
  exact F.vrs y x h
theorem le_maxr (r : Int → Nat) : ∀ {l : List Int} {x : Int}, x ∈ l → r x ≤ (l.map r).foldr max 0
  | y :: l, x, h => by
    rw [List.map_cons, List.foldr_cons]
    rcases List.mem_cons.mp h with rfl | h
    · exact Nat.le_max_left _ _
    · exact Nat.le_trans (le_maxr r h) (Nat.le_max_right _ _)
/-- a new row -/
theorem Form.snoc {τ : Tb} {φ : Int → Kd} {r : Int → Nat} (F : Form τ φ r) {v : Int} {t : Kd} (hv : v ∉ dom τ) (ho : v ∉ vars (sub φ t)) :
    ∃ φ' r', Form (τ ++ [(v, t)]) φ' r' ∧ ∀ k, sub φ' k = sub (put1 v (sub φ t)) (sub φ k) := by
  have key : ∀ k, sub (fun y => sub (put1 v (sub φ t)) (φ y)) k = sub (put1 v (sub φ t)) (sub φ k) := fun k => by rw [sub_sub]
  have vt : ∀ z ∈ vars t, v ∉ vars (φ z) := fun z hz h => ho (vars_sub.mpr ⟨z, hz, h⟩)
  have hm : ∀ {y}, y ∈ dom (τ ++ [(v, t)]) ↔ y ∈ dom τ ∨ y = v := fun {y} => by unfold dom; simp
  classical
  refine ⟨fun y => sub (put1 v (sub φ t)) (φ y), fun y => r y + if v ∈ vars (φ y) then ((vars t).map r).foldr max 0 + 1 else 0, ⟨?_, fun y hy => ?_, fun p hp => ?_, fun y x hx => ?_, fun θ h y => ?_, fun p hp y hy => ?_⟩, key⟩
  · have : dom (τ ++ [(v, t)]) = dom τ ++ [v] := by unfold dom; simp
    rw [this, List.nodup_append]
    exact ⟨F.nod, by simp, fun a ha b hb e => by rw [List.mem_singleton] at hb; rw [e, hb] at ha; exact hv ha⟩
  · have h1 : y ∉ dom τ ∧ y ≠ v := ⟨fun h => hy (hm.mpr (.inl h)), fun h => hy (hm.mpr (.inr h))⟩
    show sub _ (φ y) = _
    rw [F.out y h1.1]
    exact put1_ne h1.2
  · rw [key]
    rcases List.mem_append.mp hp with hp | hp
    · rw [F.eqs p hp]
    · rw [List.mem_singleton.mp hp]
      show sub _ (φ v) = sub _ (sub φ t)
      rw [F.out v hv, put1_out ho]
      exact put1_same
  · rcases vars_put1 hx with h | ⟨h, ne⟩
    · exact fun m => (hm.mp m).elim (fun m => F.vars_k h m) fun e => ho (e ▸ h)
    · exact fun m => (hm.mp m).elim (fun m => F.vrs y x h m) ne
  · have h1 : SolT θ τ := fun p hp => h p (List.mem_append_left _ hp)
    have h2 : θ v = sub θ t := h (v, t) (List.mem_append_right _ (List.mem_singleton.mpr rfl))
    rw [sub_put1 (by rw [F.mgk h1, h2])]
    exact F.mg θ h1 y
  · rcases List.mem_append.mp hp with hp | hp
    · have h1 := F.rank p hp y hy
      have h2 : v ∈ vars (φ y) → v ∈ vars (φ p.1) := fun h => by
        rw [F.eqs p hp]
        exact vars_sub.mpr ⟨y, hy, h⟩
      show r y + _ < r p.1 + _
      by_cases h3 : v ∈ vars (φ y)
      · rw [if_pos h3, if_pos (h2 h3)]
        omega
      · rw [if_neg h3]
        omega
    · rw [List.mem_singleton.mp hp] at hy ⊢
      have hy : y ∈ vars t := hy
      show r y + _ < r v + _
      rw [if_neg (vt y hy), if_pos (by rw [F.out v hv]; simp [vars])]
      have := le_maxr r hy
      omega
/-- what is asked of solutions when a row comes -/
theorem SolT.snoc {θ : Int → Kd} {τ : Tb} {v : Int} {t : Kd} : SolT θ (τ ++ [(v, t)]) ↔ SolT θ τ ∧ θ v = sub θ t := by
  unfold SolT
  constructor
  · exact fun h => ⟨fun p hp => h p (List.mem_append_left _ hp), h (v, t) (List.mem_append_right _ (List.mem_singleton.mpr rfl))⟩
  · rintro ⟨h1, h2⟩ p hp
    rcases List.mem_append.mp hp with hp | hp
    · exact h1 p hp
    · rw [List.mem_singleton.mp hp]
      exact h2
end K05

/-! how deep terms get, and how many turns the law takes -/
namespace K05
open PySem
/-! ### the inner subterms -/
mutual
def inn : Kd → List Kd
  | .any _ => []
  | .nd _ [] => []
  | .nd h (a :: as) => .nd h (a :: as) :: (inn a ++ inns as)
def inns : List Kd → List Kd
  | [] => []
  | a :: as => inn a ++ inns as
end
theorem mem_inns {s : Kd} : ∀ {as : List Kd}, s ∈ inns as ↔ ∃ a ∈ as, s ∈ inn a
  | [] => by simp [inns]
  | a :: as => by rw [inns, List.mem_append, mem_inns]; simp
theorem mem_inn {s : Kd} {h : Hd} {as : List Kd} : s ∈ inn (.nd h as) ↔ (as ≠ [] ∧ s = .nd h as) ∨ ∃ a ∈ as, s ∈ inn a := by
  cases as with
  | nil => simp [inn]
  | cons a as =>
    rw [inn, List.mem_cons, List.mem_append, mem_inns]
    constructor
    · rintro (h | h | ⟨b, hb, h⟩)
      · exact .inl ⟨by simp, h⟩
      · exact .inr ⟨a, List.mem_cons_self, h⟩
      · exact .inr ⟨b, List.mem_cons_of_mem _ hb, h⟩
    · rintro (⟨_, h⟩ | ⟨b, hb, h⟩)
      · exact .inl h
      · rcases List.mem_cons.mp hb with rfl | hb
        · exact .inr (.inl h)
        · exact .inr (.inr ⟨b, hb, h⟩)
theorem inn_sz {s : Kd} : ∀ k, s ∈ inn k → sz s ≤ sz k := Kd.ind (fun n h => by cases h) fun hd as ih h => by
  rcases mem_inn.mp h with ⟨_, e⟩ | ⟨a, ha, h⟩
  · rw [e]; exact Nat.le_refl _
  · exact Nat.le_of_lt (Nat.lt_of_le_of_lt (ih a ha h) (sz_child ha))
theorem inn_sub {σ : Int → Kd} {s : Kd} : ∀ k, s ∈ inn (sub σ k) → (∃ s0 ∈ inn k, s = sub σ s0) ∨ ∃ y ∈ vars k, s ∈ inn (σ y) := Kd.ind (fun n h => .inr ⟨n, by simp [vars], h⟩) fun hd as ih h => by
  rw [sub_nd] at h
  rcases mem_inn.mp h with ⟨ne, e⟩ | ⟨b, hb, h⟩
  · exact .inl ⟨.nd hd as, mem_inn.mpr (.inl ⟨fun z => ne (by rw [z]; rfl), rfl⟩), by rw [e, sub_nd]⟩
  · obtain ⟨a, ha, rfl⟩ := List.mem_map.mp hb
    rcases ih a ha h with ⟨s0, h0, e⟩ | ⟨y, hy, h⟩
    · exact .inl ⟨s0, mem_inn.mpr (.inr ⟨a, ha, h0⟩), e⟩
    · exact .inr ⟨y, vars_nd.mpr ⟨a, ha, hy⟩, h⟩
theorem inn_trans {s u : Kd} : ∀ k, u ∈ inn k → s ∈ inn u → s ∈ inn k := Kd.ind (fun n h => by cases h) fun hd as ih h hs => by
  rcases mem_inn.mp h with ⟨_, e⟩ | ⟨a, ha, h⟩
  · rw [← e]; exact hs
  · exact mem_inn.mpr (.inr ⟨a, ha, ih a ha h hs⟩)
/-! ### the depth as data -/
def wt : Hd → Nat
  | .data _ => 2
  | _ => 1
theorem wt_le (h : Hd) : wt h ≤ 2 := by cases h <;> simp [wt]
theorem wt_pos (h : Hd) : 1 ≤ wt h := by cases h <;> simp [wt]
def wk : Kd → Nat
  | .any _ => 1
  | .nd h _ => wt h
mutual
def wd : Kd → Nat
  | .any _ => 1
  | .nd h as => wt h + wds as
def wds : List Kd → Nat
  | [] => 0
  | a :: as => max (wd a) (wds as)
end
theorem le_wds {a : Kd} : ∀ {as : List Kd}, a ∈ as → wd a ≤ wds as
  | b :: as, h => by
    rw [wds]
    rcases List.mem_cons.mp h with rfl | h
    · exact Nat.le_max_left _ _
    · exact Nat.le_trans (le_wds h) (Nat.le_max_right _ _)
theorem wds_max : ∀ {as : List Kd}, as ≠ [] → ∃ a ∈ as, wds as = wd a
  | [a], _ => ⟨a, List.mem_cons_self, by rw [wds, wds]; exact Nat.max_eq_left (Nat.zero_le _)⟩
  | a :: b :: as, _ => by
    obtain ⟨c, hc, e⟩ := wds_max (as := b :: as) (by simp)
    rw [wds]
    rcases Nat.le_total (wd a) (wds (b :: as)) with h | h
    · exact ⟨c, List.mem_cons_of_mem _ hc, by rw [Nat.max_eq_right h, e]⟩
    · exact ⟨a, List.mem_cons_self, Nat.max_eq_left h⟩
theorem deps_max : ∀ {as : List Kd}, as ≠ [] → ∃ a ∈ as, deps as = dep a + 1
  | [a], _ => ⟨a, List.mem_cons_self, by rw [deps, deps]; exact Nat.max_eq_left (Nat.zero_le _)⟩
  | a :: b :: as, _ => by
    obtain ⟨c, hc, e⟩ := deps_max (as := b :: as) (by simp)
    rw [deps]
    rcases Nat.le_total (dep a + 1) (deps (b :: as)) with h | h
    · exact ⟨c, List.mem_cons_of_mem _ hc, by rw [Nat.max_eq_right h, e]⟩
    · exact ⟨a, List.mem_cons_self, Nat.max_eq_left h⟩
/-- chains of inner subterms -/
theorem chain_w : ∀ k : Kd, ∃ c : List Kd, c.Nodup ∧ (∀ s ∈ c, s ∈ inn k) ∧ wd k ≤ 2 + (c.map wk).sum := Kd.ind (fun n => ⟨[], List.nodup_nil, fun s h => (by cases h), by simp [wd]⟩) fun hd as ih => by
  by_cases e : as = []
  · subst e
    exact ⟨[], List.nodup_nil, fun s h => (by cases h), by rw [wd, wds]; have := wt_le hd; simp; omega⟩
  · obtain ⟨a, ha, hw⟩ := wds_max e
    obtain ⟨c, n, m, l⟩ := ih a ha
    refine ⟨.nd hd as :: c, List.nodup_cons.mpr ⟨fun h => ?_, n⟩, fun s hs => ?_, ?_⟩
    · have := inn_sz a (m _ h)
      have := sz_child (h := hd) ha
      omega
    · rcases List.mem_cons.mp hs with rfl | hs
      · exact mem_inn.mpr (.inl ⟨e, rfl⟩)
      · exact mem_inn.mpr (.inr ⟨a, ha, m s hs⟩)
    · rw [wd, hw, List.map_cons, List.sum_cons]
      show wt hd + wd a ≤ 2 + (wt hd + _)
      omega
theorem chain_d : ∀ k : Kd, ∃ c : List Kd, c.Nodup ∧ (∀ s ∈ c, s ∈ inn k) ∧ dep k ≤ c.length := Kd.ind (fun n => ⟨[], List.nodup_nil, fun s h => (by cases h), by simp [dep]⟩) fun hd as ih => by
  by_cases e : as = []
  · subst e
    exact ⟨[], List.nodup_nil, fun s h => (by cases h), by rw [dep, deps]; simp⟩
  · obtain ⟨a, ha, hw⟩ := deps_max e
    obtain ⟨c, n, m, l⟩ := ih a ha
    refine ⟨.nd hd as :: c, List.nodup_cons.mpr ⟨fun h => ?_, n⟩, fun s hs => ?_, ?_⟩
    · have := inn_sz a (m _ h)
      have := sz_child (h := hd) ha
      omega
    · rcases List.mem_cons.mp hs with rfl | hs
      · exact mem_inn.mpr (.inl ⟨e, rfl⟩)
      · exact mem_inn.mpr (.inr ⟨a, ha, m s hs⟩)
    · rw [dep, hw, List.length_cons]
      omega
theorem sum_sub {α : Type} (f : α → Nat) : ∀ {c L : List α}, c.Nodup → (∀ s ∈ c, s ∈ L) → (c.map f).sum ≤ (L.map f).sum
  | [], L, _, _ => by simp
  | a :: c, L, n, h => by
    obtain ⟨l1, l2, e⟩ := List.append_of_mem (h a List.mem_cons_self)
    have n' := List.nodup_cons.mp n
    have ih := sum_sub f (c := c) (L := l1 ++ l2) n'.2 fun s hs => by
      have := h s (List.mem_cons_of_mem _ hs)
      rw [e] at this
      rcases List.mem_append.mp this with h1 | h1
      · exact List.mem_append_left _ h1
      · rcases List.mem_cons.mp h1 with rfl | h1
        · exact absurd hs n'.1
        · exact List.mem_append_right _ h1
    rw [e, List.map_cons, List.sum_cons, List.map_append, List.sum_append, List.map_cons, List.sum_cons]
    rw [List.map_append, List.sum_append] at ih
    omega
theorem wd_le {k : Kd} {L : List Kd} (h : ∀ s ∈ inn k, s ∈ L) : wd k ≤ 2 + (L.map wk).sum := by
  obtain ⟨c, n, m, l⟩ := chain_w k
  have := sum_sub wk n fun s hs => h s (m s hs)
  omega
theorem dep_le {k : Kd} {L : List Kd} (h : ∀ s ∈ inn k, s ∈ L) : dep k ≤ L.length := by
  obtain ⟨c, n, m, l⟩ := chain_d k
  have := sum_sub (fun _ => 1) n fun s hs => h s (m s hs)
  have e : ∀ l : List Kd, (l.map fun _ => 1).sum = l.length := fun l => by
    induction l with
    | nil => rfl
    | cons a l ih => rw [List.map_cons, List.sum_cons, ih, List.length_cons]; omega
  rw [e, e] at this
  omega
/-- a term replaced in all: the inner subterms go along -/
theorem inn_put {L : List Kd} {x : Int} {t k : Kd} (hx : x ∉ vars t) (ht : ∀ s ∈ inn t, s ∈ L) (hk : ∀ s ∈ inn k, s ∈ L) : ∀ s ∈ inn (sub (put1 x t) k), s ∈ L.map (sub (put1 x t)) := fun s hs => by
  have low : ∀ s ∈ inn t, s ∈ L.map (sub (put1 x t)) := fun s hs => by
    have nv : x ∉ vars s := fun h => by
      have : ∀ k, s ∈ inn k → x ∈ vars k := Kd.ind (fun n h => by cases h) fun hd as ih hk => by
        rcases mem_inn.mp hk with ⟨_, e⟩ | ⟨a, ha, hk⟩
        · rw [← e]; exact h
        · exact vars_nd.mpr ⟨a, ha, ih a ha hk⟩
      exact hx (this t hs)
    exact List.mem_map.mpr ⟨s, ht s hs, put1_out nv⟩
  rcases inn_sub k hs with ⟨s0, h0, e⟩ | ⟨y, hy, h⟩
  · exact List.mem_map.mpr ⟨s0, hk s0 h0, e.symm⟩
  · unfold put1 at h
    split at h
    · exact low s h
    · cases h
end K05

/-! the law's own unification -/
namespace K05
open PySem
open Classical
abbrev Ps := List (Kd × Kd)
def SolE (θ : Int → Kd) (E : Ps) : Prop := ∀ p ∈ E, sub θ p.1 = sub θ p.2
def vsE (E : Ps) (x : Int) : Prop := ∃ p ∈ E, x ∈ vars p.1 ∨ x ∈ vars p.2
noncomputable def putE (x : Int) (t : Kd) (E : Ps) : Ps := E.map fun p => (sub (put1 x t) p.1, sub (put1 x t) p.2)
theorem SolE.cons {θ : Int → Kd} {p : Kd × Kd} {E : Ps} : SolE θ (p :: E) ↔ sub θ p.1 = sub θ p.2 ∧ SolE θ E :=
  ⟨fun h => ⟨h p List.mem_cons_self, fun q hq => h q (List.mem_cons_of_mem _ hq)⟩, fun ⟨h1, h2⟩ q hq => (List.mem_cons.mp hq).elim (fun e => by rw [e]; exact h1) (h2 q)⟩
theorem SolE.app {θ : Int → Kd} {D E : Ps} : SolE θ (D ++ E) ↔ SolE θ D ∧ SolE θ E :=
  ⟨fun h => ⟨fun q hq => h q (List.mem_append_left _ hq), fun q hq => h q (List.mem_append_right _ hq)⟩, fun ⟨h1, h2⟩ q hq => (List.mem_append.mp hq).elim (h1 q) (h2 q)⟩
theorem SolE.rev {θ : Int → Kd} {E : Ps} : SolE θ E.reverse ↔ SolE θ E := ⟨fun h q hq => h q (List.mem_reverse.mpr hq), fun h q hq => h q (List.mem_reverse.mp hq)⟩
theorem SolE.put {θ : Int → Kd} {x : Int} {t : Kd} (e : θ x = sub θ t) {E : Ps} : SolE θ (putE x t E) ↔ SolE θ E := by
  unfold SolE putE
  constructor
  · intro h p hp
    have := h _ (List.mem_map.mpr ⟨p, hp, rfl⟩)
    rw [sub_put1 e, sub_put1 e] at this
    exact this
  · intro h p hp
    obtain ⟨q, hq, rfl⟩ := List.mem_map.mp hp
    show sub θ (sub _ q.1) = sub θ (sub _ q.2)
    rw [sub_put1 e, sub_put1 e]
    exact h q hq
theorem solE_zip {θ : Int → Kd} : ∀ {as bs : List Kd}, as.length = bs.length → (SolE θ (as.zip bs) ↔ as.map (sub θ) = bs.map (sub θ))
  | [], [], _ => ⟨fun _ => rfl, fun _ p hp => by cases hp⟩
  | a :: as, b :: bs, h => by
    rw [List.zip_cons_cons, SolE.cons, solE_zip (by simpa using h), List.map_cons, List.map_cons, List.cons.injEq]
structure LI (E0 : Ps) (many : Nat) (f : List Kd) (l : Ps) (V : List Int) (Ls : List Kd) : Prop where
  len : f.length = many
  sol : ∀ θ, SolE θ E0 ↔ SolE θ l ∧ ∀ (k : Nat) t, f[k]? = some t → sub θ t = θ (k : Int)
  alv : ∀ x, vsE l x ∨ (∃ t ∈ f, x ∈ vars t) → x ∈ V
  fx : ∀ x ∈ V, ∃ k : Nat, x = k ∧ f[k]? = some (.any x)
  nod : V.Nodup
  lss : ∀ s ∈ Ls, ∃ h as, s = .nd h as ∧ as.length ≤ 2
  inl : ∀ p ∈ l, (∀ s ∈ inn p.1, s ∈ Ls) ∧ ∀ s ∈ inn p.2, s ∈ Ls
  inf : ∀ t ∈ f, ∀ s ∈ inn t, s ∈ Ls
  cnt : Ls.length ≤ 30
  wsm : (Ls.map wk).sum ≤ 50
noncomputable def td : Ps → Nat
  | [] => 0
  | p :: l => if p.1 = p.2 then td l else dep p.1
noncomputable def phi (l : Ps) (V : List Int) : Nat := l.length + 2 * td l + 60 * V.length
section
variable {E0 : Ps} {many : Nat} {f : List Kd} {l : Ps} {V : List Int} {Ls : List Kd}
theorem LI.dep_l (I : LI E0 many f l V Ls) {p : Kd × Kd} (hp : p ∈ l) : dep p.1 ≤ 30 := Nat.le_trans (dep_le (I.inl p hp).1) I.cnt
theorem td_le (I : LI E0 many f l V Ls) : td l ≤ 30 := by
  have : ∀ l' : Ps, (∀ p ∈ l', dep p.1 ≤ 30) → td l' ≤ 30 := fun l' => by
    induction l' with
    | nil => intro _; exact Nat.zero_le _
    | cons p l' ih =>
      intro h
      rw [td]
      split
      · exact ih fun q hq => h q (List.mem_cons_of_mem _ hq)
      · exact h p List.mem_cons_self
  exact this l fun p hp => I.dep_l hp
theorem LI.same {a : Kd} (I : LI E0 many f ((a, a) :: l) V Ls) : LI E0 many f l V Ls ∧ phi l V + 1 ≤ phi ((a, a) :: l) V := by
  refine ⟨⟨I.len, fun θ => by rw [I.sol, SolE.cons]; simp, fun x h => I.alv x (h.imp (fun ⟨p, hp, h⟩ => ⟨p, List.mem_cons_of_mem _ hp, h⟩) id), I.fx, I.nod, I.lss, fun p hp => I.inl p (List.mem_cons_of_mem _ hp), I.inf, I.cnt, I.wsm⟩, ?_⟩
  unfold phi
  rw [td, if_pos rfl, List.length_cons]
  omega
theorem LI.swap {a b : Kd} (I : LI E0 many f ((a, b) :: l) V Ls) : LI E0 many f ((b, a) :: l) V Ls := by
  refine ⟨I.len, fun θ => by rw [I.sol, SolE.cons, SolE.cons]; exact ⟨fun ⟨⟨h1, h2⟩, h3⟩ => ⟨⟨h1.symm, h2⟩, h3⟩, fun ⟨⟨h1, h2⟩, h3⟩ => ⟨⟨h1.symm, h2⟩, h3⟩⟩, fun x h => I.alv x (h.imp (fun ⟨p, hp, h⟩ => ?_) id), I.fx, I.nod, I.lss, fun p hp => ?_, I.inf, I.cnt, I.wsm⟩
  · rcases List.mem_cons.mp hp with rfl | hp
    · exact (I.inl (a, b) List.mem_cons_self).symm
    · exact I.inl p (List.mem_cons_of_mem _ hp)
  · rcases List.mem_cons.mp hp with rfl | hp
    · exact ⟨(a, b), List.mem_cons_self, h.symm⟩
    · exact ⟨p, List.mem_cons_of_mem _ hp, h⟩
theorem phi_swap {a b : Kd} (I : LI E0 many f ((a, b) :: l) V Ls) (V' : List Int) (l' : Ps) (Ls' : List Kd) (f' : List Kd) (h : LI E0 many f' l' V' Ls') (hl : l'.length = l.length) (hv : V'.length + 1 = V.length) : phi l' V' + 1 ≤ phi ((a, b) :: l) V := by
  have := td_le h
  unfold phi
  rw [List.length_cons]
  omega
theorem LI.elim {x : Int} {b : Kd} (I : LI E0 many f ((.any x, b) :: l) V Ls) (hx : x ∉ vars b) : ∃ V' Ls', LI E0 many (f.map (sub (put1 x b))) (putE x b l) V' Ls' ∧ V'.length + 1 = V.length := by
  have xV : x ∈ V := I.alv x (.inl ⟨_, List.mem_cons_self, .inl (by simp [vars])⟩)
  have ib := (I.inl _ List.mem_cons_self).2
  obtain ⟨k0, hk0, hf0⟩ := I.fx x xV
  refine ⟨V.erase x, Ls.map (sub (put1 x b)), ⟨by rw [List.length_map]; exact I.len, fun θ => ?_, fun y h => ?_, fun y hy => ?_, I.nod.erase x, fun s hs => ?_, fun p hp => ?_, fun t ht => ?_, by rw [List.length_map]; exact I.cnt, ?_⟩, ?_⟩
  · rw [I.sol, SolE.cons]
    constructor
    · rintro ⟨⟨h1, h2⟩, h3⟩
      have e : θ x = sub θ b := h1
      refine ⟨(SolE.put e).mpr h2, fun k t ht => ?_⟩
      rw [List.getElem?_map] at ht
      cases hk : f[k]? with
      | none => rw [hk] at ht; cases ht
      | some u =>
        rw [hk] at ht
        cases ht
        rw [sub_put1 e]
        exact h3 k u hk
    · rintro ⟨h2, h3⟩
      have e : θ x = sub θ b := by
        have := h3 k0 (sub (put1 x b) (.any x)) (by rw [List.getElem?_map, hf0]; rfl)
        rw [show sub (put1 x b) (.any x) = b from put1_same] at this
        rw [this, hk0]
      refine ⟨⟨e, (SolE.put e).mp h2⟩, fun k t ht => ?_⟩
      have := h3 k (sub (put1 x b) t) (by rw [List.getElem?_map, ht]; rfl)
      rw [sub_put1 e] at this
      exact this
  · have bv : ∀ {y}, y ∈ vars b → y ∈ V.erase x := fun {y} h => (List.mem_erase_of_ne (fun e : y = x => hx (by rw [← e]; exact h))).mpr (I.alv y (.inl ⟨_, List.mem_cons_self, .inr h⟩))
    have go : ∀ {k : Kd}, (∀ z ∈ vars k, z ∈ V) → y ∈ vars (sub (put1 x b) k) → y ∈ V.erase x := fun {k} hk h => by
      rcases vars_put1 h with h | ⟨h, ne⟩
      · exact bv h
      · exact (List.mem_erase_of_ne ne).mpr (hk y h)
    rcases h with ⟨p, hp, h⟩ | ⟨t, ht, h⟩
    · obtain ⟨q, hq, rfl⟩ := List.mem_map.mp hp
      rcases h with h | h
      · exact go (fun z hz => I.alv z (.inl ⟨q, List.mem_cons_of_mem _ hq, .inl hz⟩)) h
      · exact go (fun z hz => I.alv z (.inl ⟨q, List.mem_cons_of_mem _ hq, .inr hz⟩)) h
    · obtain ⟨u, hu, rfl⟩ := List.mem_map.mp ht
      exact go (fun z hz => I.alv z (.inr ⟨u, hu, hz⟩)) h
  · have ne : y ≠ x := fun e => by
      subst e
      exact (List.Nodup.not_mem_erase I.nod) hy
    obtain ⟨k, e, hk⟩ := I.fx y (List.mem_of_mem_erase hy)
    exact ⟨k, e, by rw [List.getElem?_map, hk]; exact congrArg some (put1_ne ne)⟩
  · obtain ⟨u, hu, rfl⟩ := List.mem_map.mp hs
    obtain ⟨h, as, rfl, la⟩ := I.lss u hu
    exact ⟨h, as.map (sub (put1 x b)), sub_nd _ _ _, by rw [List.length_map]; exact la⟩
  · obtain ⟨q, hq, rfl⟩ := List.mem_map.mp hp
    exact ⟨inn_put hx ib (I.inl q (List.mem_cons_of_mem _ hq)).1, inn_put hx ib (I.inl q (List.mem_cons_of_mem _ hq)).2⟩
  · obtain ⟨u, hu, rfl⟩ := List.mem_map.mp ht
    exact inn_put hx ib (I.inf u hu)
  · rw [List.map_map]
    have : Ls.map (wk ∘ sub (put1 x b)) = Ls.map wk := List.map_congr_left fun s hs => by
      obtain ⟨h, as, rfl, _⟩ := I.lss s hs
      show wk (sub _ _) = _
      rw [sub_nd]
      rfl
    rw [this]
    exact I.wsm
  · rw [List.length_erase_of_mem xV]
    have := List.length_pos_of_mem xV
    omega
theorem LI.occ {x : Int} {b : Kd} (I : LI E0 many f ((.any x, b) :: l) V Ls) (ne : Kd.any x ≠ b) (hx : x ∈ vars b) : ¬ ∃ θ, SolE θ E0 := fun ⟨θ, h⟩ => by
  have h1 := ((I.sol θ).mp h).1 _ List.mem_cons_self
  cases b with
  | any y =>
    rw [vars, List.mem_singleton] at hx
    rw [hx] at ne
    exact ne rfl
  | nd hd as => exact occurs_no hx h1
theorem LI.clash {h h' : Hd} {as bs : List Kd} (I : LI E0 many f ((.nd h as, .nd h' bs) :: l) V Ls) (c : h ≠ h' ∨ as.length ≠ bs.length) : ¬ ∃ θ, SolE θ E0 := fun ⟨θ, hs⟩ => by
  have h1 := ((I.sol θ).mp hs).1 _ List.mem_cons_self
  rw [sub_nd, sub_nd] at h1
  injection h1 with e1 e2
  rcases c with c | c
  · exact c e1
  · have := congrArg List.length e2
    simp at this
    exact c this
theorem LI.dec {h : Hd} {as bs : List Kd} (I : LI E0 many f ((.nd h as, .nd h bs) :: l) V Ls) (ne : as ≠ bs) (hl : as.length = bs.length) :
    LI E0 many f ((as.zip bs).reverse ++ l) V Ls ∧ phi ((as.zip bs).reverse ++ l) V + 1 ≤ phi ((.nd h as, .nd h bs) :: l) V := by
  obtain ⟨i1, i2⟩ := I.inl _ List.mem_cons_self
  have mz : ∀ {p : Kd × Kd}, p ∈ as.zip bs → p.1 ∈ as ∧ p.2 ∈ bs := fun {p} hp => ⟨(List.of_mem_zip (a := p.1) (b := p.2) hp).1, (List.of_mem_zip (a := p.1) (b := p.2) hp).2⟩
  have I' : LI E0 many f ((as.zip bs).reverse ++ l) V Ls := by
    refine ⟨I.len, fun θ => ?_, fun x hx => I.alv x (hx.imp (fun ⟨p, hp, h⟩ => ?_) id), I.fx, I.nod, I.lss, fun p hp => ?_, I.inf, I.cnt, I.wsm⟩
    · rw [I.sol, SolE.cons, SolE.app, SolE.rev, solE_zip hl]
      show (sub θ _ = sub θ _ ∧ _) ∧ _ ↔ _
      rw [sub_nd, sub_nd, Kd.nd.injEq]
      simp
    · rcases List.mem_append.mp hp with hp | hp
      · obtain ⟨m1, m2⟩ := mz (List.mem_reverse.mp hp)
        exact ⟨fun s hs => i1 s (mem_inn.mpr (.inr ⟨_, m1, hs⟩)), fun s hs => i2 s (mem_inn.mpr (.inr ⟨_, m2, hs⟩))⟩
      · exact I.inl p (List.mem_cons_of_mem _ hp)
    · rcases List.mem_append.mp hp with hp | hp
      · obtain ⟨m1, m2⟩ := mz (List.mem_reverse.mp hp)
        exact ⟨_, List.mem_cons_self, h.imp (fun h => vars_nd.mpr ⟨_, m1, h⟩) fun h => vars_nd.mpr ⟨_, m2, h⟩⟩
      · exact ⟨p, List.mem_cons_of_mem _ hp, h⟩
  refine ⟨I', ?_⟩
  have ane : as ≠ [] := fun e => by
    subst e
    exact ne (List.length_eq_zero_iff.mp hl.symm).symm
  obtain ⟨h2, as2, e2, l2⟩ := I.lss _ (i1 _ (mem_inn.mpr (.inl ⟨ane, rfl⟩)))
  cases e2
  have tdn : td ((.nd h as, .nd h bs) :: l) = dep (.nd h as) := by
    rw [td, if_neg]
    intro e
    cases e
    exact ne rfl
  have tdl : ∀ (z : Ps), (∃ p ∈ z, p.1 ≠ p.2) → (∀ p ∈ z, dep p.1 < dep (.nd h as)) → td (z ++ l) < dep (.nd h as) := fun z => by
    induction z with
    | nil => rintro ⟨p, hp, _⟩; cases hp
    | cons q z ih =>
      rintro ⟨p, hp, np⟩ hz
      rw [List.cons_append, td]
      split
      · rename_i e
        rcases List.mem_cons.mp hp with rfl | hp
        · exact absurd e np
        · exact ih ⟨p, hp, np⟩ fun p hp => hz p (List.mem_cons_of_mem _ hp)
      · exact hz q List.mem_cons_self
  have exd : ∀ {as bs : List Kd}, as.length = bs.length → as ≠ bs → ∃ p ∈ as.zip bs, p.1 ≠ p.2 := fun {as} => by
    induction as with
    | nil =>
      intro bs hl hne
      exact absurd (List.length_eq_zero_iff.mp hl.symm).symm hne
    | cons a as ih =>
      intro bs hl hne
      cases bs with
      | nil => cases hl
      | cons b bs =>
        by_cases e : a = b
        · obtain ⟨p, hp, np⟩ := ih (bs := bs) (by simpa using hl) fun z => hne (by rw [e, z])
          exact ⟨p, by rw [List.zip_cons_cons]; exact List.mem_cons_of_mem _ hp, np⟩
        · exact ⟨(a, b), by rw [List.zip_cons_cons]; exact List.mem_cons_self, e⟩
  obtain ⟨p, hp, np⟩ := exd hl ne
  have t1 := tdl (as.zip bs).reverse ⟨p, List.mem_reverse.mpr hp, np⟩ fun q hq => dep_child (mz (List.mem_reverse.mp hq)).1
  unfold phi
  rw [tdn, List.length_cons, List.length_append, List.length_reverse, List.length_zip]
  omega
end
end K05

/-! numbered anew; most general solutions are alike -/
namespace K05
open PySem
def addIf (l : List Int) (x : Int) : List Int := if x ∈ l then l else l ++ [x]
def gath (k : Kd) (o : List Int) : List Int := (vars k).foldl addIf o
theorem mem_addIf {l : List Int} {x y : Int} : y ∈ addIf l x ↔ y ∈ l ∨ y = x := by
  unfold addIf
  split
  · rename_i h
    exact ⟨.inl, fun z => z.elim id fun e => by rw [e]; exact h⟩
  · rw [List.mem_append, List.mem_singleton]
theorem mem_fold {v : List Int} : ∀ {o : List Int} {y : Int}, y ∈ v.foldl addIf o ↔ y ∈ o ∨ y ∈ v := by
  induction v with
  | nil => intro o y; simp
  | cons x v ih => intro o y; rw [List.foldl_cons, ih, mem_addIf]; simp [or_assoc]
theorem nodup_addIf {l : List Int} {x : Int} (h : l.Nodup) : (addIf l x).Nodup := by
  unfold addIf
  split
  · exact h
  · rename_i n
    rw [List.nodup_append]
    exact ⟨h, by simp, fun a ha b hb e => by rw [List.mem_singleton] at hb; rw [e, hb] at ha; exact n ha⟩
theorem nodup_fold {v : List Int} : ∀ {o : List Int}, o.Nodup → (v.foldl addIf o).Nodup := by
  induction v with
  | nil => intro o h; exact h
  | cons x v ih => intro o h; exact ih (nodup_addIf h)
theorem mem_gath {k : Kd} {y : Int} : y ∈ gath k [] ↔ y ∈ vars k := by unfold gath; rw [mem_fold]; simp
theorem nodup_gath {k : Kd} : (gath k []).Nodup := nodup_fold List.nodup_nil
theorem gath_nd {h : Hd} {as : List Kd} {o : List Int} : gath (.nd h as) o = as.foldl (fun o a => gath a o) o := by
  have : ∀ (as : List Kd) (o : List Int), (varss as).foldl addIf o = as.foldl (fun o a => gath a o) o := fun as => by
    induction as with
    | nil => intro o; rfl
    | cons a as ih => intro o; rw [varss, List.foldl_append, ih, List.foldl_cons]; rfl
  unfold gath
  rw [vars]
  exact this as o
/-- one after another -/
def seqp : List (Int × Int) → Kd → Kd
  | [], k => k
  | (x, n) :: r, k => seqp r (sub (put1 x (.any n)) k)
theorem seqp_sub {r : List (Int × Int)} : ∀ {k : Kd}, (r.map (·.1)).Nodup → (∀ p ∈ r, ∀ q ∈ r, p.2 ≠ q.1) → seqp r k = sub (fun x => .any (match r.find? fun p => decide (p.1 = x) with | some p => p.2 | none => x)) k := by
  induction r with
  | nil =>
    intro k _ _
    exact (sub_any k).symm
  | cons p r ih =>
    intro k n d
    obtain ⟨x, m⟩ := p
    have n' := List.nodup_cons.mp n
    rw [seqp, ih n'.2 fun p hp q hq => d p (List.mem_cons_of_mem _ hp) q (List.mem_cons_of_mem _ hq), sub_sub]
    refine sub_congr k fun y _ => ?_
    by_cases e : y = x
    · subst e
      rw [put1_same]
      show Kd.any _ = _
      have : (r.find? fun p => decide (p.1 = m)) = none := by
        rw [List.find?_eq_none]
        intro q hq z
        exact d (y, m) List.mem_cons_self q (List.mem_cons_of_mem _ hq) (of_decide_eq_true z).symm
      rw [this, List.find?_cons_of_pos (by simp)]
    · rw [put1_ne e]
      show Kd.any _ = _
      have e' : ¬ x = y := fun z => e z.symm
      rw [List.find?_cons_of_neg (by simp [e'])]
/-- the order's rows: 1000, 1001, .. -/
def rowsN (o : List Int) (b : Int) : List (Int × Int) := o.zipIdx.map fun p => (p.1, b + (p.2 : Int))
def numd (k : Kd) : Kd := seqp (rowsN (gath k []) 1000) k
theorem rowsN_fst (o : List Int) (b : Int) : (rowsN o b).map (·.1) = o := by
  unfold rowsN
  rw [List.map_map]
  show o.zipIdx.map (fun p => p.1) = o
  rw [List.zipIdx_map_fst]
theorem rowsN_ge {o : List Int} {b : Int} {p : Int × Int} (h : p ∈ rowsN o b) : b ≤ p.2 := by
  obtain ⟨q, _, rfl⟩ := List.mem_map.mp h
  show b ≤ b + (q.2 : Int)
  omega
theorem rowsN_mem {o : List Int} {b : Int} {p : Int × Int} (h : p ∈ rowsN o b) : p.1 ∈ o := by rw [← rowsN_fst o b]; exact List.mem_map.mpr ⟨p, h, rfl⟩
theorem find_map {o : List Int} {m : Int → Int} (inj : ∀ x ∈ o, ∀ y ∈ o, m x = m y → x = y) {x : Int} (hx : x ∈ o) (b : Int) :
    ((rowsN (o.map m) b).find? fun p => decide (p.1 = m x)).map (·.2) = ((rowsN o b).find? fun p => decide (p.1 = x)).map (·.2) := by
  have : ∀ (o : List Int) (i : Nat), x ∈ o → (∀ z ∈ o, ∀ y ∈ o, m z = m y → z = y) → ((((o.map m).zipIdx i).map fun p => (p.1, b + (p.2 : Int))).find? fun p => decide (p.1 = m x)).map (·.2) = (((o.zipIdx i).map fun p => (p.1, b + (p.2 : Int))).find? fun p => decide (p.1 = x)).map (·.2) := fun o => by
    induction o with
    | nil => intro i h; cases h
    | cons z o ih =>
      intro i h inj
      rw [List.map_cons, List.zipIdx_cons, List.zipIdx_cons, List.map_cons, List.map_cons]
      by_cases e : z = x
      · subst e
        rw [List.find?_cons_of_pos (by simp), List.find?_cons_of_pos (by simp)]
        rfl
      · have hxo : x ∈ o := (List.mem_cons.mp h).resolve_left fun z => e z.symm
        have ne : ¬ m z = m x := fun q => e (inj z List.mem_cons_self x h q)
        rw [List.find?_cons_of_neg (by simp [ne]), List.find?_cons_of_neg (by simp [e])]
        exact ih (i + 1) hxo fun a ha b hb => inj a (List.mem_cons_of_mem _ ha) b (List.mem_cons_of_mem _ hb)
  exact this o 0 hx inj
theorem find_some {o : List Int} {x : Int} (hx : x ∈ o) (b : Int) : ∃ p, (rowsN o b).find? (fun p => decide (p.1 = x)) = some p := by
  cases h : (rowsN o b).find? fun p => decide (p.1 = x) with
  | some p => exact ⟨p, rfl⟩
  | none =>
    rw [← rowsN_fst o b] at hx
    obtain ⟨p, hp, e⟩ := List.mem_map.mp hx
    rw [List.find?_eq_none] at h
    exact absurd (decide_eq_true e) (h p hp)
theorem vars_ren {σ : Int → Kd} {m : Int → Int} : ∀ k, (∀ x ∈ vars k, σ x = .any (m x)) → vars (sub σ k) = (vars k).map m := Kd.ind (fun n h => by
  show vars (σ n) = _
  rw [h n (by simp [vars]), vars, vars]
  rfl) fun hd as ih h => by
  rw [sub_nd, vars, vars]
  have : ∀ l : List Kd, (∀ a ∈ l, a ∈ as) → varss (l.map (sub σ)) = (varss l).map m := fun l => by
    induction l with
    | nil => intro _; rfl
    | cons a l ih2 =>
      intro hl
      rw [List.map_cons, varss, varss, List.map_append, ih2 fun b hb => hl b (List.mem_cons_of_mem _ hb), ih a (hl a List.mem_cons_self) fun x hx => h x (vars_nd.mpr ⟨a, hl a List.mem_cons_self, hx⟩)]
  exact this as fun a ha => ha
theorem fold_ren {m : Int → Int} : ∀ (v o : List Int), (∀ x ∈ o ++ v, ∀ y ∈ o ++ v, m x = m y → x = y) → (v.map m).foldl addIf (o.map m) = (v.foldl addIf o).map m := fun v => by
  induction v with
  | nil => intro o _; rfl
  | cons x v ih =>
    intro o inj
    rw [List.map_cons, List.foldl_cons, List.foldl_cons]
    have e : addIf (o.map m) (m x) = (addIf o x).map m := by
      unfold addIf
      by_cases h : x ∈ o
      · rw [if_pos h, if_pos (List.mem_map.mpr ⟨x, h, rfl⟩)]
      · rw [if_neg h, if_neg fun z => by
          obtain ⟨y, hy, e⟩ := List.mem_map.mp z
          exact h ((inj y (List.mem_append_left _ hy) x (List.mem_append_right _ List.mem_cons_self) e) ▸ hy)]
        rw [List.map_append]
        rfl
    rw [e]
    refine ih (addIf o x) fun a ha b hb => ?_
    have cv : ∀ {z}, z ∈ addIf o x ++ v → z ∈ o ++ x :: v := fun {z} h => by
      rcases List.mem_append.mp h with h | h
      · rcases mem_addIf.mp h with h | h
        · exact List.mem_append_left _ h
        · rw [h]; exact List.mem_append_right _ List.mem_cons_self
      · exact List.mem_append_right _ (List.mem_cons_of_mem _ h)
    exact inj a (cv ha) b (cv hb)
theorem sub_id_vars {σ : Int → Kd} : ∀ k, sub σ k = k → ∀ x ∈ vars k, σ x = .any x := Kd.ind (fun n h x hx => by
  rw [vars, List.mem_singleton] at hx
  rw [hx]
  exact h) fun hd as ih h x hx => by
  obtain ⟨a, ha, hx⟩ := vars_nd.mp hx
  rw [sub_nd, Kd.nd.injEq] at h
  have : ∀ l : List Kd, l.map (sub σ) = l → ∀ a ∈ l, sub σ a = a := fun l => by
    induction l with
    | nil => intro _ a h; cases h
    | cons b l ih =>
      intro h a ha
      rw [List.map_cons, List.cons.injEq] at h
      rcases List.mem_cons.mp ha with rfl | ha
      · exact h.1
      · exact ih h.2 a ha
  exact ih a ha (this as h.2 a ha) x hx
theorem numd_sub {k : Kd} (h : ∀ x ∈ vars k, x < 1000) : numd k = sub (fun x => .any (match (rowsN (gath k []) 1000).find? fun p => decide (p.1 = x) with | some p => p.2 | none => x)) k := by
  refine seqp_sub (by rw [rowsN_fst]; exact nodup_gath) fun p hp q hq e => ?_
  have h1 := rowsN_ge hp
  have h2 := h q.1 (mem_gath.mp (rowsN_mem hq))
  omega
/-- each an instance of the other: alike but for the numbers -/
theorem numd_alike {a b : Kd} {ρ1 ρ2 : Int → Kd} (h1 : a = sub ρ1 b) (h2 : b = sub ρ2 a) (ha : ∀ x ∈ vars a, x < 1000) (hb : ∀ x ∈ vars b, x < 1000) : numd a = numd b := by
  have back : ∀ x ∈ vars b, sub ρ2 (ρ1 x) = .any x := by
    have e : sub (fun x => sub ρ2 (ρ1 x)) b = b := by
      rw [← sub_sub, ← h1, ← h2]
    exact sub_id_vars b e
  have ex : ∀ x ∈ vars b, ∃ m, ρ1 x = .any m := fun x hx => by
    have := back x hx
    cases h : ρ1 x with
    | any m => exact ⟨m, rfl⟩
    | nd hd as =>
      rw [h, sub_nd] at this
      cases this
  classical
  let m : Int → Int := fun x => if h : ∃ m, ρ1 x = .any m then h.choose else x
  have hm : ∀ x ∈ vars b, ρ1 x = .any (m x) := fun x hx => by
    have h := ex x hx
    show _ = Kd.any (if h : ∃ m, ρ1 x = .any m then h.choose else x)
    rw [dif_pos h]
    exact h.choose_spec
  have inj : ∀ x ∈ vars b, ∀ y ∈ vars b, m x = m y → x = y := fun x hx y hy e => by
    have e1 := back x hx
    have e2 := back y hy
    rw [hm x hx, e, ← hm y hy, e2] at e1
    cases e1
    rfl
  have va : vars a = (vars b).map m := by rw [h1]; exact vars_ren b hm
  have ga : gath a [] = (gath b []).map m := by
    unfold gath
    rw [va]
    exact fold_ren (vars b) [] (by simpa using inj)
  rw [numd_sub ha, numd_sub hb, ga]
  conv => lhs; rw [h1]
  rw [sub_sub]
  refine sub_congr b fun x hx => ?_
  rw [hm x hx]
  show Kd.any _ = Kd.any _
  have hxg : x ∈ gath b [] := mem_gath.mpr hx
  have f := find_map (fun x hx y hy => inj x (mem_gath.mp hx) y (mem_gath.mp hy)) hxg 1000
  obtain ⟨p, hp⟩ := find_some hxg 1000
  obtain ⟨q, hq⟩ := find_some (List.mem_map.mpr ⟨x, hxg, rfl⟩ : m x ∈ (gath b []).map m) 1000
  rw [hp, hq] at f
  rw [hp, hq]
  congr 1
  exact Option.some.inj f
end K05

namespace K05
open PySem PySem.Spec PyProof.Rows L2 Z

/-! ### the text -/
def top (i : Nat) : Stmt := PySem.Challenge.pw_tonguestack_k05_kinds_made_alike.main.body.getD i (.Pass ⟨0, 0, 0, 0⟩)
abbrev s_kind_parts : Stmt := top 5
abbrev s_with_parts : Stmt := top 6
abbrev s_kind_variables : Stmt := top 7
abbrev s_gather_variables : Stmt := top 8
abbrev s_substituted : Stmt := top 9
abbrev s_Unifier___init__ : Stmt := inClass (top 10) 0
abbrev s_Unifier_fresh : Stmt := inClass (top 10) 1
abbrev s_Unifier_head : Stmt := inClass (top 10) 2
abbrev s_Unifier_full : Stmt := inClass (top 10) 3
abbrev s_Unifier_occurs : Stmt := inClass (top 10) 4
abbrev s_Unifier_unify : Stmt := inClass (top 10) 5
abbrev s_Unifier_stand_for : Stmt := inClass (top 10) 6
abbrev s_Unifier_fresh_copy : Stmt := inClass (top 10) 7
abbrev s_Unifier_scheme_of : Stmt := inClass (top 10) 8
abbrev s_plain_scheme : Stmt := top 11
abbrev s_renumbered : Stmt := top 12
abbrev s_kind_text : Stmt := top 13
abbrev s_function_text : Stmt := top 14
abbrev s_pair_text : Stmt := top 15
abbrev s_small_text : Stmt := top 16
abbrev s_letters_of : Stmt := top 17
abbrev s_no_more_general : Stmt := top 18
abbrev s_is_instance : Stmt := top 19
abbrev s__law_dice : Stmt := top 21
abbrev s__law_roll : Stmt := top 22
abbrev s__law_rounds : Stmt := top 23
abbrev s__law_told : Stmt := top 24
abbrev s__law_kind : Stmt := top 25
abbrev s__law_parts : Stmt := top 26
abbrev s__law_put : Stmt := top 27
abbrev s__law_within : Stmt := top 28
abbrev s__law_alike : Stmt := top 29
abbrev s__law_numbered : Stmt := top 30
abbrev s__law_gather : Stmt := top 31
abbrev s_law : Stmt := top 32
theorem sc_kind_parts : FnScope ["kind", "word"] ["kind"] (defScope s_kind_parts) := ⟨rfl, rfl, rfl, by decide +kernel, rfl, by decide +kernel, by decide +kernel⟩
theorem sc_with_parts : FnScope ["kind", "inner"] ["kind", "inner"] (defScope s_with_parts) := ⟨rfl, rfl, rfl, by decide +kernel, rfl, by decide +kernel, by decide +kernel⟩
theorem sc_kind_variables : FnScope ["kind", "found"] ["kind"] (defScope s_kind_variables) := ⟨rfl, rfl, rfl, by decide +kernel, rfl, by decide +kernel, by decide +kernel⟩
theorem sc_gather_variables : FnScope ["kind", "found", "part"] ["kind", "found"] (defScope s_gather_variables) := ⟨rfl, rfl, rfl, by decide +kernel, rfl, by decide +kernel, by decide +kernel⟩
theorem sc_substituted : FnScope ["kind", "table", "part"] ["kind", "table"] (defScope s_substituted) := ⟨rfl, rfl, rfl, by decide +kernel, rfl, by decide +kernel, by decide +kernel⟩
theorem sc_Unifier___init__ : FnScope ["self"] ["self"] (defScope s_Unifier___init__) := ⟨rfl, rfl, rfl, by decide +kernel, rfl, by decide +kernel, by decide +kernel⟩
theorem sc_Unifier_fresh : FnScope ["self"] ["self"] (defScope s_Unifier_fresh) := ⟨rfl, rfl, rfl, by decide +kernel, rfl, by decide +kernel, by decide +kernel⟩
theorem sc_Unifier_head : FnScope ["self", "kind"] ["self", "kind"] (defScope s_Unifier_head) := ⟨rfl, rfl, rfl, by decide +kernel, rfl, by decide +kernel, by decide +kernel⟩
theorem sc_Unifier_full : FnScope ["self", "kind", "part"] ["self", "kind"] (defScope s_Unifier_full) := ⟨rfl, rfl, rfl, by decide +kernel, rfl, by decide +kernel, by decide +kernel⟩
theorem sc_Unifier_occurs : FnScope ["self", "number", "kind", "part"] ["self", "number", "kind"] (defScope s_Unifier_occurs) := ⟨rfl, rfl, rfl, by decide +kernel, rfl, by decide +kernel, by decide +kernel⟩
theorem sc_Unifier_unify : FnScope ["self", "one", "other", "first", "second"] ["self", "one", "other"] (defScope s_Unifier_unify) := ⟨rfl, rfl, rfl, by decide +kernel, rfl, by decide +kernel, by decide +kernel⟩
theorem sc_Unifier_stand_for : FnScope ["self", "number", "kind"] ["self", "number", "kind"] (defScope s_Unifier_stand_for) := ⟨rfl, rfl, rfl, by decide +kernel, rfl, by decide +kernel, by decide +kernel⟩
theorem sc_Unifier_fresh_copy : FnScope ["self", "scheme", "numbers", "kind", "table", "number"] ["self", "scheme"] (defScope s_Unifier_fresh_copy) := ⟨rfl, rfl, rfl, by decide +kernel, rfl, by decide +kernel, by decide +kernel⟩
theorem sc_Unifier_scheme_of : FnScope ["self", "kind", "fixed", "held", "one", "number"] ["self", "kind", "fixed"] (defScope s_Unifier_scheme_of) := ⟨rfl, rfl, rfl, by decide +kernel, rfl, by decide +kernel, by decide +kernel⟩
theorem sc_plain_scheme : FnScope ["kind"] ["kind"] (defScope s_plain_scheme) := ⟨rfl, rfl, rfl, by decide +kernel, rfl, by decide +kernel, by decide +kernel⟩
theorem sc_renumbered : FnScope ["kind", "table", "place", "number"] ["kind"] (defScope s_renumbered) := ⟨rfl, rfl, rfl, by decide +kernel, rfl, by decide +kernel, by decide +kernel⟩
theorem sc_kind_text : FnScope ["kind"] ["kind"] (defScope s_kind_text) := ⟨rfl, rfl, rfl, by decide +kernel, rfl, by decide +kernel, by decide +kernel⟩
theorem sc_function_text : FnScope ["kind"] ["kind"] (defScope s_function_text) := ⟨rfl, rfl, rfl, by decide +kernel, rfl, by decide +kernel, by decide +kernel⟩
theorem sc_pair_text : FnScope ["kind"] ["kind"] (defScope s_pair_text) := ⟨rfl, rfl, rfl, by decide +kernel, rfl, by decide +kernel, by decide +kernel⟩
theorem sc_small_text : FnScope ["kind", "word", "part"] ["kind"] (defScope s_small_text) := ⟨rfl, rfl, rfl, by decide +kernel, rfl, by decide +kernel, by decide +kernel⟩
theorem sc_letters_of : FnScope ["number", "rounds"] ["number"] (defScope s_letters_of) := ⟨rfl, rfl, rfl, by decide +kernel, rfl, by decide +kernel, by decide +kernel⟩
theorem sc_no_more_general : FnScope ["one", "other", "table"] ["one", "other"] (defScope s_no_more_general) := ⟨rfl, rfl, rfl, by decide +kernel, rfl, by decide +kernel, by decide +kernel⟩
theorem sc_is_instance : FnScope ["one", "other", "table", "first", "second"] ["one", "other", "table"] (defScope s_is_instance) := ⟨rfl, rfl, rfl, by decide +kernel, rfl, by decide +kernel, by decide +kernel⟩
theorem sc__law_dice : FnScope ["cell"] ["cell"] (defScope s__law_dice) := ⟨rfl, rfl, rfl, by decide +kernel, rfl, by decide +kernel, by decide +kernel⟩
theorem sc__law_roll : FnScope ["dice", "many", "found"] ["dice", "many"] (defScope s__law_roll) := ⟨rfl, rfl, rfl, by decide +kernel, rfl, by decide +kernel, by decide +kernel⟩
theorem sc__law_rounds : FnScope ["script", "most", "cells", "cell"] ["script", "most"] (defScope s__law_rounds) := ⟨rfl, rfl, rfl, by decide +kernel, rfl, by decide +kernel, by decide +kernel⟩
theorem sc__law_told : FnScope ["what"] ["what"] (defScope s__law_told) := ⟨rfl, rfl, rfl, by decide +kernel, rfl, by decide +kernel, by decide +kernel⟩
theorem sc__law_kind : FnScope ["dice", "many", "deep", "sort"] ["dice", "many", "deep"] (defScope s__law_kind) := ⟨rfl, rfl, rfl, by decide +kernel, rfl, by decide +kernel, by decide +kernel⟩
theorem sc__law_parts : FnScope ["kind"] ["kind"] (defScope s__law_parts) := ⟨rfl, rfl, rfl, by decide +kernel, rfl, by decide +kernel, by decide +kernel⟩
theorem sc__law_put : FnScope ["kind", "number", "other", "one", "inner"] ["kind", "number", "other"] (defScope s__law_put) := ⟨rfl, rfl, rfl, by decide +kernel, rfl, by decide +kernel, by decide +kernel⟩
theorem sc__law_within : FnScope ["number", "kind", "one"] ["number", "kind"] (defScope s__law_within) := ⟨rfl, rfl, rfl, by decide +kernel, rfl, by decide +kernel, by decide +kernel⟩
theorem sc__law_alike : FnScope ["pairs", "many", "k", "found", "left", "turn", "one", "other", "kind", "a", "b"] ["pairs", "many"] (defScope s__law_alike) := ⟨rfl, rfl, rfl, by decide +kernel, rfl, by decide +kernel, by decide +kernel⟩
theorem sc__law_numbered : FnScope ["kinds", "whole", "kind", "order", "place", "number"] ["kinds"] (defScope s__law_numbered) := ⟨rfl, rfl, rfl, by decide +kernel, rfl, by decide +kernel, by decide +kernel⟩
theorem sc__law_gather : FnScope ["kind", "order", "one"] ["kind", "order"] (defScope s__law_gather) := ⟨rfl, rfl, rfl, by decide +kernel, rfl, by decide +kernel, by decide +kernel⟩
theorem sc_law : FnScope ["script", "dice", "many", "k", "pairs", "due", "unifier", "fresh", "table", "a", "b", "made", "told_now", "one", "held", "numbers", "kind", "other", "loose", "copied", "first", "second", "order", "pair", "shown", "wide"] ["script"] (defScope s_law) := ⟨rfl, rfl, rfl, by decide +kernel, rfl, by decide +kernel, by decide +kernel⟩
/-! ### what the top has written -/
structure Txt (K : PySem.W.Frag) (mg : Str → Option Value) (CU CK : Addr) : Prop where
  g_Unifier : mg "Unifier" = some (.ref CU)
  g_KindError : mg "KindError" = some (.ref CK)
  c_Unifier : Cls K CU
  n_Unifier_table : NoAttr K CU "table"
  n_Unifier_made : NoAttr K CU "made"
  x_KindError : PySem.W.excIn K CK [.type "ValueError", .type "Exception", .type "BaseException", .type "object"] "ValueError.__new__" = true
  k_KindError : PySem.W.keepIn K (.ref CK) = true
  e_KindError : PySem.W.subIn K (.ref CK) (.type "BaseException") = some true
  t_KindError : PySem.W.typeIn K (.ref CK) = some (.type "type")
  m_KindError : PySem.W.exmOne K (.ref CK) (.ref CK) = some true
  g_KIND_LETTERS : ∃ t, mg "KIND_LETTERS" = some (.str "abcdefghijklmnopqrstuvwxyz" t)
  z_len : mg "len" = none
  z_range : mg "range" = none
  z_int : mg "int" = none
  z_abs : mg "abs" = none
  z_str : mg "str" = none
  z_list : mg "list" = none
  z_tuple : mg "tuple" = none
  z_dict : mg "dict" = none
  z_any : mg "any" = none
  z_all : mg "all" = none
  z_zip : mg "zip" = none
  z_enumerate : mg "enumerate" = none
end K05

namespace K05
open PySem PySem.Spec PyProof.Rows L2 Z
local macro_rules | `(tactic| walk_at "zr") => `(tactic| (repeat' (with_reducible first | refine r_asg ?_ | refine r_asgT ?_ | refine r_asgG ?_ | refine r_asg1 ?_ | refine r_if ?_ | refine r_if1 ?_ | refine r_drop ?_ | refine r_drop1 ?_ | refine r_ret ?_ | refine r_ret1 ?_ | refine r_retN ?_ | refine r_nx ?_ | refine r_nx1 ?_ | refine r_bk ?_ | refine r_ct ?_ | refine r_par ?_ | refine r_par1 ?_ | refine r_par3 ?_ | refine r_par31 ?_ | refine r_for ?_ | refine r_for1 ?_ | refine r_sfld ?_ | refine r_sfld1 ?_ | refine r_aug (by with_unfolding_all rfl) ?_ | refine r_aug1 (by with_unfolding_all rfl) ?_ | refine r_var (by with_unfolding_all rfl) ?_ | refine r_c ?_ | refine r_op ?_ | refine r_ifE ?_ | refine r_nil ?_ | refine r_cons ?_ | refine r_tup ?_ | refine r_lst ?_ | refine r_cb ?_ | refine r_call ?_ | refine r_test ?_ | refine r_not ?_ | refine r_and ?_ | refine r_or ?_ | refine r_andV ?_ | refine r_orV ?_ | refine r_notV ?_ | refine r_neg ?_ | refine r_bm ?_ | refine r_bm0 ?_ | refine r_sl ?_ | refine r_part ?_ | refine r_noP ?_ | refine r_chain ?_ | refine r_int2 ?_ | refine r_eqI ?_ | refine r_eqS ?_ | refine r_eqB ?_ | refine r_fInt ?_ | refine r_fIntB ?_ | refine r_fAbs ?_ | refine r_fMin ?_ | refine r_lenT ?_ | refine r_isNN ?_ | refine r_isNI ?_ | refine r_isNT ?_ | refine r_isNR ?_ | refine r_ixT0 ?_ | refine r_ixT1 ?_ | refine r_ixT2 ?_ | refine r_ixT3 ?_ | refine r_fld ?_ | refine r_kfld (by assumption) rfl ?_ | refine r_list ?_ | refine r_klist (by assumption) ?_ | refine r_tupI ?_ | refine r_ktupI ?_ | refine r_yes ?_ | refine r_kctI ?_ | refine r_rng1 ?_ | refine r_rng2 ?_ | refine r_enum ?_ | refine r_kenumT ?_ | refine r_kenum (by assumption) ?_ | refine r_fListT ?_ | refine r_fTupT ?_ | refine r_fListR (by assumption) ?_ | refine r_fTupR (by assumption) ?_ | refine r_lenR (by assumption) ?_ | refine r_rev ?_ | refine r_krevT ?_ | refine r_krev (by assumption) ?_ | refine r_setL ?_ | refine r_dget ?_ | refine r_lc0 ?_ | refine r_name ?_ | refine r_gtup (by with_unfolding_all rfl) ?_ | refine r_gcons ?_ | refine r_gnil ?_ | refine r_din ?_ | refine r_setd ?_ | refine r_ksetdA (by assumption) ?_ | refine r_keysI ?_ | refine r_kkeysI (by assumption) ?_ | refine r_dput ?_ | refine r_dput1 ?_ | refine r_dnewK ?_ | refine r_szc (by with_unfolding_all exact Nat.le_of_ble_eq_true rfl) ?_ | refine r_eqlen (by with_unfolding_all rfl) ?_ | refine r_ifT (by decide) ?_ | refine r_ifF (by decide) ?_ | refine r_inFT (b := false) rfl rfl (by decide) ?_ | refine r_inFT (b := true) rfl rfl (by decide) ?_ | refine r_lrng ?_)))
/-! ### kinds as data -/
def word : Hd → Str
  | .int => "int"
  | .bool => "bool"
  | .unit => "unit"
  | .list => "list"
  | .ref => "ref"
  | .fn => "fun"
  | .pair => "pair"
  | .data _ => "data"
mutual
def kd : Kd → D
  | .any n => .tup [.str "any", .int n]
  | .nd (.data s) as => .tup [.str "data", .str s, .tup (kds as)]
  | .nd h as => .tup (.str (word h) :: kds as)
def kds : List Kd → List D
  | [] => []
  | a :: as => kd a :: kds as
end
theorem kds_map : ∀ as, kds as = as.map kd
  | [] => rfl
  | a :: as => by rw [kds, kds_map as, List.map_cons]
def ar : Hd → Nat → Prop
  | .int, n => n = 0
  | .bool, n => n = 0
  | .unit, n => n = 0
  | .list, n => n = 1
  | .ref, n => n = 1
  | .fn, n => n = 2
  | .pair, n => n = 2
  | .data s, _ => PyData.strOk s = true
mutual
def wf : Kd → Prop
  | .any _ => True
  | .nd h as => ar h as.length ∧ wfs as
def wfs : List Kd → Prop
  | [] => True
  | a :: as => wf a ∧ wfs as
end
theorem wfs_mem {as : List Kd} : wfs as ↔ ∀ a ∈ as, wf a := by
  induction as with
  | nil => simp [wfs]
  | cons a as ih => rw [wfs, ih]; simp
theorem wf_nd {h : Hd} {as : List Kd} : wf (.nd h as) ↔ ar h as.length ∧ ∀ a ∈ as, wf a := by rw [wf, wfs_mem]
theorem wf_sub {σ : Int → Kd} : ∀ k, wf k → (∀ x ∈ vars k, wf (σ x)) → wf (sub σ k) := Kd.ind (fun n _ h => h n (by simp [vars])) fun hd as ih h hv => by
  obtain ⟨h1, h2⟩ := wf_nd.mp h
  rw [sub_nd]
  refine wf_nd.mpr ⟨by rw [List.length_map]; exact h1, fun a ha => ?_⟩
  obtain ⟨b, hb, rfl⟩ := List.mem_map.mp ha
  exact ih b hb (h2 b hb) fun x hx => hv x (vars_nd.mpr ⟨b, hb, hx⟩)
def args : Kd → List Kd
  | .any _ => []
  | .nd _ as => as
def withA : Kd → List Kd → Kd
  | .any n, _ => .any n
  | .nd h _, l => .nd h l
theorem kd_fst (k : Kd) : ∃ w ds, kd k = .tup (.str w :: ds) := by
  cases k with
  | any n => exact ⟨_, _, rfl⟩
  | nd h as => cases h <;> exact ⟨_, _, rfl⟩
def intsD (l : List Int) : List D := l.map D.int
theorem intsD_len (l : List Int) : (intsD l).length = l.length := by unfold intsD; simp
theorem intsD_app (l m : List Int) : intsD l ++ intsD m = intsD (l ++ m) := by unfold intsD; simp
theorem kds_len (l : List Kd) : (kds l).length = l.length := by rw [kds_map, List.length_map]
theorem kds_get {l : List Kd} {i : Nat} {d : D} (h : (kds l)[i]? = some d) : ∃ k, l[i]? = some k ∧ d = kd k := by
  rw [kds_map, List.getElem?_map] at h
  cases e : l[i]? with
  | none => rw [e] at h; cases h
  | some k => rw [e] at h; exact ⟨k, rfl, (Option.some.inj h).symm⟩
theorem big_ok {n : Nat} (h : n ≤ 1000000) : n ≤ sizeLine := Nat.le_trans h (by decide)
theorem big_lt {n : Nat} (h : n ≤ 1000000) : n < sizeLine := Nat.lt_of_le_of_lt h (by decide)
theorem cut1 (d : D) (ds : List D) : Z.cutD (d :: ds) (some 1) none = ds := by
  unfold Z.cutD
  rw [HT.sIx_none, show (1 : Int) = ((1 : Nat) : Int) from rfl, HT.sIx_nat, List.length_cons, Nat.min_eq_left (by omega)]
  show List.take _ ds = ds
  exact List.take_of_length_le (by simp)
theorem sl1 {d : D} {ds : List D} {G : Gp} {Q : DK} (q : Q (.tup ds) G) : dSlA (.tup (d :: ds)) (some 1) none G Q := by
  show Q (.tup (Z.cutD (d :: ds) (some 1) none)) G
  rw [cut1]
  exact q
theorem kd_shape (k : Kd) (l : List Kd) (hl : l.length = (args k).length) : (∃ s as, k = .nd (.data s) as) ∨ ∃ (w : Str) (rest : List D), w ≠ "data" ∧ kd k = .tup (.str w :: rest) ∧ (l ≠ [] → kd (withA k l) = .tup (.str w :: kds l)) ∧ (l = [] → withA k l = k) := by
  cases k with
  | any n => exact .inr ⟨"any", _, by decide, rfl, fun h => absurd (List.length_eq_zero_iff.mp hl) h, fun _ => rfl⟩
  | nd h as =>
    have e0 : l = [] → withA (.nd h as) l = .nd h as := fun e => by
      subst e
      have hl : 0 = as.length := hl
      rw [List.length_eq_zero_iff.mp hl.symm]
      rfl
    cases h with
    | data s => exact .inl ⟨s, as, rfl⟩
    | _ => exact .inr ⟨_, kds as, by decide, rfl, fun _ => rfl, e0⟩
theorem kd_nd (h : Hd) (as : List Kd) : ∃ (w : Str) (rest : List D), w ≠ "any" ∧ kd (.nd h as) = .tup (.str w :: rest) := by
  cases h <;> exact ⟨_, _, by decide, rfl⟩
/-- nothing is promised of a call that cannot be -/
theorem fn_no [τ : Tbl] {P : Program} {w : World} {K : PySem.W.Frag} {mg : Str → Option Value} {base : Heap} {k : Nat} {f : Addr} {fd : FuncData} {ps : List Str} {z : ZSp} (h : ∀ ds G Q E, ¬ z ds G Q E) : FnOk P w K mg base (L2.CX P w) k f fd ps (upSp K z) :=
  ⟨fun vs H Q E q => by obtain ⟨ds, G, Q0, E0, _, _, q, _⟩ := q; exact (h _ _ _ _ q).elim, fun A outer s H args us vs Q E _ _ _ _ q => by obtain ⟨ds, G, Q0, E0, _, _, q, _⟩ := q; exact (h _ _ _ _ q).elim⟩
theorem fold_len {v : List Int} : ∀ {o : List Int}, (v.foldl addIf o).length ≤ o.length + v.length := by
  induction v with
  | nil => intro o; exact Nat.le_refl _
  | cons x v ih =>
    intro o
    rw [List.foldl_cons]
    have h1 := ih (o := addIf o x)
    have h2 : (addIf o x).length ≤ o.length + 1 := by
      unfold addIf
      split
      · omega
      · rw [List.length_append]; simp
    rw [List.length_cons]
    omega
theorem varss_app (l m : List Kd) : varss (l ++ m) = varss l ++ varss m := by
  induction l with
  | nil => rfl
  | cons a l ih => rw [List.cons_append, varss, varss, ih, List.append_assoc]
theorem gathl (l : List Kd) (o : List Int) : l.foldl (fun o a => gath a o) o = (varss l).foldl addIf o := by
  have := gath_nd (h := .unit) (as := l) (o := o)
  rw [← this]
  unfold gath
  rw [vars]
def spParts : ZSp := fun ds G Q _ => ∃ k : Kd, ds = [kd k] ∧ wf k ∧ Q (.tup (kds (args k))) G
def spWith : ZSp := fun ds G Q _ => ∃ (k : Kd) (p : Addr) (l : List Kd), ds = [kd k, .ref p] ∧ G p = some (.lst (kds l)) ∧ wf k ∧ l.length = (args k).length ∧ l.length ≤ 1000 ∧ Q (kd (withA k l)) G
section
variable [τ : Tbl] {P : Program} {w : World} {K : PySem.W.Frag} {mg : Str → Option Value} {base : Heap} {CU CK : Addr}
theorem ok_Parts {f : Addr} {fd : FuncData} (FF : Fun K "kind_parts" "kind_parts" s_kind_parts f fd) (T : Txt K mg CU CK) : FnOk P w K mg base (L2.CX P w) 1 f fd ["kind"] (upSp K spParts) :=
  z_fn FF sc_kind_parts (fun ds G Q E h => by obtain ⟨_, rfl, _⟩ := h; rfl) fun bas cdv A outer s H E hr ds G Q E0 hE hz => by
    obtain ⟨k, rfl, hw, hq⟩ := hz
    refine ⟨_, (zs_cons (z_set (i := 1) sc_kind_parts.nd rfl (Or.inl rfl) (z_ix (z_var 0) z_int)) (zs_cons (z_if (z_tcmp zo_inF (z_var 1) (z_tup (za_cons z_str (za_cons z_str (za_cons z_str (za_cons z_str za_nil)))))) (zs_one (z_ret (z_slice zsl_tupA (z_var 0) (zo_some z_int) zo_none))) zs_nil) (zs_cons (z_if (z_tcmp zo_eqF (z_var 1) z_str) (zs_one (z_ret (z_ix (z_var 0) z_int))) zs_nil) (zs_cons (z_ret (z_tup za_nil)) zs_nil)))), ?_⟩
    cases k with
    | any n =>
      rw [show kd (.any n) = .tup [.str "any", .int n] from rfl]
      walk_at "zr"
      exact hq
    | nd h as =>
      obtain ⟨h1, h2⟩ := wf_nd.mp hw
      have nil0 : as.length = 0 → as = [] := fun e => List.length_eq_zero_iff.mp e
      cases h with
      | int =>
        cases nil0 h1
        rw [show kd (.nd .int []) = .tup [.str "int"] from rfl]
        walk_at "zr"
        exact hq
      | bool =>
        cases nil0 h1
        rw [show kd (.nd .bool []) = .tup [.str "bool"] from rfl]
        walk_at "zr"
        exact hq
      | unit =>
        cases nil0 h1
        rw [show kd (.nd .unit []) = .tup [.str "unit"] from rfl]
        walk_at "zr"
        exact hq
      | data s =>
        rw [show kd (.nd (.data s) as) = .tup [.str "data", .str s, .tup (kds as)] from rfl]
        walk_at "zr"
        exact hq
      | list =>
        rw [show kd (.nd .list as) = .tup (.str "list" :: kds as) from rfl]
        walk_at "zr"
        exact sl1 hq
      | ref =>
        rw [show kd (.nd .ref as) = .tup (.str "ref" :: kds as) from rfl]
        walk_at "zr"
        exact sl1 hq
      | fn =>
        rw [show kd (.nd .fn as) = .tup (.str "fun" :: kds as) from rfl]
        walk_at "zr"
        exact sl1 hq
      | pair =>
        rw [show kd (.nd .pair as) = .tup (.str "pair" :: kds as) from rfl]
        walk_at "zr"
        exact sl1 hq
theorem ok_With {f : Addr} {fd : FuncData} (FF : Fun K "with_parts" "with_parts" s_with_parts f fd) (T : Txt K mg CU CK) : FnOk P w K mg base (L2.CX P w) 1 f fd ["kind", "inner"] (upSp K spWith) :=
  z_fn FF sc_with_parts (fun ds G Q E h => by obtain ⟨_, _, _, rfl, _⟩ := h; rfl) fun bas cdv A outer s H E hr ds G Q E0 hE hz => by
    obtain ⟨k, p, l, rfl, hp, hw, hl, hb, hq⟩ := hz
    refine ⟨_, (zs_cons (z_if (z_tcmp zo_eqF (z_ix (z_var 0) z_int) z_str) (zs_one (z_ret (z_tup (za_cons z_str (za_cons (z_ix (z_var 0) z_int) (za_cons (z_callTy zf_tuple (by rfl) T.z_tuple (by rfl) (za_cons (z_var 1) za_nil)) za_nil)))))) zs_nil) (zs_cons (z_ret (z_ifE (z_tcmp zo_gt (z_callB zf_len (by rfl) T.z_len (by rfl) (za_cons (z_var 1) za_nil)) z_int) (z_op zo_catT (z_tup (za_cons (z_ix (z_var 0) z_int) za_nil)) (z_callTy zf_tuple (by rfl) T.z_tuple (by rfl) (za_cons (z_var 1) za_nil))) (z_var 0))) zs_nil)), ?_⟩
    rcases kd_shape k l hl with ⟨s, as, rfl⟩ | ⟨wd, rest, ne, ek, h1, h2⟩
    · rw [show kd (.nd (.data s) as) = .tup [.str "data", .str s, .tup (kds as)] from rfl]
      walk_at "zr"
      exact hq
    · rw [ek]
      walk_at "zr"
      refine r_ndec (fun e => absurd e ne) fun _ => ?_
      walk_at "zr"
      refine r_dec (fun h => ?_) fun h => ?_
      · walk_at "zr"
        have ne' : l ≠ [] := fun e => by
          subst e
          simp [kds] at h
        rw [h1 ne'] at hq
        exact ⟨by simp, big_ok (by rw [kds_len]; simp; omega), hq⟩
      · have e : l = [] := by
          rw [kds_len] at h
          exact List.length_eq_zero_iff.mp (by omega)
        walk_at "zr"
        rw [← ek, ← h2 e]
        exact hq
theorem nodup_sub {W : List Int} : ∀ {o : List Int}, o.Nodup → (∀ x ∈ o, x ∈ W) → o.length ≤ W.length := fun {o} => by
  induction W generalizing o with
  | nil =>
    intro _ h
    cases o with
    | nil => exact Nat.le_refl _
    | cons x o => exact absurd (h x List.mem_cons_self) (by simp)
  | cons w W ih =>
    intro nd h
    have h1 := ih (o := o.erase w) (nd.erase w) fun x hx => by
      have h2 := h x (List.mem_of_mem_erase hx)
      rcases List.mem_cons.mp h2 with e | h2
      · exact absurd hx (e ▸ List.Nodup.not_mem_erase nd)
      · exact h2
    have h3 := List.length_erase (a := w) (l := o)
    rw [List.length_cons]
    split at h3 <;> omega
theorem nodup_gathF : ∀ {l : List Kd} {o : List Int}, o.Nodup → (l.foldl (fun o a => gath a o) o).Nodup := fun {l} {o} h => by rw [gathl]; exact nodup_fold h
theorem mem_gathF {l : List Kd} {o : List Int} {x : Int} : x ∈ l.foldl (fun o a => gath a o) o ↔ x ∈ o ∨ x ∈ varss l := by rw [gathl, mem_fold]
def spGath (n : Nat) : ZSp := fun ds G Q _ => ∃ (k : Kd) (p : Addr) (o W : List Int), ds = [kd k, .ref p] ∧ wf k ∧ dep k < n ∧ G p = some (.lst (intsD o)) ∧ o.Nodup ∧ (∀ x ∈ o, x ∈ W) ∧ (∀ x ∈ vars k, x ∈ W) ∧ W.length ≤ 1000000 ∧ ∀ G', Exb p G G' → G' p = some (.lst (intsD (gath k o))) → Q .non G'
theorem ok_Gath {f : Addr} {fd : FuncData} (FF : Fun K "gather_variables" "gather_variables" s_gather_variables f fd) (T : Txt K mg CU CK) (D_kind_parts : Dfn P w K mg base "kind_parts" 1 ["kind"] spParts)
    (self : ∀ {j : Nat} {z : ZSp}, FnOk P w K mg base (L2.CX P w) j f fd ["kind", "found"] (upSp K z) → Dfn P w K mg base "gather_variables" j ["kind", "found"] z) : ∀ n, FnOk P w K mg base (L2.CX P w) (n + 2) f fd ["kind", "found"] (upSp K (spGath n))
  | 0 => fn_no fun ds G Q E h => by obtain ⟨_, _, _, _, _, _, h, _⟩ := h; omega
  | n + 1 =>
    have D_gather_variables := self (ok_Gath FF T D_kind_parts self n)
    z_fn FF sc_gather_variables (fun ds G Q E h => by obtain ⟨_, _, _, _, rfl, _⟩ := h; rfl) fun bas cdv A outer s H E hr ds G Q E0 hE hz => by
    obtain ⟨k, p, o, W, rfl, hw, hd, hp, on, oW, kW, lW, hq⟩ := hz
    refine ⟨_, (zs_cons (z_if (z_tcmp zo_eqF (z_ix (z_var 0) z_int) z_str) (zs_one (z_if (z_tcmp (zo_notinP (un65 hr)) (z_ix (z_var 0) z_int) (z_var 1)) (zs_one (z_expr (z_bm PySem.F.plainAttrs_list PySem.F.slot_list_append PySem.F.type_list_append zm_append (z_var 1) (za_cons (z_ix (z_var 0) z_int) za_nil)))) zs_nil)) zs_nil) (zs_cons (z_for (passes_of (by rfl)) rfl (zi_tup (z_dc0 D_kind_parts hr (by first | decide | omega) (by rfl) (za_cons (z_var 0) za_nil))) (zg_name (i := 2) sc_gather_variables.nd rfl (Or.inl rfl)) (zs_one (z_expr (z_dc0 D_gather_variables hr (by first | decide | omega) (by rfl) (za_cons (z_var 2) (za_cons (z_var 1) za_nil)))))) zs_nil)), ?_⟩
    have loop : ∀ (D0 : D) (G1 : Gp) (o1 : List Int), kd k = D0 → Exb p G G1 → G1 p = some (.lst (intsD o1)) → o1.Nodup → (∀ x ∈ o1, x ∈ W) → gath k o = (args k).foldl (fun o a => gath a o) o1 →
        zSeq (zFor (zTupI (zCall spParts X0 (zCons (zVar 0) zNil))) (zName 2) (zDrop (zCall (spGath n) X0 (zCons (zVar 2) (zCons (zVar 1) zNil))))) zNext { nx := fun x G' => Q .non G', rt := Q } [some D0, some (.ref p), none] G1 := by
      rintro D0 G1 o1 rfl e1 h1 n1 s1 eg
      walk_at "zr"
      refine ⟨k, rfl, hw, ?_⟩
      walk_at "zr"
      refine ⟨fun i ρ G' => Exb p G G' ∧ G' p = some (.lst (intsD (((args k).take i).foldl (fun o a => gath a o) o1))) ∧ ∃ v : Option D, ρ = [some (kd k), some (.ref p), v], ⟨e1, by simpa using h1, _, rfl⟩, ?_, ?_⟩
      · rintro i d ρ G' hi ⟨e2, h2, v, rfl⟩
        refine ⟨trivial, ?_⟩
        obtain ⟨a, ha, rfl⟩ := kds_get hi
        have tk : (args k).take (i + 1) = (args k).take i ++ [a] := by rw [List.take_add_one, ha]; rfl
        have am : a ∈ args k := List.mem_of_getElem? ha
        have vk : ∀ b ∈ args k, ∀ x ∈ vars b, x ∈ vars k := fun b hb x hx => by
          cases k with
          | any x => cases hb
          | nd h as => exact vars_nd.mpr ⟨b, hb, hx⟩
        have wa : wf a ∧ dep a < n := by
          cases k with
          | any x => cases am
          | nd h as =>
            have : dep a < dep (.nd h as) := dep_child (h := h) am
            exact ⟨(wf_nd.mp hw).2 a am, by omega⟩
        walk_at "zr"
        refine ⟨a, p, _, W, rfl, wa.1, wa.2, h2, nodup_gathF n1, fun x hx => ?_, fun x hx => kW x (vk a am x hx), lW, fun G3 e3 h3 => ?_⟩
        · rcases mem_gathF.mp hx with h | h
          · exact s1 x h
          · obtain ⟨b, hb, hx⟩ := mem_varss.mp h
            exact kW x (vk b (List.mem_of_mem_take hb) x hx)
        walk_at "zr"
        refine ⟨e2.trans e3, ?_, _, rfl⟩
        rw [tk, List.foldl_append]
        exact h3
      · rintro ρ G' ⟨e2, h2, v, rfl⟩
        refine ⟨trivial, ?_⟩
        rw [kds_len, List.take_length] at h2
        walk_at "zr"
        exact hq G' e2 (by rw [eg]; exact h2)
    cases k with
    | any x =>
      rw [show kd (.any x) = .tup [.str "any", .int x] from rfl]
      walk_at "zr"
      refine r_inLI hp fun c hc => ?_
      walk_at "zr"
      refine r_niff hc (fun hm => ?_) fun hm => ?_
      · walk_at "zr"
        refine loop _ G o rfl (Exb.refl _ _) hp on oW ?_
        show (vars (.any x)).foldl addIf o = o
        rw [vars]
        exact if_pos hm
      · walk_at "zr"
        refine ⟨r_tyL hp, ?_⟩
        walk_at "zr"
        have := nodup_sub on oW
        refine r_append hp (big_lt (by rw [intsD_len]; have := nodup_sub (W := W) (nodup_addIf (x := x) on) (fun y hy => (mem_addIf.mp hy).elim (oW y) fun e => kW y (by rw [e]; simp [vars])); rw [show addIf o x = o ++ [x] from if_neg hm, List.length_append] at this; simp at this; omega)) fun G1 h1 => ?_
        walk_at "zr"
        have h1i := h1.is
        rw [show intsD o ++ [D.int x] = intsD (o ++ [x]) from intsD_app o [x]] at h1i
        have ea : addIf o x = o ++ [x] := if_neg hm
        refine loop _ G1 (o ++ [x]) rfl h1.exb h1i (ea ▸ nodup_addIf on) (fun y hy => (mem_addIf.mp (ea ▸ hy)).elim (oW y) fun e => kW y (by rw [e]; simp [vars])) ?_
        show (vars (.any x)).foldl addIf o = o ++ [x]
        rw [vars]
        exact if_neg hm
    | nd h as =>
      obtain ⟨w, rest, ne, ek⟩ := kd_nd h as
      rw [ek]
      walk_at "zr"
      refine r_ndec (fun e => absurd e ne) fun _ => ?_
      walk_at "zr"
      exact loop _ G o ek (Exb.refl _ _) hp on oW gath_nd
def spVars : ZSp := fun ds G Q _ => ∃ (k : Kd) (W : List Int), ds = [kd k] ∧ wf k ∧ dep k < 40 ∧ (∀ x ∈ vars k, x ∈ W) ∧ W.length ≤ 1000000 ∧ ∀ p G', G p = none → Ext G G' → G' p = some (.lst (intsD (gath k []))) → Q (.ref p) G'
theorem exb_ext {G G1 G2 : Gp} {p : Addr} (e : Ext G G1) (n : G p = none) (x : Exb p G1 G2) : Ext G G2 := fun b m h => x b m (fun z => by rw [z, n] at h; cases h) (e b m h)
theorem ok_Vars {f : Addr} {fd : FuncData} (FF : Fun K "kind_variables" "kind_variables" s_kind_variables f fd) (T : Txt K mg CU CK) (D_gather_variables : Dfn P w K mg base "gather_variables" 42 ["kind", "found"] (spGath 40)) : FnOk P w K mg base (L2.CX P w) 43 f fd ["kind"] (upSp K spVars) :=
  z_fn FF sc_kind_variables (fun ds G Q E h => by obtain ⟨_, _, rfl, _⟩ := h; rfl) fun bas cdv A outer s H E hr ds G Q E0 hE hz => by
    obtain ⟨k, W, rfl, hw, hd, kW, lW, hq⟩ := hz
    refine ⟨_, (zs_cons (z_set (i := 1) sc_kind_variables.nd rfl (Or.inl rfl) (z_lst za_nil)) (zs_cons (z_expr (z_dc0 D_gather_variables hr (by first | decide | omega) (by rfl) (za_cons (z_var 0) (za_cons (z_var 1) za_nil)))) (zs_cons (z_ret (z_var 1)) zs_nil))), ?_⟩
    walk_at "zr"
    intro p G1 n1 h1
    walk_at "zr"
    refine ⟨k, p, [], W, rfl, hw, hd, h1.is, List.nodup_nil, fun x hx => (by cases hx), kW, lW, fun G2 e2 h2 => ?_⟩
    walk_at "zr"
    exact hq p G2 n1 (exb_ext (h1.ext n1) n1 e2) h2
def spSubst (n : Nat) : ZSp := fun ds G Q _ => ∃ (k : Kd) (p : Addr) (kvs : List (Key × D)) (σ : Int → Kd), ds = [kd k, .ref p] ∧ wf k ∧ dep k < n ∧ G p = some (.dk kvs) ∧ (∀ x ∈ vars k, (valD kvs (Sum.inl x)).getD (kd (.any x)) = kd (σ x)) ∧ (∀ s ∈ inn k, (args s).length ≤ 1000) ∧ ∀ G', Ext G G' → Q (kd (sub σ k)) G'
theorem ok_Subst {f : Addr} {fd : FuncData} (FF : Fun K "substituted" "substituted" s_substituted f fd) (T : Txt K mg CU CK) (D_kind_parts : Dfn P w K mg base "kind_parts" 1 ["kind"] spParts) (D_with_parts : Dfn P w K mg base "with_parts" 1 ["kind", "inner"] spWith)
    (self : ∀ {j : Nat} {z : ZSp}, FnOk P w K mg base (L2.CX P w) j f fd ["kind", "table"] (upSp K z) → Dfn P w K mg base "substituted" j ["kind", "table"] z) : ∀ n, FnOk P w K mg base (L2.CX P w) (n + 2) f fd ["kind", "table"] (upSp K (spSubst n))
  | 0 => fn_no fun ds G Q E h => by obtain ⟨_, _, _, _, _, _, h, _⟩ := h; omega
  | n + 1 =>
    have D_substituted := self (ok_Subst FF T D_kind_parts D_with_parts self n)
    z_fn FF sc_substituted (fun ds G Q E h => by obtain ⟨_, _, _, _, rfl, _⟩ := h; rfl) fun bas cdv A outer s H E hr ds G Q E0 hE hz => by
    obtain ⟨k, p, kvs, σ, rfl, hw, hd, hp, hv, hl, hq⟩ := hz
    refine ⟨_, (zs_cons (z_if (z_tcmp zo_eqF (z_ix (z_var 0) z_int) z_str) (zs_one (z_ret (z_get2 (un1 hr) (z_var 1) (z_ix (z_var 0) z_int) (z_var 0) ⟨rfl, rfl, rfl, rfl⟩))) zs_nil) (zs_cons (z_ret (z_dc0 D_with_parts hr (by first | decide | omega) (by rfl) (za_cons (z_var 0) (za_cons (z_lc (own := [("part", 2)]) rfl sc_substituted.nd (zi_tup (z_dc0 D_kind_parts hr (by first | decide | omega) (by rfl) (za_cons (z_var 0) za_nil))) (blkOk_by (by rfl)) (grel_name (by decide)) (fun _ _ _ _ _ => (pg_name (i := 2) sc_substituted.nd rfl (Or.inl rfl))) (fun _ _ _ _ _ => zts_nil) (fun _ _ _ _ _ => (z_dc0 D_substituted hr (by first | decide | omega) (by rfl) (za_cons (z_var 2) (za_cons (z_var 1) za_nil))))) za_nil)))) zs_nil)), ?_⟩
    cases k with
    | any x =>
      rw [show kd (.any x) = .tup [.str "any", .int x] from rfl]
      walk_at "zr"
      refine r_get2 (fun R => rfl) hp ?_
      walk_at "zr"
      rw [dget_dk (k := Sum.inl x) hp rfl]
      have e := hv x (by simp [vars])
      show Q ((valD kvs (Sum.inl x)).getD (kd (.any x))) G
      rw [e]
      exact hq G (Ext.refl _)
    | nd h as =>
      obtain ⟨w, rest, ne, ek⟩ := kd_nd h as
      have al : as.length ≤ 1000 := by
        by_cases e : as = []
        · rw [e]; simp
        · exact hl _ (mem_inn.mpr (.inl ⟨e, rfl⟩))
      rw [ek]
      walk_at "zr"
      refine r_ndec (fun e => absurd e ne) fun _ => ?_
      walk_at "zr"
      refine ⟨.nd h as, by rw [ek], hw, ?_⟩
      walk_at "zr"
      refine ⟨fun i acc G' => Ext G G' ∧ acc = kds ((as.take i).map (sub σ)), ⟨Ext.refl _, rfl⟩, ?_, ?_⟩
      · rintro i d acc G' hi ⟨e1, rfl⟩
        obtain ⟨a, ha, rfl⟩ := kds_get hi
        have ha : as[i]? = some a := ha
        have am := List.mem_of_getElem? ha
        have da : dep a < dep (.nd h as) := dep_child am
        refine ⟨trivial, big_lt (by rw [kds_len, List.length_map, List.length_take]; omega), ?_⟩
        walk_at "zr"
        refine ⟨a, p, kvs, σ, rfl, (wf_nd.mp hw).2 a am, by omega, e1 _ _ hp, fun x hx => hv x (vars_nd.mpr ⟨a, am, hx⟩), fun s hs => hl s (mem_inn.mpr (.inr ⟨a, am, hs⟩)), fun G3 e3 => ?_⟩
        refine ⟨e1.trans e3, ?_⟩
        rw [List.take_add_one, ha, List.map_append, kds_map, kds_map, List.map_append]
        rfl
      · rintro acc G' ⟨e1, rfl⟩
        refine ⟨trivial, fun q G2 nq h2 => ?_⟩
        walk_at "zr"
        have h2i := h2.is
        rw [kds_len, show (args (.nd h as)).length = as.length from rfl, List.take_length] at h2i
        refine ⟨.nd h as, q, as.map (sub σ), by rw [ek], h2i, hw, by rw [List.length_map]; rfl, by rw [List.length_map]; exact al, ?_⟩
        have := hq G2 (e1.trans (h2.ext nq))
        rw [sub_nd] at this
        exact this
end
end K05

namespace K05
open PySem PySem.Spec PyProof.Rows L2 Z
local macro_rules | `(tactic| walk_at "zr") => `(tactic| (repeat' (with_reducible first | refine r_asg ?_ | refine r_asgT ?_ | refine r_asgG ?_ | refine r_asg1 ?_ | refine r_if ?_ | refine r_if1 ?_ | refine r_drop ?_ | refine r_drop1 ?_ | refine r_ret ?_ | refine r_ret1 ?_ | refine r_retN ?_ | refine r_nx ?_ | refine r_nx1 ?_ | refine r_bk ?_ | refine r_ct ?_ | refine r_par ?_ | refine r_par1 ?_ | refine r_par3 ?_ | refine r_par31 ?_ | refine r_for ?_ | refine r_for1 ?_ | refine r_sfld ?_ | refine r_sfld1 ?_ | refine r_aug (by with_unfolding_all rfl) ?_ | refine r_aug1 (by with_unfolding_all rfl) ?_ | refine r_var (by with_unfolding_all rfl) ?_ | refine r_c ?_ | refine r_op ?_ | refine r_ifE ?_ | refine r_nil ?_ | refine r_cons ?_ | refine r_tup ?_ | refine r_lst ?_ | refine r_cb ?_ | refine r_call ?_ | refine r_test ?_ | refine r_not ?_ | refine r_and ?_ | refine r_or ?_ | refine r_andV ?_ | refine r_orV ?_ | refine r_notV ?_ | refine r_neg ?_ | refine r_bm ?_ | refine r_bm0 ?_ | refine r_sl ?_ | refine r_part ?_ | refine r_noP ?_ | refine r_chain ?_ | refine r_int2 ?_ | refine r_eqI ?_ | refine r_eqS ?_ | refine r_eqB ?_ | refine r_fInt ?_ | refine r_fIntB ?_ | refine r_fAbs ?_ | refine r_fMin ?_ | refine r_lenT ?_ | refine r_isNN ?_ | refine r_isNI ?_ | refine r_isNT ?_ | refine r_isNR ?_ | refine r_ixT0 ?_ | refine r_ixT1 ?_ | refine r_ixT2 ?_ | refine r_ixT3 ?_ | refine r_fld ?_ | refine r_kfld (by assumption) rfl ?_ | refine r_list ?_ | refine r_klist (by assumption) ?_ | refine r_tupI ?_ | refine r_ktupI ?_ | refine r_yes ?_ | refine r_kctI ?_ | refine r_rng1 ?_ | refine r_rng2 ?_ | refine r_enum ?_ | refine r_kenumT ?_ | refine r_kenum (by assumption) ?_ | refine r_fListT ?_ | refine r_fTupT ?_ | refine r_fListR (by assumption) ?_ | refine r_fTupR (by assumption) ?_ | refine r_lenR (by assumption) ?_ | refine r_rev ?_ | refine r_krevT ?_ | refine r_krev (by assumption) ?_ | refine r_setL ?_ | refine r_dget ?_ | refine r_lc0 ?_ | refine r_name ?_ | refine r_gtup (by with_unfolding_all rfl) ?_ | refine r_gcons ?_ | refine r_gnil ?_ | refine r_din ?_ | refine r_setd ?_ | refine r_ksetdA (by assumption) ?_ | refine r_keysI ?_ | refine r_kkeysI (by assumption) ?_ | refine r_dput ?_ | refine r_dput1 ?_ | refine r_dnewK ?_ | refine r_szc (by with_unfolding_all exact Nat.le_of_ble_eq_true rfl) ?_ | refine r_eqlen (by with_unfolding_all rfl) ?_ | refine r_ifT (by decide) ?_ | refine r_ifF (by decide) ?_ | refine r_inFT (b := false) rfl rfl (by decide) ?_ | refine r_inFT (b := true) rfl rfl (by decide) ?_ | refine r_lrng ?_)))
abbrev iD (n : Nat) : D := .int (n : Nat)
def tbD (τ : Tb) : List (Key × D) := τ.map fun p => (Sum.inl p.1, kd p.2)
theorem tbD_len (τ : Tb) : (tbD τ).length = τ.length := by unfold tbD; rw [List.length_map]
theorem tb_val (τ : Tb) (x : Int) : valD (tbD τ) (Sum.inl x) = (τ.find? fun e => decide (e.1 = x)).map fun e => kd e.2 := by
  unfold valD tbD
  rw [List.find?_map]
  have : ((fun kv : Key × D => decide (kv.1 = Sum.inl x)) ∘ fun e : Int × Kd => (Sum.inl e.1, kd e.2)) = fun e => decide (e.1 = x) := by
    funext e
    show decide ((Sum.inl e.1 : Key) = Sum.inl x) = _
    rw [decide_eq_decide]
    exact ⟨fun h => Sum.inl.inj h, fun h => by rw [h]⟩
  rw [this, Option.map_map]
  rfl
theorem tb_some {τ : Tb} {x : Int} (h : x ∈ dom τ) : ∃ t, (x, t) ∈ τ ∧ valD (tbD τ) (Sum.inl x) = some (kd t) := by
  rw [tb_val]
  cases e : τ.find? fun e => decide (e.1 = x) with
  | none =>
    obtain ⟨p, hp, rfl⟩ := List.mem_map.mp h
    rw [List.find?_eq_none] at e
    exact absurd (decide_eq_true rfl) (e p hp)
  | some p =>
    have h1 := List.mem_of_find?_eq_some e
    have h2 : p.1 = x := by simpa using List.find?_some e
    exact ⟨p.2, by rw [← h2]; exact h1, rfl⟩
theorem tb_none {τ : Tb} {x : Int} (h : x ∉ dom τ) : valD (tbD τ) (Sum.inl x) = none := by
  rw [tb_val]
  cases e : τ.find? fun e => decide (e.1 = x) with
  | none => rfl
  | some p =>
    have h1 := List.mem_of_find?_eq_some e
    have h2 : p.1 = x := by simpa using List.find?_some e
    exact absurd (List.mem_map.mpr ⟨p, h1, h2⟩) h
/-- the unifier at u, its table at t -/
structure UnAt (CU : Addr) (G : Gp) (u t : Addr) (τ : Tb) (m : Nat) : Prop where
  obj : ∃ dx, G u = some (.obj CU dx [("table", .ref t), ("made", iD m)])
  tab : G t = some (.dk (tbD τ))
theorem UnAt.ext {CU : Addr} {G G' : Gp} {u t : Addr} {τ : Tb} {m : Nat} (h : UnAt CU G u t τ m) (e : Ext G G') : UnAt CU G' u t τ m := by
  obtain ⟨dx, h1⟩ := h.obj
  exact ⟨⟨dx, e _ _ h1⟩, e _ _ h.tab⟩
theorem r_meth {C a dx : Addr} {fs : List (Str × D)} {m : Str} {z : ZSp} {E0 : XKz} {to : DE} {t : DA} {ρ : ZSt} {G : Gp} {Q : DK} (ho : ∀ R : DK, to ρ G R = R (.ref a) G) (h1 : G a = some (.obj C dx fs)) (h2 : fs.lookup m = none) (q : t ρ G fun ds G2 => z (.ref a :: ds) G2 Q E0) : zMeth C m z E0 to t ρ G Q := by
  show to ρ G _
  rw [ho]
  show (match G a with
    | some (.obj C' _ fs) => C' = C ∧ fs.lookup m = none ∧ t ρ G fun ds G2 => z (.ref a :: ds) G2 Q E0
    | _ => False)
  rw [h1]
  exact ⟨rfl, h2, q⟩
def spHead (CU : Addr) : ZSp := fun ds G Q _ => ∃ (u t : Addr) (τ : Tb) (m : Nat) (φ : Int → Kd) (r : Int → Nat) (k : Kd), ds = [.ref u, kd k] ∧ UnAt CU G u t τ m ∧ Form τ φ r ∧
  ∀ k', sub φ k' = sub φ k → (k' = k ∨ ∃ p ∈ τ, p.2 = k') → (∀ v, k' = .any v → v ∉ dom τ) → Q (kd k') G
def rk (r : Int → Nat) : Kd → Nat
  | .any v => r v + 1
  | .nd _ _ => 0
section
variable [τ0 : Tbl] {P : Program} {w : World} {K : PySem.W.Frag} {mg : Str → Option Value} {base : Heap} {CU CK : Addr}
theorem ok_Head {f : Addr} {fd : FuncData} (FF : Fun K "head" "Unifier.head" s_Unifier_head f fd) (T : Txt K mg CU CK) : FnOk P w K mg base (L2.CX P w) 1 f fd ["self", "kind"] (upSp K (spHead CU)) :=
  z_fn FF sc_Unifier_head (fun ds G Q E h => by obtain ⟨_, _, _, _, _, _, _, rfl, _⟩ := h; rfl) fun bas cdv A outer s H E hr ds G Q E0 hE hz => by
    obtain ⟨u, t, τ, m, φ, r, k, rfl, hu, F, hq⟩ := hz
    refine ⟨_, (zs_cons (z_while (passes_of (by rfl)) (zw_t (zw_and (z_tcmp zo_eqF (z_ix (z_var 1) z_int) z_str) (zw_and1 (z_tdin (un1 hr) (z_ix (z_var 1) z_int) (z_fld T.c_Unifier T.n_Unifier_table (z_var 0)))))) (zs_one (z_set (i := 1) sc_Unifier_head.nd rfl (Or.inl rfl) (z_dget (un1 hr) (z_fld T.c_Unifier T.n_Unifier_table (z_var 0)) (z_ix (z_var 1) z_int))))) (zs_cons (z_ret (z_var 1)) zs_nil)), ?_⟩
    obtain ⟨dx, hu1⟩ := hu.obj
    have ht := hu.tab
    refine r_while ⟨fun n ρ G' => G' = G ∧ ∃ k', n = rk r k' ∧ ρ = [some (.ref u), some (kd k')] ∧ sub φ k' = sub φ k ∧ (k' = k ∨ ∃ p ∈ τ, p.2 = k'), ⟨_, rfl, k, rfl, rfl, rfl, .inl rfl⟩, ?_⟩
    rintro n ρ G' ⟨rfl, k', rfl, rfl, es, or_⟩
    cases k' with
    | any v =>
      rw [show kd (.any v) = .tup [.str "any", .int v] from rfl]
      walk_at "zr"
      by_cases hv : v ∈ dom τ
      · obtain ⟨tt, hm, hval⟩ := tb_some hv
        refine r_kdin ((dget_dk (d := .int v) (k := Sum.inl v) ht rfl).trans (by rw [hval])) ?_
        refine r_ifT (b := true) rfl ?_
        walk_at "zr"
        refine r_kdget ((dget_dk (d := .int v) (k := Sum.inl v) ht rfl).trans (by rw [hval])) ?_
        walk_at "zr"
        refine ⟨rk r tt, ?_, rfl, tt, rfl, rfl, ?_, .inr ⟨_, hm, rfl⟩⟩
        · cases tt with
          | any y =>
            have := F.rank _ hm y (by simp [vars])
            show r y + 1 < r v + 1
            exact Nat.succ_lt_succ this
          | nd h as => exact Nat.succ_pos _
        · rw [← es, ← F.eqs _ hm]
          rfl
      · refine r_kdin ((dget_dk (d := .int v) (k := Sum.inl v) ht rfl).trans (by rw [tb_none hv])) ?_
        refine r_ifF (b := false) rfl ?_
        walk_at "zr"
        exact hq (.any v) es or_ fun w e => by cases e; exact hv
    | nd h as =>
      obtain ⟨wd, rest, ne, ek⟩ := kd_nd h as
      rw [ek]
      walk_at "zr"
      refine r_ndec (fun e => absurd e ne) fun _ => ?_
      walk_at "zr"
      rw [← ek]
      exact hq (.nd h as) es or_ fun v e => by cases e
def spFull (CU : Addr) (n : Nat) : ZSp := fun ds G Q _ => ∃ (u t : Addr) (τ : Tb) (m : Nat) (φ : Int → Kd) (r : Int → Nat) (k : Kd), ds = [.ref u, kd k] ∧ UnAt CU G u t τ m ∧ Form τ φ r ∧ wf k ∧ (∀ p ∈ τ, wf p.2) ∧
  (∀ s ∈ inn k, (args s).length ≤ 1000) ∧ (∀ p ∈ τ, ∀ s ∈ inn p.2, (args s).length ≤ 1000) ∧ dep (sub φ k) < n ∧ ∀ G', Ext G G' → Q (kd (sub φ k)) G'
theorem ok_Full {f : Addr} {fd : FuncData} (FF : Fun K "full" "Unifier.full" s_Unifier_full f fd) (T : Txt K mg CU CK) (D_kind_parts : Dfn P w K mg base "kind_parts" 1 ["kind"] spParts) (D_with_parts : Dfn P w K mg base "with_parts" 1 ["kind", "inner"] spWith) (D_Unifier_head : Mtd P w K mg base CU "head" 1 ["self", "kind"] (spHead CU))
    (self : ∀ {j : Nat} {z : ZSp}, FnOk P w K mg base (L2.CX P w) j f fd ["self", "kind"] (upSp K z) → Mtd P w K mg base CU "full" j ["self", "kind"] z) : ∀ n, FnOk P w K mg base (L2.CX P w) (n + 2) f fd ["self", "kind"] (upSp K (spFull CU n))
  | 0 => fn_no fun ds G Q E h => by obtain ⟨_, _, _, _, _, _, _, _, _, _, _, _, _, _, h, _⟩ := h; omega
  | n + 1 =>
    have D_Unifier_full := self (ok_Full FF T D_kind_parts D_with_parts D_Unifier_head self n)
    z_fn FF sc_Unifier_full (fun ds G Q E h => by obtain ⟨_, _, _, _, _, _, _, rfl, _⟩ := h; rfl) fun bas cdv A outer s H E hr ds G Q E0 hE hz => by
    obtain ⟨u, t, τ, m, φ, r, k, rfl, hu, F, hw, wτ, hl, lτ, hd, hq⟩ := hz
    refine ⟨_, (zs_cons (z_set (i := 1) sc_Unifier_full.nd rfl (Or.inl rfl) (z_mm T.c_Unifier D_Unifier_head hr (by first | decide | omega) (z_var 0) (za_cons (z_var 1) za_nil))) (zs_cons (z_ret (z_dc0 D_with_parts hr (by first | decide | omega) (by rfl) (za_cons (z_var 1) (za_cons (z_lc (own := [("part", 2)]) rfl sc_Unifier_full.nd (zi_tup (z_dc0 D_kind_parts hr (by first | decide | omega) (by rfl) (za_cons (z_var 1) za_nil))) (blkOk_by (by rfl)) (grel_name (by decide)) (fun _ _ _ _ _ => (pg_name (i := 2) sc_Unifier_full.nd rfl (Or.inl rfl))) (fun _ _ _ _ _ => zts_nil) (fun _ _ _ _ _ => (z_mm T.c_Unifier D_Unifier_full hr (by first | decide | omega) (z_var 0) (za_cons (z_var 2) za_nil)))) za_nil)))) zs_nil)), ?_⟩
    obtain ⟨dx, hu1⟩ := hu.obj
    walk_at "zr"
    refine r_meth (fun R => rfl) hu1 (by with_unfolding_all rfl) ?_
    walk_at "zr"
    refine ⟨u, t, τ, m, φ, r, k, rfl, hu, F, fun k' es or_ un => ?_⟩
    have wk' : wf k' := by
      rcases or_ with rfl | ⟨p, hp, rfl⟩
      · exact hw
      · exact wτ p hp
    have lk' : ∀ s ∈ inn k', (args s).length ≤ 1000 := by
      rcases or_ with rfl | ⟨p, hp, rfl⟩
      · exact hl
      · exact lτ p hp
    walk_at "zr"
    refine ⟨k', rfl, wk', ?_⟩
    walk_at "zr"
    have al : (args k').length ≤ 1000 := by
      cases k' with
      | any v => exact Nat.zero_le _
      | nd h as =>
        by_cases e : as = []
        · rw [e]; exact Nat.zero_le _
        · exact lk' _ (mem_inn.mpr (.inl ⟨e, rfl⟩))
    refine ⟨fun i acc G' => Ext G G' ∧ acc = kds (((args k').take i).map (sub φ)), ⟨Ext.refl _, rfl⟩, ?_, ?_⟩
    · rintro i d acc G' hi ⟨e1, rfl⟩
      obtain ⟨a, ha, rfl⟩ := kds_get hi
      have am := List.mem_of_getElem? ha
      refine ⟨trivial, big_lt (by rw [kds_len, List.length_map, List.length_take]; omega), ?_⟩
      walk_at "zr"
      refine r_meth (fun R => rfl) (e1 _ _ hu1) (by with_unfolding_all rfl) ?_
      walk_at "zr"
      have ch : wf a ∧ (∀ s ∈ inn a, (args s).length ≤ 1000) ∧ dep (sub φ a) < n := by
        cases k' with
        | any v => cases am
        | nd h as =>
          have d1 : dep (sub φ a) < dep (sub φ (.nd h as)) := by rw [sub_nd]; exact dep_child (List.mem_map.mpr ⟨a, am, rfl⟩)
          rw [es] at d1
          exact ⟨(wf_nd.mp wk').2 a am, fun s hs => lk' s (mem_inn.mpr (.inr ⟨a, am, hs⟩)), by omega⟩
      refine ⟨u, t, τ, m, φ, r, a, rfl, hu.ext e1, F, ch.1, wτ, ch.2.1, lτ, ch.2.2, fun G3 e3 => ?_⟩
      refine ⟨e1.trans e3, ?_⟩
      rw [List.take_add_one, ha, List.map_append, kds_map, kds_map, List.map_append]
      rfl
    · rintro acc G' ⟨e1, rfl⟩
      refine ⟨trivial, fun q G2 nq h2 => ?_⟩
      walk_at "zr"
      have h2i := h2.is
      rw [kds_len, List.take_length] at h2i
      refine ⟨k', q, (args k').map (sub φ), rfl, h2i, wk', by rw [List.length_map], by rw [List.length_map]; exact al, ?_⟩
      have := hq G2 (e1.trans (h2.ext nq))
      rw [← es] at this
      cases k' with
      | any v =>
        rw [show sub φ (.any v) = .any v from F.out v (un v rfl)] at this
        exact this
      | nd h as =>
        rw [sub_nd] at this
        exact this
end
end K05

namespace K05
open PySem PySem.Spec PyProof.Rows L2 Z
local macro_rules | `(tactic| walk_at "zr") => `(tactic| (repeat' (with_reducible first | refine r_asg ?_ | refine r_asgT ?_ | refine r_asgG ?_ | refine r_asg1 ?_ | refine r_if ?_ | refine r_if1 ?_ | refine r_drop ?_ | refine r_drop1 ?_ | refine r_ret ?_ | refine r_ret1 ?_ | refine r_retN ?_ | refine r_nx ?_ | refine r_nx1 ?_ | refine r_bk ?_ | refine r_ct ?_ | refine r_par ?_ | refine r_par1 ?_ | refine r_par3 ?_ | refine r_par31 ?_ | refine r_for ?_ | refine r_for1 ?_ | refine r_sfld ?_ | refine r_sfld1 ?_ | refine r_aug (by with_unfolding_all rfl) ?_ | refine r_aug1 (by with_unfolding_all rfl) ?_ | refine r_var (by with_unfolding_all rfl) ?_ | refine r_c ?_ | refine r_op ?_ | refine r_ifE ?_ | refine r_nil ?_ | refine r_cons ?_ | refine r_tup ?_ | refine r_lst ?_ | refine r_cb ?_ | refine r_call ?_ | refine r_test ?_ | refine r_not ?_ | refine r_and ?_ | refine r_or ?_ | refine r_andV ?_ | refine r_orV ?_ | refine r_notV ?_ | refine r_neg ?_ | refine r_bm ?_ | refine r_bm0 ?_ | refine r_sl ?_ | refine r_part ?_ | refine r_noP ?_ | refine r_chain ?_ | refine r_int2 ?_ | refine r_eqI ?_ | refine r_eqS ?_ | refine r_eqB ?_ | refine r_fInt ?_ | refine r_fIntB ?_ | refine r_fAbs ?_ | refine r_fMin ?_ | refine r_lenT ?_ | refine r_isNN ?_ | refine r_isNI ?_ | refine r_isNT ?_ | refine r_isNR ?_ | refine r_ixT0 ?_ | refine r_ixT1 ?_ | refine r_ixT2 ?_ | refine r_ixT3 ?_ | refine r_fld ?_ | refine r_kfld (by assumption) rfl ?_ | refine r_list ?_ | refine r_klist (by assumption) ?_ | refine r_tupI ?_ | refine r_ktupI ?_ | refine r_yes ?_ | refine r_kctI ?_ | refine r_rng1 ?_ | refine r_rng2 ?_ | refine r_enum ?_ | refine r_kenumT ?_ | refine r_kenum (by assumption) ?_ | refine r_fListT ?_ | refine r_fTupT ?_ | refine r_fListR (by assumption) ?_ | refine r_fTupR (by assumption) ?_ | refine r_lenR (by assumption) ?_ | refine r_rev ?_ | refine r_krevT ?_ | refine r_krev (by assumption) ?_ | refine r_setL ?_ | refine r_dget ?_ | refine r_lc0 ?_ | refine r_name ?_ | refine r_gtup (by with_unfolding_all rfl) ?_ | refine r_gcons ?_ | refine r_gnil ?_ | refine r_din ?_ | refine r_setd ?_ | refine r_ksetdA (by assumption) ?_ | refine r_keysI ?_ | refine r_kkeysI (by assumption) ?_ | refine r_dput ?_ | refine r_dput1 ?_ | refine r_dnewK ?_ | refine r_szc (by with_unfolding_all exact Nat.le_of_ble_eq_true rfl) ?_ | refine r_eqlen (by with_unfolding_all rfl) ?_ | refine r_ifT (by decide) ?_ | refine r_ifF (by decide) ?_ | refine r_inFT (b := false) rfl rfl (by decide) ?_ | refine r_inFT (b := true) rfl rfl (by decide) ?_ | refine r_lrng ?_)))
def qOcc : Str := (envOfC "Unifier.occurs" (defScope s_Unifier_occurs) 0 0 .none).qual ++ "<genexpr>"
def spOccurs (CU : Addr) (n : Nat) : ZSp := fun ds G Q _ => ∃ (u t : Addr) (τ : Tb) (m : Nat) (φ : Int → Kd) (r : Int → Nat) (k : Kd) (x : Int), ds = [.ref u, .int x, kd k] ∧ UnAt CU G u t τ m ∧ Form τ φ r ∧ wf k ∧ (∀ p ∈ τ, wf p.2) ∧
  (∀ s ∈ inn k, (args s).length ≤ 1000) ∧ (∀ p ∈ τ, ∀ s ∈ inn p.2, (args s).length ≤ 1000) ∧ x ∉ dom τ ∧ dep (sub φ k) < n ∧ ∀ c G', Ext G G' → (c = true ↔ x ∈ vars (sub φ k)) → Q (.bl c) G'
theorem r_boolG {b0 : Bool} {zi : DI} {g : DG} {tt : DT} {te : DE} {vs : List Nat} {ρ : ZSt} {G : Gp} {Q : DK} (h : zi ρ G fun items live G1 => items.length ≤ sizeLine ∧ ∃ P : Nat → Gp → Prop, P 0 G1 ∧
  (∀ i d G', items[i]? = some d → P i G' → live G' ∧ g d (zwipe ρ vs) G' fun ρ2 G2 => tt ρ2 G2 fun b G3 => if b = true then te ρ2 G3 fun e G4 => (match e with
    | .bl c => if c = b0 then Q (.bl b0) G4 else P (i + 1) G4
    | _ => False) else P (i + 1) G3) ∧
  ∀ G', P items.length G' → live G' ∧ Q (.bl (!b0)) G') : Zx.zBoolG b0 zi g tt te vs ρ G Q := h
section
variable [τ0 : Tbl] {P : Program} {w : World} {K : PySem.W.Frag} {mg : Str → Option Value} {base : Heap} {CU CK : Addr}
theorem ok_Occurs {f c PO : Addr} {oc kV doc pm ct : Value} {od an : Option Addr} {osl : Array (Option Value)}
    (lk : K.lookup f = some ⟨oc, od, .func (PySem.W.fnOf "occurs" "Unifier.occurs" (defArgs s_Unifier_occurs) (defBody s_Unifier_occurs) (defScope s_Unifier_occurs) .none kV doc pm an (.ref c) ct), osl⟩) (hcd : PySem.W.codeIn K (.ref c) "Unifier.occurs" = true) (T : Txt K mg CU CK)
    (TB : GxR.TabB base mg c PO) (hmT : (PO, qOcc) ∈ τ0.T) (hu : ∀ p ∈ τ0.T, p.1 = PO → p.2 = qOcc) (D_kind_parts : Dfn P w K mg base "kind_parts" 1 ["kind"] spParts) (D_Unifier_head : Mtd P w K mg base CU "head" 1 ["self", "kind"] (spHead CU))
    (self : ∀ {j : Nat} {z : ZSp}, FnOk P w K mg base (L2.CX P w) j f (PySem.W.fnOf "occurs" "Unifier.occurs" (defArgs s_Unifier_occurs) (defBody s_Unifier_occurs) (defScope s_Unifier_occurs) .none kV doc pm an (.ref c) ct) ["self", "number", "kind"] (upSp K z) → Mtd P w K mg base CU "occurs" j ["self", "number", "kind"] z) :
    ∀ n, FnOk P w K mg base (L2.CX P w) (2 * n + 2) f (PySem.W.fnOf "occurs" "Unifier.occurs" (defArgs s_Unifier_occurs) (defBody s_Unifier_occurs) (defScope s_Unifier_occurs) .none kV doc pm an (.ref c) ct) ["self", "number", "kind"] (upSp K (spOccurs CU n))
  | 0 => fn_no fun ds G Q E h => by obtain ⟨_, _, _, _, _, _, _, _, _, _, _, _, _, _, _, _, h, _⟩ := h; omega
  | n + 1 =>
    have D_Unifier_occurs := self (ok_Occurs lk hcd T TB hmT hu D_kind_parts D_Unifier_head self n)
    z_fnC (k := 2 * n + 2 + 1) lk hcd sc_Unifier_occurs (fun ds G Q E h => by obtain ⟨_, _, _, _, _, _, _, _, rfl, _⟩ := h; rfl) fun bas A outer s H E hr ds G Q E0 hE hz => by
    obtain ⟨u, t, τ, m, φ, r, k, x, rfl, hun, F, hw, wτ, hl, lτ, hx, hd, hq⟩ := hz
    refine ⟨_, (zs_cons (z_set (i := 2) sc_Unifier_occurs.nd rfl (Or.inl rfl) (z_mm T.c_Unifier D_Unifier_head hr (by first | decide | omega) (z_var 0) (za_cons (z_var 2) za_nil))) (zs_cons (z_if (z_tcmp zo_eqF (z_ix (z_var 2) z_int) z_str) (zs_one (z_ret (z_cmp zo_eqF (z_ix (z_var 2) z_int) (z_var 1)))) zs_nil) (zs_cons (z_ret (Zx.z_anyG (own := [("part", 3)]) hmT hu hr (by rfl) T.z_any TB rfl sc_Unifier_occurs.nd ⟨blkOk_by (by rfl), rfl, by decide, rfl⟩ (zi_tup (z_dc0 D_kind_parts hr (by first | decide | omega) (by rfl) (za_cons (z_var 2) za_nil))) (grel_name (by decide)) (fun _ _ _ _ _ _ _ hr2 => ⟨(pg_name (i := 3) sc_Unifier_occurs.nd rfl (Or.inl rfl)), zts_nil, (z_mm T.c_Unifier D_Unifier_occurs hr2 (by first | decide | omega) (z_var 0) (za_cons (z_var 1) (za_cons (z_var 3) za_nil)))⟩) (fun _ => rfl))) zs_nil))), ?_⟩
    obtain ⟨dx, hu1⟩ := hun.obj
    walk_at "zr"
    refine r_meth (fun R => rfl) hu1 (by with_unfolding_all rfl) ?_
    walk_at "zr"
    refine ⟨u, t, τ, m, φ, r, k, rfl, hun, F, fun k' es or_ un => ?_⟩
    have wk' : wf k' := by
      rcases or_ with rfl | ⟨p, hp, rfl⟩
      · exact hw
      · exact wτ p hp
    have lk' : ∀ s ∈ inn k', (args s).length ≤ 1000 := by
      rcases or_ with rfl | ⟨p, hp, rfl⟩
      · exact hl
      · exact lτ p hp
    cases k' with
    | any v =>
      rw [show kd (.any v) = .tup [.str "any", .int v] from rfl]
      walk_at "zr"
      refine hq _ G (Ext.refl _) ?_
      have e : sub φ k = .any v := by
        rw [← es]
        exact F.out v (un v rfl)
      rw [e, vars, List.mem_singleton]
      show (false != decide (v = x)) = true ↔ x = v
      simp [eq_comm]
    | nd h as =>
      obtain ⟨wd, rest, ne, ek⟩ := kd_nd h as
      rw [ek]
      walk_at "zr"
      refine r_ndec (fun e => absurd e ne) fun _ => ?_
      walk_at "zr"
      refine r_boolG ?_
      walk_at "zr"
      refine ⟨.nd h as, by rw [ek], wk', ?_⟩
      walk_at "zr"
      have al : as.length ≤ 1000 := by
        by_cases e : as = []
        · rw [e]; exact Nat.zero_le _
        · exact lk' _ (mem_inn.mpr (.inl ⟨e, rfl⟩))
      have vk : ∀ {a}, a ∈ as → x ∈ vars (sub φ a) → x ∈ vars (sub φ k) := fun {a} ha h => by
        rw [← es, sub_nd]
        exact vars_nd.mpr ⟨_, List.mem_map.mpr ⟨a, ha, rfl⟩, h⟩
      refine ⟨big_ok (by rw [kds_len]; show as.length ≤ _; omega), fun i G' => Ext G G' ∧ ∀ (j : Nat) a, j < i → as[j]? = some a → x ∉ vars (sub φ a), ⟨Ext.refl _, fun j a h => (by omega)⟩, ?_, ?_⟩
      · rintro i d G' hi ⟨e1, hn⟩
        obtain ⟨a, ha, rfl⟩ := kds_get hi
        have ha : as[i]? = some a := ha
        have am := List.mem_of_getElem? ha
        refine ⟨trivial, ?_⟩
        walk_at "zr"
        refine r_meth (fun R => rfl) (e1 _ _ hu1) (by with_unfolding_all rfl) ?_
        walk_at "zr"
        have d1 : dep (sub φ a) < dep (sub φ (.nd h as)) := by rw [sub_nd]; exact dep_child (List.mem_map.mpr ⟨a, am, rfl⟩)
        rw [es] at d1
        refine ⟨u, t, τ, m, φ, r, a, x, rfl, hun.ext e1, F, (wf_nd.mp wk').2 a am, wτ, fun s hs => lk' s (mem_inn.mpr (.inr ⟨a, am, hs⟩)), lτ, hx, by omega, fun c G3 e3 hc => ?_⟩
        cases c with
        | true =>
          refine r_ifT (b := decide (true = true)) rfl ?_
          exact hq true G3 (e1.trans e3) ⟨fun _ => vk am (hc.mp rfl), fun _ => rfl⟩
        | false =>
          refine r_ifF (b := false) rfl ?_
          refine ⟨e1.trans e3, fun j b hj hb h => ?_⟩
          by_cases e : j = i
          · subst e
            rw [ha] at hb
            cases hb
            have := hc.mpr h
            cases this
          · exact hn j b (by omega) hb h
      · rintro G' ⟨e1, hn⟩
        refine ⟨trivial, hq _ G' e1 ⟨fun h => (by cases h), fun h => ?_⟩⟩
        rw [← es, sub_nd] at h
        obtain ⟨b, hb, h⟩ := vars_nd.mp h
        obtain ⟨a, ha, rfl⟩ := List.mem_map.mp hb
        obtain ⟨j, hj, e⟩ := List.getElem_of_mem ha
        rw [kds_len] at hn
        exact absurd h (hn j a hj (by rw [List.getElem?_eq_getElem hj, e]))
end
end K05

namespace K05
open PySem PySem.Spec PyProof.Rows L2 Z
local macro_rules | `(tactic| walk_at "zr") => `(tactic| (repeat' (with_reducible first | refine r_asg ?_ | refine r_asgT ?_ | refine r_asgG ?_ | refine r_asg1 ?_ | refine r_if ?_ | refine r_if1 ?_ | refine r_drop ?_ | refine r_drop1 ?_ | refine r_ret ?_ | refine r_ret1 ?_ | refine r_retN ?_ | refine r_nx ?_ | refine r_nx1 ?_ | refine r_bk ?_ | refine r_ct ?_ | refine r_par ?_ | refine r_par1 ?_ | refine r_par3 ?_ | refine r_par31 ?_ | refine r_for ?_ | refine r_for1 ?_ | refine r_sfld ?_ | refine r_sfld1 ?_ | refine r_aug (by with_unfolding_all rfl) ?_ | refine r_aug1 (by with_unfolding_all rfl) ?_ | refine r_var (by with_unfolding_all rfl) ?_ | refine r_c ?_ | refine r_op ?_ | refine r_ifE ?_ | refine r_nil ?_ | refine r_cons ?_ | refine r_tup ?_ | refine r_lst ?_ | refine r_cb ?_ | refine r_call ?_ | refine r_test ?_ | refine r_not ?_ | refine r_and ?_ | refine r_or ?_ | refine r_andV ?_ | refine r_orV ?_ | refine r_notV ?_ | refine r_neg ?_ | refine r_bm ?_ | refine r_bm0 ?_ | refine r_sl ?_ | refine r_part ?_ | refine r_noP ?_ | refine r_chain ?_ | refine r_int2 ?_ | refine r_eqI ?_ | refine r_eqS ?_ | refine r_eqB ?_ | refine r_fInt ?_ | refine r_fIntB ?_ | refine r_fAbs ?_ | refine r_fMin ?_ | refine r_lenT ?_ | refine r_isNN ?_ | refine r_isNI ?_ | refine r_isNT ?_ | refine r_isNR ?_ | refine r_ixT0 ?_ | refine r_ixT1 ?_ | refine r_ixT2 ?_ | refine r_ixT3 ?_ | refine r_fld ?_ | refine r_kfld (by assumption) rfl ?_ | refine r_list ?_ | refine r_klist (by assumption) ?_ | refine r_tupI ?_ | refine r_ktupI ?_ | refine r_yes ?_ | refine r_kctI ?_ | refine r_rng1 ?_ | refine r_rng2 ?_ | refine r_enum ?_ | refine r_kenumT ?_ | refine r_kenum (by assumption) ?_ | refine r_fListT ?_ | refine r_fTupT ?_ | refine r_fListR (by assumption) ?_ | refine r_fTupR (by assumption) ?_ | refine r_lenR (by assumption) ?_ | refine r_rev ?_ | refine r_krevT ?_ | refine r_krev (by assumption) ?_ | refine r_setL ?_ | refine r_dget ?_ | refine r_lc0 ?_ | refine r_name ?_ | refine r_gtup (by with_unfolding_all rfl) ?_ | refine r_gcons ?_ | refine r_gnil ?_ | refine r_din ?_ | refine r_setd ?_ | refine r_ksetdA (by assumption) ?_ | refine r_keysI ?_ | refine r_kkeysI (by assumption) ?_ | refine r_dput ?_ | refine r_dput1 ?_ | refine r_dnewK ?_ | refine r_szc (by with_unfolding_all exact Nat.le_of_ble_eq_true rfl) ?_ | refine r_eqlen (by with_unfolding_all rfl) ?_ | refine r_ifT (by decide) ?_ | refine r_ifF (by decide) ?_ | refine r_inFT (b := false) rfl rfl (by decide) ?_ | refine r_inFT (b := true) rfl rfl (by decide) ?_ | refine r_lrng ?_)))
theorem tb_put {τ : Tb} {v : Int} {k : Kd} (h : v ∉ dom τ) : putD (tbD τ) (Sum.inl v) (kd k) = tbD (τ ++ [(v, k)]) := by
  unfold putD
  have : ((tbD τ).any fun kv => decide (kv.1 = Sum.inl v)) = false := by
    rw [List.any_eq_false]
    rintro kv hkv z
    obtain ⟨p, hp, rfl⟩ := List.mem_map.mp hkv
    exact h (List.mem_map.mpr ⟨p, hp, Sum.inl.inj (of_decide_eq_true z)⟩)
  rw [this]
  unfold tbD
  rw [List.map_append]
  rfl
def spStand (CU CK : Addr) : ZSp := fun ds G Q E => ∃ (u t : Addr) (τ : Tb) (m : Nat) (φ : Int → Kd) (r : Int → Nat) (k : Kd) (v : Int), ds = [.ref u, .int v, kd k] ∧ UnAt CU G u t τ m ∧ Form τ φ r ∧ wf k ∧ (∀ p ∈ τ, wf p.2) ∧
  (∀ s ∈ inn k, (args s).length ≤ 1000) ∧ (∀ p ∈ τ, ∀ s ∈ inn p.2, (args s).length ≤ 1000) ∧ v ∉ dom τ ∧ dep (sub φ k) < 40 ∧ τ.length ≤ 1000 ∧
  (v ∈ vars (sub φ k) → ∀ G', Ext G G' → E (.ref CK) G') ∧ (v ∉ vars (sub φ k) → ∀ G', Exb t G G' → UnAt CU G' u t (τ ++ [(v, k)]) m → Q .non G')
section
variable [τ0 : Tbl] {P : Program} {w : World} {K : PySem.W.Frag} {mg : Str → Option Value} {base : Heap} {CU CK : Addr}
theorem ok_Stand {f : Addr} {fd : FuncData} (FF : Fun K "stand_for" "Unifier.stand_for" s_Unifier_stand_for f fd) (T : Txt K mg CU CK) (D_Unifier_occurs : Mtd P w K mg base CU "occurs" 82 ["self", "number", "kind"] (spOccurs CU 40)) : FnOk P w K mg base (L2.CX P w) 83 f fd ["self", "number", "kind"] (upSp K (spStand CU CK)) :=
  z_fn FF sc_Unifier_stand_for (fun ds G Q E h => by obtain ⟨_, _, _, _, _, _, _, _, rfl, _⟩ := h; rfl) fun bas cdv A outer s H E hr ds G Q E0 hE hz => by
    obtain ⟨u, t, τ, m, φ, r, k, v, rfl, hun, F, hw, wτ, hl, lτ, hv, hd, lt, hE1, hq⟩ := hz
    refine ⟨_, (zs_cons (z_if (z_val (z_mm T.c_Unifier D_Unifier_occurs hr (by first | decide | omega) (z_var 0) (za_cons (z_var 1) (za_cons (z_var 2) za_nil)))) (zs_one (z_raise1 PySem.F.excBase_ValueError T.x_KindError T.g_KindError T.k_KindError (raises_own T.e_KindError T.t_KindError) (by rfl) rfl (takes_of rfl rfl rfl rfl) hE z_str)) zs_nil) (zs_cons (z_dput (un1 hr) (z_fld T.c_Unifier T.n_Unifier_table (z_var 0)) (z_var 1) (z_var 2)) zs_nil)), ?_⟩
    obtain ⟨dx, hu1⟩ := hun.obj
    walk_at "zr"
    refine r_meth (fun R => rfl) hu1 (by with_unfolding_all rfl) ?_
    walk_at "zr"
    refine ⟨u, t, τ, m, φ, r, k, v, rfl, hun, F, hw, wτ, hl, lτ, hv, hd, fun c G1 e1 hc => ?_⟩
    cases c with
    | true =>
      refine r_ifT (b := true) rfl ?_
      show E0 (.ref CK) G1
      exact hE1 (hc.mp rfl) G1 e1
    | false =>
      have nv : v ∉ vars (sub φ k) := fun h => by
        have := hc.mpr h
        cases this
      refine r_ifF (b := false) rfl ?_
      have hu2 := e1 _ _ hu1
      walk_at "zr"
      refine r_kdput (k := Sum.inl v) (e1 _ _ hun.tab) rfl (big_lt (by rw [tbD_len]; omega)) fun G2 h2 => ?_
      rw [tb_put hv] at h2
      have ut : u ≠ t := fun z => by
        rw [z, hun.tab] at hu1
        cases hu1
      walk_at "zr"
      exact hq nv G2 (e1.exb.trans h2.exb) ⟨⟨dx, (h2.other u ut).trans hu2⟩, h2.is⟩
end
end K05

namespace K05
open PySem PySem.Spec PyProof.Rows L2 Z
/-! ### the kinds that come up: their inner parts in L, their variables in V -/
structure Univ (L : List Kd) (V : List Int) : Prop where
  lss : ∀ s ∈ L, ∃ h as, s = .nd h as ∧ as.length ≤ 2
  cnt : L.length ≤ 30
  wsm : (L.map wk).sum ≤ 50
  vnod : V.Nodup
  vcnt : V.length ≤ 7
structure InU (L : List Kd) (V : List Int) (k : Kd) : Prop where
  wf_ : wf k
  inn_ : ∀ s ∈ inn k, s ∈ L
  var_ : ∀ x ∈ vars k, x ∈ V
theorem InU.child {L : List Kd} {V : List Int} {h : Hd} {as : List Kd} {a : Kd} (k : InU L V (.nd h as)) (ha : a ∈ as) : InU L V a :=
  ⟨(wf_nd.mp k.wf_).2 a ha, fun s hs => k.inn_ s (mem_inn.mpr (.inr ⟨a, ha, hs⟩)), fun x hx => k.var_ x (vars_nd.mpr ⟨a, ha, hx⟩)⟩
theorem InU.few {L : List Kd} {V : List Int} {k : Kd} (U : Univ L V) (h : InU L V k) : ∀ s ∈ inn k, (args s).length ≤ 1000 := fun s hs => by
  obtain ⟨hd, as, rfl, l⟩ := U.lss s (h.inn_ s hs)
  show as.length ≤ 1000
  omega
theorem Form.inn {τ : Tb} {φ : Int → Kd} {r : Int → Nat} (F : Form τ φ r) {L : List Kd} (hL : ∀ p ∈ τ, ∀ s ∈ inn p.2, s ∈ L) : ∀ (n : Nat) (k : Kd), (∀ y ∈ vars k, r y < n) → (∀ s ∈ K05.inn k, s ∈ L) → ∀ s ∈ K05.inn (sub φ k), s ∈ L.map (sub φ) := fun n => by
  induction n with
  | zero =>
    intro k hv hk s hs
    rcases inn_sub k hs with ⟨s0, h0, e⟩ | ⟨y, hy, h⟩
    · exact List.mem_map.mpr ⟨s0, hk s0 h0, e.symm⟩
    · exact absurd (hv y hy) (Nat.not_lt_zero _)
  | succ n ih =>
    intro k hv hk s hs
    rcases inn_sub k hs with ⟨s0, h0, e⟩ | ⟨y, hy, h⟩
    · exact List.mem_map.mpr ⟨s0, hk s0 h0, e.symm⟩
    · by_cases m : y ∈ dom τ
      · obtain ⟨p, hp, rfl⟩ := List.mem_map.mp m
        rw [F.eqs p hp] at h
        refine ih p.2 (fun z hz => ?_) (hL p hp) s h
        have h1 := F.rank p hp z hz
        have h2 := hv p.1 hy
        omega
      · rw [F.out y m] at h
        cases h
theorem Form.dep {τ : Tb} {φ : Int → Kd} {r : Int → Nat} (F : Form τ φ r) {L : List Kd} {V : List Int} (U : Univ L V) (hL : ∀ p ∈ τ, InU L V p.2) {k : Kd} (hk : InU L V k) : K05.dep (sub φ k) ≤ 30 := by
  have := dep_le (F.inn (fun p hp => (hL p hp).inn_) (((vars k).map r).foldr max 0 + 1) k (fun y hy => Nat.lt_succ_of_le (le_maxr r hy)) hk.inn_)
  rw [List.length_map] at this
  exact Nat.le_trans this U.cnt
/-- the rows' variables are distinct: there are few -/
theorem Form.len {τ : Tb} {φ : Int → Kd} {r : Int → Nat} (F : Form τ φ r) {V : List Int} (h : ∀ p ∈ τ, p.1 ∈ V) : τ.length ≤ V.length := by
  have := sum_sub (fun _ : Int => 1) F.nod fun x hx => by
    obtain ⟨p, hp, rfl⟩ := List.mem_map.mp hx
    exact h p hp
  have e : ∀ l : List Int, (l.map fun _ => 1).sum = l.length := fun l => by
    induction l with
    | nil => rfl
    | cons a l ih => rw [List.map_cons, List.sum_cons, ih, List.length_cons]; omega
  rw [e, e] at this
  unfold dom at this
  rw [List.length_map] at this
  exact this
/-! ### kinds as data: their depth, and one for each -/
theorem pl_mono : ∀ {n m : Nat} {d : D}, n ≤ m → pl n d = true → pl m d = true := fun {n} => by
  induction n with
  | zero => intro m d h q; cases m <;> cases d <;> first | exact q | (simp [pl] at q ⊢)
  | succ n ih =>
    intro m d h q
    cases m with
    | zero => omega
    | succ m =>
      cases d <;> first | exact q | skip
      rw [pl, List.all_eq_true] at q ⊢
      exact fun x hx => ih (by omega) (q x hx)
theorem pl_kd : ∀ (k : Kd), wf k → ∀ (n : Nat), wd k ≤ n → pl n (kd k) = true := Kd.ind (fun x _ n h => by
  rw [wd] at h
  obtain ⟨m, rfl⟩ : ∃ m, n = m + 1 := ⟨n - 1, by omega⟩
  show pl (m + 1) (.tup [.str "any", .int x]) = true
  have e1 : pl m (.str "any") = true := by cases m <;> exact (by decide +kernel : PyData.strOk "any" = true)
  have e2 : pl m (.int x) = true := by cases m <;> rfl
  rw [pl, List.all_cons, List.all_cons, e1, e2]
  rfl) fun h as ih hw n hn => by
  rw [wd] at hn
  have kids : ∀ m, wds as ≤ m → (kds as).all (pl m) = true := fun m hm => by
    rw [List.all_eq_true]
    intro d hd
    rw [kds_map] at hd
    obtain ⟨a, ha, rfl⟩ := List.mem_map.mp hd
    exact ih a ha ((wf_nd.mp hw).2 a ha) m (Nat.le_trans (le_wds ha) hm)
  have st : ∀ (m : Nat) (x : Str), PyData.strOk x = true → pl m (.str x) = true := fun m x h => by cases m <;> exact h
  have one : ∀ (x : Str), PyData.strOk x = true → wt h = 1 → pl n (.tup (.str x :: kds as)) = true := fun x hx e => by
    obtain ⟨m, rfl⟩ : ∃ m, n = m + 1 := ⟨n - 1, by omega⟩
    rw [pl, List.all_cons, st m x hx, Bool.true_and]
    exact kids m (by omega)
  cases h with
  | data s =>
    have e : wt (.data s) = 2 := rfl
    obtain ⟨m, rfl⟩ : ∃ m, n = m + 2 := ⟨n - 2, by omega⟩
    show pl (m + 2) (.tup [.str "data", .str s, .tup (kds as)]) = true
    rw [pl, List.all_cons, st _ _ (by decide +kernel), List.all_cons, st _ s (wf_nd.mp hw).1, List.all_cons, pl, kids m (by omega)]
    rfl
  | _ => exact one _ (by decide +kernel) rfl
theorem kd_inj : ∀ (a b : Kd), kd a = kd b → a = b := Kd.ind (fun x b h => by
  cases b with
  | any y =>
    injection h with h
    injection h with _ h
    injection h with h _
    injection h with h
    rw [h]
  | nd hd as =>
    obtain ⟨w, rest, ne, ek⟩ := kd_nd hd as
    rw [ek] at h
    injection h with h
    injection h with h _
    injection h with h
    exact absurd h.symm ne) fun hd as ih b h => by
  have kids : ∀ bs : List Kd, kds as = kds bs → as = bs := by
    have : ∀ (as bs : List Kd), (∀ a ∈ as, ∀ b, kd a = kd b → a = b) → kds as = kds bs → as = bs := fun as => by
      induction as with
      | nil =>
        intro bs _ h
        cases bs with
        | nil => rfl
        | cons b bs => cases h
      | cons a as ih2 =>
        intro bs hi h
        cases bs with
        | nil => cases h
        | cons b bs =>
          rw [kds, kds, List.cons.injEq] at h
          rw [hi a List.mem_cons_self b h.1, ih2 bs (fun c hc => hi c (List.mem_cons_of_mem _ hc)) h.2]
    exact fun bs => this as bs ih
  cases b with
  | any y =>
    obtain ⟨w, rest, ne, ek⟩ := kd_nd hd as
    rw [ek] at h
    injection h with h
    injection h with h _
    injection h with h
    exact absurd h ne
  | nd hd2 bs =>
    cases hd <;> cases hd2 <;> first
      | (injection h with h
         injection h with h _
         injection h with h
         exact absurd h (by decide))
      | (injection h with h
         injection h with _ h
         rw [kids bs h])
      | (injection h with h
         injection h with _ h
         injection h with h1 h
         injection h with h _
         injection h1 with h1
         injection h with h
         rw [kids bs h, h1])
      | (injection h with h
         injection h with h _
         injection h with h
         exact absurd h (by decide))
theorem InU.pl_ {L : List Kd} {V : List Int} {k : Kd} (U : Univ L V) (h : InU L V k) : pl 60 (kd k) = true := pl_kd k h.wf_ 60 (Nat.le_trans (wd_le h.inn_) (by have := U.wsm; omega))
end K05

namespace K05
open PySem PySem.Spec PyProof.Rows L2 Z
local macro_rules | `(tactic| walk_at "zr") => `(tactic| (repeat' (with_reducible first | refine r_asg ?_ | refine r_asgT ?_ | refine r_asgG ?_ | refine r_asg1 ?_ | refine r_if ?_ | refine r_if1 ?_ | refine r_drop ?_ | refine r_drop1 ?_ | refine r_ret ?_ | refine r_ret1 ?_ | refine r_retN ?_ | refine r_nx ?_ | refine r_nx1 ?_ | refine r_bk ?_ | refine r_ct ?_ | refine r_par ?_ | refine r_par1 ?_ | refine r_par3 ?_ | refine r_par31 ?_ | refine r_for ?_ | refine r_for1 ?_ | refine r_sfld ?_ | refine r_sfld1 ?_ | refine r_aug (by with_unfolding_all rfl) ?_ | refine r_aug1 (by with_unfolding_all rfl) ?_ | refine r_var (by with_unfolding_all rfl) ?_ | refine r_c ?_ | refine r_op ?_ | refine r_ifE ?_ | refine r_nil ?_ | refine r_cons ?_ | refine r_tup ?_ | refine r_lst ?_ | refine r_cb ?_ | refine r_call ?_ | refine r_test ?_ | refine r_not ?_ | refine r_and ?_ | refine r_or ?_ | refine r_andV ?_ | refine r_orV ?_ | refine r_notV ?_ | refine r_neg ?_ | refine r_bm ?_ | refine r_bm0 ?_ | refine r_sl ?_ | refine r_part ?_ | refine r_noP ?_ | refine r_chain ?_ | refine r_int2 ?_ | refine r_eqI ?_ | refine r_eqS ?_ | refine r_eqB ?_ | refine r_fInt ?_ | refine r_fIntB ?_ | refine r_fAbs ?_ | refine r_fMin ?_ | refine r_lenT ?_ | refine r_isNN ?_ | refine r_isNI ?_ | refine r_isNT ?_ | refine r_isNR ?_ | refine r_ixT0 ?_ | refine r_ixT1 ?_ | refine r_ixT2 ?_ | refine r_ixT3 ?_ | refine r_fld ?_ | refine r_kfld (by assumption) rfl ?_ | refine r_list ?_ | refine r_klist (by assumption) ?_ | refine r_tupI ?_ | refine r_ktupI ?_ | refine r_yes ?_ | refine r_kctI ?_ | refine r_rng1 ?_ | refine r_rng2 ?_ | refine r_enum ?_ | refine r_kenumT ?_ | refine r_kenum (by assumption) ?_ | refine r_fListT ?_ | refine r_fTupT ?_ | refine r_fListR (by assumption) ?_ | refine r_fTupR (by assumption) ?_ | refine r_lenR (by assumption) ?_ | refine r_rev ?_ | refine r_krevT ?_ | refine r_krev (by assumption) ?_ | refine r_setL ?_ | refine r_dget ?_ | refine r_lc0 ?_ | refine r_name ?_ | refine r_gtup (by with_unfolding_all rfl) ?_ | refine r_gcons ?_ | refine r_gnil ?_ | refine r_din ?_ | refine r_setd ?_ | refine r_ksetdA (by assumption) ?_ | refine r_keysI ?_ | refine r_kkeysI (by assumption) ?_ | refine r_dput ?_ | refine r_dput1 ?_ | refine r_dnewK ?_ | refine r_szc (by with_unfolding_all exact Nat.le_of_ble_eq_true rfl) ?_ | refine r_eqlen (by with_unfolding_all rfl) ?_ | refine r_ifT (by decide) ?_ | refine r_ifF (by decide) ?_ | refine r_inFT (b := false) rfl rfl (by decide) ?_ | refine r_inFT (b := true) rfl rfl (by decide) ?_ | refine r_lrng ?_)))
def RowsIn (L : List Kd) (V : List Int) (τ : Tb) : Prop := ∀ p ∈ τ, p.1 ∈ V ∧ InU L V p.2
def spUnify (CU CK : Addr) (L : List Kd) (V : List Int) (N : Nat) : ZSp := fun ds G Q E => ∃ (u t : Addr) (τ : Tb) (m : Nat) (φ : Int → Kd) (r : Int → Nat) (a b : Kd), ds = [.ref u, kd a, kd b] ∧ UnAt CU G u t τ m ∧ Form τ φ r ∧ RowsIn L V τ ∧ InU L V a ∧ InU L V b ∧
  (∃ (R : Kd) (c : Nat), InU L V R ∧ 31 ≤ c + N ∧ ∀ θ, SolT θ τ → dep (sub θ a) + c ≤ dep (sub θ R)) ∧ ((¬ ∃ θ, SolT θ τ ∧ sub θ a = sub θ b) → ∀ G', Exb t G G' → E (.ref CK) G') ∧
  ∀ G' τ' φ' r', Exb t G G' → UnAt CU G' u t τ' m → Form τ' φ' r' → RowsIn L V τ' → (τ' = τ ∨ τ.length < τ'.length) → (∀ θ, SolT θ τ' ↔ SolT θ τ ∧ sub θ a = sub θ b) → Q .non G'
def kZip (ds : List D) (G1 : Gp) (QI : List D → (Gp → Prop) → Gp → Prop) : Prop := match ds with
  | [.ref a, .ref b] => (match G1 a, G1 b with
    | some (.lst ds), some (.lst es) => QI (zipD ds es) (fun G => G a = some (.lst ds) ∧ G b = some (.lst es)) G1
    | _, _ => False)
  | [.tup ds, .tup es] => QI (zipD ds es) (fun _ => True) G1
  | _ => False
theorem r_zipA {tA : DA} {ρ : ZSt} {G : Gp} {QI : List D → (Gp → Prop) → Gp → Prop} (h : tA ρ G fun ds G1 => kZip ds G1 QI) : zZipA tA ρ G QI := h
theorem r_kzipT {ds es : List D} {G : Gp} {QI : List D → (Gp → Prop) → Gp → Prop} (h : QI (zipD ds es) (fun _ => True) G) : kZip [.tup ds, .tup es] G QI := h
theorem r_kzip {a b : Addr} {ds es : List D} {G : Gp} {QI : List D → (Gp → Prop) → Gp → Prop} (h1 : G a = some (.lst ds)) (h2 : G b = some (.lst es)) (q : QI (zipD ds es) (fun G => G a = some (.lst ds) ∧ G b = some (.lst es)) G) : kZip [.ref a, .ref b] G QI := by
  show (match G a, G b with
    | some (.lst ds), some (.lst es) => QI (zipD ds es) (fun G => G a = some (.lst ds) ∧ G b = some (.lst es)) G
    | _, _ => False)
  rw [h1, h2]
  exact q
/-- a table has one solved form -/
theorem Form.uniq {τ : Tb} {φ φ1 : Int → Kd} {r r1 : Int → Nat} (F1 : Form τ φ1 r1) (F : Form τ φ r) : φ1 = φ := by
  funext v
  rw [F.mg φ1 F1.sol v]
  conv => rhs; rw [← sub_any (φ v)]
  exact sub_congr _ fun x hx => F1.out x (F.vrs v x hx)
theorem fmt0 {i : Nat} {ρ : ZSt} {G : Gp} {w : Str} {rest : List D} {Q : DK} (hρ : ρ[i]? = some (some (.tup (.str w :: rest)))) (hl : w.length ≤ sizeLine) (q : Q (.str w) G) : zFmt (zOp dIx (zVar i) (zC (.int 0))) ρ G Q := by
  show zOp dIx (zVar i) (zC (.int 0)) ρ G _
  refine r_op ?_
  refine r_var hρ ?_
  refine r_c ?_
  refine r_ixT0 ?_
  exact ⟨hl, q⟩
theorem kd_word {h : Hd} {as : List Kd} {w : Str} {rest : List D} (e : kd (.nd h as) = .tup (.str w :: rest)) : w = word h := by
  cases h <;> (injection e with e; injection e with e _; injection e with e; exact e.symm)
/-- a call of stand_for, as unify wants it -/
theorem stand_use {CU CK : Addr} {L : List Kd} {V : List Int} (U : Univ L V) {G : Gp} {u t : Addr} {τ : Tb} {m : Nat} {φ : Int → Kd} {r : Int → Nat} (hun : UnAt CU G u t τ m) (F : Form τ φ r) (hR : RowsIn L V τ) {v : Int} {k : Kd} (hv : v ∉ dom τ) (jk : InU L V k) (vV : v ∈ V) (nk : ∀ w, k = .any w → w ∉ dom τ) (ne : Kd.any v ≠ k)
    {E : XKz} {R : DK} (q1 : (¬ ∃ θ, SolT θ τ ∧ θ v = sub θ k) → ∀ G', Ext G G' → E (.ref CK) G')
    (q2 : ∀ G' φ' r', Exb t G G' → UnAt CU G' u t (τ ++ [(v, k)]) m → Form (τ ++ [(v, k)]) φ' r' → RowsIn L V (τ ++ [(v, k)]) → (∀ θ, SolT θ (τ ++ [(v, k)]) ↔ SolT θ τ ∧ θ v = sub θ k) → R .non G') : spStand CU CK [.ref u, .int v, kd k] G R E := by
  have hU : ∀ p ∈ τ, InU L V p.2 := fun p hp => (hR p hp).2
  have dk := F.dep U hU jk
  have lt := F.len fun p hp => (hR p hp).1
  have vc := U.vcnt
  refine ⟨u, t, τ, m, φ, r, k, v, rfl, hun, F, jk.wf_, fun p hp => (hU p hp).wf_, jk.few U, fun p hp => (hU p hp).few U, hv, by omega, by omega, fun hm => q1 ?_, fun hm G' e hu' => ?_⟩
  · rintro ⟨θ, hs, e⟩
    rw [← F.mgk hs k] at e
    cases h : sub φ k with
    | any y =>
      rw [h, vars, List.mem_singleton] at hm
      cases k with
      | any w =>
        have h1 := F.out w (nk w rfl)
        have h2 : φ w = .any y := h
        rw [h1] at h2
        cases h2
        exact ne (by rw [hm])
      | nd hd as =>
        rw [sub_nd] at h
        cases h
    | nd hd as =>
      rw [h] at hm e
      exact occurs_no hm e
  · obtain ⟨φ', r', F', _⟩ := F.snoc hv hm
    refine q2 G' φ' r' e hu' F' (fun p hp => ?_) fun θ => SolT.snoc
    rcases List.mem_append.mp hp with hp | hp
    · exact hR p hp
    · rw [List.mem_singleton.mp hp]
      exact ⟨vV, jk⟩
section
variable [τ0 : Tbl] {P : Program} {w : World} {K : PySem.W.Frag} {mg : Str → Option Value} {base : Heap} {CU CK : Addr} {L : List Kd} {V : List Int}
theorem ok_Unify {f : Addr} {fd : FuncData} (FF : Fun K "unify" "Unifier.unify" s_Unifier_unify f fd) (T : Txt K mg CU CK) (U : Univ L V) (D_kind_parts : Dfn P w K mg base "kind_parts" 1 ["kind"] spParts) (D_Unifier_head : Mtd P w K mg base CU "head" 1 ["self", "kind"] (spHead CU)) (D_Unifier_stand_for : Mtd P w K mg base CU "stand_for" 83 ["self", "number", "kind"] (spStand CU CK))
    (self : ∀ {j : Nat} {z : ZSp}, FnOk P w K mg base (L2.CX P w) j f fd ["self", "one", "other"] (upSp K z) → Mtd P w K mg base CU "unify" j ["self", "one", "other"] z) : ∀ n, FnOk P w K mg base (L2.CX P w) (n + 84) f fd ["self", "one", "other"] (upSp K (spUnify CU CK L V n))
  | 0 => fn_no fun ds G Q E h => by
    obtain ⟨_, _, τ, _, φ, _, a, _, _, _, F, hR, _, _, ⟨R, c, iR, hc, hd⟩, _⟩ := h
    have h1 := F.dep U (fun p hp => (hR p hp).2) iR
    have h2 := hd φ F.sol
    omega
  | n + 1 =>
    have D_Unifier_unify := self (ok_Unify FF T U D_kind_parts D_Unifier_head D_Unifier_stand_for self n)
    z_fn FF sc_Unifier_unify (fun ds G Q E h => by obtain ⟨_, _, _, _, _, _, _, _, rfl, _⟩ := h; rfl) fun bas cdv A outer s H E hr ds G Q E0 hE hz => by
    obtain ⟨u, t, τ, m, φ, r, a, b, rfl, hun, F, hR, ia, ib, hN, hE1, hq⟩ := hz
    refine ⟨_, (zs_cons (z_par (i := 1) (j := 2) rfl sc_Unifier_unify.nd rfl rfl (by decide) rfl rfl (za_cons (z_mm T.c_Unifier D_Unifier_head hr (by first | decide | omega) (z_var 0) (za_cons (z_var 1) za_nil)) (za_cons (z_mm T.c_Unifier D_Unifier_head hr (by first | decide | omega) (z_var 0) (za_cons (z_var 2) za_nil)) za_nil)) (by rfl)) (zs_cons (z_if (z_tcmp (zo_eqP hr.units) (z_var 1) (z_var 2)) (zs_one z_retN) zs_nil) (zs_cons (z_if (z_tcmp zo_eqF (z_ix (z_var 1) z_int) z_str) (zs_one (z_expr (z_mc T.c_Unifier D_Unifier_stand_for hr (by first | decide | omega) hE (passes_call (takes_of rfl rfl rfl rfl) fun _ _ _ _ h => h) (z_var 0) (za_cons (z_ix (z_var 1) z_int) (za_cons (z_var 2) za_nil))))) (zs_one (z_if (z_tcmp zo_eqF (z_ix (z_var 2) z_int) z_str) (zs_one (z_expr (z_mc T.c_Unifier D_Unifier_stand_for hr (by first | decide | omega) hE (passes_call (takes_of rfl rfl rfl rfl) fun _ _ _ _ h => h) (z_var 0) (za_cons (z_ix (z_var 2) z_int) (za_cons (z_var 1) za_nil))))) (zs_one (z_if (zw_t (zw_or (z_tcmp zo_neF (z_ix (z_var 1) z_int) (z_ix (z_var 2) z_int)) (zw_or1 (zw_t (zw_and (z_tcmp zo_eqF (z_ix (z_var 1) z_int) z_str) (zw_and1 (zw_t (zw_or (z_tcmp zo_neF (z_ix (z_var 1) z_int) (z_ix (z_var 2) z_int)) (zw_or1 (z_tcmp zo_neF (z_callB zf_len (by rfl) T.z_len (by rfl) (za_cons (z_ix (z_var 1) z_int) za_nil)) (z_callB zf_len (by rfl) T.z_len (by rfl) (za_cons (z_ix (z_var 2) z_int) za_nil)))))))))))) (zs_one (z_raise1 PySem.F.excBase_ValueError T.x_KindError T.g_KindError T.k_KindError (raises_own T.e_KindError T.t_KindError) (by rfl) rfl (takes_of rfl rfl rfl rfl) hE (z_joined (.cons (z_fmt (z_ix (z_var 1) z_int)) (.cons z_str (.cons (z_fmt (z_ix (z_var 2) z_int)) .nil)))))) (zs_one (z_for (passes_of (by rfl)) rfl (zi_zipA (by rfl) T.z_zip (za_cons (z_dc0 D_kind_parts hr (by first | decide | omega) (by rfl) (za_cons (z_var 1) za_nil)) (za_cons (z_dc0 D_kind_parts hr (by first | decide | omega) (by rfl) (za_cons (z_var 2) za_nil)) za_nil))) (zg_tup (n := 2) rfl (zgs_cons (zg_name (i := 3) sc_Unifier_unify.nd rfl (Or.inl rfl)) (zgs_cons (zg_name (i := 4) sc_Unifier_unify.nd rfl (Or.inl rfl)) zgs_nil))) (zs_one (z_expr (z_mc T.c_Unifier D_Unifier_unify hr (by first | decide | omega) hE (passes_call (takes_of rfl rfl rfl rfl) fun _ _ _ _ h => h) (z_var 0) (za_cons (z_var 3) (za_cons (z_var 4) za_nil)))))))))))) zs_nil))), ?_⟩
    obtain ⟨dx, hu1⟩ := hun.obj
    have inH : ∀ {k k' : Kd}, InU L V k → (k' = k ∨ ∃ p ∈ τ, p.2 = k') → InU L V k' := fun {k k'} hk h => by
      rcases h with rfl | ⟨p, hp, rfl⟩
      · exact hk
      · exact (hR p hp).2
    walk_at "zr"
    refine r_meth (fun R => rfl) hu1 (by with_unfolding_all rfl) ?_
    walk_at "zr"
    refine ⟨u, t, τ, m, φ, r, a, rfl, hun, F, fun a' ea oa na => ?_⟩
    walk_at "zr"
    refine r_meth (fun R => rfl) hu1 (by with_unfolding_all rfl) ?_
    walk_at "zr"
    refine ⟨u, t, τ, m, φ, r, b, rfl, hun, F, fun b' eb ob nb => ?_⟩
    have ja := inH ia oa
    have jb := inH ib ob
    have mg1 : ∀ θ, SolT θ τ → (sub θ a = sub θ b ↔ sub θ a' = sub θ b') := fun θ h => by
      rw [← F.mgk h a, ← F.mgk h b, ← F.mgk h a', ← F.mgk h b', ea, eb]
    walk_at "zr"
    refine r_eqP (ja.pl_ U) (jb.pl_ U) fun c hc => ?_
    walk_at "zr"
    refine r_iff hc (fun e => ?_) fun ne => ?_
    · walk_at "zr"
      have e := kd_inj _ _ e
      exact hq G τ φ r (Exb.refl _ _) hun F hR (.inl rfl) fun θ => ⟨fun h => ⟨h, (mg1 θ h).mpr (by rw [e])⟩, fun h => h.1⟩
    · have ne' : a' ≠ b' := fun e => ne (by rw [e])
      have solv : ∀ {p : (Int → Kd) → Prop}, (∀ θ, SolT θ τ → (p θ ↔ sub θ a' = sub θ b')) → (¬ ∃ θ, SolT θ τ ∧ p θ) → ¬ ∃ θ, SolT θ τ ∧ sub θ a = sub θ b := fun {p} h n ⟨θ, h1, h2⟩ => n ⟨θ, h1, (h θ h1).mpr ((mg1 θ h1).mp h2)⟩
      cases a' with
      | any v =>
        rw [show kd (.any v) = .tup [.str "any", .int v] from rfl]
        walk_at "zr"
        refine r_meth (fun R => rfl) hu1 (by with_unfolding_all rfl) ?_
        walk_at "zr"
        refine stand_use U hun F hR (na v rfl) jb (ja.var_ v (by simp [vars])) nb ne' (fun h G' e => hE1 (solv (fun θ _ => Iff.rfl) h) G' e.exb) fun G' φ' r' e hu' F' R' es => ?_
        walk_at "zr"
        refine hq G' _ φ' r' e hu' F' R' (.inr (by rw [List.length_append]; simp)) fun θ => ?_
        rw [es]
        exact ⟨fun ⟨h1, h2⟩ => ⟨h1, (mg1 θ h1).mpr h2⟩, fun ⟨h1, h2⟩ => ⟨h1, (mg1 θ h1).mp h2⟩⟩
      | nd h as =>
        obtain ⟨w, rest, nw, ek⟩ := kd_nd h as
        rw [ek]
        walk_at "zr"
        refine r_ndec (fun e => absurd e nw) fun _ => ?_
        walk_at "zr"
        cases b' with
        | any v =>
          rw [← ek, show kd (.any v) = .tup [.str "any", .int v] from rfl]
          walk_at "zr"
          refine r_meth (fun R => rfl) hu1 (by with_unfolding_all rfl) ?_
          walk_at "zr"
          refine stand_use U hun F hR (nb v rfl) ja (jb.var_ v (by simp [vars])) na (fun e => ne' e.symm) (fun h G' e => hE1 (solv (fun θ _ => eq_comm) h) G' e.exb) fun G' φ' r' e hu' F' R' es => ?_
          walk_at "zr"
          refine hq G' _ φ' r' e hu' F' R' (.inr (by rw [List.length_append]; simp)) fun θ => ?_
          rw [es]
          exact ⟨fun ⟨h1, h2⟩ => ⟨h1, (mg1 θ h1).mpr h2.symm⟩, fun ⟨h1, h2⟩ => ⟨h1, ((mg1 θ h1).mp h2).symm⟩⟩
        | nd h' bs =>
          obtain ⟨w', rest', nw', ek'⟩ := kd_nd h' bs
          rw [ek']
          walk_at "zr"
          refine r_ndec (fun e => absurd e nw') fun _ => ?_
          walk_at "zr"
          have bad : (h ≠ h' ∨ as.length ≠ bs.length) → zRaise1 CK E0 (zJoin [zFmt (zOp dIx (zVar 1) (zC (.int 0))), zC (.str " is not "), zFmt (zOp dIx (zVar 2) (zC (.int 0)))])
              { nx := zNext { nx := fun x G' => Q .non G', rt := Q }, rt := Q } [some (.ref u), some (.tup (.str w :: rest)), some (.tup (.str w' :: rest')), none, none] G := fun c => by
            have ew := kd_word ek
            have ew' := kd_word ek'
            have n1 : ¬ ∃ θ, SolT θ τ ∧ sub θ (.nd h as) = sub θ (.nd h' bs) := fun ⟨θ, _, e⟩ => by
              rw [sub_nd, sub_nd] at e
              injection e with e1 e2
              rcases c with c | c
              · exact c e1
              · have := congrArg List.length e2
                simp at this
                exact c this
            have fin := hE1 (solv (fun θ _ => Iff.rfl) n1) G (Exb.refl _ _)
            subst ew ew'
            have a1 : (word h).length ≤ sizeLine := by cases h <;> (simp only [word]; decide +kernel)
            have a2 : (word h').length ≤ sizeLine := by cases h' <;> (simp only [word]; decide +kernel)
            have a3 : (Str.empty ++ word h).length ≤ sizeLine := by cases h <;> (simp only [word]; decide +kernel)
            have a4 : (Str.empty ++ word h ++ (" is not " : Str)).length ≤ sizeLine := by cases h <;> (simp only [word]; decide +kernel)
            have a5 : (Str.empty ++ word h ++ (" is not " : Str) ++ word h').length ≤ sizeLine := by cases h <;> cases h' <;> (simp only [word]; decide +kernel)
            show zJs _ _ _ G _
            refine fmt0 (i := 1) rfl a1 ⟨a3, ?_⟩
            refine r_c ⟨a4, ?_⟩
            exact fmt0 (i := 2) rfl a2 ⟨a5, fin⟩
          have good : h = h' → as.length = bs.length → zFor (zZipA (zCons (zCall spParts X0 (zCons (zVar 1) zNil)) (zCons (zCall spParts X0 (zCons (zVar 2) zNil)) zNil))) (zgTup 2 (zgCons (zName 3) (zgCons (zName 4) zgNil)))
              (zDrop (zMeth CU "unify" (spUnify CU CK L V n) E0 (zVar 0) (zCons (zVar 3) (zCons (zVar 4) zNil)))) { nx := zNext { nx := fun x G' => Q .non G', rt := Q }, rt := Q } [some (.ref u), some (.tup (.str w :: rest)), some (.tup (.str w' :: rest')), none, none] G := fun e1 e2 => by
            subst e1
            have wz : ∀ {i : Nat} {d : D}, (zipD (kds as) (kds bs))[i]? = some d → ∃ x y, as[i]? = some x ∧ bs[i]? = some y ∧ d = .tup [kd x, kd y] := fun {i d} hi => by
              obtain ⟨p, q, h1, h2, rfl⟩ := zipD_get hi
              obtain ⟨x, hx, rfl⟩ := kds_get h1
              obtain ⟨y, hy, rfl⟩ := kds_get h2
              exact ⟨x, y, hx, hy, rfl⟩
            have tlen : ∀ {τ1 φ1 r1}, Form τ1 φ1 r1 → RowsIn L V τ1 → τ1.length ≤ V.length := fun F1 R1 => F1.len fun p hp => (R1 p hp).1
            refine r_for1 ?_
            refine r_zipA ?_
            refine r_cons ?_
            refine r_call ?_
            refine r_cons ?_
            refine r_var rfl ?_
            refine r_nil ?_
            refine ⟨.nd h as, by rw [ek], ja.wf_, ?_⟩
            walk_at "zr"
            refine ⟨.nd h bs, by rw [ek'], jb.wf_, ?_⟩
            walk_at "zr"
            refine r_kzipT ?_
            refine ⟨fun i ρ G' => ∃ τ1 φ1 r1, Exb t G G' ∧ UnAt CU G' u t τ1 m ∧ Form τ1 φ1 r1 ∧ RowsIn L V τ1 ∧ (τ1 = τ ∨ τ.length < τ1.length) ∧ (∀ θ, SolT θ τ1 ↔ SolT θ τ ∧ (as.take i).map (sub θ) = (bs.take i).map (sub θ)) ∧
              ∃ v3 v4 : Option D, ρ = [some (.ref u), some (.tup (.str w :: rest)), some (.tup (.str w' :: rest')), v3, v4],
              ⟨τ, φ, r, Exb.refl _ _, hun, F, hR, .inl rfl, fun θ => by simp, none, none, rfl⟩, ?_, ?_⟩
            · rintro i d ρ G' hi ⟨τ1, φ1, r1, e1, hun1, F1, R1, gr, sl, v3, v4, rfl⟩
              refine ⟨trivial, ?_⟩
              obtain ⟨x, y, hx, hy, rfl⟩ := wz hi
              have xm := List.mem_of_getElem? hx
              have ym := List.mem_of_getElem? hy
              obtain ⟨dx1, hu2⟩ := hun1.obj
              have tx : as.take (i + 1) = as.take i ++ [x] := by rw [List.take_add_one, hx]; rfl
              have ty : bs.take (i + 1) = bs.take i ++ [y] := by rw [List.take_add_one, hy]; rfl
              walk_at "zr"
              refine r_meth (fun R => rfl) hu2 (by with_unfolding_all rfl) ?_
              walk_at "zr"
              refine ⟨u, t, τ1, m, φ1, r1, x, y, rfl, hun1, F1, R1, ja.child xm, jb.child ym, ?_, fun nn G2 e2 => ?_, fun G2 τ2 φ2 r2 e2 hun2 F2 R2 g2 s2 => ?_⟩
              · obtain ⟨R, c, iR, hc, hd⟩ := hN
                refine ⟨R, c + 1, iR, by omega, fun θ hs => ?_⟩
                have h1 := ((sl θ).mp hs).1
                have h2 := hd θ h1
                have d1 : dep (sub θ x) < dep (sub θ (.nd h as)) := by rw [sub_nd]; exact dep_child (List.mem_map.mpr ⟨x, xm, rfl⟩)
                rw [← F.mgk h1 (.nd h as), ea, F.mgk h1] at d1
                omega
              · refine hE1 (solv (fun θ _ => Iff.rfl) ?_) G2 (e1.trans e2)
                rintro ⟨θ, h1, h2⟩
                refine nn ⟨θ, (sl θ).mpr ⟨h1, ?_⟩, ?_⟩
                · rw [sub_nd, sub_nd] at h2
                  injection h2 with _ h2
                  rw [List.map_take, List.map_take, h2]
                · rw [sub_nd, sub_nd] at h2
                  injection h2 with _ h2
                  have h3 := congrArg (fun l => l[i]?) h2
                  simp only [List.getElem?_map, hx, hy] at h3
                  exact Option.some.inj h3
              · refine ⟨τ2, φ2, r2, e1.trans e2, hun2, F2, R2, ?_, fun θ => ?_, _, _, rfl⟩
                · rcases g2 with rfl | g2
                  · exact gr
                  · rcases gr with rfl | gr
                    · exact .inr g2
                    · exact .inr (by omega)
                · rw [s2, sl, tx, ty, List.map_append, List.map_append]
                  constructor
                  · rintro ⟨⟨h1, h2⟩, h3⟩
                    exact ⟨h1, by rw [h2]; show _ ++ [sub θ x] = _ ++ [sub θ y]; rw [h3]⟩
                  · rintro ⟨h1, h2⟩
                    have h3 := List.append_inj_left' h2 rfl
                    have h4 := List.append_inj_right' h2 rfl
                    exact ⟨⟨h1, h3⟩, by simpa using h4⟩
            · rintro ρ G' ⟨τ1, φ1, r1, e1, hun1, F1, R1, gr, sl, v3, v4, rfl⟩
              refine ⟨trivial, ?_⟩
              walk_at "zr"
              rw [zipD_len, kds_len, kds_len, show (args (Kd.nd h as)).length = as.length from rfl, show (args (Kd.nd h bs)).length = bs.length from rfl, ← e2, Nat.min_self] at sl
              refine hq G' τ1 φ1 r1 e1 hun1 F1 R1 gr fun θ => ?_
              rw [sl]
              constructor
              · rintro ⟨h1, h2⟩
                refine ⟨h1, (mg1 θ h1).mpr ?_⟩
                rw [sub_nd, sub_nd]
                rw [List.take_of_length_le (Nat.le_refl _), List.take_of_length_le (by omega)] at h2
                rw [h2]
              · rintro ⟨h1, h2⟩
                refine ⟨h1, ?_⟩
                have h3 := (mg1 θ h1).mp h2
                rw [sub_nd, sub_nd] at h3
                injection h3 with _ h3
                rw [List.map_take, List.map_take, h3]
          refine r_tdec (fun e => ?_) fun e => ?_
          · walk_at "zr"
            have hww : word h = word h' := (kd_word ek).symm.trans (e.trans (kd_word ek'))
            have ew := kd_word ek
            by_cases hdt : ∃ s, h = .data s
            · obtain ⟨s, rfl⟩ := hdt
              have hd2 : ∃ s', h' = .data s' := by
                cases h' <;> first | exact ⟨_, rfl⟩ | exact absurd hww (by simp only [word]; decide)
              obtain ⟨s', rfl⟩ := hd2
              have er : rest = [.str s, .tup (kds as)] := by
                injection ek with ek
                injection ek with _ ek
                exact ek.symm
              have er' : rest' = [.str s', .tup (kds bs)] := by
                injection ek' with ek'
                injection ek' with _ ek'
                exact ek'.symm
              subst er er'
              refine r_ndec (fun _ => ?_) fun z => absurd ew z
              walk_at "zr"
              refine r_tdec (fun e1 => ?_) fun e1 => ?_
              · walk_at "zr"
                refine r_tdec (fun e2 => ?_) fun e2 => ?_
                · rw [kds_len, kds_len] at e2
                  exact good (by rw [e1]) (by omega)
                · rw [kds_len, kds_len] at e2
                  exact bad (.inr fun z => e2 (by rw [z]))
              · refine r_ifT (b := true) rfl ?_
                exact bad (.inl fun z => e1 (by injection z))
            · refine r_ndec (fun z => ?_) fun _ => ?_
              · exfalso
                rw [ew] at z
                cases h <;> first | exact hdt ⟨_, rfl⟩ | exact absurd z (by simp only [word]; decide)
              · refine r_ifF (b := false) rfl ?_
                have eh : h = h' := by
                  cases h <;> cases h' <;> first | rfl | exact absurd hww (by simp only [word]; decide) | exact absurd ⟨_, rfl⟩ hdt
                refine good eh ?_
                have g1 := (wf_nd.mp ja.wf_).1
                have g2 := (wf_nd.mp jb.wf_).1
                subst eh
                cases h <;> first | exact g1.trans g2.symm | exact absurd ⟨_, rfl⟩ hdt
          · refine r_ifT (b := true) rfl ?_
            refine bad (.inl fun z => ?_)
            subst z
            exact e ((kd_word ek).trans (kd_word ek').symm)
end
end K05

namespace K05
open PySem PySem.Spec PyProof.Rows L2 Z
local macro_rules | `(tactic| walk_at "zr") => `(tactic| (repeat' (with_reducible first | refine r_asg ?_ | refine r_asgT ?_ | refine r_asgG ?_ | refine r_asg1 ?_ | refine r_if ?_ | refine r_if1 ?_ | refine r_drop ?_ | refine r_drop1 ?_ | refine r_ret ?_ | refine r_ret1 ?_ | refine r_retN ?_ | refine r_nx ?_ | refine r_nx1 ?_ | refine r_bk ?_ | refine r_ct ?_ | refine r_par ?_ | refine r_par1 ?_ | refine r_par3 ?_ | refine r_par31 ?_ | refine r_for ?_ | refine r_for1 ?_ | refine r_sfld ?_ | refine r_sfld1 ?_ | refine r_aug (by with_unfolding_all rfl) ?_ | refine r_aug1 (by with_unfolding_all rfl) ?_ | refine r_var (by with_unfolding_all rfl) ?_ | refine r_c ?_ | refine r_op ?_ | refine r_ifE ?_ | refine r_nil ?_ | refine r_cons ?_ | refine r_tup ?_ | refine r_lst ?_ | refine r_cb ?_ | refine r_call ?_ | refine r_test ?_ | refine r_not ?_ | refine r_and ?_ | refine r_or ?_ | refine r_andV ?_ | refine r_orV ?_ | refine r_notV ?_ | refine r_neg ?_ | refine r_bm ?_ | refine r_bm0 ?_ | refine r_sl ?_ | refine r_part ?_ | refine r_noP ?_ | refine r_chain ?_ | refine r_int2 ?_ | refine r_eqI ?_ | refine r_eqS ?_ | refine r_eqB ?_ | refine r_fInt ?_ | refine r_fIntB ?_ | refine r_fAbs ?_ | refine r_fMin ?_ | refine r_lenT ?_ | refine r_isNN ?_ | refine r_isNI ?_ | refine r_isNT ?_ | refine r_isNR ?_ | refine r_ixT0 ?_ | refine r_ixT1 ?_ | refine r_ixT2 ?_ | refine r_ixT3 ?_ | refine r_fld ?_ | refine r_kfld (by assumption) rfl ?_ | refine r_list ?_ | refine r_klist (by assumption) ?_ | refine r_tupI ?_ | refine r_ktupI ?_ | refine r_yes ?_ | refine r_kctI ?_ | refine r_rng1 ?_ | refine r_rng2 ?_ | refine r_enum ?_ | refine r_kenumT ?_ | refine r_kenum (by assumption) ?_ | refine r_fListT ?_ | refine r_fTupT ?_ | refine r_fListR (by assumption) ?_ | refine r_fTupR (by assumption) ?_ | refine r_lenR (by assumption) ?_ | refine r_rev ?_ | refine r_krevT ?_ | refine r_krev (by assumption) ?_ | refine r_setL ?_ | refine r_dget ?_ | refine r_lc0 ?_ | refine r_name ?_ | refine r_gtup (by with_unfolding_all rfl) ?_ | refine r_gcons ?_ | refine r_gnil ?_ | refine r_din ?_ | refine r_setd ?_ | refine r_ksetdA (by assumption) ?_ | refine r_keysI ?_ | refine r_kkeysI (by assumption) ?_ | refine r_dput ?_ | refine r_dput1 ?_ | refine r_dnewK ?_ | refine r_szc (by with_unfolding_all exact Nat.le_of_ble_eq_true rfl) ?_ | refine r_eqlen (by with_unfolding_all rfl) ?_ | refine r_ifT (by decide) ?_ | refine r_ifF (by decide) ?_ | refine r_inFT (b := false) rfl rfl (by decide) ?_ | refine r_inFT (b := true) rfl rfl (by decide) ?_ | refine r_lrng ?_)))
section
variable [τ : Tbl] [β : Bas] {X : Cx} {k m : Nat} {ps : List Str} {z : ZSp} {x : Str} {p pos : Pos} {C : Addr}
theorem z_new0 (D : Ini X.prog X.w X.K X.mg X.base C k ps z) (hr : Room m X.A) (hk : k + 1 ≤ m) (hg : Gl X x) (hm : X.mg x = some (.ref C)) (hdb : (x == ("__debug__" : Str)) = false := by decide) : ZE X (.Call (.Name x p) [] [] pos) (zMake C z X0 zNil) := by
  obtain ⟨g, fd, h1, h3, h4⟩ := D.ex
  exact z_make0 (E := L2.E0) h1 h4 (hr.mono hk) hg hm h3 eok0 (passL (X := X)) hdb
end
theorem r_fldaug {C a dx : Addr} {f : Str} {fs : List (Str × D)} {x : D} {to tv : DE} {z : Z2} {u : DS} {Z : ZEnds} {ρ : ZSt} {G : Gp} (ho : ∀ R : DK, to ρ G R = R (.ref a) G) (h1 : G a = some (.obj C dx fs)) (h2 : fs.lookup f = some x)
    (q : tv ρ G fun y G2 => z x y G2 fun w G3 => match G3 a with
      | some (.obj C2 dx fs') => C2 = C ∧ fs'.length < 1000 ∧ ∀ G4, At G3 a (.obj C dx (putA f w fs')) G4 → u Z ρ G4
      | _ => False) : zSeq (zFldAug C to tv z f) u Z ρ G := by
  show to ρ G _
  rw [ho]
  show (match G a with
    | some (.obj C' dx fs) => C' = C ∧ (match fs.lookup f with
      | some d => tv ρ G fun y G2 => z d y G2 fun w G3 => (match G3 a with
        | some (.obj C2 dx fs') => C2 = C ∧ fs'.length < 1000 ∧ ∀ G4, At G3 a (.obj C dx (putA f w fs')) G4 → u Z ρ G4
        | _ => False)
      | none => False)
    | _ => False)
  rw [h1]
  refine ⟨rfl, ?_⟩
  rw [h2]
  exact q
theorem r_kaug {C a dx : Addr} {f : Str} {w : D} {fs : List (Str × D)} {G : Gp} {R : Gp → Prop} (h1 : G a = some (.obj C dx fs)) (hl : Nat.ble fs.length 999 = true) (q : ∀ G3, At G a (.obj C dx (putA f w fs)) G3 → R G3) :
    (match G a with
      | some (.obj C2 dx fs') => C2 = C ∧ fs'.length < 1000 ∧ ∀ G4, At G a (.obj C dx (putA f w fs')) G4 → R G4
      | _ => False) := by
  rw [h1]
  exact ⟨rfl, Nat.lt_succ_of_le (Nat.le_of_ble_eq_true hl), q⟩
theorem r_tupG {zi : DI} {g : DG} {tt : DT} {te : DE} {vs : List Nat} {ρ : ZSt} {G : Gp} {Q : DK} (h : zi ρ G fun items live G1 => items.length ≤ sizeLine ∧ ∃ P : Nat → List D → Gp → Prop, P 0 [] G1 ∧
  (∀ i d acc G', items[i]? = some d → P i acc G' → live G' ∧ g d (zwipe ρ vs) G' fun ρ2 G2 => tt ρ2 G2 fun b G3 => if b = true then te ρ2 G3 fun e G4 => P (i + 1) (acc ++ [e]) G4 else P (i + 1) acc G3) ∧
  ∀ acc G', P items.length acc G' → live G' ∧ Q (.tup acc) G') : Zx.zTupG zi g tt te vs ρ G Q := h
/-! ### renamings -/
def rnT (rows : List (Int × Int)) : Tb := rows.map fun p => (p.1, .any p.2)
def ren (rows : List (Int × Int)) : Int → Kd := fun x => .any (match rows.find? fun p => decide (p.1 = x) with | some p => p.2 | none => x)
theorem rnT_val (rows : List (Int × Int)) (x : Int) : (valD (tbD (rnT rows)) (Sum.inl x)).getD (kd (.any x)) = kd (ren rows x) := by
  rw [tb_val]
  unfold rnT ren
  rw [List.find?_map]
  have : ((fun e : Int × Kd => decide (e.1 = x)) ∘ fun p : Int × Int => (p.1, Kd.any p.2)) = fun p => decide (p.1 = x) := by funext p; rfl
  rw [this]
  cases rows.find? fun p => decide (p.1 = x) <;> rfl
theorem rowsN_snoc (o : List Int) (x b : Int) : rowsN (o ++ [x]) b = rowsN o b ++ [(x, b + (o.length : Nat))] := by
  unfold rowsN
  rw [List.zipIdx_append, List.map_append]
  simp [List.zipIdx]
theorem rnT_app (a b : List (Int × Int)) : rnT (a ++ b) = rnT a ++ rnT b := by unfold rnT; rw [List.map_append]
theorem dom_rn (rows : List (Int × Int)) : dom (rnT rows) = rows.map (·.1) := by unfold dom rnT; rw [List.map_map]; rfl
theorem rowsN_take {o : List Int} {i : Nat} {x : Int} (b : Int) (h : o[i]? = some x) : rowsN (o.take (i + 1)) b = rowsN (o.take i) b ++ [(x, b + (i : Nat))] := by
  have hl := (List.getElem?_eq_some_iff.mp h).1
  rw [List.take_add_one, h]
  show rowsN (o.take i ++ [x]) b = _
  rw [rowsN_snoc, List.length_take, Nat.min_eq_left (by omega)]
theorem not_take {o : List Int} {i : Nat} {x : Int} (n : o.Nodup) (h : o[i]? = some x) : x ∉ o.take i := fun m => by
  obtain ⟨j, hj, e⟩ := List.getElem_of_mem m
  have hi := (List.getElem?_eq_some_iff.mp h).1
  rw [List.length_take] at hj
  rw [List.getElem_take] at e
  have e2 := (List.getElem?_eq_some_iff.mp h).2
  exact (List.pairwise_iff_getElem.mp n) j i (by omega) hi (by omega) (e.trans e2.symm)
theorem tbD_app (τ : Tb) (x n : Int) {kvs : List (Key × D)} (h : x ∉ dom τ) : putD (tbD τ) (Sum.inl x) (.tup [.str "any", .int n]) = tbD (τ ++ [(x, .any n)]) := tb_put (k := .any n) h
theorem rn_put {o : List Int} {i : Nat} {x : Int} (b : Int) (n : o.Nodup) (h : o[i]? = some x) : putD (tbD (rnT (rowsN (o.take i) b))) (Sum.inl x) (kd (.any (b + (i : Nat)))) = tbD (rnT (rowsN (o.take (i + 1)) b)) := by
  rw [tb_put (by rw [dom_rn, rowsN_fst]; exact not_take n h), rowsN_take b h, rnT_app]
  rfl
theorem rn_len (o : List Int) (b : Int) : (tbD (rnT (rowsN o b))).length = o.length := by
  rw [tbD_len]
  unfold rnT rowsN
  simp
theorem intsD_get {l : List Int} {i : Nat} {d : D} (h : (intsD l)[i]? = some d) : ∃ x, l[i]? = some x ∧ d = .int x := by
  unfold intsD at h
  rw [List.getElem?_map] at h
  cases e : l[i]? with
  | none => rw [e] at h; cases h
  | some k => rw [e] at h; exact ⟨k, rfl, (Option.some.inj h).symm⟩
/-! ### what stays of a kind when all is replaced -/
structure Fit (L : List Kd) (V : List Int) (φ : Int → Kd) (k : Kd) : Prop where
  wf_ : wf (sub φ k)
  few : ∀ s ∈ inn (sub φ k), (args s).length ≤ 1000
  dep_ : dep (sub φ k) < 40
  var_ : ∀ x ∈ vars (sub φ k), x ∈ V
  w0 : wf k
  f0 : ∀ s ∈ inn k, (args s).length ≤ 1000
def spInit (CU : Addr) : ZSp := fun ds G Q _ => ∃ u dx : Addr, ds = [.ref u] ∧ G u = some (.obj CU dx []) ∧ ∀ G' t, G t = none → Exb u G G' → UnAt CU G' u t [] 0 → Q .non G'
def spFresh (CU : Addr) : ZSp := fun ds G Q _ => ∃ (u t : Addr) (τ : Tb) (m : Nat), ds = [.ref u] ∧ UnAt CU G u t τ m ∧ ∀ G', Exb u G G' → UnAt CU G' u t τ (m + 1) → Q (kd (.any (m + 1 : Nat))) G'
def spCopy (CU : Addr) (L : List Kd) (V : List Int) : ZSp := fun ds G Q _ => ∃ (u t : Addr) (τ : Tb) (m : Nat) (φ : Int → Kd) (r : Int → Nat) (ns : List Int) (k : Kd), ds = [.ref u, .tup [.tup (intsD ns), kd k]] ∧ UnAt CU G u t τ m ∧ Form τ φ r ∧
  (∀ p ∈ τ, wf p.2) ∧ (∀ p ∈ τ, ∀ s ∈ inn p.2, (args s).length ≤ 1000) ∧ Fit L V φ k ∧ ns.Nodup ∧ ns.length ≤ 1000 ∧
  ∀ G', Exb u G G' → UnAt CU G' u t τ (m + ns.length) → Q (kd (sub (ren (rowsN ns (m + 1 : Nat))) (sub φ k))) G'
def qSch : Str := (envOfC "Unifier.scheme_of" (defScope s_Unifier_scheme_of) 0 0 .none).qual ++ "<genexpr>"
def heldOf (φ : Int → Kd) (l : List Kd) : List Int := l.foldl (fun o a => gath (sub φ a) o) []
def spScheme (CU : Addr) (L : List Kd) (V : List Int) : ZSp := fun ds G Q _ => ∃ (u t p : Addr) (τ : Tb) (m : Nat) (φ : Int → Kd) (r : Int → Nat) (k : Kd) (l : List Kd), ds = [.ref u, kd k, .ref p] ∧ UnAt CU G u t τ m ∧ Form τ φ r ∧
  (∀ p ∈ τ, wf p.2) ∧ (∀ p ∈ τ, ∀ s ∈ inn p.2, (args s).length ≤ 1000) ∧ Fit L V φ k ∧ (∀ a ∈ l, Fit L V φ a) ∧ G p = some (.lst (kds l)) ∧ l.length ≤ 1000 ∧ V.length ≤ 1000 ∧
  ∀ G', Ext G G' → Q (.tup [.tup (intsD ((gath (sub φ k) []).filter fun x => decide (x ∉ heldOf φ l))), kd (sub φ k)]) G'
theorem mem_held {φ : Int → Kd} {l : List Kd} {x : Int} : x ∈ heldOf φ l ↔ ∃ b ∈ l, x ∈ vars (sub φ b) := by
  unfold heldOf
  have : ∀ (l : List Kd) (o : List Int), x ∈ l.foldl (fun o a => gath (sub φ a) o) o ↔ x ∈ o ∨ ∃ b ∈ l, x ∈ vars (sub φ b) := fun l => by
    induction l with
    | nil => intro o; simp
    | cons a l ih =>
      intro o
      rw [List.foldl_cons, ih]
      unfold gath
      rw [mem_fold]
      simp [or_assoc]
  rw [this]
  simp
section
variable [τ0 : Tbl] {P : Program} {w : World} {K : PySem.W.Frag} {mg : Str → Option Value} {base : Heap} {CU CK : Addr} {L : List Kd} {V : List Int}
theorem ok_Init {f : Addr} {fd : FuncData} (FF : Fun K "__init__" "Unifier.__init__" s_Unifier___init__ f fd) (T : Txt K mg CU CK) : FnOk P w K mg base (L2.CX P w) 1 f fd ["self"] (upSp K (spInit CU)) :=
  z_fn FF sc_Unifier___init__ (fun ds G Q E h => by obtain ⟨_, _, rfl, _⟩ := h; rfl) fun bas cdv A outer s H E hr ds G Q E0 hE hz => by
    obtain ⟨u, dx, rfl, hu, hq⟩ := hz
    refine ⟨_, (zs_cons (z_sfld T.c_Unifier T.n_Unifier_table (z_var 0) z_dnewK) (zs_cons (z_sfld T.c_Unifier T.n_Unifier_made (z_var 0) z_int) zs_nil)), ?_⟩
    walk_at "zr"
    intro t G1 nt h1
    walk_at "zr"
    have ut : u ≠ t := fun z => by rw [z, nt] at hu; cases hu
    refine r_ksfld ((h1.other u ut).trans hu) (by with_unfolding_all rfl) fun G2 h2 => ?_
    walk_at "zr"
    refine r_ksfld h2.is (by with_unfolding_all rfl) fun G3 h3 => ?_
    walk_at "zr"
    refine hq G3 t nt ((h1.ext nt).exb.trans (h2.exb.trans h3.exb)) ⟨⟨dx, h3.is⟩, ?_⟩
    exact (h3.other t (Ne.symm ut)).trans ((h2.other t (Ne.symm ut)).trans h1.is)
theorem ok_Fresh {f : Addr} {fd : FuncData} (FF : Fun K "fresh" "Unifier.fresh" s_Unifier_fresh f fd) (T : Txt K mg CU CK) : FnOk P w K mg base (L2.CX P w) 1 f fd ["self"] (upSp K (spFresh CU)) :=
  z_fn FF sc_Unifier_fresh (fun ds G Q E h => by obtain ⟨_, _, _, _, rfl, _⟩ := h; rfl) fun bas cdv A outer s H E hr ds G Q E0 hE hz => by
    obtain ⟨u, t, τ, m, rfl, hun, hq⟩ := hz
    refine ⟨_, (zs_cons (z_fldaug T.c_Unifier T.n_Unifier_made (z_var 0) z_int zi_add) (zs_cons (z_ret (z_tup (za_cons z_str (za_cons (z_fld T.c_Unifier T.n_Unifier_made (z_var 0)) za_nil)))) zs_nil)), ?_⟩
    obtain ⟨dx, hu1⟩ := hun.obj
    have ut : u ≠ t := fun z => by rw [z, hun.tab] at hu1; cases hu1
    refine r_fldaug (fun R => rfl) hu1 (by with_unfolding_all rfl) ?_
    walk_at "zr"
    refine r_kaug hu1 (by with_unfolding_all rfl) fun G2 h2 => ?_
    have h2i := h2.is
    walk_at "zr"
    refine hq G2 h2.exb ⟨⟨dx, h2i⟩, (h2.other t (Ne.symm ut)).trans hun.tab⟩
theorem ok_Copy {f : Addr} {fd : FuncData} (FF : Fun K "fresh_copy" "Unifier.fresh_copy" s_Unifier_fresh_copy f fd) (T : Txt K mg CU CK) (D_Unifier_fresh : Mtd P w K mg base CU "fresh" 1 ["self"] (spFresh CU)) (D_Unifier_full : Mtd P w K mg base CU "full" 42 ["self", "kind"] (spFull CU 40))
    (D_substituted : Dfn P w K mg base "substituted" 42 ["kind", "table"] (spSubst 40)) : FnOk P w K mg base (L2.CX P w) 43 f fd ["self", "scheme"] (upSp K (spCopy CU L V)) :=
  z_fn FF sc_Unifier_fresh_copy (fun ds G Q E h => by obtain ⟨_, _, _, _, _, _, _, _, rfl, _⟩ := h; rfl) fun bas cdv A outer s H E hr ds G Q E0 hE hz => by
    obtain ⟨u, t, τ, m, φ, r, ns, k, rfl, hun, F, wτ, fτ, fit, nn, ln, hq⟩ := hz
    refine ⟨_, (zs_cons (z_asg (z_var 1) (zg_tup (n := 2) rfl (zgs_cons (zg_name (i := 2) sc_Unifier_fresh_copy.nd rfl (Or.inl rfl)) (zgs_cons (zg_name (i := 3) sc_Unifier_fresh_copy.nd rfl (Or.inl rfl)) zgs_nil)))) (zs_cons (z_set (i := 4) sc_Unifier_fresh_copy.nd rfl (Or.inl rfl) z_dnewK) (zs_cons (z_for (passes_of (by rfl)) rfl (zi_tup (z_var 2)) (zg_name (i := 5) sc_Unifier_fresh_copy.nd rfl (Or.inl rfl)) (zs_one (z_dput (un1 hr) (z_var 4) (z_var 5) (z_mm0 T.c_Unifier D_Unifier_fresh hr (by first | decide | omega) (z_var 0))))) (zs_cons (z_ret (z_dc0 D_substituted hr (by first | decide | omega) (by rfl) (za_cons (z_mm T.c_Unifier D_Unifier_full hr (by first | decide | omega) (z_var 0) (za_cons (z_var 3) za_nil)) (za_cons (z_var 4) za_nil)))) zs_nil)))), ?_⟩
    obtain ⟨dx, hu1⟩ := hun.obj
    walk_at "zr"
    intro p G1 np h1
    walk_at "zr"
    have un1 : UnAt CU G1 u t τ m := hun.ext (h1.ext np)
    have up : u ≠ p := fun z => by rw [z, np] at hu1; cases hu1
    have tp : t ≠ p := fun z => by have := hun.tab; rw [z, np] at this; cases this
    refine ⟨fun i ρ G' => Exb u G G' ∧ UnAt CU G' u t τ (m + i) ∧ G' p = some (.dk (tbD (rnT (rowsN (ns.take i) (m + 1 : Nat))))) ∧ ∃ z : Option D, ρ = [some (.ref u), some (.tup [.tup (intsD ns), kd k]), some (.tup (intsD ns)), some (kd k), some (.ref p), z],
      ⟨(h1.ext np).exb, un1, h1.is, _, rfl⟩, ?_, ?_⟩
    · rintro i d ρ G' hi ⟨e2, un2, h2, z, rfl⟩
      refine ⟨trivial, ?_⟩
      obtain ⟨x, hx, rfl⟩ := intsD_get hi
      obtain ⟨dx2, hu2⟩ := un2.obj
      walk_at "zr"
      refine r_meth (fun R => rfl) hu2 (by with_unfolding_all rfl) ?_
      walk_at "zr"
      refine ⟨u, t, τ, m + i, rfl, un2, fun G3 e3 un3 => ?_⟩
      walk_at "zr"
      have h3 := e3 _ _ (Ne.symm up) h2
      refine r_kdput (k := Sum.inl x) h3 rfl (big_lt (by rw [rn_len, List.length_take]; omega)) fun G4 h4 => ?_
      rw [show ((m + i + 1 : Nat) : Int) = ((m + 1 : Nat) : Int) + (i : Nat) by omega, rn_put _ nn hx] at h4
      walk_at "zr"
      obtain ⟨dx3, hu3⟩ := un3.obj
      refine ⟨fun b mm nb hb => (h4.other b fun z => by rw [z, np] at hb; cases hb).trans (e3 b mm nb (e2 b mm nb hb)), ⟨⟨dx3, (h4.other u up).trans hu3⟩, (h4.other t tp).trans un3.tab⟩, h4.is, _, rfl⟩
    · rintro ρ G' ⟨e2, un2, h2, z, rfl⟩
      refine ⟨trivial, ?_⟩
      obtain ⟨dx2, hu2⟩ := un2.obj
      walk_at "zr"
      refine r_meth (fun R => rfl) hu2 (by with_unfolding_all rfl) ?_
      walk_at "zr"
      refine ⟨u, t, τ, _, φ, r, k, rfl, un2, F, fit.w0, wτ, fit.f0, fτ, fit.dep_, fun G3 e3 => ?_⟩
      walk_at "zr"
      have h3 := e3 _ _ h2
      have il : (intsD ns).length = ns.length := intsD_len ns
      rw [il] at un2 h3
      rw [List.take_length] at h3
      refine ⟨sub φ k, p, _, ren (rowsN ns (m + 1 : Nat)), rfl, fit.wf_, fit.dep_, h3, fun x hx => rnT_val _ x, fit.few, fun G4 e4 => ?_⟩
      walk_at "zr"
      exact hq G4 (e2.trans (e3.trans e4).exb) (un2.ext (e3.trans e4))
theorem ok_Scheme {f c PO : Addr} {oc kV doc pm ct : Value} {od an : Option Addr} {osl : Array (Option Value)}
    (lk : K.lookup f = some ⟨oc, od, .func (PySem.W.fnOf "scheme_of" "Unifier.scheme_of" (defArgs s_Unifier_scheme_of) (defBody s_Unifier_scheme_of) (defScope s_Unifier_scheme_of) .none kV doc pm an (.ref c) ct), osl⟩) (hcd : PySem.W.codeIn K (.ref c) "Unifier.scheme_of" = true) (T : Txt K mg CU CK)
    (TB : GxR.TabB base mg c PO) (hmT : (PO, qSch) ∈ τ0.T) (hu : ∀ p ∈ τ0.T, p.1 = PO → p.2 = qSch) (D_Unifier_full : Mtd P w K mg base CU "full" 42 ["self", "kind"] (spFull CU 40))
    (D_gather_variables : Dfn P w K mg base "gather_variables" 42 ["kind", "found"] (spGath 40)) (D_kind_variables : Dfn P w K mg base "kind_variables" 43 ["kind"] spVars) :
    FnOk P w K mg base (L2.CX P w) 45 f (PySem.W.fnOf "scheme_of" "Unifier.scheme_of" (defArgs s_Unifier_scheme_of) (defBody s_Unifier_scheme_of) (defScope s_Unifier_scheme_of) .none kV doc pm an (.ref c) ct) ["self", "kind", "fixed"] (upSp K (spScheme CU L V)) :=
    z_fnC (k := 44) lk hcd sc_Unifier_scheme_of (fun ds G Q E h => by obtain ⟨_, _, _, _, _, _, _, _, _, rfl, _⟩ := h; rfl) fun bas A outer s H E hr ds G Q E0 hE hz => by
    obtain ⟨u, t, p, τ, m, φ, r, k, l, rfl, hun, F, wτ, fτ, fit, fl, hp, ll, lv, hq⟩ := hz
    refine ⟨_, (zs_cons (z_set (i := 1) sc_Unifier_scheme_of.nd rfl (Or.inl rfl) (z_mm T.c_Unifier D_Unifier_full hr (by first | decide | omega) (z_var 0) (za_cons (z_var 1) za_nil))) (zs_cons (z_set (i := 3) sc_Unifier_scheme_of.nd rfl (Or.inr rfl) (z_lst za_nil)) (zs_cons (z_for (passes_of (by rfl)) rfl (zi_list (z_var 2)) (zg_name (i := 4) sc_Unifier_scheme_of.nd rfl (Or.inl rfl)) (zs_one (z_expr (z_dc0 D_gather_variables hr (by first | decide | omega) (by rfl) (za_cons (z_mm T.c_Unifier D_Unifier_full hr (by first | decide | omega) (z_var 0) (za_cons (z_var 4) za_nil)) (za_cons (z_var 3) za_nil)))))) (zs_cons (z_ret (z_tup (za_cons (Zx.z_tupG (own := [("number", 5)]) hmT hu hr (by rfl) T.z_tuple TB rfl sc_Unifier_scheme_of.nd ⟨blkOk_by (by rfl), rfl, by decide, rfl⟩ (zi_list (z_dc0 D_kind_variables hr (by first | decide | omega) (by rfl) (za_cons (z_var 1) za_nil))) (grel_name (by decide)) (fun _ _ _ _ _ _ _ hr2 => ⟨(pg_name (i := 5) sc_Unifier_scheme_of.nd rfl (Or.inl rfl)), (zts_one (z_tcmp (zo_notinP (un65 hr2)) (z_var 5) (z_var 3))), (z_var 5)⟩) (fun _ => rfl)) (za_cons (z_var 1) za_nil)))) zs_nil)))), ?_⟩
    obtain ⟨dx, hu1⟩ := hun.obj
    walk_at "zr"
    refine r_meth (fun R => rfl) hu1 (by with_unfolding_all rfl) ?_
    walk_at "zr"
    refine ⟨u, t, τ, _, φ, r, k, rfl, hun, F, fit.w0, wτ, fit.f0, fτ, fit.dep_, fun G1 e1 => ?_⟩
    walk_at "zr"
    intro q G2 nq h2
    have e2 := e1.trans (h2.ext nq)
    have hp2 := e2 _ _ hp
    walk_at "zr"
    refine ⟨fun i ρ G' => Exb q G2 G' ∧ G' q = some (.lst (intsD (heldOf φ (l.take i)))) ∧ ∃ v1 v2 : Option D, ρ = [some (.ref u), some (kd (sub φ k)), some (.ref p), some (.ref q), v1, v2], ⟨Exb.refl _ _, h2.is, _, _, rfl⟩, ?_, ?_⟩
    · rintro i d ρ G' hi ⟨e3, h3, v1, v2, rfl⟩
      have qp : p ≠ q := fun z => by
        rw [z] at hp
        have := e1.back nq
        rw [this] at hp
        cases hp
      refine ⟨e3 _ _ qp hp2, ?_⟩
      obtain ⟨a, ha, rfl⟩ := kds_get hi
      have am := List.mem_of_getElem? ha
      have fa := fl a am
      have nn : ∀ b x, G b = some x → b ≠ q := fun b x hb z => by
        have := e1.back nq
        rw [z, this] at hb
        cases hb
      have eG : ∀ b x, G b = some x → G' b = some x := fun b x hb => e3 b x (nn b x hb) (e2 b x hb)
      walk_at "zr"
      refine r_meth (fun R => rfl) (eG _ _ hu1) (by with_unfolding_all rfl) ?_
      walk_at "zr"
      refine ⟨u, t, τ, _, φ, r, a, rfl, hun.ext eG, F, fa.w0, wτ, fa.f0, fτ, fa.dep_, fun G3 e4 => ?_⟩
      walk_at "zr"
      refine ⟨sub φ a, q, _, V, rfl, fa.wf_, fa.dep_, e4 _ _ h3, ?_, fun x hx => ?_, fa.var_, by omega, fun G4 e5 h5 => ?_⟩
      · unfold heldOf
        have : ∀ (l : List Kd) (o : List Int), o.Nodup → (l.foldl (fun o a => gath (sub φ a) o) o).Nodup := fun l => by
          induction l with
          | nil => exact fun o h => h
          | cons a l ih => exact fun o h => ih _ (nodup_fold h)
        exact this _ _ List.nodup_nil
      · obtain ⟨b, hb, hx⟩ := mem_held.mp hx
        exact (fl b (List.mem_of_mem_take hb)).var_ x hx
      · walk_at "zr"
        refine ⟨e3.trans (e4.exb.trans e5), ?_, _, _, rfl⟩
        have tk : l.take (i + 1) = l.take i ++ [a] := by rw [List.take_add_one, ha]; rfl
        rw [tk]
        unfold heldOf at h5 ⊢
        rw [List.foldl_append]
        exact h5
    · rintro ρ G' ⟨e3, h3, v1, v2, rfl⟩
      have nn : ∀ b x, G b = some x → b ≠ q := fun b x hb z => by
        have := e1.back nq
        rw [z, this] at hb
        cases hb
      have eG : ∀ b x, G b = some x → G' b = some x := fun b x hb => e3 b x (nn b x hb) (e2 b x hb)
      refine ⟨eG _ _ hp, ?_⟩
      rw [kds_len, List.take_length] at h3
      walk_at "zr"
      refine r_tupG ?_
      walk_at "zr"
      refine ⟨sub φ k, V, rfl, fit.wf_, fit.dep_, fit.var_, by omega, fun o G3 no e4 h4 => ?_⟩
      have kn : G3 q = some (.lst (intsD (heldOf φ l))) := e4 _ _ h3
      walk_at "zr"
      have gl : (gath (sub φ k) []).length ≤ 1000 := Nat.le_trans (nodup_sub nodup_gath fun x hx => fit.var_ x (mem_gath.mp hx)) lv
      refine ⟨big_ok (by rw [intsD_len]; omega), fun i acc G4 => G4 = G3 ∧ acc = intsD (((gath (sub φ k) []).take i).filter fun x => decide (x ∉ heldOf φ l)), ⟨rfl, rfl⟩, ?_, ?_⟩
      · rintro i d acc G4 hi ⟨rfl, rfl⟩
        refine ⟨h4, ?_⟩
        obtain ⟨x, hx, rfl⟩ := intsD_get hi
        have tk : (gath (sub φ k) []).take (i + 1) = (gath (sub φ k) []).take i ++ [x] := by rw [List.take_add_one, hx]; rfl
        walk_at "zr"
        refine r_inLI kn fun c hc => ?_
        walk_at "zr"
        refine r_niff hc (fun hm => ?_) fun hm => ?_
        · refine ⟨rfl, ?_⟩
          rw [tk, List.filter_append]
          simp [hm]
        · walk_at "zr"
          refine ⟨rfl, ?_⟩
          rw [tk, List.filter_append, List.filter_cons_of_pos (by simp [hm]), ← intsD_app]
          rfl
      · rintro acc G4 ⟨rfl, rfl⟩
        refine ⟨h4, ?_⟩
        rw [intsD_len, List.take_length]
        walk_at "zr"
        exact hq G4 fun b x hb => e4 b x (eG b x hb)
end
end K05

namespace K05
open PySem PySem.Spec PyProof.Rows L2 Z
local macro_rules | `(tactic| walk_at "zr") => `(tactic| (repeat' (with_reducible first | refine r_asg ?_ | refine r_asgT ?_ | refine r_asgG ?_ | refine r_asg1 ?_ | refine r_if ?_ | refine r_if1 ?_ | refine r_drop ?_ | refine r_drop1 ?_ | refine r_ret ?_ | refine r_ret1 ?_ | refine r_retN ?_ | refine r_nx ?_ | refine r_nx1 ?_ | refine r_bk ?_ | refine r_ct ?_ | refine r_par ?_ | refine r_par1 ?_ | refine r_par3 ?_ | refine r_par31 ?_ | refine r_for ?_ | refine r_for1 ?_ | refine r_sfld ?_ | refine r_sfld1 ?_ | refine r_aug (by with_unfolding_all rfl) ?_ | refine r_aug1 (by with_unfolding_all rfl) ?_ | refine r_var (by with_unfolding_all rfl) ?_ | refine r_c ?_ | refine r_op ?_ | refine r_ifE ?_ | refine r_nil ?_ | refine r_cons ?_ | refine r_tup ?_ | refine r_lst ?_ | refine r_cb ?_ | refine r_call ?_ | refine r_test ?_ | refine r_not ?_ | refine r_and ?_ | refine r_or ?_ | refine r_andV ?_ | refine r_orV ?_ | refine r_notV ?_ | refine r_neg ?_ | refine r_bm ?_ | refine r_bm0 ?_ | refine r_sl ?_ | refine r_part ?_ | refine r_noP ?_ | refine r_chain ?_ | refine r_int2 ?_ | refine r_eqI ?_ | refine r_eqS ?_ | refine r_eqB ?_ | refine r_fInt ?_ | refine r_fIntB ?_ | refine r_fAbs ?_ | refine r_fMin ?_ | refine r_lenT ?_ | refine r_isNN ?_ | refine r_isNI ?_ | refine r_isNT ?_ | refine r_isNR ?_ | refine r_ixT0 ?_ | refine r_ixT1 ?_ | refine r_ixT2 ?_ | refine r_ixT3 ?_ | refine r_fld ?_ | refine r_kfld (by assumption) rfl ?_ | refine r_list ?_ | refine r_klist (by assumption) ?_ | refine r_tupI ?_ | refine r_ktupI ?_ | refine r_yes ?_ | refine r_kctI ?_ | refine r_rng1 ?_ | refine r_rng2 ?_ | refine r_enum ?_ | refine r_kenumT ?_ | refine r_kenum (by assumption) ?_ | refine r_fListT ?_ | refine r_fTupT ?_ | refine r_fListR (by assumption) ?_ | refine r_fTupR (by assumption) ?_ | refine r_lenR (by assumption) ?_ | refine r_rev ?_ | refine r_krevT ?_ | refine r_krev (by assumption) ?_ | refine r_setL ?_ | refine r_dget ?_ | refine r_lc0 ?_ | refine r_name ?_ | refine r_gtup (by with_unfolding_all rfl) ?_ | refine r_gcons ?_ | refine r_gnil ?_ | refine r_din ?_ | refine r_setd ?_ | refine r_ksetdA (by assumption) ?_ | refine r_keysI ?_ | refine r_kkeysI (by assumption) ?_ | refine r_dput ?_ | refine r_dput1 ?_ | refine r_dnewK ?_ | refine r_szc (by with_unfolding_all exact Nat.le_of_ble_eq_true rfl) ?_ | refine r_eqlen (by with_unfolding_all rfl) ?_ | refine r_ifT (by decide) ?_ | refine r_ifF (by decide) ?_ | refine r_inFT (b := false) rfl rfl (by decide) ?_ | refine r_inFT (b := true) rfl rfl (by decide) ?_ | refine r_lrng ?_)))
def rnum (k : Kd) : Kd := sub (ren (rowsN (gath k []) 0)) k
def spRenum : ZSp := fun ds G Q _ => ∃ (k : Kd) (W : List Int), ds = [kd k] ∧ wf k ∧ dep k < 40 ∧ (∀ s ∈ inn k, (args s).length ≤ 1000) ∧ (∀ x ∈ vars k, x ∈ W) ∧ W.length ≤ 1000 ∧ ∀ G', Ext G G' → Q (kd (rnum k)) G'
def qIns : Str := (envOfC "is_instance" (defScope s_is_instance) 0 0 .none).qual ++ "<genexpr>"
def TbIn (W : List Int) (σ : Int → Kd) (T : Tb) : Prop := (∀ q ∈ T, σ q.1 = q.2) ∧ (dom T).Nodup ∧ ∀ x ∈ dom T, x ∈ W
def spInst (N : Nat) : ZSp := fun ds G Q _ => ∃ (a b : Kd) (p : Addr) (T : Tb), ds = [kd a, kd b, .ref p] ∧ G p = some (.dk (tbD T)) ∧ wf a ∧ wf b ∧ wd a ≤ 60 ∧ dep b < N ∧ (∀ s ∈ inn a, (args s).length ≤ 1000) ∧ (∀ s ∈ inn b, (args s).length ≤ 1000) ∧
  ((∃ (σ : Int → Kd) (W : List Int), a = sub σ b ∧ TbIn W σ T ∧ (∀ x ∈ vars b, x ∈ W) ∧ W.length ≤ 1000 ∧ ∀ G' T', Exb p G G' → G' p = some (.dk (tbD T')) → TbIn W σ T' → Q (.bl true) G') ∨ (a = .nd .int [] ∧ b = .nd .bool [] ∧ Q (.bl false) G))
def spNoMore : ZSp := fun ds G Q _ => ∃ (a b : Kd) (σ : Int → Kd) (W : List Int), ds = [kd a, kd b] ∧ wf a ∧ wf b ∧ wd a ≤ 60 ∧ dep b < 40 ∧ (∀ s ∈ inn a, (args s).length ≤ 1000) ∧ (∀ s ∈ inn b, (args s).length ≤ 1000) ∧ a = sub σ b ∧ (∀ x ∈ vars b, x ∈ W) ∧ W.length ≤ 1000 ∧ ∀ G', Ext G G' → Q (.bl true) G'
theorem wd_child {h : Hd} {as : List Kd} {a : Kd} (m : a ∈ as) : wd a ≤ wd (.nd h as) := by
  rw [wd.eq_2]
  exact Nat.le_trans (le_wds m) (Nat.le_add_left _ _)
section
variable [τ0 : Tbl] {P : Program} {w : World} {K : PySem.W.Frag} {mg : Str → Option Value} {base : Heap} {CU CK : Addr}
theorem ok_Renum {f : Addr} {fd : FuncData} (FF : Fun K "renumbered" "renumbered" s_renumbered f fd) (T : Txt K mg CU CK) (D_kind_variables : Dfn P w K mg base "kind_variables" 43 ["kind"] spVars) (D_substituted : Dfn P w K mg base "substituted" 42 ["kind", "table"] (spSubst 40)) :
    FnOk P w K mg base (L2.CX P w) 44 f fd ["kind"] (upSp K spRenum) :=
  z_fn FF sc_renumbered (fun ds G Q E h => by obtain ⟨_, _, rfl, _⟩ := h; rfl) fun bas cdv A outer s H E hr ds G Q E0 hE hz => by
    obtain ⟨k, W, rfl, hw, hd, few, hv, lW, hq⟩ := hz
    refine ⟨_, (zs_cons (z_set (i := 1) sc_renumbered.nd rfl (Or.inl rfl) z_dnewK) (zs_cons (z_for (passes_of (by rfl)) rfl (zi_enumA (by rfl) T.z_enumerate (za_cons (z_dc0 D_kind_variables hr (by first | decide | omega) (by rfl) (za_cons (z_var 0) za_nil)) za_nil)) (zg_tup (n := 2) rfl (zgs_cons (zg_name (i := 2) sc_renumbered.nd rfl (Or.inl rfl)) (zgs_cons (zg_name (i := 3) sc_renumbered.nd rfl (Or.inl rfl)) zgs_nil))) (zs_one (z_dput (un1 hr) (z_var 1) (z_var 3) (z_tup (za_cons z_str (za_cons (z_var 2) za_nil)))))) (zs_cons (z_ret (z_dc0 D_substituted hr (by first | decide | omega) (by rfl) (za_cons (z_var 0) (za_cons (z_var 1) za_nil)))) zs_nil))), ?_⟩
    walk_at "zr"
    intro p G1 np h1
    walk_at "zr"
    refine ⟨k, W, rfl, hw, hd, hv, by omega, fun o G2 no e2 h2 => ?_⟩
    have gl : (gath k []).length ≤ 1000 := Nat.le_trans (nodup_sub nodup_gath fun x hx => hv x (mem_gath.mp hx)) lW
    have po : o ≠ p := fun z => by rw [z, h1.is] at no; cases no
    walk_at "zr"
    refine ⟨fun i ρ G' => Ext G G' ∧ G' o = some (.lst (intsD (gath k []))) ∧ G' p = some (.dk (tbD (rnT (rowsN ((gath k []).take i) 0)))) ∧ ∃ z1 z2 : Option D, ρ = [some (kd k), some (.ref p), z1, z2],
      ⟨(h1.ext np).trans e2, h2, e2 _ _ h1.is, _, _, rfl⟩, ?_, ?_⟩
    · rintro i d ρ G' hi ⟨e3, h3, h4, z1, z2, rfl⟩
      refine ⟨h3, ?_⟩
      obtain ⟨x, hx, rfl⟩ := enD_get hi
      obtain ⟨y, hy, rfl⟩ := intsD_get hx
      walk_at "zr"
      refine r_kdput (k := Sum.inl y) h4 rfl (big_lt (by rw [rn_len, List.length_take]; omega)) fun G4 h5 => ?_
      have e : D.tup [D.str "any", D.int (i : Nat)] = kd (.any ((0 : Int) + (i : Nat))) := by rw [Int.zero_add]; rfl
      rw [e, rn_put 0 nodup_gath hy] at h5
      walk_at "zr"
      exact ⟨fun b m hb => (h5.other b fun z => by rw [z, np] at hb; cases hb).trans (e3 b m hb), (h5.other o po).trans h3, h5.is, _, _, rfl⟩
    · rintro ρ G' ⟨e3, h3, h4, z1, z2, rfl⟩
      refine ⟨h3, ?_⟩
      rw [enD_len, intsD_len, List.take_length] at h4
      walk_at "zr"
      refine ⟨k, p, _, ren (rowsN (gath k []) 0), rfl, hw, hd, h4, fun x hx => rnT_val _ x, few, fun G5 e5 => ?_⟩
      walk_at "zr"
      exact hq G5 (e3.trans e5)
theorem ok_Inst {f c PO : Addr} {oc kV doc pm ct : Value} {od an : Option Addr} {osl : Array (Option Value)}
    (lk : K.lookup f = some ⟨oc, od, .func (PySem.W.fnOf "is_instance" "is_instance" (defArgs s_is_instance) (defBody s_is_instance) (defScope s_is_instance) .none kV doc pm an (.ref c) ct), osl⟩) (hcd : PySem.W.codeIn K (.ref c) "is_instance" = true) (T : Txt K mg CU CK)
    (TB : GxR.TabB base mg c PO) (hmT : (PO, qIns) ∈ τ0.T) (hu : ∀ p ∈ τ0.T, p.1 = PO → p.2 = qIns) (D_kind_parts : Dfn P w K mg base "kind_parts" 1 ["kind"] spParts)
    (self : ∀ {j : Nat} {z : ZSp}, FnOk P w K mg base (L2.CX P w) j f (PySem.W.fnOf "is_instance" "is_instance" (defArgs s_is_instance) (defBody s_is_instance) (defScope s_is_instance) .none kV doc pm an (.ref c) ct) ["one", "other", "table"] (upSp K z) → Dfn P w K mg base "is_instance" j ["one", "other", "table"] z) :
    ∀ n, FnOk P w K mg base (L2.CX P w) (2 * n + 2) f (PySem.W.fnOf "is_instance" "is_instance" (defArgs s_is_instance) (defBody s_is_instance) (defScope s_is_instance) .none kV doc pm an (.ref c) ct) ["one", "other", "table"] (upSp K (spInst n))
  | 0 => fn_no fun ds G Q E h => by obtain ⟨_, _, _, _, _, _, _, _, _, h, _⟩ := h; omega
  | n + 1 =>
    have D_is_instance := self (ok_Inst lk hcd T TB hmT hu D_kind_parts self n)
    z_fnC (k := 2 * n + 2 + 1) lk hcd sc_is_instance (fun ds G Q E h => by obtain ⟨_, _, _, _, rfl, _⟩ := h; rfl) fun bas A outer s H E hr ds G Q E0 hE hz => by
    obtain ⟨a, b, p, Tb0, rfl, hp, wa, wb, da, db, fa, fb, hq⟩ := hz
    refine ⟨_, (zs_cons (z_if (z_tcmp zo_eqF (z_ix (z_var 1) z_int) z_str) (zs_cons (z_if (z_tdin (un1 hr) (z_ix (z_var 1) z_int) (z_var 2)) (zs_one (z_ret (z_cmp (zo_eqP hr.units) (z_dget (un1 hr) (z_var 2) (z_ix (z_var 1) z_int)) (z_var 0)))) zs_nil) (zs_cons (z_dput (un1 hr) (z_var 2) (z_ix (z_var 1) z_int) (z_var 0)) (zs_cons (z_ret z_bl) zs_nil))) zs_nil) (zs_cons (z_if (zw_t (zw_or (z_tcmp zo_neF (z_ix (z_var 0) z_int) (z_ix (z_var 1) z_int)) (zw_or1 (zw_t (zw_and (z_tcmp zo_eqF (z_ix (z_var 0) z_int) z_str) (zw_and1 (z_tcmp zo_neF (z_ix (z_var 0) z_int) (z_ix (z_var 1) z_int)))))))) (zs_one (z_ret z_bl)) zs_nil) (zs_cons (z_ret (Zx.z_allG (own := [("first", 3), ("second", 4)]) hmT hu hr (by rfl) T.z_all TB rfl sc_is_instance.nd ⟨blkOk_by (by rfl), rfl, by decide, rfl⟩ (zi_zipA (by rfl) T.z_zip (za_cons (z_dc0 D_kind_parts hr (by first | decide | omega) (by rfl) (za_cons (z_var 0) za_nil)) (za_cons (z_dc0 D_kind_parts hr (by first | decide | omega) (by rfl) (za_cons (z_var 1) za_nil)) za_nil))) (grel_tup (gsrel_cons (grel_name (by decide)) (gsrel_cons (grel_name (by decide)) gsrel_nil))) (fun _ _ _ _ _ _ _ hr2 => ⟨(pg_tup (n := 2) rfl (pgs_cons (pg_name (i := 3) sc_is_instance.nd rfl (Or.inl rfl)) (pgs_cons (pg_name (i := 4) sc_is_instance.nd rfl (Or.inl rfl)) pgs_nil))), zts_nil, (z_dc0 D_is_instance hr2 (by first | decide | omega) (by rfl) (za_cons (z_var 3) (za_cons (z_var 4) (za_cons (z_var 2) za_nil))))⟩) (fun _ => rfl))) zs_nil))), ?_⟩
    rcases hq with ⟨σ, W, rfl, ht, hv, lW, hq⟩ | ⟨rfl, rfl, hq⟩
    · cases b with
      | any v =>
        rw [show kd (.any v) = .tup [.str "any", .int v] from rfl]
        have es : sub σ (.any v) = σ v := rfl
        walk_at "zr"
        by_cases hv2 : v ∈ dom Tb0
        · obtain ⟨tt, hm, hval⟩ := tb_some hv2
          have ett : σ v = tt := ht.1 _ hm
          refine r_kdin ((dget_dk (d := .int v) (k := Sum.inl v) hp rfl).trans (by rw [hval])) ?_
          refine r_ifT (b := true) rfl ?_
          walk_at "zr"
          refine r_kdget ((dget_dk (d := .int v) (k := Sum.inl v) hp rfl).trans (by rw [hval])) ?_
          walk_at "zr"
          rw [es] at wa da ⊢
          rw [← ett]
          refine r_eqP (pl_kd _ wa 60 da) (pl_kd _ wa 60 da) fun c hc => ?_
          rw [hc.mpr rfl]
          exact hq G Tb0 (Exb.refl _ _) hp ht
        · refine r_kdin ((dget_dk (d := .int v) (k := Sum.inl v) hp rfl).trans (by rw [tb_none hv2])) ?_
          refine r_ifF (b := false) rfl ?_
          walk_at "zr"
          have lT : Tb0.length ≤ W.length := by
            have := nodup_sub ht.2.1 ht.2.2
            unfold dom at this
            rw [List.length_map] at this
            exact this
          refine r_kdput (k := Sum.inl v) hp rfl (big_lt (by rw [tbD_len]; omega)) fun G2 h2 => ?_
          rw [es, tb_put hv2] at h2
          walk_at "zr"
          have hd2 : dom (Tb0 ++ [(v, σ v)]) = dom Tb0 ++ [v] := by unfold dom; simp
          refine hq G2 _ h2.exb h2.is ⟨fun q hq => ?_, ?_, ?_⟩
          · rcases List.mem_append.mp hq with hq | hq
            · exact ht.1 q hq
            · rw [List.mem_singleton.mp hq]
          · rw [hd2, List.nodup_append]
            exact ⟨ht.2.1, by simp, fun a ha b hb e => by rw [List.mem_singleton] at hb; rw [e, hb] at ha; exact hv2 ha⟩
          · intro x hx
            rw [hd2] at hx
            rcases List.mem_append.mp hx with hx | hx
            · exact ht.2.2 x hx
            · rw [List.mem_singleton.mp hx]
              exact hv v (by simp [vars])
      | nd h as =>
        obtain ⟨w1, rest, ne, ek⟩ := kd_nd h as
        obtain ⟨w2, rest2, ne2, ek2⟩ := kd_nd h (as.map (sub σ))
        rw [sub_nd] at wa da fa ⊢
        have ew1 := kd_word ek
        have ew2 := kd_word ek2
        subst ew1 ew2
        have go : zRet (Zx.zBoolG false (zZipA (zCons (zCall spParts X0 (zCons (zVar 0) zNil)) (zCons (zCall spParts X0 (zCons (zVar 1) zNil)) zNil))) (zgTup 2 (zgCons (zName 3) (zgCons (zName 4) zgNil))) zYes (zCall (spInst n) X0 (zCons (zVar 3) (zCons (zVar 4) (zCons (zVar 2) zNil)))) [3, 4]) { nx := fun x G' => Q .non G', rt := Q }
          [some (kd (.nd h (as.map (sub σ)))), some (kd (.nd h as)), some (.ref p), none, none] G := by
          walk_at "zr"
          refine r_boolG ?_
          refine r_zipA ?_
          refine r_cons ?_
          refine r_call ?_
          refine r_cons ?_
          refine r_var rfl ?_
          refine r_nil ?_
          refine ⟨_, rfl, wa, ?_⟩
          walk_at "zr"
          refine ⟨_, rfl, wb, ?_⟩
          walk_at "zr"
          refine r_kzipT ?_
          have al : as.length ≤ 1000 := by
            by_cases e : as = []
            · rw [e]; exact Nat.zero_le _
            · exact fb _ (mem_inn.mpr (.inl ⟨e, rfl⟩))
          refine ⟨big_ok (by rw [zipD_len, kds_len, kds_len]; show min _ as.length ≤ _; omega), fun i G' => Exb p G G' ∧ ∃ T', G' p = some (.dk (tbD T')) ∧ TbIn W σ T', ⟨Exb.refl _ _, Tb0, hp, ht⟩, ?_, ?_⟩
          · rintro i d G' hi ⟨e1, T', h1, ht1⟩
            refine ⟨trivial, ?_⟩
            obtain ⟨d1, d2, g1, g2, rfl⟩ := zipD_get hi
            obtain ⟨x1, hx1, rfl⟩ := kds_get g1
            obtain ⟨x, hx, rfl⟩ := kds_get g2
            have hx1 : (as.map (sub σ))[i]? = some x1 := hx1
            have hx : as[i]? = some x := hx
            rw [List.getElem?_map, hx] at hx1
            cases hx1
            have am := List.mem_of_getElem? hx
            have am2 : sub σ x ∈ as.map (sub σ) := List.mem_map.mpr ⟨x, am, rfl⟩
            walk_at "zr"
            have dc : dep x < dep (.nd h as) := dep_child am
            refine ⟨sub σ x, x, p, T', rfl, h1, (wf_nd.mp wa).2 _ am2, (wf_nd.mp wb).2 x am, Nat.le_trans (wd_child am2) da, by omega, fun s hs => fa s (mem_inn.mpr (.inr ⟨_, am2, hs⟩)), fun s hs => fb s (mem_inn.mpr (.inr ⟨x, am, hs⟩)),
              .inl ⟨σ, W, rfl, ht1, fun y hy => hv y (vars_nd.mpr ⟨x, am, hy⟩), lW, fun G2 T2 e2 h2 ht2 => ?_⟩⟩
            show Exb p G G2 ∧ ∃ T', G2 p = some (.dk (tbD T')) ∧ TbIn W σ T'
            exact ⟨e1.trans e2, T2, h2, ht2⟩
          · rintro G' ⟨e1, T', h1, ht1⟩
            exact ⟨trivial, hq G' T' e1 h1 ht1⟩
        rw [ek, ek2]
        walk_at "zr"
        refine r_ndec (fun e => absurd e ne) fun _ => ?_
        walk_at "zr"
        refine r_tdec (fun _ => ?_) fun e => absurd rfl e
        walk_at "zr"
        rw [ek, ek2] at go
        by_cases hdt : ∃ s, h = .data s
        · obtain ⟨s, rfl⟩ := hdt
          have er : rest = [.str s, .tup (kds as)] := by
            injection ek with ek
            injection ek with _ ek
            exact ek.symm
          have er2 : rest2 = [.str s, .tup (kds (as.map (sub σ)))] := by
            injection ek2 with ek2
            injection ek2 with _ ek2
            exact ek2.symm
          subst er er2
          refine r_ndec (fun _ => ?_) fun z => absurd rfl z
          walk_at "zr"
          refine r_tdec (fun _ => ?_) fun e => absurd rfl e
          walk_at "zr"
          exact go
        · refine r_ndec (fun z => ?_) fun _ => ?_
          · exfalso
            cases h <;> first | exact hdt ⟨_, rfl⟩ | exact absurd z (by simp only [word]; decide)
          · refine r_ifF (b := false) rfl ?_
            exact go
    · rw [show kd (.nd .int []) = .tup [.str "int"] from rfl, show kd (.nd .bool []) = .tup [.str "bool"] from rfl]
      walk_at "zr"
      exact hq
theorem ok_NoMore {f : Addr} {fd : FuncData} (FF : Fun K "no_more_general" "no_more_general" s_no_more_general f fd) (T : Txt K mg CU CK) (D_is_instance : Dfn P w K mg base "is_instance" 82 ["one", "other", "table"] (spInst 40)) : FnOk P w K mg base (L2.CX P w) 83 f fd ["one", "other"] (upSp K spNoMore) :=
  z_fn FF sc_no_more_general (fun ds G Q E h => by obtain ⟨_, _, _, _, rfl, _⟩ := h; rfl) fun bas cdv A outer s H E hr ds G Q E0 hE hz => by
    obtain ⟨a, b, σ, W, rfl, wa, wb, da, db, fa, fb, e, hv, lW, hq⟩ := hz
    refine ⟨_, (zs_cons (z_set (i := 2) sc_no_more_general.nd rfl (Or.inl rfl) z_dnewK) (zs_cons (z_ret (z_dc0 D_is_instance hr (by first | decide | omega) (by rfl) (za_cons (z_var 0) (za_cons (z_var 1) (za_cons (z_var 2) za_nil))))) zs_nil)), ?_⟩
    walk_at "zr"
    intro p G1 np h1
    walk_at "zr"
    refine ⟨a, b, p, [], rfl, h1.is, wa, wb, da, db, fa, fb, .inl ⟨σ, W, e, ⟨fun q hq => (by cases hq), List.nodup_nil, fun x hx => (by cases hx)⟩, hv, lW, fun G2 T2 e2 _ _ => ?_⟩⟩
    walk_at "zr"
    exact hq G2 (exb_ext (h1.ext np) np e2)
end
end K05

namespace K05
open PySem PySem.Spec PyProof.Rows L2 Z
local macro_rules | `(tactic| walk_at "zr") => `(tactic| (repeat' (with_reducible first | refine r_asg ?_ | refine r_asgT ?_ | refine r_asgG ?_ | refine r_asg1 ?_ | refine r_if ?_ | refine r_if1 ?_ | refine r_drop ?_ | refine r_drop1 ?_ | refine r_ret ?_ | refine r_ret1 ?_ | refine r_retN ?_ | refine r_nx ?_ | refine r_nx1 ?_ | refine r_bk ?_ | refine r_ct ?_ | refine r_par ?_ | refine r_par1 ?_ | refine r_par3 ?_ | refine r_par31 ?_ | refine r_for ?_ | refine r_for1 ?_ | refine r_sfld ?_ | refine r_sfld1 ?_ | refine r_aug (by with_unfolding_all rfl) ?_ | refine r_aug1 (by with_unfolding_all rfl) ?_ | refine r_var (by with_unfolding_all rfl) ?_ | refine r_c ?_ | refine r_op ?_ | refine r_ifE ?_ | refine r_nil ?_ | refine r_cons ?_ | refine r_tup ?_ | refine r_lst ?_ | refine r_cb ?_ | refine r_call ?_ | refine r_test ?_ | refine r_not ?_ | refine r_and ?_ | refine r_or ?_ | refine r_andV ?_ | refine r_orV ?_ | refine r_notV ?_ | refine r_neg ?_ | refine r_bm ?_ | refine r_bm0 ?_ | refine r_sl ?_ | refine r_part ?_ | refine r_noP ?_ | refine r_chain ?_ | refine r_int2 ?_ | refine r_eqI ?_ | refine r_eqS ?_ | refine r_eqB ?_ | refine r_fInt ?_ | refine r_fIntB ?_ | refine r_fAbs ?_ | refine r_fMin ?_ | refine r_lenT ?_ | refine r_isNN ?_ | refine r_isNI ?_ | refine r_isNT ?_ | refine r_isNR ?_ | refine r_ixT0 ?_ | refine r_ixT1 ?_ | refine r_ixT2 ?_ | refine r_ixT3 ?_ | refine r_fld ?_ | refine r_kfld (by assumption) rfl ?_ | refine r_list ?_ | refine r_klist (by assumption) ?_ | refine r_tupI ?_ | refine r_ktupI ?_ | refine r_yes ?_ | refine r_kctI ?_ | refine r_rng1 ?_ | refine r_rng2 ?_ | refine r_enum ?_ | refine r_kenumT ?_ | refine r_kenum (by assumption) ?_ | refine r_fListT ?_ | refine r_fTupT ?_ | refine r_fListR (by assumption) ?_ | refine r_fTupR (by assumption) ?_ | refine r_lenR (by assumption) ?_ | refine r_rev ?_ | refine r_krevT ?_ | refine r_krev (by assumption) ?_ | refine r_setL ?_ | refine r_dget ?_ | refine r_lc0 ?_ | refine r_name ?_ | refine r_gtup (by with_unfolding_all rfl) ?_ | refine r_gcons ?_ | refine r_gnil ?_ | refine r_din ?_ | refine r_setd ?_ | refine r_ksetdA (by assumption) ?_ | refine r_keysI ?_ | refine r_kkeysI (by assumption) ?_ | refine r_dput ?_ | refine r_dput1 ?_ | refine r_dnewK ?_ | refine r_szc (by with_unfolding_all exact Nat.le_of_ble_eq_true rfl) ?_ | refine r_eqlen (by with_unfolding_all rfl) ?_ | refine r_ifT (by decide) ?_ | refine r_ifF (by decide) ?_ | refine r_inFT (b := false) rfl rfl (by decide) ?_ | refine r_inFT (b := true) rfl rfl (by decide) ?_ | refine r_lrng ?_)))
/-! ### kinds as texts -/
def abc : Str := "abcdefghijklmnopqrstuvwxyz"
def letters (n : Int) : Str := (match abc.cps.toList[(n.toNat % 26)]? with | some c => ⟨#[c]⟩ | none => "") ++ (if n / 26 > 0 then ((toString (n / 26) : String) : Str) else ("" : Str))
structure T3 where
  f : Str
  p : Str
  s : Str
def brk (x : Str) : Str := Str.empty ++ ("(" : Str) ++ x ++ (")" : Str)
def t1 (x : Str) : T3 := ⟨x, x, x⟩
def tmk : Hd → List T3 → T3
  | .fn, [a, b] => ⟨Str.empty ++ a.p ++ (" -> " : Str) ++ b.f, brk (Str.empty ++ a.p ++ (" -> " : Str) ++ b.f), brk (Str.empty ++ a.p ++ (" -> " : Str) ++ b.f)⟩
  | .pair, [a, b] => ⟨Str.empty ++ a.s ++ (" * " : Str) ++ b.p, Str.empty ++ a.s ++ (" * " : Str) ++ b.p, brk (Str.empty ++ a.s ++ (" * " : Str) ++ b.p)⟩
  | .data s, l => t1 (Str.empty ++ s ++ ("(" : Str) ++ Txt.join (", " : Str) (l.map T3.f) ++ (")" : Str))
  | .list, [a] => t1 (Str.empty ++ ("list" : Str) ++ ("(" : Str) ++ a.f ++ (")" : Str))
  | .ref, [a] => t1 (Str.empty ++ ("ref" : Str) ++ ("(" : Str) ++ a.f ++ (")" : Str))
  | h, _ => t1 (word h)
mutual
def tt : Kd → T3
  | .any n => t1 (Str.empty ++ ("'" : Str) ++ letters n)
  | .nd h as => tmk h (tts as)
def tts : List Kd → List T3
  | [] => []
  | a :: as => tt a :: tts as
end
theorem tts_map : ∀ as, tts as = as.map tt
  | [] => rfl
  | a :: as => by rw [tts, tts_map as, List.map_cons]
/- how long -/
def nmL : Hd → Nat
  | .data s => s.length
  | _ => 0
mutual
def tl : Kd → Nat
  | .any _ => 40
  | .nd h as => 40 + nmL h + tls as
def tls : List Kd → Nat
  | [] => 0
  | a :: as => tl a + 4 + tls as
end
theorem tl_pos (k : Kd) : 40 ≤ tl k := by
  cases k with
  | any n => exact Nat.le_refl _
  | nd h as => rw [tl]; omega
theorem tl_in {a : Kd} : ∀ {as : List Kd}, a ∈ as → tl a + 4 ≤ tls as
  | b :: as, m => by
    rw [tls]
    rcases List.mem_cons.mp m with rfl | m
    · omega
    · have := tl_in m
      omega
theorem tl_child {h : Hd} {as : List Kd} {a : Kd} (m : a ∈ as) : tl a ≤ tl (.nd h as) := by
  have := tl_in m
  rw [tl.eq_2]
  omega
/- how many calls deep -/
structure C3 where
  f : Nat
  p : Nat
  s : Nat
def cmk : Hd → List C3 → C3
  | .fn, [a, b] => ⟨1 + max a.p b.f, 3 + max a.p b.f, 2 + max a.p b.f⟩
  | .pair, [a, b] => ⟨2 + max a.s b.p, 1 + max a.s b.p, 3 + max a.s b.p⟩
  | _, l => ⟨3 + (l.map C3.f).foldr max 0, 2 + (l.map C3.f).foldr max 0, 1 + (l.map C3.f).foldr max 0⟩
mutual
def cc : Kd → C3
  | .any _ => ⟨3, 2, 1⟩
  | .nd h as => cmk h (ccs as)
def ccs : List Kd → List C3
  | [] => []
  | a :: as => cc a :: ccs as
end
theorem le_max0 {l : List Nat} {x : Nat} (h : x ∈ l) : x ≤ l.foldr max 0 := by
  induction l with
  | nil => cases h
  | cons y l ih =>
    rw [List.foldr_cons]
    rcases List.mem_cons.mp h with rfl | h
    · exact Nat.le_max_left _ _
    · exact Nat.le_trans (ih h) (Nat.le_max_right _ _)
theorem ccs_mem {a : Kd} : ∀ {as : List Kd}, a ∈ as → cc a ∈ ccs as
  | b :: as, m => by
    rw [ccs]
    rcases List.mem_cons.mp m with rfl | m
    · exact List.mem_cons_self
    · exact List.mem_cons_of_mem _ (ccs_mem m)
def lets (k : Kd) : Prop := ∀ x ∈ vars k, 0 ≤ x ∧ x < 40
theorem lets_child {h : Hd} {as : List Kd} {a : Kd} (l : lets (.nd h as)) (m : a ∈ as) : lets a := fun x hx => l x (vars_nd.mpr ⟨a, m, hx⟩)
theorem letters_len {n : Int} (h : 0 ≤ n ∧ n < 40) : (letters n).length ≤ 20 := by
  obtain ⟨m, rfl⟩ : ∃ m : Nat, n = (m : Int) := ⟨n.toNat, by omega⟩
  have : ∀ m < 40, (letters (m : Nat)).length ≤ 20 := by decide +kernel
  exact this m (by omega)
theorem len_app (a b : Str) : (a ++ b).length = a.length + b.length := Str.length_append a b
theorem len_empty : Str.empty.length = 0 := rfl
theorem joinL_len (S : List Nat) : ∀ l : List (List Nat), (TL.joinL S l).length ≤ (l.map List.length).sum + l.length * S.length
  | [] => Nat.zero_le _
  | [p] => by simp [TL.joinL]
  | p :: q :: r => by
    have := joinL_len S (q :: r)
    show (p ++ (S ++ TL.joinL S (q :: r))).length ≤ _
    rw [List.length_append, List.length_append, List.map_cons, List.sum_cons, List.length_cons, Nat.succ_mul]
    omega
theorem join_len (y : Str) (l : List Str) : (Txt.join y l).length ≤ (l.map Str.length).sum + l.length * y.length := by
  have h := joinL_len (TL.tl y) (l.map TL.tl)
  rw [← TL.tl_join, ← TL.join_eq, List.map_map, List.length_map] at h
  exact h
theorem tt_len : ∀ k, lets k → (tt k).f.length ≤ tl k ∧ (tt k).p.length ≤ tl k ∧ (tt k).s.length ≤ tl k := Kd.ind (fun n h => by
  have := letters_len (h n (by simp [vars]))
  have e : (Str.empty ++ ("'" : Str) ++ letters n).length ≤ 40 := by
    rw [len_app, len_app, len_empty]
    have : ("'" : Str).length = 1 := rfl
    omega
  exact ⟨e, e, e⟩) fun hd as ih h => by
  have kid : ∀ a ∈ as, (tt a).f.length ≤ tl a ∧ (tt a).p.length ≤ tl a ∧ (tt a).s.length ≤ tl a := fun a ha => ih a ha (lets_child h ha)
  have w1 : (t1 (word hd)).f.length ≤ tl (.nd hd as) ∧ (t1 (word hd)).p.length ≤ tl (.nd hd as) ∧ (t1 (word hd)).s.length ≤ tl (.nd hd as) := by
    have : (word hd).length ≤ 40 := by cases hd <;> (simp only [word]; decide +kernel)
    have := tl_pos (.nd hd as)
    exact ⟨by show (word hd).length ≤ _; omega, by show (word hd).length ≤ _; omega, by show (word hd).length ≤ _; omega⟩
  have l4 : (" -> " : Str).length = 4 := rfl
  have l3 : (" * " : Str).length = 3 := rfl
  have l1 : ("(" : Str).length = 1 := rfl
  have r1 : (")" : Str).length = 1 := rfl
  have ll : ("list" : Str).length = 4 := rfl
  have lr : ("ref" : Str).length = 3 := rfl
  rw [tt.eq_2]
  cases hd with
  | fn =>
    match as, kid with
    | [a, b], kid =>
      obtain ⟨a1, a2, a3⟩ := kid a (by simp)
      obtain ⟨b1, b2, b3⟩ := kid b (by simp)
      simp only [tts, tmk, tl, tls, nmL, brk, len_app, len_empty, l4, l1, r1]
      omega
    | [], _ => exact w1
    | [_], _ => exact w1
    | _ :: _ :: _ :: _, _ => exact w1
  | pair =>
    match as, kid with
    | [a, b], kid =>
      obtain ⟨a1, a2, a3⟩ := kid a (by simp)
      obtain ⟨b1, b2, b3⟩ := kid b (by simp)
      simp only [tts, tmk, tl, tls, nmL, brk, len_app, len_empty, l3, l1, r1]
      omega
    | [], _ => exact w1
    | [_], _ => exact w1
    | _ :: _ :: _ :: _, _ => exact w1
  | list =>
    match as, kid with
    | [a], kid =>
      obtain ⟨a1, a2, a3⟩ := kid a (by simp)
      simp only [tts, tmk, t1, tl, tls, nmL, brk, len_app, len_empty, ll, l1, r1]
      omega
    | [], _ => exact w1
    | _ :: _ :: _, _ => exact w1
  | ref =>
    match as, kid with
    | [a], kid =>
      obtain ⟨a1, a2, a3⟩ := kid a (by simp)
      simp only [tts, tmk, t1, tl, tls, nmL, brk, len_app, len_empty, lr, l1, r1]
      omega
    | [], _ => exact w1
    | _ :: _ :: _, _ => exact w1
  | data s =>
    have j := join_len (", " : Str) ((tts as).map T3.f)
    have l2 : (", " : Str).length = 2 := rfl
    have sm : (((tts as).map T3.f).map Str.length).sum + ((tts as).map T3.f).length * 2 ≤ tls as := by
      clear j ih w1
      have : ∀ l : List Kd, (∀ a ∈ l, (tt a).f.length ≤ tl a) → (((tts l).map T3.f).map Str.length).sum + ((tts l).map T3.f).length * 2 ≤ tls l := fun l => by
        induction l with
        | nil => intro _; exact Nat.zero_le _
        | cons a l ih =>
          intro hl
          have h1 := ih fun b hb => hl b (List.mem_cons_of_mem _ hb)
          have h2 := hl a List.mem_cons_self
          simp only [tts, tls, List.map_cons, List.sum_cons, List.length_cons] at h1 ⊢
          omega
      exact this as fun a ha => (kid a ha).1
    rw [l2] at j
    simp only [tmk, t1, tl, nmL, len_app, len_empty, l1, r1]
    omega
  | _ => exact w1
def ktext (k : Kd) : Str := (tt (rnum k)).f
def spLetters : ZSp := fun ds G Q _ => ∃ n : Int, ds = [.int n] ∧ 0 ≤ n ∧ n < 40 ∧ Q (.str (letters n)) G
structure TxOk (k : Kd) : Prop where
  wf_ : wf k
  lets_ : lets k
  len_ : tl k ≤ 1000000
  few : ∀ s ∈ inn k, (args s).length ≤ 1000
theorem TxOk.child {h : Hd} {as : List Kd} {a : Kd} (t : TxOk (.nd h as)) (m : a ∈ as) : TxOk a := ⟨(wf_nd.mp t.wf_).2 a m, lets_child t.lets_ m, Nat.le_trans (tl_child m) t.len_, fun s hs => t.few s (mem_inn.mpr (.inr ⟨a, m, hs⟩))⟩
def spTF (n : Nat) : ZSp := fun ds G Q _ => ∃ k : Kd, ds = [kd k] ∧ TxOk k ∧ (cc k).f ≤ n ∧ ∀ G', Ext G G' → Q (.str (tt k).f) G'
def spTP (n : Nat) : ZSp := fun ds G Q _ => ∃ k : Kd, ds = [kd k] ∧ TxOk k ∧ (cc k).p ≤ n ∧ ∀ G', Ext G G' → Q (.str (tt k).p) G'
def spTS (n : Nat) : ZSp := fun ds G Q _ => ∃ k : Kd, ds = [kd k] ∧ TxOk k ∧ (cc k).s ≤ n ∧ ∀ G', Ext G G' → Q (.str (tt k).s) G'
def spText : ZSp := fun ds G Q _ => ∃ (k : Kd) (W : List Int), ds = [kd k] ∧ wf k ∧ dep k < 40 ∧ (∀ s ∈ inn k, (args s).length ≤ 1000) ∧ (∀ x ∈ vars k, x ∈ W) ∧ W.length ≤ 1000 ∧ TxOk (rnum k) ∧ (cc (rnum k)).f ≤ 40 ∧ ∀ G', Ext G G' → Q (.str (ktext k)) G'
section
variable [τ0 : Tbl] {P : Program} {w : World} {K : PySem.W.Frag} {mg : Str → Option Value} {base : Heap} {CU CK : Addr}
theorem ok_Letters {f : Addr} {fd : FuncData} (FF : Fun K "letters_of" "letters_of" s_letters_of f fd) (T : Txt K mg CU CK) : FnOk P w K mg base (L2.CX P w) 1 f fd ["number"] (upSp K spLetters) :=
  z_fn FF sc_letters_of (fun ds G Q E h => by obtain ⟨_, rfl, _⟩ := h; rfl) fun bas cdv A outer s H E hr ds G Q E0 hE hz => by
    obtain ⟨n, rfl, h0, h1, hq⟩ := hz
    refine ⟨_, (zs_cons (z_set (i := 1) sc_letters_of.nd rfl (Or.inl rfl) (z_op zo_div (z_var 0) (z_callB zf_len (by rfl) T.z_len (by rfl) (za_cons (z_gstr (by rfl) T.g_KIND_LETTERS) za_nil)))) (zs_cons (z_ret (z_op zo_catS (z_ix (z_gstr (by rfl) T.g_KIND_LETTERS) (z_op zo_mod (z_var 0) (z_callB zf_len (by rfl) T.z_len (by rfl) (za_cons (z_gstr (by rfl) T.g_KIND_LETTERS) za_nil)))) (z_ifE (z_tcmp zo_gt (z_var 1) z_int) (z_callTy zf_strI (by rfl) T.z_str (by rfl) (za_cons (z_var 1) za_nil)) z_str))) zs_nil)), ?_⟩
    obtain ⟨m, rfl⟩ : ∃ m : Nat, n = (m : Int) := ⟨n.toNat, by omega⟩
    walk_at "zr"
    refine r_lenS (by decide +kernel) ?_
    have e26 : (("abcdefghijklmnopqrstuvwxyz" : Str).length : Int) = 26 := by decide +kernel
    rw [e26]
    refine ⟨⟨by decide, by decide⟩, ?_⟩
    walk_at "zr"
    refine r_lenS (by decide +kernel) ?_
    rw [e26]
    refine ⟨(by decide : (26 : Int) ≠ 0), ?_⟩
    dsimp only
    have em : (m : Int).fmod 26 = ((m % 26 : Nat) : Int) := by
      rw [Int.fmod_eq_emod_of_nonneg _ (by decide)]
      rfl
    have ed : (m : Int).fdiv 26 = (m : Int) / 26 := Int.fdiv_eq_ediv_of_nonneg _ (by decide)
    rw [em, ed]
    have lt : m % 26 < 26 := Nat.mod_lt _ (by decide)
    obtain ⟨c, hc⟩ : ∃ c, abc.cps.toList[m % 26]? = some c := by
      have : abc.cps.toList.length = 26 := by decide +kernel
      exact ⟨_, List.getElem?_eq_getElem (by omega)⟩
    have el : letters (m : Nat) = (⟨#[c]⟩ : Str) ++ (if ((m : Nat) : Int) / 26 > 0 then ((toString (((m : Nat) : Int) / 26) : String) : Str) else ("" : Str)) := by
      unfold letters
      rw [show ((m : Nat) : Int).toNat = m from rfl, hc]
    have ix : ∀ {R : DK}, R (.str ⟨#[c]⟩) G → dIx (.str "abcdefghijklmnopqrstuvwxyz") (.int ((m % 26 : Nat) : Int)) G R := fun {R} q => by
      refine ⟨by decide +kernel, ?_⟩
      rw [show atI ("abcdefghijklmnopqrstuvwxyz" : Str).cps.toList ((m % 26 : Nat) : Int) = some c from atI_nat hc]
      exact q
    refine ix ?_
    walk_at "zr"
    have sm : ∀ m < 40, (((toString (((m : Nat) : Int) / 26) : String) : Str)).length ≤ 20 := by decide +kernel
    refine r_dec (fun h => ?_) fun h => ?_
    · walk_at "zr"
      refine ⟨?_, ⟨?_, ?_⟩⟩
      · have : ((m : Int) / 26).natAbs ≤ 1 := by omega
        exact Nat.lt_of_le_of_lt (Nat.log2_le_self _) (by omega)
      · have := sm m (by omega)
        have e1 : (⟨#[c]⟩ : Str).length = 1 := rfl
        rw [e1]
        exact Nat.le_trans (Nat.add_le_add_left this 1) (by decide)
      · rw [el, if_pos h] at hq
        exact hq
    · walk_at "zr"
      refine ⟨?_, ?_⟩
      · have e1 : (⟨#[c]⟩ : Str).length = 1 := rfl
        rw [e1]
        decide +kernel
      · rw [el, if_neg h] at hq
        exact hq
end
end K05

namespace K05
open PySem PySem.Spec PyProof.Rows L2 Z
local macro_rules | `(tactic| walk_at "zr") => `(tactic| (repeat' (with_reducible first | refine r_asg ?_ | refine r_asgT ?_ | refine r_asgG ?_ | refine r_asg1 ?_ | refine r_if ?_ | refine r_if1 ?_ | refine r_drop ?_ | refine r_drop1 ?_ | refine r_ret ?_ | refine r_ret1 ?_ | refine r_retN ?_ | refine r_nx ?_ | refine r_nx1 ?_ | refine r_bk ?_ | refine r_ct ?_ | refine r_par ?_ | refine r_par1 ?_ | refine r_par3 ?_ | refine r_par31 ?_ | refine r_for ?_ | refine r_for1 ?_ | refine r_sfld ?_ | refine r_sfld1 ?_ | refine r_aug (by with_unfolding_all rfl) ?_ | refine r_aug1 (by with_unfolding_all rfl) ?_ | refine r_var (by with_unfolding_all rfl) ?_ | refine r_c ?_ | refine r_op ?_ | refine r_ifE ?_ | refine r_nil ?_ | refine r_cons ?_ | refine r_tup ?_ | refine r_lst ?_ | refine r_cb ?_ | refine r_call ?_ | refine r_test ?_ | refine r_not ?_ | refine r_and ?_ | refine r_or ?_ | refine r_andV ?_ | refine r_orV ?_ | refine r_notV ?_ | refine r_neg ?_ | refine r_bm ?_ | refine r_bm0 ?_ | refine r_sl ?_ | refine r_part ?_ | refine r_noP ?_ | refine r_chain ?_ | refine r_int2 ?_ | refine r_eqI ?_ | refine r_eqS ?_ | refine r_eqB ?_ | refine r_fInt ?_ | refine r_fIntB ?_ | refine r_fAbs ?_ | refine r_fMin ?_ | refine r_lenT ?_ | refine r_isNN ?_ | refine r_isNI ?_ | refine r_isNT ?_ | refine r_isNR ?_ | refine r_ixT0 ?_ | refine r_ixT1 ?_ | refine r_ixT2 ?_ | refine r_ixT3 ?_ | refine r_fld ?_ | refine r_kfld (by assumption) rfl ?_ | refine r_list ?_ | refine r_klist (by assumption) ?_ | refine r_tupI ?_ | refine r_ktupI ?_ | refine r_yes ?_ | refine r_kctI ?_ | refine r_rng1 ?_ | refine r_rng2 ?_ | refine r_enum ?_ | refine r_kenumT ?_ | refine r_kenum (by assumption) ?_ | refine r_fListT ?_ | refine r_fTupT ?_ | refine r_fListR (by assumption) ?_ | refine r_fTupR (by assumption) ?_ | refine r_lenR (by assumption) ?_ | refine r_rev ?_ | refine r_krevT ?_ | refine r_krev (by assumption) ?_ | refine r_setL ?_ | refine r_dget ?_ | refine r_lc0 ?_ | refine r_name ?_ | refine r_gtup (by with_unfolding_all rfl) ?_ | refine r_gcons ?_ | refine r_gnil ?_ | refine r_din ?_ | refine r_setd ?_ | refine r_ksetdA (by assumption) ?_ | refine r_keysI ?_ | refine r_kkeysI (by assumption) ?_ | refine r_dput ?_ | refine r_dput1 ?_ | refine r_dnewK ?_ | refine r_szc (by with_unfolding_all exact Nat.le_of_ble_eq_true rfl) ?_ | refine r_eqlen (by with_unfolding_all rfl) ?_ | refine r_ifT (by decide) ?_ | refine r_ifF (by decide) ?_ | refine r_inFT (b := false) rfl rfl (by decide) ?_ | refine r_inFT (b := true) rfl rfl (by decide) ?_ | refine r_lrng ?_)))
theorem fl_ok {x : Str} {n : Nat} (h : x.length ≤ n) (hn : n ≤ 2000000) : x.length ≤ sizeLine := Nat.le_trans h (Nat.le_trans hn (by decide))
theorem r_fmtS {te : DE} {ρ : ZSt} {G : Gp} {Q : DK} (h : te ρ G fun d G1 => match d with
  | .str y => y.length ≤ sizeLine ∧ Q (.str y) G1
  | .int i => i.natAbs.log2 < 1920 ∧ Q (.str (toString i)) G1
  | _ => False) : zFmt te ρ G Q := h
theorem r_js {t : DE} {ts : List DE} {acc : Str} {ρ : ZSt} {G : Gp} {Q : Str → Gp → Prop} (h : t ρ G fun d G1 => match d with
    | .str y => (acc ++ y).length ≤ sizeLine ∧ zJs ts (acc ++ y) ρ G1 Q
    | _ => False) : zJs (t :: ts) acc ρ G Q := h
theorem r_join {t : DE} {ts : List DE} {ρ : ZSt} {G : Gp} {Q : DK} (h : zJs (t :: ts) Str.empty ρ G fun y G1 => Q (.str y) G1) : zJoin (t :: ts) ρ G Q := h
section
variable [τ0 : Tbl] {P : Program} {w : World} {K : PySem.W.Frag} {mg : Str → Option Value} {base : Heap} {CU CK : Addr}
theorem st_Fn {f : Addr} {fd : FuncData} (FF : Fun K "function_text" "function_text" s_function_text f fd) (T : Txt K mg CU CK) {n : Nat} (D_function_text : Dfn P w K mg base "function_text" (n + 1) ["kind"] (spTF n)) (D_pair_text : Dfn P w K mg base "pair_text" (n + 1) ["kind"] (spTP n)) :
    FnOk P w K mg base (L2.CX P w) (n + 2) f fd ["kind"] (upSp K (spTF (n + 1))) :=
  z_fn FF sc_function_text (fun ds G Q E h => by obtain ⟨_, rfl, _⟩ := h; rfl) fun bas cdv A outer s H E hr ds G Q E0 hE hz => by
    obtain ⟨k, rfl, ok, hc, hq⟩ := hz
    refine ⟨_, (zs_cons (z_if (z_tcmp zo_eqF (z_ix (z_var 0) z_int) z_str) (zs_one (z_ret (z_joined (.cons (z_fmt (z_dc0 D_pair_text hr (by first | decide | omega) (by rfl) (za_cons (z_ix (z_var 0) z_int) za_nil))) (.cons z_str (.cons (z_fmt (z_dc0 D_function_text hr (by first | decide | omega) (by rfl) (za_cons (z_ix (z_var 0) z_int) za_nil))) .nil)))))) zs_nil) (zs_cons (z_ret (z_dc0 D_pair_text hr (by first | decide | omega) (by rfl) (za_cons (z_var 0) za_nil))) zs_nil)), ?_⟩
    have done : (tt k).p = (tt k).f → (cc k).p ≤ n → zSeq (zRet (zCall (spTP n) X0 (zCons (zVar 0) zNil))) zNext { nx := fun x G' => Q .non G', rt := Q } [some (kd k)] G := fun e h => by
      walk_at "zr"
      refine ⟨k, rfl, ok, h, fun G1 e1 => ?_⟩
      rw [e]
      exact hq G1 e1
    cases k with
    | any x =>
      rw [show kd (.any x) = .tup [.str "any", .int x] from rfl] at done ⊢
      walk_at "zr"
      have h3 : (3 : Nat) ≤ n + 1 := hc
      exact done rfl (by show 2 ≤ n; omega)
    | nd h as =>
      by_cases hf : h = .fn
      · subst hf
        match as, (wf_nd.mp ok.wf_).1 with
        | [a, b], _ =>
          have oa := ok.child (a := a) (by simp)
          have ob := ok.child (a := b) (by simp)
          have la := (tt_len a oa.lets_).2.1
          have lb := (tt_len b ob.lets_).1
          have ta := oa.len_
          have tb := ob.len_
          have hc : 1 + max (cc a).p (cc b).f ≤ n + 1 := hc
          rw [show kd (.nd .fn [a, b]) = .tup [.str "fun", kd a, kd b] from rfl]
          walk_at "zr"
          refine r_join ?_
          refine r_js ?_
          refine r_fmtS ?_
          walk_at "zr"
          refine ⟨a, rfl, oa, by omega, fun G1 e1 => ?_⟩
          refine ⟨fl_ok la (by omega), fl_ok (n := 1000000) (by rw [len_app, len_empty]; omega) (by omega), ?_⟩
          refine r_js ?_
          walk_at "zr"
          have l4 : (" -> " : Str).length = 4 := rfl
          refine ⟨fl_ok (n := 1000004) (by rw [len_app, len_app, len_empty, l4]; omega) (by omega), ?_⟩
          refine r_js ?_
          refine r_fmtS ?_
          walk_at "zr"
          refine ⟨b, rfl, ob, by omega, fun G2 e2 => ?_⟩
          refine ⟨fl_ok lb (by omega), fl_ok (n := 2000000) (by rw [len_app, len_app, len_app, len_empty, l4]; have := ok.len_; rw [tl.eq_2, tls, tls, tls] at this; omega) (by omega), ?_⟩
          exact hq G2 (e1.trans e2)
      · obtain ⟨w1, rest, ne, ek⟩ := kd_nd h as
        have ew := kd_word ek
        subst ew
        rw [ek] at done ⊢
        walk_at "zr"
        refine r_ndec (fun e => ?_) fun _ => ?_
        · exfalso
          cases h <;> first | exact hf rfl | exact absurd e (by simp only [word]; decide)
        · walk_at "zr"
          have h2 : (tt (.nd h as)).p = (tt (.nd h as)).f ∧ (cc (.nd h as)).p + 1 ≤ (cc (.nd h as)).f := by
            rw [tt.eq_2, cc.eq_2]
            cases h with
            | fn => exact absurd rfl hf
            | pair =>
              match as, (wf_nd.mp ok.wf_).1 with
              | [a, b], _ => exact ⟨rfl, by simp only [ccs, cmk]; omega⟩
            | list =>
              match as, (wf_nd.mp ok.wf_).1 with
              | [a], _ => exact ⟨rfl, by simp only [ccs, cmk]; omega⟩
            | ref =>
              match as, (wf_nd.mp ok.wf_).1 with
              | [a], _ => exact ⟨rfl, by simp only [ccs, cmk]; omega⟩
            | int =>
              match as, (wf_nd.mp ok.wf_).1 with
              | [], _ => exact ⟨rfl, by simp only [ccs, cmk]; omega⟩
            | bool =>
              match as, (wf_nd.mp ok.wf_).1 with
              | [], _ => exact ⟨rfl, by simp only [ccs, cmk]; omega⟩
            | unit =>
              match as, (wf_nd.mp ok.wf_).1 with
              | [], _ => exact ⟨rfl, by simp only [ccs, cmk]; omega⟩
            | data s => exact ⟨rfl, by simp only [cmk]; omega⟩
          exact done h2.1 (by omega)
theorem st_Pr {f : Addr} {fd : FuncData} (FF : Fun K "pair_text" "pair_text" s_pair_text f fd) (T : Txt K mg CU CK) {n : Nat} (D_pair_text : Dfn P w K mg base "pair_text" (n + 1) ["kind"] (spTP n)) (D_small_text : Dfn P w K mg base "small_text" (n + 1) ["kind"] (spTS n)) :
    FnOk P w K mg base (L2.CX P w) (n + 2) f fd ["kind"] (upSp K (spTP (n + 1))) :=
  z_fn FF sc_pair_text (fun ds G Q E h => by obtain ⟨_, rfl, _⟩ := h; rfl) fun bas cdv A outer s H E hr ds G Q E0 hE hz => by
    obtain ⟨k, rfl, ok, hc, hq⟩ := hz
    refine ⟨_, (zs_cons (z_if (z_tcmp zo_eqF (z_ix (z_var 0) z_int) z_str) (zs_one (z_ret (z_joined (.cons (z_fmt (z_dc0 D_small_text hr (by first | decide | omega) (by rfl) (za_cons (z_ix (z_var 0) z_int) za_nil))) (.cons z_str (.cons (z_fmt (z_dc0 D_pair_text hr (by first | decide | omega) (by rfl) (za_cons (z_ix (z_var 0) z_int) za_nil))) .nil)))))) zs_nil) (zs_cons (z_ret (z_dc0 D_small_text hr (by first | decide | omega) (by rfl) (za_cons (z_var 0) za_nil))) zs_nil)), ?_⟩
    have done : (tt k).s = (tt k).p → (cc k).s ≤ n → zSeq (zRet (zCall (spTS n) X0 (zCons (zVar 0) zNil))) zNext { nx := fun x G' => Q .non G', rt := Q } [some (kd k)] G := fun e h => by
      walk_at "zr"
      refine ⟨k, rfl, ok, h, fun G1 e1 => ?_⟩
      rw [e]
      exact hq G1 e1
    cases k with
    | any x =>
      rw [show kd (.any x) = .tup [.str "any", .int x] from rfl] at done ⊢
      walk_at "zr"
      have h3 : (2 : Nat) ≤ n + 1 := hc
      exact done rfl (by show 1 ≤ n; omega)
    | nd h as =>
      by_cases hf : h = .pair
      · subst hf
        match as, (wf_nd.mp ok.wf_).1 with
        | [a, b], _ =>
          have oa := ok.child (a := a) (by simp)
          have ob := ok.child (a := b) (by simp)
          have la := (tt_len a oa.lets_).2.2
          have lb := (tt_len b ob.lets_).2.1
          have ta := oa.len_
          have tb := ob.len_
          have hc : 1 + max (cc a).s (cc b).p ≤ n + 1 := hc
          rw [show kd (.nd .pair [a, b]) = .tup [.str "pair", kd a, kd b] from rfl]
          walk_at "zr"
          refine r_join ?_
          refine r_js ?_
          refine r_fmtS ?_
          walk_at "zr"
          refine ⟨a, rfl, oa, by omega, fun G1 e1 => ?_⟩
          refine ⟨fl_ok la (by omega), fl_ok (n := 1000000) (by rw [len_app, len_empty]; omega) (by omega), ?_⟩
          refine r_js ?_
          walk_at "zr"
          have l4 : (" * " : Str).length = 3 := rfl
          refine ⟨fl_ok (n := 1000004) (by rw [len_app, len_app, len_empty, l4]; omega) (by omega), ?_⟩
          refine r_js ?_
          refine r_fmtS ?_
          walk_at "zr"
          refine ⟨b, rfl, ob, by omega, fun G2 e2 => ?_⟩
          refine ⟨fl_ok lb (by omega), fl_ok (n := 2000000) (by rw [len_app, len_app, len_app, len_empty, l4]; have := ok.len_; rw [tl.eq_2, tls, tls, tls] at this; omega) (by omega), ?_⟩
          exact hq G2 (e1.trans e2)
      · obtain ⟨w1, rest, ne, ek⟩ := kd_nd h as
        have ew := kd_word ek
        subst ew
        rw [ek] at done ⊢
        walk_at "zr"
        refine r_ndec (fun e => ?_) fun _ => ?_
        · exfalso
          cases h <;> first | exact hf rfl | exact absurd e (by simp only [word]; decide)
        · walk_at "zr"
          have h2 : (tt (.nd h as)).s = (tt (.nd h as)).p ∧ (cc (.nd h as)).s + 1 ≤ (cc (.nd h as)).p := by
            rw [tt.eq_2, cc.eq_2]
            cases h with
            | pair => exact absurd rfl hf
            | fn =>
              match as, (wf_nd.mp ok.wf_).1 with
              | [a, b], _ => exact ⟨rfl, by simp only [ccs, cmk]; omega⟩
            | list =>
              match as, (wf_nd.mp ok.wf_).1 with
              | [a], _ => exact ⟨rfl, by simp only [ccs, cmk]; omega⟩
            | ref =>
              match as, (wf_nd.mp ok.wf_).1 with
              | [a], _ => exact ⟨rfl, by simp only [ccs, cmk]; omega⟩
            | int =>
              match as, (wf_nd.mp ok.wf_).1 with
              | [], _ => exact ⟨rfl, by simp only [ccs, cmk]; omega⟩
            | bool =>
              match as, (wf_nd.mp ok.wf_).1 with
              | [], _ => exact ⟨rfl, by simp only [ccs, cmk]; omega⟩
            | unit =>
              match as, (wf_nd.mp ok.wf_).1 with
              | [], _ => exact ⟨rfl, by simp only [ccs, cmk]; omega⟩
            | data s => exact ⟨rfl, by simp only [cmk]; omega⟩
          exact done h2.1 (by omega)
theorem st_Sm {f : Addr} {fd : FuncData} (FF : Fun K "small_text" "small_text" s_small_text f fd) (T : Txt K mg CU CK) {n : Nat} (D_function_text : Dfn P w K mg base "function_text" (n + 1) ["kind"] (spTF n)) (D_letters_of : Dfn P w K mg base "letters_of" 1 ["number"] spLetters) :
    FnOk P w K mg base (L2.CX P w) (n + 2) f fd ["kind"] (upSp K (spTS (n + 1))) :=
  z_fn FF sc_small_text (fun ds G Q E h => by obtain ⟨_, rfl, _⟩ := h; rfl) fun bas cdv A outer s H E hr ds G Q E0 hE hz => by
    obtain ⟨k, rfl, ok, hc, hq⟩ := hz
    refine ⟨_, (zs_cons (z_set (i := 1) sc_small_text.nd rfl (Or.inl rfl) (z_ix (z_var 0) z_int)) (zs_cons (z_if (z_tcmp zo_inF (z_var 1) (z_tup (za_cons z_str (za_cons z_str za_nil)))) (zs_one (z_ret (z_joined (.cons z_str (.cons (z_fmt (z_dc0 D_function_text hr (by first | decide | omega) (by rfl) (za_cons (z_var 0) za_nil))) (.cons z_str .nil)))))) zs_nil) (zs_cons (z_if (z_tcmp zo_eqF (z_var 1) z_str) (zs_one (z_ret (z_joined (.cons z_str (.cons (z_fmt (z_dc0 D_letters_of hr (by first | decide | omega) (by rfl) (za_cons (z_ix (z_var 0) z_int) za_nil))) .nil))))) zs_nil) (zs_cons (z_if (z_tcmp zo_eqF (z_var 1) z_str) (zs_one (z_ret (z_joined (.cons (z_fmt (z_ix (z_var 0) z_int)) (.cons z_str (.cons (z_fmt (z_bm PySem.F.plainAttrs_str PySem.F.slot_str_join PySem.F.type_str_join zm_join z_str (za_cons (z_lc (own := [("part", 2)]) rfl sc_small_text.nd (zi_tup (z_ix (z_var 0) z_int)) (blkOk_by (by rfl)) (grel_name (by decide)) (fun _ _ _ _ _ => (pg_name (i := 2) sc_small_text.nd rfl (Or.inl rfl))) (fun _ _ _ _ _ => zts_nil) (fun _ _ _ _ _ => (z_dc0 D_function_text hr (by first | decide | omega) (by rfl) (za_cons (z_var 2) za_nil)))) za_nil))) (.cons z_str .nil))))))) zs_nil) (zs_cons (z_if (z_tcmp zo_inF (z_var 1) (z_tup (za_cons z_str (za_cons z_str za_nil)))) (zs_one (z_ret (z_joined (.cons (z_fmt (z_var 1)) (.cons z_str (.cons (z_fmt (z_dc0 D_function_text hr (by first | decide | omega) (by rfl) (za_cons (z_ix (z_var 0) z_int) za_nil))) (.cons z_str .nil))))))) zs_nil) (zs_cons (z_ret (z_var 1)) zs_nil)))))), ?_⟩
    have l1 : ("(" : Str).length = 1 := rfl
    have r1 : (")" : Str).length = 1 := rfl
    have tk := ok.len_
    cases k with
    | any x =>
      rw [show kd (.any x) = .tup [.str "any", .int x] from rfl]
      walk_at "zr"
      refine r_join ?_
      refine r_js ?_
      walk_at "zr"
      refine ⟨by decide +kernel, ?_⟩
      refine r_js ?_
      refine r_fmtS ?_
      walk_at "zr"
      have lx := ok.lets_ x (by simp [vars])
      have ll := letters_len lx
      refine ⟨x, rfl, lx.1, lx.2, ?_⟩
      refine ⟨fl_ok ll (by omega), fl_ok (n := 100) (by rw [len_app, len_app, len_empty]; have : ("'" : Str).length = 1 := rfl; omega) (by omega), ?_⟩
      exact hq G (Ext.refl _)
    | nd h as =>
      have kid : ∀ a ∈ as, (tt a).f.length ≤ tl a ∧ (tt a).p.length ≤ tl a ∧ (tt a).s.length ≤ tl a := fun a ha => tt_len a (ok.child ha).lets_
      have big : h = .fn ∨ h = .pair → (tt (.nd h as)).s = Str.empty ++ ("(" : Str) ++ (tt (.nd h as)).f ++ (")" : Str) ∧ (cc (.nd h as)).f + 1 ≤ (cc (.nd h as)).s := fun c => by
        rw [tt.eq_2, cc.eq_2]
        rcases c with rfl | rfl
        · match as, (wf_nd.mp ok.wf_).1 with
          | [a, b], _ => exact ⟨rfl, by simp only [ccs, cmk]; omega⟩
        · match as, (wf_nd.mp ok.wf_).1 with
          | [a, b], _ => exact ⟨rfl, by simp only [ccs, cmk]; omega⟩
      cases h with
      | fn =>
        obtain ⟨b1, b2⟩ := big (.inl rfl)
        have lf := (tt_len _ ok.lets_).1
        rw [show kd (.nd .fn as) = .tup (.str "fun" :: kds as) from rfl]
        walk_at "zr"
        refine r_join ?_
        refine r_js ?_
        walk_at "zr"
        refine ⟨by decide +kernel, ?_⟩
        refine r_js ?_
        refine r_fmtS ?_
        walk_at "zr"
        refine ⟨.nd .fn as, rfl, ok, by omega, fun G1 e1 => ?_⟩
        refine ⟨fl_ok lf (by omega), fl_ok (n := 1000001) (by rw [len_app, len_app, len_empty, l1]; omega) (by omega), ?_⟩
        refine r_js ?_
        walk_at "zr"
        refine ⟨fl_ok (n := 1000002) (by rw [len_app, len_app, len_app, len_empty, l1, r1]; omega) (by omega), ?_⟩
        rw [b1] at hq
        exact hq G1 e1
      | pair =>
        obtain ⟨b1, b2⟩ := big (.inr rfl)
        have lf := (tt_len _ ok.lets_).1
        rw [show kd (.nd .pair as) = .tup (.str "pair" :: kds as) from rfl]
        walk_at "zr"
        refine r_join ?_
        refine r_js ?_
        walk_at "zr"
        refine ⟨by decide +kernel, ?_⟩
        refine r_js ?_
        refine r_fmtS ?_
        walk_at "zr"
        refine ⟨.nd .pair as, rfl, ok, by omega, fun G1 e1 => ?_⟩
        refine ⟨fl_ok lf (by omega), fl_ok (n := 1000001) (by rw [len_app, len_app, len_empty, l1]; omega) (by omega), ?_⟩
        refine r_js ?_
        walk_at "zr"
        refine ⟨fl_ok (n := 1000002) (by rw [len_app, len_app, len_app, len_empty, l1, r1]; omega) (by omega), ?_⟩
        rw [b1] at hq
        exact hq G1 e1
      | data s =>
        have ls : s.length ≤ 1000000 := by rw [tl.eq_2, nmL] at tk; omega
        have c1 : ∀ a ∈ as, (cc a).f ≤ n := fun a ha => by
          have h1 : 1 + ((ccs as).map C3.f).foldr max 0 ≤ n + 1 := hc
          have h2 := le_max0 (List.mem_map.mpr ⟨_, ccs_mem ha, rfl⟩ : (cc a).f ∈ (ccs as).map C3.f)
          omega
        have al : as.length ≤ 1000 := by
          by_cases e : as = []
          · rw [e]; exact Nat.zero_le _
          · exact ok.few _ (mem_inn.mpr (.inl ⟨e, rfl⟩))
        have sm : (((tts as).map T3.f).map Str.length).sum + ((tts as).map T3.f).length * 2 ≤ tls as := by
          have : ∀ l : List Kd, (∀ a ∈ l, (tt a).f.length ≤ tl a) → (((tts l).map T3.f).map Str.length).sum + ((tts l).map T3.f).length * 2 ≤ tls l := fun l => by
            induction l with
            | nil => intro _; exact Nat.zero_le _
            | cons a l ih =>
              intro hl
              have h1 := ih fun b hb => hl b (List.mem_cons_of_mem _ hb)
              have h2 := hl a List.mem_cons_self
              simp only [tts, tls, List.map_cons, List.sum_cons, List.length_cons] at h1 ⊢
              omega
          exact this as fun a ha => (kid a ha).1
        have j := join_len (", " : Str) ((tts as).map T3.f)
        have l2 : (", " : Str).length = 2 := rfl
        rw [l2] at j
        have tk2 : tls as + s.length ≤ 1000000 := by rw [tl.eq_2, nmL] at tk; omega
        rw [show kd (.nd (.data s) as) = .tup [.str "data", .str s, .tup (kds as)] from rfl]
        walk_at "zr"
        refine r_join ?_
        refine r_js ?_
        refine r_fmtS ?_
        walk_at "zr"
        refine ⟨fl_ok ls (by omega), fl_ok (n := 1000000) (by rw [len_app, len_empty]; omega) (by omega), ?_⟩
        refine r_js ?_
        walk_at "zr"
        refine ⟨fl_ok (n := 1000001) (by rw [len_app, len_app, len_empty, l1]; omega) (by omega), ?_⟩
        refine r_js ?_
        refine r_fmtS ?_
        walk_at "zr"
        refine ⟨by trivial, ?_⟩
        walk_at "zr"
        refine ⟨fun i acc G' => Ext G G' ∧ acc = (((tts as).map T3.f).take i).map D.str, ⟨Ext.refl _, rfl⟩, ?_, ?_⟩
        · rintro i d acc G' hi ⟨e1, rfl⟩
          obtain ⟨a, ha, rfl⟩ := kds_get hi
          have am := List.mem_of_getElem? ha
          refine ⟨trivial, big_lt (by rw [List.length_map, List.length_take, List.length_map, tts_map, List.length_map]; omega), ?_⟩
          walk_at "zr"
          refine ⟨a, rfl, ok.child am, c1 a am, fun G2 e2 => ?_⟩
          refine ⟨e1.trans e2, ?_⟩
          rw [List.take_add_one, List.map_append, tts_map, List.getElem?_map, List.getElem?_map, ha]
          rfl
        · rintro acc G' ⟨e1, rfl⟩
          refine ⟨trivial, fun p G2 np h2 => ?_⟩
          have h2i := h2.is
          have lt : (kds as).length = ((tts as).map T3.f).length := by rw [kds_len, tts_map, List.length_map, List.length_map]
          rw [lt, List.take_length] at h2i
          walk_at "zr"
          refine ⟨_, h2i, by rw [l2]; show (((tts as).map T3.f).map Str.length).sum + ((tts as).map T3.f).length * 2 ≤ _; omega, ?_⟩
          refine ⟨fl_ok j (by omega), fl_ok (n := 1000010) (by rw [len_app, len_app, len_app, len_empty, l1]; omega) (by omega), ?_⟩
          refine r_js ?_
          walk_at "zr"
          refine ⟨fl_ok (n := 1000020) (by rw [len_app, len_app, len_app, len_app, len_empty, l1, r1]; omega) (by omega), ?_⟩
          exact hq G2 (e1.trans (h2.ext np))
      | list =>
        match as, (wf_nd.mp ok.wf_).1 with
        | [a], _ =>
          have oa := ok.child (a := a) (by simp)
          have la := (tt_len a oa.lets_).1
          have ta := oa.len_
          have hc : 1 + max (cc a).f 0 ≤ n + 1 := hc
          have l4 : ("list" : Str).length = 4 := rfl
          rw [show kd (.nd .list [a]) = .tup [.str "list", kd a] from rfl]
          walk_at "zr"
          refine r_join ?_
          refine r_js ?_
          refine r_fmtS ?_
          walk_at "zr"
          refine ⟨by decide +kernel, by decide +kernel, ?_⟩
          refine r_js ?_
          walk_at "zr"
          refine ⟨by decide +kernel, ?_⟩
          refine r_js ?_
          refine r_fmtS ?_
          walk_at "zr"
          refine ⟨a, rfl, oa, by omega, fun G1 e1 => ?_⟩
          refine ⟨fl_ok la (by omega), fl_ok (n := 1000010) (by rw [len_app, len_app, len_app, len_empty, l1, l4]; omega) (by omega), ?_⟩
          refine r_js ?_
          walk_at "zr"
          refine ⟨fl_ok (n := 1000020) (by rw [len_app, len_app, len_app, len_app, len_empty, l1, r1, l4]; omega) (by omega), ?_⟩
          exact hq G1 e1
      | ref =>
        match as, (wf_nd.mp ok.wf_).1 with
        | [a], _ =>
          have oa := ok.child (a := a) (by simp)
          have la := (tt_len a oa.lets_).1
          have ta := oa.len_
          have hc : 1 + max (cc a).f 0 ≤ n + 1 := hc
          have l4 : ("ref" : Str).length = 3 := rfl
          rw [show kd (.nd .ref [a]) = .tup [.str "ref", kd a] from rfl]
          walk_at "zr"
          refine r_join ?_
          refine r_js ?_
          refine r_fmtS ?_
          walk_at "zr"
          refine ⟨by decide +kernel, by decide +kernel, ?_⟩
          refine r_js ?_
          walk_at "zr"
          refine ⟨by decide +kernel, ?_⟩
          refine r_js ?_
          refine r_fmtS ?_
          walk_at "zr"
          refine ⟨a, rfl, oa, by omega, fun G1 e1 => ?_⟩
          refine ⟨fl_ok la (by omega), fl_ok (n := 1000010) (by rw [len_app, len_app, len_app, len_empty, l1, l4]; omega) (by omega), ?_⟩
          refine r_js ?_
          walk_at "zr"
          refine ⟨fl_ok (n := 1000020) (by rw [len_app, len_app, len_app, len_app, len_empty, l1, r1, l4]; omega) (by omega), ?_⟩
          exact hq G1 e1
      | int =>
        match as, (wf_nd.mp ok.wf_).1 with
        | [], _ =>
          rw [show kd (.nd .int []) = .tup [.str "int"] from rfl]
          walk_at "zr"
          exact hq G (Ext.refl _)
      | bool =>
        match as, (wf_nd.mp ok.wf_).1 with
        | [], _ =>
          rw [show kd (.nd .bool []) = .tup [.str "bool"] from rfl]
          walk_at "zr"
          exact hq G (Ext.refl _)
      | unit =>
        match as, (wf_nd.mp ok.wf_).1 with
        | [], _ =>
          rw [show kd (.nd .unit []) = .tup [.str "unit"] from rfl]
          walk_at "zr"
          exact hq G (Ext.refl _)
theorem cc_pos : ∀ k : Kd, 1 ≤ (cc k).f ∧ 1 ≤ (cc k).p ∧ 1 ≤ (cc k).s := fun k => by
  cases k with
  | any n => exact ⟨(by decide : 1 ≤ 3), (by decide : 1 ≤ 2), (by decide : 1 ≤ 1)⟩
  | nd h as =>
    rw [cc.eq_2]
    cases h <;> (generalize ccs as = l; match l with
      | [] => exact ⟨by simp only [cmk]; omega, by simp only [cmk]; omega, by simp only [cmk]; omega⟩
      | [_] => exact ⟨by simp only [cmk]; omega, by simp only [cmk]; omega, by simp only [cmk]; omega⟩
      | [_, _] => exact ⟨by simp only [cmk]; omega, by simp only [cmk]; omega, by simp only [cmk]; omega⟩
      | _ :: _ :: _ :: _ => exact ⟨by simp only [cmk]; omega, by simp only [cmk]; omega, by simp only [cmk]; omega⟩)
theorem ok_Texts {f g h : Addr} {fd gd hd : FuncData} (FF : Fun K "function_text" "function_text" s_function_text f fd) (FP : Fun K "pair_text" "pair_text" s_pair_text g gd) (FS : Fun K "small_text" "small_text" s_small_text h hd) (T : Txt K mg CU CK)
    (D_letters_of : Dfn P w K mg base "letters_of" 1 ["number"] spLetters) (s1 : ∀ {j : Nat} {z : ZSp}, FnOk P w K mg base (L2.CX P w) j f fd ["kind"] (upSp K z) → Dfn P w K mg base "function_text" j ["kind"] z)
    (s2 : ∀ {j : Nat} {z : ZSp}, FnOk P w K mg base (L2.CX P w) j g gd ["kind"] (upSp K z) → Dfn P w K mg base "pair_text" j ["kind"] z) (s3 : ∀ {j : Nat} {z : ZSp}, FnOk P w K mg base (L2.CX P w) j h hd ["kind"] (upSp K z) → Dfn P w K mg base "small_text" j ["kind"] z) :
    ∀ n, Dfn P w K mg base "function_text" (n + 1) ["kind"] (spTF n) ∧ Dfn P w K mg base "pair_text" (n + 1) ["kind"] (spTP n) ∧ Dfn P w K mg base "small_text" (n + 1) ["kind"] (spTS n)
  | 0 => ⟨s1 (fn_no fun ds G Q E h => by obtain ⟨k, _, _, h, _⟩ := h; have := cc_pos k; omega), s2 (fn_no fun ds G Q E h => by obtain ⟨k, _, _, h, _⟩ := h; have := cc_pos k; omega), s3 (fn_no fun ds G Q E h => by obtain ⟨k, _, _, h, _⟩ := h; have := cc_pos k; omega)⟩
  | n + 1 => by
    obtain ⟨d1, d2, d3⟩ := ok_Texts FF FP FS T D_letters_of s1 s2 s3 n
    exact ⟨s1 (st_Fn FF T d1 d2), s2 (st_Pr FP T d2 d3), s3 (st_Sm FS T d1 D_letters_of)⟩
theorem ok_KText {f : Addr} {fd : FuncData} (FF : Fun K "kind_text" "kind_text" s_kind_text f fd) (T : Txt K mg CU CK) (D_renumbered : Dfn P w K mg base "renumbered" 44 ["kind"] spRenum) (D_function_text : Dfn P w K mg base "function_text" 41 ["kind"] (spTF 40)) :
    FnOk P w K mg base (L2.CX P w) 45 f fd ["kind"] (upSp K spText) :=
  z_fn FF sc_kind_text (fun ds G Q E h => by obtain ⟨_, _, rfl, _⟩ := h; rfl) fun bas cdv A outer s H E hr ds G Q E0 hE hz => by
    obtain ⟨k, W, rfl, hw, hd, few, hv, lW, ok, hc, hq⟩ := hz
    refine ⟨_, (zs_one (z_ret (z_dc0 D_function_text hr (by first | decide | omega) (by rfl) (za_cons (z_dc0 D_renumbered hr (by first | decide | omega) (by rfl) (za_cons (z_var 0) za_nil)) za_nil)))), ?_⟩
    walk_at "zr"
    refine ⟨k, W, rfl, hw, hd, few, hv, lW, fun G1 e1 => ?_⟩
    walk_at "zr"
    refine ⟨rnum k, rfl, ok, hc, fun G2 e2 => ?_⟩
    walk_at "zr"
    exact hq G2 (e1.trans e2)
end
end K05

namespace K05
open PySem PySem.Spec PyProof.Rows L2 Z
local macro_rules | `(tactic| walk_at "zr") => `(tactic| (repeat' (with_reducible first | refine r_asg ?_ | refine r_asgT ?_ | refine r_asgG ?_ | refine r_asg1 ?_ | refine r_if ?_ | refine r_if1 ?_ | refine r_drop ?_ | refine r_drop1 ?_ | refine r_ret ?_ | refine r_ret1 ?_ | refine r_retN ?_ | refine r_nx ?_ | refine r_nx1 ?_ | refine r_bk ?_ | refine r_ct ?_ | refine r_par ?_ | refine r_par1 ?_ | refine r_par3 ?_ | refine r_par31 ?_ | refine r_for ?_ | refine r_for1 ?_ | refine r_sfld ?_ | refine r_sfld1 ?_ | refine r_aug (by with_unfolding_all rfl) ?_ | refine r_aug1 (by with_unfolding_all rfl) ?_ | refine r_var (by with_unfolding_all rfl) ?_ | refine r_c ?_ | refine r_op ?_ | refine r_ifE ?_ | refine r_nil ?_ | refine r_cons ?_ | refine r_tup ?_ | refine r_lst ?_ | refine r_cb ?_ | refine r_call ?_ | refine r_test ?_ | refine r_not ?_ | refine r_and ?_ | refine r_or ?_ | refine r_andV ?_ | refine r_orV ?_ | refine r_notV ?_ | refine r_neg ?_ | refine r_bm ?_ | refine r_bm0 ?_ | refine r_sl ?_ | refine r_part ?_ | refine r_noP ?_ | refine r_chain ?_ | refine r_int2 ?_ | refine r_eqI ?_ | refine r_eqS ?_ | refine r_eqB ?_ | refine r_fInt ?_ | refine r_fIntB ?_ | refine r_fAbs ?_ | refine r_fMin ?_ | refine r_lenT ?_ | refine r_isNN ?_ | refine r_isNI ?_ | refine r_isNT ?_ | refine r_isNR ?_ | refine r_ixT0 ?_ | refine r_ixT1 ?_ | refine r_ixT2 ?_ | refine r_ixT3 ?_ | refine r_fld ?_ | refine r_kfld (by assumption) rfl ?_ | refine r_list ?_ | refine r_klist (by assumption) ?_ | refine r_tupI ?_ | refine r_ktupI ?_ | refine r_yes ?_ | refine r_kctI ?_ | refine r_rng1 ?_ | refine r_rng2 ?_ | refine r_enum ?_ | refine r_kenumT ?_ | refine r_kenum (by assumption) ?_ | refine r_fListT ?_ | refine r_fTupT ?_ | refine r_fListR (by assumption) ?_ | refine r_fTupR (by assumption) ?_ | refine r_lenR (by assumption) ?_ | refine r_rev ?_ | refine r_krevT ?_ | refine r_krev (by assumption) ?_ | refine r_setL ?_ | refine r_dget ?_ | refine r_lc0 ?_ | refine r_name ?_ | refine r_gtup (by with_unfolding_all rfl) ?_ | refine r_gcons ?_ | refine r_gnil ?_ | refine r_din ?_ | refine r_setd ?_ | refine r_ksetdA (by assumption) ?_ | refine r_keysI ?_ | refine r_kkeysI (by assumption) ?_ | refine r_dput ?_ | refine r_dput1 ?_ | refine r_dnewK ?_ | refine r_szc (by with_unfolding_all exact Nat.le_of_ble_eq_true rfl) ?_ | refine r_eqlen (by with_unfolding_all rfl) ?_ | refine r_ifT (by decide) ?_ | refine r_ifF (by decide) ?_ | refine r_inFT (b := false) rfl rfl (by decide) ?_ | refine r_inFT (b := true) rfl rfl (by decide) ?_ | refine r_lrng ?_)))
/-! ### dice -/
def isDice (m : MO) : Prop := ∃ x y f : Int, m = .lst [.int x, .int y, .int f]
structure Rolled (a : Addr) (G G' : Gp) : Prop where
  dice : ∃ m, G' a = some m ∧ isDice m
  other : Exb a G G'
theorem Rolled.trans {a : Addr} {G G1 G2 : Gp} (h : Rolled a G G1) (k : Rolled a G1 G2) : Rolled a G G2 := ⟨k.dice, h.other.trans k.other⟩
theorem Rolled.new {a p : Addr} {G G1 G2 : Gp} {m : MO} (h : Rolled a G G1) (n : G1 p = none) (k : At G1 p m G2) : Rolled a G G2 := by
  obtain ⟨d, e, i⟩ := h.dice
  refine ⟨⟨d, k.ext n _ _ e, i⟩, h.other.trans (k.ext n).exb⟩
theorem Rolled.start {a : Addr} {G : Gp} {m : MO} (h : G a = some m) (i : isDice m) : Rolled a G G := ⟨⟨m, h, i⟩, Exb.refl a G⟩
theorem Rolled.ext {a : Addr} {G G1 G2 : Gp} (h : Rolled a G G1) (k : Ext G1 G2) : Rolled a G G2 := by
  obtain ⟨d, e, i⟩ := h.dice
  exact ⟨⟨d, k _ _ e, i⟩, h.other.trans k.exb⟩
def spDice : ZSp := fun ds G Q _ => ∃ i, ds = [.int i] ∧ ∀ p m G', G p = none → isDice m → At G p m G' → Q (.ref p) G'
def spRoll : ZSp := fun ds G Q _ => ∃ a n m, ds = [.ref a, .int n] ∧ G a = some m ∧ isDice m ∧ 1 ≤ n ∧ n < 1073741824 ∧ ∀ r G', 0 ≤ r → r < n → Rolled a G G' → Q (.int r) G'
theorem run_roll {ρ : ZSt} {G : Gp} {Q : DK} {tA : DA} {a : Addr} {n : Int} {m : MO} (hA : ∀ R, tA ρ G R = R [.ref a, .int n] G) (ha : G a = some m) (hi : isDice m) (h1 : 1 ≤ n) (h2 : n < 1073741824) (hq : ∀ r G', 0 ≤ r → r < n → Rolled a G G' → Q (.int r) G') : zCall spRoll X0 tA ρ G Q := by
  simp only [zCall, hA]
  exact ⟨a, n, m, rfl, ha, hi, h1, h2, hq⟩
def isScript (G : Gp) (sD : D) (ns : List Int) : Prop := sD = .cl (ns.map D.int) ∨ ∃ a, sD = .ref a ∧ G a = some (.lst (ns.map D.int))
def spRounds : ZSp := fun ds G Q _ => ∃ (sD : D) (ns : List Int), ds = [sD, .int 1] ∧ isScript G sD ns ∧ ∀ q d m G', Ext G G' → G' q = some (.lst [.ref d]) → G' d = some m → isDice m → q ≠ d → Q (.ref q) G'

theorem roll_at {d : Addr} {n : Int} {m : MO} {G : Gp} {R : DK} {E : XKz} (ha : G d = some m) (hi : isDice m) (N : Nat) (hn : n = (N : Int)) (h1 : 1 ≤ N) (h2 : N < 1073741824) (q : ∀ (k : Nat) G', k < N → Rolled d G G' → R (.int (k : Int)) G') : spRoll [.ref d, .int n] G R E := by
  refine ⟨d, n, m, rfl, ha, hi, by omega, by omega, fun r G' r0 r1 h => ?_⟩
  obtain ⟨k, rfl⟩ := Int.eq_ofNat_of_zero_le r0
  exact q k G' (by omega) h
theorem Rolled.at_ {d b : Addr} {G G' : Gp} {x : MO} (h : Rolled d G G') (n : b ≠ d) (q : G b = some x) : G' b = some x := h.other b x n q
/-! ### a drawn kind -/
def base (h : Hd) : Prop := h = .int ∨ h = .bool ∨ h = .unit ∨ h = .data "shape"
def one1 (h : Hd) : Prop := h = .list ∨ h = .ref ∨ h = .data "tree" ∨ h = .data "box"
def two2 (h : Hd) : Prop := h = .fn ∨ h = .pair
inductive Dr (m : Nat) : Nat → Kd → Prop
  | any {n : Nat} {x : Nat} : x < m → Dr m n (.any (x : Int))
  | leaf {n : Nat} {h : Hd} : base h → Dr m n (.nd h [])
  | uno {n : Nat} {h : Hd} {a : Kd} : one1 h → Dr m n a → Dr m (n + 1) (.nd h [a])
  | duo {n : Nat} {h : Hd} {a b : Kd} : two2 h → Dr m n a → Dr m n b → Dr m (n + 1) (.nd h [a, b])
theorem Dr.wf_ {m n : Nat} {k : Kd} (d : Dr m n k) : wf k := by
  induction d with
  | any _ => trivial
  | leaf h =>
    refine wf_nd.mpr ⟨?_, fun a ha => (by cases ha)⟩
    rcases h with rfl | rfl | rfl | rfl <;> first | rfl | exact (by decide +kernel : PyData.strOk "shape" = true)
  | uno h _ ih =>
    refine wf_nd.mpr ⟨?_, fun a ha => by rw [List.mem_singleton.mp ha]; exact ih⟩
    rcases h with rfl | rfl | rfl | rfl <;> first | rfl | exact (by decide +kernel : PyData.strOk "tree" = true) | exact (by decide +kernel : PyData.strOk "box" = true)
  | duo h _ _ ih1 ih2 =>
    refine wf_nd.mpr ⟨?_, fun a ha => by
      rcases List.mem_cons.mp ha with rfl | ha
      · exact ih1
      · rw [List.mem_singleton.mp ha]; exact ih2⟩
    rcases h with rfl | rfl <;> rfl
theorem Dr.dep_ {m n : Nat} {k : Kd} (d : Dr m n k) : dep k ≤ n := by
  induction d with
  | any _ => exact Nat.zero_le _
  | leaf h => exact Nat.zero_le _
  | uno h _ ih => rw [dep, deps, deps]; omega
  | duo h _ _ ih1 ih2 => rw [dep, deps, deps, deps]; omega
theorem Dr.few {m n : Nat} {k : Kd} (d : Dr m n k) : ∀ s ∈ inn k, ∃ h as, s = .nd h as ∧ as.length ≤ 2 := by
  induction d with
  | any _ => intro s hs; cases hs
  | leaf h => intro s hs; cases hs
  | uno h _ ih =>
    intro s hs
    rcases mem_inn.mp hs with ⟨_, e⟩ | ⟨a, ha, hs⟩
    · exact ⟨_, _, e, by simp⟩
    · rw [List.mem_singleton.mp ha] at hs; exact ih s hs
  | duo h _ _ ih1 ih2 =>
    intro s hs
    rcases mem_inn.mp hs with ⟨_, e⟩ | ⟨a, ha, hs⟩
    · exact ⟨_, _, e, by simp⟩
    · rcases List.mem_cons.mp ha with e | ha
      · rw [e] at hs; exact ih1 s hs
      · rw [List.mem_singleton.mp ha] at hs; exact ih2 s hs
theorem Dr.args_ {m n : Nat} {k : Kd} (d : Dr m n k) : ∀ s ∈ inn k, (args s).length ≤ 1000 := fun s hs => by
  obtain ⟨h, as, rfl, l⟩ := d.few s hs
  show as.length ≤ 1000
  omega
theorem Dr.var_ {m n : Nat} {k : Kd} (d : Dr m n k) : ∀ x ∈ vars k, ∃ i : Nat, i < m ∧ x = i := by
  induction d with
  | @any n x h => intro y hy; rw [vars, List.mem_singleton] at hy; exact ⟨x, h, hy⟩
  | leaf h => intro y hy; obtain ⟨a, ha, _⟩ := vars_nd.mp hy; cases ha
  | uno h _ ih => intro y hy; obtain ⟨a, ha, hy⟩ := vars_nd.mp hy; rw [List.mem_singleton.mp ha] at hy; exact ih y hy
  | duo h _ _ ih1 ih2 =>
    intro y hy
    obtain ⟨a, ha, hy⟩ := vars_nd.mp hy
    rcases List.mem_cons.mp ha with e | ha
    · rw [e] at hy; exact ih1 y hy
    · rw [List.mem_singleton.mp ha] at hy; exact ih2 y hy
/- the inner parts: how many, how heavy (depth 2: at most 3, 5) -/
theorem Dr.cnt {m n : Nat} {k : Kd} (d : Dr m n k) : (inn k).length + 1 ≤ 2 ^ n := by
  induction d with
  | any _ => exact Nat.one_le_two_pow
  | leaf h => exact Nat.one_le_two_pow
  | uno h _ ih => rw [inn, inns, List.append_nil, List.length_cons, Nat.pow_succ]; omega
  | duo h _ _ ih1 ih2 => rw [inn, inns, inns, List.append_nil, List.length_cons, List.length_append, Nat.pow_succ]; omega
def heavy : Nat → Nat
  | 0 => 0
  | n + 1 => max (2 + heavy n) (1 + 2 * heavy n)
theorem Dr.wei {m n : Nat} {k : Kd} (d : Dr m n k) : ((inn k).map wk).sum ≤ heavy n := by
  induction d with
  | any _ => exact Nat.zero_le _
  | leaf h => exact Nat.zero_le _
  | @uno n h a h1 _ ih =>
    rw [inn, inns, List.append_nil, List.map_cons, List.sum_cons]
    have := wt_le h
    show wt h + _ ≤ max (2 + heavy n) (1 + 2 * heavy n)
    omega
  | @duo n h a b h1 _ _ ih1 ih2 =>
    rw [inn, inns, inns, List.append_nil, List.map_cons, List.sum_cons, List.map_append, List.sum_append]
    have : wt h = 1 := by rcases h1 with rfl | rfl <;> rfl
    show wt h + _ ≤ max (2 + heavy n) (1 + 2 * heavy n)
    omega
def spKind (N : Nat) : ZSp := fun ds G Q _ => ∃ (d : Addr) (m : MO) (many deep : Nat), ds = [.ref d, iD many, iD deep] ∧ G d = some m ∧ isDice m ∧ many ≤ 10 ∧ deep < N ∧ ∀ k G', Rolled d G G' → Dr many deep k → Q (kd k) G'
def spLParts : ZSp := fun ds G Q _ => ∃ k : Kd, ds = [kd k] ∧ wf k ∧ ∀ p G', G p = none → At G p (.lst (kds (args k))) G' → Q (.ref p) G'
def spPut (N : Nat) : ZSp := fun ds G Q _ => ∃ (k o : Kd) (x : Int), ds = [kd k, .int x, kd o] ∧ wf k ∧ wf o ∧ dep k < N ∧ wd k ≤ 60 ∧ wd (sub (put1 x o) k) ≤ 60 ∧ (∀ s ∈ inn k, (args s).length ≤ 1000) ∧ ∀ G', Ext G G' → Q (kd (sub (put1 x o) k)) G'
def spWithin (N : Nat) : ZSp := fun ds G Q _ => ∃ (k : Kd) (x : Int), ds = [.int x, kd k] ∧ wf k ∧ dep k < N ∧ wd k ≤ 60 ∧ (∀ s ∈ inn k, (args s).length ≤ 1000) ∧ ∀ (c : Bool) G', Ext G G' → (c = true ↔ x ∈ vars k) → Q (.bl c) G'
def spLGath (n : Nat) : ZSp := fun ds G Q _ => ∃ (k : Kd) (p : Addr) (o W : List Int), ds = [kd k, .ref p] ∧ wf k ∧ dep k < n ∧ G p = some (.lst (intsD o)) ∧ o.Nodup ∧ (∀ x ∈ o, x ∈ W) ∧ (∀ x ∈ vars k, x ∈ W) ∧ W.length ≤ 1000000 ∧ ∀ G', Exb p G G' → G' p = some (.lst (intsD (gath k o))) → Q .non G'
section
variable [τ : Tbl] {P : Program} {w : World} {K : PySem.W.Frag} {mg : Str → Option Value} {base : Heap} {CU CK : Addr}
theorem ok_Dice {f : Addr} {fd : FuncData} (FF : Fun K "_law_dice" "_law_dice" s__law_dice f fd) (T : Txt K mg CU CK) : FnOk P w K mg base (L2.CX P w) 1 f fd ["cell"] (upSp K spDice) :=
  z_fn FF sc__law_dice (fun ds G Q E h => by obtain ⟨i, rfl, _⟩ := h; rfl) fun bas cdv A outer s H E hr ds G Q E0 hE hz => by
    obtain ⟨i, rfl, hq⟩ := hz
    refine ⟨_, (zs_cons (z_if (z_tchain zo_lt zo_lt (z_op zo_sub z_int z_int) (z_var 0) z_int) (zs_one (z_ret (z_lst (za_cons (z_callB zf_abs (by rfl) T.z_abs (by rfl) (za_cons (z_var 0) za_nil)) (za_cons z_int (za_cons z_int za_nil)))))) zs_nil) (zs_cons (z_ret (z_lst (za_cons (z_var 0) (za_cons (z_op zo_add z_int (z_op zo_mod (z_callTy zf_int (by rfl) T.z_int (by rfl) (za_cons (z_var 0) za_nil)) z_int)) (za_cons (z_callTy zf_int (by rfl) T.z_int (by rfl) (za_cons (z_cmp zo_ge (z_var 0) (z_op zo_pow z_int z_int)) za_nil)) za_nil))))) zs_nil)), ?_⟩
    have big : 3 ≤ sizeLine := by decide
    have fin : ∀ x y z : Int, ∀ p G2, G p = none → At G p (.lst [.int x, .int y, .int z]) G2 → Q (.ref p) G2 := fun x y z p G2 hp h => hq p _ G2 hp ⟨x, y, z, rfl⟩ h
    simp only [zLst, zSeq, zAsg, zName, zPar, zPar3, zIfS, zAnd, zOrT, zNot, zTest, zOp, zCB, zCons, zNil, zVar, zC, zFld, zDrop, zRet, zRetN, zNext, zBreak, zCont, zIf, zTup, zSl, zPart, zNoP, zNeg, zChain, zAndV, zOrV, zNotV, zgTup, zgCons, zgNil, zRaise1, zList, zTupI, zStrI, zRng1, zRng2, zstart, dI0_e, dI_e, dEqF_i, dEqF_s, dEqF_b, dCatS_e, fLen_s, fInt_i, fInt_b, fAbs_i, List.map_cons, List.map_nil, List.getElem?_cons_succ, List.getElem?_cons_zero, List.set_cons_succ, List.set_cons_zero, List.cons_append, List.nil_append, List.length_cons, List.length_nil, Nat.reduceAdd, Nat.reduceSub, Nat.zero_add, List.reduceReplicate, true_and, and_true]
    by_cases h1 : (0 : Int) - 10 < i
    · rw [if_pos (decide_eq_true h1)]
      by_cases h2 : i < 10
      · rw [if_pos (decide_eq_true h2)]
        exact ⟨big, fin _ _ _⟩
      · rw [if_neg (by simpa using h2)]
        exact ⟨by decide, ⟨by decide, by decide, by decide⟩, big, fin _ _ _⟩
    · rw [if_neg (by simpa using h1), if_neg Bool.false_ne_true]
      exact ⟨by decide, ⟨by decide, by decide, by decide⟩, big, fin _ _ _⟩
theorem ok_Roll {f : Addr} {fd : FuncData} (FF : Fun K "_law_roll" "_law_roll" s__law_roll f fd) (T : Txt K mg CU CK) : FnOk P w K mg base (L2.CX P w) 1 f fd ["dice", "many"] (upSp K spRoll) :=
  z_fn FF sc__law_roll (fun ds G Q E h => by obtain ⟨a, n, m, rfl, _⟩ := h; rfl) fun bas cdv A outer s H E hr ds G Q E0 hE hz => by
    obtain ⟨a, n, m, rfl, ha, ⟨x, y, f, rfl⟩, h1, h2, hq⟩ := hz
    refine ⟨_, (zs_cons (z_if (zw_t (zw_or (z_tcmp zo_eqF (z_ix (z_var 0) z_int) z_int) (zw_or1 (zw_t (zw_and (z_tcmp zo_eqF (z_ix (z_var 0) z_int) z_int) (zw_and1 (z_tcmp zo_gt (z_ix (z_var 0) z_int) z_int))))))) (zs_cons (z_set (i := 2) sc__law_roll.nd rfl (Or.inl rfl) (z_op zo_mod (z_callTy zf_int (by rfl) T.z_int (by rfl) (za_cons (z_ix (z_var 0) z_int) za_nil)) (z_var 1))) (zs_cons (z_asg (z_op zo_div (z_ix (z_var 0) z_int) (z_var 1)) (zg_setL (z_var 0) z_int)) (zs_cons (z_ret (z_var 2)) zs_nil))) zs_nil) (zs_cons (z_asg z_int (zg_setL (z_var 0) z_int)) (zs_cons (z_asg (z_op zo_mod (z_callTy zf_int (by rfl) T.z_int (by rfl) (za_cons (z_op zo_add (z_op zo_add (z_op zo_mul (z_ix (z_var 0) z_int) z_int) (z_op zo_mul (z_ix (z_var 0) z_int) z_int)) z_int) za_nil)) z_int) (zg_setL (z_var 0) z_int)) (zs_cons (z_asg (z_op zo_add (z_ix (z_var 0) z_int) z_int) (zg_setL (z_var 0) z_int)) (zs_cons (z_ret (z_op zo_mod (z_callTy zf_int (by rfl) T.z_int (by rfl) (za_cons (z_op zo_div (z_ix (z_var 0) z_int) z_int) za_nil)) (z_var 1))) zs_nil))))), ?_⟩
    have hn0 : n ≠ 0 := by omega
    have fin : ∀ (z : Int) (x y f : Int) G', At G a (.lst [.int x, .int y, .int f]) G' → Q (.int (z.fmod n)) G' := fun z x y f G' h => by
      have e : z.fmod n = z % n := Int.fmod_eq_emod_of_nonneg z (by omega)
      have b1 := Int.emod_nonneg z hn0
      have b2 := Int.emod_lt_of_pos z (show 0 < n by omega)
      exact hq _ G' (by rw [e]; exact b1) (by rw [e]; exact b2) ⟨⟨_, h.is, x, y, f, rfl⟩, h.exb⟩
    have ix : ∀ (l : List D) (j : Nat) (d : D) (G : Gp) (R : DK), G a = some (.lst l) → l[j]? = some d → dIx (.ref a) (.int (j : Int)) G R = R d G := fun l j d G R hG hj => by
      show (match seqD G (.ref a) with | some ds => _ | none => _) = _
      have e : seqD G (.ref a) = some l := by
        unfold seqD
        simp only
        rw [hG]
      rw [e]
      simp only
      rw [atI_nat hj]
    have ix0 := fun (G : Gp) (R : DK) (x y f : Int) (hG : G a = some (.lst [.int x, .int y, .int f])) => ix _ 0 (.int x) G R hG rfl
    have ix1 := fun (G : Gp) (R : DK) (x y f : Int) (hG : G a = some (.lst [.int x, .int y, .int f])) => ix _ 1 (.int y) G R hG rfl
    have ix2 := fun (G : Gp) (R : DK) (x y f : Int) (hG : G a = some (.lst [.int x, .int y, .int f])) => ix _ 2 (.int f) G R hG rfl
    simp only [Int.natCast_zero, Int.natCast_one, show ((2 : Nat) : Int) = 2 from rfl] at ix0 ix1 ix2
    have e0 := fun R => ix0 G R x y f ha
    have e1 := fun R => ix1 G R x y f ha
    have e2 := fun R => ix2 G R x y f ha
    have st : ∀ (G1 : Gp) (j : Nat) (v : D) (l : List D) (ρ : ZSt) (R : ZSt → Gp → Prop), G1 a = some (.lst l) → j < l.length → ρ[0]? = some (some (.ref a)) → (∀ G2, At G1 a (.lst (l.set j v)) G2 → R ρ G2) → zSetL (zVar 0) (zC (.int (j : Int))) v ρ G1 R := fun G1 j v l ρ R hG hj hρ hR => by
      simp only [zSetL, zVar, zC, hρ, hG]
      rw [show ixN l.length (j : Int) = some j by unfold ixN; rw [if_pos (by omega)]; simp [hj]]
      exact hR
    by_cases f2 : f = 2
    · subst f2
      simp only [zSeq, zAsg, zName, zPar, zPar3, zIfS, zAnd, zOrT, zNot, zTest, zOp, zCB, zCons, zNil, zVar, zC, zFld, zDrop, zRet, zRetN, zNext, zBreak, zCont, zIf, zTup, zSl, zPart, zNoP, zNeg, zChain, zAndV, zOrV, zNotV, zgTup, zgCons, zgNil, zRaise1, zList, zTupI, zStrI, zRng1, zRng2, zstart, dI0_e, dI_e, dEqF_i, dEqF_s, dEqF_b, dCatS_e, fLen_s, fInt_i, fInt_b, fAbs_i, List.map_cons, List.map_nil, List.getElem?_cons_succ, List.getElem?_cons_zero, List.set_cons_succ, List.set_cons_zero, List.cons_append, List.nil_append, List.length_cons, List.length_nil, Nat.reduceAdd, Nat.reduceSub, Nat.zero_add, List.reduceReplicate, true_and, and_true, e0, e2, decide_true, Bool.false_bne, if_true]
      refine ⟨hn0, ⟨hn0, by omega⟩, ?_⟩
      refine st G 0 _ _ _ _ ha (by show 0 < 3; decide) rfl fun G1 h1 => ?_
      exact fin x _ y 2 G1 h1
    · by_cases f1 : f = 1
      · subst f1
        by_cases hx : 0 < x
        · have c1 : decide ((1 : Int) = 2) = false := by decide
          simp only [zSeq, zAsg, zName, zPar, zPar3, zIfS, zAnd, zOrT, zNot, zTest, zOp, zCB, zCons, zNil, zVar, zC, zFld, zDrop, zRet, zRetN, zNext, zBreak, zCont, zIf, zTup, zSl, zPart, zNoP, zNeg, zChain, zAndV, zOrV, zNotV, zgTup, zgCons, zgNil, zRaise1, zList, zTupI, zStrI, zRng1, zRng2, zstart, dI0_e, dI_e, dEqF_i, dEqF_s, dEqF_b, dCatS_e, fLen_s, fInt_i, fInt_b, fAbs_i, List.map_cons, List.map_nil, List.getElem?_cons_succ, List.getElem?_cons_zero, List.set_cons_succ, List.set_cons_zero, List.cons_append, List.nil_append, List.length_cons, List.length_nil, Nat.reduceAdd, Nat.reduceSub, Nat.zero_add, List.reduceReplicate, true_and, and_true, e0, e2, c1, hx, decide_true, Bool.false_bne, Bool.false_eq_true, if_true, if_false]
          refine ⟨hn0, ⟨hn0, by omega⟩, ?_⟩
          refine st G 0 _ _ _ _ ha (by show 0 < 3; decide) rfl fun G1 h1 => ?_
          exact fin x _ y 1 G1 h1
        · have c1 : decide ((1 : Int) = 2) = false := by decide
          simp only [zSeq, zAsg, zName, zPar, zPar3, zIfS, zAnd, zOrT, zNot, zTest, zOp, zCB, zCons, zNil, zVar, zC, zFld, zDrop, zRet, zRetN, zNext, zBreak, zCont, zIf, zTup, zSl, zPart, zNoP, zNeg, zChain, zAndV, zOrV, zNotV, zgTup, zgCons, zgNil, zRaise1, zList, zTupI, zStrI, zRng1, zRng2, zstart, dI0_e, dI_e, dEqF_i, dEqF_s, dEqF_b, dCatS_e, fLen_s, fInt_i, fInt_b, fAbs_i, List.map_cons, List.map_nil, List.getElem?_cons_succ, List.getElem?_cons_zero, List.set_cons_succ, List.set_cons_zero, List.cons_append, List.nil_append, List.length_cons, List.length_nil, Nat.reduceAdd, Nat.reduceSub, Nat.zero_add, List.reduceReplicate, true_and, and_true, e0, e2, c1, hx, decide_true, decide_false, Bool.false_bne, Bool.false_eq_true, if_true, if_false]
          refine st G 2 _ _ _ _ ha (by show 2 < 3; decide) rfl fun G1 g1 => ?_
          simp only [zSeq, zAsg, zName, zPar, zPar3, zIfS, zAnd, zOrT, zNot, zTest, zOp, zCB, zCons, zNil, zVar, zC, zFld, zDrop, zRet, zRetN, zNext, zBreak, zCont, zIf, zTup, zSl, zPart, zNoP, zNeg, zChain, zAndV, zOrV, zNotV, zgTup, zgCons, zgNil, zRaise1, zList, zTupI, zStrI, zRng1, zRng2, zstart, dI0_e, dI_e, dEqF_i, dEqF_s, dEqF_b, dCatS_e, fLen_s, fInt_i, fInt_b, fAbs_i, List.map_cons, List.map_nil, List.getElem?_cons_succ, List.getElem?_cons_zero, List.set_cons_succ, List.set_cons_zero, List.cons_append, List.nil_append, List.length_cons, List.length_nil, Nat.reduceAdd, Nat.reduceSub, Nat.zero_add, List.reduceReplicate, true_and, and_true, ix0 G1 _ x y 0 g1.is, ix1 G1 _ x y 0 g1.is]
          refine ⟨.inr (by decide), .inr (by decide), by decide, ?_⟩
          refine st G1 0 _ _ _ _ g1.is (by show 0 < 3; decide) rfl fun G2 g2 => ?_
          have h12 := g1.trans g2
          generalize hz : (x * 48271 + y * 69621 + 11).fmod 2147483647 = z at *
          have i2 : G2 a = some (.lst [.int z, .int y, .int 0]) := g2.is
          simp only [zSeq, zAsg, zName, zPar, zPar3, zIfS, zAnd, zOrT, zNot, zTest, zOp, zCB, zCons, zNil, zVar, zC, zFld, zDrop, zRet, zRetN, zNext, zBreak, zCont, zIf, zTup, zSl, zPart, zNoP, zNeg, zChain, zAndV, zOrV, zNotV, zgTup, zgCons, zgNil, zRaise1, zList, zTupI, zStrI, zRng1, zRng2, zstart, dI0_e, dI_e, dEqF_i, dEqF_s, dEqF_b, dCatS_e, fLen_s, fInt_i, fInt_b, fAbs_i, List.map_cons, List.map_nil, List.getElem?_cons_succ, List.getElem?_cons_zero, List.set_cons_succ, List.set_cons_zero, List.cons_append, List.nil_append, List.length_cons, List.length_nil, Nat.reduceAdd, Nat.reduceSub, Nat.zero_add, List.reduceReplicate, true_and, and_true, ix1 G2 _ z y 0 i2]
          refine st G2 1 _ _ _ _ i2 (by show 1 < 3; decide) rfl fun G3 g3 => ?_
          have i3 : G3 a = some (.lst [.int z, .int (y + 1), .int 0]) := g3.is
          simp only [zSeq, zAsg, zName, zPar, zPar3, zIfS, zAnd, zOrT, zNot, zTest, zOp, zCB, zCons, zNil, zVar, zC, zFld, zDrop, zRet, zRetN, zNext, zBreak, zCont, zIf, zTup, zSl, zPart, zNoP, zNeg, zChain, zAndV, zOrV, zNotV, zgTup, zgCons, zgNil, zRaise1, zList, zTupI, zStrI, zRng1, zRng2, zstart, dI0_e, dI_e, dEqF_i, dEqF_s, dEqF_b, dCatS_e, fLen_s, fInt_i, fInt_b, fAbs_i, List.map_cons, List.map_nil, List.getElem?_cons_succ, List.getElem?_cons_zero, List.set_cons_succ, List.set_cons_zero, List.cons_append, List.nil_append, List.length_cons, List.length_nil, Nat.reduceAdd, Nat.reduceSub, Nat.zero_add, List.reduceReplicate, true_and, and_true, ix0 G3 _ z (y + 1) 0 i3]
          exact ⟨⟨by decide, by decide⟩, hn0, fin _ z (y + 1) 0 G3 (h12.trans g3)⟩
      · have c1 : decide (f = 2) = false := decide_eq_false f2
        have c2 : decide (f = 1) = false := decide_eq_false f1
        simp only [zSeq, zAsg, zName, zPar, zPar3, zIfS, zAnd, zOrT, zNot, zTest, zOp, zCB, zCons, zNil, zVar, zC, zFld, zDrop, zRet, zRetN, zNext, zBreak, zCont, zIf, zTup, zSl, zPart, zNoP, zNeg, zChain, zAndV, zOrV, zNotV, zgTup, zgCons, zgNil, zRaise1, zList, zTupI, zStrI, zRng1, zRng2, zstart, dI0_e, dI_e, dEqF_i, dEqF_s, dEqF_b, dCatS_e, fLen_s, fInt_i, fInt_b, fAbs_i, List.map_cons, List.map_nil, List.getElem?_cons_succ, List.getElem?_cons_zero, List.set_cons_succ, List.set_cons_zero, List.cons_append, List.nil_append, List.length_cons, List.length_nil, Nat.reduceAdd, Nat.reduceSub, Nat.zero_add, List.reduceReplicate, true_and, and_true, e0, e2, c1, c2, Bool.false_bne, Bool.false_eq_true, if_true, if_false]
        refine st G 2 _ _ _ _ ha (by show 2 < 3; decide) rfl fun G1 g1 => ?_
        simp only [zSeq, zAsg, zName, zPar, zPar3, zIfS, zAnd, zOrT, zNot, zTest, zOp, zCB, zCons, zNil, zVar, zC, zFld, zDrop, zRet, zRetN, zNext, zBreak, zCont, zIf, zTup, zSl, zPart, zNoP, zNeg, zChain, zAndV, zOrV, zNotV, zgTup, zgCons, zgNil, zRaise1, zList, zTupI, zStrI, zRng1, zRng2, zstart, dI0_e, dI_e, dEqF_i, dEqF_s, dEqF_b, dCatS_e, fLen_s, fInt_i, fInt_b, fAbs_i, List.map_cons, List.map_nil, List.getElem?_cons_succ, List.getElem?_cons_zero, List.set_cons_succ, List.set_cons_zero, List.cons_append, List.nil_append, List.length_cons, List.length_nil, Nat.reduceAdd, Nat.reduceSub, Nat.zero_add, List.reduceReplicate, true_and, and_true, ix0 G1 _ x y 0 g1.is, ix1 G1 _ x y 0 g1.is]
        refine ⟨.inr (by decide), .inr (by decide), by decide, ?_⟩
        refine st G1 0 _ _ _ _ g1.is (by show 0 < 3; decide) rfl fun G2 g2 => ?_
        have h12 := g1.trans g2
        generalize hz : (x * 48271 + y * 69621 + 11).fmod 2147483647 = z at *
        have i2 : G2 a = some (.lst [.int z, .int y, .int 0]) := g2.is
        simp only [zSeq, zAsg, zName, zPar, zPar3, zIfS, zAnd, zOrT, zNot, zTest, zOp, zCB, zCons, zNil, zVar, zC, zFld, zDrop, zRet, zRetN, zNext, zBreak, zCont, zIf, zTup, zSl, zPart, zNoP, zNeg, zChain, zAndV, zOrV, zNotV, zgTup, zgCons, zgNil, zRaise1, zList, zTupI, zStrI, zRng1, zRng2, zstart, dI0_e, dI_e, dEqF_i, dEqF_s, dEqF_b, dCatS_e, fLen_s, fInt_i, fInt_b, fAbs_i, List.map_cons, List.map_nil, List.getElem?_cons_succ, List.getElem?_cons_zero, List.set_cons_succ, List.set_cons_zero, List.cons_append, List.nil_append, List.length_cons, List.length_nil, Nat.reduceAdd, Nat.reduceSub, Nat.zero_add, List.reduceReplicate, true_and, and_true, ix1 G2 _ z y 0 i2]
        refine st G2 1 _ _ _ _ i2 (by show 1 < 3; decide) rfl fun G3 g3 => ?_
        have i3 : G3 a = some (.lst [.int z, .int (y + 1), .int 0]) := g3.is
        simp only [zSeq, zAsg, zName, zPar, zPar3, zIfS, zAnd, zOrT, zNot, zTest, zOp, zCB, zCons, zNil, zVar, zC, zFld, zDrop, zRet, zRetN, zNext, zBreak, zCont, zIf, zTup, zSl, zPart, zNoP, zNeg, zChain, zAndV, zOrV, zNotV, zgTup, zgCons, zgNil, zRaise1, zList, zTupI, zStrI, zRng1, zRng2, zstart, dI0_e, dI_e, dEqF_i, dEqF_s, dEqF_b, dCatS_e, fLen_s, fInt_i, fInt_b, fAbs_i, List.map_cons, List.map_nil, List.getElem?_cons_succ, List.getElem?_cons_zero, List.set_cons_succ, List.set_cons_zero, List.cons_append, List.nil_append, List.length_cons, List.length_nil, Nat.reduceAdd, Nat.reduceSub, Nat.zero_add, List.reduceReplicate, true_and, and_true, ix0 G3 _ z (y + 1) 0 i3]
        exact ⟨⟨by decide, by decide⟩, hn0, fin _ z (y + 1) 0 G3 (h12.trans g3)⟩

theorem cut_one (xs : List D) : Z.cutD xs none (some 1) = xs.take 1 := by
  unfold Z.cutD
  rw [HT.sIx_none, show (1 : Int) = ((1 : Nat) : Int) from rfl, HT.sIx_nat, Nat.sub_zero, List.drop_zero]
  cases xs with
  | nil => rfl
  | cons x r => rw [Nat.min_eq_left (by rw [List.length_cons]; omega)]
theorem ok_Rounds {f : Addr} {fd : FuncData} (FF : Fun K "_law_rounds" "_law_rounds" s__law_rounds f fd) (T : Txt K mg CU CK) (D__law_dice : Dfn P w K mg base "_law_dice" 1 ["cell"] spDice) : FnOk P w K mg base (L2.CX P w) 2 f fd ["script", "most"] (upSp K spRounds) :=
  z_fn FF sc__law_rounds (fun ds G Q E h => by obtain ⟨sD, ns, rfl, _⟩ := h; rfl) fun bas cdv A outer s H E hr ds G Q E0 hE hz => by
    obtain ⟨sD, ns, rfl, hs, hq⟩ := hz
    have hsl : ∀ R : DK, (∀ p G', G p = none → At G p (.lst ((ns.map D.int).take 1)) G' → R (.ref p) G') → dSlL sD none (some 1) G R := fun R h => by
      rcases hs with rfl | ⟨a, rfl, ha⟩
      · simp only [dSlL, cut_one]
        exact h
      · simp only [dSlL, ha, cut_one]
        exact h
    refine ⟨_, (zs_cons (z_set (i := 2) sc__law_rounds.nd rfl (Or.inl rfl) (z_slice zsl_list (z_var 0) zo_none (zo_some (z_var 1)))) (zs_cons (z_if (z_tcmp (zo_eqP hr.units) (z_var 2) (z_lst za_nil)) (zs_one (z_set (i := 2) sc__law_rounds.nd rfl (Or.inl rfl) (z_lst (za_cons z_int za_nil)))) zs_nil) (zs_cons (z_ret (z_lc (own := [("cell", 3)]) rfl sc__law_rounds.nd (zi_list (z_var 2)) (blkOk_by (by rfl)) (grel_name (by decide)) (fun _ _ _ _ _ => (pg_name (i := 3) sc__law_rounds.nd rfl (Or.inl rfl))) (fun _ _ _ _ _ => zts_nil) (fun _ _ _ _ _ => (z_dc0 D__law_dice hr (by first | decide | omega) (by rfl) (za_cons (z_var 3) za_nil))))) zs_nil))), ?_⟩
    walk_at "zr"
    refine hsl _ fun p G1 np h1 => ?_
    have fin : ∀ (pc : Addr) (i : Int) (G2 : Gp) (x y : D) (z : Option D), Ext G G2 → G2 pc = some (.lst [.int i]) →
        zSeq (zRet (zLc (zList (zVar 2)) (zName 3) zYes (zCall spDice X0 (zCons (zVar 3) zNil)) [3])) zNext { nx := fun _ G' => Q .non G', rt := Q } [some x, some y, some (.ref pc), z] G2 := fun pc i G2 x y z e2 hpc => by
      walk_at "zr"
      refine ⟨fun k acc G' => Ext G2 G' ∧ (k = 0 → acc = [] ) ∧ (k = 1 → ∃ d m, acc = [.ref d] ∧ G' d = some m ∧ isDice m), ⟨Ext.refl _, fun _ => rfl, fun h => absurd h (by decide)⟩, ?_, ?_⟩
      · rintro k d acc G' hk ⟨e3, h0, _⟩
        have hk0 : k = 0 := by
          have := (List.getElem?_eq_some_iff.mp hk).1
          simp at this
          omega
        subst hk0
        obtain rfl := h0 rfl
        cases Option.some.inj hk
        refine ⟨e3 _ _ hpc, by decide, ?_⟩
        walk_at "zr"
        refine ⟨i, rfl, fun q m G4 nq hi h4 => ⟨e3.trans (h4.ext nq), fun h => absurd h (by decide), fun _ => ⟨q, m, rfl, h4.is, hi⟩⟩⟩
      · rintro acc G' ⟨e3, _, h1⟩
        obtain ⟨d, m, rfl, hd, hi⟩ := h1 rfl
        refine ⟨e3 _ _ hpc, fun q G4 nq h4 => ?_⟩
        have ndq : d ≠ q := fun z => by rw [← z, hd] at nq; cases nq
        exact hq q d m G4 ((e2.trans e3).trans (h4.ext nq)) h4.is ((h4.other d ndq).trans hd) hi (Ne.symm ndq)
    walk_at "zr"
    intro q G2 nq h2
    have e1 : Ext G G2 := (h1.ext np).trans (h2.ext nq)
    have p2 : G2 p = some (.lst ((ns.map D.int).take 1)) := h2.ext nq _ _ h1.is
    cases ns with
    | nil =>
      refine r_eqL p2 h2.is rfl rfl fun c hc => ?_
      walk_at "zr"
      refine r_iff hc (fun _ => ?_) fun h => absurd rfl h
      walk_at "zr"
      intro r G3 nr h3
      exact fin r 0 G3 _ _ _ (e1.trans (h3.ext nr)) h3.is
    | cons i ns =>
      refine r_eqL p2 h2.is rfl rfl fun c hc => ?_
      walk_at "zr"
      refine r_iff hc (fun h => by cases h) fun _ => ?_
      refine r_nx1 ?_
      exact fin p i G2 _ _ _ e1 p2

theorem ok_LParts {f : Addr} {fd : FuncData} (FF : Fun K "_law_parts" "_law_parts" s__law_parts f fd) (T : Txt K mg CU CK) : FnOk P w K mg base (L2.CX P w) 1 f fd ["kind"] (upSp K spLParts) :=
  z_fn FF sc__law_parts (fun ds G Q E h => by obtain ⟨_, rfl, _⟩ := h; rfl) fun bas cdv A outer s H E hr ds G Q E0 hE hz => by
    obtain ⟨k, rfl, hw, hq⟩ := hz
    refine ⟨_, (zs_one (z_ret (z_ifE (z_tcmp zo_eqF (z_ix (z_var 0) z_int) z_str) (z_callTy zf_list (by rfl) T.z_list (by rfl) (za_cons (z_ix (z_var 0) z_int) za_nil)) (z_ifE (z_tcmp zo_eqF (z_ix (z_var 0) z_int) z_str) (z_lst za_nil) (z_callTy zf_list (by rfl) T.z_list (by rfl) (za_cons (z_slice zsl_tupA (z_var 0) (zo_some z_int) zo_none) za_nil)))))), ?_⟩
    cases k with
    | any x =>
      rw [show kd (.any x) = .tup [.str "any", .int x] from rfl]
      walk_at "zr"
      exact hq
    | nd h as =>
      by_cases hdt : ∃ s, h = .data s
      · obtain ⟨s, rfl⟩ := hdt
        rw [show kd (.nd (.data s) as) = .tup [.str "data", .str s, .tup (kds as)] from rfl]
        walk_at "zr"
        exact hq
      · have e : kd (.nd h as) = .tup (.str (word h) :: kds as) := by
          cases h <;> first | rfl | exact absurd ⟨_, rfl⟩ hdt
        have n1 : word h ≠ "data" := by cases h <;> first | exact absurd ⟨_, rfl⟩ hdt | (simp only [word]; decide)
        have n2 : word h ≠ "any" := by cases h <;> (simp only [word]; decide)
        rw [e]
        walk_at "zr"
        refine r_ndec (fun z => absurd z n1) fun _ => ?_
        walk_at "zr"
        refine r_ndec (fun z => absurd z n2) fun _ => ?_
        walk_at "zr"
        refine sl1 ?_
        walk_at "zr"
        exact hq
theorem ok_LGath {f : Addr} {fd : FuncData} (FF : Fun K "_law_gather" "_law_gather" s__law_gather f fd) (T : Txt K mg CU CK) (D__law_parts : Dfn P w K mg base "_law_parts" 1 ["kind"] spLParts)
    (self : ∀ {j : Nat} {z : ZSp}, FnOk P w K mg base (L2.CX P w) j f fd ["kind", "order"] (upSp K z) → Dfn P w K mg base "_law_gather" j ["kind", "order"] z) : ∀ n, FnOk P w K mg base (L2.CX P w) (n + 2) f fd ["kind", "order"] (upSp K (spLGath n))
  | 0 => fn_no fun ds G Q E h => by obtain ⟨_, _, _, _, _, _, h, _⟩ := h; omega
  | n + 1 =>
    have D__law_gather := self (ok_LGath FF T D__law_parts self n)
    z_fn FF sc__law_gather (fun ds G Q E h => by obtain ⟨_, _, _, _, rfl, _⟩ := h; rfl) fun bas cdv A outer s H E hr ds G Q E0 hE hz => by
    obtain ⟨k, p, o, W, rfl, hw, hd, hp, on, oW, kW, lW, hq⟩ := hz
    refine ⟨_, (zs_cons (z_if (zw_t (zw_and (z_tcmp zo_eqF (z_ix (z_var 0) z_int) z_str) (zw_and1 (z_tcmp (zo_notinP (un65 hr)) (z_ix (z_var 0) z_int) (z_var 1))))) (zs_one (z_expr (z_bm PySem.F.plainAttrs_list PySem.F.slot_list_append PySem.F.type_list_append zm_append (z_var 1) (za_cons (z_ix (z_var 0) z_int) za_nil)))) zs_nil) (zs_cons (z_for (passes_of (by rfl)) rfl (zi_list (z_dc0 D__law_parts hr (by first | decide | omega) (by rfl) (za_cons (z_var 0) za_nil))) (zg_name (i := 2) sc__law_gather.nd rfl (Or.inl rfl)) (zs_one (z_expr (z_dc0 D__law_gather hr (by first | decide | omega) (by rfl) (za_cons (z_var 2) (za_cons (z_var 1) za_nil)))))) zs_nil)), ?_⟩
    have loop : ∀ (D0 : D) (G1 : Gp) (o1 : List Int), kd k = D0 → Exb p G G1 → G1 p = some (.lst (intsD o1)) → o1.Nodup → (∀ x ∈ o1, x ∈ W) → gath k o = (args k).foldl (fun o a => gath a o) o1 →
        zSeq (zFor (zList (zCall spLParts X0 (zCons (zVar 0) zNil))) (zName 2) (zDrop (zCall (spLGath n) X0 (zCons (zVar 2) (zCons (zVar 1) zNil))))) zNext { nx := fun x G' => Q .non G', rt := Q } [some D0, some (.ref p), none] G1 := by
      rintro D0 G1 o1 rfl e1 h1 n1 s1 eg
      walk_at "zr"
      refine ⟨k, rfl, hw, fun b G2 nb h2 => ?_⟩
      have pb : p ≠ b := fun z => by rw [z, nb] at h1; cases h1
      have h2i := h2.is
      walk_at "zr"
      refine ⟨fun i ρ G' => Exb p G2 G' ∧ G' p = some (.lst (intsD (((args k).take i).foldl (fun o a => gath a o) o1))) ∧ ∃ v : Option D, ρ = [some (kd k), some (.ref p), v], ⟨Exb.refl _ _, by simpa using (h2.other p pb).trans h1, _, rfl⟩, ?_, ?_⟩
      · rintro i d ρ G' hi ⟨e2, h3, v, rfl⟩
        refine ⟨e2 _ _ (Ne.symm pb) h2i, ?_⟩
        obtain ⟨a, ha, rfl⟩ := kds_get hi
        have tk : (args k).take (i + 1) = (args k).take i ++ [a] := by rw [List.take_add_one, ha]; rfl
        have am : a ∈ args k := List.mem_of_getElem? ha
        have vk : ∀ b ∈ args k, ∀ x ∈ vars b, x ∈ vars k := fun b hb x hx => by
          cases k with
          | any x => cases hb
          | nd h as => exact vars_nd.mpr ⟨b, hb, hx⟩
        have wa : wf a ∧ dep a < n := by
          cases k with
          | any x => cases am
          | nd h as =>
            have : dep a < dep (.nd h as) := dep_child (h := h) am
            exact ⟨(wf_nd.mp hw).2 a am, by omega⟩
        walk_at "zr"
        refine ⟨a, p, _, W, rfl, wa.1, wa.2, h3, nodup_gathF n1, fun x hx => ?_, fun x hx => kW x (vk a am x hx), lW, fun G3 e3 h4 => ?_⟩
        · rcases mem_gathF.mp hx with h | h
          · exact s1 x h
          · obtain ⟨b, hb, hx⟩ := mem_varss.mp h
            exact kW x (vk b (List.mem_of_mem_take hb) x hx)
        walk_at "zr"
        refine ⟨e2.trans e3, ?_, _, rfl⟩
        rw [tk, List.foldl_append]
        exact h4
      · rintro ρ G' ⟨e2, h3, v, rfl⟩
        refine ⟨e2 _ _ (Ne.symm pb) h2i, ?_⟩
        rw [kds_len, List.take_length] at h3
        walk_at "zr"
        exact hq G' (e1.trans ((h2.ext nb).exb.trans e2)) (by rw [eg]; exact h3)
    cases k with
    | any x =>
      rw [show kd (.any x) = .tup [.str "any", .int x] from rfl]
      walk_at "zr"
      refine r_inLI hp fun c hc => ?_
      walk_at "zr"
      refine r_niff hc (fun hm => ?_) fun hm => ?_
      · refine loop _ G o rfl (Exb.refl _ _) hp on oW ?_
        show (vars (.any x)).foldl addIf o = o
        rw [vars]
        exact if_pos hm
      · walk_at "zr"
        refine ⟨r_tyL hp, ?_⟩
        walk_at "zr"
        refine r_append hp (big_lt (by rw [intsD_len]; have := nodup_sub (W := W) (nodup_addIf (x := x) on) (fun y hy => (mem_addIf.mp hy).elim (oW y) fun e => kW y (by rw [e]; simp [vars])); rw [show addIf o x = o ++ [x] from if_neg hm, List.length_append] at this; simp at this; omega)) fun G1 h1 => ?_
        walk_at "zr"
        have h1i := h1.is
        rw [show intsD o ++ [D.int x] = intsD (o ++ [x]) from intsD_app o [x]] at h1i
        have ea : addIf o x = o ++ [x] := if_neg hm
        refine loop _ G1 (o ++ [x]) rfl h1.exb h1i (ea ▸ nodup_addIf on) (fun y hy => (mem_addIf.mp (ea ▸ hy)).elim (oW y) fun e => kW y (by rw [e]; simp [vars])) ?_
        show (vars (.any x)).foldl addIf o = o ++ [x]
        rw [vars]
        exact if_neg hm
    | nd h as =>
      obtain ⟨w, rest, ne, ek⟩ := kd_nd h as
      rw [ek]
      walk_at "zr"
      refine r_ndec (fun e => absurd e ne) fun _ => ?_
      walk_at "zr"
      exact loop _ G o ek (Exb.refl _ _) hp on oW gath_nd
end
end K05

namespace K05
open PySem PySem.Spec PyProof.Rows L2 Z
local macro_rules | `(tactic| walk_at "zr") => `(tactic| (repeat' (with_reducible first | refine r_asg ?_ | refine r_asgT ?_ | refine r_asgG ?_ | refine r_asg1 ?_ | refine r_if ?_ | refine r_if1 ?_ | refine r_drop ?_ | refine r_drop1 ?_ | refine r_ret ?_ | refine r_ret1 ?_ | refine r_retN ?_ | refine r_nx ?_ | refine r_nx1 ?_ | refine r_bk ?_ | refine r_ct ?_ | refine r_par ?_ | refine r_par1 ?_ | refine r_par3 ?_ | refine r_par31 ?_ | refine r_for ?_ | refine r_for1 ?_ | refine r_sfld ?_ | refine r_sfld1 ?_ | refine r_aug (by with_unfolding_all rfl) ?_ | refine r_aug1 (by with_unfolding_all rfl) ?_ | refine r_var (by with_unfolding_all rfl) ?_ | refine r_c ?_ | refine r_op ?_ | refine r_ifE ?_ | refine r_nil ?_ | refine r_cons ?_ | refine r_tup ?_ | refine r_lst ?_ | refine r_cb ?_ | refine r_call ?_ | refine r_test ?_ | refine r_not ?_ | refine r_and ?_ | refine r_or ?_ | refine r_andV ?_ | refine r_orV ?_ | refine r_notV ?_ | refine r_neg ?_ | refine r_bm ?_ | refine r_bm0 ?_ | refine r_sl ?_ | refine r_part ?_ | refine r_noP ?_ | refine r_chain ?_ | refine r_int2 ?_ | refine r_eqI ?_ | refine r_eqS ?_ | refine r_eqB ?_ | refine r_fInt ?_ | refine r_fIntB ?_ | refine r_fAbs ?_ | refine r_fMin ?_ | refine r_lenT ?_ | refine r_isNN ?_ | refine r_isNI ?_ | refine r_isNT ?_ | refine r_isNR ?_ | refine r_ixT0 ?_ | refine r_ixT1 ?_ | refine r_ixT2 ?_ | refine r_ixT3 ?_ | refine r_fld ?_ | refine r_kfld (by assumption) rfl ?_ | refine r_list ?_ | refine r_klist (by assumption) ?_ | refine r_tupI ?_ | refine r_ktupI ?_ | refine r_yes ?_ | refine r_kctI ?_ | refine r_rng1 ?_ | refine r_rng2 ?_ | refine r_enum ?_ | refine r_kenumT ?_ | refine r_kenum (by assumption) ?_ | refine r_fListT ?_ | refine r_fTupT ?_ | refine r_fListR (by assumption) ?_ | refine r_fTupR (by assumption) ?_ | refine r_lenR (by assumption) ?_ | refine r_rev ?_ | refine r_krevT ?_ | refine r_krev (by assumption) ?_ | refine r_setL ?_ | refine r_dget ?_ | refine r_lc0 ?_ | refine r_name ?_ | refine r_gtup (by with_unfolding_all rfl) ?_ | refine r_gcons ?_ | refine r_gnil ?_ | refine r_din ?_ | refine r_setd ?_ | refine r_ksetdA (by assumption) ?_ | refine r_keysI ?_ | refine r_kkeysI (by assumption) ?_ | refine r_dput ?_ | refine r_dput1 ?_ | refine r_dnewK ?_ | refine r_szc (by with_unfolding_all exact Nat.le_of_ble_eq_true rfl) ?_ | refine r_eqlen (by with_unfolding_all rfl) ?_ | refine r_ifT (by decide) ?_ | refine r_ifF (by decide) ?_ | refine r_inFT (b := false) rfl rfl (by decide) ?_ | refine r_inFT (b := true) rfl rfl (by decide) ?_ | refine r_lrng ?_)))
theorem kds_nil {l : List Kd} : kds l = [] ↔ l = [] := by
  constructor
  · intro h
    exact List.length_eq_zero_iff.mp (by rw [← kds_len, h]; rfl)
  · rintro rfl; rfl
theorem pl_any (x : Int) : pl 60 (D.tup [.str "any", .int x]) = true := pl_kd (.any x) trivial 60 (by rw [wd]; decide)
theorem pl_all {l : List Kd} (h : ∀ a ∈ l, wf a ∧ wd a ≤ 60) : (kds l).all (pl 60) = true := by
  rw [List.all_eq_true]
  intro d hd
  rw [kds_map] at hd
  obtain ⟨a, ha, rfl⟩ := List.mem_map.mp hd
  exact pl_kd a (h a ha).1 60 (h a ha).2
theorem kd_any_iff {k : Kd} {x : Int} : kd k = D.tup [.str "any", .int x] ↔ k = .any x := ⟨fun h => kd_inj k (.any x) h, fun h => by rw [h]; rfl⟩
theorem wf_put {k o : Kd} {x : Int} (h : wf k) (ho : wf o) : wf (sub (put1 x o) k) := wf_sub k h fun y _ => by
  unfold put1
  split
  · exact ho
  · trivial
section
variable [τ : Tbl] {P : Program} {w : World} {K : PySem.W.Frag} {mg : Str → Option Value} {base : Heap} {CU CK : Addr}
theorem ok_Put {f : Addr} {fd : FuncData} (FF : Fun K "_law_put" "_law_put" s__law_put f fd) (T : Txt K mg CU CK) (D__law_parts : Dfn P w K mg base "_law_parts" 1 ["kind"] spLParts)
    (self : ∀ {j : Nat} {z : ZSp}, FnOk P w K mg base (L2.CX P w) j f fd ["kind", "number", "other"] (upSp K z) → Dfn P w K mg base "_law_put" j ["kind", "number", "other"] z) : ∀ n, FnOk P w K mg base (L2.CX P w) (n + 2) f fd ["kind", "number", "other"] (upSp K (spPut n))
  | 0 => fn_no fun ds G Q E h => by obtain ⟨_, _, _, _, _, _, h, _⟩ := h; omega
  | n + 1 =>
    have D__law_put := self (ok_Put FF T D__law_parts self n)
    z_fn FF sc__law_put (fun ds G Q E h => by obtain ⟨_, _, _, rfl, _⟩ := h; rfl) fun bas cdv A outer s H E hr ds G Q E0 hE hz => by
    obtain ⟨k, o, x, rfl, hw, ho, hd, w1, w2, few, hq⟩ := hz
    refine ⟨_, (zs_cons (z_if (z_tcmp (zo_eqP hr.units) (z_var 0) (z_tup (za_cons z_str (za_cons (z_var 1) za_nil)))) (zs_one (z_ret (z_var 2))) zs_nil) (zs_cons (z_setLc (own := [("one", 3)]) (i := 4) rfl sc__law_put.nd rfl rfl (by rfl) (zi_list (z_dc0 D__law_parts hr (by first | decide | omega) (by rfl) (za_cons (z_var 0) za_nil))) (blkOk_by (by rfl)) (grel_name (by decide)) (fun _ _ _ _ _ => (pg_name (i := 3) sc__law_put.nd rfl (Or.inl rfl))) (fun _ _ _ _ _ => zts_nil) (fun _ _ _ _ _ => (z_dc0 D__law_put hr (by first | decide | omega) (by rfl) (za_cons (z_var 3) (za_cons (z_var 1) (za_cons (z_var 2) za_nil)))))) (zs_cons (z_if (z_tcmp (zo_eqP hr.units) (z_var 4) (z_lst za_nil)) (zs_one (z_ret (z_var 0))) zs_nil) (zs_cons (z_ret (z_ifE (z_tcmp zo_eqF (z_ix (z_var 0) z_int) z_str) (z_tup (za_cons z_str (za_cons (z_ix (z_var 0) z_int) (za_cons (z_callTy zf_tuple (by rfl) T.z_tuple (by rfl) (za_cons (z_var 4) za_nil)) za_nil)))) (z_op zo_catT (z_tup (za_cons (z_ix (z_var 0) z_int) za_nil)) (z_callTy zf_tuple (by rfl) T.z_tuple (by rfl) (za_cons (z_var 4) za_nil))))) zs_nil)))), ?_⟩
    walk_at "zr"
    refine r_eqP (pl_kd k hw 60 w1) (pl_any x) fun c hc => ?_
    walk_at "zr"
    refine r_iff (hc.trans kd_any_iff) (fun e => ?_) fun ne => ?_
    · subst e
      walk_at "zr"
      have := hq G (Ext.refl _)
      rw [show sub (put1 x o) (.any x) = o from put1_same] at this
      exact this
    · walk_at "zr"
      refine ⟨k, rfl, hw, fun b G2 nb h2 => ?_⟩
      have h2i := h2.is
      have e2 := h2.ext nb
      walk_at "zr"
      have kid : ∀ a ∈ args k, wf a ∧ dep a < n ∧ wd a ≤ 60 ∧ wd (sub (put1 x o) a) ≤ 60 ∧ ∀ s ∈ inn a, (args s).length ≤ 1000 := fun a ha => by
        cases k with
        | any y => cases ha
        | nd h as =>
          have h1 : dep a < dep (.nd h as) := dep_child ha
          rw [sub_nd] at w2
          exact ⟨(wf_nd.mp hw).2 a ha, by omega, Nat.le_trans (wd_child ha) w1, Nat.le_trans (wd_child (List.mem_map.mpr ⟨a, ha, rfl⟩)) w2, fun s hs => few s (mem_inn.mpr (.inr ⟨a, ha, hs⟩))⟩
      have al : (args k).length ≤ 1000 := by
        cases k with
        | any v => exact Nat.zero_le _
        | nd h as =>
          by_cases e : as = []
          · rw [e]; exact Nat.zero_le _
          · exact few _ (mem_inn.mpr (.inl ⟨e, rfl⟩))
      refine ⟨fun i acc G' => Ext G2 G' ∧ acc = kds (((args k).take i).map (sub (put1 x o))), ⟨Ext.refl _, rfl⟩, ?_, ?_⟩
      · rintro i d acc G' hi ⟨e3, rfl⟩
        obtain ⟨a, ha, rfl⟩ := kds_get hi
        have am := List.mem_of_getElem? ha
        obtain ⟨k1, k2, k3, k4, k5⟩ := kid a am
        refine ⟨e3 _ _ h2i, big_lt (by rw [kds_len, List.length_map, List.length_take]; omega), ?_⟩
        walk_at "zr"
        refine ⟨a, o, x, rfl, k1, ho, k2, k3, k4, k5, fun G3 e4 => ?_⟩
        refine ⟨e3.trans e4, ?_⟩
        rw [List.take_add_one, ha, List.map_append, kds_map, kds_map, List.map_append]
        rfl
      · rintro acc G' ⟨e3, rfl⟩
        refine ⟨e3 _ _ h2i, fun q G3 nq h3 => ?_⟩
        have h3i := h3.is
        rw [kds_len, List.take_length] at h3i
        have e4 : Ext G G3 := e2.trans (e3.trans (h3.ext nq))
        walk_at "zr"
        intro z G4 nz h4
        have h4i := h4.is
        have e5 : Ext G G4 := e4.trans (h4.ext nz)
        have h3j := (h4.ext nz) _ _ h3i
        walk_at "zr"
        refine r_eqL h3j h4i (pl_all fun a ha => by obtain ⟨b, hb, rfl⟩ := List.mem_map.mp ha; exact ⟨wf_put (kid b hb).1 ho, (kid b hb).2.2.2.1⟩) rfl fun c hc => ?_
        walk_at "zr"
        refine r_iff (hc.trans kds_nil) (fun e => ?_) fun ne2 => ?_
        · walk_at "zr"
          have ea : args k = [] := by simpa using e
          have es : sub (put1 x o) k = k := by
            cases k with
            | any y => exact put1_ne fun z => ne (by rw [z])
            | nd h as =>
              have : as = [] := ea
              rw [this]
              rfl
          have := hq G4 e5
          rw [es] at this
          exact this
        · walk_at "zr"
          cases k with
          | any y => exact absurd rfl ne2
          | nd h as =>
            have e6 := hq G4 e5
            rw [sub_nd] at e6
            by_cases hdt : ∃ s, h = .data s
            · obtain ⟨s, rfl⟩ := hdt
              rw [show kd (.nd (.data s) as) = .tup [.str "data", .str s, .tup (kds as)] from rfl]
              walk_at "zr"
              exact e6
            · have ne3 : as.map (sub (put1 x o)) ≠ [] := ne2
              have ek : kd (.nd h as) = .tup (.str (word h) :: kds as) := by
                cases h <;> first | rfl | exact absurd ⟨_, rfl⟩ hdt
              have ek2 : kd (.nd h (as.map (sub (put1 x o)))) = .tup (.str (word h) :: kds (as.map (sub (put1 x o)))) := by
                cases h <;> first | rfl | exact absurd ⟨_, rfl⟩ hdt
              have n1 : word h ≠ "data" := by cases h <;> first | exact absurd ⟨_, rfl⟩ hdt | (simp only [word]; decide)
              rw [ek]
              rw [ek2] at e6
              walk_at "zr"
              refine r_ndec (fun z => absurd z n1) fun _ => ?_
              walk_at "zr"
              exact ⟨by simp, big_ok (by rw [kds_len, List.length_map]; have : as.length ≤ 1000 := al; show 1 + as.length ≤ _; omega), e6⟩
theorem ok_Within {f : Addr} {fd : FuncData} (FF : Fun K "_law_within" "_law_within" s__law_within f fd) (T : Txt K mg CU CK) (D__law_parts : Dfn P w K mg base "_law_parts" 1 ["kind"] spLParts)
    (self : ∀ {j : Nat} {z : ZSp}, FnOk P w K mg base (L2.CX P w) j f fd ["number", "kind"] (upSp K z) → Dfn P w K mg base "_law_within" j ["number", "kind"] z) : ∀ n, FnOk P w K mg base (L2.CX P w) (n + 2) f fd ["number", "kind"] (upSp K (spWithin n))
  | 0 => fn_no fun ds G Q E h => by obtain ⟨_, _, _, _, h, _⟩ := h; omega
  | n + 1 =>
    have D__law_within := self (ok_Within FF T D__law_parts self n)
    z_fn FF sc__law_within (fun ds G Q E h => by obtain ⟨_, _, rfl, _⟩ := h; rfl) fun bas cdv A outer s H E hr ds G Q E0 hE hz => by
    obtain ⟨k, x, rfl, hw, hd, w1, few, hq⟩ := hz
    refine ⟨_, (zs_one (z_ret (z_or (z_cmp (zo_eqP hr.units) (z_var 1) (z_tup (za_cons z_str (za_cons (z_var 0) za_nil)))) (z_one (z_cmp (zo_neP hr.units) (z_lc (own := [("one", 2)]) rfl sc__law_within.nd (zi_list (z_dc0 D__law_parts hr (by first | decide | omega) (by rfl) (za_cons (z_var 1) za_nil))) (blkOk_by (by rfl)) (grel_name (by decide)) (fun _ _ _ _ _ => (pg_name (i := 2) sc__law_within.nd rfl (Or.inl rfl))) (fun _ _ _ _ _ => (zts_one (z_val (z_dc0 D__law_within hr (by first | decide | omega) (by rfl) (za_cons (z_var 0) (za_cons (z_var 2) za_nil)))))) (fun _ _ _ _ _ => (z_var 2))) (z_lst za_nil)))))), ?_⟩
    walk_at "zr"
    refine r_eqP (pl_kd k hw 60 w1) (pl_any x) fun c hc => ?_
    have hc := hc.trans kd_any_iff
    show (match D.bl (false != c) with | .bl c => if c = true then _ else _ | _ => False)
    refine r_iff hc (fun e => ?_) fun ne => ?_
    · subst e
      exact hq true G (Ext.refl _) ⟨fun _ => by simp [vars], fun _ => rfl⟩
    · walk_at "zr"
      refine ⟨k, rfl, hw, fun b G2 nb h2 => ?_⟩
      have h2i := h2.is
      have e2 := h2.ext nb
      walk_at "zr"
      have kid : ∀ a ∈ args k, wf a ∧ dep a < n ∧ wd a ≤ 60 ∧ (∀ s ∈ inn a, (args s).length ≤ 1000) := fun a ha => by
        cases k with
        | any y => cases ha
        | nd h as =>
          have h1 : dep a < dep (.nd h as) := dep_child ha
          exact ⟨(wf_nd.mp hw).2 a ha, by omega, Nat.le_trans (wd_child ha) w1, fun s hs => few s (mem_inn.mpr (.inr ⟨a, ha, hs⟩))⟩
      have al : (args k).length ≤ 1000 := by
        cases k with
        | any v => exact Nat.zero_le _
        | nd h as =>
          by_cases e : as = []
          · rw [e]; exact Nat.zero_le _
          · exact few _ (mem_inn.mpr (.inl ⟨e, rfl⟩))
      have vk : x ∈ vars k ↔ ∃ a ∈ args k, x ∈ vars a := by
        cases k with
        | any y =>
          constructor
          · intro h
            rw [vars, List.mem_singleton] at h
            exact absurd (by rw [h]) ne
          · rintro ⟨a, ha, _⟩; cases ha
        | nd h as => exact vars_nd
      refine ⟨fun i acc G' => Ext G2 G' ∧ ∃ l, acc = kds l ∧ (∀ a ∈ l, a ∈ args k) ∧ l.length ≤ i ∧ (l ≠ [] ↔ ∃ a ∈ (args k).take i, x ∈ vars a), ⟨Ext.refl _, [], rfl, fun a h => (by cases h), Nat.le_refl _, by simp⟩, ?_, ?_⟩
      · rintro i d acc G' hi ⟨e3, l, rfl, hl, ll, lx⟩
        obtain ⟨a, ha, rfl⟩ := kds_get hi
        have am := List.mem_of_getElem? ha
        have hil := (List.getElem?_eq_some_iff.mp ha).1
        have tk : (args k).take (i + 1) = (args k).take i ++ [a] := by rw [List.take_add_one, ha]; rfl
        obtain ⟨k1, k2, k3, k4⟩ := kid a am
        refine ⟨e3 _ _ h2i, big_lt (by rw [kds_len]; omega), ?_⟩
        walk_at "zr"
        refine ⟨a, x, rfl, k1, k2, k3, k4, fun c G3 e4 hc => ?_⟩
        cases c with
        | true =>
          refine r_ifT rfl ?_
          walk_at "zr"
          refine ⟨e3.trans e4, l ++ [a], by rw [kds_map, kds_map, List.map_append]; rfl, fun b hb => ?_, by rw [List.length_append]; simp; omega, ?_⟩
          · rcases List.mem_append.mp hb with hb | hb
            · exact hl b hb
            · rw [List.mem_singleton.mp hb]; exact am
          · rw [tk]
            exact ⟨fun _ => ⟨a, by simp, hc.mp rfl⟩, fun _ => by simp⟩
        | false =>
          refine r_ifF rfl ?_
          refine ⟨e3.trans e4, l, rfl, hl, by omega, ?_⟩
          rw [lx, tk]
          constructor
          · rintro ⟨b, hb, h⟩; exact ⟨b, List.mem_append_left _ hb, h⟩
          · rintro ⟨b, hb, h⟩
            rcases List.mem_append.mp hb with hb | hb
            · exact ⟨b, hb, h⟩
            · rw [List.mem_singleton.mp hb] at h
              have := hc.mpr h
              cases this
      · rintro acc G' ⟨e3, l, rfl, hl, ll, lx⟩
        refine ⟨e3 _ _ h2i, fun q G3 nq h3 => ?_⟩
        have h3i := h3.is
        have e4 : Ext G G3 := e2.trans (e3.trans (h3.ext nq))
        walk_at "zr"
        intro z G4 nz h4
        have h4i := h4.is
        have e5 : Ext G G4 := e4.trans (h4.ext nz)
        have h3j := (h4.ext nz) _ _ h3i
        rw [kds_len, List.take_length] at lx
        refine r_eqL h3j h4i (pl_all fun a ha => ⟨(kid a (hl a ha)).1, (kid a (hl a ha)).2.2.1⟩) rfl fun c hc => ?_
        refine hq _ G4 e5 ?_
        rw [vk, ← lx]
        have hc := hc.trans kds_nil
        cases c with
        | true => exact ⟨fun h => (by cases h), fun h => absurd (hc.mp rfl) h⟩
        | false => exact ⟨fun _ z => (by have := hc.mpr z; cases this), fun _ => rfl⟩
end
end K05

namespace K05
open PySem PySem.Spec PyProof.Rows L2 Z
local macro_rules | `(tactic| walk_at "zr") => `(tactic| (repeat' (with_reducible first | refine r_asg ?_ | refine r_asgT ?_ | refine r_asgG ?_ | refine r_asg1 ?_ | refine r_if ?_ | refine r_if1 ?_ | refine r_drop ?_ | refine r_drop1 ?_ | refine r_ret ?_ | refine r_ret1 ?_ | refine r_retN ?_ | refine r_nx ?_ | refine r_nx1 ?_ | refine r_bk ?_ | refine r_ct ?_ | refine r_par ?_ | refine r_par1 ?_ | refine r_par3 ?_ | refine r_par31 ?_ | refine r_for ?_ | refine r_for1 ?_ | refine r_sfld ?_ | refine r_sfld1 ?_ | refine r_aug (by with_unfolding_all rfl) ?_ | refine r_aug1 (by with_unfolding_all rfl) ?_ | refine r_var (by with_unfolding_all rfl) ?_ | refine r_c ?_ | refine r_op ?_ | refine r_ifE ?_ | refine r_nil ?_ | refine r_cons ?_ | refine r_tup ?_ | refine r_lst ?_ | refine r_cb ?_ | refine r_call ?_ | refine r_test ?_ | refine r_not ?_ | refine r_and ?_ | refine r_or ?_ | refine r_andV ?_ | refine r_orV ?_ | refine r_notV ?_ | refine r_neg ?_ | refine r_bm ?_ | refine r_bm0 ?_ | refine r_sl ?_ | refine r_part ?_ | refine r_noP ?_ | refine r_chain ?_ | refine r_int2 ?_ | refine r_eqI ?_ | refine r_eqS ?_ | refine r_eqB ?_ | refine r_fInt ?_ | refine r_fIntB ?_ | refine r_fAbs ?_ | refine r_fMin ?_ | refine r_lenT ?_ | refine r_isNN ?_ | refine r_isNI ?_ | refine r_isNT ?_ | refine r_isNR ?_ | refine r_ixT0 ?_ | refine r_ixT1 ?_ | refine r_ixT2 ?_ | refine r_ixT3 ?_ | refine r_fld ?_ | refine r_kfld (by assumption) rfl ?_ | refine r_list ?_ | refine r_klist (by assumption) ?_ | refine r_tupI ?_ | refine r_ktupI ?_ | refine r_yes ?_ | refine r_kctI ?_ | refine r_rng1 ?_ | refine r_rng2 ?_ | refine r_enum ?_ | refine r_kenumT ?_ | refine r_kenum (by assumption) ?_ | refine r_fListT ?_ | refine r_fTupT ?_ | refine r_fListR (by assumption) ?_ | refine r_fTupR (by assumption) ?_ | refine r_lenR (by assumption) ?_ | refine r_rev ?_ | refine r_krevT ?_ | refine r_krev (by assumption) ?_ | refine r_setL ?_ | refine r_dget ?_ | refine r_lc0 ?_ | refine r_name ?_ | refine r_gtup (by with_unfolding_all rfl) ?_ | refine r_gcons ?_ | refine r_gnil ?_ | refine r_din ?_ | refine r_setd ?_ | refine r_ksetdA (by assumption) ?_ | refine r_keysI ?_ | refine r_kkeysI (by assumption) ?_ | refine r_dput ?_ | refine r_dput1 ?_ | refine r_dnewK ?_ | refine r_szc (by with_unfolding_all exact Nat.le_of_ble_eq_true rfl) ?_ | refine r_eqlen (by with_unfolding_all rfl) ?_ | refine r_ifT (by decide) ?_ | refine r_ifF (by decide) ?_ | refine r_inFT (b := false) rfl rfl (by decide) ?_ | refine r_inFT (b := true) rfl rfl (by decide) ?_ | refine r_lrng ?_)))
theorem r_ixD {a : Addr} {ds : List D} {n : Nat} {x : D} {G : Gp} {Q : DK} (h : G a = some (.lst ds)) (hx : ds[n]? = some x) (q : Q x G) : dIx (.ref a) (.int (n : Int)) G Q := r_ixR h hx q
theorem r_if84 {deep : Nat} {ρ : ZSt} {G : Gp} {R : DK} (q : ∀ N : Nat, (N = 8 ∧ 0 < deep ∨ N = 4 ∧ deep = 0) → R (.int (N : Int)) G) : if decide ((0 : Int) < (deep : Int)) = true then zC (.int 8) ρ G R else zC (.int 4) ρ G R := by
  by_cases h : 0 < deep
  · rw [if_pos (decide_eq_true (by omega))]
    exact q 8 (.inl ⟨rfl, h⟩)
  · rw [if_neg (by simpa using h)]
    exact q 4 (.inr ⟨rfl, by omega⟩)
section
variable [τ : Tbl] {P : Program} {w : World} {K : PySem.W.Frag} {mg : Str → Option Value} {base : Heap} {CU CK : Addr}
theorem ok_Kind {f : Addr} {fd : FuncData} (FF : Fun K "_law_kind" "_law_kind" s__law_kind f fd) (T : Txt K mg CU CK) (D__law_roll : Dfn P w K mg base "_law_roll" 1 ["dice", "many"] spRoll)
    (self : ∀ {j : Nat} {z : ZSp}, FnOk P w K mg base (L2.CX P w) j f fd ["dice", "many", "deep"] (upSp K z) → Dfn P w K mg base "_law_kind" j ["dice", "many", "deep"] z) : ∀ n, FnOk P w K mg base (L2.CX P w) (n + 2) f fd ["dice", "many", "deep"] (upSp K (spKind n))
  | 0 => fn_no fun ds G Q E h => by obtain ⟨_, _, _, _, _, _, _, _, h, _⟩ := h; omega
  | n + 1 =>
    have D__law_kind := self (ok_Kind FF T D__law_roll self n)
    z_fn FF sc__law_kind (fun ds G Q E h => by obtain ⟨_, _, _, _, rfl, _⟩ := h; rfl) fun bas cdv A outer s H E hr ds G Q E0 hE hz => by
    obtain ⟨d, m, many, deep, rfl, hd, hi, hm, hn, hq⟩ := hz
    refine ⟨_, (zs_cons (z_set (i := 3) sc__law_kind.nd rfl (Or.inl rfl) (z_dc0 D__law_roll hr (by first | decide | omega) (by rfl) (za_cons (z_var 0) (za_cons (z_ifE (z_tcmp zo_gt (z_var 2) z_int) z_int z_int) za_nil)))) (zs_cons (z_if (zw_t (zw_and (z_tcmp zo_lt (z_var 3) z_int) (zw_and1 (z_tcmp zo_gt (z_var 1) z_int)))) (zs_one (z_ret (z_tup (za_cons z_str (za_cons (z_dc0 D__law_roll hr (by first | decide | omega) (by rfl) (za_cons (z_var 0) (za_cons (z_var 1) za_nil))) za_nil))))) zs_nil) (zs_cons (z_if (z_tcmp zo_lt (z_var 3) z_int) (zs_one (z_ret (z_ix (z_lst (za_cons (z_tup (za_cons z_str za_nil)) (za_cons (z_tup (za_cons z_str za_nil)) (za_cons (z_tup (za_cons z_str za_nil)) (za_cons (z_tup (za_cons z_str (za_cons z_str (za_cons (z_tup za_nil) za_nil)))) za_nil))))) (z_dc0 D__law_roll hr (by first | decide | omega) (by rfl) (za_cons (z_var 0) (za_cons z_int za_nil)))))) zs_nil) (zs_cons (z_if (z_tcmp zo_eqF (z_var 3) z_int) (zs_one (z_ret (z_tup (za_cons z_str (za_cons (z_ix (z_lst (za_cons z_str (za_cons z_str za_nil))) (z_dc0 D__law_roll hr (by first | decide | omega) (by rfl) (za_cons (z_var 0) (za_cons z_int za_nil)))) (za_cons (z_tup (za_cons (z_dc0 D__law_kind hr (by first | decide | omega) (by rfl) (za_cons (z_var 0) (za_cons (z_var 1) (za_cons (z_op zo_sub (z_var 2) z_int) za_nil)))) za_nil)) za_nil)))))) zs_nil) (zs_cons (z_if (z_tcmp zo_eqF (z_var 3) z_int) (zs_one (z_ret (z_tup (za_cons (z_ix (z_lst (za_cons z_str (za_cons z_str za_nil))) (z_dc0 D__law_roll hr (by first | decide | omega) (by rfl) (za_cons (z_var 0) (za_cons z_int za_nil)))) (za_cons (z_dc0 D__law_kind hr (by first | decide | omega) (by rfl) (za_cons (z_var 0) (za_cons (z_var 1) (za_cons (z_op zo_sub (z_var 2) z_int) za_nil)))) za_nil))))) zs_nil) (zs_cons (z_ret (z_tup (za_cons (z_ix (z_lst (za_cons z_str (za_cons z_str za_nil))) (z_op zo_sub (z_var 3) z_int)) (za_cons (z_dc0 D__law_kind hr (by first | decide | omega) (by rfl) (za_cons (z_var 0) (za_cons (z_var 1) (za_cons (z_op zo_sub (z_var 2) z_int) za_nil)))) (za_cons (z_dc0 D__law_kind hr (by first | decide | omega) (by rfl) (za_cons (z_var 0) (za_cons (z_var 1) (za_cons (z_op zo_sub (z_var 2) z_int) za_nil)))) za_nil))))) zs_nil)))))), ?_⟩
    walk_at "zr"
    refine r_if84 fun N hN => ?_
    walk_at "zr"
    refine roll_at hd hi N rfl (by omega) (by omega) fun k G1 hk R1 => ?_
    obtain ⟨m1, d1, i1⟩ := R1.dice
    have k8 : k < 8 := by omega
    have dp : 4 ≤ k → 0 < deep := fun h => by omega
    have kids : ∀ G2 (R : Kd → Gp → Prop), Rolled d G G2 → 0 < deep → (∀ a G3, Rolled d G G3 → Dr many (deep - 1) a → Rolled d G2 G3 → R a G3) → spKind n [.ref d, iD many, .int ((deep : Int) - 1)] G2 (fun e G3 => ∃ a, e = kd a ∧ R a G3) X0 := fun G2 R R2 hp q => by
      obtain ⟨m2, d2, i2⟩ := R2.dice
      refine ⟨d, m2, many, deep - 1, by rw [show ((deep : Int) - 1) = ((deep - 1 : Nat) : Int) by omega], d2, i2, hm, by omega, fun a G3 R3 da => ⟨a, rfl, q a G3 (R2.trans R3) da R3⟩⟩
    walk_at "zr"
    have leaf : ∀ Z : ZEnds, Z.rt = Q → zRet (zOp dIx (zLst (zCons (zTup (zCons (zC (D.str "int")) zNil)) (zCons (zTup (zCons (zC (D.str "bool")) zNil)) (zCons (zTup (zCons (zC (D.str "unit")) zNil)) (zCons (zTup (zCons (zC (D.str "data")) (zCons (zC (D.str "shape")) (zCons (zTup zNil) zNil)))) zNil))))) (zCall spRoll X0 (zCons (zVar 0) (zCons (zC (D.int 4)) zNil)))) Z [some (.ref d), some (iD many), some (iD deep), some (iD k)] G1 := fun Z ez => by
      walk_at "zr"
      intro p G2 np h2
      have pd : p ≠ d := fun z => by rw [z, d1] at np; cases np
      have h2i := h2.is
      have d2 := (h2.other d (Ne.symm pd)).trans d1
      walk_at "zr"
      refine roll_at d2 i1 4 rfl (by decide) (by decide) fun j G3 hj R3 => ?_
      have h3 := R3.at_ pd h2i
      have fin : ∀ h, K05.base h → Z.rt (kd (.nd h [])) G3 := fun h hb => by
        rw [ez]
        exact hq _ G3 ((R1.new np h2).trans R3) (.leaf hb)
      match j, hj with
      | 0, _ => exact r_ixD h3 rfl (fin .int (.inl rfl))
      | 1, _ => exact r_ixD h3 rfl (fin .bool (.inr (.inl rfl)))
      | 2, _ => exact r_ixD h3 rfl (fin .unit (.inr (.inr (.inl rfl))))
      | 3, _ => exact r_ixD h3 rfl (fin (.data "shape") (.inr (.inr (.inr rfl))))
    refine r_dec (fun h => ?_) fun h => ?_
    · walk_at "zr"
      refine r_dec (fun h2 => ?_) fun h2 => ?_
      · walk_at "zr"
        refine roll_at d1 i1 many rfl (by omega) (by omega) fun j G2 hj R2 => ?_
        walk_at "zr"
        exact hq (.any (j : Int)) G2 (R1.trans R2) (.any hj)
      · walk_at "zr"
        refine r_dec (fun h3 => ?_) fun h3 => absurd (show (k : Int) < 4 by omega) h3
        exact leaf _ rfl
    · walk_at "zr"
      refine r_dec (fun h3 => ?_) fun h3 => ?_
      · exact leaf _ rfl
      · have hp : 0 < deep := dp (by omega)
        walk_at "zr"
        refine r_ndec (fun h4 => ?_) fun h4 => ?_
        · walk_at "zr"
          intro p G2 np h2
          have pd : p ≠ d := fun z => by rw [z, d1] at np; cases np
          have h2i := h2.is
          have d2 := (h2.other d (Ne.symm pd)).trans d1
          walk_at "zr"
          refine roll_at d2 i1 2 rfl (by decide) (by decide) fun j G3 hj R3 => ?_
          have h3' := R3.at_ pd h2i
          have R13 := (R1.new np h2).trans R3
          obtain ⟨m3, d3, i3⟩ := R13.dice
          match j, hj with
          | 0, _ =>
            refine r_ixD h3' rfl ?_
            walk_at "zr"
            refine ⟨d, m3, many, deep - 1, by rw [show ((deep : Int) - 1) = ((deep - 1 : Nat) : Int) by omega], d3, i3, hm, by omega, fun a G4 R4 da => ?_⟩
            walk_at "zr"
            obtain ⟨dd, rfl⟩ : ∃ dd, deep = dd + 1 := ⟨deep - 1, by omega⟩
            exact hq (.nd (.data "tree") [a]) G4 (R13.trans R4) (.uno (.inr (.inr (.inl rfl))) da)
          | 1, _ =>
            refine r_ixD h3' rfl ?_
            walk_at "zr"
            refine ⟨d, m3, many, deep - 1, by rw [show ((deep : Int) - 1) = ((deep - 1 : Nat) : Int) by omega], d3, i3, hm, by omega, fun a G4 R4 da => ?_⟩
            walk_at "zr"
            obtain ⟨dd, rfl⟩ : ∃ dd, deep = dd + 1 := ⟨deep - 1, by omega⟩
            exact hq (.nd (.data "box") [a]) G4 (R13.trans R4) (.uno (.inr (.inr (.inr rfl))) da)
        · walk_at "zr"
          refine r_ndec (fun h5 => ?_) fun h5 => ?_
          · walk_at "zr"
            intro p G2 np h2
            have pd : p ≠ d := fun z => by rw [z, d1] at np; cases np
            have h2i := h2.is
            have d2 := (h2.other d (Ne.symm pd)).trans d1
            walk_at "zr"
            refine roll_at d2 i1 2 rfl (by decide) (by decide) fun j G3 hj R3 => ?_
            have h3' := R3.at_ pd h2i
            have R13 := (R1.new np h2).trans R3
            obtain ⟨m3, d3, i3⟩ := R13.dice
            match j, hj with
            | 0, _ =>
              refine r_ixD h3' rfl ?_
              walk_at "zr"
              refine ⟨d, m3, many, deep - 1, by rw [show ((deep : Int) - 1) = ((deep - 1 : Nat) : Int) by omega], d3, i3, hm, by omega, fun a G4 R4 da => ?_⟩
              walk_at "zr"
              obtain ⟨dd, rfl⟩ : ∃ dd, deep = dd + 1 := ⟨deep - 1, by omega⟩
              exact hq (.nd (.list) [a]) G4 (R13.trans R4) (.uno (.inl rfl) da)
            | 1, _ =>
              refine r_ixD h3' rfl ?_
              walk_at "zr"
              refine ⟨d, m3, many, deep - 1, by rw [show ((deep : Int) - 1) = ((deep - 1 : Nat) : Int) by omega], d3, i3, hm, by omega, fun a G4 R4 da => ?_⟩
              walk_at "zr"
              obtain ⟨dd, rfl⟩ : ∃ dd, deep = dd + 1 := ⟨deep - 1, by omega⟩
              exact hq (.nd (.ref) [a]) G4 (R13.trans R4) (.uno (.inr (.inl rfl)) da)
          · walk_at "zr"
            intro p G2 np h2
            have pd : p ≠ d := fun z => by rw [z, d1] at np; cases np
            have h2i := h2.is
            have d2 := (h2.other d (Ne.symm pd)).trans d1
            have R12 := R1.new np h2
            walk_at "zr"
            have h4' : (k : Int) ≠ 4 := h4
            have h5' : (k : Int) ≠ 5 := h5
            have k67 : k = 6 ∨ k = 7 := by omega
            rcases k67 with rfl | rfl
            · refine r_ixD (n := 0) h2i rfl ?_
              walk_at "zr"
              refine ⟨d, m1, many, deep - 1, by rw [show ((deep : Int) - 1) = ((deep - 1 : Nat) : Int) by omega], d2, i1, hm, by omega, fun a G4 R4 da => ?_⟩
              obtain ⟨m4, d4, i4⟩ := R4.dice
              walk_at "zr"
              refine ⟨d, m4, many, deep - 1, by rw [show ((deep : Int) - 1) = ((deep - 1 : Nat) : Int) by omega], d4, i4, hm, by omega, fun b G5 R5 db => ?_⟩
              walk_at "zr"
              obtain ⟨dd, rfl⟩ : ∃ dd, deep = dd + 1 := ⟨deep - 1, by omega⟩
              exact hq (.nd .fn [a, b]) G5 ((R12.trans R4).trans R5) (.duo (.inl rfl) da db)
            · refine r_ixD (n := 1) h2i rfl ?_
              walk_at "zr"
              refine ⟨d, m1, many, deep - 1, by rw [show ((deep : Int) - 1) = ((deep - 1 : Nat) : Int) by omega], d2, i1, hm, by omega, fun a G4 R4 da => ?_⟩
              obtain ⟨m4, d4, i4⟩ := R4.dice
              walk_at "zr"
              refine ⟨d, m4, many, deep - 1, by rw [show ((deep : Int) - 1) = ((deep - 1 : Nat) : Int) by omega], d4, i4, hm, by omega, fun b G5 R5 db => ?_⟩
              walk_at "zr"
              obtain ⟨dd, rfl⟩ : ∃ dd, deep = dd + 1 := ⟨deep - 1, by omega⟩
              exact hq (.nd .pair [a, b]) G5 ((R12.trans R4).trans R5) (.duo (.inr rfl) da db)
end
end K05

namespace K05
open PySem PySem.Spec PyProof.Rows L2 Z
local macro_rules | `(tactic| walk_at "zr") => `(tactic| (repeat' (with_reducible first | refine r_asg ?_ | refine r_asgT ?_ | refine r_asgG ?_ | refine r_asg1 ?_ | refine r_if ?_ | refine r_if1 ?_ | refine r_drop ?_ | refine r_drop1 ?_ | refine r_ret ?_ | refine r_ret1 ?_ | refine r_retN ?_ | refine r_nx ?_ | refine r_nx1 ?_ | refine r_bk ?_ | refine r_ct ?_ | refine r_par ?_ | refine r_par1 ?_ | refine r_par3 ?_ | refine r_par31 ?_ | refine r_for ?_ | refine r_for1 ?_ | refine r_sfld ?_ | refine r_sfld1 ?_ | refine r_aug (by with_unfolding_all rfl) ?_ | refine r_aug1 (by with_unfolding_all rfl) ?_ | refine r_var (by with_unfolding_all rfl) ?_ | refine r_c ?_ | refine r_op ?_ | refine r_ifE ?_ | refine r_nil ?_ | refine r_cons ?_ | refine r_tup ?_ | refine r_lst ?_ | refine r_cb ?_ | refine r_call ?_ | refine r_test ?_ | refine r_not ?_ | refine r_and ?_ | refine r_or ?_ | refine r_andV ?_ | refine r_orV ?_ | refine r_notV ?_ | refine r_neg ?_ | refine r_bm ?_ | refine r_bm0 ?_ | refine r_sl ?_ | refine r_part ?_ | refine r_noP ?_ | refine r_chain ?_ | refine r_int2 ?_ | refine r_eqI ?_ | refine r_eqS ?_ | refine r_eqB ?_ | refine r_fInt ?_ | refine r_fIntB ?_ | refine r_fAbs ?_ | refine r_fMin ?_ | refine r_lenT ?_ | refine r_isNN ?_ | refine r_isNI ?_ | refine r_isNT ?_ | refine r_isNR ?_ | refine r_ixT0 ?_ | refine r_ixT1 ?_ | refine r_ixT2 ?_ | refine r_ixT3 ?_ | refine r_fld ?_ | refine r_kfld (by assumption) rfl ?_ | refine r_list ?_ | refine r_klist (by assumption) ?_ | refine r_tupI ?_ | refine r_ktupI ?_ | refine r_yes ?_ | refine r_kctI ?_ | refine r_rng1 ?_ | refine r_rng2 ?_ | refine r_enum ?_ | refine r_kenumT ?_ | refine r_kenum (by assumption) ?_ | refine r_fListT ?_ | refine r_fTupT ?_ | refine r_fListR (by assumption) ?_ | refine r_fTupR (by assumption) ?_ | refine r_lenR (by assumption) ?_ | refine r_rev ?_ | refine r_krevT ?_ | refine r_krev (by assumption) ?_ | refine r_setL ?_ | refine r_dget ?_ | refine r_lc0 ?_ | refine r_name ?_ | refine r_gtup (by with_unfolding_all rfl) ?_ | refine r_gcons ?_ | refine r_gnil ?_ | refine r_din ?_ | refine r_setd ?_ | refine r_ksetdA (by assumption) ?_ | refine r_keysI ?_ | refine r_kkeysI (by assumption) ?_ | refine r_dput ?_ | refine r_dput1 ?_ | refine r_dnewK ?_ | refine r_szc (by with_unfolding_all exact Nat.le_of_ble_eq_true rfl) ?_ | refine r_eqlen (by with_unfolding_all rfl) ?_ | refine r_ifT (by decide) ?_ | refine r_ifF (by decide) ?_ | refine r_inFT (b := false) rfl rfl (by decide) ?_ | refine r_inFT (b := true) rfl rfl (by decide) ?_ | refine r_lrng ?_)))
def pairD (p : Kd × Kd) : D := .tup [kd p.1, kd p.2]
def pairsD (E : Ps) : List D := E.map pairD
def idl (many : Nat) : List Kd := (List.range many).map fun (i : Nat) => Kd.any (i : Int)
def wfP (E : Ps) : Prop := ∀ p ∈ E, wf p.1 ∧ wf p.2
def spAlike (N : Nat) : ZSp := fun ds G Q _ => ∃ (p : Addr) (E0 : Ps) (many : Nat) (V : List Int) (Ls : List Kd), ds = [.ref p, iD many] ∧ G p = some (.lst (pairsD E0)) ∧ many ≤ 10 ∧ wfP E0 ∧ LI E0 many (idl many) E0.reverse V Ls ∧ phi E0.reverse V < 2000 ∧
  ((¬ ∃ θ, SolE θ E0) → ∀ G', Ext G G' → Q .non G') ∧ ∀ q f V' Ls' G', Ext G G' → G' q = some (.lst (kds f)) → LI E0 many f [] V' Ls' → (∀ t ∈ f, wf t) → Q (.ref q) G'
section
variable {E0 : Ps} {many : Nat} {f : List Kd} {l : Ps} {V : List Int} {Ls : List Kd}
theorem LI.wdl (I : LI E0 many f l V Ls) {p : Kd × Kd} (hp : p ∈ l) : wd p.1 ≤ 52 ∧ wd p.2 ≤ 52 := ⟨Nat.le_trans (wd_le (I.inl p hp).1) (by have := I.wsm; omega), Nat.le_trans (wd_le (I.inl p hp).2) (by have := I.wsm; omega)⟩
theorem LI.wdf (I : LI E0 many f l V Ls) {t : Kd} (ht : t ∈ f) : wd t ≤ 52 := Nat.le_trans (wd_le (I.inf t ht)) (by have := I.wsm; omega)
theorem LI.depl (I : LI E0 many f l V Ls) {p : Kd × Kd} (hp : p ∈ l) : dep p.1 ≤ 30 ∧ dep p.2 ≤ 30 := ⟨Nat.le_trans (dep_le (I.inl p hp).1) I.cnt, Nat.le_trans (dep_le (I.inl p hp).2) I.cnt⟩
theorem LI.depf (I : LI E0 many f l V Ls) {t : Kd} (ht : t ∈ f) : dep t ≤ 30 := Nat.le_trans (dep_le (I.inf t ht)) I.cnt
theorem LI.few (I : LI E0 many f l V Ls) {k : Kd} (h : ∀ s ∈ inn k, s ∈ Ls) : ∀ s ∈ inn k, (args s).length ≤ 1000 := fun s hs => by
  obtain ⟨hd, as, rfl, l⟩ := I.lss s (h s hs)
  show as.length ≤ 1000
  omega
end
theorem pl_pair {p : Kd × Kd} (h : wf p.1 ∧ wf p.2) (w : wd p.1 ≤ 52 ∧ wd p.2 ≤ 52) : pl 60 (pairD p) = true := by
  show pl 60 (.tup [kd p.1, kd p.2]) = true
  rw [pl, List.all_cons, List.all_cons, pl_kd _ h.1 59 (by omega), pl_kd _ h.2 59 (by omega)]
  rfl
theorem pairs_pl {l : Ps} (h : ∀ p ∈ l, (wf p.1 ∧ wf p.2) ∧ wd p.1 ≤ 52 ∧ wd p.2 ≤ 52) : (pairsD l).all (pl 60) = true := by
  rw [List.all_eq_true]
  intro d hd
  obtain ⟨p, hp, rfl⟩ := List.mem_map.mp hd
  exact pl_pair (h p hp).1 (h p hp).2
theorem pairsD_len (l : Ps) : (pairsD l).length = l.length := by unfold pairsD; rw [List.length_map]
theorem pairsD_nil {l : Ps} : pairsD l = [] ↔ l = [] := by unfold pairsD; rw [List.map_eq_nil_iff]
theorem idl_wf {many : Nat} : ∀ t ∈ idl many, wf t := fun t ht => by
  obtain ⟨i, _, rfl⟩ := List.mem_map.mp ht
  trivial
structure AS (Eq : Ps) (many : Nat) (P0 : Nat) (G1 : Gp) (f : List Kd) (l : Ps) (V : List Int) (Ls : List Kd) (pf pl1 : Addr) (i : Nat) (G' : Gp) : Prop where
  I : LI Eq many f l V Ls
  ph : phi l V + i ≤ P0
  wl : wfP l
  wff : ∀ t ∈ f, wf t
  e1 : Ext G1 G'
  npl : G1 pl1 = none
  hf : G' pf = some (.lst (kds f))
  hl : G' pl1 = some (.lst (pairsD l.reverse))
  nfl : pf ≠ pl1
def AInv (Eq : Ps) (many : Nat) (P0 : Nat) (G1 : Gp) (p : Addr) (i : Nat) (ρ : ZSt) (G' : Gp) : Prop := ∃ (f : List Kd) (l : Ps) (V : List Int) (Ls : List Kd) (pf pl1 : Addr) (v2 v5 v6 v7 v8 v9 v10 : Option D), AS Eq many P0 G1 f l V Ls pf pl1 i G' ∧
  ρ = [some (.ref p), some (iD many), v2, some (.ref pf), some (.ref pl1), v5, v6, v7, v8, v9, v10]
theorem pairs_get {l : Ps} {i : Nat} {d : D} (h : (pairsD l)[i]? = some d) : ∃ q, l[i]? = some q ∧ d = pairD q := by
  unfold pairsD at h
  rw [List.getElem?_map] at h
  cases e : l[i]? with
  | none => rw [e] at h; cases h
  | some k => rw [e] at h; exact ⟨k, rfl, (Option.some.inj h).symm⟩
theorem putE_rev (x : Int) (t : Kd) (l : Ps) : (putE x t l).reverse = putE x t l.reverse := by unfold putE; rw [List.map_reverse]
section
variable [τ : Tbl] {P : Program} {w : World} {K : PySem.W.Frag} {mg : Str → Option Value} {base : Heap} {CU CK : Addr}
/-- a variable replaced in all -/
theorem alike_elim [β : Bas] {Eq : Ps} {many P0 i : Nat} {G1 Gc : Gp} {f : List Kd} {l : Ps} {V : List Int} {Ls : List Kd} {pf pl1 p : Addr} {v2 v5 v8 v9 v10 : Option D} {x : Int} {t : Kd} {Z : ZEnds} {Q : DK}
    (I : LI Eq many f ((.any x, t) :: l) V Ls) (ne : Kd.any x ≠ t) (hf1 : f.length ≤ 1000) (hl1 : l.length ≤ 2000) (ph : ∀ V' l' Ls' f', LI Eq many f' l' V' Ls' → l'.length = l.length → V'.length + 1 = V.length → phi l' V' + (i + 1) ≤ P0) (wl : wfP l) (wt : wf t) (wff : ∀ t ∈ f, wf t) (e1 : Ext G1 Gc) (hf : Gc pf = some (.lst (kds f))) (hl : Gc pl1 = some (.lst (pairsD l.reverse)))
    (hn : (¬ ∃ θ, SolE θ Eq) → ∀ G', Ext G1 G' → Z.rt .non G') (hz : ∀ ρ G', AInv Eq many P0 G1 p (i + 1) ρ G' → Z.nx ρ G') :
    zSeq (zIfS (zTest (zCall (spWithin 40) X0 (zCons (zOp dIx (zVar 6) (zC (D.int 1))) (zCons (zVar 7) zNil)))) (zRet (zC D.non)) zNext)
      (zSeq (zAsg (zLc (zList (zVar 3)) (zName 8) zYes (zCall (spPut 40) X0 (zCons (zVar 8) (zCons (zOp dIx (zVar 6) (zC (D.int 1))) (zCons (zVar 7) zNil)))) [8]) (zName 3))
        (zSeq (zAsg (zLc (zList (zVar 4)) (zgTup 2 (zgCons (zName 9) (zgCons (zName 10) zgNil))) zYes
            (zTup (zCons (zCall (spPut 40) X0 (zCons (zVar 9) (zCons (zOp dIx (zVar 6) (zC (D.int 1))) (zCons (zVar 7) zNil)))) (zCons (zCall (spPut 40) X0 (zCons (zVar 10) (zCons (zOp dIx (zVar 6) (zC (D.int 1))) (zCons (zVar 7) zNil)))) zNil))) [9, 10]) (zName 4)) zNext))
      Z [some (.ref p), some (iD many), v2, some (.ref pf), some (.ref pl1), v5, some (kd (.any x)), some (kd t), v8, v9, v10] Gc := by
  rw [show kd (.any x) = .tup [.str "any", .int x] from rfl]
  have wdt : wd t ≤ 52 := (I.wdl (p := (.any x, t)) List.mem_cons_self).2
  have dpt : dep t ≤ 30 := (I.depl (p := (.any x, t)) List.mem_cons_self).2
  have ft := I.few (I.inl _ List.mem_cons_self).2
  walk_at "zr"
  refine ⟨t, x, rfl, wt, by show dep t < 40; omega, by show wd t ≤ 60; omega, ft, fun c G2 e2 hc => ?_⟩
  cases c with
  | true =>
    refine r_ifT rfl ?_
    walk_at "zr"
    exact hn (I.occ ne (hc.mp rfl)) G2 (e1.trans e2)
  | false =>
    refine r_ifF rfl ?_
    have nx : x ∉ vars t := fun h => by have := hc.mpr h; cases this
    obtain ⟨V', Ls', I', lv⟩ := I.elim nx
    have hf2 := e2 _ _ hf
    have hl2 := e2 _ _ hl
    walk_at "zr"
    refine ⟨fun j acc G' => Ext G2 G' ∧ acc = kds ((f.take j).map (sub (put1 x t))), ⟨Ext.refl _, rfl⟩, ?_, ?_⟩
    · rintro j d acc G' hj ⟨e3, rfl⟩
      obtain ⟨a, ha, rfl⟩ := kds_get hj
      have am := List.mem_of_getElem? ha
      refine ⟨e3 _ _ hf2, big_lt (by rw [kds_len, List.length_map, List.length_take]; omega), ?_⟩
      walk_at "zr"
      have w1 := I.wdf am
      have w2 := I'.wdf (List.mem_map.mpr ⟨a, am, rfl⟩)
      have w3 := I.depf am
      refine ⟨a, t, x, rfl, wff a am, wt, by omega, by omega, by omega, I.few (I.inf a am), fun G3 e4 => ?_⟩
      refine ⟨e3.trans e4, ?_⟩
      rw [List.take_add_one, ha, List.map_append, kds_map, kds_map, List.map_append]
      rfl
    · rintro acc G3 ⟨e3, rfl⟩
      refine ⟨e3 _ _ hf2, fun pf' G4 npf h4 => ?_⟩
      have h4i := h4.is
      rw [kds_len, List.take_length] at h4i
      have hl4 := (h4.ext npf) _ _ (e3 _ _ hl2)
      have E4 : Ext G1 G4 := e1.trans (e2.trans (e3.trans (h4.ext npf)))
      walk_at "zr"
      refine ⟨fun j acc G' => Ext G4 G' ∧ acc = pairsD ((putE x t l.reverse).take j), ⟨Ext.refl _, rfl⟩, ?_, ?_⟩
      · rintro j d acc G' hj ⟨e5, rfl⟩
        obtain ⟨q, hq, rfl⟩ := pairs_get hj
        have qm : q ∈ l := List.mem_reverse.mp (List.mem_of_getElem? hq)
        refine ⟨e5 _ _ hl4, big_lt (by rw [pairsD_len, List.length_take]; unfold putE; rw [List.length_map, List.length_reverse]; omega), ?_⟩
        unfold pairD
        walk_at "zr"
        have w1 := I.wdl (p := q) (List.mem_cons_of_mem _ qm)
        have w2 : wd (sub (put1 x t) q.1) ≤ 52 ∧ wd (sub (put1 x t) q.2) ≤ 52 := I'.wdl (p := (sub (put1 x t) q.1, sub (put1 x t) q.2)) (List.mem_map.mpr ⟨q, qm, rfl⟩)
        have w3 := I.depl (p := q) (List.mem_cons_of_mem _ qm)
        have iq := I.inl q (List.mem_cons_of_mem _ qm)
        refine ⟨q.1, t, x, rfl, (wl q qm).1, wt, by omega, by omega, by show wd (sub (put1 x t) q.1) ≤ 60; omega, I.few iq.1, fun G5 e6 => ?_⟩
        walk_at "zr"
        refine ⟨q.2, t, x, rfl, (wl q qm).2, wt, by omega, by omega, by show wd (sub (put1 x t) q.2) ≤ 60; omega, I.few iq.2, fun G6 e7 => ?_⟩
        walk_at "zr"
        refine ⟨e5.trans (e6.trans e7), ?_⟩
        have hq2 : (putE x t l.reverse)[j]? = some (sub (put1 x t) q.1, sub (put1 x t) q.2) := by unfold putE; rw [List.getElem?_map, hq]; rfl
        unfold pairsD
        rw [List.take_add_one, hq2, List.map_append]
        rfl
      · rintro acc G5 ⟨e5, rfl⟩
        refine ⟨e5 _ _ hl4, fun pl' G6 npl h6 => ?_⟩
        have h6i := h6.is
        have ll : (pairsD l.reverse).length = (putE x t l.reverse).length := by rw [pairsD_len]; unfold putE; rw [List.length_map]
        rw [ll, List.take_length, ← putE_rev] at h6i
        walk_at "zr"
        have nf : pf' ≠ pl' := fun z => by
          have := e5 _ _ h4i
          rw [z, npl] at this
          cases this
        refine hz _ G6 ⟨_, _, V', Ls', pf', pl', _, _, _, _, _, _, _, ⟨I', ph V' _ Ls' _ I' (by unfold putE; rw [List.length_map]) lv, fun q hq => ?_, fun u hu => ?_, E4.trans (e5.trans (h6.ext npl)), (E4.trans e5).back npl, (h6.ext npl) _ _ (e5 _ _ h4i), h6i, nf⟩, rfl⟩
        · obtain ⟨q0, h0, rfl⟩ := List.mem_map.mp hq
          exact ⟨wf_put (wl q0 h0).1 wt, wf_put (wl q0 h0).2 wt⟩
        · obtain ⟨u0, h0, rfl⟩ := List.mem_map.mp hu
          exact wf_put (wff u0 h0) wt
def kLz (ds : List D) (G1 : Gp) (Q : DK) : Prop := match ds with
  | [.ref a, .ref b] => (match G1 a, G1 b with
    | some (.lst ds), some (.lst es) => ∀ q G2, G1 q = none → Z.At G1 q (.lst (zipD ds es)) G2 → Q (.ref q) G2
    | _, _ => False)
  | _ => False
theorem r_lz {tA : DA} {ρ : ZSt} {G : Gp} {Q : DK} (h : tA ρ G fun ds G1 => kLz ds G1 Q) : Zl.zLz tA ρ G Q := h
theorem r_klz {a b : Addr} {ds es : List D} {G : Gp} {Q : DK} (h1 : G a = some (.lst ds)) (h2 : G b = some (.lst es)) (q : ∀ q G2, G q = none → Z.At G q (.lst (zipD ds es)) G2 → Q (.ref q) G2) : kLz [.ref a, .ref b] G Q := by
  show (match G a, G b with
    | some (.lst ds), some (.lst es) => ∀ q G2, G q = none → Z.At G q (.lst (zipD ds es)) G2 → Q (.ref q) G2
    | _, _ => False)
  rw [h1, h2]
  exact q
theorem zip_pairs : ∀ as bs : List Kd, zipD (kds as) (kds bs) = pairsD (as.zip bs)
  | [], _ => rfl
  | _ :: _, [] => rfl
  | a :: as, b :: bs => by
    have := zip_pairs as bs
    unfold zipD pairsD at this ⊢
    rw [kds, kds, List.zip_cons_cons, List.map_cons, List.zip_cons_cons, List.map_cons, this]
    rfl
theorem pairsD_app (a b : Ps) : pairsD a ++ pairsD b = pairsD (a ++ b) := by unfold pairsD; rw [List.map_append]
/-- both are made of parts -/
theorem alike_dec [β : Bas] {Eq : Ps} {many P0 i : Nat} {G1 Gc : Gp} {f : List Kd} {l : Ps} {V : List Int} {Ls : List Kd} {pf pl1 p : Addr} {v2 v5 v8 v9 v10 : Option D} {h h' : Hd} {as bs : List Kd} {Z : ZEnds} {Q : DK}
    (I : LI Eq many f ((.nd h as, .nd h' bs) :: l) V Ls) (ne : Kd.nd h as ≠ .nd h' bs) (hl1 : l.length ≤ 2000) (ph : phi ((.nd h as, .nd h' bs) :: l) V + i ≤ P0) (wl : wfP l) (wa : wf (.nd h as)) (wb : wf (.nd h' bs)) (wff : ∀ t ∈ f, wf t) (e1 : Ext G1 Gc) (hf : Gc pf = some (.lst (kds f))) (hl : Gc pl1 = some (.lst (pairsD l.reverse)))
    (hn : (¬ ∃ θ, SolE θ Eq) → ∀ G', Ext G1 G' → Z.rt .non G') (hz : ∀ ρ G', AInv Eq many P0 G1 p (i + 1) ρ G' → Z.nx ρ G') :
    zIfS (zTest (zOp (dEqP true) (zVar 6) (zVar 7)))
      (zSeq (zIfS (zOrT (zTest (zOp (dEqF true) (zOp dIx (zVar 6) (zC (D.int 0))) (zOp dIx (zVar 7) (zC (D.int 0)))))
          (zOrT (zAnd (zTest (zOp (dEqF false) (zOp dIx (zVar 6) (zC (D.int 0))) (zC (D.str "data")))) (zTest (zOp (dEqF true) (zOp dIx (zVar 6) (zC (D.int 1))) (zOp dIx (zVar 7) (zC (D.int 1))))))
            (zOrT (zTest (zOp (dEqF true) (zCB fLen (zCons (zCall spLParts X0 (zCons (zVar 6) zNil)) zNil)) (zCB fLen (zCons (zCall spLParts X0 (zCons (zVar 7) zNil)) zNil)))) (zTest (zOp (dEqP false) (zCall spLParts X0 (zCons (zVar 6) zNil)) (zLst zNil))))))
          (zRet (zC D.non)) zNext)
        (zSeq (zAsg (zOp dCat (zVar 4) (Zl.zLz (zCons (zCall spLParts X0 (zCons (zVar 6) zNil)) (zCons (zCall spLParts X0 (zCons (zVar 7) zNil)) zNil)))) (zName 4)) zNext)) zNext
      Z [some (.ref p), some (iD many), v2, some (.ref pf), some (.ref pl1), v5, some (kd (.nd h as)), some (kd (.nd h' bs)), v8, v9, v10] Gc := by
  have wda := I.wdl (p := (.nd h as, .nd h' bs)) List.mem_cons_self
  have la : as.length ≤ 2 := by
    by_cases e : as = []
    · rw [e]; exact Nat.zero_le _
    · obtain ⟨h2, as2, e2, l2⟩ := I.lss _ ((I.inl _ List.mem_cons_self).1 _ (mem_inn.mpr (.inl ⟨e, rfl⟩)))
      cases e2
      exact l2
  have pla := pl_kd _ wa 60 (by have := wda.1; show wd (.nd h as) ≤ 60; exact Nat.le_trans this (by decide))
  have plb := pl_kd _ wb 60 (by have := wda.2; show wd (.nd h' bs) ≤ 60; exact Nat.le_trans this (by decide))
  have kida : ∀ a ∈ as, wf a ∧ wd a ≤ 60 := fun a ha => ⟨(wf_nd.mp wa).2 a ha, Nat.le_trans (wd_child (h := h) ha) (Nat.le_trans wda.1 (by decide))⟩
  obtain ⟨w, rest, nw, ek⟩ := kd_nd h as
  obtain ⟨w', rest', nw', ek'⟩ := kd_nd h' bs
  have ew := kd_word ek
  have ew' := kd_word ek'
  subst ew ew'
  have bad : (h ≠ h' ∨ as.length ≠ bs.length) → ∀ G2, Ext Gc G2 → Z.rt .non G2 := fun c G2 e => hn (I.clash c) G2 (e1.trans e)
  walk_at "zr"
  refine r_eqP pla plb fun c hc => ?_
  walk_at "zr"
  refine r_niff hc (fun e => absurd (kd_inj _ _ e) ne) fun _ => ?_
  have fin : h = h' → as.length = bs.length → ∀ G2, Ext Gc G2 → zSeq (zAsg (zOp dCat (zVar 4) (Zl.zLz (zCons (zCall spLParts X0 (zCons (zVar 6) zNil)) (zCons (zCall spLParts X0 (zCons (zVar 7) zNil)) zNil)))) (zName 4)) zNext
      Z [some (.ref p), some (iD many), v2, some (.ref pf), some (.ref pl1), v5, some (kd (.nd h as)), some (kd (.nd h' bs)), v8, v9, v10] G2 := fun e1' e2' G2 eG => by
    subst e1'
    have nas : as ≠ bs := fun z => ne (by rw [z])
    obtain ⟨I', ph'⟩ := I.dec nas e2'
    have hl2 := eG _ _ hl
    have hf2 := eG _ _ hf
    walk_at "zr"
    refine r_lz ?_
    walk_at "zr"
    refine ⟨.nd h as, rfl, wa, fun b1 G3 n1 h1 => ?_⟩
    walk_at "zr"
    refine ⟨.nd h bs, rfl, wb, fun b2 G4 n2 h2 => ?_⟩
    walk_at "zr"
    refine r_klz ((h2.ext n2) _ _ h1.is) h2.is fun q G5 nq h3 => ?_
    rw [show args (.nd h as) = as from rfl, show args (.nd h bs) = bs from rfl, zip_pairs] at h3
    have hl5 := (h3.ext nq) _ _ ((h2.ext n2) _ _ ((h1.ext n1) _ _ hl2))
    refine r_cat hl5 h3.is (big_ok (by rw [pairsD_len, pairsD_len, List.length_reverse, List.length_zip]; omega)) fun q2 G6 nq2 h4 => ?_
    walk_at "zr"
    have eE : Ext G2 G5 := (h1.ext n1).trans ((h2.ext n2).trans (h3.ext nq))
    have hf5 := eE _ _ hf2
    have h4i := h4.is
    rw [pairsD_app, show l.reverse ++ as.zip bs = ((as.zip bs).reverse ++ l).reverse by rw [List.reverse_append, List.reverse_reverse]] at h4i
    refine hz _ G6 ⟨f, _, V, Ls, pf, q2, _, _, _, _, _, _, _, ⟨I', by omega, fun r hr => ?_, wff, e1.trans (eG.trans (eE.trans (h4.ext nq2))), (e1.trans (eG.trans eE)).back nq2, (h4.ext nq2) _ _ hf5, h4i, fun z => by rw [z, nq2] at hf5; cases hf5⟩, rfl⟩
    rcases List.mem_append.mp hr with hr | hr
    · have hr := List.mem_reverse.mp hr
      exact ⟨(wf_nd.mp wa).2 _ (List.of_mem_zip (a := r.1) (b := r.2) hr).1, (wf_nd.mp wb).2 _ (List.of_mem_zip (a := r.1) (b := r.2) hr).2⟩
    · exact wl r hr
  have lens : h = h' → zOrT (zTest (zOp (dEqF true) (zCB fLen (zCons (zCall spLParts X0 (zCons (zVar 6) zNil)) zNil)) (zCB fLen (zCons (zCall spLParts X0 (zCons (zVar 7) zNil)) zNil)))) (zTest (zOp (dEqP false) (zCall spLParts X0 (zCons (zVar 6) zNil)) (zLst zNil)))
      [some (.ref p), some (iD many), v2, some (.ref pf), some (.ref pl1), v5, some (kd (.nd h as)), some (kd (.nd h' bs)), v8, v9, v10] Gc (fun b G2 => if b = true then Z.rt .non G2 else zSeq (zAsg (zOp dCat (zVar 4) (Zl.zLz (zCons (zCall spLParts X0 (zCons (zVar 6) zNil)) (zCons (zCall spLParts X0 (zCons (zVar 7) zNil)) zNil)))) (zName 4)) zNext
      Z [some (.ref p), some (iD many), v2, some (.ref pf), some (.ref pl1), v5, some (kd (.nd h as)), some (kd (.nd h' bs)), v8, v9, v10] G2) := fun e1' => by
    walk_at "zr"
    refine ⟨.nd h as, rfl, wa, fun b1 G3 n1 h1 => ?_⟩
    walk_at "zr"
    refine r_lenR h1.is ?_
    walk_at "zr"
    refine ⟨.nd h' bs, rfl, wb, fun b2 G4 n2 h2 => ?_⟩
    walk_at "zr"
    refine r_lenR h2.is ?_
    rw [kds_len, kds_len]
    have e4 : Ext Gc G4 := (h1.ext n1).trans (h2.ext n2)
    walk_at "zr"
    refine r_tdec (fun e2 => ?_) fun e2 => ?_
    · have e2' : as.length = bs.length := by have : ((as.length : Nat) : Int) = ((bs.length : Nat) : Int) := e2; omega
      walk_at "zr"
      refine ⟨.nd h as, rfl, wa, fun b3 G5 n3 h3 => ?_⟩
      walk_at "zr"
      intro b4 G6 n4 h4
      have h3i := (h4.ext n4) _ _ h3.is
      refine r_eqL h3i h4.is (pl_all kida) rfl fun c hc => ?_
      walk_at "zr"
      refine r_iff (hc.trans kds_nil) (fun e => ?_) fun _ => ?_
      · exfalso
        have ea : as = [] := e
        subst ea
        have eb : bs = [] := List.length_eq_zero_iff.mp (by rw [← e2']; rfl)
        exact ne (by rw [e1', eb])
      · exact fin e1' e2' G6 (e4.trans ((h3.ext n3).trans (h4.ext n4)))
    · refine r_ifT (b := true) rfl ?_
      exact bad (.inr fun z => e2 (by show ((as.length : Nat) : Int) = ((bs.length : Nat) : Int); rw [z])) G4 e4
  rw [ek, ek'] at lens ⊢
  walk_at "zr"
  refine r_tdec (fun e => ?_) fun e => ?_
  · walk_at "zr"
    have hww : word h = word h' := e
    by_cases hdt : ∃ s, h = .data s
    · obtain ⟨s, rfl⟩ := hdt
      have hd2 : ∃ s', h' = .data s' := by
        cases h' <;> first | exact ⟨_, rfl⟩ | exact absurd hww (by simp only [word]; decide)
      obtain ⟨s', rfl⟩ := hd2
      have er : rest = [.str s, .tup (kds as)] := by
        injection ek with ek
        injection ek with _ ek
        exact ek.symm
      have er' : rest' = [.str s', .tup (kds bs)] := by
        injection ek' with ek'
        injection ek' with _ ek'
        exact ek'.symm
      subst er er'
      refine r_ndec (fun _ => ?_) fun z => absurd rfl z
      walk_at "zr"
      refine r_tdec (fun e2 => ?_) fun e2 => ?_
      · exact lens (by rw [e2])
      · refine r_ifT (b := true) rfl ?_
        exact bad (.inl fun z => e2 (by injection z)) Gc (Ext.refl _)
    · refine r_ndec (fun z => ?_) fun _ => ?_
      · exfalso
        cases h <;> first | exact hdt ⟨_, rfl⟩ | exact absurd z (by simp only [word]; decide)
      · refine r_ifF (b := false) rfl ?_
        have eh : h = h' := by
          cases h <;> cases h' <;> first | rfl | exact absurd hww (by simp only [word]; decide) | exact absurd ⟨_, rfl⟩ hdt
        exact lens eh
  · refine r_ifT (b := true) rfl ?_
    exact bad (.inl fun z => e (by rw [z])) Gc (Ext.refl _)
end
end K05

namespace K05
open PySem PySem.Spec PyProof.Rows L2 Z
local macro_rules | `(tactic| walk_at "zr") => `(tactic| (repeat' (with_reducible first | refine r_asg ?_ | refine r_asgT ?_ | refine r_asgG ?_ | refine r_asg1 ?_ | refine r_if ?_ | refine r_if1 ?_ | refine r_drop ?_ | refine r_drop1 ?_ | refine r_ret ?_ | refine r_ret1 ?_ | refine r_retN ?_ | refine r_nx ?_ | refine r_nx1 ?_ | refine r_bk ?_ | refine r_ct ?_ | refine r_par ?_ | refine r_par1 ?_ | refine r_par3 ?_ | refine r_par31 ?_ | refine r_for ?_ | refine r_for1 ?_ | refine r_sfld ?_ | refine r_sfld1 ?_ | refine r_aug (by with_unfolding_all rfl) ?_ | refine r_aug1 (by with_unfolding_all rfl) ?_ | refine r_var (by with_unfolding_all rfl) ?_ | refine r_c ?_ | refine r_op ?_ | refine r_ifE ?_ | refine r_nil ?_ | refine r_cons ?_ | refine r_tup ?_ | refine r_lst ?_ | refine r_cb ?_ | refine r_call ?_ | refine r_test ?_ | refine r_not ?_ | refine r_and ?_ | refine r_or ?_ | refine r_andV ?_ | refine r_orV ?_ | refine r_notV ?_ | refine r_neg ?_ | refine r_bm ?_ | refine r_bm0 ?_ | refine r_sl ?_ | refine r_part ?_ | refine r_noP ?_ | refine r_chain ?_ | refine r_int2 ?_ | refine r_eqI ?_ | refine r_eqS ?_ | refine r_eqB ?_ | refine r_fInt ?_ | refine r_fIntB ?_ | refine r_fAbs ?_ | refine r_fMin ?_ | refine r_lenT ?_ | refine r_isNN ?_ | refine r_isNI ?_ | refine r_isNT ?_ | refine r_isNR ?_ | refine r_ixT0 ?_ | refine r_ixT1 ?_ | refine r_ixT2 ?_ | refine r_ixT3 ?_ | refine r_fld ?_ | refine r_kfld (by assumption) rfl ?_ | refine r_list ?_ | refine r_klist (by assumption) ?_ | refine r_tupI ?_ | refine r_ktupI ?_ | refine r_yes ?_ | refine r_kctI ?_ | refine r_rng1 ?_ | refine r_rng2 ?_ | refine r_enum ?_ | refine r_kenumT ?_ | refine r_kenum (by assumption) ?_ | refine r_fListT ?_ | refine r_fTupT ?_ | refine r_fListR (by assumption) ?_ | refine r_fTupR (by assumption) ?_ | refine r_lenR (by assumption) ?_ | refine r_rev ?_ | refine r_krevT ?_ | refine r_krev (by assumption) ?_ | refine r_setL ?_ | refine r_dget ?_ | refine r_lc0 ?_ | refine r_name ?_ | refine r_gtup (by with_unfolding_all rfl) ?_ | refine r_gcons ?_ | refine r_gnil ?_ | refine r_din ?_ | refine r_setd ?_ | refine r_ksetdA (by assumption) ?_ | refine r_keysI ?_ | refine r_kkeysI (by assumption) ?_ | refine r_dput ?_ | refine r_dput1 ?_ | refine r_dnewK ?_ | refine r_szc (by with_unfolding_all exact Nat.le_of_ble_eq_true rfl) ?_ | refine r_eqlen (by with_unfolding_all rfl) ?_ | refine r_ifT (by decide) ?_ | refine r_ifF (by decide) ?_ | refine r_inFT (b := false) rfl rfl (by decide) ?_ | refine r_inFT (b := true) rfl rfl (by decide) ?_ | refine r_lrng ?_)))
theorem rngD_get {n i : Nat} {d : D} (h : (rngD 0 n)[i]? = some d) : i < n ∧ d = iD i := by
  unfold rngD at h
  rw [List.getElem?_map] at h
  cases e : (List.range n)[i]? with
  | none => rw [e] at h; cases h
  | some k =>
    rw [e] at h
    have h1 := (List.getElem?_eq_some_iff.mp e).1
    have h2 := (List.getElem?_eq_some_iff.mp e).2
    rw [List.length_range] at h1
    rw [List.getElem_range] at h2
    subst h2
    refine ⟨h1, ?_⟩
    rw [← Option.some.inj h]
    show D.int _ = D.int _
    congr 1
    omega
theorem rngD_len (n : Nat) : (rngD 0 n).length = n := by unfold rngD; rw [List.length_map, List.length_range]
theorem idl_get {many i : Nat} (h : i < many) : (idl many)[i]? = some (.any (i : Int)) := by
  unfold idl
  rw [List.getElem?_map, List.getElem?_range h]
  rfl
theorem idl_len (many : Nat) : (idl many).length = many := by unfold idl; rw [List.length_map, List.length_range]
theorem pop_tail {ds : List D} {d : D} {l : Ps} {q : Kd × Kd} (e : ds = pairsD ((q :: l).reverse)) : ds = pairsD l.reverse ++ [pairD q] := by
  rw [e, List.reverse_cons]
  unfold pairsD
  rw [List.map_append]
  rfl
section
variable [τ : Tbl] {P : Program} {w : World} {K : PySem.W.Frag} {mg : Str → Option Value} {base : Heap} {CU CK : Addr}
theorem ok_Alike {f : Addr} {fd : FuncData} (FF : Fun K "_law_alike" "_law_alike" s__law_alike f fd) (T : Txt K mg CU CK) (D__law_parts : Dfn P w K mg base "_law_parts" 1 ["kind"] spLParts) (D__law_put : Dfn P w K mg base "_law_put" 42 ["kind", "number", "other"] (spPut 40))
    (D__law_within : Dfn P w K mg base "_law_within" 42 ["number", "kind"] (spWithin 40)) : FnOk P w K mg base (L2.CX P w) 43 f fd ["pairs", "many"] (upSp K (spAlike 40)) :=
    z_fn FF sc__law_alike (fun ds G Q E h => by obtain ⟨_, _, _, _, _, rfl, _⟩ := h; rfl) fun bas cdv A outer s H E hr ds G Q E0 hE hz => by
    obtain ⟨p, Eq, many, V0, Ls0, rfl, hp, hm, wf0, I0, ph0, hn, hq⟩ := hz
    refine ⟨_, (zs_cons (z_par (i := 3) (j := 4) rfl sc__law_alike.nd rfl rfl (by decide) rfl rfl (za_cons (z_lc (own := [("k", 2)]) rfl sc__law_alike.nd (zi_rng1 (by rfl) T.z_range (za_cons (z_var 1) za_nil)) (blkOk_by (by rfl)) (grel_name (by decide)) (fun _ _ _ _ _ => (pg_name (i := 2) sc__law_alike.nd rfl (Or.inl rfl))) (fun _ _ _ _ _ => zts_nil) (fun _ _ _ _ _ => (z_tup (za_cons z_str (za_cons (z_var 2) za_nil))))) (za_cons (z_callTy zf_list (by rfl) T.z_list (by rfl) (za_cons (z_var 0) za_nil)) za_nil)) (by rfl)) (zs_cons (z_for (passes_of (by rfl)) rfl (zi_rng1 (by rfl) T.z_range (za_cons z_int za_nil)) (zg_name (i := 5) sc__law_alike.nd rfl (Or.inl rfl)) (zs_cons (z_if (z_tcmp (zo_eqP hr.units) (z_var 4) (z_lst za_nil)) (zs_one (z_ret (z_var 3))) zs_nil) (zs_cons (z_asg (z_bm0 PySem.F.plainAttrs_list PySem.F.slot_list_pop PySem.F.type_list_pop zm_pop (z_var 4)) (zg_tup (n := 2) rfl (zgs_cons (zg_name (i := 6) sc__law_alike.nd rfl (Or.inr rfl)) (zgs_cons (zg_name (i := 7) sc__law_alike.nd rfl (Or.inr rfl)) zgs_nil)))) (zs_cons (z_if (zw_t (zw_and (z_tcmp (zo_neP hr.units) (z_var 6) (z_var 7)) (zw_and1 (z_tcmp zo_eqF (z_ix (z_var 7) z_int) z_str)))) (zs_one (z_asg (z_tup (za_cons (z_var 7) (za_cons (z_var 6) za_nil))) (zg_tup (n := 2) rfl (zgs_cons (zg_name (i := 6) sc__law_alike.nd rfl (Or.inr rfl)) (zgs_cons (zg_name (i := 7) sc__law_alike.nd rfl (Or.inr rfl)) zgs_nil))))) zs_nil) (zs_cons (z_if (zw_t (zw_and (z_tcmp (zo_neP hr.units) (z_var 6) (z_var 7)) (zw_and1 (z_tcmp zo_eqF (z_ix (z_var 6) z_int) z_str)))) (zs_cons (z_if (z_val (z_dc0 D__law_within hr (by first | decide | omega) (by rfl) (za_cons (z_ix (z_var 6) z_int) (za_cons (z_var 7) za_nil)))) (zs_one (z_ret z_non)) zs_nil) (zs_cons (z_setLc (own := [("kind", 8)]) (i := 3) rfl sc__law_alike.nd rfl rfl (by rfl) (zi_list (z_var 3)) (blkOk_by (by rfl)) (grel_name (by decide)) (fun _ _ _ _ _ => (pg_name (i := 8) sc__law_alike.nd rfl (Or.inl rfl))) (fun _ _ _ _ _ => zts_nil) (fun _ _ _ _ _ => (z_dc0 D__law_put hr (by first | decide | omega) (by rfl) (za_cons (z_var 8) (za_cons (z_ix (z_var 6) z_int) (za_cons (z_var 7) za_nil)))))) (zs_cons (z_setLc (own := [("a", 9), ("b", 10)]) (i := 4) rfl sc__law_alike.nd rfl rfl (by rfl) (zi_list (z_var 4)) (blkOk_by (by rfl)) (grel_tup (gsrel_cons (grel_name (by decide)) (gsrel_cons (grel_name (by decide)) gsrel_nil))) (fun _ _ _ _ _ => (pg_tup (n := 2) rfl (pgs_cons (pg_name (i := 9) sc__law_alike.nd rfl (Or.inl rfl)) (pgs_cons (pg_name (i := 10) sc__law_alike.nd rfl (Or.inl rfl)) pgs_nil)))) (fun _ _ _ _ _ => zts_nil) (fun _ _ _ _ _ => (z_tup (za_cons (z_dc0 D__law_put hr (by first | decide | omega) (by rfl) (za_cons (z_var 9) (za_cons (z_ix (z_var 6) z_int) (za_cons (z_var 7) za_nil)))) (za_cons (z_dc0 D__law_put hr (by first | decide | omega) (by rfl) (za_cons (z_var 10) (za_cons (z_ix (z_var 6) z_int) (za_cons (z_var 7) za_nil)))) za_nil))))) zs_nil))) (zs_one (z_if (z_tcmp (zo_neP hr.units) (z_var 6) (z_var 7)) (zs_cons (z_if (zw_t (zw_or (z_tcmp zo_neF (z_ix (z_var 6) z_int) (z_ix (z_var 7) z_int)) (zw_or (zw_t (zw_and (z_tcmp zo_eqF (z_ix (z_var 6) z_int) z_str) (zw_and1 (z_tcmp zo_neF (z_ix (z_var 6) z_int) (z_ix (z_var 7) z_int))))) (zw_or (z_tcmp zo_neF (z_callB zf_len (by rfl) T.z_len (by rfl) (za_cons (z_dc0 D__law_parts hr (by first | decide | omega) (by rfl) (za_cons (z_var 6) za_nil)) za_nil)) (z_callB zf_len (by rfl) T.z_len (by rfl) (za_cons (z_dc0 D__law_parts hr (by first | decide | omega) (by rfl) (za_cons (z_var 7) za_nil)) za_nil))) (zw_or1 (z_tcmp (zo_eqP hr.units) (z_dc0 D__law_parts hr (by first | decide | omega) (by rfl) (za_cons (z_var 6) za_nil)) (z_lst za_nil))))))) (zs_one (z_ret z_non)) zs_nil) (zs_cons (z_set (i := 4) sc__law_alike.nd rfl (Or.inl rfl) (z_op zo_cat (z_var 4) (Zl.z_listZip (by rfl) T.z_list (by rfl) T.z_zip (za_cons (z_dc0 D__law_parts hr (by first | decide | omega) (by rfl) (za_cons (z_var 6) za_nil)) (za_cons (z_dc0 D__law_parts hr (by first | decide | omega) (by rfl) (za_cons (z_var 7) za_nil)) za_nil))))) zs_nil)) zs_nil))) zs_nil))))) (zs_cons (z_ret z_non) zs_nil))), ?_⟩
    walk_at "zr"
    refine r_krng1 (by omega) ?_
    refine ⟨fun i acc G' => G' = G ∧ acc = kds ((idl many).take i), ⟨rfl, rfl⟩, ?_, ?_⟩
    · rintro i d acc G' hi ⟨rfl, rfl⟩
      obtain ⟨him, rfl⟩ := rngD_get hi
      refine ⟨trivial, big_lt (by rw [kds_len, List.length_take, idl_len]; omega), ?_⟩
      walk_at "zr"
      refine ⟨rfl, ?_⟩
      rw [List.take_add_one, idl_get him, kds_map, kds_map, List.map_append]
      rfl
    · rintro acc G1 ⟨rfl, rfl⟩
      refine ⟨trivial, fun pf G2 npf h2 => ?_⟩
      have h2i := h2.is
      rw [rngD_len, List.take_of_length_le (by rw [idl_len]; exact Nat.le_refl _)] at h2i
      have hp2 := h2.ext npf _ _ hp
      walk_at "zr"
      intro pl0 G3 npl h3
      have h3i := h3.is
      have pfl : pf ≠ pl0 := fun z => by rw [← z, h2i] at npl; cases npl
      have e3 : Ext G1 G3 := (h2.ext npf).trans (h3.ext npl)
      walk_at "zr"
      refine r_krng1 (n := 2000) (by decide) ?_
      refine ⟨AInv Eq many (phi Eq.reverse V0) G1 p, ⟨idl many, Eq.reverse, V0, Ls0, pf, pl0, _, _, _, _, _, _, _, ⟨I0, Nat.le_refl _, fun q hq => wf0 q (List.mem_reverse.mp hq), idl_wf, e3, (h2.ext npf).back npl, (h3.ext npl) _ _ h2i, by rw [List.reverse_reverse]; exact h3i, pfl⟩, rfl⟩, ?_, ?_⟩
      · rintro i d ρ G' hi ⟨f, l, V, Ls, pf, pl1, v2, v5, v6, v7, v8, v9, v10, ⟨I, hph, wl, wff, e1, npl1, hpf, hpl, nfl⟩, rfl⟩
        refine ⟨trivial, ?_⟩
        walk_at "zr"
        intro z G4 nz h4
        have e4 := h4.ext nz
        have E4 := e1.trans e4
        walk_at "zr"
        refine r_eqL (e4 _ _ hpl) h4.is (pairs_pl fun q hq => by rw [List.mem_reverse] at hq; exact ⟨wl q hq, I.wdl hq⟩) rfl fun c hc => ?_
        walk_at "zr"
        refine r_iff (hc.trans pairsD_nil) (fun e => ?_) fun ne => ?_
        · have el : l = [] := by simpa using e
          subst el
          walk_at "zr"
          exact hq pf f V Ls G4 E4 (e4 _ _ hpf) I wff
        · cases l with
          | nil => exact absurd rfl ne
          | cons q l =>
            have ll : l.length ≤ 2000 := by have : (q :: l).length ≤ phi (q :: l) V := by unfold phi; omega
                                            rw [List.length_cons] at this; omega
            have lf : f.length ≤ 1000 := by rw [I.len]; omega
            have wq := wl q List.mem_cons_self
            have wl' : wfP l := fun r hr => wl r (List.mem_cons_of_mem _ hr)
            have hpl4 : G4 pl1 = some (.lst (pairsD l.reverse ++ [pairD q])) := by
              rw [e4 _ _ hpl]
              congr 2
              exact pop_tail (d := .non) rfl
            walk_at "zr"
            refine ⟨r_tyL hpl4, ?_⟩
            refine r_pop hpl4 fun G5 h5 => ?_
            have h5i := h5.is
            have e5 : Ext G1 G5 := fun b m hb => by
              by_cases h : b = pl1
              · rw [h, npl1] at hb; cases hb
              · exact (h5.other b h).trans (E4 b m hb)
            have hpf5 : G5 pf = some (.lst (kds f)) := (h5.other pf nfl).trans (e4 _ _ hpf)
            obtain ⟨a, b⟩ := q
            have wqa : wf a ∧ wf b := wq
            have wda : wd a ≤ 52 ∧ wd b ≤ 52 := I.wdl (p := (a, b)) List.mem_cons_self
            have pa := pl_kd a wqa.1 60 (by omega)
            have pb := pl_kd b wqa.2 60 (by omega)
            show (match pairD (a, b) with | .tup ds => ds.length = 2 ∧ _ | _ => False)
            unfold pairD
            refine ⟨rfl, ?_⟩
            walk_at "zr"
            refine r_eqP pa pb fun c2 hc2 => ?_
            have hc2 : c2 = true ↔ a = b := hc2.trans ⟨kd_inj a b, fun h => by rw [h]⟩
            walk_at "zr"
            refine r_niff hc2 (fun eab => ?_) fun nab => ?_
            · subst eab
              obtain ⟨I', ph'⟩ := I.same
              walk_at "zr"
              refine r_eqP pa pa fun c3 hc3 => ?_
              walk_at "zr"
              refine r_niff hc3 (fun _ => ?_) fun h => absurd rfl h
              walk_at "zr"
              refine r_eqP pa pa fun c4 hc4 => ?_
              walk_at "zr"
              refine r_niff hc4 (fun _ => ?_) fun h => absurd rfl h
              walk_at "zr"
              exact ⟨f, l, V, Ls, pf, pl1, _, _, _, _, _, _, _, ⟨I', by omega, wl', wff, e5, npl1, hpf5, h5i, nfl⟩, rfl⟩
            · have ph2 : ∀ V' l' Ls' f', LI Eq many f' l' V' Ls' → l'.length = l.length → V'.length + 1 = V.length → phi l' V' + (i + 1) ≤ phi Eq.reverse V0 := fun V' l' Ls' f' I2 h1 h2 => by
                have := phi_swap I V' l' Ls' f' I2 h1 h2
                omega
              cases b with
              | any y =>
                have nb : Kd.any y ≠ a := fun h => nab h.symm
                have go := fun (Z : ZEnds) (v5 v8 v9 v10 : Option D) hn hz => alike_elim (i := i) (p := p) (v2 := v2) (v5 := v5) (v8 := v8) (v9 := v9) (v10 := v10) (Z := Z) (Q := Q) I.swap nb lf ll ph2 wl' wqa.1 wff e5 hpf5 h5i hn hz
                rw [show kd (.any y) = .tup [.str "any", .int y] from rfl] at pb go ⊢
                walk_at "zr"
                refine r_eqP pb pa fun c3 hc3 => ?_
                walk_at "zr"
                refine r_niff hc3 (fun h => absurd (kd_inj (.any y) a h) nb) fun _ => ?_
                walk_at "zr"
                exact go _ _ _ _ _ (fun h G' e => hn h G' e) fun ρ G' h => h
              | nd h' bs =>
                obtain ⟨wb, restb, nwb, ekb⟩ := kd_nd h' bs
                cases a with
                | any x =>
                  have go := fun (Z : ZEnds) (v5 v8 v9 v10 : Option D) hn hz => alike_elim (i := i) (p := p) (v2 := v2) (v5 := v5) (v8 := v8) (v9 := v9) (v10 := v10) (Z := Z) (Q := Q) I nab lf ll ph2 wl' wqa.2 wff e5 hpf5 h5i hn hz
                  rw [show kd (.any x) = .tup [.str "any", .int x] from rfl] at pa go ⊢
                  rw [ekb] at pb go ⊢
                  walk_at "zr"
                  refine r_ndec (fun e => absurd e nwb) fun _ => ?_
                  walk_at "zr"
                  refine r_eqP pa pb fun c3 hc3 => ?_
                  walk_at "zr"
                  refine r_niff hc3 (fun h => absurd (kd_inj (.any x) (.nd h' bs) (h.trans ekb.symm)) nab) fun _ => ?_
                  walk_at "zr"
                  exact go _ _ _ _ _ (fun h G' e => hn h G' e) fun ρ G' h => h
                | nd h as =>
                  obtain ⟨wa, resta, nwa, eka⟩ := kd_nd h as
                  have go := fun (Z : ZEnds) (v5 v8 v9 v10 : Option D) hn hz => alike_dec (i := i) (p := p) (v2 := v2) (v5 := v5) (v8 := v8) (v9 := v9) (v10 := v10) (Z := Z) (Q := Q) I nab ll hph wl' wqa.1 wqa.2 wff e5 hpf5 h5i hn hz
                  rw [ekb] at pb go ⊢
                  rw [eka] at pa go ⊢
                  walk_at "zr"
                  refine r_ndec (fun e => absurd e nwb) fun _ => ?_
                  walk_at "zr"
                  refine r_eqP pa pb fun c3 hc3 => ?_
                  walk_at "zr"
                  refine r_niff hc3 (fun h => absurd (kd_inj (.nd _ as) (.nd h' bs) (eka.trans (h.trans ekb.symm))) nab) fun _ => ?_
                  walk_at "zr"
                  refine r_ndec (fun e => absurd e nwa) fun _ => ?_
                  exact go _ _ _ _ _ (fun h G' e => hn h G' e) fun ρ G' h => h
      · rintro ρ G' ⟨f, l, V, Ls, pf, pl1, v2, v5, v6, v7, v8, v9, v10, ⟨I, hph, wl, wff, e1, npl1, hpf, hpl, nfl⟩, rfl⟩
        rw [rngD_len] at hph
        omega
end
end K05

namespace K05
open PySem PySem.Spec PyProof.Rows L2 Z
local macro_rules | `(tactic| walk_at "zr") => `(tactic| (repeat' (with_reducible first | refine r_asg ?_ | refine r_asgT ?_ | refine r_asgG ?_ | refine r_asg1 ?_ | refine r_if ?_ | refine r_if1 ?_ | refine r_drop ?_ | refine r_drop1 ?_ | refine r_ret ?_ | refine r_ret1 ?_ | refine r_retN ?_ | refine r_nx ?_ | refine r_nx1 ?_ | refine r_bk ?_ | refine r_ct ?_ | refine r_par ?_ | refine r_par1 ?_ | refine r_par3 ?_ | refine r_par31 ?_ | refine r_for ?_ | refine r_for1 ?_ | refine r_sfld ?_ | refine r_sfld1 ?_ | refine r_aug (by with_unfolding_all rfl) ?_ | refine r_aug1 (by with_unfolding_all rfl) ?_ | refine r_var (by with_unfolding_all rfl) ?_ | refine r_c ?_ | refine r_op ?_ | refine r_ifE ?_ | refine r_nil ?_ | refine r_cons ?_ | refine r_tup ?_ | refine r_lst ?_ | refine r_cb ?_ | refine r_call ?_ | refine r_test ?_ | refine r_not ?_ | refine r_and ?_ | refine r_or ?_ | refine r_andV ?_ | refine r_orV ?_ | refine r_notV ?_ | refine r_neg ?_ | refine r_bm ?_ | refine r_bm0 ?_ | refine r_sl ?_ | refine r_part ?_ | refine r_noP ?_ | refine r_chain ?_ | refine r_int2 ?_ | refine r_eqI ?_ | refine r_eqS ?_ | refine r_eqB ?_ | refine r_fInt ?_ | refine r_fIntB ?_ | refine r_fAbs ?_ | refine r_fMin ?_ | refine r_lenT ?_ | refine r_isNN ?_ | refine r_isNI ?_ | refine r_isNT ?_ | refine r_isNR ?_ | refine r_ixT0 ?_ | refine r_ixT1 ?_ | refine r_ixT2 ?_ | refine r_ixT3 ?_ | refine r_fld ?_ | refine r_kfld (by assumption) rfl ?_ | refine r_list ?_ | refine r_klist (by assumption) ?_ | refine r_tupI ?_ | refine r_ktupI ?_ | refine r_yes ?_ | refine r_kctI ?_ | refine r_rng1 ?_ | refine r_rng2 ?_ | refine r_enum ?_ | refine r_kenumT ?_ | refine r_kenum (by assumption) ?_ | refine r_fListT ?_ | refine r_fTupT ?_ | refine r_fListR (by assumption) ?_ | refine r_fTupR (by assumption) ?_ | refine r_lenR (by assumption) ?_ | refine r_rev ?_ | refine r_krevT ?_ | refine r_krev (by assumption) ?_ | refine r_setL ?_ | refine r_dget ?_ | refine r_lc0 ?_ | refine r_name ?_ | refine r_gtup (by with_unfolding_all rfl) ?_ | refine r_gcons ?_ | refine r_gnil ?_ | refine r_din ?_ | refine r_setd ?_ | refine r_ksetdA (by assumption) ?_ | refine r_keysI ?_ | refine r_kkeysI (by assumption) ?_ | refine r_dput ?_ | refine r_dput1 ?_ | refine r_dnewK ?_ | refine r_szc (by with_unfolding_all exact Nat.le_of_ble_eq_true rfl) ?_ | refine r_eqlen (by with_unfolding_all rfl) ?_ | refine r_ifT (by decide) ?_ | refine r_ifF (by decide) ?_ | refine r_inFT (b := false) rfl rfl (by decide) ?_ | refine r_inFT (b := true) rfl rfl (by decide) ?_ | refine r_lrng ?_)))
/-! ### numbered together -/
def chain (l : List Kd) : Kd := l.foldl (fun w k => .nd .pair [w, k]) (.nd .unit [])
theorem chain_snoc (l : List Kd) (k : Kd) : chain (l ++ [k]) = .nd .pair [chain l, k] := by unfold chain; rw [List.foldl_append]; rfl
theorem chain_ind {p : Kd → Prop} (h0 : p (.nd .unit [])) (h1 : ∀ w k, p w → p k → p (.nd .pair [w, k])) : ∀ l : List Kd, (∀ k ∈ l, p k) → p (chain l) := fun l hl => by
  have : ∀ (l : List Kd) (w : Kd), p w → (∀ k ∈ l, p k) → p (l.foldl (fun w k => .nd .pair [w, k]) w) := fun l => by
    induction l with
    | nil => intro w hw _; exact hw
    | cons k l ih => intro w hw hl; exact ih _ (h1 w k hw (hl k List.mem_cons_self)) fun a ha => hl a (List.mem_cons_of_mem _ ha)
  exact this l _ h0 hl
theorem chain_wf {l : List Kd} (h : ∀ k ∈ l, wf k) : wf (chain l) := chain_ind (wf_nd.mpr ⟨rfl, fun a ha => (by cases ha)⟩) (fun w k hw hk => wf_nd.mpr ⟨rfl, fun a ha => by
  rcases List.mem_cons.mp ha with rfl | ha
  · exact hw
  · rw [List.mem_singleton.mp ha]; exact hk⟩) l h
theorem chain_vars {l : List Kd} {S : Int → Prop} (h : ∀ k ∈ l, ∀ x ∈ vars k, S x) : ∀ x ∈ vars (chain l), S x := chain_ind (p := fun k => ∀ x ∈ vars k, S x) (fun x hx => (by rw [vars, varss] at hx; cases hx)) (fun w k hw hk x hx => by
  obtain ⟨a, ha, hx⟩ := vars_nd.mp hx
  rcases List.mem_cons.mp ha with e | ha
  · rw [e] at hx; exact hw x hx
  · rw [List.mem_singleton.mp ha] at hx; exact hk x hx) l h
theorem chain_few {l : List Kd} (h : ∀ k ∈ l, ∀ s ∈ inn k, (args s).length ≤ 1000) : ∀ s ∈ inn (chain l), (args s).length ≤ 1000 := chain_ind (p := fun k => ∀ s ∈ inn k, (args s).length ≤ 1000) (fun s hs => (by cases hs)) (fun w k hw hk s hs => by
  rcases mem_inn.mp hs with ⟨_, e⟩ | ⟨a, ha, hs⟩
  · rw [e]; show 2 ≤ 1000; decide
  · rcases List.mem_cons.mp ha with e | ha
    · rw [e] at hs; exact hw s hs
    · rw [List.mem_singleton.mp ha] at hs; exact hk s hs) l h
theorem chain_wd {n : Nat} : ∀ l : List Kd, (∀ k ∈ l, wd k ≤ n) → 1 ≤ n → wd (chain l) ≤ l.length + n := fun l => by
  have : ∀ (l : List Kd) (w : Kd) (m : Nat), wd w ≤ m + n → (∀ k ∈ l, wd k ≤ n) → wd (l.foldl (fun w k => .nd .pair [w, k]) w) ≤ l.length + m + n := fun l => by
    induction l with
    | nil => intro w m hw _; simpa using hw
    | cons k l ih =>
      intro w m hw hl
      have h1 := hl k List.mem_cons_self
      have := ih (.nd .pair [w, k]) (m + 1) (by rw [wd, wds, wds, wds, show wt .pair = 1 from rfl]; omega) fun a ha => hl a (List.mem_cons_of_mem _ ha)
      rw [List.foldl_cons, List.length_cons]
      omega
  intro hl h1
  have := this l (.nd .unit []) 0 (by rw [wd, wds, show wt .unit = 1 from rfl]; omega) hl
  exact this
theorem chain_dep {n : Nat} : ∀ l : List Kd, (∀ k ∈ l, dep k ≤ n) → dep (chain l) ≤ l.length + n := fun l => by
  have : ∀ (l : List Kd) (w : Kd) (m : Nat), dep w ≤ m + n → (∀ k ∈ l, dep k ≤ n) → dep (l.foldl (fun w k => .nd .pair [w, k]) w) ≤ l.length + m + n := fun l => by
    induction l with
    | nil => intro w m hw _; simpa using hw
    | cons k l ih =>
      intro w m hw hl
      have h1 := hl k List.mem_cons_self
      have := ih (.nd .pair [w, k]) (m + 1) (by rw [dep, deps, deps, deps]; omega) fun a ha => hl a (List.mem_cons_of_mem _ ha)
      rw [List.foldl_cons, List.length_cons]
      omega
  intro hl
  exact this l (.nd .unit []) 0 (by rw [dep, deps]; omega) hl
theorem chain_sub (σ : Int → Kd) (l : List Kd) : sub σ (chain l) = chain (l.map (sub σ)) := by
  have : ∀ (l : List Kd) (w : Kd), sub σ (l.foldl (fun w k => .nd .pair [w, k]) w) = (l.map (sub σ)).foldl (fun w k => .nd .pair [w, k]) (sub σ w) := fun l => by
    induction l with
    | nil => intro w; rfl
    | cons k l ih =>
      intro w
      rw [List.foldl_cons, ih, sub_nd]
      rfl
  exact this l _
/- variables alone replaced -/
def isRen (σ : Int → Kd) : Prop := ∀ x, ∃ m, σ x = .any m
theorem wd_ren {σ : Int → Kd} (h : isRen σ) : ∀ k, wd (sub σ k) = wd k := Kd.ind (fun n => by obtain ⟨m, e⟩ := h n; show wd (σ n) = _; rw [e]; rfl) fun hd as ih => by
  rw [sub_nd, wd.eq_2, wd.eq_2]
  have : ∀ l : List Kd, (∀ a ∈ l, wd (sub σ a) = wd a) → wds (l.map (sub σ)) = wds l := fun l => by
    induction l with
    | nil => intro _; rfl
    | cons a l ih2 =>
      intro hl
      rw [List.map_cons, wds, wds, ih2 fun b hb => hl b (List.mem_cons_of_mem _ hb), hl a List.mem_cons_self]
  rw [this as ih]
theorem dep_ren {σ : Int → Kd} (h : isRen σ) : ∀ k, dep (sub σ k) = dep k := Kd.ind (fun n => by obtain ⟨m, e⟩ := h n; show dep (σ n) = _; rw [e]; rfl) fun hd as ih => by
  rw [sub_nd, dep.eq_2, dep.eq_2]
  have : ∀ l : List Kd, (∀ a ∈ l, dep (sub σ a) = dep a) → deps (l.map (sub σ)) = deps l := fun l => by
    induction l with
    | nil => intro _; rfl
    | cons a l ih2 =>
      intro hl
      rw [List.map_cons, deps, deps, ih2 fun b hb => hl b (List.mem_cons_of_mem _ hb), hl a List.mem_cons_self]
  rw [this as ih]
theorem few_ren {σ : Int → Kd} (h : isRen σ) {k : Kd} (f : ∀ s ∈ inn k, (args s).length ≤ 1000) : ∀ s ∈ inn (sub σ k), (args s).length ≤ 1000 := fun s hs => by
  rcases inn_sub k hs with ⟨s0, h0, e⟩ | ⟨y, hy, hs⟩
  · have := f s0 h0
    rw [e]
    cases s0 with
    | any n => obtain ⟨m, e⟩ := h n; show (args (σ n)).length ≤ _; rw [e]; exact Nat.zero_le _
    | nd hd as => rw [sub_nd]; show (as.map (sub σ)).length ≤ _; rw [List.length_map]; exact this
  · obtain ⟨m, e⟩ := h y
    rw [e] at hs
    cases hs
theorem wf_ren {σ : Int → Kd} (h : isRen σ) {k : Kd} (w : wf k) : wf (sub σ k) := wf_sub k w fun x _ => by obtain ⟨m, e⟩ := h x; rw [e]; trivial
theorem put_ren (x n : Int) : isRen (put1 x (.any n)) := fun y => by
  unfold put1
  split
  · exact ⟨_, rfl⟩
  · exact ⟨_, rfl⟩
theorem ren_ren (rows : List (Int × Int)) : isRen (ren rows) := fun y => ⟨_, rfl⟩
theorem seqp_app {a b : List (Int × Int)} {k : Kd} : seqp (a ++ b) k = seqp b (seqp a k) := by
  induction a generalizing k with
  | nil => rfl
  | cons p a ih => obtain ⟨x, n⟩ := p; rw [List.cons_append, seqp, seqp, ih]
theorem seqp_ind {q : Kd → Prop} (h : ∀ x n k, q k → q (sub (put1 x (.any n)) k)) : ∀ (r : List (Int × Int)) (k : Kd), q k → q (seqp r k)
  | [], _, hk => hk
  | (x, n) :: r, k, hk => seqp_ind h r _ (h x n k hk)
def spNumd : ZSp := fun ds G Q _ => ∃ (p : Addr) (l : List Kd) (W : List Int), ds = [.ref p] ∧ G p = some (.lst (kds l)) ∧ (∀ k ∈ l, wf k) ∧ (∀ k ∈ l, ∀ s ∈ inn k, (args s).length ≤ 1000) ∧ wd (chain l) ≤ 60 ∧ dep (chain l) < 40 ∧ (∀ k ∈ l, ∀ x ∈ vars k, x ∈ W) ∧ W.length ≤ 1000 ∧ ∀ G', Ext G G' → Q (kd (numd (chain l))) G'
section
variable [τ : Tbl] {P : Program} {w : World} {K : PySem.W.Frag} {mg : Str → Option Value} {base : Heap} {CU CK : Addr}
theorem ok_Numd {f : Addr} {fd : FuncData} (FF : Fun K "_law_numbered" "_law_numbered" s__law_numbered f fd) (T : Txt K mg CU CK) (D__law_gather : Dfn P w K mg base "_law_gather" 42 ["kind", "order"] (spLGath 40)) (D__law_put : Dfn P w K mg base "_law_put" 42 ["kind", "number", "other"] (spPut 40)) :
    FnOk P w K mg base (L2.CX P w) 43 f fd ["kinds"] (upSp K spNumd) :=
    z_fn FF sc__law_numbered (fun ds G Q E h => by obtain ⟨_, _, _, rfl, _⟩ := h; rfl) fun bas cdv A outer s H E hr ds G Q E0 hE hz => by
    obtain ⟨p, l, W, rfl, hp, wl, fl, wc, dc, vl, lW, hq⟩ := hz
    refine ⟨_, (zs_cons (z_set (i := 1) sc__law_numbered.nd rfl (Or.inl rfl) (z_tup (za_cons z_str za_nil))) (zs_cons (z_for (passes_of (by rfl)) rfl (zi_list (z_var 0)) (zg_name (i := 2) sc__law_numbered.nd rfl (Or.inl rfl)) (zs_one (z_set (i := 1) sc__law_numbered.nd rfl (Or.inl rfl) (z_tup (za_cons z_str (za_cons (z_var 1) (za_cons (z_var 2) za_nil))))))) (zs_cons (z_set (i := 3) sc__law_numbered.nd rfl (Or.inl rfl) (z_lst za_nil)) (zs_cons (z_expr (z_dc0 D__law_gather hr (by first | decide | omega) (by rfl) (za_cons (z_var 1) (za_cons (z_var 3) za_nil)))) (zs_cons (z_for (passes_of (by rfl)) rfl (zi_enumA (by rfl) T.z_enumerate (za_cons (z_var 3) za_nil)) (zg_tup (n := 2) rfl (zgs_cons (zg_name (i := 4) sc__law_numbered.nd rfl (Or.inl rfl)) (zgs_cons (zg_name (i := 5) sc__law_numbered.nd rfl (Or.inl rfl)) zgs_nil))) (zs_one (z_set (i := 1) sc__law_numbered.nd rfl (Or.inl rfl) (z_dc0 D__law_put hr (by first | decide | omega) (by rfl) (za_cons (z_var 1) (za_cons (z_var 5) (za_cons (z_tup (za_cons z_str (za_cons (z_op zo_add z_int (z_var 4)) za_nil))) za_nil))))))) (zs_cons (z_ret (z_var 1)) zs_nil)))))), ?_⟩
    walk_at "zr"
    refine ⟨fun i ρ G' => G' = G ∧ ∃ z2 z3 z4 z5 : Option D, ρ = [some (.ref p), some (kd (chain (l.take i))), z2, z3, z4, z5], ⟨rfl, _, _, _, _, rfl⟩, ?_, ?_⟩
    · rintro i d ρ G' hi ⟨rfl, z2, z3, z4, z5, rfl⟩
      refine ⟨hp, ?_⟩
      obtain ⟨a, ha, rfl⟩ := kds_get hi
      walk_at "zr"
      have tk : l.take (i + 1) = l.take i ++ [a] := by rw [List.take_add_one, ha]; rfl
      have tk2 : kd (chain (l.take (i + 1))) = .tup [.str "pair", kd (chain (l.take i)), kd a] := by rw [tk, chain_snoc]; rfl
      exact ⟨rfl, some (kd a), z3, z4, z5, by rw [tk2]; rfl⟩
    · rintro ρ G' ⟨rfl, z2, z3, z4, z5, rfl⟩
      refine ⟨hp, ?_⟩
      rw [kds_len, List.take_length]
      walk_at "zr"
      intro o G1 no h1
      walk_at "zr"
      have cv : ∀ x ∈ vars (chain l), x ∈ W := chain_vars (S := fun x => x ∈ W) vl
      refine ⟨chain l, o, [], W, rfl, chain_wf wl, dc, h1.is, List.nodup_nil, fun x hx => (by cases hx), cv, by omega, fun G2 e2 h2 => ?_⟩
      have gl : (gath (chain l) []).length ≤ 1000 := Nat.le_trans (nodup_sub nodup_gath fun x hx => cv x (mem_gath.mp hx)) lW
      have E2 := exb_ext (h1.ext no) no e2
      walk_at "zr"
      refine ⟨fun i ρ G' => Ext G2 G' ∧ ∃ z2 z4 z5 : Option D, ρ = [some (.ref p), some (kd (seqp ((rowsN (gath (chain l) []) 1000).take i) (chain l))), z2, some (.ref o), z4, z5], ⟨Ext.refl _, _, _, _, rfl⟩, ?_, ?_⟩
      · rintro i d ρ G3 hi ⟨e3, z2, z4, z5, rfl⟩
        refine ⟨e3 _ _ h2, ?_⟩
        obtain ⟨d1, hd1, rfl⟩ := enD_get hi
        obtain ⟨x, hx, rfl⟩ := intsD_get hd1
        have hr2 : (rowsN (gath (chain l) []) 1000)[i]? = some (x, (1000 : Int) + (i : Nat)) := by
          unfold rowsN
          rw [List.getElem?_map, List.getElem?_zipIdx, hx]
          simp
        have all : ∀ r : List (Int × Int), wf (seqp r (chain l)) ∧ wd (seqp r (chain l)) ≤ 60 ∧ dep (seqp r (chain l)) < 40 ∧ ∀ s ∈ inn (seqp r (chain l)), (args s).length ≤ 1000 := fun r =>
          seqp_ind (q := fun k => wf k ∧ wd k ≤ 60 ∧ dep k < 40 ∧ ∀ s ∈ inn k, (args s).length ≤ 1000) (fun x n k ⟨h1, h2, h3, h4⟩ => ⟨wf_ren (put_ren x n) h1, by rw [wd_ren (put_ren x n)]; exact h2, by rw [dep_ren (put_ren x n)]; exact h3, few_ren (put_ren x n) h4⟩) r _ ⟨chain_wf wl, wc, dc, chain_few fl⟩
        obtain ⟨a1, a2, a3, a4⟩ := all ((rowsN (gath (chain l) []) 1000).take i)
        walk_at "zr"
        refine ⟨_, .any ((1000 : Int) + (i : Nat)), x, rfl, a1, trivial, a3, a2, by rw [wd_ren (put_ren _ _)]; exact a2, a4, fun G4 e4 => ?_⟩
        walk_at "zr"
        have t2 : seqp ((rowsN (gath (chain l) []) 1000).take (i + 1)) (chain l) = sub (put1 x (.any ((1000 : Int) + (i : Nat)))) (seqp ((rowsN (gath (chain l) []) 1000).take i) (chain l)) := by rw [List.take_add_one, hr2, seqp_app]; rfl
        exact ⟨e3.trans e4, z2, some (iD i), some (.int x), by rw [t2]; rfl⟩
      · rintro ρ G3 ⟨e3, z2, z4, z5, rfl⟩
        refine ⟨e3 _ _ h2, ?_⟩
        have lr : (enD (intsD (gath (chain l) []))).length = (rowsN (gath (chain l) []) 1000).length := by
          rw [enD_len, intsD_len]
          unfold rowsN
          simp
        rw [lr, List.take_length]
        walk_at "zr"
        exact hq G3 (E2.trans e3)
end
end K05

namespace K05
open PySem PySem.Spec PyProof.Rows L2 Z
local macro_rules | `(tactic| walk_at "zr") => `(tactic| (repeat' (with_reducible first | refine r_asg ?_ | refine r_asgT ?_ | refine r_asgG ?_ | refine r_asg1 ?_ | refine r_if ?_ | refine r_if1 ?_ | refine r_drop ?_ | refine r_drop1 ?_ | refine r_ret ?_ | refine r_ret1 ?_ | refine r_retN ?_ | refine r_nx ?_ | refine r_nx1 ?_ | refine r_bk ?_ | refine r_ct ?_ | refine r_par ?_ | refine r_par1 ?_ | refine r_par3 ?_ | refine r_par31 ?_ | refine r_for ?_ | refine r_for1 ?_ | refine r_sfld ?_ | refine r_sfld1 ?_ | refine r_aug (by with_unfolding_all rfl) ?_ | refine r_aug1 (by with_unfolding_all rfl) ?_ | refine r_var (by with_unfolding_all rfl) ?_ | refine r_c ?_ | refine r_op ?_ | refine r_ifE ?_ | refine r_nil ?_ | refine r_cons ?_ | refine r_tup ?_ | refine r_lst ?_ | refine r_cb ?_ | refine r_call ?_ | refine r_test ?_ | refine r_not ?_ | refine r_and ?_ | refine r_or ?_ | refine r_andV ?_ | refine r_orV ?_ | refine r_notV ?_ | refine r_neg ?_ | refine r_bm ?_ | refine r_bm0 ?_ | refine r_sl ?_ | refine r_part ?_ | refine r_noP ?_ | refine r_chain ?_ | refine r_int2 ?_ | refine r_eqI ?_ | refine r_eqS ?_ | refine r_eqB ?_ | refine r_fInt ?_ | refine r_fIntB ?_ | refine r_fAbs ?_ | refine r_fMin ?_ | refine r_lenT ?_ | refine r_isNN ?_ | refine r_isNI ?_ | refine r_isNT ?_ | refine r_isNR ?_ | refine r_ixT0 ?_ | refine r_ixT1 ?_ | refine r_ixT2 ?_ | refine r_ixT3 ?_ | refine r_fld ?_ | refine r_kfld (by assumption) rfl ?_ | refine r_list ?_ | refine r_klist (by assumption) ?_ | refine r_tupI ?_ | refine r_ktupI ?_ | refine r_yes ?_ | refine r_kctI ?_ | refine r_rng1 ?_ | refine r_rng2 ?_ | refine r_enum ?_ | refine r_kenumT ?_ | refine r_kenum (by assumption) ?_ | refine r_fListT ?_ | refine r_fTupT ?_ | refine r_fListR (by assumption) ?_ | refine r_fTupR (by assumption) ?_ | refine r_lenR (by assumption) ?_ | refine r_rev ?_ | refine r_krevT ?_ | refine r_krev (by assumption) ?_ | refine r_setL ?_ | refine r_dget ?_ | refine r_lc0 ?_ | refine r_name ?_ | refine r_gtup (by with_unfolding_all rfl) ?_ | refine r_gcons ?_ | refine r_gnil ?_ | refine r_din ?_ | refine r_setd ?_ | refine r_ksetdA (by assumption) ?_ | refine r_keysI ?_ | refine r_kkeysI (by assumption) ?_ | refine r_dput ?_ | refine r_dput1 ?_ | refine r_dnewK ?_ | refine r_szc (by with_unfolding_all exact Nat.le_of_ble_eq_true rfl) ?_ | refine r_eqlen (by with_unfolding_all rfl) ?_ | refine r_ifT (by decide) ?_ | refine r_ifF (by decide) ?_ | refine r_inFT (b := false) rfl rfl (by decide) ?_ | refine r_inFT (b := true) rfl rfl (by decide) ?_ | refine r_lrng ?_)))
structure Told (K : PySem.W.Frag) (mg : Str → Option Value) (g : Addr) (oc kV doc pm cdv ct : Value) (od an : Option Addr) (osl : Array (Option Value)) : Prop where
  gm : mg "_law_told" = some (.ref g)
  kp : PySem.W.keepIn K (.ref g) = true
  lk : K.lookup g = some ⟨oc, od, .func (PySem.W.fnOf "_law_told" "_law_told" (defArgs s__law_told) (defBody s__law_told) (defScope s__law_told) .none kV doc pm an cdv ct), osl⟩
  cd : PySem.W.codeIn K cdv "_law_told" = true
  bd : L2.Binds K (PySem.W.fnOf "_law_told" "_law_told" (defArgs s__law_told) (defBody s__law_told) (defScope s__law_told) .none kV doc pm an cdv ct) ["what"] []
def qLam : Str := (envOfC "law" (defScope s_law) 0 0 .none).qual ++ "<lambda>"
def spLaw : ZSp := fun ds G Q _ => ∃ (sD : D) (ns : List Int), ds = [sD] ∧ isScript G sD ns ∧ ∀ G', Q (.bl true) G'
def spUni (CU CK : Addr) : ZSp := fun ds G Q E => ∃ (L : List Kd) (V : List Int), Univ L V ∧ spUnify CU CK L V 31 ds G Q E
def spCpy (CU : Addr) : ZSp := fun ds G Q E => ∃ (L : List Kd) (V : List Int), spCopy CU L V ds G Q E
def spSch (CU : Addr) : ZSp := fun ds G Q E => ∃ (L : List Kd) (V : List Int), spScheme CU L V ds G Q E
def spPlain : ZSp := fun ds G Q _ => ∃ d : D, ds = [d] ∧ Q (.tup [.tup [], d]) G
section
variable [τ : Tbl] {P : Program} {w : World} {K : PySem.W.Frag} {mg : Str → Option Value} {base : Heap} {CU CK : Addr} {L : List Kd} {V : List Int}
theorem ok_Plain {f : Addr} {fd : FuncData} (FF : Fun K "plain_scheme" "plain_scheme" s_plain_scheme f fd) (T : Txt K mg CU CK) : FnOk P w K mg base (L2.CX P w) 1 f fd ["kind"] (upSp K spPlain) :=
  z_fn FF sc_plain_scheme (fun ds G Q E h => by obtain ⟨_, rfl, _⟩ := h; rfl) fun bas cdv A outer s H E hr ds G Q E0 hE hz => by
    obtain ⟨d, rfl, hq⟩ := hz
    refine ⟨_, (zs_one (z_ret (z_tup (za_cons (z_tup za_nil) (za_cons (z_var 0) za_nil))))), ?_⟩
    walk_at "zr"
    exact hq
end
end K05

namespace K05
open PySem PySem.Spec PyProof.Rows L2 Z
/-! ### what the law draws, what both unifications start from -/
theorem Dr.mono {m n n' : Nat} {k : Kd} (d : Dr m n k) (h : n ≤ n') : Dr m n' k := by
  induction d generalizing n' with
  | any h1 => exact .any h1
  | leaf h1 => exact .leaf h1
  | uno h1 _ ih =>
    obtain ⟨q, rfl⟩ : ∃ q, n' = q + 1 := ⟨n' - 1, by omega⟩
    exact .uno h1 (ih (by omega))
  | duo h1 _ _ ih1 ih2 =>
    obtain ⟨q, rfl⟩ : ∃ q, n' = q + 1 := ⟨n' - 1, by omega⟩
    exact .duo h1 (ih1 (by omega)) (ih2 (by omega))
def DrP (many : Nat) (E : Ps) : Prop := E.length ≤ 5 ∧ ∀ p ∈ E, Dr many 2 p.1 ∧ Dr many 2 p.2
def inner (E : Ps) : List Kd := E.flatMap fun p => inn p.1 ++ inn p.2
theorem inner_len {many : Nat} : ∀ {E : Ps}, (∀ p ∈ E, Dr many 2 p.1 ∧ Dr many 2 p.2) → (inner E).length ≤ 6 * E.length
  | [], _ => Nat.zero_le _
  | p :: E, h => by
    have h1 := h p List.mem_cons_self
    have h2 := inner_len (E := E) fun q hq => h q (List.mem_cons_of_mem _ hq)
    have c1 := h1.1.cnt
    have c2 := h1.2.cnt
    show (inn p.1 ++ inn p.2 ++ inner E).length ≤ _
    rw [List.length_append, List.length_append, List.length_cons]
    omega
theorem inner_wsm {many : Nat} : ∀ {E : Ps}, (∀ p ∈ E, Dr many 2 p.1 ∧ Dr many 2 p.2) → ((inner E).map wk).sum ≤ 10 * E.length
  | [], _ => Nat.zero_le _
  | p :: E, h => by
    have h1 := h p List.mem_cons_self
    have h2 := inner_wsm (E := E) fun q hq => h q (List.mem_cons_of_mem _ hq)
    have c1 : _ ≤ 5 := h1.1.wei
    have c2 : _ ≤ 5 := h1.2.wei
    show ((inn p.1 ++ inn p.2 ++ inner E).map wk).sum ≤ _
    rw [List.map_append, List.sum_append, List.map_append, List.sum_append, List.length_cons]
    omega
theorem mem_inner {E : Ps} {s : Kd} : s ∈ inner E ↔ ∃ p ∈ E, s ∈ inn p.1 ∨ s ∈ inn p.2 := by
  unfold inner
  rw [List.mem_flatMap]
  simp
def nums (many : Nat) : List Int := (List.range many).map fun (i : Nat) => (i : Int)
theorem mem_nums {many : Nat} {x : Int} : x ∈ nums many ↔ ∃ i : Nat, i < many ∧ x = i := by
  unfold nums
  rw [List.mem_map]
  constructor
  · rintro ⟨i, hi, rfl⟩; exact ⟨i, List.mem_range.mp hi, rfl⟩
  · rintro ⟨i, hi, rfl⟩; exact ⟨i, List.mem_range.mpr hi, rfl⟩
theorem nums_nodup (many : Nat) : (nums many).Nodup := by
  unfold nums
  rw [List.nodup_iff_pairwise_ne, List.pairwise_map]
  exact List.Pairwise.imp (fun h e => h (by omega)) (List.nodup_iff_pairwise_ne.mp List.nodup_range)
theorem nums_len (many : Nat) : (nums many).length = many := by unfold nums; rw [List.length_map, List.length_range]
theorem li_start {many : Nat} {E : Ps} (h : DrP many E) : LI E many (idl many) E.reverse (nums many) (inner E) where
  len := idl_len many
  sol := fun θ => by
    rw [SolE.rev]
    refine ⟨fun h => ⟨h, fun k t ht => ?_⟩, fun h => h.1⟩
    have hk := (List.getElem?_eq_some_iff.mp ht).1
    rw [idl_len] at hk
    rw [idl_get hk] at ht
    cases ht
    rfl
  alv := fun x hx => by
    rcases hx with ⟨p, hp, hx⟩ | ⟨t, ht, hx⟩
    · have hp := h.2 p (List.mem_reverse.mp hp)
      exact mem_nums.mpr (hx.elim (fun hx => hp.1.var_ x hx) fun hx => hp.2.var_ x hx)
    · obtain ⟨i, hi, rfl⟩ := List.mem_map.mp ht
      rw [vars, List.mem_singleton] at hx
      exact mem_nums.mpr ⟨i, List.mem_range.mp hi, hx⟩
  fx := fun x hx => by
    obtain ⟨i, hi, rfl⟩ := mem_nums.mp hx
    exact ⟨i, rfl, idl_get hi⟩
  nod := nums_nodup many
  lss := fun s hs => by
    obtain ⟨p, hp, hs⟩ := mem_inner.mp hs
    exact hs.elim (fun hs => (h.2 p hp).1.few s hs) fun hs => (h.2 p hp).2.few s hs
  inl := fun p hp => by
    have hp := List.mem_reverse.mp hp
    exact ⟨fun s hs => mem_inner.mpr ⟨p, hp, .inl hs⟩, fun s hs => mem_inner.mpr ⟨p, hp, .inr hs⟩⟩
  inf := fun t ht s hs => by
    obtain ⟨i, hi, rfl⟩ := List.mem_map.mp ht
    cases hs
  cnt := by have := inner_len h.2; have := h.1; omega
  wsm := by have := inner_wsm h.2; have := h.1; omega
theorem phi_start {many : Nat} {E : Ps} (h : DrP many E) (hm : many ≤ 6) : phi E.reverse (nums many) < 2000 := by
  have := td_le (li_start h)
  unfold phi
  rw [List.length_reverse, nums_len]
  have := h.1
  omega
/- the unifier's own variables: each number one more -/
def sh : Int → Kd := fun x => .any (x + 1)
def shE (E : Ps) : Ps := E.map fun p => (sub sh p.1, sub sh p.2)
theorem sh_ren : isRen sh := fun x => ⟨_, rfl⟩
def nums1 (many : Nat) : List Int := (List.range many).map fun (i : Nat) => (i : Int) + 1
theorem mem_nums1 {many : Nat} {x : Int} : x ∈ nums1 many ↔ ∃ i : Nat, i < many ∧ x = i + 1 := by
  unfold nums1
  rw [List.mem_map]
  constructor
  · rintro ⟨i, hi, rfl⟩; exact ⟨i, List.mem_range.mp hi, rfl⟩
  · rintro ⟨i, hi, rfl⟩; exact ⟨i, List.mem_range.mpr hi, rfl⟩
theorem nums1_nodup (many : Nat) : (nums1 many).Nodup := by
  unfold nums1
  rw [List.nodup_iff_pairwise_ne, List.pairwise_map]
  exact List.Pairwise.imp (fun h e => h (by omega)) (List.nodup_iff_pairwise_ne.mp List.nodup_range)
theorem nums1_len (many : Nat) : (nums1 many).length = many := by unfold nums1; rw [List.length_map, List.length_range]
theorem wk_sub {σ : Int → Kd} {s : Kd} (h : ∃ hd as, s = .nd hd as) : wk (sub σ s) = wk s := by
  obtain ⟨hd, as, rfl⟩ := h
  rw [sub_nd]
  rfl
theorem univ_start {many : Nat} {E : Ps} (h : DrP many E) (hm : many ≤ 6) : Univ ((inner E).map (sub sh)) (nums1 many) where
  lss := fun s hs => by
    obtain ⟨s0, h0, rfl⟩ := List.mem_map.mp hs
    obtain ⟨hd, as, rfl, l⟩ := (li_start h).lss s0 h0
    exact ⟨hd, as.map (sub sh), sub_nd _ _ _, by rw [List.length_map]; exact l⟩
  cnt := by rw [List.length_map]; exact (li_start h).cnt
  wsm := by
    rw [List.map_map]
    have : (inner E).map (wk ∘ sub sh) = (inner E).map wk := List.map_congr_left fun s hs => by
      obtain ⟨hd, as, e, _⟩ := (li_start h).lss s hs
      exact wk_sub ⟨hd, as, e⟩
    rw [this]
    exact (li_start h).wsm
  vnod := nums1_nodup many
  vcnt := by rw [nums1_len]; omega
theorem inU_sh {many : Nat} {E : Ps} {k : Kd} (d : Dr many 2 k) (h : ∀ s ∈ inn k, s ∈ inner E) : InU ((inner E).map (sub sh)) (nums1 many) (sub sh k) where
  wf_ := wf_ren sh_ren d.wf_
  inn_ := fun s hs => by
    rcases inn_sub k hs with ⟨s0, h0, e⟩ | ⟨y, _, hs⟩
    · rw [e]; exact List.mem_map.mpr ⟨s0, h s0 h0, rfl⟩
    · cases hs
  var_ := fun x hx => by
    obtain ⟨y, hy, hx⟩ := vars_sub.mp hx
    obtain ⟨i, hi, rfl⟩ := d.var_ y hy
    have hx : x ∈ vars (.any ((i : Int) + 1)) := hx
    rw [vars, List.mem_singleton] at hx
    exact mem_nums1.mpr ⟨i, hi, hx⟩
theorem inU_shE {many : Nat} {E : Ps} (h : DrP many E) {p : Kd × Kd} (hp : p ∈ shE E) : InU ((inner E).map (sub sh)) (nums1 many) p.1 ∧ InU ((inner E).map (sub sh)) (nums1 many) p.2 := by
  obtain ⟨q, hq, rfl⟩ := List.mem_map.mp hp
  exact ⟨inU_sh (h.2 q hq).1 fun s hs => mem_inner.mpr ⟨q, hq, .inl hs⟩, inU_sh (h.2 q hq).2 fun s hs => mem_inner.mpr ⟨q, hq, .inr hs⟩⟩
theorem inU_any {many : Nat} {L : List Kd} {i : Nat} (h : i < many) : InU L (nums1 many) (.any ((i : Int) + 1)) := ⟨trivial, fun s hs => (by cases hs), fun x hx => by
  rw [vars, List.mem_singleton] at hx
  exact mem_nums1.mpr ⟨i, h, hx⟩⟩
/- solutions of one are solutions of the other -/
theorem sol_sh {E : Ps} {θ : Int → Kd} : SolE θ (shE E) ↔ SolE (fun x => θ (x + 1)) E := by
  unfold SolE shE
  have e : ∀ k, sub θ (sub sh k) = sub (fun x => θ (x + 1)) k := fun k => by rw [sub_sub]; rfl
  constructor
  · intro h p hp
    have := h _ (List.mem_map.mpr ⟨p, hp, rfl⟩)
    rw [e, e] at this
    exact this
  · intro h p hp
    obtain ⟨q, hq, rfl⟩ := List.mem_map.mp hp
    show sub θ (sub sh q.1) = sub θ (sub sh q.2)
    rw [e, e]
    exact h q hq
theorem Form.wd {τ : Tb} {φ : Int → Kd} {r : Int → Nat} (F : Form τ φ r) {L : List Kd} {V : List Int} (U : Univ L V) (hL : ∀ p ∈ τ, InU L V p.2) {k : Kd} (hk : InU L V k) : K05.wd (sub φ k) ≤ 52 := by
  have h1 := wd_le (F.inn (fun p hp => (hL p hp).inn_) (((vars k).map r).foldr max 0 + 1) k (fun y hy => Nat.lt_succ_of_le (le_maxr r hy)) hk.inn_)
  have h2 : ((L.map (sub φ)).map wk).sum = (L.map wk).sum := by
    rw [List.map_map]
    congr 1
    exact List.map_congr_left fun s hs => by
      obtain ⟨hd, as, e, _⟩ := U.lss s hs
      exact wk_sub ⟨hd, as, e⟩
  have := U.wsm
  omega
theorem Form.few {τ : Tb} {φ : Int → Kd} {r : Int → Nat} (F : Form τ φ r) {L : List Kd} {V : List Int} (U : Univ L V) (hL : ∀ p ∈ τ, InU L V p.2) {k : Kd} (hk : InU L V k) : ∀ s ∈ K05.inn (sub φ k), (args s).length ≤ 1000 := fun s hs => by
  have h1 := F.inn (fun p hp => (hL p hp).inn_) (((vars k).map r).foldr max 0 + 1) k (fun y hy => Nat.lt_succ_of_le (le_maxr r hy)) hk.inn_ s hs
  obtain ⟨s0, h0, rfl⟩ := List.mem_map.mp h1
  obtain ⟨hd, as, rfl, l⟩ := U.lss s0 h0
  rw [sub_nd]
  show (as.map (sub φ)).length ≤ _
  rw [List.length_map]
  omega
theorem Form.varV {τ : Tb} {φ : Int → Kd} {r : Int → Nat} (F : Form τ φ r) {V : List Int} (hd : ∀ p ∈ τ, p.1 ∈ V) (hV : ∀ p ∈ τ, ∀ x ∈ vars p.2, x ∈ V) : ∀ (n : Nat) (y : Int), r y < n → y ∈ V → ∀ x ∈ vars (φ y), x ∈ V := fun n => by
  induction n with
  | zero => intro y h; omega
  | succ n ih =>
    intro y hr hy x hx
    by_cases m : y ∈ dom τ
    · obtain ⟨p, hp, rfl⟩ := List.mem_map.mp m
      rw [F.eqs p hp] at hx
      obtain ⟨z, hz, hx⟩ := vars_sub.mp hx
      exact ih z (by have := F.rank p hp z hz; omega) (hV p hp z hz) x hx
    · rw [F.out y m, vars, List.mem_singleton] at hx
      rw [hx]; exact hy
theorem Form.wfv {τ : Tb} {φ : Int → Kd} {r : Int → Nat} (F : Form τ φ r) (hw : ∀ p ∈ τ, wf p.2) : ∀ (n : Nat) (y : Int), r y < n → wf (φ y) := fun n => by
  induction n with
  | zero => intro y h; omega
  | succ n ih =>
    intro y hr
    by_cases m : y ∈ dom τ
    · obtain ⟨p, hp, rfl⟩ := List.mem_map.mp m
      rw [F.eqs p hp]
      exact wf_sub _ (hw p hp) fun z hz => ih z (by have := F.rank p hp z hz; omega)
    · rw [F.out y m]; trivial
/-- all that is asked of a kind replaced -/
theorem Form.fit {τ : Tb} {φ : Int → Kd} {r : Int → Nat} (F : Form τ φ r) {L : List Kd} {V : List Int} (U : Univ L V) (hR : RowsIn L V τ) {k : Kd} (hk : InU L V k) : Fit L V φ k where
  wf_ := wf_sub k hk.wf_ fun x _ => F.wfv (fun p hp => (hR p hp).2.wf_) _ x (Nat.lt_succ_self _)
  few := F.few U (fun p hp => (hR p hp).2) hk
  dep_ := by have := F.dep U (fun p hp => (hR p hp).2) hk; omega
  var_ := fun x hx => by
    obtain ⟨y, hy, hx⟩ := vars_sub.mp hx
    exact F.varV (fun p hp => (hR p hp).1) (fun p hp => (hR p hp).2.var_) _ y (Nat.lt_succ_self _) (hk.var_ y hy) x hx
  w0 := hk.wf_
  f0 := hk.few U
end K05

namespace K05
open PySem PySem.Spec PyProof.Rows L2 Z
/-! ### numbered alike -/
def gR (rows : List (Int × Int)) (x : Int) : Int := match rows.find? fun p => decide (p.1 = x) with | some p => p.2 | none => x
theorem ren_gR (rows : List (Int × Int)) (x : Int) : ren rows x = .any (gR rows x) := rfl
theorem gR_not {o : List Int} {b x : Int} (h : x ∉ o) : gR (rowsN o b) x = x := by
  unfold gR
  have : (rowsN o b).find? (fun p => decide (p.1 = x)) = none := by
    rw [List.find?_eq_none]
    intro p hp z
    exact h (of_decide_eq_true z ▸ rowsN_mem hp)
  rw [this]
theorem gR_at {o : List Int} {b x : Int} {j : Nat} (n : o.Nodup) (h : o[j]? = some x) : gR (rowsN o b) x = b + (j : Nat) := by
  obtain ⟨p, hp⟩ := find_some (List.mem_of_getElem? h) b
  unfold gR
  rw [hp]
  have h1 : p.1 = x := by simpa using List.find?_some hp
  have h2 := List.mem_of_find?_eq_some hp
  unfold rowsN at h2
  obtain ⟨q, hq, rfl⟩ := List.mem_map.mp h2
  have h3 : o[q.2]? = some q.1 := List.mk_mem_zipIdx_iff_getElem?.mp hq
  have h1 : q.1 = x := h1
  rw [h1] at h3
  obtain ⟨l1, e1⟩ := List.getElem?_eq_some_iff.mp h3
  obtain ⟨l2, e2⟩ := List.getElem?_eq_some_iff.mp h
  have : q.2 = j := by
    rcases Nat.lt_trichotomy q.2 j with z | z | z
    · exact absurd (e1.trans e2.symm) ((List.pairwise_iff_getElem.mp n) _ _ l1 l2 z)
    · exact z
    · exact absurd (e2.trans e1.symm) ((List.pairwise_iff_getElem.mp n) _ _ l2 l1 z)
  show b + (q.2 : Int) = b + (j : Int)
  rw [this]
theorem at_of {o : List Int} {x : Int} (h : x ∈ o) : ∃ j : Nat, o[j]? = some x ∧ j < o.length := by
  obtain ⟨j, hj, e⟩ := List.getElem_of_mem h
  exact ⟨j, by rw [List.getElem?_eq_getElem hj, e], hj⟩
/-- variables to variables, one to one: numbered alike -/
theorem inj_back {k : Kd} {g : Int → Int} (inj : ∀ x ∈ vars k, ∀ y ∈ vars k, g x = g y → x = y) : ∃ ρ : Int → Kd, k = sub ρ (sub (fun x => .any (g x)) k) := by
  classical
  refine ⟨fun y => if h : ∃ x ∈ vars k, g x = y then .any h.choose else .any y, ?_⟩
  rw [sub_sub]
  conv => lhs; rw [← sub_any k]
  refine sub_congr k fun x hx => ?_
  show Kd.any x = (if h : ∃ z ∈ vars k, g z = g x then Kd.any h.choose else Kd.any (g x))
  have h : ∃ z ∈ vars k, g z = g x := ⟨x, hx, rfl⟩
  rw [dif_pos h]
  congr 1
  exact (inj _ h.choose_spec.1 x hx h.choose_spec.2).symm
theorem chain1_vars {k : Kd} {x : Int} : x ∈ vars (chain [k]) ↔ x ∈ vars k := by
  show x ∈ vars (.nd .pair [.nd .unit [], k]) ↔ _
  rw [vars_nd]
  constructor
  · rintro ⟨a, ha, hx⟩
    rcases List.mem_cons.mp ha with e | ha
    · rw [e, vars, varss] at hx; cases hx
    · rw [List.mem_singleton.mp ha] at hx; exact hx
  · exact fun h => ⟨k, by simp, h⟩
theorem numd_ren1 {k : Kd} {g : Int → Int} (inj : ∀ x ∈ vars k, ∀ y ∈ vars k, g x = g y → x = y) (hk : ∀ x ∈ vars k, x < 1000) (hg : ∀ x ∈ vars k, g x < 1000) : numd (chain [sub (fun x => .any (g x)) k]) = numd (chain [k]) := by
  obtain ⟨ρ, e⟩ := inj_back inj
  refine numd_alike (ρ1 := fun x => .any (g x)) (ρ2 := ρ) ?_ ?_ (fun x hx => ?_) fun x hx => hk x (chain1_vars.mp hx)
  · rw [chain_sub]
    rfl
  · rw [chain_sub, List.map_cons, List.map_nil, ← e]
  · obtain ⟨y, hy, hx⟩ := vars_sub.mp (chain1_vars.mp hx)
    rw [vars, List.mem_singleton] at hx
    rw [hx]
    exact hg y hy
/-- a fresh copy's numbers -/
theorem copy_inj {ns : List Int} {m : Nat} {x y : Int} (n : ns.Nodup) (hx : x ≤ m) (hy : y ≤ m) (e : gR (rowsN ns ((m + 1 : Nat) : Int)) x = gR (rowsN ns ((m + 1 : Nat) : Int)) y) : x = y := by
  by_cases h1 : x ∈ ns
  · obtain ⟨i, hi, _⟩ := at_of h1
    rw [gR_at n hi] at e
    by_cases h2 : y ∈ ns
    · obtain ⟨j, hj, _⟩ := at_of h2
      rw [gR_at n hj] at e
      have : i = j := by omega
      rw [this, hj] at hi
      exact (Option.some.inj hi).symm
    · rw [gR_not h2] at e
      omega
  · rw [gR_not h1] at e
    by_cases h2 : y ∈ ns
    · obtain ⟨j, hj, _⟩ := at_of h2
      rw [gR_at n hj] at e
      omega
    · rw [gR_not h2] at e
      exact e
theorem rnum_at {k : Kd} {x : Int} (h : x ∈ vars k) : ∃ j : Nat, (gath k [])[j]? = some x ∧ j < (gath k []).length ∧ gR (rowsN (gath k []) 0) x = (j : Nat) := by
  obtain ⟨j, hj, lj⟩ := at_of (mem_gath.mpr h)
  refine ⟨j, hj, lj, ?_⟩
  rw [gR_at nodup_gath hj]
  omega
theorem rnum_inj {k : Kd} {x y : Int} (hx : x ∈ vars k) (hy : y ∈ vars k) (e : gR (rowsN (gath k []) 0) x = gR (rowsN (gath k []) 0) y) : x = y := by
  obtain ⟨i, hi, _, ei⟩ := rnum_at hx
  obtain ⟨j, hj, _, ej⟩ := rnum_at hy
  have : i = j := by omega
  rw [this, hj] at hi
  exact (Option.some.inj hi).symm
theorem rnum_numd {k : Kd} (hk : ∀ x ∈ vars k, x < 1000) (hl : (gath k []).length ≤ 1000) : numd (chain [rnum k]) = numd (chain [k]) :=
  numd_ren1 (g := gR (rowsN (gath k []) 0)) (fun x hx y hy => rnum_inj hx hy) hk fun x hx => by
    obtain ⟨j, _, lj, e⟩ := rnum_at hx
    rw [e]
    omega
theorem rnum_idem (k : Kd) : rnum (rnum k) = rnum k := by
  have ga : gath (rnum k) [] = (gath k []).map (gR (rowsN (gath k []) 0)) := by
    unfold gath
    rw [show vars (rnum k) = (vars k).map (gR (rowsN (gath k []) 0)) from vars_ren k fun x _ => rfl]
    exact fold_ren (vars k) [] (fun x hx y hy e => rnum_inj (by simpa using hx) (by simpa using hy) e)
  show sub (ren (rowsN (gath (rnum k) []) 0)) (rnum k) = rnum k
  conv => rhs; rw [← sub_any (rnum k)]
  refine sub_congr _ fun x hx => ?_
  rw [ren_gR]
  congr 1
  obtain ⟨j, hj, _, e⟩ := rnum_at hx
  rw [e]
  rw [ga, List.getElem?_map] at hj
  cases hy : (gath k [])[j]? with
  | none => rw [hy] at hj; cases hj
  | some y =>
    rw [hy] at hj
    have := Option.some.inj hj
    rw [gR_at nodup_gath hy] at this
    omega
/- texts of drawn kinds -/
theorem tl_ren {σ : Int → Kd} (h : isRen σ) : ∀ k, tl (sub σ k) = tl k := Kd.ind (fun n => by obtain ⟨m, e⟩ := h n; show tl (σ n) = _; rw [e]; rfl) fun hd as ih => by
  rw [sub_nd, tl.eq_2, tl.eq_2]
  have : ∀ l : List Kd, (∀ a ∈ l, tl (sub σ a) = tl a) → tls (l.map (sub σ)) = tls l := fun l => by
    induction l with
    | nil => intro _; rfl
    | cons a l ih2 =>
      intro hl
      rw [List.map_cons, tls, tls, ih2 fun b hb => hl b (List.mem_cons_of_mem _ hb), hl a List.mem_cons_self]
  rw [this as ih]
theorem cc_ren {σ : Int → Kd} (h : isRen σ) : ∀ k, cc (sub σ k) = cc k := Kd.ind (fun n => by obtain ⟨m, e⟩ := h n; show cc (σ n) = _; rw [e]; rfl) fun hd as ih => by
  rw [sub_nd, cc.eq_2, cc.eq_2]
  have : ∀ l : List Kd, (∀ a ∈ l, cc (sub σ a) = cc a) → ccs (l.map (sub σ)) = ccs l := fun l => by
    induction l with
    | nil => intro _; rfl
    | cons a l ih2 =>
      intro hl
      rw [List.map_cons, ccs, ccs, ih2 fun b hb => hl b (List.mem_cons_of_mem _ hb), hl a List.mem_cons_self]
  rw [this as ih]
theorem Dr.tl_ {m n : Nat} {k : Kd} (d : Dr m n k) : tl k + 50 ≤ 100 * 2 ^ n := by
  induction d with
  | @any n x h => have := Nat.one_le_two_pow (n := n); rw [tl]; omega
  | @leaf n h hb =>
    have := Nat.one_le_two_pow (n := n)
    have : nmL h ≤ 5 := by rcases hb with rfl | rfl | rfl | rfl <;> decide +kernel
    rw [tl, tls]; omega
  | @uno n h a hb _ ih =>
    have := Nat.one_le_two_pow (n := n)
    have : nmL h ≤ 4 := by rcases hb with rfl | rfl | rfl | rfl <;> decide +kernel
    rw [tl, tls, tls, Nat.pow_succ]; omega
  | @duo n h a b hb _ _ ih1 ih2 =>
    have : nmL h = 0 := by rcases hb with rfl | rfl <;> rfl
    rw [tl, tls, tls, tls, Nat.pow_succ]; omega
theorem Dr.cc_ {m n : Nat} {k : Kd} (d : Dr m n k) : (cc k).f ≤ 3 * (n + 1) ∧ (cc k).p ≤ 3 * (n + 1) ∧ (cc k).s ≤ 3 * (n + 1) := by
  induction d with
  | any _ => exact ⟨by show 3 ≤ _; omega, by show 2 ≤ _; omega, by show 1 ≤ _; omega⟩
  | @leaf n h hb =>
    rw [cc.eq_2]
    have : cmk h (ccs []) = ⟨3, 2, 1⟩ := by rcases hb with rfl | rfl | rfl | rfl <;> rfl
    rw [this]
    exact ⟨by show 3 ≤ _; omega, by show 2 ≤ _; omega, by show 1 ≤ _; omega⟩
  | @uno n h a hb _ ih =>
    rw [cc.eq_2]
    have : cmk h (ccs [a]) = ⟨3 + max (cc a).f 0, 2 + max (cc a).f 0, 1 + max (cc a).f 0⟩ := by rcases hb with rfl | rfl | rfl | rfl <;> rfl
    rw [this]
    exact ⟨by show 3 + _ ≤ _; omega, by show 2 + _ ≤ _; omega, by show 1 + _ ≤ _; omega⟩
  | @duo n h a b hb _ _ ih1 ih2 =>
    rw [cc.eq_2]
    rcases hb with rfl | rfl
    · exact ⟨by show 1 + max (cc a).p (cc b).f ≤ _; omega, by show 3 + max (cc a).p (cc b).f ≤ _; omega, by show 2 + max (cc a).p (cc b).f ≤ _; omega⟩
    · exact ⟨by show 2 + max (cc a).s (cc b).p ≤ _; omega, by show 1 + max (cc a).s (cc b).p ≤ _; omega, by show 3 + max (cc a).s (cc b).p ≤ _; omega⟩
theorem Dr.wd_ {m n : Nat} {k : Kd} (d : Dr m n k) : wd k ≤ 2 * n + 2 := by
  induction d with
  | any _ => rw [wd]; omega
  | @leaf n h hb => have := wt_le h; rw [wd, wds]; omega
  | @uno n h a hb _ ih => have := wt_le h; rw [wd, wds, wds]; omega
  | @duo n h a b hb _ _ ih1 ih2 => have : wt h = 1 := by rcases hb with rfl | rfl <;> rfl
                                   rw [wd, wds, wds, wds]; omega
theorem Dr.gl {m n : Nat} {k : Kd} (d : Dr m n k) : (gath k []).length ≤ m := by
  letI : Tbl := ⟨[]⟩
  have := nodup_sub (W := nums m) (nodup_gath (k := k)) fun x hx => mem_nums.mpr (d.var_ x (mem_gath.mp hx))
  rw [nums_len] at this
  exact this
theorem lets_rnum {k : Kd} (h : (gath k []).length ≤ 40) : lets (rnum k) := fun x hx => by
  obtain ⟨y, hy, hx⟩ := vars_sub.mp hx
  rw [ren_gR, vars, List.mem_singleton] at hx
  obtain ⟨j, _, lj, e⟩ := rnum_at hy
  rw [hx, e]
  omega
theorem Dr.txOk {m n : Nat} {k : Kd} (d : Dr m n k) (hm : m ≤ 10) (hn : n ≤ 4) : TxOk (rnum k) where
  wf_ := wf_ren (ren_ren _) d.wf_
  lets_ := lets_rnum (by have := d.gl; omega)
  len_ := by
    have h1 := d.tl_
    have h2 : 2 ^ n ≤ 2 ^ 4 := Nat.pow_le_pow_right (by decide) hn
    rw [show tl (rnum k) = tl k from tl_ren (ren_ren _) k]
    omega
  few := few_ren (ren_ren _) d.args_
theorem wd_subM {σ : Int → Kd} {M : Nat} : ∀ k, (∀ x ∈ vars k, wd (σ x) ≤ M) → wd (sub σ k) ≤ wd k + M := Kd.ind (fun n h => by
  have := h n (by simp [vars])
  show wd (σ n) ≤ _
  omega) fun hd as ih h => by
  rw [sub_nd, wd.eq_2, wd.eq_2]
  have : ∀ l : List Kd, (∀ a ∈ l, wd (sub σ a) ≤ wd a + M) → wds (l.map (sub σ)) ≤ wds l + M := fun l => by
    induction l with
    | nil => intro _; exact Nat.zero_le _
    | cons a l ih2 =>
      intro hl
      have h1 := ih2 fun b hb => hl b (List.mem_cons_of_mem _ hb)
      have h2 := hl a List.mem_cons_self
      rw [List.map_cons, wds, wds]
      omega
  have := this as fun a ha => ih a ha fun x hx => h x (vars_nd.mpr ⟨a, ha, hx⟩)
  omega
/-! ### what both unifications find is alike -/
def fr (many : Nat) : List Kd := (List.range many).map fun (i : Nat) => Kd.any ((i : Int) + 1)
theorem fr_get {many i : Nat} (h : i < many) : (fr many)[i]? = some (.any ((i : Int) + 1)) := by
  unfold fr
  rw [List.getElem?_map, List.getElem?_range h]
  rfl
theorem fr_len (many : Nat) : (fr many).length = many := by unfold fr; rw [List.length_map, List.length_range]
theorem due_alike {many : Nat} {E : Ps} {f : List Kd} {V' : List Int} {Ls' : List Kd} (I : LI E many f [] V' Ls') {τ : Tb} {φ : Int → Kd} {r : Int → Nat} (F : Form τ φ r) (hs : ∀ θ, SolT θ τ ↔ SolE θ (shE E)) (hv : ∀ (i : Nat), i < many → ∀ x ∈ vars (φ ((i : Int) + 1)), x < 1000) (hm : many ≤ 6) :
    numd (chain ((fr many).map (sub φ))) = numd (chain f) := by
  classical
  have s1 : SolE (fun x => φ (x + 1)) E := sol_sh.mp ((hs φ).mp F.sol)
  have k1 := ((I.sol _).mp s1).2
  let θ0 : Int → Kd := fun x => match f[x.toNat]? with | some t => if 0 ≤ x then t else .any x | none => .any x
  have t0 : ∀ (k : Nat) t, f[k]? = some t → θ0 (k : Int) = t := fun k t h => by
    show (match f[((k : Int)).toNat]? with | some t => if 0 ≤ (k : Int) then t else .any (k : Int) | none => .any (k : Int)) = t
    rw [Int.toNat_natCast, h]
    simp
  have fv : ∀ t ∈ f, ∀ x ∈ vars t, ∃ k : Nat, x = k ∧ f[k]? = some (.any x) := fun t ht x hx => I.fx x (I.alv x (.inr ⟨t, ht, hx⟩))
  have sid : ∀ t ∈ f, sub θ0 t = t := fun t ht => by
    conv => rhs; rw [← sub_any t]
    refine sub_congr t fun x hx => ?_
    obtain ⟨k, e, hk⟩ := fv t ht x hx
    have := t0 k _ hk
    rw [e] at this ⊢
    exact this
  have s0 : SolE θ0 E := (I.sol θ0).mpr ⟨fun p hp => (by cases hp), fun k t h => by rw [sid t (List.mem_of_getElem? h), t0 k t h]⟩
  have s2 : SolT (fun y => θ0 (y - 1)) τ := (hs _).mpr (sol_sh.mpr (by
    have : (fun x : Int => θ0 (x + 1 - 1)) = θ0 := by funext x; rw [Int.add_sub_cancel]
    rw [this]
    exact s0))
  have k2 := F.mg _ s2
  refine numd_alike (ρ1 := fun x => φ (x + 1)) (ρ2 := fun y => θ0 (y - 1)) ?_ ?_ ?_ ?_
  · rw [chain_sub]
    congr 1
    refine List.ext_getElem? fun i => ?_
    rw [List.getElem?_map, List.getElem?_map]
    by_cases h : i < many
    · rw [fr_get h]
      obtain ⟨t, ht⟩ : ∃ t, f[i]? = some t := ⟨_, List.getElem?_eq_getElem (by rw [I.len]; exact h)⟩
      rw [ht]
      show some (φ ((i : Int) + 1)) = some _
      rw [k1 i t ht]
    · have h1 : f[i]? = none := List.getElem?_eq_none (by rw [I.len]; omega)
      have h2 : (fr many)[i]? = none := List.getElem?_eq_none (by rw [fr_len]; omega)
      rw [h1, h2]
      rfl
  · rw [chain_sub]
    congr 1
    refine List.ext_getElem? fun i => ?_
    rw [List.getElem?_map, List.getElem?_map]
    by_cases h : i < many
    · rw [fr_get h]
      obtain ⟨t, ht⟩ : ∃ t, f[i]? = some t := ⟨_, List.getElem?_eq_getElem (by rw [I.len]; exact h)⟩
      rw [ht]
      show some t = some (sub _ (φ ((i : Int) + 1)))
      rw [← k2, Int.add_sub_cancel, t0 i t ht]
    · have h1 : f[i]? = none := List.getElem?_eq_none (by rw [I.len]; omega)
      have h2 : (fr many)[i]? = none := List.getElem?_eq_none (by rw [fr_len]; omega)
      rw [h1, h2]
      rfl
  · refine chain_vars (S := fun x => x < 1000) fun k hk x hx => ?_
    obtain ⟨k0, h0, rfl⟩ := List.mem_map.mp hk
    obtain ⟨i, hi, rfl⟩ := List.mem_map.mp h0
    exact hv i (List.mem_range.mp hi) x hx
  · refine chain_vars (S := fun x => x < 1000) fun k hk x hx => ?_
    obtain ⟨j, e, hj⟩ := fv k hk x hx
    have := (List.getElem?_eq_some_iff.mp hj).1
    rw [I.len] at this
    rw [e]
    omega
end K05

namespace K05
open PySem PySem.Spec PyProof.Rows L2 Z
local macro_rules | `(tactic| walk_at "zr") => `(tactic| (repeat' (with_reducible first | refine r_asg ?_ | refine r_asgT ?_ | refine r_asgG ?_ | refine r_asg1 ?_ | refine r_if ?_ | refine r_if1 ?_ | refine r_drop ?_ | refine r_drop1 ?_ | refine r_ret ?_ | refine r_ret1 ?_ | refine r_retN ?_ | refine r_nx ?_ | refine r_nx1 ?_ | refine r_bk ?_ | refine r_ct ?_ | refine r_par ?_ | refine r_par1 ?_ | refine r_par3 ?_ | refine r_par31 ?_ | refine r_for ?_ | refine r_for1 ?_ | refine r_sfld ?_ | refine r_sfld1 ?_ | refine r_aug (by with_unfolding_all rfl) ?_ | refine r_aug1 (by with_unfolding_all rfl) ?_ | refine r_var (by with_unfolding_all rfl) ?_ | refine r_c ?_ | refine r_op ?_ | refine r_ifE ?_ | refine r_nil ?_ | refine r_cons ?_ | refine r_tup ?_ | refine r_lst ?_ | refine r_cb ?_ | refine r_call ?_ | refine r_test ?_ | refine r_not ?_ | refine r_and ?_ | refine r_or ?_ | refine r_andV ?_ | refine r_orV ?_ | refine r_notV ?_ | refine r_neg ?_ | refine r_bm ?_ | refine r_bm0 ?_ | refine r_sl ?_ | refine r_part ?_ | refine r_noP ?_ | refine r_chain ?_ | refine r_int2 ?_ | refine r_eqI ?_ | refine r_eqS ?_ | refine r_eqB ?_ | refine r_fInt ?_ | refine r_fIntB ?_ | refine r_fAbs ?_ | refine r_fMin ?_ | refine r_lenT ?_ | refine r_isNN ?_ | refine r_isNI ?_ | refine r_isNT ?_ | refine r_isNR ?_ | refine r_ixT0 ?_ | refine r_ixT1 ?_ | refine r_ixT2 ?_ | refine r_ixT3 ?_ | refine r_fld ?_ | refine r_kfld (by assumption) rfl ?_ | refine r_list ?_ | refine r_klist (by assumption) ?_ | refine r_tupI ?_ | refine r_ktupI ?_ | refine r_yes ?_ | refine r_kctI ?_ | refine r_rng1 ?_ | refine r_rng2 ?_ | refine r_enum ?_ | refine r_kenumT ?_ | refine r_kenum (by assumption) ?_ | refine r_fListT ?_ | refine r_fTupT ?_ | refine r_fListR (by assumption) ?_ | refine r_fTupR (by assumption) ?_ | refine r_lenR (by assumption) ?_ | refine r_rev ?_ | refine r_krevT ?_ | refine r_krev (by assumption) ?_ | refine r_setL ?_ | refine r_dget ?_ | refine r_lc0 ?_ | refine r_name ?_ | refine r_gtup (by with_unfolding_all rfl) ?_ | refine r_gcons ?_ | refine r_gnil ?_ | refine r_din ?_ | refine r_setd ?_ | refine r_ksetdA (by assumption) ?_ | refine r_keysI ?_ | refine r_kkeysI (by assumption) ?_ | refine r_dput ?_ | refine r_dput1 ?_ | refine r_dnewK ?_ | refine r_szc (by with_unfolding_all exact Nat.le_of_ble_eq_true rfl) ?_ | refine r_eqlen (by with_unfolding_all rfl) ?_ | refine r_ifT (by decide) ?_ | refine r_ifF (by decide) ?_ | refine r_inFT (b := false) rfl rfl (by decide) ?_ | refine r_inFT (b := true) rfl rfl (by decide) ?_ | refine r_lrng ?_)))
section
variable [τ : Tbl] [β : Bas]
def rdD : DS := zSeq (zAsg (zLst zNil) (zName 15)) (zSeq (zDrop (zCall (spGath 40) X0 (zCons (zTup (zCons (zC (D.str (Str.ofString "pair"))) (zCons (zTup (zCons (zC (D.str (Str.ofString "any"))) (zCons (zC (D.int 3)) zNil))) (zCons (zTup (zCons (zC (D.str (Str.ofString "any"))) (zCons (zC (D.int 3)) zNil))) zNil)))) (zCons (zVar 15) zNil)))) (zSeq (zAsg (zTup (zCons (zC (D.str (Str.ofString "fun"))) (zCons (zTup (zCons (zC (D.str (Str.ofString "fun"))) (zCons (zTup (zCons (zC (D.str (Str.ofString "any"))) (zCons (zC (D.int 7)) zNil))) (zCons (zTup (zCons (zC (D.str (Str.ofString "pair"))) (zCons (zTup (zCons (zC (D.str (Str.ofString "int"))) zNil)) (zCons (zTup (zCons (zC (D.str (Str.ofString "any"))) (zCons (zC (D.int 2)) zNil))) zNil)))) zNil)))) (zCons (zTup (zCons (zC (D.str (Str.ofString "pair"))) (zCons (zTup (zCons (zC (D.str (Str.ofString "pair"))) (zCons (zTup (zCons (zC (D.str (Str.ofString "any"))) (zCons (zC (D.int 2)) zNil))) (zCons (zTup (zCons (zC (D.str (Str.ofString "unit"))) zNil)) zNil)))) (zCons (zTup (zCons (zC (D.str (Str.ofString "list"))) (zCons (zTup (zCons (zC (D.str (Str.ofString "data"))) (zCons (zC (D.str (Str.ofString "tree"))) (zCons (zTup (zCons (zTup (zCons (zC (D.str (Str.ofString "any"))) (zCons (zC (D.int 7)) zNil))) zNil)) zNil)))) zNil))) zNil)))) zNil)))) (zName 24)) (zSeq (zAsg (zTup (zCons (zC (D.str (Str.ofString "data"))) (zCons (zC (D.str (Str.ofString "t"))) (zCons (zCB fTupL (zCons (zLc (zRng1 (zCons (zC (D.int 29)) zNil)) (zName 3) zYes (zTup (zCons (zC (D.str (Str.ofString "any"))) (zCons (zVar 3) zNil))) (List.map (fun x => x.snd) [(Str.ofString "k", 3)])) zNil)) zNil)))) (zName 25)) (zSeq (zIfS (zTest (zOp (dEqF true) (zSl dSlS (zCall spText X0 (zCons (zVar 25) zNil)) (zPart (zNeg (zC (D.int 22)))) zNoP) (zC (D.str (Str.ofString "'y, 'z, 'a1, 'b1, 'c1)"))))) (zRet (zC (D.bl false))) zNext) (zSeq (zRet (zAndV (zOp (dEqP false) (zVar 15) (zLst (zCons (zC (D.int 3)) zNil))) (zAndV (zOp (dEqF false) (zCall spText X0 (zCons (zVar 24) zNil)) (zC (D.str (Str.ofString "('a -> int * 'b) -> ('b * unit) * list(tree('a))")))) (zAndV (zOp (dEqP false) (zCall spPlain X0 (zCons (zTup (zCons (zC (D.str (Str.ofString "int"))) zNil)) zNil)) (zTup (zCons (zTup zNil) (zCons (zTup (zCons (zC (D.str (Str.ofString "int"))) zNil)) zNil)))) (zOp (dEqF false) (zCall spText X0 (zCons (zTup (zCons (zC (D.str (Str.ofString "any"))) (zCons (zC (D.int 30)) zNil))) zNil)) (zC (D.str (Str.ofString "'a")))))))) zNext)))))
end
def k33 : Kd := .nd .pair [.any 3, .any 3]
def kShown : Kd := .nd .fn [.nd .fn [.any 7, .nd .pair [.nd .int [], .any 2]], .nd .pair [.nd .pair [.any 2, .nd .unit []], .nd .list [.nd (.data "tree") [.any 7]]]]
def kWide : Kd := .nd (.data "t") (idl 29)
theorem tx_of {k : Kd} (hw : wf k) (hg : (gath k []).length ≤ 40) (hl : tl k ≤ 1000000) (hf : ∀ s ∈ inn k, (args s).length ≤ 1000) : TxOk (rnum k) := ⟨wf_ren (ren_ren _) hw, lets_rnum hg, by rw [show tl (rnum k) = tl k from tl_ren (ren_ren _) k]; exact hl, few_ren (ren_ren _) hf⟩
theorem few_dec {k : Kd} (h : ((inn k).all fun s => decide ((args s).length ≤ 1000)) = true) : ∀ s ∈ inn k, (args s).length ≤ 1000 := fun s hs => by
  rw [List.all_eq_true] at h
  exact of_decide_eq_true (h s hs)
theorem wf_wide : wf kWide := wf_nd.mpr ⟨(by decide +kernel : PyData.strOk "t" = true), idl_wf⟩
theorem wf_shown : wf kShown := by
  refine wf_nd.mpr ⟨rfl, ?_⟩
  simp only [List.mem_cons, List.not_mem_nil, or_false, forall_eq_or_imp, forall_eq]
  refine ⟨wf_nd.mpr ⟨rfl, ?_⟩, wf_nd.mpr ⟨rfl, ?_⟩⟩
  · simp only [List.mem_cons, List.not_mem_nil, or_false, forall_eq_or_imp, forall_eq]
    refine ⟨trivial, wf_nd.mpr ⟨rfl, ?_⟩⟩
    simp only [List.mem_cons, List.not_mem_nil, or_false, forall_eq_or_imp, forall_eq]
    exact ⟨wf_nd.mpr ⟨rfl, fun a ha => (by cases ha)⟩, trivial⟩
  · simp only [List.mem_cons, List.not_mem_nil, or_false, forall_eq_or_imp, forall_eq]
    refine ⟨wf_nd.mpr ⟨rfl, ?_⟩, wf_nd.mpr ⟨rfl, ?_⟩⟩
    · simp only [List.mem_cons, List.not_mem_nil, or_false, forall_eq_or_imp, forall_eq]
      exact ⟨trivial, wf_nd.mpr ⟨rfl, fun a ha => (by cases ha)⟩⟩
    · simp only [List.mem_cons, List.not_mem_nil, or_false, forall_eq_or_imp, forall_eq]
      refine wf_nd.mpr ⟨(by decide +kernel : PyData.strOk "tree" = true), ?_⟩
      simp only [List.mem_cons, List.not_mem_nil, or_false, forall_eq_or_imp, forall_eq]
      trivial
theorem t_wide : cutS (ktext kWide) (some (-22)) none = ("'y, 'z, 'a1, 'b1, 'c1)" : Str) := by decide +kernel
theorem t_shown : ktext kShown = ("('a -> int * 'b) -> ('b * unit) * list(tree('a))" : Str) := by decide +kernel
theorem t_any : ktext (.any 30) = ("'a" : Str) := by decide +kernel
theorem len_wide : (ktext kWide).length ≤ 1000 := by decide +kernel
theorem g_wide : (gath kWide []).length ≤ 40 ∧ tl kWide ≤ 1000000 ∧ (cc (rnum kWide)).f ≤ 40 ∧ dep kWide < 40 := by decide +kernel
theorem g_shown : (gath kShown []).length ≤ 40 ∧ tl kShown ≤ 1000000 ∧ (cc (rnum kShown)).f ≤ 40 ∧ dep kShown < 40 := by decide +kernel
theorem g_any : (gath (.any 30) []).length ≤ 40 ∧ tl (.any 30) ≤ 1000000 ∧ (cc (rnum (.any 30))).f ≤ 40 ∧ dep (.any 30) < 40 := by decide +kernel
theorem tx_call {k : Kd} {G : Gp} {R : DK} {E : XKz} (hw : wf k) (g : (gath k []).length ≤ 40 ∧ tl k ≤ 1000000 ∧ (cc (rnum k)).f ≤ 40 ∧ dep k < 40) (hf : ∀ s ∈ inn k, (args s).length ≤ 1000) (q : ∀ G', Ext G G' → R (.str (ktext k)) G') : spText [kd k] G R E := by
  letI : Tbl := ⟨[]⟩
  exact ⟨k, gath k [], rfl, hw, g.2.2.2, hf, fun x hx => mem_gath.mpr hx, by have := g.1; omega, tx_of hw g.1 g.2.1 hf, g.2.2.1, q⟩
theorem partD [τ : Tbl] [β : Bas] {Z : ZEnds} {v0 v1 v2 v3 v4 v5 v6 v7 v8 v9 v10 v11 v12 v13 v14 v15 v16 v17 v18 v19 v20 v21 v22 v23 v24 v25 : Option D} {G : Gp} (hq : ∀ G', Z.rt (.bl true) G') : rdD Z [v0, v1, v2, v3, v4, v5, v6, v7, v8, v9, v10, v11, v12, v13, v14, v15, v16, v17, v18, v19, v20, v21, v22, v23, v24, v25] G := by
  unfold rdD
  walk_at "zr"
  intro p1 G1 n1 h1
  walk_at "zr"
  refine ⟨k33, p1, [], [3], rfl, ?_, by decide +kernel, h1.is, List.nodup_nil, fun x hx => (by cases hx), ?_, by decide, fun G2 e2 h2 => ?_⟩
  · refine wf_nd.mpr ⟨rfl, ?_⟩
    simp only [List.mem_cons, List.not_mem_nil, or_false, forall_eq_or_imp, forall_eq]
    exact ⟨trivial, trivial⟩
  · decide +kernel
  have h2i : G2 p1 = some (.lst (intsD [3])) := h2
  walk_at "zr"
  refine r_krng1 (n := 29) (by decide) ?_
  refine ⟨fun i acc G' => G' = G2 ∧ acc = kds ((idl 29).take i), ⟨rfl, rfl⟩, ?_, ?_⟩
  · rintro i d acc G' hi ⟨rfl, rfl⟩
    obtain ⟨him, rfl⟩ := rngD_get hi
    refine ⟨trivial, big_lt (by rw [kds_len, List.length_take, idl_len]; omega), ?_⟩
    walk_at "zr"
    refine ⟨rfl, ?_⟩
    rw [List.take_add_one, idl_get him, kds_map, kds_map, List.map_append]
    rfl
  · rintro acc G' ⟨rfl, rfl⟩
    refine ⟨trivial, fun p3 G3 n3 h3 => ?_⟩
    have h3i := h3.is
    rw [rngD_len, List.take_of_length_le (by rw [idl_len]; exact Nat.le_refl _)] at h3i
    have h13 := (h3.ext n3) _ _ h2i
    walk_at "zr"
    rw [show D.tup [D.str "data", D.str "t", D.tup (kds (idl 29))] = kd kWide from rfl]
    refine tx_call wf_wide g_wide (few_dec (by decide +kernel)) fun G4 e4 => ?_
    walk_at "zr"
    refine ⟨big_ok (by have := len_wide; omega), ?_⟩
    rw [t_wide]
    walk_at "zr"
    intro p5 G5 n5 h5
    have e35 : Ext G3 G5 := e4.trans (h5.ext n5)
    have h5i : G5 p5 = some (.lst (intsD [3])) := h5.is
    refine r_eqLI (e35 _ _ h13) h5i fun c hc => ?_
    rw [hc.mpr rfl]
    walk_at "zr"
    rw [show D.tup [D.str "fun", D.tup [D.str "fun", D.tup [D.str "any", D.int 7], D.tup [D.str "pair", D.tup [D.str "int"], D.tup [D.str "any", D.int 2]]], D.tup [D.str "pair", D.tup [D.str "pair", D.tup [D.str "any", D.int 2], D.tup [D.str "unit"]], D.tup [D.str "list", D.tup [D.str "data", D.str "tree", D.tup [D.tup [D.str "any", D.int 7]]]]]] = kd kShown from rfl]
    refine tx_call wf_shown g_shown (few_dec (by decide +kernel)) fun G6 e6 => ?_
    rw [t_shown]
    walk_at "zr"
    refine ⟨_, rfl, ?_⟩
    walk_at "zr"
    refine r_eqP (by decide +kernel) (by decide +kernel) fun c2 hc2 => ?_
    rw [hc2.mpr rfl]
    walk_at "zr"
    rw [show D.tup [D.str "any", D.int 30] = kd (.any 30) from rfl]
    refine tx_call trivial g_any (fun s hs => (by cases hs)) fun G7 e7 => ?_
    rw [t_any]
    walk_at "zr"
    exact hq G7
end K05

namespace K05
open PySem PySem.Spec PyProof.Rows L2 Z
local macro_rules | `(tactic| walk_at "zr") => `(tactic| (repeat' (with_reducible first | refine r_asg ?_ | refine r_asgT ?_ | refine r_asgG ?_ | refine r_asg1 ?_ | refine r_if ?_ | refine r_if1 ?_ | refine r_drop ?_ | refine r_drop1 ?_ | refine r_ret ?_ | refine r_ret1 ?_ | refine r_retN ?_ | refine r_nx ?_ | refine r_nx1 ?_ | refine r_bk ?_ | refine r_ct ?_ | refine r_par ?_ | refine r_par1 ?_ | refine r_par3 ?_ | refine r_par31 ?_ | refine r_for ?_ | refine r_for1 ?_ | refine r_sfld ?_ | refine r_sfld1 ?_ | refine r_aug (by with_unfolding_all rfl) ?_ | refine r_aug1 (by with_unfolding_all rfl) ?_ | refine r_var (by with_unfolding_all rfl) ?_ | refine r_c ?_ | refine r_op ?_ | refine r_ifE ?_ | refine r_nil ?_ | refine r_cons ?_ | refine r_tup ?_ | refine r_lst ?_ | refine r_cb ?_ | refine r_call ?_ | refine r_test ?_ | refine r_not ?_ | refine r_and ?_ | refine r_or ?_ | refine r_andV ?_ | refine r_orV ?_ | refine r_notV ?_ | refine r_neg ?_ | refine r_bm ?_ | refine r_bm0 ?_ | refine r_sl ?_ | refine r_part ?_ | refine r_noP ?_ | refine r_chain ?_ | refine r_int2 ?_ | refine r_eqI ?_ | refine r_eqS ?_ | refine r_eqB ?_ | refine r_fInt ?_ | refine r_fIntB ?_ | refine r_fAbs ?_ | refine r_fMin ?_ | refine r_lenT ?_ | refine r_isNN ?_ | refine r_isNI ?_ | refine r_isNT ?_ | refine r_isNR ?_ | refine r_ixT0 ?_ | refine r_ixT1 ?_ | refine r_ixT2 ?_ | refine r_ixT3 ?_ | refine r_fld ?_ | refine r_kfld (by assumption) rfl ?_ | refine r_list ?_ | refine r_klist (by assumption) ?_ | refine r_tupI ?_ | refine r_ktupI ?_ | refine r_yes ?_ | refine r_kctI ?_ | refine r_rng1 ?_ | refine r_rng2 ?_ | refine r_enum ?_ | refine r_kenumT ?_ | refine r_kenum (by assumption) ?_ | refine r_fListT ?_ | refine r_fTupT ?_ | refine r_fListR (by assumption) ?_ | refine r_fTupR (by assumption) ?_ | refine r_lenR (by assumption) ?_ | refine r_rev ?_ | refine r_krevT ?_ | refine r_krev (by assumption) ?_ | refine r_setL ?_ | refine r_dget ?_ | refine r_lc0 ?_ | refine r_name ?_ | refine r_gtup (by with_unfolding_all rfl) ?_ | refine r_gcons ?_ | refine r_gnil ?_ | refine r_din ?_ | refine r_setd ?_ | refine r_ksetdA (by assumption) ?_ | refine r_keysI ?_ | refine r_kkeysI (by assumption) ?_ | refine r_dput ?_ | refine r_dput1 ?_ | refine r_dnewK ?_ | refine r_szc (by with_unfolding_all exact Nat.le_of_ble_eq_true rfl) ?_ | refine r_eqlen (by with_unfolding_all rfl) ?_ | refine r_ifT (by decide) ?_ | refine r_ifF (by decide) ?_ | refine r_inFT (b := false) rfl rfl (by decide) ?_ | refine r_inFT (b := true) rfl rfl (by decide) ?_ | refine r_lrng ?_)))
section
variable [τ : Tbl] [β : Bas]
def rdC : DS := zSeq (zPar 13 17 (zCons (zCall (spKind 5) X0 (zCons (zVar 1) (zCons (zC (D.int 5)) (zCons (zC (D.int 4)) zNil)))) (zCons (zCall (spKind 5) X0 (zCons (zVar 1) (zCons (zC (D.int 5)) (zCons (zC (D.int 2)) zNil)))) zNil))) (zSeq (zAsg (zLst zNil) (zName 22)) (zSeq (zDrop (zCall (spLGath 40) X0 (zCons (zVar 13) (zCons (zVar 22) zNil)))) (zSeq (zIfS (zOrT (zTest (zOp (dEqP true) (zCall spVars X0 (zCons (zVar 13) zNil)) (zVar 22))) (zOrT (zTest (zOp (dEqP true) (zCB fList (zCons (zCall spParts X0 (zCons (zVar 13) zNil)) zNil)) (zCall spLParts X0 (zCons (zVar 13) zNil)))) (zTest (zOp (dEqP true) (zCall spWith X0 (zCons (zVar 13) (zCons (zCB fList (zCons (zCall spParts X0 (zCons (zVar 13) zNil)) zNil)) zNil))) (zVar 13))))) (zRet (zC (D.bl false))) zNext) (zSeq (zIfS (zOrT (zTest (zOp (dEqP true) (zCall spNumd X0 (zCons (zLst (zCons (zCall spRenum X0 (zCons (zVar 13) zNil)) zNil)) zNil)) (zCall spNumd X0 (zCons (zLst (zCons (zVar 13) zNil)) zNil)))) (zTest (zOp (dEqF true) (zCall spText X0 (zCons (zVar 13) zNil)) (zCall spText X0 (zCons (zCall spRenum X0 (zCons (zVar 13) zNil)) zNil))))) (zRet (zC (D.bl false))) zNext) (zSeq (zAsg (zCall (spSubst 40) X0 (zCons (zVar 17) (zCons (zCB fDictP (zCons (zLc (zRng1 (zCons (zC (D.int 5)) zNil)) (zName 3) zYes (zTup (zCons (zVar 3) (zCons (zCall (spKind 5) X0 (zCons (zVar 1) (zCons (zC (D.int 5)) (zCons (zC (D.int 2)) zNil)))) zNil))) (List.map (fun x => x.snd) [(Str.ofString "k", 3)])) zNil)) zNil))) (zName 23)) (zSeq (zIfS (zOrT (zNot (zTest (zCall spNoMore X0 (zCons (zVar 23) (zCons (zVar 17) zNil))))) (zTest (zCall (spInst 40) X0 (zCons (zTup (zCons (zC (D.str (Str.ofString "int"))) zNil)) (zCons (zTup (zCons (zC (D.str (Str.ofString "bool"))) zNil)) (zCons zDNewK zNil)))))) (zRet (zC (D.bl false))) zNext) zNext))))))
end
theorem kd_parts_eq {k : Kd} : withA k (args k) = k := by cases k <;> rfl
/-- a table of numbers and kinds -/
theorem tab_val {l : List Kd} {i : Nat} {k : Kd} (h : l[i]? = some k) : (valD (l.zipIdx.map fun p => ((Sum.inl (p.2 : Int) : Key), kd p.1)) (Sum.inl (i : Int))) = some (kd k) := by
  unfold valD
  rw [List.find?_map]
  have hm : (k, i) ∈ l.zipIdx := List.mk_mem_zipIdx_iff_getElem?.mpr h
  cases e : l.zipIdx.find? ((fun kv : Key × D => decide (kv.1 = Sum.inl (i : Int))) ∘ fun p => ((Sum.inl (p.2 : Int) : Key), kd p.1)) with
  | none =>
    rw [List.find?_eq_none] at e
    exact absurd (decide_eq_true rfl) (e _ hm)
  | some p =>
    have h1 := List.mem_of_find?_eq_some e
    have h2 := List.find?_some e
    have h2 : (p.2 : Int) = i := Sum.inl.inj (of_decide_eq_true h2)
    have h3 := List.mk_mem_zipIdx_iff_getElem?.mp (show (p.1, p.2) ∈ l.zipIdx from h1)
    have : p.2 = i := by omega
    rw [this, h] at h3
    rw [Option.some.inj h3]
    rfl
theorem numd_ok {k : Kd} (hw : wf k) (h : wd k ≤ 60) : pl 60 (kd (numd k)) = true := by
  obtain ⟨h1, h2⟩ := seqp_ind (q := fun k => wf k ∧ wd k ≤ 60) (fun x n k h => ⟨wf_ren (put_ren x n) h.1, by rw [wd_ren (put_ren x n)]; exact h.2⟩) (rowsN (gath k []) 1000) k ⟨hw, h⟩
  exact pl_kd _ h1 60 h2
theorem chain1_wd {k : Kd} {n : Nat} (h : wd k ≤ n) : wd (chain [k]) ≤ n + 2 := by
  show wd (.nd .pair [.nd .unit [], k]) ≤ _
  rw [wd, wds, wds, wds, wd, wds, show wt .pair = 1 from rfl, show wt .unit = 1 from rfl]
  omega
theorem chain1_dep {k : Kd} : dep (chain [k]) ≤ dep k + 1 := by
  show dep (.nd .pair [.nd .unit [], k]) ≤ _
  rw [dep, deps, deps, deps, dep, deps]
  omega
theorem numd_call1 {k : Kd} {p : Addr} {W : List Int} {G : Gp} {R : DK} {E : XKz} (h : G p = some (.lst [kd k])) (hw : wf k) (hf : ∀ s ∈ inn k, (args s).length ≤ 1000) (hwd : wd k ≤ 58) (hd : dep k < 39) (hv : ∀ x ∈ vars k, x ∈ W) (lW : W.length ≤ 1000) (q : ∀ G', Ext G G' → R (kd (numd (chain [k]))) G') : spNumd [.ref p] G R E :=
  ⟨p, [k], W, rfl, h, fun a ha => by rw [List.mem_singleton.mp ha]; exact hw, fun a ha => by rw [List.mem_singleton.mp ha]; exact hf, by have := chain1_wd hwd; omega, by have := chain1_dep (k := k); omega, fun a ha => by rw [List.mem_singleton.mp ha]; exact hv, lW, q⟩
/-- the drawn table -/
def tabD (l : List Kd) : List (Key × D) := l.zipIdx.map fun p => ((Sum.inl (p.2 : Int) : Key), kd p.1)
theorem tabD_snoc (l : List Kd) (k : Kd) : tabD (l ++ [k]) = tabD l ++ [((Sum.inl (l.length : Int) : Key), kd k)] := by
  unfold tabD
  rw [List.zipIdx_append, List.map_append]
  simp [List.zipIdx]
theorem tabD_merge : ∀ l : List Kd, mergeD [] (tabD l) = tabD l := by
  have key : ∀ (n : Nat) (l : List Kd), l.length = n → mergeD [] (tabD l) = tabD l := fun n => by
    induction n with
    | zero => intro l hl; rw [List.length_eq_zero_iff.mp hl]; rfl
    | succ n ih =>
      intro l hl
      have e : l = l.dropLast ++ [l.getLast (by intro z; rw [z] at hl; cases hl)] := (List.dropLast_concat_getLast _).symm
      rw [e, tabD_snoc]
      have h1 := ih l.dropLast (by rw [List.length_dropLast]; omega)
      unfold mergeD at h1 ⊢
      rw [List.foldl_append, h1]
      show putD (tabD l.dropLast) _ _ = _
      unfold putD
      have : ((tabD l.dropLast).any fun kv => decide (kv.1 = Sum.inl (l.dropLast.length : Int))) = false := by
        rw [List.any_eq_false]
        rintro kv hkv z
        obtain ⟨p, hp, rfl⟩ := List.mem_map.mp hkv
        have h2 := List.mk_mem_zipIdx_iff_getElem?.mp (show (p.1, p.2) ∈ _ from hp)
        have h3 := (List.getElem?_eq_some_iff.mp h2).1
        have h4 : (p.2 : Int) = (l.dropLast.length : Int) := Sum.inl.inj (of_decide_eq_true z)
        omega
      rw [this]
      rfl
  exact fun l => key _ l rfl
theorem r_dictP {a : Addr} {kvs : List (Key × D)} {G : Gp} {Q : DK} (h : G a = some (.lst (kvs.map fun kv => .tup [kD kv.1, kv.2]))) (q : ∀ p G', G p = none → At G p (.dk (mergeD [] kvs)) G' → Q (.ref p) G') : fDictP [.ref a] G Q := by
  show (match G a with
    | some (.lst es) => ∃ kvs : List (Key × D), es = kvs.map (fun kv => .tup [kD kv.1, kv.2]) ∧ ∀ p G', G p = none → At G p (.dk (mergeD [] kvs)) G' → Q (.ref p) G'
    | _ => False)
  rw [h]
  exact ⟨kvs, rfl, q⟩
theorem partC [τ : Tbl] [β : Bas] {Z : ZEnds} {v0 v2 v3 v4 v5 v6 v7 v8 v9 v10 v11 v12 v13 v14 v15 v16 v17 v18 v19 v20 v21 v22 v23 v24 v25 : Option D} {d : Addr} {m : MO} {G : Gp} (hd : G d = some m) (hi : isDice m) (hz : ∀ ρ' G', ρ'.length = 26 → Exb d G G' → Z.nx ρ' G') : rdC Z [v0, some (.ref d), v2, v3, v4, v5, v6, v7, v8, v9, v10, v11, v12, v13, v14, v15, v16, v17, v18, v19, v20, v21, v22, v23, v24, v25] G := by
  unfold rdC
  walk_at "zr"
  refine ⟨d, m, 5, 4, rfl, hd, hi, by decide, by decide, fun one G1 R1 d1 => ?_⟩
  obtain ⟨m1, hd1, hi1⟩ := R1.dice
  walk_at "zr"
  refine ⟨d, m1, 5, 2, rfl, hd1, hi1, by decide, by decide, fun oth G2 R2 d2 => ?_⟩
  obtain ⟨m2, hd2, hi2⟩ := R2.dice
  have E2 : Exb d G G2 := (R1.trans R2).other
  walk_at "zr"
  intro o G3 no h3
  have vo : ∀ x ∈ vars one, x ∈ nums 5 := fun x hx => mem_nums.mpr (d1.var_ x hx)
  have v2 : ∀ x ∈ vars oth, x ∈ nums 5 := fun x hx => mem_nums.mpr (d2.var_ x hx)
  have dp1 := d1.dep_
  have dp2 := d2.dep_
  have wd1 := d1.wd_
  have wd2 := d2.wd_
  walk_at "zr"
  refine ⟨one, o, [], nums 5, rfl, d1.wf_, by omega, h3.is, List.nodup_nil, fun x hx => (by cases hx), vo, by rw [nums_len]; decide, fun G4 e4 h4 => ?_⟩
  walk_at "zr"
  have od : o ≠ d := fun z => by rw [z, hd2] at no; cases no
  have hd4 := e4 _ _ (Ne.symm od) ((h3.ext no) _ _ hd2)
  have E4 : Exb d G G4 := fun b mm nb hb => e4 b mm (fun z => by
    have := E2 b mm nb hb
    rw [z, no] at this
    cases this) ((h3.ext no) _ _ (E2 b mm nb hb))
  refine ⟨one, nums 5, rfl, d1.wf_, by omega, vo, by rw [nums_len]; decide, fun p5 G5 n5 e5 h5 => ?_⟩
  walk_at "zr"
  refine r_eqLI h5 (e5 _ _ h4) fun c hc => ?_
  rw [hc.mpr rfl]
  walk_at "zr"
  refine ⟨one, rfl, d1.wf_, ?_⟩
  walk_at "zr"
  intro p6 G6 n6 h6
  walk_at "zr"
  refine ⟨one, rfl, d1.wf_, fun p7 G7 n7 h7 => ?_⟩
  have kid : ∀ a ∈ args one, wf a ∧ wd a ≤ 60 := fun a ha => by
    cases one with
    | any y => cases ha
    | nd h as => exact ⟨(wf_nd.mp d1.wf_).2 a ha, Nat.le_trans (wd_child (h := h) (as := as) ha) (by omega)⟩
  have al : (args one).length ≤ 1000 := by
    cases one with
    | any v => exact Nat.zero_le _
    | nd h as =>
      by_cases e : as = []
      · rw [e]; exact Nat.zero_le _
      · exact d1.args_ _ (mem_inn.mpr (.inl ⟨e, rfl⟩))
  refine r_eqL ((h7.ext n7) _ _ h6.is) h7.is (pl_all kid) (pl_all kid) fun c2 hc2 => ?_
  rw [hc2.mpr rfl]
  walk_at "zr"
  refine ⟨one, rfl, d1.wf_, ?_⟩
  walk_at "zr"
  intro p8 G8 n8 h8
  walk_at "zr"
  refine ⟨one, p8, args one, rfl, h8.is, d1.wf_, rfl, al, ?_⟩
  rw [kd_parts_eq]
  walk_at "zr"
  have pl1 : pl 60 (kd one) = true := pl_kd one d1.wf_ 60 (by omega)
  refine r_eqP pl1 pl1 fun c3 hc3 => ?_
  rw [hc3.mpr rfl]
  walk_at "zr"
  have E8 : Exb d G G8 := E4.trans (e5.trans ((h6.ext n6).trans ((h7.ext n7).trans (h8.ext n8)))).exb
  have hd8 : G8 d = some m2 := (e5.trans ((h6.ext n6).trans ((h7.ext n7).trans (h8.ext n8)))) _ _ hd4
  refine ⟨one, nums 5, rfl, d1.wf_, by omega, d1.args_, vo, by rw [nums_len]; decide, fun G9 e9 => ?_⟩
  walk_at "zr"
  intro p9 G10 n9 h9
  walk_at "zr"
  have wr : wf (rnum one) := wf_ren (ren_ren _) d1.wf_
  have wdr : wd (rnum one) = wd one := wd_ren (ren_ren _) one
  have dpr : dep (rnum one) = dep one := dep_ren (ren_ren _) one
  have fwr := few_ren (ren_ren (rowsN (gath one []) 0)) d1.args_
  have vr : ∀ x ∈ vars (rnum one), x ∈ nums 5 := fun x hx => by
    obtain ⟨y, hy, hx⟩ := vars_sub.mp hx
    rw [ren_gR, vars, List.mem_singleton] at hx
    obtain ⟨j, _, lj, e⟩ := rnum_at hy
    exact mem_nums.mpr ⟨j, by have := d1.gl; omega, by rw [hx, e]⟩
  have h9i := h9.is
  refine numd_call1 (W := nums 5) h9i wr fwr (by omega) (by omega) vr (by rw [nums_len]; decide) fun G11 e11 => ?_
  walk_at "zr"
  intro p12 G12 n12 h12
  walk_at "zr"
  have h12i := h12.is
  refine numd_call1 (W := nums 5) h12i d1.wf_ d1.args_ (by omega) (by omega) vo (by rw [nums_len]; decide) fun G13 e13 => ?_
  walk_at "zr"
  have ne : numd (chain [rnum one]) = numd (chain [one]) := rnum_numd (fun x hx => by obtain ⟨i, hi, rfl⟩ := mem_nums.mp (vo x hx); omega) (by have := d1.gl; omega)
  rw [ne]
  have cw : wf (chain [one]) := chain_wf fun k hk => by rw [List.mem_singleton.mp hk]; exact d1.wf_
  have cp := numd_ok cw (by have := chain1_wd (k := one) (n := 10) (by omega); omega)
  refine r_eqP cp cp fun c4 hc4 => ?_
  rw [hc4.mpr rfl]
  walk_at "zr"
  have tx : TxOk (rnum one) := d1.txOk (by decide) (by decide)
  have cf : (cc (rnum one)).f ≤ 40 := by
    rw [show cc (rnum one) = cc one from cc_ren (ren_ren _) one]
    have := d1.cc_.1
    omega
  refine ⟨one, nums 5, rfl, d1.wf_, by omega, d1.args_, vo, by rw [nums_len]; decide, tx, cf, fun G14 e14 => ?_⟩
  walk_at "zr"
  refine ⟨one, nums 5, rfl, d1.wf_, by omega, d1.args_, vo, by rw [nums_len]; decide, fun G15 e15 => ?_⟩
  walk_at "zr"
  refine ⟨rnum one, nums 5, rfl, wr, by omega, fwr, vr, by rw [nums_len]; decide, by rw [rnum_idem]; exact tx, by rw [rnum_idem]; exact cf, fun G16 e16 => ?_⟩
  have te : ktext (rnum one) = ktext one := by unfold ktext; rw [rnum_idem]
  rw [te]
  walk_at "zr"
  refine r_tdec (fun _ => ?_) fun e => absurd rfl e
  walk_at "zr"
  have e816 : Ext G8 G16 := e9.trans ((h9.ext n9).trans (e11.trans ((h12.ext n12).trans (e13.trans (e14.trans (e15.trans e16))))))
  have hd16 := e816 _ _ hd8
  have E16 : Exb d G G16 := E8.trans e816.exb
  refine r_krng1 (n := 5) (by decide) ?_
  refine ⟨fun i acc G' => Exb d G16 G' ∧ (∃ m', G' d = some m' ∧ isDice m') ∧ ∃ ks : List Kd, acc = (tabD ks).map (fun kv => .tup [kD kv.1, kv.2]) ∧ ks.length = i ∧ ∀ k ∈ ks, Dr 5 2 k, ⟨Exb.refl _ _, ⟨_, hd16, hi2⟩, [], rfl, rfl, fun k h => (by cases h)⟩, ?_, ?_⟩
  · rintro i dd acc G' hi' ⟨eA, ⟨m', hA, iA⟩, ks, rfl, lk, dk⟩
    obtain ⟨him, rfl⟩ := rngD_get hi'
    refine ⟨trivial, big_lt (by unfold tabD; rw [List.length_map, List.length_map, List.length_zipIdx]; omega), ?_⟩
    walk_at "zr"
    refine ⟨d, m', 5, 2, rfl, hA, iA, by decide, by decide, fun k G2' R2' dk2 => ?_⟩
    walk_at "zr"
    refine ⟨eA.trans R2'.other, R2'.dice, ks ++ [k], ?_, by rw [List.length_append, lk]; rfl, fun a ha => ?_⟩
    · rw [tabD_snoc, List.map_append, lk]
      rfl
    · rcases List.mem_append.mp ha with ha | ha
      · exact dk a ha
      · rw [List.mem_singleton.mp ha]; exact dk2
  · rintro acc G' ⟨eA, ⟨m', hA, iA⟩, ks, rfl, lk, dk⟩
    refine ⟨trivial, fun p17 G17 n17 h17 => ?_⟩
    have lk : ks.length = 5 := by rw [lk, rngD_len]
    walk_at "zr"
    refine r_dictP h17.is fun p18 G18 n18 h18 => ?_
    have h18i := h18.is
    rw [tabD_merge] at h18i
    walk_at "zr"
    let σ : Int → Kd := fun x => match ks[x.toNat]? with | some k => k | none => .any x
    have hσ : ∀ x ∈ vars oth, ∃ k ∈ ks, σ x = k ∧ valD (tabD ks) (Sum.inl x) = some (kd k) := fun x hx => by
      obtain ⟨i, hi5, rfl⟩ := mem_nums.mp (v2 x hx)
      obtain ⟨k, hk⟩ : ∃ k, ks[i]? = some k := ⟨_, List.getElem?_eq_getElem (by omega)⟩
      refine ⟨k, List.mem_of_getElem? hk, ?_, tab_val hk⟩
      show (match ks[((i : Int)).toNat]? with | some k => k | none => .any (i : Int)) = k
      rw [Int.toNat_natCast, hk]
    refine ⟨oth, p18, tabD ks, σ, rfl, d2.wf_, by omega, h18i, fun x hx => ?_, d2.args_, fun G19 e19 => ?_⟩
    · obtain ⟨k, _, e1, e2⟩ := hσ x hx
      rw [e1, e2]
      rfl
    walk_at "zr"
    have wp : wf (sub σ oth) := wf_sub oth d2.wf_ fun x hx => by obtain ⟨k, hk, e, _⟩ := hσ x hx; rw [e]; exact (dk k hk).wf_
    have wdp : wd (sub σ oth) ≤ wd oth + 6 := wd_subM oth fun x hx => by obtain ⟨k, hk, e, _⟩ := hσ x hx; rw [e]; exact (dk k hk).wd_
    have fp : ∀ s ∈ inn (sub σ oth), (args s).length ≤ 1000 := fun s hs => by
      rcases inn_sub oth hs with ⟨s0, h0, e⟩ | ⟨y, hy, hs⟩
      · have := d2.args_ s0 h0
        rw [e]
        obtain ⟨hd', as, e2, _⟩ := d2.few s0 h0
        rw [e2] at this ⊢
        rw [sub_nd]
        show (as.map (sub σ)).length ≤ _
        rw [List.length_map]
        exact this
      · obtain ⟨k, hk, e, _⟩ := hσ y hy
        rw [e] at hs
        exact (dk k hk).args_ s hs
    refine ⟨sub σ oth, oth, σ, nums 5, rfl, wp, d2.wf_, by omega, by omega, fp, d2.args_, rfl, v2, by rw [nums_len]; decide, fun G20 e20 => ?_⟩
    walk_at "zr"
    intro p21 G21 n21 h21
    walk_at "zr"
    refine ⟨.nd .int [], .nd .bool [], p21, [], rfl, h21.is, wf_nd.mpr ⟨rfl, fun a ha => (by cases ha)⟩, wf_nd.mpr ⟨rfl, fun a ha => (by cases ha)⟩, by decide +kernel, by decide +kernel, fun s hs => (by cases hs), fun s hs => (by cases hs), .inr ⟨rfl, rfl, ?_⟩⟩
    walk_at "zr"
    exact hz _ G21 rfl (E16.trans (eA.trans ((h17.ext n17).trans ((h18.ext n18).trans (e19.trans (e20.trans (h21.ext n21))))).exb))
end K05

namespace K05
open PySem PySem.Spec PyProof.Rows L2 Z
local macro_rules | `(tactic| walk_at "zr") => `(tactic| (repeat' (with_reducible first | refine r_asg ?_ | refine r_asgT ?_ | refine r_asgG ?_ | refine r_asg1 ?_ | refine r_if ?_ | refine r_if1 ?_ | refine r_drop ?_ | refine r_drop1 ?_ | refine r_ret ?_ | refine r_ret1 ?_ | refine r_retN ?_ | refine r_nx ?_ | refine r_nx1 ?_ | refine r_bk ?_ | refine r_ct ?_ | refine r_par ?_ | refine r_par1 ?_ | refine r_par3 ?_ | refine r_par31 ?_ | refine r_for ?_ | refine r_for1 ?_ | refine r_sfld ?_ | refine r_sfld1 ?_ | refine r_aug (by with_unfolding_all rfl) ?_ | refine r_aug1 (by with_unfolding_all rfl) ?_ | refine r_var (by with_unfolding_all rfl) ?_ | refine r_c ?_ | refine r_op ?_ | refine r_ifE ?_ | refine r_nil ?_ | refine r_cons ?_ | refine r_tup ?_ | refine r_lst ?_ | refine r_cb ?_ | refine r_call ?_ | refine r_test ?_ | refine r_not ?_ | refine r_and ?_ | refine r_or ?_ | refine r_andV ?_ | refine r_orV ?_ | refine r_notV ?_ | refine r_neg ?_ | refine r_bm ?_ | refine r_bm0 ?_ | refine r_sl ?_ | refine r_part ?_ | refine r_noP ?_ | refine r_chain ?_ | refine r_int2 ?_ | refine r_eqI ?_ | refine r_eqS ?_ | refine r_eqB ?_ | refine r_fInt ?_ | refine r_fIntB ?_ | refine r_fAbs ?_ | refine r_fMin ?_ | refine r_lenT ?_ | refine r_isNN ?_ | refine r_isNI ?_ | refine r_isNT ?_ | refine r_isNR ?_ | refine r_ixT0 ?_ | refine r_ixT1 ?_ | refine r_ixT2 ?_ | refine r_ixT3 ?_ | refine r_fld ?_ | refine r_kfld (by assumption) rfl ?_ | refine r_list ?_ | refine r_klist (by assumption) ?_ | refine r_tupI ?_ | refine r_ktupI ?_ | refine r_yes ?_ | refine r_kctI ?_ | refine r_rng1 ?_ | refine r_rng2 ?_ | refine r_enum ?_ | refine r_kenumT ?_ | refine r_kenum (by assumption) ?_ | refine r_fListT ?_ | refine r_fTupT ?_ | refine r_fListR (by assumption) ?_ | refine r_fTupR (by assumption) ?_ | refine r_lenR (by assumption) ?_ | refine r_rev ?_ | refine r_krevT ?_ | refine r_krev (by assumption) ?_ | refine r_setL ?_ | refine r_dget ?_ | refine r_lc0 ?_ | refine r_name ?_ | refine r_gtup (by with_unfolding_all rfl) ?_ | refine r_gcons ?_ | refine r_gnil ?_ | refine r_din ?_ | refine r_setd ?_ | refine r_ksetdA (by assumption) ?_ | refine r_keysI ?_ | refine r_kkeysI (by assumption) ?_ | refine r_dput ?_ | refine r_dput1 ?_ | refine r_dnewK ?_ | refine r_szc (by with_unfolding_all exact Nat.le_of_ble_eq_true rfl) ?_ | refine r_eqlen (by with_unfolding_all rfl) ?_ | refine r_ifT (by decide) ?_ | refine r_ifF (by decide) ?_ | refine r_inFT (b := false) rfl rfl (by decide) ?_ | refine r_inFT (b := true) rfl rfl (by decide) ?_ | refine r_lrng ?_)))
def rdB1 [τ : Tbl] [β : Bas] (CU : Addr) (u_ : DS) : DS := zSeq (zIfS (zTest (zOp (dEqP true) (zLc (zList (zVar 11)) (zgTup 2 (zgCons (zName 9) (zgCons (zName 10) zgNil))) (zTest (zOp (dEqP true) (zMeth CU (Str.ofString "full") (spFull CU 40) X0 (zVar 6) (zCons (zVar 9) zNil)) (zMeth CU (Str.ofString "full") (spFull CU 40) X0 (zVar 6) (zCons (zVar 10) zNil)))) (zC (D.int 1)) (List.map (fun x => x.snd) [(Str.ofString "a", 9), (Str.ofString "b", 10)])) (zLst zNil))) (zRet (zC (D.bl false))) zNext) (zSeq (zIfS (zTest (zOp (dEqP true) (zCall spNumd X0 (zCons (zLc (zList (zVar 7)) (zName 13) zYes (zMeth CU (Str.ofString "full") (spFull CU 40) X0 (zVar 6) (zCons (zVar 13) zNil)) (List.map (fun x => x.snd) [(Str.ofString "one", 13)])) zNil)) (zCall spNumd X0 (zCons (zVar 5) zNil)))) (zRet (zC (D.bl false))) zNext) (zSeq (zAsg (zLc (zList (zSl dSlL (zVar 7) zNoP (zPart (zOp (dI CDivN fun i j => D.int (i.fdiv j)) (zVar 2) (zC (D.int 2)))))) (zName 13) zYes (zMeth CU (Str.ofString "full") (spFull CU 40) X0 (zVar 6) (zCons (zVar 13) zNil)) (List.map (fun x => x.snd) [(Str.ofString "one", 13)])) (zName 14)) (zSeq (zAsg (zMeth CU (Str.ofString "scheme_of") (spSch CU) X0 (zVar 6) (zCons (zIf (zTest (zOp (dI0 fun i j => D.bl (decide (j < i))) (zVar 2) (zC (D.int 0)))) (zTup (zCons (zC (D.str (Str.ofString "pair"))) (zCons (zOp dIx (zVar 7) (zC (D.int 0))) (zCons (zOp dIx (zVar 7) (zOp (dI0 fun i j => D.int (i - j)) (zVar 2) (zC (D.int 1)))) zNil)))) (zTup (zCons (zC (D.str (Str.ofString "int"))) zNil))) (zCons (zSl dSlL (zVar 7) zNoP (zPart (zOp (dI CDivN fun i j => D.int (i.fdiv j)) (zVar 2) (zC (D.int 2))))) zNil))) (zgTup 2 (zgCons (zName 15) (zgCons (zName 16) zgNil)))) (zSeq (zAsg (zLc (zList (zCall spVars X0 (zCons (zVar 16) zNil))) (zName 13) (zTest (zOp (dEqP false) (zLc (zList (zVar 14)) (zName 17) (zTest (zOp (dInP false) (zVar 13) (zCall spVars X0 (zCons (zVar 17) zNil)))) (zC (D.int 1)) (List.map (fun x => x.snd) [(Str.ofString "other", 17)])) (zLst zNil))) (zVar 13) (List.map (fun x => x.snd) [(Str.ofString "one", 13)])) (zName 18)) (zSeq (zIfS (zTest (zOp (dEqP true) (zCB fList (zCons (zVar 15) zNil)) (zVar 18))) (zRet (zC (D.bl false))) zNext) u_)))))
theorem cut_take (xs : List D) (n : Nat) : Z.cutD xs none (some (n : Int)) = xs.take n := by
  unfold Z.cutD
  rw [HT.sIx_none, HT.sIx_nat, Nat.sub_zero, List.drop_zero]
  rcases Nat.le_total n xs.length with h | h
  · rw [Nat.min_eq_left h]
  · rw [Nat.min_eq_right h, List.take_of_length_le (Nat.le_refl _), List.take_of_length_le h]
theorem r_slL {a : Addr} {ds : List D} {n : Nat} {G : Gp} {Q : DK} (h : G a = some (.lst ds)) (q : ∀ p G', G p = none → At G p (.lst (ds.take n)) G' → Q (.ref p) G') : dSlL (.ref a) none (some (n : Int)) G Q := by
  show (match G a with
    | some (.lst ds) => ∀ p G', G p = none → At G p (.lst (Z.cutD ds none (some (n : Int)))) G' → Q (.ref p) G'
    | _ => False)
  rw [h]
  show ∀ p G', G p = none → At G p (.lst (Z.cutD ds none (some (n : Int)))) G' → Q (.ref p) G'
  rw [cut_take]
  exact q
/-- what stands in the part: the unifier has made all alike -/
structure Uni1 (CU : Addr) (many : Nat) (E : Ps) (G : Gp) (u t : Addr) (τ : Tb) (φ : Int → Kd) (r : Int → Nat) : Prop where
  dr : DrP many E
  hm : many ≤ 6
  un : UnAt CU G u t τ many
  F : Form τ φ r
  R : RowsIn ((inner E).map (sub sh)) (nums1 many) τ
  hs : ∀ θ, SolT θ τ ↔ SolE θ (shE E)
theorem Uni1.fit {CU : Addr} {many : Nat} {E : Ps} {G : Gp} {u t : Addr} {τ : Tb} {φ : Int → Kd} {r : Int → Nat} (N : Uni1 CU many E G u t τ φ r) {k : Kd} (hk : InU ((inner E).map (sub sh)) (nums1 many) k) : Fit ((inner E).map (sub sh)) (nums1 many) φ k := N.F.fit (univ_start N.dr N.hm) N.R hk
theorem Uni1.wd_ {CU : Addr} {many : Nat} {E : Ps} {G : Gp} {u t : Addr} {τ : Tb} {φ : Int → Kd} {r : Int → Nat} (N : Uni1 CU many E G u t τ φ r) {k : Kd} (hk : InU ((inner E).map (sub sh)) (nums1 many) k) : wd (sub φ k) ≤ 52 := N.F.wd (univ_start N.dr N.hm) (fun p hp => (N.R p hp).2) hk
theorem Uni1.dep_ {CU : Addr} {many : Nat} {E : Ps} {G : Gp} {u t : Addr} {τ : Tb} {φ : Int → Kd} {r : Int → Nat} (N : Uni1 CU many E G u t τ φ r) {k : Kd} (hk : InU ((inner E).map (sub sh)) (nums1 many) k) : dep (sub φ k) ≤ 30 := N.F.dep (univ_start N.dr N.hm) (fun p hp => (N.R p hp).2) hk
theorem Uni1.full {CU : Addr} {many : Nat} {E : Ps} {G : Gp} {u t : Addr} {τ : Tb} {φ : Int → Kd} {r : Int → Nat} (N : Uni1 CU many E G u t τ φ r) {k : Kd} (hk : InU ((inner E).map (sub sh)) (nums1 many) k) {G' : Gp} (e : Ext G G') {R : DK} {X : XKz} (q : ∀ G'', Ext G' G'' → R (kd (sub φ k)) G'') : spFull CU 40 [.ref u, kd k] G' R X := by
  have f := N.fit hk
  exact ⟨u, t, τ, many, φ, r, k, rfl, N.un.ext e, N.F, f.w0, fun p hp => (N.R p hp).2.wf_, f.f0, fun p hp => (N.R p hp).2.few (univ_start N.dr N.hm), f.dep_, q⟩
theorem fr_inU {L : List Kd} {many : Nat} {k : Kd} (h : k ∈ fr many) : InU L (nums1 many) k := by
  obtain ⟨i, hi, rfl⟩ := List.mem_map.mp h
  exact inU_any (List.mem_range.mp hi)
theorem fit_pair {L : List Kd} {V : List Int} {φ : Int → Kd} {a b : Kd} (ha : Fit L V φ a) (hb : Fit L V φ b) (da : dep (sub φ a) ≤ 30) (db : dep (sub φ b) ≤ 30) : Fit L V φ (.nd .pair [a, b]) where
  wf_ := by
    rw [sub_nd]
    refine wf_nd.mpr ⟨rfl, ?_⟩
    simp only [List.map_cons, List.map_nil, List.mem_cons, List.not_mem_nil, or_false, forall_eq_or_imp, forall_eq]
    exact ⟨ha.wf_, hb.wf_⟩
  few := fun s hs => by
    rw [sub_nd] at hs
    rcases mem_inn.mp hs with ⟨_, e⟩ | ⟨c, hc, hs⟩
    · rw [e]; show 2 ≤ 1000; decide
    · simp only [List.map_cons, List.map_nil, List.mem_cons, List.not_mem_nil, or_false] at hc
      rcases hc with rfl | rfl
      · exact ha.few s hs
      · exact hb.few s hs
  dep_ := by
    rw [sub_nd, List.map_cons, List.map_cons, List.map_nil, dep, deps, deps, deps]
    omega
  var_ := fun x hx => by
    rw [sub_nd] at hx
    obtain ⟨c, hc, hx⟩ := vars_nd.mp hx
    simp only [List.map_cons, List.map_nil, List.mem_cons, List.not_mem_nil, or_false] at hc
    rcases hc with rfl | rfl
    · exact ha.var_ x hx
    · exact hb.var_ x hx
  w0 := by
    refine wf_nd.mpr ⟨rfl, ?_⟩
    simp only [List.mem_cons, List.not_mem_nil, or_false, forall_eq_or_imp, forall_eq]
    exact ⟨ha.w0, hb.w0⟩
  f0 := fun s hs => by
    rcases mem_inn.mp hs with ⟨_, e⟩ | ⟨c, hc, hs⟩
    · rw [e]; show 2 ≤ 1000; decide
    · simp only [List.mem_cons, List.not_mem_nil, or_false] at hc
      rcases hc with e | e
      · rw [e] at hs; exact ha.f0 s hs
      · rw [e] at hs; exact hb.f0 s hs
theorem kds_take (l : List Kd) (n : Nat) : (kds l).take n = kds (l.take n) := by rw [kds_map, kds_map, List.map_take]
def isK0 (many : Nat) (k0 : Kd) : Prop := k0 = .nd .int [] ∨ ∃ i j : Nat, i < many ∧ j < many ∧ k0 = .nd .pair [.any ((i : Int) + 1), .any ((j : Int) + 1)]
theorem k0_read {many : Nat} {fp : Addr} {ρ : ZSt} {G : Gp} {R : DK} (h2 : ρ[2]? = some (some (iD many))) (h7 : ρ[7]? = some (some (.ref fp))) (hf : G fp = some (.lst (kds (fr many)))) (q : ∀ k0, isK0 many k0 → R (kd k0) G) :
    zIf (zTest (zOp (dI0 fun i j => D.bl (decide (j < i))) (zVar 2) (zC (D.int 0)))) (zTup (zCons (zC (D.str (Str.ofString "pair"))) (zCons (zOp dIx (zVar 7) (zC (D.int 0))) (zCons (zOp dIx (zVar 7) (zOp (dI0 fun i j => D.int (i - j)) (zVar 2) (zC (D.int 1)))) zNil)))) (zTup (zCons (zC (D.str (Str.ofString "int"))) zNil)) ρ G R := by
  refine r_ifE ?_
  refine r_test ?_
  refine r_op ?_
  refine r_var h2 ?_
  refine r_c ?_
  refine r_int2 ?_
  have g : ∀ {i : Nat}, i < many → (kds (fr many))[i]? = some (kd (.any ((i : Int) + 1))) := fun {i} h => by rw [kds_map, List.getElem?_map, fr_get h]; rfl
  refine r_dec (fun h => ?_) fun h => ?_
  · have h0 : 0 < many := by omega
    refine r_tup ?_
    refine r_cons ?_
    refine r_c ?_
    refine r_cons ?_
    refine r_op ?_
    refine r_var h7 ?_
    refine r_c ?_
    refine r_ixR (n := 0) hf (g h0) ?_
    refine r_cons ?_
    refine r_op ?_
    refine r_var h7 ?_
    refine r_op ?_
    refine r_var h2 ?_
    refine r_c ?_
    refine r_int2 ?_
    rw [show ((many : Int) - 1) = ((many - 1 : Nat) : Int) by omega]
    refine r_ixR hf (g (by omega)) ?_
    refine r_nil ?_
    exact ⟨(by show 3 ≤ sizeLine; decide), q (.nd .pair [.any (((0 : Nat) : Int) + 1), .any (((many - 1 : Nat) : Int) + 1)]) (.inr ⟨0, many - 1, h0, by omega, rfl⟩)⟩
  · refine r_tup ?_
    refine r_cons ?_
    refine r_c ?_
    refine r_nil ?_
    exact ⟨by decide, q (.nd .int []) (.inl rfl)⟩
theorem Uni1.k0 {CU : Addr} {many : Nat} {E : Ps} {G : Gp} {u t : Addr} {τ : Tb} {φ : Int → Kd} {r : Int → Nat} (N : Uni1 CU many E G u t τ φ r) {k0 : Kd} (h : isK0 many k0) : Fit ((inner E).map (sub sh)) (nums1 many) φ k0 ∧ wd (sub φ k0) ≤ 53 ∧ dep (sub φ k0) ≤ 31 := by
  rcases h with rfl | ⟨i, j, hi, hj, rfl⟩
  · exact ⟨⟨wf_nd.mpr ⟨rfl, fun a ha => (by cases ha)⟩, fun s hs => (by cases hs), (by show dep (.nd .int []) < 40; decide +kernel), fun x hx => (by cases hx), wf_nd.mpr ⟨rfl, fun a ha => (by cases ha)⟩, fun s hs => (by cases hs)⟩, (by show wd (.nd .int []) ≤ 53; decide +kernel), (by show dep (.nd .int []) ≤ 31; decide +kernel)⟩
  · have a1 := inU_any (L := (inner E).map (sub sh)) hi
    have b1 := inU_any (L := (inner E).map (sub sh)) hj
    have := N.wd_ a1
    have := N.wd_ b1
    have := N.dep_ a1
    have := N.dep_ b1
    refine ⟨fit_pair (N.fit a1) (N.fit b1) (N.dep_ a1) (N.dep_ b1), ?_, ?_⟩
    · rw [sub_nd, List.map_cons, List.map_cons, List.map_nil, wd, wds, wds, wds, show wt .pair = 1 from rfl]
      omega
    · rw [sub_nd, List.map_cons, List.map_cons, List.map_nil, dep, deps, deps, deps]
      omega
theorem ints_rep (n : Nat) : (List.replicate n (D.int 1)).all (pl 60) = true := by
  rw [List.all_eq_true]
  intro d hd
  rw [List.eq_of_mem_replicate hd]
  rfl
theorem partB1 [τ0 : Tbl] [β : Bas] {CU : Addr} {many : Nat} {E : Ps} {f : List Kd} {V' : List Int} {Ls' : List Kd} {u t : Addr} {τ : Tb} {φ : Int → Kd} {r : Int → Nat} {q fp md dc : Addr} {u_ : DS} {Z : ZEnds} {v0 v3 v4 v8 v9 v10 v12 v13 v14 v15 v16 v17 v18 v19 v20 v21 v22 v23 v24 v25 : Option D} {G : Gp}
    (N : Uni1 CU many E G u t τ φ r) (I : LI E many f [] V' Ls') (wff : ∀ t ∈ f, wf t) (hq : G q = some (.lst (kds f))) (hf : G fp = some (.lst (kds (fr many)))) (hmd : G md = some (.lst (pairsD (shE E))))
    (hz : ∀ (k0 : Kd) (hp : Addr) (w18 : Option D) (G' : Gp) (ns : List Int) (kk : Kd), kk = sub φ k0 → Fit ((inner E).map (sub sh)) (nums1 many) φ k0 → wd kk ≤ 53 → dep kk ≤ 31 → (∀ x ∈ ns, x ∈ vars kk) → ns.Nodup → Ext G G' → u_ Z [v0, some (.ref dc), some (iD many), v3, v4, some (.ref q), some (.ref u), some (.ref fp), v8, v9, v10, some (.ref md), v12, v13, some (.ref hp), some (.tup (intsD ns)), some (kd kk), v17, w18, v19, v20, v21, v22, v23, v24, v25] G') :
    rdB1 CU u_ Z [v0, some (.ref dc), some (iD many), v3, v4, some (.ref q), some (.ref u), some (.ref fp), v8, v9, v10, some (.ref md), v12, v13, v14, v15, v16, v17, v18, v19, v20, v21, v22, v23, v24, v25] G := by
  obtain ⟨dx, hu1⟩ := N.un.obj
  unfold rdB1
  walk_at "zr"
  refine ⟨fun i acc G' => Ext G G' ∧ acc = [], ⟨Ext.refl _, rfl⟩, ?_, ?_⟩
  · rintro i d acc G' hi ⟨e1, rfl⟩
    refine ⟨e1 _ _ hmd, by decide, ?_⟩
    obtain ⟨pq, hpq, rfl⟩ := pairs_get hi
    have pm := List.mem_of_getElem? hpq
    obtain ⟨ia, ib⟩ := inU_shE N.dr pm
    unfold pairD
    walk_at "zr"
    refine r_meth (fun R => rfl) (e1 _ _ hu1) (by with_unfolding_all rfl) ?_
    walk_at "zr"
    refine N.full ia e1 fun G2 e2 => ?_
    walk_at "zr"
    refine r_meth (fun R => rfl) (e2 _ _ (e1 _ _ hu1)) (by with_unfolding_all rfl) ?_
    walk_at "zr"
    refine N.full ib (e1.trans e2) fun G3 e3 => ?_
    refine r_eqP (pl_kd _ (N.fit ia).wf_ 60 (by have := N.wd_ ia; omega)) (pl_kd _ (N.fit ib).wf_ 60 (by have := N.wd_ ib; omega)) fun c hc => ?_
    have eq := (N.hs φ).mp N.F.sol pq pm
    rw [hc.mpr (by rw [eq])]
    walk_at "zr"
    exact ⟨e1.trans (e2.trans e3), rfl⟩
  · rintro acc G1 ⟨e1, rfl⟩
    refine ⟨e1 _ _ hmd, fun p2 G2 n2 h2 => ?_⟩
    walk_at "zr"
    intro p3 G3 n3 h3
    walk_at "zr"
    refine r_eqL ((h3.ext n3) _ _ h2.is) h3.is rfl rfl fun c hc => ?_
    rw [hc.mpr rfl]
    walk_at "zr"
    have e3 : Ext G G3 := e1.trans ((h2.ext n2).trans (h3.ext n3))
    have hf3 := e3 _ _ hf
    have hu3 := e3 _ _ hu1
    walk_at "zr"
    refine ⟨fun i acc G' => Ext G3 G' ∧ acc = kds (((fr many).take i).map (sub φ)), ⟨Ext.refl _, rfl⟩, ?_, ?_⟩
    · rintro i d acc G' hi ⟨e1', rfl⟩
      obtain ⟨a, ha, rfl⟩ := kds_get hi
      have am := List.mem_of_getElem? ha
      have ia : InU ((inner E).map (sub sh)) (nums1 many) a := fr_inU am
      refine ⟨e1' _ _ hf3, big_lt (by rw [kds_len, List.length_map, List.length_take]; have := fr_len many; have := N.hm; omega), ?_⟩
      walk_at "zr"
      refine r_meth (fun R => rfl) (e1' _ _ hu3) (by with_unfolding_all rfl) ?_
      walk_at "zr"
      refine N.full ia (e3.trans e1') fun G2' e2' => ?_
      walk_at "zr"
      refine ⟨e1'.trans e2', ?_⟩
      rw [List.take_add_one, ha, List.map_append, kds_map, kds_map, List.map_append]
      rfl
    · rintro acc G4 ⟨e4, rfl⟩
      refine ⟨e4 _ _ hf3, fun p5 G5 n5 h5 => ?_⟩
      have h5i := h5.is
      rw [kds_len, List.take_length] at h5i
      have e5 : Ext G G5 := e3.trans (e4.trans (h5.ext n5))
      walk_at "zr"
      have wds_ : ∀ k ∈ (fr many).map (sub φ), wd k ≤ 52 := fun k hk => by obtain ⟨a, ha, rfl⟩ := List.mem_map.mp hk; exact N.wd_ (fr_inU ha)
      have dps_ : ∀ k ∈ (fr many).map (sub φ), dep k ≤ 30 := fun k hk => by obtain ⟨a, ha, rfl⟩ := List.mem_map.mp hk; exact N.dep_ (fr_inU ha)
      have fts_ : ∀ k ∈ (fr many).map (sub φ), wf k ∧ (∀ s ∈ inn k, (args s).length ≤ 1000) ∧ ∀ x ∈ vars k, x ∈ nums1 many := fun k hk => by
        obtain ⟨a, ha, rfl⟩ := List.mem_map.mp hk
        have := N.fit (fr_inU ha)
        exact ⟨this.wf_, this.few, this.var_⟩
      have hm := N.hm
      have cw1 := chain_wd (n := 52) _ wds_ (by decide)
      have cd1 := chain_dep (n := 30) _ dps_
      rw [List.length_map, fr_len] at cw1 cd1
      refine ⟨p5, (fr many).map (sub φ), nums1 many, rfl, h5i, fun k hk => (fts_ k hk).1, fun k hk => (fts_ k hk).2.1, by omega, by omega, fun k hk => (fts_ k hk).2.2, by rw [nums1_len]; omega, fun G6 e6 => ?_⟩
      walk_at "zr"
      have cw2 := chain_wd (n := 52) f (fun k hk => I.wdf hk) (by decide)
      have cd2 := chain_dep (n := 30) f (fun k hk => I.depf hk)
      rw [I.len] at cw2 cd2
      refine ⟨q, f, V', rfl, e6 _ _ (e5 _ _ hq), wff, fun k hk => I.few (I.inf k hk), by omega, by omega, fun k hk x hx => I.alv x (.inr ⟨k, hk, hx⟩), ?_, fun G7 e7 => ?_⟩
      · have := nodup_sub (W := nums many) I.nod fun x hx => by
          obtain ⟨k, e, hk⟩ := I.fx x hx
          have := (List.getElem?_eq_some_iff.mp hk).1
          rw [I.len] at this
          exact mem_nums.mpr ⟨k, this, e⟩
        rw [nums_len] at this
        omega
      walk_at "zr"
      have same : numd (chain ((fr many).map (sub φ))) = numd (chain f) := due_alike I N.F N.hs (fun i hi x hx => by
        have := (N.fit (fr_inU (List.mem_of_getElem? (fr_get hi)))).var_ x hx
        obtain ⟨j, hj, rfl⟩ := mem_nums1.mp this
        omega) hm
      have cp := numd_ok (chain_wf wff) (by omega)
      rw [same]
      refine r_eqP cp cp fun c2 hc2 => ?_
      rw [hc2.mpr rfl]
      walk_at "zr"
      have e7' : Ext G G7 := e5.trans (e6.trans e7)
      have hf7 := e7' _ _ hf
      refine ⟨⟨by decide, by decide⟩, ?_⟩
      have ed : (many : Int).fdiv 2 = ((many / 2 : Nat) : Int) := by rw [Int.fdiv_eq_ediv_of_nonneg _ (by decide)]; rfl
      dsimp only
      rw [ed]
      refine r_slL hf7 fun p8 G8 n8 h8 => ?_
      have h8i := h8.is
      rw [kds_take] at h8i
      have e8 : Ext G G8 := e7'.trans (h8.ext n8)
      have hu8 := e8 _ _ hu1
      refine r_klist h8i ?_
      refine ⟨fun i acc G' => Ext G8 G' ∧ acc = kds ((((fr many).take (many / 2)).take i).map (sub φ)), ⟨Ext.refl _, rfl⟩, ?_, ?_⟩
      · rintro i d acc G' hi ⟨e1', rfl⟩
        obtain ⟨a, ha, rfl⟩ := kds_get hi
        have am := List.mem_of_getElem? ha
        have ia : InU ((inner E).map (sub sh)) (nums1 many) a := fr_inU (List.mem_of_mem_take am)
        refine ⟨e1' _ _ h8i, big_lt (by rw [kds_len, List.length_map, List.length_take, List.length_take, fr_len]; omega), ?_⟩
        walk_at "zr"
        refine r_meth (fun R => rfl) (e1' _ _ hu8) (by with_unfolding_all rfl) ?_
        walk_at "zr"
        refine N.full ia (e8.trans e1') fun G2' e2' => ?_
        refine ⟨e1'.trans e2', ?_⟩
        rw [List.take_add_one, ha, List.map_append, kds_map, kds_map, List.map_append]
        rfl
      · rintro acc G9 ⟨e9, rfl⟩
        refine ⟨e9 _ _ h8i, fun hp G10 n10 h10 => ?_⟩
        have h10i := h10.is
        rw [kds_len, List.take_length] at h10i
        have e10 : Ext G G10 := e8.trans (e9.trans (h10.ext n10))
        refine r_asgT ?_
        refine r_meth (fun R => rfl) (e10 _ _ hu1) (by with_unfolding_all rfl) ?_
        refine r_cons ?_
        refine k0_read rfl rfl (e10 _ _ hf) fun k0 hk0 => ?_
        obtain ⟨fit0, wd0, dp0⟩ := N.k0 hk0
        walk_at "zr"
        refine ⟨⟨by decide, by decide⟩, ?_⟩
        dsimp only
        rw [ed]
        refine r_slL (e10 _ _ hf) fun p11 G11 n11 h11 => ?_
        have h11i := h11.is
        rw [kds_take] at h11i
        have e11 : Ext G G11 := e10.trans (h11.ext n11)
        walk_at "zr"
        refine ⟨_, _, u, t, p11, τ, many, φ, r, k0, (fr many).take (many / 2), rfl, N.un.ext e11, N.F, fun p hp => (N.R p hp).2.wf_, fun p hp => (N.R p hp).2.few (univ_start N.dr N.hm), fit0, fun a ha => N.fit (fr_inU (List.mem_of_mem_take ha)), h11i, by rw [List.length_take, fr_len]; omega, by rw [nums1_len]; omega, fun G12 e12 => ?_⟩
        refine ⟨rfl, ?_⟩
        walk_at "zr"
        have vk : ∀ x ∈ vars (sub φ k0), x ∈ nums1 many := fit0.var_
        refine ⟨sub φ k0, nums1 many, rfl, fit0.wf_, fit0.dep_, vk, by rw [nums1_len]; omega, fun p13 G13 n13 e13 h13 => ?_⟩
        walk_at "zr"
        have h10j : G13 hp = some (.lst (kds (((fr many).take (many / 2)).map (sub φ)))) := e13 _ _ (e12 _ _ ((h11.ext n11) _ _ h10i))
        have gl : (gath (sub φ k0) []).length ≤ 6 := by
          have := nodup_sub (W := nums1 many) (nodup_gath (k := sub φ k0)) fun x hx => vk x (mem_gath.mp hx)
          rw [nums1_len] at this
          omega
        have hel : ∀ x, x ∈ heldOf φ ((fr many).take (many / 2)) ↔ ∃ b ∈ ((fr many).take (many / 2)).map (sub φ), x ∈ vars b := fun x => by
          rw [mem_held]
          constructor
          · rintro ⟨b, hb, h⟩; exact ⟨_, List.mem_map.mpr ⟨b, hb, rfl⟩, h⟩
          · rintro ⟨b, hb, h⟩; obtain ⟨b0, h0, rfl⟩ := List.mem_map.mp hb; exact ⟨b0, h0, h⟩
        have hfit : ∀ b ∈ ((fr many).take (many / 2)).map (sub φ), wf b ∧ dep b < 40 ∧ ∀ x ∈ vars b, x ∈ nums1 many := fun b hb => by
          obtain ⟨b0, h0, rfl⟩ := List.mem_map.mp hb
          have := N.fit (fr_inU (List.mem_of_mem_take h0))
          exact ⟨this.wf_, this.dep_, this.var_⟩
        have hll : (((fr many).take (many / 2)).map (sub φ)).length ≤ 6 := by rw [List.length_map, List.length_take, fr_len]; omega
        generalize hHl : ((fr many).take (many / 2)).map (sub φ) = Hl at h10j hel hfit hll
        refine ⟨fun i acc G' => Ext G13 G' ∧ acc = intsD (((gath (sub φ k0) []).take i).filter fun x => decide (x ∉ heldOf φ ((fr many).take (many / 2)))), ⟨Ext.refl _, rfl⟩, ?_, ?_⟩
        · rintro i d acc G' hi ⟨e14, rfl⟩
          obtain ⟨x, hx, rfl⟩ := intsD_get hi
          have tk : (gath (sub φ k0) []).take (i + 1) = (gath (sub φ k0) []).take i ++ [x] := by rw [List.take_add_one, hx]; rfl
          have h10k := e14 _ _ h10j
          refine ⟨e14 _ _ h13, big_lt (by rw [intsD_len]; have := List.length_filter_le (fun x => decide (x ∉ heldOf φ ((fr many).take (many / 2)))) ((gath (sub φ k0) []).take i); rw [List.length_take] at this; omega), ?_⟩
          walk_at "zr"
          refine ⟨fun j acc G'' => Ext G' G'' ∧ ∃ n, acc = List.replicate n (.int 1) ∧ n ≤ j ∧ (n = 0 ↔ ∀ b ∈ Hl.take j, x ∉ vars b), ⟨Ext.refl _, 0, rfl, Nat.le_refl _, by simp⟩, ?_, ?_⟩
          · rintro j d acc G'' hj ⟨e15, n, rfl, ln, hn⟩
            obtain ⟨b, hb, rfl⟩ := kds_get hj
            have bm := List.mem_of_getElem? hb
            have bl := (List.getElem?_eq_some_iff.mp hb).1
            obtain ⟨b1, b2, b3⟩ := hfit b bm
            have tk2 : Hl.take (j + 1) = Hl.take j ++ [b] := by rw [List.take_add_one, hb]; rfl
            refine ⟨e15 _ _ h10k, big_lt (by rw [List.length_replicate]; omega), ?_⟩
            walk_at "zr"
            refine ⟨b, nums1 many, rfl, b1, b2, b3, by rw [nums1_len]; omega, fun p16 G16 n16 e16 h16 => ?_⟩
            refine r_inLI h16 fun c hc => ?_
            rw [mem_gath] at hc
            walk_at "zr"
            refine r_iff hc (fun hm2 => ?_) fun hm2 => ?_
            · walk_at "zr"
              refine ⟨e15.trans e16, n + 1, by rw [List.replicate_succ'], by omega, ?_⟩
              rw [tk2]
              exact ⟨fun h => (by omega), fun h => absurd hm2 (h b (by simp))⟩
            · refine ⟨e15.trans e16, n, rfl, by omega, ?_⟩
              rw [tk2, hn]
              constructor
              · intro h b' hb'
                rcases List.mem_append.mp hb' with h1 | h1
                · exact h b' h1
                · rw [List.mem_singleton.mp h1]; exact hm2
              · exact fun h b' hb' => h b' (List.mem_append_left _ hb')
          · rintro acc G16 ⟨e15, n, rfl, ln, hn⟩
            refine ⟨e15 _ _ h10k, fun p17 G17 n17 h17 => ?_⟩
            walk_at "zr"
            intro p18 G18 n18 h18
            have h17i := (h18.ext n18) _ _ h17.is
            rw [kds_len, List.take_length] at hn
            refine r_eqL h17i h18.is (ints_rep n) rfl fun c hc => ?_
            have e18 : Ext G13 G18 := e14.trans (e15.trans ((h17.ext n17).trans (h18.ext n18)))
            have hc2 : c = true ↔ x ∉ heldOf φ ((fr many).take (many / 2)) := by
              rw [hc, hel]
              constructor
              · intro h
                have : n = 0 := by have := congrArg List.length h; simpa using this
                rintro ⟨b, hb, hx'⟩
                exact hn.mp this b hb hx'
              · intro h
                have : n = 0 := hn.mpr fun b hb hx' => h ⟨b, hb, hx'⟩
                rw [this]; rfl
            walk_at "zr"
            refine r_iff hc2 (fun hm2 => ?_) fun hm2 => ?_
            · walk_at "zr"
              refine ⟨e18, ?_⟩
              rw [tk, List.filter_append, List.filter_cons_of_pos (by simp [hm2]), ← intsD_app]
              rfl
            · refine ⟨e18, ?_⟩
              rw [tk, List.filter_append, List.filter_cons_of_neg (by simp at hm2; simp [hm2])]
              simp
        · rintro acc G14 ⟨e14, rfl⟩
          refine ⟨e14 _ _ h13, fun p15 G15 n15 h15 => ?_⟩
          have h15i := h15.is
          rw [intsD_len, List.take_length] at h15i
          walk_at "zr"
          intro p16 G16 n16 h16
          walk_at "zr"
          have h15j := (h16.ext n16) _ _ h15i
          refine r_eqLI h16.is h15j fun c hc => ?_
          rw [hc.mpr rfl]
          walk_at "zr"
          refine hz k0 hp _ G16 _ _ rfl fit0 wd0 dp0 (fun x hx => mem_gath.mp ((List.mem_filter.mp hx).1)) (nodup_gath.filter _) (e11.trans (e12.trans (e13.trans (e14.trans ((h15.ext n15).trans (h16.ext n16))))))
end K05

namespace K05
open PySem PySem.Spec PyProof.Rows L2 Z
local macro_rules | `(tactic| walk_at "zr") => `(tactic| (repeat' (with_reducible first | refine r_asg ?_ | refine r_asgT ?_ | refine r_asgG ?_ | refine r_asg1 ?_ | refine r_if ?_ | refine r_if1 ?_ | refine r_drop ?_ | refine r_drop1 ?_ | refine r_ret ?_ | refine r_ret1 ?_ | refine r_retN ?_ | refine r_nx ?_ | refine r_nx1 ?_ | refine r_bk ?_ | refine r_ct ?_ | refine r_par ?_ | refine r_par1 ?_ | refine r_par3 ?_ | refine r_par31 ?_ | refine r_for ?_ | refine r_for1 ?_ | refine r_sfld ?_ | refine r_sfld1 ?_ | refine r_aug (by with_unfolding_all rfl) ?_ | refine r_aug1 (by with_unfolding_all rfl) ?_ | refine r_var (by with_unfolding_all rfl) ?_ | refine r_c ?_ | refine r_op ?_ | refine r_ifE ?_ | refine r_nil ?_ | refine r_cons ?_ | refine r_tup ?_ | refine r_lst ?_ | refine r_cb ?_ | refine r_call ?_ | refine r_test ?_ | refine r_not ?_ | refine r_and ?_ | refine r_or ?_ | refine r_andV ?_ | refine r_orV ?_ | refine r_notV ?_ | refine r_neg ?_ | refine r_bm ?_ | refine r_bm0 ?_ | refine r_sl ?_ | refine r_part ?_ | refine r_noP ?_ | refine r_chain ?_ | refine r_int2 ?_ | refine r_eqI ?_ | refine r_eqS ?_ | refine r_eqB ?_ | refine r_fInt ?_ | refine r_fIntB ?_ | refine r_fAbs ?_ | refine r_fMin ?_ | refine r_lenT ?_ | refine r_isNN ?_ | refine r_isNI ?_ | refine r_isNT ?_ | refine r_isNR ?_ | refine r_ixT0 ?_ | refine r_ixT1 ?_ | refine r_ixT2 ?_ | refine r_ixT3 ?_ | refine r_fld ?_ | refine r_kfld (by assumption) rfl ?_ | refine r_list ?_ | refine r_klist (by assumption) ?_ | refine r_tupI ?_ | refine r_ktupI ?_ | refine r_yes ?_ | refine r_kctI ?_ | refine r_rng1 ?_ | refine r_rng2 ?_ | refine r_enum ?_ | refine r_kenumT ?_ | refine r_kenum (by assumption) ?_ | refine r_fListT ?_ | refine r_fTupT ?_ | refine r_fListR (by assumption) ?_ | refine r_fTupR (by assumption) ?_ | refine r_lenR (by assumption) ?_ | refine r_rev ?_ | refine r_krevT ?_ | refine r_krev (by assumption) ?_ | refine r_setL ?_ | refine r_dget ?_ | refine r_lc0 ?_ | refine r_name ?_ | refine r_gtup (by with_unfolding_all rfl) ?_ | refine r_gcons ?_ | refine r_gnil ?_ | refine r_din ?_ | refine r_setd ?_ | refine r_ksetdA (by assumption) ?_ | refine r_keysI ?_ | refine r_kkeysI (by assumption) ?_ | refine r_dput ?_ | refine r_dput1 ?_ | refine r_dnewK ?_ | refine r_szc (by with_unfolding_all exact Nat.le_of_ble_eq_true rfl) ?_ | refine r_eqlen (by with_unfolding_all rfl) ?_ | refine r_ifT (by decide) ?_ | refine r_ifF (by decide) ?_ | refine r_inFT (b := false) rfl rfl (by decide) ?_ | refine r_inFT (b := true) rfl rfl (by decide) ?_ | refine r_lrng ?_)))
def rdB2 [τ : Tbl] [β : Bas] (CU : Addr) : DS := zSeq (zAsg (zMeth CU (Str.ofString "fresh_copy") (spCpy CU) X0 (zVar 6) (zCons (zTup (zCons (zVar 15) (zCons (zVar 16) zNil))) zNil)) (zName 19)) (zSeq (zPar 20 21 (zCons (zLst zNil) (zCons (zLst zNil) zNil))) (zSeq (zDrop (zCall (spLGath 40) X0 (zCons (zVar 19) (zCons (zVar 20) zNil)))) (zSeq (zDrop (zCall (spLGath 40) X0 (zCons (zVar 16) (zCons (zVar 21) zNil)))) (zSeq (zIfS (zOrT (zTest (zOp (dEqP true) (zCall spNumd X0 (zCons (zLst (zCons (zVar 19) zNil)) zNil)) (zCall spNumd X0 (zCons (zLst (zCons (zVar 16) zNil)) zNil)))) (zTest (zOp (dEqP true) (zLc (zZipA (zCons (zVar 20) (zCons (zVar 21) zNil))) (zgTup 2 (zgCons (zName 9) (zgCons (zName 10) zgNil))) (zTest (zOp (dEqF false) (zOp (dEqP false) (zVar 9) (zVar 10)) (zOp (dInP false) (zVar 10) (zVar 15)))) (zC (D.int 1)) (List.map (fun x => x.snd) [(Str.ofString "a", 9), (Str.ofString "b", 10)])) (zLst zNil)))) (zRet (zC (D.bl false))) zNext) (zSeq (zIfS (zOrT (zNot (zTest (zCall spNoMore X0 (zCons (zVar 19) (zCons (zVar 16) zNil))))) (zTest (zOp (dEqP true) (zLc (zTupI (zVar 15)) (zName 13) (zTest (zOp (dInP false) (zVar 13) (zCall spVars X0 (zCons (zVar 19) zNil)))) (zVar 13) (List.map (fun x => x.snd) [(Str.ofString "one", 13)])) (zLst zNil)))) (zRet (zC (D.bl false))) zNext) zNext)))))
theorem intsD_rev {l : List Int} {i : Nat} {x : Int} (h : l[i]? = some x) : (intsD l)[i]? = some (.int x) := by unfold intsD; rw [List.getElem?_map, h]; rfl
theorem partB2 [τ0 : Tbl] [β : Bas] {CU : Addr} {many : Nat} {E : Ps} {u t : Addr} {τ : Tb} {φ : Int → Kd} {r : Int → Nat} {q fp md hp dc : Addr} {ns : List Int} {k0 kk : Kd} {Z : ZEnds} {v0 v3 v4 v8 v9 v10 v12 v13 v17 v18 v19 v20 v21 v22 v23 v24 v25 : Option D} {G : Gp}
    (N : Uni1 CU many E G u t τ φ r) (ek : kk = sub φ k0) (fit0 : Fit ((inner E).map (sub sh)) (nums1 many) φ k0) (wd0 : wd kk ≤ 53) (dp0 : dep kk ≤ 31) (nsk : ∀ x ∈ ns, x ∈ vars kk) (nn : ns.Nodup)
    (hz : ∀ ρ' G', ρ'.length = 26 → ρ'[1]? = some (some (.ref dc)) → Exb u G G' → Z.nx ρ' G') : rdB2 CU Z [v0, some (.ref dc), some (iD many), v3, v4, some (.ref q), some (.ref u), some (.ref fp), v8, v9, v10, some (.ref md), v12, v13, some (.ref hp), some (.tup (intsD ns)), some (kd kk), v17, v18, v19, v20, v21, v22, v23, v24, v25] G := by
  obtain ⟨dx, hu1⟩ := N.un.obj
  have hm := N.hm
  have wk_ : wf kk := by rw [ek]; exact fit0.wf_
  have fk : ∀ s ∈ inn kk, (args s).length ≤ 1000 := by rw [ek]; exact fit0.few
  have dk : dep kk < 40 := by rw [ek]; exact fit0.dep_
  have vk : ∀ x ∈ vars kk, x ∈ nums1 many := by rw [ek]; exact fit0.var_
  have ik : sub φ kk = kk := by rw [ek]; exact N.F.idem k0
  have vb : ∀ x ∈ vars kk, 1 ≤ x ∧ x ≤ many := fun x hx => by obtain ⟨i, hi, rfl⟩ := mem_nums1.mp (vk x hx); omega
  have fitk : Fit ((inner E).map (sub sh)) (nums1 many) φ kk := ⟨by rw [ik]; exact wk_, by rw [ik]; exact fk, by rw [ik]; exact dk, by rw [ik]; exact vk, wk_, fk⟩
  have nsl : ns.length ≤ 6 := by
    have := nodup_sub (W := nums1 many) nn fun x hx => vk x (nsk x hx)
    rw [nums1_len] at this
    omega
  have gkl : (gath kk []).length ≤ 6 := by
    have := nodup_sub (W := nums1 many) (nodup_gath (k := kk)) fun x hx => vk x (mem_gath.mp hx)
    rw [nums1_len] at this
    omega
  unfold rdB2
  walk_at "zr"
  refine r_meth (fun R => rfl) hu1 (by with_unfolding_all rfl) ?_
  walk_at "zr"
  refine ⟨_, _, u, t, τ, many, φ, r, ns, kk, rfl, N.un, N.F, fun p hp => (N.R p hp).2.wf_, fun p hp => (N.R p hp).2.few (univ_start N.dr N.hm), fitk, nn, by omega, fun G1 e1 _ => ?_⟩
  rw [ik]
  let g : Int → Int := gR (rowsN ns ((many + 1 : Nat) : Int))
  have rr : isRen (ren (rowsN ns ((many + 1 : Nat) : Int))) := ren_ren _
  have ginj : ∀ x ∈ vars kk, ∀ y ∈ vars kk, g x = g y → x = y := fun x hx y hy e => copy_inj nn (vb x hx).2 (vb y hy).2 e
  have gnew : ∀ x ∈ ns, (many : Int) < g x ∧ g x ≤ many + 7 := fun x hx => by
    obtain ⟨j, hj, lj⟩ := at_of hx
    show (many : Int) < gR _ x ∧ gR _ x ≤ _
    rw [gR_at nn hj]
    omega
  have gold : ∀ x, x ∉ ns → g x = x := fun x hx => gR_not hx
  have gle : ∀ x ∈ vars kk, g x ≤ many + 7 := fun x hx => by
    by_cases h : x ∈ ns
    · exact (gnew x h).2
    · rw [gold x h]; have := vb x hx; omega
  generalize ec : sub (ren (rowsN ns ((many + 1 : Nat) : Int))) kk = cp
  have ec2 : cp = sub (fun x => .any (g x)) kk := ec.symm
  have wc : wf cp := by rw [← ec]; exact wf_ren rr wk_
  have wdc : wd cp ≤ 53 := by rw [← ec, wd_ren rr]; exact wd0
  have dc : dep cp < 40 := by rw [← ec, dep_ren rr]; exact dk
  have fc : ∀ s ∈ inn cp, (args s).length ≤ 1000 := by rw [← ec]; exact few_ren rr fk
  have vcp : vars cp = (vars kk).map g := by rw [ec2]; exact vars_ren kk fun x _ => rfl
  have gcp : gath cp [] = (gath kk []).map g := by
    unfold gath
    rw [vcp]
    exact fold_ren (vars kk) [] fun x hx y hy e => ginj x (by simpa using hx) y (by simpa using hy) e
  have gcl : (gath cp []).length ≤ 6 := by rw [gcp, List.length_map]; exact gkl
  walk_at "zr"
  intro p20 G2 n20 h20
  walk_at "zr"
  intro p21 G3 n21 h21
  have n2021 : p20 ≠ p21 := fun z => by rw [← z, h20.is] at n21; cases n21
  have e3 : Exb u G G3 := e1.trans ((h20.ext n20).trans (h21.ext n21)).exb
  have h20i := (h21.ext n21) _ _ h20.is
  walk_at "zr"
  refine ⟨cp, p20, [], gath cp [], rfl, wc, dc, h20i, List.nodup_nil, fun x hx => (by cases hx), fun x hx => mem_gath.mpr hx, by omega, fun G4 e4 h4 => ?_⟩
  have h21i := e4 _ _ (Ne.symm n2021) h21.is
  walk_at "zr"
  refine ⟨kk, p21, [], gath kk [], rfl, wk_, dk, h21i, List.nodup_nil, fun x hx => (by cases hx), fun x hx => mem_gath.mpr hx, by omega, fun G5 e5 h5 => ?_⟩
  have h4i := e5 _ _ n2021 h4
  have e35 : Exb u G G5 := fun b mm nb hb => by
    have b1 := e1 b mm nb hb
    have x1 : b ≠ p20 := fun z => by rw [z, n20] at b1; cases b1
    have b2 := (h20.ext n20) _ _ b1
    have x2 : b ≠ p21 := fun z => by rw [z, n21] at b2; cases b2
    exact e5 b mm x2 (e4 b mm x1 ((h21.ext n21) _ _ b2))
  walk_at "zr"
  intro p6 G6 n6 h6
  walk_at "zr"
  have h6i := h6.is
  refine numd_call1 (W := gath cp []) h6i wc fc (by omega) (by rw [← ec, dep_ren rr]; omega) (fun x hx => mem_gath.mpr hx) (by omega) fun G7 e7 => ?_
  walk_at "zr"
  intro p8 G8 n8 h8
  walk_at "zr"
  have h8i := h8.is
  refine numd_call1 (W := gath kk []) h8i wk_ fk (by omega) (by omega) (fun x hx => mem_gath.mpr hx) (by omega) fun G9 e9 => ?_
  have same : numd (chain [cp]) = numd (chain [kk]) := by
    rw [ec2]
    exact numd_ren1 ginj (fun x hx => by have := vb x hx; omega) fun x hx => by have := gle x hx; omega
  rw [same]
  have cw : wf (chain [kk]) := chain_wf fun k hk => by rw [List.mem_singleton.mp hk]; exact wk_
  have cpl := numd_ok cw (by have := chain1_wd wd0; omega)
  refine r_eqP cpl cpl fun c hc => ?_
  rw [hc.mpr rfl]
  have e59 : Ext G5 G9 := (h6.ext n6).trans (e7.trans ((h8.ext n8).trans e9))
  have h4j := e59 _ _ h4i
  have h5j := e59 _ _ h5
  walk_at "zr"
  refine r_zipA ?_
  walk_at "zr"
  refine r_kzip h4j h5j ?_
  refine ⟨fun i acc G' => Ext G9 G' ∧ acc = [], ⟨Ext.refl _, rfl⟩, ?_, ?_⟩
  · rintro i d acc G' hi ⟨e10, rfl⟩
    obtain ⟨d1, d2, g1, g2, rfl⟩ := zipD_get hi
    obtain ⟨a, ha, rfl⟩ := intsD_get g1
    obtain ⟨b, hb, rfl⟩ := intsD_get g2
    rw [gcp, List.getElem?_map, hb] at ha
    cases Option.some.inj ha
    have bm : b ∈ vars kk := mem_gath.mp (List.mem_of_getElem? hb)
    refine ⟨⟨e10 _ _ h4j, e10 _ _ h5j⟩, by decide, ?_⟩
    walk_at "zr"
    refine r_eqP rfl rfl fun c2 hc2 => ?_
    walk_at "zr"
    refine r_inTI fun c3 hc3 => ?_
    walk_at "zr"
    have hne : c2 ≠ c3 := fun e => by
      by_cases hn : b ∈ ns
      · have h1 := (gnew b hn).1
        have h2 := (vb b bm).2
        have h3 := hc2.mp (e.trans (hc3.mpr hn))
        have h4 : g b = b := by injection h3
        omega
      · have h3 : c2 = true := hc2.mpr (by rw [gold b hn])
        exact hn (hc3.mp (e ▸ h3))
    have hf : (false != decide ((false != c2) = (false != c3))) = false := by
      revert hne
      cases c2 <;> cases c3 <;> decide
    refine r_ifF hf ?_
    exact ⟨e10, rfl⟩
  · rintro acc G10 ⟨e10, rfl⟩
    refine ⟨⟨e10 _ _ h4j, e10 _ _ h5j⟩, fun p11 G11 n11 h11 => ?_⟩
    walk_at "zr"
    intro p12 G12 n12 h12
    walk_at "zr"
    refine r_eqL ((h12.ext n12) _ _ h11.is) h12.is rfl rfl fun c4 hc4 => ?_
    rw [hc4.mpr rfl]
    walk_at "zr"
    refine ⟨cp, kk, fun x => .any (g x), gath kk [], rfl, wc, wk_, by omega, dk, fc, fk, ec2, fun x hx => mem_gath.mpr hx, by omega, fun G13 e13 => ?_⟩
    walk_at "zr"
    refine ⟨fun i acc G' => Ext G13 G' ∧ acc = [], ⟨Ext.refl _, rfl⟩, ?_, ?_⟩
    · rintro i d acc G' hi ⟨e14, rfl⟩
      obtain ⟨x, hx, rfl⟩ := intsD_get hi
      have xm := List.mem_of_getElem? hx
      refine ⟨trivial, by decide, ?_⟩
      walk_at "zr"
      refine ⟨cp, gath cp [], rfl, wc, dc, fun x hx => mem_gath.mpr hx, by omega, fun p15 G15 n15 e15 h15 => ?_⟩
      refine r_inLI h15 fun c5 hc5 => ?_
      rw [mem_gath, vcp] at hc5
      walk_at "zr"
      refine r_iff hc5 (fun hm5 => ?_) fun _ => ⟨e14.trans e15, rfl⟩
      exfalso
      obtain ⟨y, hy, e⟩ := List.mem_map.mp hm5
      by_cases hn : y ∈ ns
      · have h1 := (gnew y hn).1
        have h2 := (vb x (nsk x xm)).2
        omega
      · rw [gold y hn] at e
        exact hn (e ▸ xm)
    · rintro acc G14 ⟨e14, rfl⟩
      refine ⟨trivial, fun p15 G15 n15 h15 => ?_⟩
      walk_at "zr"
      intro p16 G16 n16 h16
      walk_at "zr"
      refine r_eqL ((h16.ext n16) _ _ h15.is) h16.is rfl rfl fun c6 hc6 => ?_
      rw [hc6.mpr rfl]
      walk_at "zr"
      exact hz _ G16 rfl rfl (e35.trans (e59.trans (e10.trans ((h11.ext n11).trans ((h12.ext n12).trans (e13.trans (e14.trans ((h15.ext n15).trans (h16.ext n16)))))))).exb)
end K05

namespace K05
open PySem PySem.Spec PyProof.Rows L2 Z
local macro_rules | `(tactic| walk_at "zr") => `(tactic| (repeat' (with_reducible first | refine r_asg ?_ | refine r_asgT ?_ | refine r_asgG ?_ | refine r_asg1 ?_ | refine r_if ?_ | refine r_if1 ?_ | refine r_drop ?_ | refine r_drop1 ?_ | refine r_ret ?_ | refine r_ret1 ?_ | refine r_retN ?_ | refine r_nx ?_ | refine r_nx1 ?_ | refine r_bk ?_ | refine r_ct ?_ | refine r_par ?_ | refine r_par1 ?_ | refine r_par3 ?_ | refine r_par31 ?_ | refine r_for ?_ | refine r_for1 ?_ | refine r_sfld ?_ | refine r_sfld1 ?_ | refine r_aug (by with_unfolding_all rfl) ?_ | refine r_aug1 (by with_unfolding_all rfl) ?_ | refine r_var (by with_unfolding_all rfl) ?_ | refine r_c ?_ | refine r_op ?_ | refine r_ifE ?_ | refine r_nil ?_ | refine r_cons ?_ | refine r_tup ?_ | refine r_lst ?_ | refine r_cb ?_ | refine r_call ?_ | refine r_test ?_ | refine r_not ?_ | refine r_and ?_ | refine r_or ?_ | refine r_andV ?_ | refine r_orV ?_ | refine r_notV ?_ | refine r_neg ?_ | refine r_bm ?_ | refine r_bm0 ?_ | refine r_sl ?_ | refine r_part ?_ | refine r_noP ?_ | refine r_chain ?_ | refine r_int2 ?_ | refine r_eqI ?_ | refine r_eqS ?_ | refine r_eqB ?_ | refine r_fInt ?_ | refine r_fIntB ?_ | refine r_fAbs ?_ | refine r_fMin ?_ | refine r_lenT ?_ | refine r_isNN ?_ | refine r_isNI ?_ | refine r_isNT ?_ | refine r_isNR ?_ | refine r_ixT0 ?_ | refine r_ixT1 ?_ | refine r_ixT2 ?_ | refine r_ixT3 ?_ | refine r_fld ?_ | refine r_kfld (by assumption) rfl ?_ | refine r_list ?_ | refine r_klist (by assumption) ?_ | refine r_tupI ?_ | refine r_ktupI ?_ | refine r_yes ?_ | refine r_kctI ?_ | refine r_rng1 ?_ | refine r_rng2 ?_ | refine r_enum ?_ | refine r_kenumT ?_ | refine r_kenum (by assumption) ?_ | refine r_fListT ?_ | refine r_fTupT ?_ | refine r_fListR (by assumption) ?_ | refine r_fTupR (by assumption) ?_ | refine r_lenR (by assumption) ?_ | refine r_rev ?_ | refine r_krevT ?_ | refine r_krev (by assumption) ?_ | refine r_setL ?_ | refine r_dget ?_ | refine r_lc0 ?_ | refine r_name ?_ | refine r_gtup (by with_unfolding_all rfl) ?_ | refine r_gcons ?_ | refine r_gnil ?_ | refine r_din ?_ | refine r_setd ?_ | refine r_ksetdA (by assumption) ?_ | refine r_keysI ?_ | refine r_kkeysI (by assumption) ?_ | refine r_dput ?_ | refine r_dput1 ?_ | refine r_dnewK ?_ | refine r_szc (by with_unfolding_all exact Nat.le_of_ble_eq_true rfl) ?_ | refine r_eqlen (by with_unfolding_all rfl) ?_ | refine r_ifT (by decide) ?_ | refine r_ifF (by decide) ?_ | refine r_inFT (b := false) rfl rfl (by decide) ?_ | refine r_inFT (b := true) rfl rfl (by decide) ?_ | refine r_lrng ?_)))
def rdA [τ : Tbl] [β : Bas] (K : PySem.W.Frag) (CU CK : Addr) (u_ : DS) : DS := zSeq (zAsg (zCall spRoll X0 (zCons (zVar 1) (zCons (zC (D.int 7)) zNil))) (zName 2)) (zSeq (zAsg (zLc (zRng1 (zCons (zCall spRoll X0 (zCons (zVar 1) (zCons (zC (D.int 6)) zNil))) zNil)) (zName 3) zYes (zTup (zCons (zCall (spKind 5) X0 (zCons (zVar 1) (zCons (zVar 2) (zCons (zOp (dI0 fun i j => D.int (i + j)) (zC (D.int 1)) (zCall spRoll X0 (zCons (zVar 1) (zCons (zC (D.int 2)) zNil)))) zNil)))) (zCons (zCall (spKind 5) X0 (zCons (zVar 1) (zCons (zVar 2) (zCons (zOp (dI0 fun i j => D.int (i + j)) (zC (D.int 1)) (zCall spRoll X0 (zCons (zVar 1) (zCons (zC (D.int 2)) zNil)))) zNil)))) zNil))) (List.map (fun x => x.snd) [(Str.ofString "k", 3)])) (zName 4)) (zSeq (zAsg (zTup (zCons (zCall (spAlike 40) X0 (zCons (zVar 4) (zCons (zVar 2) zNil))) (zCons (zMake CU (spInit CU) X0 zNil) zNil))) (zgTup 2 (zgCons (zName 5) (zgCons (zName 6) zgNil)))) (zSeq (zAsg (zLc (zRng1 (zCons (zVar 2) zNil)) (zName 3) zYes (zMeth CU (Str.ofString "fresh") (spFresh CU) X0 (zVar 6) zNil) (List.map (fun x => x.snd) [(Str.ofString "k", 3)])) (zName 7)) (zSeq (zAsg (zCB fDictP (zCons (zLc (zRng1 (zCons (zVar 2) zNil)) (zName 3) zYes (zTup (zCons (zVar 3) (zCons (zOp dIx (zVar 7) (zVar 3)) zNil))) (List.map (fun x => x.snd) [(Str.ofString "k", 3)])) zNil)) (zName 8)) (zSeq (zAsg (zLc (zList (zVar 4)) (zgTup 2 (zgCons (zName 9) (zgCons (zName 10) zgNil))) zYes (zTup (zCons (zCall (spSubst 40) X0 (zCons (zVar 9) (zCons (zVar 8) zNil))) (zCons (zCall (spSubst 40) X0 (zCons (zVar 10) (zCons (zVar 8) zNil))) zNil))) (List.map (fun x => x.snd) [(Str.ofString "a", 9), (Str.ofString "b", 10)])) (zName 11)) (zSeq (zAsg (zC (D.str (Str.ofString "good"))) (zName 12)) (zSeq (zFor (zList (zVar 11)) (zgTup 2 (zgCons (zName 9) (zgCons (zName 10) zgNil))) (zIfS (zTest (zOp (dEqF false) (zVar 12) (zC (D.str (Str.ofString "good"))))) (zAsg (zIf (zTest (zOp (dEqP false) (zTold K [(CK, Str.ofString "KindError")] fun E02 => zMeth CU (Str.ofString "unify") (spUni CU CK) E02 (zVar 6) (zCons (zVar 9) (zCons (zVar 10) zNil))) (zC (D.str (Str.ofString "KindError"))))) (zC (D.str (Str.ofString "KindError"))) (zC (D.str (Str.ofString "good")))) (zName 12)) zNext)) (zSeq (zIfS (zTest (zOp (dEqF true) (zOp (dEqF false) (zVar 12) (zC (D.str (Str.ofString "good")))) (zOp (dIsN true) (zVar 5) (zC D.non)))) (zRet (zC (D.bl false))) zNext) u_))))))))
def DueOk (E : Ps) (many : Nat) (due : D) (G : Gp) : Prop := (due = .non ∧ ¬ ∃ θ, SolE θ E) ∨ ∃ (q : Addr) (f : List Kd) (V' : List Int) (Ls' : List Kd), due = .ref q ∧ G q = some (.lst (kds f)) ∧ LI E many f [] V' Ls' ∧ ∀ t ∈ f, wf t
theorem drp_wf {many : Nat} {E : Ps} (h : DrP many E) : wfP E := fun p hp => ⟨(h.2 p hp).1.wf_, (h.2 p hp).2.wf_⟩
theorem alike_call {E : Ps} {many : Nat} {p : Addr} {G : Gp} {R : DK} {X : XKz} (h : G p = some (.lst (pairsD E))) (dr : DrP many E) (hm : many ≤ 6) (q : ∀ due G', Ext G G' → DueOk E many due G' → R due G') : spAlike 40 [.ref p, iD many] G R X :=
  ⟨p, E, many, nums many, inner E, rfl, h, by omega, drp_wf dr, li_start dr, phi_start dr hm, fun hn G' e => q _ G' e (.inl ⟨rfl, hn⟩), fun qq f V' Ls' G' e hq I hw => q _ G' e (.inr ⟨qq, f, V', Ls', rfl, hq, I, hw⟩)⟩
theorem r_make {C : Addr} {z : ZSp} {E0 : XKz} {t : DA} {ρ : ZSt} {G : Gp} {Q : DK} (h : t ρ G fun ds G1 => ∀ x dx G2, G1 x = none → At G1 x (.obj C dx []) G2 → z (.ref x :: ds) G2 (fun d G3 => d = .non ∧ Q (.ref x) G3) E0) : zMake C z E0 t ρ G Q := h
theorem r_told {K : PySem.W.Frag} {l : List (Addr × Str)} {t : DL} {ρ : ZSt} {G : Gp} {Q : DK} (h : t (toldZ K Q l) ρ G Q) : zTold K l t ρ G Q := h
theorem tabD_get {l : List Kd} {i : Nat} {k : Kd} (h : l[i]? = some k) : (tabD l)[i]? = some ((Sum.inl (i : Int) : Key), kd k) := by
  unfold tabD
  rw [List.getElem?_map, List.getElem?_zipIdx, h]
  simp
theorem tabD_len (l : List Kd) : (tabD l).length = l.length := by unfold tabD; rw [List.length_map, List.length_zipIdx]
theorem shE_get {E : Ps} {i : Nat} {p : Kd × Kd} (h : E[i]? = some p) : (shE E)[i]? = some (sub sh p.1, sub sh p.2) := by unfold shE; rw [List.getElem?_map, h]; rfl
theorem shE_len (E : Ps) : (shE E).length = E.length := by unfold shE; rw [List.length_map]
theorem DueOk.keep {E : Ps} {many : Nat} {due : D} {G G' : Gp} (h : DueOk E many due G) (k : ∀ b x, G b = some x → G' b = some x) : DueOk E many due G' := by
  rcases h with h | ⟨q, f, V', Ls', e, hq, I, hw⟩
  · exact .inl h
  · exact .inr ⟨q, f, V', Ls', e, k _ _ hq, I, hw⟩
theorem li_sol {E : Ps} {many : Nat} {f : List Kd} {V' : List Int} {Ls' : List Kd} (I : LI E many f [] V' Ls') : ∃ θ, SolE θ E := by
  classical
  let θ0 : Int → Kd := fun x => match f[x.toNat]? with | some t => if 0 ≤ x then t else .any x | none => .any x
  have t0 : ∀ (k : Nat) t, f[k]? = some t → θ0 (k : Int) = t := fun k t h => by
    show (match f[((k : Int)).toNat]? with | some t => if 0 ≤ (k : Int) then t else .any (k : Int) | none => .any (k : Int)) = t
    rw [Int.toNat_natCast, h]
    simp
  have sid : ∀ t ∈ f, sub θ0 t = t := fun t ht => by
    conv => rhs; rw [← sub_any t]
    refine sub_congr t fun x hx => ?_
    obtain ⟨k, e, hk⟩ := I.fx x (I.alv x (.inr ⟨t, ht, hx⟩))
    have := t0 k _ hk
    rw [e] at this ⊢
    exact this
  exact ⟨θ0, (I.sol θ0).mpr ⟨fun p hp => (by cases hp), fun k t h => by rw [sid t (List.mem_of_getElem? h), t0 k t h]⟩⟩
/-- what stands behind the unifying -/
def Told1 (CU : Addr) (many : Nat) (E : Ps) (told : Str) (u t : Addr) (i : Nat) (G : Gp) : Prop := (told = "good" ∧ ∃ τ φ r, UnAt CU G u t τ many ∧ Form τ φ r ∧ RowsIn ((inner E).map (sub sh)) (nums1 many) τ ∧ ∀ θ, SolT θ τ ↔ SolE θ ((shE E).take i)) ∨ (told = "KindError" ∧ ¬ ∃ θ, SolE θ (shE E))
theorem partA [τ0 : Tbl] [β : Bas] {K : PySem.W.Frag} {mg : Str → Option Value} {CU CK : Addr} {u_ : DS} {Z : ZEnds} {v0 v2 v3 v4 v5 v6 v7 v8 v9 v10 v11 v12 v13 v14 v15 v16 v17 v18 v19 v20 v21 v22 v23 v24 v25 : Option D} {d : Addr} {m : MO} {G : Gp} (T : Txt K mg CU CK) (hd : G d = some m) (hi : isDice m)
    (hz : ∀ (many : Nat) (E : Ps) (due : D) (u t fp md : Addr) (told : Str) (G' : Gp) (ρ' : ZSt), ρ'.length = 26 → ρ'[1]? = some (some (.ref d)) → ρ'[2]? = some (some (iD many)) → ρ'[5]? = some (some due) → ρ'[6]? = some (some (.ref u)) → ρ'[7]? = some (some (.ref fp)) → ρ'[11]? = some (some (.ref md)) →
      DrP many E → many ≤ 6 → DueOk E many due G' → Told1 CU many E told u t (shE E).length G' → (due ≠ .non ↔ told = "good") → G' fp = some (.lst (kds (fr many))) → G' md = some (.lst (pairsD (shE E))) → (∀ b x, b ≠ d → G b = some x → b ≠ u ∧ G' b = some x) → (∃ m', G' d = some m' ∧ isDice m') → u ≠ d → u_ Z ρ' G') :
    rdA K CU CK u_ Z [v0, some (.ref d), v2, v3, v4, v5, v6, v7, v8, v9, v10, v11, v12, v13, v14, v15, v16, v17, v18, v19, v20, v21, v22, v23, v24, v25] G := by
  unfold rdA
  walk_at "zr"
  refine roll_at hd hi 7 rfl (by decide) (by decide) fun many G1 hm R1 => ?_
  obtain ⟨m1, hd1, hi1⟩ := R1.dice
  walk_at "zr"
  refine roll_at hd1 hi1 6 rfl (by decide) (by decide) fun nk G2 hnk R2 => ?_
  obtain ⟨m2, hd2, hi2⟩ := R2.dice
  walk_at "zr"
  refine r_krng1 (by omega) ?_
  refine ⟨fun i acc G' => Exb d G2 G' ∧ (∃ m', G' d = some m' ∧ isDice m') ∧ ∃ E : Ps, acc = pairsD E ∧ E.length = i ∧ ∀ p ∈ E, Dr many 2 p.1 ∧ Dr many 2 p.2, ⟨Exb.refl _ _, ⟨m2, hd2, hi2⟩, [], rfl, rfl, fun p h => (by cases h)⟩, ?_, ?_⟩
  · rintro i dd acc G' hi' ⟨eA, ⟨m', hA, iA⟩, E, rfl, lE, dE⟩
    obtain ⟨him, rfl⟩ := rngD_get hi'
    refine ⟨trivial, big_lt (by rw [pairsD_len]; omega), ?_⟩
    walk_at "zr"
    refine roll_at hA iA 2 rfl (by decide) (by decide) fun j G3 hj R3 => ?_
    obtain ⟨m3, hd3, hi3⟩ := R3.dice
    walk_at "zr"
    rw [show ((1 : Int) + (j : Int)) = ((1 + j : Nat) : Int) by omega]
    refine ⟨d, m3, many, 1 + j, rfl, hd3, hi3, by omega, by omega, fun a G4 R4 da => ?_⟩
    obtain ⟨m4, hd4, hi4⟩ := R4.dice
    walk_at "zr"
    refine roll_at hd4 hi4 2 rfl (by decide) (by decide) fun j2 G5 hj2 R5 => ?_
    obtain ⟨m5, hd5, hi5⟩ := R5.dice
    walk_at "zr"
    rw [show ((1 : Int) + (j2 : Int)) = ((1 + j2 : Nat) : Int) by omega]
    refine ⟨d, m5, many, 1 + j2, rfl, hd5, hi5, by omega, by omega, fun b G6 R6 db => ?_⟩
    walk_at "zr"
    refine ⟨eA.trans (((R3.trans R4).trans (R5.trans R6)).other), R6.dice, E ++ [(a, b)], ?_, by rw [List.length_append, lE]; rfl, fun p hp => ?_⟩
    · unfold pairsD
      rw [List.map_append]
      rfl
    · rcases List.mem_append.mp hp with hp | hp
      · exact dE p hp
      · rw [List.mem_singleton.mp hp]
        exact ⟨da.mono (by omega), db.mono (by omega)⟩
  · rintro acc G3 ⟨eA, ⟨m3, hd3, hi3⟩, E, rfl, lE, dE⟩
    rw [rngD_len] at lE
    have dr : DrP many E := ⟨by omega, dE⟩
    have hm6 : many ≤ 6 := by omega
    refine ⟨trivial, fun pp G4 n4 h4 => ?_⟩
    have h4i := h4.is
    have ppd : pp ≠ d := fun z => by rw [z, hd3] at n4; cases n4
    have hd4 := (h4.ext n4) _ _ hd3
    have e4 : Exb d G G4 := (R1.trans R2).other.trans (eA.trans (h4.ext n4).exb)
    walk_at "zr"
    refine alike_call h4i dr hm6 fun due G5 e5 hdue => ?_
    walk_at "zr"
    refine r_make ?_
    refine r_nil ?_
    intro u dx G6 n6 h6
    have h6i := h6.is
    refine ⟨u, dx, rfl, h6i, fun G7 t nt e7 un7 => ?_⟩
    refine ⟨rfl, ?_⟩
    walk_at "zr"
    have k57 : ∀ b x, G5 b = some x → b ≠ u ∧ b ≠ t ∧ G7 b = some x := fun b x hb => by
      have h1 : b ≠ u := fun z => by rw [z, n6] at hb; cases hb
      have h2 := (h6.ext n6) _ _ hb
      have h3 : b ≠ t := fun z => by rw [z, nt] at h2; cases h2
      exact ⟨h1, h3, e7 b x h1 h2⟩
    have ut : u ≠ t := fun z => by
      obtain ⟨dx', h1⟩ := un7.obj
      rw [z, un7.tab] at h1
      cases h1
    refine r_krng1 (by omega) ?_
    refine ⟨fun i acc G' => Exb u G7 G' ∧ UnAt CU G' u t [] i ∧ acc = kds ((fr many).take i), ⟨Exb.refl _ _, un7, rfl⟩, ?_, ?_⟩
    · rintro i dd acc G' hi' ⟨e8, un8, rfl⟩
      obtain ⟨him, rfl⟩ := rngD_get hi'
      obtain ⟨dx8, hu8⟩ := un8.obj
      refine ⟨trivial, big_lt (by rw [kds_len, List.length_take, fr_len]; omega), ?_⟩
      walk_at "zr"
      refine r_meth (fun R => rfl) hu8 (by with_unfolding_all rfl) ?_
      walk_at "zr"
      refine ⟨u, t, [], i, rfl, un8, fun G9 e9 un9 => ?_⟩
      refine ⟨e8.trans e9, un9, ?_⟩
      rw [List.take_add_one, fr_get him, kds_map, kds_map, List.map_append]
      rfl
    · rintro acc G8 ⟨e8, un8, rfl⟩
      rw [rngD_len] at un8
      rw [rngD_len, List.take_of_length_le (by rw [fr_len]; exact Nat.le_refl _)]
      refine ⟨trivial, fun fp G9 n9 h9 => ?_⟩
      have h9i := h9.is
      have un9 := un8.ext (h9.ext n9)
      walk_at "zr"
      refine r_krng1 (by omega) ?_
      refine ⟨fun i acc G' => Ext G9 G' ∧ acc = ((tabD (fr many)).take i).map (fun kv => .tup [kD kv.1, kv.2]), ⟨Ext.refl _, rfl⟩, ?_, ?_⟩
      · rintro i dd acc G' hi' ⟨e10, rfl⟩
        obtain ⟨him, rfl⟩ := rngD_get hi'
        refine ⟨trivial, big_lt (by rw [List.length_map, List.length_take, tabD_len, fr_len]; omega), ?_⟩
        walk_at "zr"
        refine r_ixR (e10 _ _ h9i) (by rw [kds_map, List.getElem?_map, fr_get him]; rfl) ?_
        walk_at "zr"
        refine ⟨e10, ?_⟩
        rw [List.take_add_one, tabD_get (fr_get him), List.map_append]
        rfl
      · rintro acc G10 ⟨e10, rfl⟩
        rw [rngD_len, List.take_of_length_le (by rw [tabD_len, fr_len]; exact Nat.le_refl _)]
        refine ⟨trivial, fun p11 G11 n11 h11 => ?_⟩
        walk_at "zr"
        refine r_dictP h11.is fun tb G12 n12 h12 => ?_
        have h12i := h12.is
        rw [tabD_merge] at h12i
        have e912 : Ext G9 G12 := e10.trans ((h11.ext n11).trans (h12.ext n12))
        have k512 : ∀ b x, G5 b = some x → b ≠ u ∧ b ≠ t ∧ G12 b = some x := fun b x hb => by
          obtain ⟨h1, h2, h3⟩ := k57 b x hb
          exact ⟨h1, h2, e912 _ _ ((h9.ext n9) _ _ (e8 b x h1 h3))⟩
        have hpp := (k512 _ _ (e5 _ _ h4i)).2.2
        walk_at "zr"
        refine ⟨fun i acc G' => Ext G12 G' ∧ acc = pairsD ((shE E).take i), ⟨Ext.refl _, rfl⟩, ?_, ?_⟩
        · rintro i dd acc G' hi' ⟨e13, rfl⟩
          obtain ⟨pq, hpq, rfl⟩ := pairs_get hi'
          obtain ⟨da, db⟩ := dE pq (List.mem_of_getElem? hpq)
          have htb := e13 _ _ h12i
          have vals : ∀ {k : Kd}, Dr many 2 k → ∀ x ∈ vars k, (valD (tabD (fr many)) (Sum.inl x)).getD (kd (.any x)) = kd (sh x) := fun {k} dk x hx => by
            obtain ⟨i, hi, rfl⟩ := dk.var_ x hx
            have hv : valD (tabD (fr many)) (Sum.inl (i : Int)) = some (kd (.any ((i : Int) + 1))) := tab_val (fr_get hi)
            rw [hv]
            rfl
          refine ⟨e13 _ _ hpp, big_lt (by rw [pairsD_len, List.length_take, shE_len]; omega), ?_⟩
          unfold pairD
          walk_at "zr"
          refine ⟨pq.1, tb, _, sh, rfl, da.wf_, by have := da.dep_; omega, htb, vals da, da.args_, fun G14 e14 => ?_⟩
          walk_at "zr"
          refine ⟨pq.2, tb, _, sh, rfl, db.wf_, by have := db.dep_; omega, e14 _ _ htb, vals db, db.args_, fun G15 e15 => ?_⟩
          walk_at "zr"
          refine ⟨e13.trans (e14.trans e15), ?_⟩
          rw [List.take_add_one, shE_get hpq]
          unfold pairsD
          rw [List.map_append]
          rfl
        · rintro acc G13 ⟨e13, rfl⟩
          rw [pairsD_len, List.take_of_length_le (by rw [shE_len]; exact Nat.le_refl _)]
          refine ⟨e13 _ _ hpp, fun md G14 n14 h14 => ?_⟩
          have h14i := h14.is
          have e914 : Ext G9 G14 := e912.trans (e13.trans (h14.ext n14))
          have un14 := un9.ext e914
          have h9j := e914 _ _ h9i
          have k514 : ∀ b x, G5 b = some x → b ≠ u ∧ b ≠ t ∧ G14 b = some x := fun b x hb => by
            obtain ⟨h1, h2, h3⟩ := k512 b x hb
            exact ⟨h1, h2, (h14.ext n14) _ _ (e13 _ _ h3)⟩
          have neT : ∀ {b : Addr} {l : List D}, G14 b = some (.lst l) → b ≠ t := fun {b l} hb z => by rw [z, un14.tab] at hb; cases hb
          walk_at "zr"
          have U := univ_start dr hm6
          have no_E : ∀ {i : Nat}, (¬ ∃ θ, SolE θ ((shE E).take i)) → ¬ ∃ θ, SolE θ (shE E) := fun {i} h ⟨θ, hθ⟩ => h ⟨θ, fun p hp => hθ p (List.mem_of_mem_take hp)⟩
          refine ⟨fun i ρ' G' => Exb t G14 G' ∧ ∃ (told : Str) (w9 w10 : Option D), Told1 CU many E told u t i G' ∧
            ρ' = [v0, some (.ref d), some (iD many), v3, some (.ref pp), some due, some (.ref u), some (.ref fp), some (.ref tb), w9, w10, some (.ref md), some (.str told), v13, v14, v15, v16, v17, v18, v19, v20, v21, v22, v23, v24, v25],
            ⟨Exb.refl _ _, "good", _, _, .inl ⟨rfl, [], .any, fun _ => 0, un14, Form.nil, fun p hp => (by cases hp), fun θ => ⟨fun _ p hp => (by simp at hp), fun _ p hp => (by cases hp)⟩⟩, rfl⟩, ?_, ?_⟩
          · rintro i dd ρ' G' hi' ⟨e15, told, w9, w10, ht, rfl⟩
            refine ⟨e15 _ _ (neT h14i) h14i, ?_⟩
            obtain ⟨pq, hpq, rfl⟩ := pairs_get hi'
            obtain ⟨ia, ib⟩ := inU_shE dr (List.mem_of_getElem? hpq)
            have tk : (shE E).take (i + 1) = (shE E).take i ++ [pq] := by rw [List.take_add_one, hpq]; rfl
            unfold pairD
            walk_at "zr"
            rcases ht with ⟨rfl, τ, φ, r, un, F, R, hs⟩ | ⟨rfl, hno⟩
            · obtain ⟨dxu, hu⟩ := un.obj
              refine r_ndec (fun _ => ?_) fun e => absurd rfl e
              walk_at "zr"
              refine r_told ?_
              refine r_meth (fun R => rfl) hu (by with_unfolding_all rfl) ?_
              walk_at "zr"
              refine ⟨_, _, U, u, t, τ, many, φ, r, pq.1, pq.2, rfl, un, F, R, ia, ib, ⟨pq.1, 0, ia, by decide, fun θ _ => by omega⟩, fun hn G16 e16 => ?_, fun G16 τ' φ' r' e16 un16 F16 R16 _ hs16 => ?_⟩
              · refine ⟨true, T.m_KindError, fun _ => ?_, fun h => by cases h⟩
                walk_at "zr"
                refine r_eqP (by decide +kernel) (by decide +kernel) fun c hc => ?_
                rw [hc.mpr rfl]
                walk_at "zr"
                refine ⟨e15.trans e16, "KindError", _, _, .inr ⟨rfl, no_E (i := i + 1) ?_⟩, rfl⟩
                rintro ⟨θ, hθ⟩
                rw [tk, SolE.app] at hθ
                exact hn ⟨θ, (hs θ).mpr hθ.1, hθ.2 pq (by simp)⟩
              · walk_at "zr"
                refine r_eqP rfl (by decide +kernel) fun c hc => ?_
                have hcf : c = false := by
                  cases c with
                  | false => rfl
                  | true => have := hc.mp rfl; cases this
                subst hcf
                walk_at "zr"
                refine ⟨e15.trans e16, "good", _, _, .inl ⟨rfl, τ', φ', r', un16, F16, R16, fun θ => ?_⟩, rfl⟩
                rw [hs16, hs, tk, SolE.app]
                exact ⟨fun ⟨h1, h2⟩ => ⟨h1, fun p hp => by rw [List.mem_singleton.mp hp]; exact h2⟩, fun ⟨h1, h2⟩ => ⟨h1, h2 pq (by simp)⟩⟩
            · refine r_ndec (fun e => absurd e (by decide)) fun _ => ?_
              walk_at "zr"
              exact ⟨e15, "KindError", _, _, .inr ⟨rfl, hno⟩, rfl⟩
          · rintro ρ' G15 ⟨e15, told, w9, w10, ht, rfl⟩
            refine ⟨e15 _ _ (neT h14i) h14i, ?_⟩
            rw [pairsD_len] at ht
            have hdue14 : DueOk E many due G14 := hdue.keep fun b x hb => (k514 b x hb).2.2
            have hdue15 : DueOk E many due G15 := by
              rcases hdue14 with h | ⟨q, f, V', Ls', e, hq, I, hw⟩
              · exact .inl h
              · exact .inr ⟨q, f, V', Ls', e, e15 _ _ (neT hq) hq, I, hw⟩
            have agree : due ≠ .non ↔ told = "good" := by
              constructor
              · intro hn
                rcases hdue with ⟨h, _⟩ | ⟨q, f, V', Ls', e, hq, I, hw⟩
                · exact absurd h hn
                · rcases ht with ⟨h, _⟩ | ⟨_, hno⟩
                  · exact h
                  · exfalso
                    obtain ⟨θ, hθ⟩ := li_sol I
                    exact hno ⟨fun y => θ (y - 1), sol_sh.mpr (by
                      have : (fun x : Int => θ (x + 1 - 1)) = θ := by funext x; rw [Int.add_sub_cancel]
                      rw [this]
                      exact hθ)⟩
              · intro hg hn
                rcases hdue with ⟨_, hno⟩ | ⟨q, f, V', Ls', e, hq, I, hw⟩
                · rcases ht with ⟨_, τ, φ, r, un, F, R, hs⟩ | ⟨h, _⟩
                  · rw [List.take_length] at hs
                    exact hno ⟨_, sol_sh.mp ((hs φ).mp F.sol)⟩
                  · rw [h] at hg
                    exact absurd hg (by decide)
                · rw [e] at hn; cases hn
            have fin : u_ Z [v0, some (.ref d), some (iD many), v3, some (.ref pp), some due, some (.ref u), some (.ref fp), some (.ref tb), w9, w10, some (.ref md), some (.str told), v13, v14, v15, v16, v17, v18, v19, v20, v21, v22, v23, v24, v25] G15 := by
              obtain ⟨h1, h2, h3⟩ := k514 _ _ (e5 _ _ hd4)
              refine hz many E due u t fp md told G15 _ rfl rfl rfl rfl rfl rfl rfl dr hm6 hdue15 ht agree (e15 _ _ (neT h9j) h9j) (e15 _ _ (neT h14i) h14i) (fun b x nb hb => ?_) ⟨m3, e15 _ _ h2 h3, hi3⟩ (Ne.symm h1)
              obtain ⟨g1, g2, g3⟩ := k514 _ _ (e5 _ _ (e4 b x nb hb))
              exact ⟨g1, e15 _ _ g2 g3⟩
            walk_at "zr"
            rcases hdue with ⟨h, _⟩ | ⟨q, f, V', Ls', e, hq, I, hw⟩
            · subst h
              have tn : told ≠ "good" := fun h => agree.mpr h rfl
              rw [decide_eq_false tn]
              walk_at "zr"
              exact fin
            · subst e
              have tg : told = "good" := agree.mp fun h => by cases h
              subst tg
              walk_at "zr"
              exact fin
end K05

namespace K05
open PySem PySem.Spec PyProof.Rows L2 Z
local macro_rules | `(tactic| walk_at "zr") => `(tactic| (repeat' (with_reducible first | refine r_asg ?_ | refine r_asgT ?_ | refine r_asgG ?_ | refine r_asg1 ?_ | refine r_if ?_ | refine r_if1 ?_ | refine r_drop ?_ | refine r_drop1 ?_ | refine r_ret ?_ | refine r_ret1 ?_ | refine r_retN ?_ | refine r_nx ?_ | refine r_nx1 ?_ | refine r_bk ?_ | refine r_ct ?_ | refine r_par ?_ | refine r_par1 ?_ | refine r_par3 ?_ | refine r_par31 ?_ | refine r_for ?_ | refine r_for1 ?_ | refine r_sfld ?_ | refine r_sfld1 ?_ | refine r_aug (by with_unfolding_all rfl) ?_ | refine r_aug1 (by with_unfolding_all rfl) ?_ | refine r_var (by with_unfolding_all rfl) ?_ | refine r_c ?_ | refine r_op ?_ | refine r_ifE ?_ | refine r_nil ?_ | refine r_cons ?_ | refine r_tup ?_ | refine r_lst ?_ | refine r_cb ?_ | refine r_call ?_ | refine r_test ?_ | refine r_not ?_ | refine r_and ?_ | refine r_or ?_ | refine r_andV ?_ | refine r_orV ?_ | refine r_notV ?_ | refine r_neg ?_ | refine r_bm ?_ | refine r_bm0 ?_ | refine r_sl ?_ | refine r_part ?_ | refine r_noP ?_ | refine r_chain ?_ | refine r_int2 ?_ | refine r_eqI ?_ | refine r_eqS ?_ | refine r_eqB ?_ | refine r_fInt ?_ | refine r_fIntB ?_ | refine r_fAbs ?_ | refine r_fMin ?_ | refine r_lenT ?_ | refine r_isNN ?_ | refine r_isNI ?_ | refine r_isNT ?_ | refine r_isNR ?_ | refine r_ixT0 ?_ | refine r_ixT1 ?_ | refine r_ixT2 ?_ | refine r_ixT3 ?_ | refine r_fld ?_ | refine r_kfld (by assumption) rfl ?_ | refine r_list ?_ | refine r_klist (by assumption) ?_ | refine r_tupI ?_ | refine r_ktupI ?_ | refine r_yes ?_ | refine r_kctI ?_ | refine r_rng1 ?_ | refine r_rng2 ?_ | refine r_enum ?_ | refine r_kenumT ?_ | refine r_kenum (by assumption) ?_ | refine r_fListT ?_ | refine r_fTupT ?_ | refine r_fListR (by assumption) ?_ | refine r_fTupR (by assumption) ?_ | refine r_lenR (by assumption) ?_ | refine r_rev ?_ | refine r_krevT ?_ | refine r_krev (by assumption) ?_ | refine r_setL ?_ | refine r_dget ?_ | refine r_lc0 ?_ | refine r_name ?_ | refine r_gtup (by with_unfolding_all rfl) ?_ | refine r_gcons ?_ | refine r_gnil ?_ | refine r_din ?_ | refine r_setd ?_ | refine r_ksetdA (by assumption) ?_ | refine r_keysI ?_ | refine r_kkeysI (by assumption) ?_ | refine r_dput ?_ | refine r_dput1 ?_ | refine r_dnewK ?_ | refine r_szc (by with_unfolding_all exact Nat.le_of_ble_eq_true rfl) ?_ | refine r_eqlen (by with_unfolding_all rfl) ?_ | refine r_ifT (by decide) ?_ | refine r_ifF (by decide) ?_ | refine r_inFT (b := false) rfl rfl (by decide) ?_ | refine r_inFT (b := true) rfl rfl (by decide) ?_ | refine r_lrng ?_)))
section
variable [τ : Tbl] {P : Program} {w : World} {K : PySem.W.Frag} {mg : Str → Option Value} {base : Heap} {CU CK : Addr}
theorem ok_Law {f c PL g : Addr} {oc kV doc pm ct oc2 kV2 doc2 pm2 cdv2 ct2 : Value} {od an od2 an2 : Option Addr} {osl osl2 : Array (Option Value)}
    (lk : K.lookup f = some ⟨oc, od, .func (PySem.W.fnOf "law" "law" (defArgs s_law) (defBody s_law) (defScope s_law) .none kV doc pm an (.ref c) ct), osl⟩) (hcd : PySem.W.codeIn K (.ref c) "law" = true) (T : Txt K mg CU CK)
    (TTd : Told K mg g oc2 kV2 doc2 pm2 cdv2 ct2 od2 an2 osl2) (TBL : LamX.TabB base mg c PL) (hmL : (PL, qLam) ∈ τ.T) (huL : ∀ p ∈ τ.T, p.1 = PL → p.2 = qLam)
    (D__law_rounds : Dfn P w K mg base "_law_rounds" 2 ["script", "most"] spRounds) (D__law_roll : Dfn P w K mg base "_law_roll" 1 ["dice", "many"] spRoll) (D__law_kind : Dfn P w K mg base "_law_kind" 7 ["dice", "many", "deep"] (spKind 5)) (D__law_parts : Dfn P w K mg base "_law_parts" 1 ["kind"] spLParts)
    (D__law_alike : Dfn P w K mg base "_law_alike" 43 ["pairs", "many"] (spAlike 40)) (D__law_gather : Dfn P w K mg base "_law_gather" 42 ["kind", "order"] (spLGath 40)) (D__law_numbered : Dfn P w K mg base "_law_numbered" 43 ["kinds"] spNumd)
    (D_Unifier___init__ : Ini P w K mg base CU 1 ["self"] (spInit CU)) (D_Unifier_fresh : Mtd P w K mg base CU "fresh" 1 ["self"] (spFresh CU)) (D_Unifier_full : Mtd P w K mg base CU "full" 42 ["self", "kind"] (spFull CU 40))
    (D_Unifier_unify : Mtd P w K mg base CU "unify" 115 ["self", "one", "other"] (spUni CU CK)) (D_Unifier_fresh_copy : Mtd P w K mg base CU "fresh_copy" 43 ["self", "scheme"] (spCpy CU)) (D_Unifier_scheme_of : Mtd P w K mg base CU "scheme_of" 45 ["self", "kind", "fixed"] (spSch CU))
    (D_substituted : Dfn P w K mg base "substituted" 42 ["kind", "table"] (spSubst 40)) (D_kind_variables : Dfn P w K mg base "kind_variables" 43 ["kind"] spVars) (D_kind_parts : Dfn P w K mg base "kind_parts" 1 ["kind"] spParts) (D_with_parts : Dfn P w K mg base "with_parts" 1 ["kind", "inner"] spWith)
    (D_gather_variables : Dfn P w K mg base "gather_variables" 42 ["kind", "found"] (spGath 40)) (D_renumbered : Dfn P w K mg base "renumbered" 44 ["kind"] spRenum) (D_kind_text : Dfn P w K mg base "kind_text" 45 ["kind"] spText) (D_no_more_general : Dfn P w K mg base "no_more_general" 83 ["one", "other"] spNoMore)
    (D_is_instance : Dfn P w K mg base "is_instance" 82 ["one", "other", "table"] (spInst 40)) (D_plain_scheme : Dfn P w K mg base "plain_scheme" 1 ["kind"] spPlain) :
    FnOk P w K mg base (L2.CX P w) 121 f (PySem.W.fnOf "law" "law" (defArgs s_law) (defBody s_law) (defScope s_law) .none kV doc pm an (.ref c) ct) ["script"] (upSp K spLaw) :=
  z_fnC lk hcd sc_law (fun ds G Q E h => by obtain ⟨sD, ns, rfl, _⟩ := h; rfl) fun bas A outer s H E hr ds G Q E0 hE hz => by
    obtain ⟨sD, ns, rfl, hs, hq⟩ := hz
    refine ⟨_, (zs_cons (z_for (passes_of (by rfl)) rfl (zi_list (z_dc0 D__law_rounds hr (by first | decide | omega) (by rfl) (za_cons (z_var 0) (za_cons z_int za_nil)))) (zg_name (i := 1) sc_law.nd rfl (Or.inr rfl)) (zs_cons (z_set (i := 2) sc_law.nd rfl (Or.inr rfl) (z_dc0 D__law_roll hr (by first | decide | omega) (by rfl) (za_cons (z_var 1) (za_cons z_int za_nil)))) (zs_cons (z_setLc (own := [("k", 3)]) (i := 4) rfl sc_law.nd rfl rfl (by rfl) (zi_rng1 (by rfl) T.z_range (za_cons (z_dc0 D__law_roll hr (by first | decide | omega) (by rfl) (za_cons (z_var 1) (za_cons z_int za_nil))) za_nil)) (blkOk_by (by rfl)) (grel_name (by decide)) (fun _ _ _ _ _ => (pg_name (i := 3) sc_law.nd rfl (Or.inl rfl))) (fun _ _ _ _ _ => zts_nil) (fun _ _ _ _ _ => (z_tup (za_cons (z_dc0 D__law_kind hr (by first | decide | omega) (by rfl) (za_cons (z_var 1) (za_cons (z_var 2) (za_cons (z_op zo_add z_int (z_dc0 D__law_roll hr (by first | decide | omega) (by rfl) (za_cons (z_var 1) (za_cons z_int za_nil)))) za_nil)))) (za_cons (z_dc0 D__law_kind hr (by first | decide | omega) (by rfl) (za_cons (z_var 1) (za_cons (z_var 2) (za_cons (z_op zo_add z_int (z_dc0 D__law_roll hr (by first | decide | omega) (by rfl) (za_cons (z_var 1) (za_cons z_int za_nil)))) za_nil)))) za_nil))))) (zs_cons (z_asg (z_tup (za_cons (z_dc0 D__law_alike hr (by first | decide | omega) (by rfl) (za_cons (z_var 4) (za_cons (z_var 2) za_nil))) (za_cons (z_new0 D_Unifier___init__ hr (by first | decide | omega) (by rfl) T.g_Unifier) za_nil))) (zg_tup (n := 2) rfl (zgs_cons (zg_name (i := 5) sc_law.nd rfl (Or.inl rfl)) (zgs_cons (zg_name (i := 6) sc_law.nd rfl (Or.inr rfl)) zgs_nil)))) (zs_cons (z_set (i := 7) sc_law.nd rfl (Or.inr rfl) (z_lc (own := [("k", 3)]) rfl sc_law.nd (zi_rng1 (by rfl) T.z_range (za_cons (z_var 2) za_nil)) (blkOk_by (by rfl)) (grel_name (by decide)) (fun _ _ _ _ _ => (pg_name (i := 3) sc_law.nd rfl (Or.inl rfl))) (fun _ _ _ _ _ => zts_nil) (fun _ _ _ _ _ => (z_mm0 T.c_Unifier D_Unifier_fresh hr (by first | decide | omega) (z_var 6))))) (zs_cons (z_set (i := 8) sc_law.nd rfl (Or.inr rfl) (z_callTy (zf_dictP rfl) (by rfl) T.z_dict (by decide +kernel) (za_cons (z_lc (own := [("k", 3)]) rfl sc_law.nd (zi_rng1 (by rfl) T.z_range (za_cons (z_var 2) za_nil)) (blkOk_by (by rfl)) (grel_name (by decide)) (fun _ _ _ _ _ => (pg_name (i := 3) sc_law.nd rfl (Or.inl rfl))) (fun _ _ _ _ _ => zts_nil) (fun _ _ _ _ _ => (z_tup (za_cons (z_var 3) (za_cons (z_ix (z_var 7) (z_var 3)) za_nil))))) za_nil))) (zs_cons (z_setLc (own := [("a", 9), ("b", 10)]) (i := 11) rfl sc_law.nd rfl rfl (by rfl) (zi_list (z_var 4)) (blkOk_by (by rfl)) (grel_tup (gsrel_cons (grel_name (by decide)) (gsrel_cons (grel_name (by decide)) gsrel_nil))) (fun _ _ _ _ _ => (pg_tup (n := 2) rfl (pgs_cons (pg_name (i := 9) sc_law.nd rfl (Or.inl rfl)) (pgs_cons (pg_name (i := 10) sc_law.nd rfl (Or.inl rfl)) pgs_nil)))) (fun _ _ _ _ _ => zts_nil) (fun _ _ _ _ _ => (z_tup (za_cons (z_dc0 D_substituted hr (by first | decide | omega) (by rfl) (za_cons (z_var 9) (za_cons (z_var 8) za_nil))) (za_cons (z_dc0 D_substituted hr (by first | decide | omega) (by rfl) (za_cons (z_var 10) (za_cons (z_var 8) za_nil))) za_nil))))) (zs_cons (z_set (i := 12) sc_law.nd rfl (Or.inl rfl) z_str) (zs_cons (z_for (passes_of (by rfl)) rfl (zi_list (z_var 11)) (zg_tup (n := 2) rfl (zgs_cons (zg_name (i := 9) sc_law.nd rfl (Or.inr rfl)) (zgs_cons (zg_name (i := 10) sc_law.nd rfl (Or.inr rfl)) zgs_nil))) (zs_one (z_if (z_tcmp zo_eqF (z_var 12) z_str) (zs_one (z_set (i := 12) sc_law.nd rfl (Or.inl rfl) (z_ifE (z_tcmp (zo_eqP hr.units) (z_told (k := 115) (by rfl) TTd.gm TTd.kp TTd.lk TTd.cd TTd.bd sc__law_told rfl (Or.inl rfl) (.cons rfl T.g_KindError rfl .nil) (fun _ => rfl) TBL rfl hmL huL (hr.mono (by decide)) (LamX.lamS_by (by rfl)) rfl (fun _ _ _ _ _ => rfl) (fun bas2 A2 outer2 s2 H2 E2 f2 c2 E02 hr2 hE2 => (z_mc T.c_Unifier D_Unifier_unify hr2 (by first | decide | omega) hE2 (passes_call (takes_of rfl rfl rfl rfl) fun _ _ _ _ h => h) (z_var 6) (za_cons (z_var 9) (za_cons (z_var 10) za_nil))))) z_str) z_str z_str))) zs_nil))) (zs_cons (z_if (z_tcmp zo_neF (z_cmp zo_eqF (z_var 12) z_str) (z_cmp zo_notN (z_var 5) z_non)) (zs_one (z_ret z_bl)) zs_nil) (zs_cons (z_if (z_tcmp zo_notN (z_var 5) z_non) (zs_cons (z_if (z_tcmp (zo_neP hr.units) (z_lc (own := [("a", 9), ("b", 10)]) rfl sc_law.nd (zi_list (z_var 11)) (blkOk_by (by rfl)) (grel_tup (gsrel_cons (grel_name (by decide)) (gsrel_cons (grel_name (by decide)) gsrel_nil))) (fun _ _ _ _ _ => (pg_tup (n := 2) rfl (pgs_cons (pg_name (i := 9) sc_law.nd rfl (Or.inl rfl)) (pgs_cons (pg_name (i := 10) sc_law.nd rfl (Or.inl rfl)) pgs_nil)))) (fun _ _ _ _ _ => (zts_one (z_tcmp (zo_neP hr.units) (z_mm T.c_Unifier D_Unifier_full hr (by first | decide | omega) (z_var 6) (za_cons (z_var 9) za_nil)) (z_mm T.c_Unifier D_Unifier_full hr (by first | decide | omega) (z_var 6) (za_cons (z_var 10) za_nil))))) (fun _ _ _ _ _ => z_int)) (z_lst za_nil)) (zs_one (z_ret z_bl)) zs_nil) (zs_cons (z_if (z_tcmp (zo_neP hr.units) (z_dc0 D__law_numbered hr (by first | decide | omega) (by rfl) (za_cons (z_lc (own := [("one", 13)]) rfl sc_law.nd (zi_list (z_var 7)) (blkOk_by (by rfl)) (grel_name (by decide)) (fun _ _ _ _ _ => (pg_name (i := 13) sc_law.nd rfl (Or.inl rfl))) (fun _ _ _ _ _ => zts_nil) (fun _ _ _ _ _ => (z_mm T.c_Unifier D_Unifier_full hr (by first | decide | omega) (z_var 6) (za_cons (z_var 13) za_nil)))) za_nil)) (z_dc0 D__law_numbered hr (by first | decide | omega) (by rfl) (za_cons (z_var 5) za_nil))) (zs_one (z_ret z_bl)) zs_nil) (zs_cons (z_set (i := 14) sc_law.nd rfl (Or.inr rfl) (z_lc (own := [("one", 13)]) rfl sc_law.nd (zi_list (z_slice zsl_list (z_var 7) zo_none (zo_some (z_op zo_div (z_var 2) z_int)))) (blkOk_by (by rfl)) (grel_name (by decide)) (fun _ _ _ _ _ => (pg_name (i := 13) sc_law.nd rfl (Or.inl rfl))) (fun _ _ _ _ _ => zts_nil) (fun _ _ _ _ _ => (z_mm T.c_Unifier D_Unifier_full hr (by first | decide | omega) (z_var 6) (za_cons (z_var 13) za_nil))))) (zs_cons (z_asg (z_mm T.c_Unifier D_Unifier_scheme_of hr (by first | decide | omega) (z_var 6) (za_cons (z_ifE (z_tcmp zo_gt (z_var 2) z_int) (z_tup (za_cons z_str (za_cons (z_ix (z_var 7) z_int) (za_cons (z_ix (z_var 7) (z_op zo_sub (z_var 2) z_int)) za_nil)))) (z_tup (za_cons z_str za_nil))) (za_cons (z_slice zsl_list (z_var 7) zo_none (zo_some (z_op zo_div (z_var 2) z_int))) za_nil))) (zg_tup (n := 2) rfl (zgs_cons (zg_name (i := 15) sc_law.nd rfl (Or.inr rfl)) (zgs_cons (zg_name (i := 16) sc_law.nd rfl (Or.inl rfl)) zgs_nil)))) (zs_cons (z_setLc (own := [("one", 13)]) (i := 18) rfl sc_law.nd rfl rfl (by rfl) (zi_list (z_dc0 D_kind_variables hr (by first | decide | omega) (by rfl) (za_cons (z_var 16) za_nil))) (blkOk_by (by rfl)) (grel_name (by decide)) (fun _ _ _ _ _ => (pg_name (i := 13) sc_law.nd rfl (Or.inr rfl))) (fun _ _ _ _ _ => (zts_one (z_tcmp (zo_eqP hr.units) (z_lc (own := [("other", 17)]) rfl sc_law.nd (zi_list (z_var 14)) (blkOk_by (by rfl)) (grel_name (by decide)) (fun _ _ _ _ _ => (pg_name (i := 17) sc_law.nd rfl (Or.inl rfl))) (fun _ _ _ _ _ => (zts_one (z_tcmp (zo_inP (un65 hr)) (z_var 13) (z_dc0 D_kind_variables hr (by first | decide | omega) (by rfl) (za_cons (z_var 17) za_nil))))) (fun _ _ _ _ _ => z_int)) (z_lst za_nil)))) (fun _ _ _ _ _ => (z_var 13))) (zs_cons (z_if (z_tcmp (zo_neP hr.units) (z_callTy zf_list (by rfl) T.z_list (by rfl) (za_cons (z_var 15) za_nil)) (z_var 18)) (zs_one (z_ret z_bl)) zs_nil) (zs_cons (z_set (i := 19) sc_law.nd rfl (Or.inr rfl) (z_mm T.c_Unifier D_Unifier_fresh_copy hr (by first | decide | omega) (z_var 6) (za_cons (z_tup (za_cons (z_var 15) (za_cons (z_var 16) za_nil))) za_nil))) (zs_cons (z_par (i := 20) (j := 21) rfl sc_law.nd rfl rfl (by decide) rfl rfl (za_cons (z_lst za_nil) (za_cons (z_lst za_nil) za_nil)) (by rfl)) (zs_cons (z_expr (z_dc0 D__law_gather hr (by first | decide | omega) (by rfl) (za_cons (z_var 19) (za_cons (z_var 20) za_nil)))) (zs_cons (z_expr (z_dc0 D__law_gather hr (by first | decide | omega) (by rfl) (za_cons (z_var 16) (za_cons (z_var 21) za_nil)))) (zs_cons (z_if (zw_t (zw_or (z_tcmp (zo_neP hr.units) (z_dc0 D__law_numbered hr (by first | decide | omega) (by rfl) (za_cons (z_lst (za_cons (z_var 19) za_nil)) za_nil)) (z_dc0 D__law_numbered hr (by first | decide | omega) (by rfl) (za_cons (z_lst (za_cons (z_var 16) za_nil)) za_nil))) (zw_or1 (z_tcmp (zo_neP hr.units) (z_lc (own := [("a", 9), ("b", 10)]) rfl sc_law.nd (zi_zipA (by rfl) T.z_zip (za_cons (z_var 20) (za_cons (z_var 21) za_nil))) (blkOk_by (by rfl)) (grel_tup (gsrel_cons (grel_name (by decide)) (gsrel_cons (grel_name (by decide)) gsrel_nil))) (fun _ _ _ _ _ => (pg_tup (n := 2) rfl (pgs_cons (pg_name (i := 9) sc_law.nd rfl (Or.inl rfl)) (pgs_cons (pg_name (i := 10) sc_law.nd rfl (Or.inl rfl)) pgs_nil)))) (fun _ _ _ _ _ => (zts_one (z_tcmp zo_eqF (z_cmp (zo_eqP hr.units) (z_var 9) (z_var 10)) (z_cmp (zo_inP (un65 hr)) (z_var 10) (z_var 15))))) (fun _ _ _ _ _ => z_int)) (z_lst za_nil))))) (zs_one (z_ret z_bl)) zs_nil) (zs_cons (z_if (zw_t (zw_or (z_not (z_val (z_dc0 D_no_more_general hr (by first | decide | omega) (by rfl) (za_cons (z_var 19) (za_cons (z_var 16) za_nil))))) (zw_or1 (z_tcmp (zo_neP hr.units) (z_lc (own := [("one", 13)]) rfl sc_law.nd (zi_tup (z_var 15)) (blkOk_by (by rfl)) (grel_name (by decide)) (fun _ _ _ _ _ => (pg_name (i := 13) sc_law.nd rfl (Or.inl rfl))) (fun _ _ _ _ _ => (zts_one (z_tcmp (zo_inP (un65 hr)) (z_var 13) (z_dc0 D_kind_variables hr (by first | decide | omega) (by rfl) (za_cons (z_var 19) za_nil))))) (fun _ _ _ _ _ => (z_var 13))) (z_lst za_nil))))) (zs_one (z_ret z_bl)) zs_nil) zs_nil)))))))))))) zs_nil) (zs_cons (z_par (i := 13) (j := 17) rfl sc_law.nd rfl rfl (by decide) rfl rfl (za_cons (z_dc0 D__law_kind hr (by first | decide | omega) (by rfl) (za_cons (z_var 1) (za_cons z_int (za_cons z_int za_nil)))) (za_cons (z_dc0 D__law_kind hr (by first | decide | omega) (by rfl) (za_cons (z_var 1) (za_cons z_int (za_cons z_int za_nil)))) za_nil)) (by rfl)) (zs_cons (z_set (i := 22) sc_law.nd rfl (Or.inl rfl) (z_lst za_nil)) (zs_cons (z_expr (z_dc0 D__law_gather hr (by first | decide | omega) (by rfl) (za_cons (z_var 13) (za_cons (z_var 22) za_nil)))) (zs_cons (z_if (zw_t (zw_or (z_tcmp (zo_neP hr.units) (z_dc0 D_kind_variables hr (by first | decide | omega) (by rfl) (za_cons (z_var 13) za_nil)) (z_var 22)) (zw_or (z_tcmp (zo_neP hr.units) (z_callTy zf_list (by rfl) T.z_list (by rfl) (za_cons (z_dc0 D_kind_parts hr (by first | decide | omega) (by rfl) (za_cons (z_var 13) za_nil)) za_nil)) (z_dc0 D__law_parts hr (by first | decide | omega) (by rfl) (za_cons (z_var 13) za_nil))) (zw_or1 (z_tcmp (zo_neP hr.units) (z_dc0 D_with_parts hr (by first | decide | omega) (by rfl) (za_cons (z_var 13) (za_cons (z_callTy zf_list (by rfl) T.z_list (by rfl) (za_cons (z_dc0 D_kind_parts hr (by first | decide | omega) (by rfl) (za_cons (z_var 13) za_nil)) za_nil)) za_nil))) (z_var 13)))))) (zs_one (z_ret z_bl)) zs_nil) (zs_cons (z_if (zw_t (zw_or (z_tcmp (zo_neP hr.units) (z_dc0 D__law_numbered hr (by first | decide | omega) (by rfl) (za_cons (z_lst (za_cons (z_dc0 D_renumbered hr (by first | decide | omega) (by rfl) (za_cons (z_var 13) za_nil)) za_nil)) za_nil)) (z_dc0 D__law_numbered hr (by first | decide | omega) (by rfl) (za_cons (z_lst (za_cons (z_var 13) za_nil)) za_nil))) (zw_or1 (z_tcmp zo_neF (z_dc0 D_kind_text hr (by first | decide | omega) (by rfl) (za_cons (z_var 13) za_nil)) (z_dc0 D_kind_text hr (by first | decide | omega) (by rfl) (za_cons (z_dc0 D_renumbered hr (by first | decide | omega) (by rfl) (za_cons (z_var 13) za_nil)) za_nil)))))) (zs_one (z_ret z_bl)) zs_nil) (zs_cons (z_set (i := 23) sc_law.nd rfl (Or.inl rfl) (z_dc0 D_substituted hr (by first | decide | omega) (by rfl) (za_cons (z_var 17) (za_cons (z_callTy (zf_dictP rfl) (by rfl) T.z_dict (by decide +kernel) (za_cons (z_lc (own := [("k", 3)]) rfl sc_law.nd (zi_rng1 (by rfl) T.z_range (za_cons z_int za_nil)) (blkOk_by (by rfl)) (grel_name (by decide)) (fun _ _ _ _ _ => (pg_name (i := 3) sc_law.nd rfl (Or.inl rfl))) (fun _ _ _ _ _ => zts_nil) (fun _ _ _ _ _ => (z_tup (za_cons (z_var 3) (za_cons (z_dc0 D__law_kind hr (by first | decide | omega) (by rfl) (za_cons (z_var 1) (za_cons z_int (za_cons z_int za_nil)))) za_nil))))) za_nil)) za_nil)))) (zs_cons (z_if (zw_t (zw_or (z_not (z_val (z_dc0 D_no_more_general hr (by first | decide | omega) (by rfl) (za_cons (z_var 23) (za_cons (z_var 17) za_nil))))) (zw_or1 (z_val (z_dc0 D_is_instance hr (by first | decide | omega) (by rfl) (za_cons (z_tup (za_cons z_str za_nil)) (za_cons (z_tup (za_cons z_str za_nil)) (za_cons z_dnewK za_nil)))))))) (zs_one (z_ret z_bl)) zs_nil) zs_nil)))))))))))))))))) (zs_cons (z_set (i := 15) sc_law.nd rfl (Or.inr rfl) (z_lst za_nil)) (zs_cons (z_expr (z_dc0 D_gather_variables hr (by first | decide | omega) (by rfl) (za_cons (z_tup (za_cons z_str (za_cons (z_tup (za_cons z_str (za_cons z_int za_nil))) (za_cons (z_tup (za_cons z_str (za_cons z_int za_nil))) za_nil)))) (za_cons (z_var 15) za_nil)))) (zs_cons (z_set (i := 24) sc_law.nd rfl (Or.inl rfl) (z_tup (za_cons z_str (za_cons (z_tup (za_cons z_str (za_cons (z_tup (za_cons z_str (za_cons z_int za_nil))) (za_cons (z_tup (za_cons z_str (za_cons (z_tup (za_cons z_str za_nil)) (za_cons (z_tup (za_cons z_str (za_cons z_int za_nil))) za_nil)))) za_nil)))) (za_cons (z_tup (za_cons z_str (za_cons (z_tup (za_cons z_str (za_cons (z_tup (za_cons z_str (za_cons z_int za_nil))) (za_cons (z_tup (za_cons z_str za_nil)) za_nil)))) (za_cons (z_tup (za_cons z_str (za_cons (z_tup (za_cons z_str (za_cons z_str (za_cons (z_tup (za_cons (z_tup (za_cons z_str (za_cons z_int za_nil))) za_nil)) za_nil)))) za_nil))) za_nil)))) za_nil))))) (zs_cons (z_set (i := 25) sc_law.nd rfl (Or.inl rfl) (z_tup (za_cons z_str (za_cons z_str (za_cons (z_callTy zf_tuple (by rfl) T.z_tuple (by rfl) (za_cons (z_lc (own := [("k", 3)]) rfl sc_law.nd (zi_rng1 (by rfl) T.z_range (za_cons z_int za_nil)) (blkOk_by (by rfl)) (grel_name (by decide)) (fun _ _ _ _ _ => (pg_name (i := 3) sc_law.nd rfl (Or.inl rfl))) (fun _ _ _ _ _ => zts_nil) (fun _ _ _ _ _ => (z_tup (za_cons z_str (za_cons (z_var 3) za_nil))))) za_nil)) za_nil))))) (zs_cons (z_if (z_tcmp zo_neF (z_slice zsl_str (z_dc0 D_kind_text hr (by first | decide | omega) (by rfl) (za_cons (z_var 25) za_nil)) (zo_some (z_neg z_int)) zo_none) z_str) (zs_one (z_ret z_bl)) zs_nil) (zs_cons (z_ret (z_and (z_cmp (zo_eqP hr.units) (z_var 15) (z_lst (za_cons z_int za_nil))) (z_and (z_cmp zo_eqF (z_dc0 D_kind_text hr (by first | decide | omega) (by rfl) (za_cons (z_var 24) za_nil)) z_str) (z_and (z_cmp (zo_eqP hr.units) (z_dc0 D_plain_scheme hr (by first | decide | omega) (by rfl) (za_cons (z_tup (za_cons z_str za_nil)) za_nil)) (z_tup (za_cons (z_tup za_nil) (za_cons (z_tup (za_cons z_str za_nil)) za_nil)))) (z_one (z_cmp zo_eqF (z_dc0 D_kind_text hr (by first | decide | omega) (by rfl) (za_cons (z_tup (za_cons z_str (za_cons z_int za_nil))) za_nil)) z_str)))))) zs_nil))))))), ?_⟩
    walk_at "zr"
    refine ⟨sD, ns, rfl, hs, fun q d m G1 e1 hq1 hd1 hi1 nqd => ?_⟩
    walk_at "zr"
    refine ⟨fun i ρ G' => G' q = some (.lst [.ref d]) ∧ ρ.length = 26 ∧ (i = 0 → ρ = zstart ["script", "dice", "many", "k", "pairs", "due", "unifier", "fresh", "table", "a", "b", "made", "told_now", "one", "held", "numbers", "kind", "other", "loose", "copied", "first", "second", "order", "pair", "shown", "wide"] [sD] ∧ G' = G1), ⟨hq1, rfl, fun _ => ⟨rfl, rfl⟩⟩, ?_, ?_⟩
    · rintro i dd ρ G' hi hP
      have hi0 : i = 0 := by
        have := (List.getElem?_eq_some_iff.mp hi).1
        simp at this
        omega
      subst hi0
      obtain ⟨_, _, h0⟩ := hP
      obtain ⟨rfl, rfl⟩ := h0 rfl
      cases Option.some.inj hi
      refine ⟨hq1, ?_⟩
      refine partA (K := K) (mg := mg) (CK := CK) T hd1 hi1 ?_
      intro many E due u t fp md told G2 ρ2 l26 r1 r2 r5 r6 r7 r11 dr hm hdue htold agree hfp hmd keep hdice hud
      match ρ2, l26, r1, r2, r5, r6, r7, r11 with
      | [v0, v1, v2, v3, v4, v5, v6, v7, v8, v9, v10, v11, v12, v13, v14, v15, v16, v17, v18, v19, v20, v21, v22, v23, v24, v25], _, r1, r2, r5, r6, r7, r11 =>
        obtain rfl := Option.some.inj r1
        obtain rfl := Option.some.inj r2
        obtain rfl := Option.some.inj r5
        obtain rfl := Option.some.inj r6
        obtain rfl := Option.some.inj r7
        obtain rfl := Option.some.inj r11
        obtain ⟨m2, hd2, hi2⟩ := hdice
        have hq2 := (keep q _ nqd hq1).2
        have rest : ∀ (ρ3 : ZSt) (G3 : Gp) (m3 : MO), ρ3.length = 26 → ρ3[1]? = some (some (.ref d)) → G3 d = some m3 → isDice m3 → G3 q = some (.lst [.ref d]) → ∀ Z : ZEnds, (∀ ρ' G', ρ'.length = 26 → G' q = some (.lst [.ref d]) → Z.nx ρ' G') → rdC Z ρ3 G3 := fun ρ3 G3 m3 l3 d3 hd3 hi3 hq3 Z hZ => by
          match ρ3, l3, d3 with
          | [v0, v1, v2, v3, v4, v5, v6, v7, v8, v9, v10, v11, v12, v13, v14, v15, v16, v17, v18, v19, v20, v21, v22, v23, v24, v25], _, d3 =>
            obtain rfl := Option.some.inj d3
            exact partC hd3 hi3 fun ρ' G' l' e' => hZ ρ' G' l' (e' q _ nqd hq3)
        rcases hdue with ⟨rfl, _⟩ | ⟨qf, f, V', Ls', rfl, hqf, I, hw⟩
        · refine r_if ?_
          refine r_test ?_
          refine r_op ?_
          refine r_var rfl ?_
          refine r_c ?_
          refine r_isNN ?_
          refine r_ifF rfl ?_
          refine r_nx1 ?_
          dsimp only
          show rdC _ _ _
          refine rest _ G2 m2 rfl rfl hd2 hi2 hq2 _ ?_
          exact fun ρ' G' l' hq' => ⟨hq', l', fun h => absurd h (by decide)⟩
        · rcases htold with ⟨_, τ, φ, r, un, F, R, hs⟩ | ⟨h, _⟩
          · rw [List.take_length] at hs
            have N : Uni1 CU many E G2 u t τ φ r := ⟨dr, hm, un, F, R, hs⟩
            refine r_if ?_
            refine r_test ?_
            refine r_op ?_
            refine r_var rfl ?_
            refine r_c ?_
            refine r_isNR ?_
            refine r_ifT rfl ?_
            refine partB1 (u_ := rdB2 CU) N I hw hqf hfp hmd ?_
            intro k0 hp w18 G3 ns2 kk ek fit0 wd0 dp0 nsk nn e3
            refine partB2 (t := t) (many := many) (E := E) (τ := τ) (φ := φ) (r := r) (k0 := k0) ⟨dr, hm, un.ext e3, F, R, hs⟩ ek fit0 wd0 dp0 nsk nn ?_
            intro ρ4 G4 l4 d4 e4
            have dq : q ≠ u := (keep q _ nqd hq1).1
            dsimp only
            show rdC _ _ _
            refine rest ρ4 G4 m2 l4 d4 (e4 _ _ (Ne.symm hud) (e3 _ _ hd2)) hi2 (e4 _ _ dq (e3 _ _ hq2)) _ ?_
            exact fun ρ' G' l' hq' => ⟨hq', l', fun h => absurd h (by decide)⟩
          · have := agree.mp fun h => by cases h
            rw [h] at this
            exact absurd this (by decide)
    · rintro ρ G' ⟨hqe, l26, _⟩
      match ρ, l26 with
      | [v0, v1, v2, v3, v4, v5, v6, v7, v8, v9, v10, v11, v12, v13, v14, v15, v16, v17, v18, v19, v20, v21, v22, v23, v24, v25], _ => exact ⟨hqe, partD (Z := { nx := fun _ G' => Q .non G', rt := Q }) hq⟩
end
end K05

namespace K05
open PySem PySem.Spec PyProof.Rows L2 Z
/-! the end: what the head's Hook tells, the law's promise -/
def dd_kind_parts : He.FnD := ⟨("kind_parts", none), "kind_parts", "kind_parts", defArgs s_kind_parts, defBody s_kind_parts, defScope s_kind_parts⟩
def dd_with_parts : He.FnD := ⟨("with_parts", none), "with_parts", "with_parts", defArgs s_with_parts, defBody s_with_parts, defScope s_with_parts⟩
def dd_kind_variables : He.FnD := ⟨("kind_variables", none), "kind_variables", "kind_variables", defArgs s_kind_variables, defBody s_kind_variables, defScope s_kind_variables⟩
def dd_gather_variables : He.FnD := ⟨("gather_variables", none), "gather_variables", "gather_variables", defArgs s_gather_variables, defBody s_gather_variables, defScope s_gather_variables⟩
def dd_substituted : He.FnD := ⟨("substituted", none), "substituted", "substituted", defArgs s_substituted, defBody s_substituted, defScope s_substituted⟩
def dd_plain_scheme : He.FnD := ⟨("plain_scheme", none), "plain_scheme", "plain_scheme", defArgs s_plain_scheme, defBody s_plain_scheme, defScope s_plain_scheme⟩
def dd_renumbered : He.FnD := ⟨("renumbered", none), "renumbered", "renumbered", defArgs s_renumbered, defBody s_renumbered, defScope s_renumbered⟩
def dd_kind_text : He.FnD := ⟨("kind_text", none), "kind_text", "kind_text", defArgs s_kind_text, defBody s_kind_text, defScope s_kind_text⟩
def dd_function_text : He.FnD := ⟨("function_text", none), "function_text", "function_text", defArgs s_function_text, defBody s_function_text, defScope s_function_text⟩
def dd_pair_text : He.FnD := ⟨("pair_text", none), "pair_text", "pair_text", defArgs s_pair_text, defBody s_pair_text, defScope s_pair_text⟩
def dd_small_text : He.FnD := ⟨("small_text", none), "small_text", "small_text", defArgs s_small_text, defBody s_small_text, defScope s_small_text⟩
def dd_letters_of : He.FnD := ⟨("letters_of", none), "letters_of", "letters_of", defArgs s_letters_of, defBody s_letters_of, defScope s_letters_of⟩
def dd_no_more_general : He.FnD := ⟨("no_more_general", none), "no_more_general", "no_more_general", defArgs s_no_more_general, defBody s_no_more_general, defScope s_no_more_general⟩
def dd_is_instance : He.FnD := ⟨("is_instance", none), "is_instance", "is_instance", defArgs s_is_instance, defBody s_is_instance, defScope s_is_instance⟩
def dd__law_dice : He.FnD := ⟨("_law_dice", none), "_law_dice", "_law_dice", defArgs s__law_dice, defBody s__law_dice, defScope s__law_dice⟩
def dd__law_roll : He.FnD := ⟨("_law_roll", none), "_law_roll", "_law_roll", defArgs s__law_roll, defBody s__law_roll, defScope s__law_roll⟩
def dd__law_rounds : He.FnD := ⟨("_law_rounds", none), "_law_rounds", "_law_rounds", defArgs s__law_rounds, defBody s__law_rounds, defScope s__law_rounds⟩
def dd__law_told : He.FnD := ⟨("_law_told", none), "_law_told", "_law_told", defArgs s__law_told, defBody s__law_told, defScope s__law_told⟩
def dd__law_kind : He.FnD := ⟨("_law_kind", none), "_law_kind", "_law_kind", defArgs s__law_kind, defBody s__law_kind, defScope s__law_kind⟩
def dd__law_parts : He.FnD := ⟨("_law_parts", none), "_law_parts", "_law_parts", defArgs s__law_parts, defBody s__law_parts, defScope s__law_parts⟩
def dd__law_put : He.FnD := ⟨("_law_put", none), "_law_put", "_law_put", defArgs s__law_put, defBody s__law_put, defScope s__law_put⟩
def dd__law_within : He.FnD := ⟨("_law_within", none), "_law_within", "_law_within", defArgs s__law_within, defBody s__law_within, defScope s__law_within⟩
def dd__law_alike : He.FnD := ⟨("_law_alike", none), "_law_alike", "_law_alike", defArgs s__law_alike, defBody s__law_alike, defScope s__law_alike⟩
def dd__law_numbered : He.FnD := ⟨("_law_numbered", none), "_law_numbered", "_law_numbered", defArgs s__law_numbered, defBody s__law_numbered, defScope s__law_numbered⟩
def dd__law_gather : He.FnD := ⟨("_law_gather", none), "_law_gather", "_law_gather", defArgs s__law_gather, defBody s__law_gather, defScope s__law_gather⟩
def dd_law : He.FnD := ⟨("law", none), "law", "law", defArgs s_law, defBody s_law, defScope s_law⟩
def dd_Unifier___init__ : He.FnD := ⟨("Unifier", some "__init__"), "__init__", "Unifier.__init__", defArgs s_Unifier___init__, defBody s_Unifier___init__, defScope s_Unifier___init__⟩
def dd_Unifier_fresh : He.FnD := ⟨("Unifier", some "fresh"), "fresh", "Unifier.fresh", defArgs s_Unifier_fresh, defBody s_Unifier_fresh, defScope s_Unifier_fresh⟩
def dd_Unifier_head : He.FnD := ⟨("Unifier", some "head"), "head", "Unifier.head", defArgs s_Unifier_head, defBody s_Unifier_head, defScope s_Unifier_head⟩
def dd_Unifier_full : He.FnD := ⟨("Unifier", some "full"), "full", "Unifier.full", defArgs s_Unifier_full, defBody s_Unifier_full, defScope s_Unifier_full⟩
def dd_Unifier_occurs : He.FnD := ⟨("Unifier", some "occurs"), "occurs", "Unifier.occurs", defArgs s_Unifier_occurs, defBody s_Unifier_occurs, defScope s_Unifier_occurs⟩
def dd_Unifier_unify : He.FnD := ⟨("Unifier", some "unify"), "unify", "Unifier.unify", defArgs s_Unifier_unify, defBody s_Unifier_unify, defScope s_Unifier_unify⟩
def dd_Unifier_stand_for : He.FnD := ⟨("Unifier", some "stand_for"), "stand_for", "Unifier.stand_for", defArgs s_Unifier_stand_for, defBody s_Unifier_stand_for, defScope s_Unifier_stand_for⟩
def dd_Unifier_fresh_copy : He.FnD := ⟨("Unifier", some "fresh_copy"), "fresh_copy", "Unifier.fresh_copy", defArgs s_Unifier_fresh_copy, defBody s_Unifier_fresh_copy, defScope s_Unifier_fresh_copy⟩
def dd_Unifier_scheme_of : He.FnD := ⟨("Unifier", some "scheme_of"), "scheme_of", "Unifier.scheme_of", defArgs s_Unifier_scheme_of, defBody s_Unifier_scheme_of, defScope s_Unifier_scheme_of⟩
def fn0 : List He.FnD := [dd_kind_parts, dd_with_parts, dd_kind_variables, dd_gather_variables, dd_substituted, dd_plain_scheme, dd_renumbered, dd_kind_text, dd_function_text, dd_pair_text, dd_small_text, dd_letters_of, dd_no_more_general, dd_is_instance, dd__law_dice, dd__law_roll, dd__law_rounds, dd__law_told, dd__law_kind, dd__law_parts, dd__law_put, dd__law_within, dd__law_alike, dd__law_numbered, dd__law_gather, dd_law, dd_Unifier___init__, dd_Unifier_fresh, dd_Unifier_head, dd_Unifier_full]
def fn1 : List He.FnD := [dd_Unifier_occurs, dd_Unifier_unify, dd_Unifier_stand_for, dd_Unifier_fresh_copy, dd_Unifier_scheme_of]
def fn : List He.FnD := fn0 ++ fn1
def fa0 : List He.Fa := [.glo "kind_parts", .glo "with_parts", .glo "kind_variables", .glo "gather_variables", .glo "substituted", .glo "plain_scheme", .glo "renumbered", .glo "kind_text", .glo "function_text", .glo "pair_text", .glo "small_text", .glo "letters_of", .glo "no_more_general", .glo "is_instance", .glo "_law_dice", .glo "_law_roll", .glo "_law_rounds", .glo "_law_told", .glo "_law_kind", .glo "_law_parts", .glo "_law_put", .glo "_law_within", .glo "_law_alike", .glo "_law_numbered", .glo "_law_gather", .glo "law", .glo "Unifier", .glo "KindError", .keep "kind_parts", .keep "with_parts"]
def fa1 : List He.Fa := [.keep "kind_variables", .keep "gather_variables", .keep "substituted", .keep "plain_scheme", .keep "renumbered", .keep "kind_text", .keep "function_text", .keep "pair_text", .keep "small_text", .keep "letters_of", .keep "no_more_general", .keep "is_instance", .keep "_law_dice", .keep "_law_roll", .keep "_law_rounds", .keep "_law_told", .keep "_law_kind", .keep "_law_parts", .keep "_law_put", .keep "_law_within", .keep "_law_alike", .keep "_law_numbered", .keep "_law_gather", .keep "law", .meth "Unifier" "__init__", .meth "Unifier" "fresh", .meth "Unifier" "head", .meth "Unifier" "full", .meth "Unifier" "occurs", .meth "Unifier" "unify"]
def fa2 : List He.Fa := [.meth "Unifier" "stand_for", .meth "Unifier" "fresh_copy", .meth "Unifier" "scheme_of", .mkr "Unifier", .cls "Unifier", .noat "Unifier" "table", .noat "Unifier" "made", .exc "KindError", .exm "KindError" "KindError" true, .str "KIND_LETTERS" "abcdefghijklmnopqrstuvwxyz", .free "len", .free "range", .free "int", .free "abs", .free "str", .free "list", .free "tuple", .free "dict", .free "any", .free "all", .free "zip", .free "enumerate"]
def fa : List He.Fa := fa0 ++ fa1 ++ fa2
abbrev tf : List He.Defn := [("Unifier", some "occurs"), ("Unifier", some "scheme_of"), ("is_instance", none), ("law", none)]
def nd : List Addr → Bool
  | [] => true
  | a :: r => (r.all fun b => !(b == a)) && nd r
def ex (K : PySem.W.Frag) : Bool := nd (tf.map fun p => (He.cT K p).2)
theorem tb_uniq : ∀ {l : List (Addr × Str)}, nd (l.map Prod.fst) = true → ∀ x ∈ l, ∀ p ∈ l, p.1 = x.1 → p.2 = x.2
  | [], _, _, hx, _, _, _ => nomatch hx
  | y :: r, h, x, hx, p, hp, e => by
    obtain ⟨h1, h2⟩ := He.ba (show ((r.map Prod.fst).all (fun b => !(b == y.1)) && nd (r.map Prod.fst)) = true from h)
    have far : ∀ z ∈ r, z.1 ≠ y.1 := fun z hz e2 => by
      have := List.all_eq_true.mp h1 z.1 (List.mem_map_of_mem hz)
      rw [e2] at this
      simp at this
    rcases List.mem_cons.mp hx with ex | hx2
    · rcases List.mem_cons.mp hp with ep | hp2
      · rw [ex, ep]
      · exact absurd (by rw [e, ex]) (far p hp2)
    · rcases List.mem_cons.mp hp with ep | hp2
      · exact absurd (by rw [← e, ep]) (far x hx2)
      · exact tb_uniq h2 x hx2 p hp2 e
theorem gx_tab {base : Heap} {mg : Str → Option Value} {c P : Addr} (t : LamX.TabB base mg c P) : GxR.TabB base mg c P := ⟨t.code, t.bm, t.gP⟩
theorem law_start [τ : Tbl] {K : PySem.W.Frag} {H : Hp} {a : Addr} {ns : List Int} (hS : SqL K H a (ns.map V.int)) (ht : ∀ p ∈ τ.T, H p.1 = some (.tbl #[])) :
    upSp K spLaw [.ref a] H (fun v _ => v = .bl true) fun _ _ _ => False := by
  have tb : LamX.Tabs τ.T H := fun p hp => LamX.TabS.nil (ht p hp)
  have out : ∀ (G : Gp) (sD : D), Sim0 K H G → Rep K H (.ref a) sD → isScript G sD ns → upSp K spLaw [.ref a] H (fun v _ => v = .bl true) fun _ _ _ => False := fun G sD g r hs =>
    ⟨[sD], G, fun d _ => d = .bl true, fun _ _ => False, g, .cons r .nil, ⟨sD, ns, rfl, hs, fun _ => rfl⟩, fun d G' v H' e f g r => by subst e; cases r; rfl, fun c G' dx H' e => e.elim⟩
  have none0 : Sim0 K H (fun _ => none) := ⟨fun b m e => (by cases e), tb, fun p hp => rfl⟩
  rcases hS with (hS | ⟨o, hS⟩) | hS
  · have nt : ∀ p ∈ τ.T, p.1 ≠ a := fun p hp z => by
      obtain ⟨ps, e, _⟩ := tb p hp
      rw [z, hS] at e
      cases e
    refine out (put (fun _ => none) a (.lst (ns.map D.int))) (.ref a) ⟨fun b m e => ?_, tb, fun p hp => by rw [put_ne (nt p hp)]⟩ (.ref a) (.inr ⟨a, rfl, put_same⟩)
    by_cases hb : b = a
    · subst hb
      rw [put_same] at e
      cases e
      exact ⟨_, hS, Reps.ints ns⟩
    · rw [put_ne hb] at e
      cases e
  · exact out _ (.cl (ns.map D.int)) none0 (.cl (.inl ⟨o, hS⟩) (Reps.ints ns)) (.inl rfl)
  · exact out _ (.cl (ns.map D.int)) none0 (.cl (.inr hS) (Reps.ints ns)) (.inl rfl)
section
variable [τ : Tbl] {P : Program} {w : World} {K : PySem.W.Frag} {mg : Str → Option Value} {base : Heap} {f : Addr} {fd : FuncData} {k : Nat} {ps : List Str}
theorem fn_ex2 {z : List Kd → List Int → ZSp} {p : List Kd → List Int → Prop} (len : ∀ L V ds G Q E, z L V ds G Q E → ds.length = ps.length) (h : ∀ L V, p L V → FnOk P w K mg base (L2.CX P w) k f fd ps (upSp K (z L V))) :
    FnOk P w K mg base (L2.CX P w) k f fd ps (upSp K fun ds G Q E => ∃ L V, p L V ∧ z L V ds G Q E) := by
  refine ⟨?_, ?_⟩
  · rintro vs H Q E ⟨ds, G, Q0, E0, _, r, ⟨L, V, _, hz⟩, _⟩
    rw [r.length]
    exact len L V _ _ _ _ hz
  · rintro A outer s H args us vs Q E hr he hb hv ⟨ds, G, Q0, E0, g, r, ⟨L, V, hp, hz⟩, k1, k2⟩
    exact (h L V hp).run A outer s H args us vs Q E hr he hb hv ⟨ds, G, Q0, E0, g, r, hz, k1, k2⟩
theorem fn_ex2' {z : List Kd → List Int → ZSp} (len : ∀ L V ds G Q E, z L V ds G Q E → ds.length = ps.length) (h : ∀ L V, FnOk P w K mg base (L2.CX P w) k f fd ps (upSp K (z L V))) :
    FnOk P w K mg base (L2.CX P w) k f fd ps (upSp K fun ds G Q E => ∃ L V, z L V ds G Q E) := by
  refine ⟨?_, ?_⟩
  · rintro vs H Q E ⟨ds, G, Q0, E0, _, r, ⟨L, V, hz⟩, _⟩
    rw [r.length]
    exact len L V _ _ _ _ hz
  · rintro A outer s H args us vs Q E hr he hb hv ⟨ds, G, Q0, E0, g, r, ⟨L, V, hz⟩, k1, k2⟩
    exact (h L V).run A outer s H args us vs Q E hr he hb hv ⟨ds, G, Q0, E0, g, r, hz, k1, k2⟩
end
set_option maxHeartbeats 20000000 in
theorem all_q {l : PySem.W.OpenLaw} {w : World} {K : PySem.W.Frag} {h : Heap} {mg : Str → Option Value} {fa_ : Addr} (X : K.In h) (G : h.Ns mainGlobals mg) (hfa : mg "law" = some (.ref fa_)) (S : Zh.SaysQ fa fn tf ex h K) :
    LamX.LawAtS l w K (L2.CX l.prog w) 121 63 "script" mg fa_ h := by
  have g_kind_parts := He.glo_ok X G (S.e.fact 0 (f := .glo "kind_parts") rfl)
  have g_with_parts := He.glo_ok X G (S.e.fact 1 (f := .glo "with_parts") rfl)
  have g_kind_variables := He.glo_ok X G (S.e.fact 2 (f := .glo "kind_variables") rfl)
  have g_gather_variables := He.glo_ok X G (S.e.fact 3 (f := .glo "gather_variables") rfl)
  have g_substituted := He.glo_ok X G (S.e.fact 4 (f := .glo "substituted") rfl)
  have g_plain_scheme := He.glo_ok X G (S.e.fact 5 (f := .glo "plain_scheme") rfl)
  have g_renumbered := He.glo_ok X G (S.e.fact 6 (f := .glo "renumbered") rfl)
  have g_kind_text := He.glo_ok X G (S.e.fact 7 (f := .glo "kind_text") rfl)
  have g_function_text := He.glo_ok X G (S.e.fact 8 (f := .glo "function_text") rfl)
  have g_pair_text := He.glo_ok X G (S.e.fact 9 (f := .glo "pair_text") rfl)
  have g_small_text := He.glo_ok X G (S.e.fact 10 (f := .glo "small_text") rfl)
  have g_letters_of := He.glo_ok X G (S.e.fact 11 (f := .glo "letters_of") rfl)
  have g_no_more_general := He.glo_ok X G (S.e.fact 12 (f := .glo "no_more_general") rfl)
  have g_is_instance := He.glo_ok X G (S.e.fact 13 (f := .glo "is_instance") rfl)
  have g__law_dice := He.glo_ok X G (S.e.fact 14 (f := .glo "_law_dice") rfl)
  have g__law_roll := He.glo_ok X G (S.e.fact 15 (f := .glo "_law_roll") rfl)
  have g__law_rounds := He.glo_ok X G (S.e.fact 16 (f := .glo "_law_rounds") rfl)
  have g__law_told := He.glo_ok X G (S.e.fact 17 (f := .glo "_law_told") rfl)
  have g__law_kind := He.glo_ok X G (S.e.fact 18 (f := .glo "_law_kind") rfl)
  have g__law_parts := He.glo_ok X G (S.e.fact 19 (f := .glo "_law_parts") rfl)
  have g__law_put := He.glo_ok X G (S.e.fact 20 (f := .glo "_law_put") rfl)
  have g__law_within := He.glo_ok X G (S.e.fact 21 (f := .glo "_law_within") rfl)
  have g__law_alike := He.glo_ok X G (S.e.fact 22 (f := .glo "_law_alike") rfl)
  have g__law_numbered := He.glo_ok X G (S.e.fact 23 (f := .glo "_law_numbered") rfl)
  have g__law_gather := He.glo_ok X G (S.e.fact 24 (f := .glo "_law_gather") rfl)
  have g_law := He.glo_ok X G (S.e.fact 25 (f := .glo "law") rfl)
  cases hfa.symm.trans g_law
  have k_kind_parts := He.keep_ok (S.e.fact 28 (f := .keep "kind_parts") rfl)
  have k_with_parts := He.keep_ok (S.e.fact 29 (f := .keep "with_parts") rfl)
  have k_kind_variables := He.keep_ok (S.e.fact 30 (f := .keep "kind_variables") rfl)
  have k_gather_variables := He.keep_ok (S.e.fact 31 (f := .keep "gather_variables") rfl)
  have k_substituted := He.keep_ok (S.e.fact 32 (f := .keep "substituted") rfl)
  have k_plain_scheme := He.keep_ok (S.e.fact 33 (f := .keep "plain_scheme") rfl)
  have k_renumbered := He.keep_ok (S.e.fact 34 (f := .keep "renumbered") rfl)
  have k_kind_text := He.keep_ok (S.e.fact 35 (f := .keep "kind_text") rfl)
  have k_function_text := He.keep_ok (S.e.fact 36 (f := .keep "function_text") rfl)
  have k_pair_text := He.keep_ok (S.e.fact 37 (f := .keep "pair_text") rfl)
  have k_small_text := He.keep_ok (S.e.fact 38 (f := .keep "small_text") rfl)
  have k_letters_of := He.keep_ok (S.e.fact 39 (f := .keep "letters_of") rfl)
  have k_no_more_general := He.keep_ok (S.e.fact 40 (f := .keep "no_more_general") rfl)
  have k_is_instance := He.keep_ok (S.e.fact 41 (f := .keep "is_instance") rfl)
  have k__law_dice := He.keep_ok (S.e.fact 42 (f := .keep "_law_dice") rfl)
  have k__law_roll := He.keep_ok (S.e.fact 43 (f := .keep "_law_roll") rfl)
  have k__law_rounds := He.keep_ok (S.e.fact 44 (f := .keep "_law_rounds") rfl)
  have k__law_told := He.keep_ok (S.e.fact 45 (f := .keep "_law_told") rfl)
  have k__law_kind := He.keep_ok (S.e.fact 46 (f := .keep "_law_kind") rfl)
  have k__law_parts := He.keep_ok (S.e.fact 47 (f := .keep "_law_parts") rfl)
  have k__law_put := He.keep_ok (S.e.fact 48 (f := .keep "_law_put") rfl)
  have k__law_within := He.keep_ok (S.e.fact 49 (f := .keep "_law_within") rfl)
  have k__law_alike := He.keep_ok (S.e.fact 50 (f := .keep "_law_alike") rfl)
  have k__law_numbered := He.keep_ok (S.e.fact 51 (f := .keep "_law_numbered") rfl)
  have k__law_gather := He.keep_ok (S.e.fact 52 (f := .keep "_law_gather") rfl)
  have k_law := He.keep_ok (S.e.fact 53 (f := .keep "law") rfl)
  have m___init__ := He.meth_ok (S.e.fact 54 (f := .meth "Unifier" "__init__") rfl)
  have m_fresh := He.meth_ok (S.e.fact 55 (f := .meth "Unifier" "fresh") rfl)
  have m_head := He.meth_ok (S.e.fact 56 (f := .meth "Unifier" "head") rfl)
  have m_full := He.meth_ok (S.e.fact 57 (f := .meth "Unifier" "full") rfl)
  have m_occurs := He.meth_ok (S.e.fact 58 (f := .meth "Unifier" "occurs") rfl)
  have m_unify := He.meth_ok (S.e.fact 59 (f := .meth "Unifier" "unify") rfl)
  have m_stand_for := He.meth_ok (S.e.fact 60 (f := .meth "Unifier" "stand_for") rfl)
  have m_fresh_copy := He.meth_ok (S.e.fact 61 (f := .meth "Unifier" "fresh_copy") rfl)
  have m_scheme_of := He.meth_ok (S.e.fact 62 (f := .meth "Unifier" "scheme_of") rfl)
  have mk_ := He.mkr_ok (S.e.fact 63 (f := .mkr "Unifier") rfl)
  have xc := He.exc_ok (S.e.fact 67 (f := .exc "KindError") rfl)
  have T : Txt K mg (He.ga K "Unifier") (He.ga K "KindError") :=
    { g_Unifier := He.glo_ok X G (S.e.fact 26 (f := .glo "Unifier") rfl), g_KindError := He.glo_ok X G (S.e.fact 27 (f := .glo "KindError") rfl), c_Unifier := He.cls_ok (S.e.fact 64 (f := .cls "Unifier") rfl), n_Unifier_table := He.noat_ok (S.e.fact 65 (f := .noat "Unifier" "table") rfl), n_Unifier_made := He.noat_ok (S.e.fact 66 (f := .noat "Unifier" "made") rfl),
      x_KindError := xc.1, k_KindError := xc.2.1, e_KindError := xc.2.2.1, t_KindError := xc.2.2.2, m_KindError := He.exm_ok (S.e.fact 68 (f := .exm "KindError" "KindError" true) rfl), g_KIND_LETTERS := He.str_ok X G (S.e.fact 69 (f := .str "KIND_LETTERS" "abcdefghijklmnopqrstuvwxyz") rfl),
      z_len := He.free_ok X G (S.e.fact 70 (f := .free "len") rfl), z_range := He.free_ok X G (S.e.fact 71 (f := .free "range") rfl), z_int := He.free_ok X G (S.e.fact 72 (f := .free "int") rfl), z_abs := He.free_ok X G (S.e.fact 73 (f := .free "abs") rfl), z_str := He.free_ok X G (S.e.fact 74 (f := .free "str") rfl), z_list := He.free_ok X G (S.e.fact 75 (f := .free "list") rfl), z_tuple := He.free_ok X G (S.e.fact 76 (f := .free "tuple") rfl), z_dict := He.free_ok X G (S.e.fact 77 (f := .free "dict") rfl), z_any := He.free_ok X G (S.e.fact 78 (f := .free "any") rfl), z_all := He.free_ok X G (S.e.fact 79 (f := .free "all") rfl), z_zip := He.free_ok X G (S.e.fact 80 (f := .free "zip") rfl), z_enumerate := He.free_ok X G (S.e.fact 81 (f := .free "enumerate") rfl) }
  obtain ⟨⟨oc_kind_parts, kV_kind_parts, dc_kind_parts, pm_kind_parts, ct_kind_parts, od_kind_parts, an_kind_parts, sl_kind_parts, l_kind_parts⟩, c_kind_parts⟩ := S.def_ 0 (d := dd_kind_parts) rfl
  have F_kind_parts := fun_mk (x := "kind_parts") (qual := "kind_parts") (st := s_kind_parts) l_kind_parts c_kind_parts k_kind_parts
  have b_kind_parts := F_kind_parts.binds (ps := ["kind"]) fun _ _ _ _ _ _ us hl => match us, hl with | [_], _ => rfl
  obtain ⟨⟨oc_with_parts, kV_with_parts, dc_with_parts, pm_with_parts, ct_with_parts, od_with_parts, an_with_parts, sl_with_parts, l_with_parts⟩, c_with_parts⟩ := S.def_ 1 (d := dd_with_parts) rfl
  have F_with_parts := fun_mk (x := "with_parts") (qual := "with_parts") (st := s_with_parts) l_with_parts c_with_parts k_with_parts
  have b_with_parts := F_with_parts.binds (ps := ["kind", "inner"]) fun _ _ _ _ _ _ us hl => match us, hl with | [_, _], _ => rfl
  obtain ⟨⟨oc_kind_variables, kV_kind_variables, dc_kind_variables, pm_kind_variables, ct_kind_variables, od_kind_variables, an_kind_variables, sl_kind_variables, l_kind_variables⟩, c_kind_variables⟩ := S.def_ 2 (d := dd_kind_variables) rfl
  have F_kind_variables := fun_mk (x := "kind_variables") (qual := "kind_variables") (st := s_kind_variables) l_kind_variables c_kind_variables k_kind_variables
  have b_kind_variables := F_kind_variables.binds (ps := ["kind"]) fun _ _ _ _ _ _ us hl => match us, hl with | [_], _ => rfl
  obtain ⟨⟨oc_gather_variables, kV_gather_variables, dc_gather_variables, pm_gather_variables, ct_gather_variables, od_gather_variables, an_gather_variables, sl_gather_variables, l_gather_variables⟩, c_gather_variables⟩ := S.def_ 3 (d := dd_gather_variables) rfl
  have F_gather_variables := fun_mk (x := "gather_variables") (qual := "gather_variables") (st := s_gather_variables) l_gather_variables c_gather_variables k_gather_variables
  have b_gather_variables := F_gather_variables.binds (ps := ["kind", "found"]) fun _ _ _ _ _ _ us hl => match us, hl with | [_, _], _ => rfl
  obtain ⟨⟨oc_substituted, kV_substituted, dc_substituted, pm_substituted, ct_substituted, od_substituted, an_substituted, sl_substituted, l_substituted⟩, c_substituted⟩ := S.def_ 4 (d := dd_substituted) rfl
  have F_substituted := fun_mk (x := "substituted") (qual := "substituted") (st := s_substituted) l_substituted c_substituted k_substituted
  have b_substituted := F_substituted.binds (ps := ["kind", "table"]) fun _ _ _ _ _ _ us hl => match us, hl with | [_, _], _ => rfl
  obtain ⟨⟨oc_plain_scheme, kV_plain_scheme, dc_plain_scheme, pm_plain_scheme, ct_plain_scheme, od_plain_scheme, an_plain_scheme, sl_plain_scheme, l_plain_scheme⟩, c_plain_scheme⟩ := S.def_ 5 (d := dd_plain_scheme) rfl
  have F_plain_scheme := fun_mk (x := "plain_scheme") (qual := "plain_scheme") (st := s_plain_scheme) l_plain_scheme c_plain_scheme k_plain_scheme
  have b_plain_scheme := F_plain_scheme.binds (ps := ["kind"]) fun _ _ _ _ _ _ us hl => match us, hl with | [_], _ => rfl
  obtain ⟨⟨oc_renumbered, kV_renumbered, dc_renumbered, pm_renumbered, ct_renumbered, od_renumbered, an_renumbered, sl_renumbered, l_renumbered⟩, c_renumbered⟩ := S.def_ 6 (d := dd_renumbered) rfl
  have F_renumbered := fun_mk (x := "renumbered") (qual := "renumbered") (st := s_renumbered) l_renumbered c_renumbered k_renumbered
  have b_renumbered := F_renumbered.binds (ps := ["kind"]) fun _ _ _ _ _ _ us hl => match us, hl with | [_], _ => rfl
  obtain ⟨⟨oc_kind_text, kV_kind_text, dc_kind_text, pm_kind_text, ct_kind_text, od_kind_text, an_kind_text, sl_kind_text, l_kind_text⟩, c_kind_text⟩ := S.def_ 7 (d := dd_kind_text) rfl
  have F_kind_text := fun_mk (x := "kind_text") (qual := "kind_text") (st := s_kind_text) l_kind_text c_kind_text k_kind_text
  have b_kind_text := F_kind_text.binds (ps := ["kind"]) fun _ _ _ _ _ _ us hl => match us, hl with | [_], _ => rfl
  obtain ⟨⟨oc_function_text, kV_function_text, dc_function_text, pm_function_text, ct_function_text, od_function_text, an_function_text, sl_function_text, l_function_text⟩, c_function_text⟩ := S.def_ 8 (d := dd_function_text) rfl
  have F_function_text := fun_mk (x := "function_text") (qual := "function_text") (st := s_function_text) l_function_text c_function_text k_function_text
  have b_function_text := F_function_text.binds (ps := ["kind"]) fun _ _ _ _ _ _ us hl => match us, hl with | [_], _ => rfl
  obtain ⟨⟨oc_pair_text, kV_pair_text, dc_pair_text, pm_pair_text, ct_pair_text, od_pair_text, an_pair_text, sl_pair_text, l_pair_text⟩, c_pair_text⟩ := S.def_ 9 (d := dd_pair_text) rfl
  have F_pair_text := fun_mk (x := "pair_text") (qual := "pair_text") (st := s_pair_text) l_pair_text c_pair_text k_pair_text
  have b_pair_text := F_pair_text.binds (ps := ["kind"]) fun _ _ _ _ _ _ us hl => match us, hl with | [_], _ => rfl
  obtain ⟨⟨oc_small_text, kV_small_text, dc_small_text, pm_small_text, ct_small_text, od_small_text, an_small_text, sl_small_text, l_small_text⟩, c_small_text⟩ := S.def_ 10 (d := dd_small_text) rfl
  have F_small_text := fun_mk (x := "small_text") (qual := "small_text") (st := s_small_text) l_small_text c_small_text k_small_text
  have b_small_text := F_small_text.binds (ps := ["kind"]) fun _ _ _ _ _ _ us hl => match us, hl with | [_], _ => rfl
  obtain ⟨⟨oc_letters_of, kV_letters_of, dc_letters_of, pm_letters_of, ct_letters_of, od_letters_of, an_letters_of, sl_letters_of, l_letters_of⟩, c_letters_of⟩ := S.def_ 11 (d := dd_letters_of) rfl
  have F_letters_of := fun_mk (x := "letters_of") (qual := "letters_of") (st := s_letters_of) l_letters_of c_letters_of k_letters_of
  have b_letters_of := F_letters_of.binds (ps := ["number"]) fun _ _ _ _ _ _ us hl => match us, hl with | [_], _ => rfl
  obtain ⟨⟨oc_no_more_general, kV_no_more_general, dc_no_more_general, pm_no_more_general, ct_no_more_general, od_no_more_general, an_no_more_general, sl_no_more_general, l_no_more_general⟩, c_no_more_general⟩ := S.def_ 12 (d := dd_no_more_general) rfl
  have F_no_more_general := fun_mk (x := "no_more_general") (qual := "no_more_general") (st := s_no_more_general) l_no_more_general c_no_more_general k_no_more_general
  have b_no_more_general := F_no_more_general.binds (ps := ["one", "other"]) fun _ _ _ _ _ _ us hl => match us, hl with | [_, _], _ => rfl
  obtain ⟨⟨oc_is_instance, kV_is_instance, dc_is_instance, pm_is_instance, ct_is_instance, od_is_instance, an_is_instance, sl_is_instance, l_is_instance⟩, c_is_instance⟩ := S.def_ 13 (d := dd_is_instance) rfl
  have F_is_instance := fun_mk (x := "is_instance") (qual := "is_instance") (st := s_is_instance) l_is_instance c_is_instance k_is_instance
  have b_is_instance := F_is_instance.binds (ps := ["one", "other", "table"]) fun _ _ _ _ _ _ us hl => match us, hl with | [_, _, _], _ => rfl
  obtain ⟨⟨oc__law_dice, kV__law_dice, dc__law_dice, pm__law_dice, ct__law_dice, od__law_dice, an__law_dice, sl__law_dice, l__law_dice⟩, c__law_dice⟩ := S.def_ 14 (d := dd__law_dice) rfl
  have F__law_dice := fun_mk (x := "_law_dice") (qual := "_law_dice") (st := s__law_dice) l__law_dice c__law_dice k__law_dice
  have b__law_dice := F__law_dice.binds (ps := ["cell"]) fun _ _ _ _ _ _ us hl => match us, hl with | [_], _ => rfl
  obtain ⟨⟨oc__law_roll, kV__law_roll, dc__law_roll, pm__law_roll, ct__law_roll, od__law_roll, an__law_roll, sl__law_roll, l__law_roll⟩, c__law_roll⟩ := S.def_ 15 (d := dd__law_roll) rfl
  have F__law_roll := fun_mk (x := "_law_roll") (qual := "_law_roll") (st := s__law_roll) l__law_roll c__law_roll k__law_roll
  have b__law_roll := F__law_roll.binds (ps := ["dice", "many"]) fun _ _ _ _ _ _ us hl => match us, hl with | [_, _], _ => rfl
  obtain ⟨⟨oc__law_rounds, kV__law_rounds, dc__law_rounds, pm__law_rounds, ct__law_rounds, od__law_rounds, an__law_rounds, sl__law_rounds, l__law_rounds⟩, c__law_rounds⟩ := S.def_ 16 (d := dd__law_rounds) rfl
  have F__law_rounds := fun_mk (x := "_law_rounds") (qual := "_law_rounds") (st := s__law_rounds) l__law_rounds c__law_rounds k__law_rounds
  have b__law_rounds := F__law_rounds.binds (ps := ["script", "most"]) fun _ _ _ _ _ _ us hl => match us, hl with | [_, _], _ => rfl
  obtain ⟨⟨oc__law_told, kV__law_told, dc__law_told, pm__law_told, ct__law_told, od__law_told, an__law_told, sl__law_told, l__law_told⟩, c__law_told⟩ := S.def_ 17 (d := dd__law_told) rfl
  have F__law_told := fun_mk (x := "_law_told") (qual := "_law_told") (st := s__law_told) l__law_told c__law_told k__law_told
  have b__law_told := F__law_told.binds (ps := ["what"]) fun _ _ _ _ _ _ us hl => match us, hl with | [_], _ => rfl
  obtain ⟨⟨oc__law_kind, kV__law_kind, dc__law_kind, pm__law_kind, ct__law_kind, od__law_kind, an__law_kind, sl__law_kind, l__law_kind⟩, c__law_kind⟩ := S.def_ 18 (d := dd__law_kind) rfl
  have F__law_kind := fun_mk (x := "_law_kind") (qual := "_law_kind") (st := s__law_kind) l__law_kind c__law_kind k__law_kind
  have b__law_kind := F__law_kind.binds (ps := ["dice", "many", "deep"]) fun _ _ _ _ _ _ us hl => match us, hl with | [_, _, _], _ => rfl
  obtain ⟨⟨oc__law_parts, kV__law_parts, dc__law_parts, pm__law_parts, ct__law_parts, od__law_parts, an__law_parts, sl__law_parts, l__law_parts⟩, c__law_parts⟩ := S.def_ 19 (d := dd__law_parts) rfl
  have F__law_parts := fun_mk (x := "_law_parts") (qual := "_law_parts") (st := s__law_parts) l__law_parts c__law_parts k__law_parts
  have b__law_parts := F__law_parts.binds (ps := ["kind"]) fun _ _ _ _ _ _ us hl => match us, hl with | [_], _ => rfl
  obtain ⟨⟨oc__law_put, kV__law_put, dc__law_put, pm__law_put, ct__law_put, od__law_put, an__law_put, sl__law_put, l__law_put⟩, c__law_put⟩ := S.def_ 20 (d := dd__law_put) rfl
  have F__law_put := fun_mk (x := "_law_put") (qual := "_law_put") (st := s__law_put) l__law_put c__law_put k__law_put
  have b__law_put := F__law_put.binds (ps := ["kind", "number", "other"]) fun _ _ _ _ _ _ us hl => match us, hl with | [_, _, _], _ => rfl
  obtain ⟨⟨oc__law_within, kV__law_within, dc__law_within, pm__law_within, ct__law_within, od__law_within, an__law_within, sl__law_within, l__law_within⟩, c__law_within⟩ := S.def_ 21 (d := dd__law_within) rfl
  have F__law_within := fun_mk (x := "_law_within") (qual := "_law_within") (st := s__law_within) l__law_within c__law_within k__law_within
  have b__law_within := F__law_within.binds (ps := ["number", "kind"]) fun _ _ _ _ _ _ us hl => match us, hl with | [_, _], _ => rfl
  obtain ⟨⟨oc__law_alike, kV__law_alike, dc__law_alike, pm__law_alike, ct__law_alike, od__law_alike, an__law_alike, sl__law_alike, l__law_alike⟩, c__law_alike⟩ := S.def_ 22 (d := dd__law_alike) rfl
  have F__law_alike := fun_mk (x := "_law_alike") (qual := "_law_alike") (st := s__law_alike) l__law_alike c__law_alike k__law_alike
  have b__law_alike := F__law_alike.binds (ps := ["pairs", "many"]) fun _ _ _ _ _ _ us hl => match us, hl with | [_, _], _ => rfl
  obtain ⟨⟨oc__law_numbered, kV__law_numbered, dc__law_numbered, pm__law_numbered, ct__law_numbered, od__law_numbered, an__law_numbered, sl__law_numbered, l__law_numbered⟩, c__law_numbered⟩ := S.def_ 23 (d := dd__law_numbered) rfl
  have F__law_numbered := fun_mk (x := "_law_numbered") (qual := "_law_numbered") (st := s__law_numbered) l__law_numbered c__law_numbered k__law_numbered
  have b__law_numbered := F__law_numbered.binds (ps := ["kinds"]) fun _ _ _ _ _ _ us hl => match us, hl with | [_], _ => rfl
  obtain ⟨⟨oc__law_gather, kV__law_gather, dc__law_gather, pm__law_gather, ct__law_gather, od__law_gather, an__law_gather, sl__law_gather, l__law_gather⟩, c__law_gather⟩ := S.def_ 24 (d := dd__law_gather) rfl
  have F__law_gather := fun_mk (x := "_law_gather") (qual := "_law_gather") (st := s__law_gather) l__law_gather c__law_gather k__law_gather
  have b__law_gather := F__law_gather.binds (ps := ["kind", "order"]) fun _ _ _ _ _ _ us hl => match us, hl with | [_, _], _ => rfl
  obtain ⟨⟨oc_law, kV_law, dc_law, pm_law, ct_law, od_law, an_law, sl_law, l_law⟩, c_law⟩ := S.def_ 25 (d := dd_law) rfl
  have F_law := fun_mk (x := "law") (qual := "law") (st := s_law) l_law c_law k_law
  have b_law := F_law.binds (ps := ["script"]) fun _ _ _ _ _ _ us hl => match us, hl with | [_], _ => rfl
  obtain ⟨⟨oc_Unifier___init__, kV_Unifier___init__, dc_Unifier___init__, pm_Unifier___init__, ct_Unifier___init__, od_Unifier___init__, an_Unifier___init__, sl_Unifier___init__, l_Unifier___init__⟩, c_Unifier___init__⟩ := S.def_ 26 (d := dd_Unifier___init__) rfl
  have F_Unifier___init__ := fun_mk (x := "__init__") (qual := "Unifier.__init__") (st := s_Unifier___init__) l_Unifier___init__ c_Unifier___init__ m___init__.3
  have b_Unifier___init__ := F_Unifier___init__.binds (ps := ["self"]) fun _ _ _ _ _ _ us hl => match us, hl with | [_], _ => rfl
  obtain ⟨⟨oc_Unifier_fresh, kV_Unifier_fresh, dc_Unifier_fresh, pm_Unifier_fresh, ct_Unifier_fresh, od_Unifier_fresh, an_Unifier_fresh, sl_Unifier_fresh, l_Unifier_fresh⟩, c_Unifier_fresh⟩ := S.def_ 27 (d := dd_Unifier_fresh) rfl
  have F_Unifier_fresh := fun_mk (x := "fresh") (qual := "Unifier.fresh") (st := s_Unifier_fresh) l_Unifier_fresh c_Unifier_fresh m_fresh.3
  have b_Unifier_fresh := F_Unifier_fresh.binds (ps := ["self"]) fun _ _ _ _ _ _ us hl => match us, hl with | [_], _ => rfl
  obtain ⟨⟨oc_Unifier_head, kV_Unifier_head, dc_Unifier_head, pm_Unifier_head, ct_Unifier_head, od_Unifier_head, an_Unifier_head, sl_Unifier_head, l_Unifier_head⟩, c_Unifier_head⟩ := S.def_ 28 (d := dd_Unifier_head) rfl
  have F_Unifier_head := fun_mk (x := "head") (qual := "Unifier.head") (st := s_Unifier_head) l_Unifier_head c_Unifier_head m_head.3
  have b_Unifier_head := F_Unifier_head.binds (ps := ["self", "kind"]) fun _ _ _ _ _ _ us hl => match us, hl with | [_, _], _ => rfl
  obtain ⟨⟨oc_Unifier_full, kV_Unifier_full, dc_Unifier_full, pm_Unifier_full, ct_Unifier_full, od_Unifier_full, an_Unifier_full, sl_Unifier_full, l_Unifier_full⟩, c_Unifier_full⟩ := S.def_ 29 (d := dd_Unifier_full) rfl
  have F_Unifier_full := fun_mk (x := "full") (qual := "Unifier.full") (st := s_Unifier_full) l_Unifier_full c_Unifier_full m_full.3
  have b_Unifier_full := F_Unifier_full.binds (ps := ["self", "kind"]) fun _ _ _ _ _ _ us hl => match us, hl with | [_, _], _ => rfl
  obtain ⟨⟨oc_Unifier_occurs, kV_Unifier_occurs, dc_Unifier_occurs, pm_Unifier_occurs, ct_Unifier_occurs, od_Unifier_occurs, an_Unifier_occurs, sl_Unifier_occurs, l_Unifier_occurs⟩, c_Unifier_occurs⟩ := S.def_ 30 (d := dd_Unifier_occurs) rfl
  have F_Unifier_occurs := fun_mk (x := "occurs") (qual := "Unifier.occurs") (st := s_Unifier_occurs) l_Unifier_occurs c_Unifier_occurs m_occurs.3
  have b_Unifier_occurs := F_Unifier_occurs.binds (ps := ["self", "number", "kind"]) fun _ _ _ _ _ _ us hl => match us, hl with | [_, _, _], _ => rfl
  obtain ⟨⟨oc_Unifier_unify, kV_Unifier_unify, dc_Unifier_unify, pm_Unifier_unify, ct_Unifier_unify, od_Unifier_unify, an_Unifier_unify, sl_Unifier_unify, l_Unifier_unify⟩, c_Unifier_unify⟩ := S.def_ 31 (d := dd_Unifier_unify) rfl
  have F_Unifier_unify := fun_mk (x := "unify") (qual := "Unifier.unify") (st := s_Unifier_unify) l_Unifier_unify c_Unifier_unify m_unify.3
  have b_Unifier_unify := F_Unifier_unify.binds (ps := ["self", "one", "other"]) fun _ _ _ _ _ _ us hl => match us, hl with | [_, _, _], _ => rfl
  obtain ⟨⟨oc_Unifier_stand_for, kV_Unifier_stand_for, dc_Unifier_stand_for, pm_Unifier_stand_for, ct_Unifier_stand_for, od_Unifier_stand_for, an_Unifier_stand_for, sl_Unifier_stand_for, l_Unifier_stand_for⟩, c_Unifier_stand_for⟩ := S.def_ 32 (d := dd_Unifier_stand_for) rfl
  have F_Unifier_stand_for := fun_mk (x := "stand_for") (qual := "Unifier.stand_for") (st := s_Unifier_stand_for) l_Unifier_stand_for c_Unifier_stand_for m_stand_for.3
  have b_Unifier_stand_for := F_Unifier_stand_for.binds (ps := ["self", "number", "kind"]) fun _ _ _ _ _ _ us hl => match us, hl with | [_, _, _], _ => rfl
  obtain ⟨⟨oc_Unifier_fresh_copy, kV_Unifier_fresh_copy, dc_Unifier_fresh_copy, pm_Unifier_fresh_copy, ct_Unifier_fresh_copy, od_Unifier_fresh_copy, an_Unifier_fresh_copy, sl_Unifier_fresh_copy, l_Unifier_fresh_copy⟩, c_Unifier_fresh_copy⟩ := S.def_ 33 (d := dd_Unifier_fresh_copy) rfl
  have F_Unifier_fresh_copy := fun_mk (x := "fresh_copy") (qual := "Unifier.fresh_copy") (st := s_Unifier_fresh_copy) l_Unifier_fresh_copy c_Unifier_fresh_copy m_fresh_copy.3
  have b_Unifier_fresh_copy := F_Unifier_fresh_copy.binds (ps := ["self", "scheme"]) fun _ _ _ _ _ _ us hl => match us, hl with | [_, _], _ => rfl
  obtain ⟨⟨oc_Unifier_scheme_of, kV_Unifier_scheme_of, dc_Unifier_scheme_of, pm_Unifier_scheme_of, ct_Unifier_scheme_of, od_Unifier_scheme_of, an_Unifier_scheme_of, sl_Unifier_scheme_of, l_Unifier_scheme_of⟩, c_Unifier_scheme_of⟩ := S.def_ 34 (d := dd_Unifier_scheme_of) rfl
  have F_Unifier_scheme_of := fun_mk (x := "scheme_of") (qual := "Unifier.scheme_of") (st := s_Unifier_scheme_of) l_Unifier_scheme_of c_Unifier_scheme_of m_scheme_of.3
  have b_Unifier_scheme_of := F_Unifier_scheme_of.binds (ps := ["self", "kind", "fixed"]) fun _ _ _ _ _ _ us hl => match us, hl with | [_, _, _], _ => rfl
  have pd : nd (tf.map fun p => (He.cT K p).2) = true := S.more
  letI τ : Tbl := ⟨[((He.cT K ("Unifier", some "occurs")).2, qOcc), ((He.cT K ("Unifier", some "scheme_of")).2, qSch), ((He.cT K ("is_instance", none)).2, qIns), ((He.cT K ("law", none)).2, qLam)]⟩
  have tu : ∀ x ∈ τ.T, ∀ p ∈ τ.T, p.1 = x.1 → p.2 = x.2 := tb_uniq pd
  refine ⟨PySem.W.fnOf "law" "law" (defArgs s_law) (defBody s_law) (defScope s_law) .none kV_law dc_law pm_law an_law (.ref (He.cT K ("law", none)).1) ct_law, tf.map (He.cT K), upSp K spLaw, fun p hp => ?_, fun p hp => ?_, fun p hp => ?_, fun s u => .of_eq rfl, fun H a ns hl hb hH hS => law_start hS fun p hp => ?_, fun base KB NB TB => ?_⟩
  · obtain ⟨y, hy, rfl⟩ := List.mem_map.mp hp
    exact (S.tab y hy).2.2
  · obtain ⟨y, hy, rfl⟩ := List.mem_map.mp hp
    exact (S.tab y hy).2.1
  · obtain ⟨y, hy, rfl⟩ := List.mem_map.mp hp
    exact PySem.W.codeHd_of_K X (S.tab y hy).1
  · rcases List.mem_cons.mp hp with rfl | hp
    · exact hH (He.cT K ("Unifier", some "occurs")) (List.mem_map_of_mem (List.mem_of_getElem? (i := 0) rfl))
    rcases List.mem_cons.mp hp with rfl | hp
    · exact hH (He.cT K ("Unifier", some "scheme_of")) (List.mem_map_of_mem (List.mem_of_getElem? (i := 1) rfl))
    rcases List.mem_cons.mp hp with rfl | hp
    · exact hH (He.cT K ("is_instance", none)) (List.mem_map_of_mem (List.mem_of_getElem? (i := 2) rfl))
    rw [List.mem_singleton.mp hp]
    exact hH (He.cT K ("law", none)) (List.mem_map_of_mem (List.mem_of_getElem? (i := 3) rfl))
  · have t0 := TB (He.cT K ("Unifier", some "occurs")) (List.mem_map_of_mem (List.mem_of_getElem? (i := 0) rfl))
    have t1 := TB (He.cT K ("Unifier", some "scheme_of")) (List.mem_map_of_mem (List.mem_of_getElem? (i := 1) rfl))
    have t2 := TB (He.cT K ("is_instance", none)) (List.mem_map_of_mem (List.mem_of_getElem? (i := 2) rfl))
    have t3 := TB (He.cT K ("law", none)) (List.mem_map_of_mem (List.mem_of_getElem? (i := 3) rfl))
    have m0 : ((He.cT K ("Unifier", some "occurs")).2, qOcc) ∈ τ.T := List.mem_of_getElem? (i := 0) rfl
    have m1 : ((He.cT K ("Unifier", some "scheme_of")).2, qSch) ∈ τ.T := List.mem_of_getElem? (i := 1) rfl
    have m2 : ((He.cT K ("is_instance", none)).2, qIns) ∈ τ.T := List.mem_of_getElem? (i := 2) rfl
    have m3 : ((He.cT K ("law", none)).2, qLam) ∈ τ.T := List.mem_of_getElem? (i := 3) rfl
    have D_kind_parts : Dfn l.prog w K mg base "kind_parts" 1 ["kind"] spParts := ⟨_, _, g_kind_parts, k_kind_parts, b_kind_parts, ok_Parts F_kind_parts T⟩
    have D_with_parts : Dfn l.prog w K mg base "with_parts" 1 ["kind", "inner"] spWith := ⟨_, _, g_with_parts, k_with_parts, b_with_parts, ok_With F_with_parts T⟩
    have D_gather_variables : Dfn l.prog w K mg base "gather_variables" 42 ["kind", "found"] (spGath 40) := ⟨_, _, g_gather_variables, k_gather_variables, b_gather_variables, ok_Gath F_gather_variables T D_kind_parts (fun F => ⟨_, _, g_gather_variables, k_gather_variables, b_gather_variables, F⟩) 40⟩
    have D_kind_variables : Dfn l.prog w K mg base "kind_variables" 43 ["kind"] spVars := ⟨_, _, g_kind_variables, k_kind_variables, b_kind_variables, ok_Vars F_kind_variables T D_gather_variables⟩
    have D_substituted : Dfn l.prog w K mg base "substituted" 42 ["kind", "table"] (spSubst 40) := ⟨_, _, g_substituted, k_substituted, b_substituted, ok_Subst F_substituted T D_kind_parts D_with_parts (fun F => ⟨_, _, g_substituted, k_substituted, b_substituted, F⟩) 40⟩
    have D_Unifier_head : Mtd l.prog w K mg base (He.ga K "Unifier") "head" 1 ["self", "kind"] (spHead (He.ga K "Unifier")) := ⟨_, _, m_head, b_Unifier_head, ok_Head F_Unifier_head T⟩
    have D_Unifier_full : Mtd l.prog w K mg base (He.ga K "Unifier") "full" 42 ["self", "kind"] (spFull (He.ga K "Unifier") 40) := ⟨_, _, m_full, b_Unifier_full, ok_Full F_Unifier_full T D_kind_parts D_with_parts D_Unifier_head (fun F => ⟨_, _, m_full, b_Unifier_full, F⟩) 40⟩
    have D_Unifier_occurs : Mtd l.prog w K mg base (He.ga K "Unifier") "occurs" 82 ["self", "number", "kind"] (spOccurs (He.ga K "Unifier") 40) := ⟨_, _, m_occurs, b_Unifier_occurs, ok_Occurs l_Unifier_occurs c_Unifier_occurs T (gx_tab t0) m0 (tu _ m0) D_kind_parts D_Unifier_head (fun F => ⟨_, _, m_occurs, b_Unifier_occurs, F⟩) 40⟩
    have D_Unifier_stand_for : Mtd l.prog w K mg base (He.ga K "Unifier") "stand_for" 83 ["self", "number", "kind"] (spStand (He.ga K "Unifier") (He.ga K "KindError")) := ⟨_, _, m_stand_for, b_Unifier_stand_for, ok_Stand F_Unifier_stand_for T D_Unifier_occurs⟩
    have D_Unifier_unify : Mtd l.prog w K mg base (He.ga K "Unifier") "unify" 115 ["self", "one", "other"] (spUni (He.ga K "Unifier") (He.ga K "KindError")) := ⟨_, _, m_unify, b_Unifier_unify, fn_ex2 (z := fun L V => spUnify (He.ga K "Unifier") (He.ga K "KindError") L V 31) (fun L V ds G Q E q => by obtain ⟨_, _, _, _, _, _, _, _, rfl, _⟩ := q; rfl) fun L V U => ok_Unify F_Unifier_unify T U D_kind_parts D_Unifier_head D_Unifier_stand_for (fun F => ⟨_, _, m_unify, b_Unifier_unify, F⟩) 31⟩
    have D_Unifier___init__ : Ini l.prog w K mg base (He.ga K "Unifier") 1 ["self"] (spInit (He.ga K "Unifier")) := ⟨_, _, mk_, b_Unifier___init__, ok_Init F_Unifier___init__ T⟩
    have D_Unifier_fresh : Mtd l.prog w K mg base (He.ga K "Unifier") "fresh" 1 ["self"] (spFresh (He.ga K "Unifier")) := ⟨_, _, m_fresh, b_Unifier_fresh, ok_Fresh F_Unifier_fresh T⟩
    have D_Unifier_fresh_copy : Mtd l.prog w K mg base (He.ga K "Unifier") "fresh_copy" 43 ["self", "scheme"] (spCpy (He.ga K "Unifier")) := ⟨_, _, m_fresh_copy, b_Unifier_fresh_copy, fn_ex2' (z := spCopy (He.ga K "Unifier")) (fun L V ds G Q E q => by obtain ⟨_, _, _, _, _, _, _, _, rfl, _⟩ := q; rfl) fun L V => ok_Copy F_Unifier_fresh_copy T D_Unifier_fresh D_Unifier_full D_substituted⟩
    have D_Unifier_scheme_of : Mtd l.prog w K mg base (He.ga K "Unifier") "scheme_of" 45 ["self", "kind", "fixed"] (spSch (He.ga K "Unifier")) := ⟨_, _, m_scheme_of, b_Unifier_scheme_of, fn_ex2' (z := spScheme (He.ga K "Unifier")) (fun L V ds G Q E q => by obtain ⟨_, _, _, _, _, _, _, _, _, rfl, _⟩ := q; rfl) fun L V => ok_Scheme l_Unifier_scheme_of c_Unifier_scheme_of T (gx_tab t1) m1 (tu _ m1) D_Unifier_full D_gather_variables D_kind_variables⟩
    have D_plain_scheme : Dfn l.prog w K mg base "plain_scheme" 1 ["kind"] spPlain := ⟨_, _, g_plain_scheme, k_plain_scheme, b_plain_scheme, ok_Plain F_plain_scheme T⟩
    have D_renumbered : Dfn l.prog w K mg base "renumbered" 44 ["kind"] spRenum := ⟨_, _, g_renumbered, k_renumbered, b_renumbered, ok_Renum F_renumbered T D_kind_variables D_substituted⟩
    have D_is_instance : Dfn l.prog w K mg base "is_instance" 82 ["one", "other", "table"] (spInst 40) := ⟨_, _, g_is_instance, k_is_instance, b_is_instance, ok_Inst l_is_instance c_is_instance T (gx_tab t2) m2 (tu _ m2) D_kind_parts (fun F => ⟨_, _, g_is_instance, k_is_instance, b_is_instance, F⟩) 40⟩
    have D_no_more_general : Dfn l.prog w K mg base "no_more_general" 83 ["one", "other"] spNoMore := ⟨_, _, g_no_more_general, k_no_more_general, b_no_more_general, ok_NoMore F_no_more_general T D_is_instance⟩
    have D_letters_of : Dfn l.prog w K mg base "letters_of" 1 ["number"] spLetters := ⟨_, _, g_letters_of, k_letters_of, b_letters_of, ok_Letters F_letters_of T⟩
    have D_texts := ok_Texts F_function_text F_pair_text F_small_text T D_letters_of (fun F => ⟨_, _, g_function_text, k_function_text, b_function_text, F⟩) (fun F => ⟨_, _, g_pair_text, k_pair_text, b_pair_text, F⟩) (fun F => ⟨_, _, g_small_text, k_small_text, b_small_text, F⟩) 40
    have D_kind_text : Dfn l.prog w K mg base "kind_text" 45 ["kind"] spText := ⟨_, _, g_kind_text, k_kind_text, b_kind_text, ok_KText F_kind_text T D_renumbered D_texts.1⟩
    have D__law_parts : Dfn l.prog w K mg base "_law_parts" 1 ["kind"] spLParts := ⟨_, _, g__law_parts, k__law_parts, b__law_parts, ok_LParts F__law_parts T⟩
    have D__law_gather : Dfn l.prog w K mg base "_law_gather" 42 ["kind", "order"] (spLGath 40) := ⟨_, _, g__law_gather, k__law_gather, b__law_gather, ok_LGath F__law_gather T D__law_parts (fun F => ⟨_, _, g__law_gather, k__law_gather, b__law_gather, F⟩) 40⟩
    have D__law_put : Dfn l.prog w K mg base "_law_put" 42 ["kind", "number", "other"] (spPut 40) := ⟨_, _, g__law_put, k__law_put, b__law_put, ok_Put F__law_put T D__law_parts (fun F => ⟨_, _, g__law_put, k__law_put, b__law_put, F⟩) 40⟩
    have D__law_within : Dfn l.prog w K mg base "_law_within" 42 ["number", "kind"] (spWithin 40) := ⟨_, _, g__law_within, k__law_within, b__law_within, ok_Within F__law_within T D__law_parts (fun F => ⟨_, _, g__law_within, k__law_within, b__law_within, F⟩) 40⟩
    have D__law_dice : Dfn l.prog w K mg base "_law_dice" 1 ["cell"] spDice := ⟨_, _, g__law_dice, k__law_dice, b__law_dice, ok_Dice F__law_dice T⟩
    have D__law_roll : Dfn l.prog w K mg base "_law_roll" 1 ["dice", "many"] spRoll := ⟨_, _, g__law_roll, k__law_roll, b__law_roll, ok_Roll F__law_roll T⟩
    have D__law_rounds : Dfn l.prog w K mg base "_law_rounds" 2 ["script", "most"] spRounds := ⟨_, _, g__law_rounds, k__law_rounds, b__law_rounds, ok_Rounds F__law_rounds T D__law_dice⟩
    have D__law_kind : Dfn l.prog w K mg base "_law_kind" 7 ["dice", "many", "deep"] (spKind 5) := ⟨_, _, g__law_kind, k__law_kind, b__law_kind, ok_Kind F__law_kind T D__law_roll (fun F => ⟨_, _, g__law_kind, k__law_kind, b__law_kind, F⟩) 5⟩
    have D__law_alike : Dfn l.prog w K mg base "_law_alike" 43 ["pairs", "many"] (spAlike 40) := ⟨_, _, g__law_alike, k__law_alike, b__law_alike, ok_Alike F__law_alike T D__law_parts D__law_put D__law_within⟩
    have D__law_numbered : Dfn l.prog w K mg base "_law_numbered" 43 ["kinds"] spNumd := ⟨_, _, g__law_numbered, k__law_numbered, b__law_numbered, ok_Numd F__law_numbered T D__law_gather D__law_put⟩
    have TTd : Told K mg _ oc__law_told kV__law_told dc__law_told pm__law_told _ ct__law_told od__law_told an__law_told sl__law_told := ⟨g__law_told, k__law_told, l__law_told, c__law_told, b__law_told⟩
    exact ok_Law l_law c_law T TTd t3 m3 (tu _ m3) D__law_rounds D__law_roll D__law_kind D__law_parts D__law_alike D__law_gather D__law_numbered D_Unifier___init__ D_Unifier_fresh D_Unifier_full D_Unifier_unify D_Unifier_fresh_copy D_Unifier_scheme_of D_substituted D_kind_variables D_kind_parts D_with_parts D_gather_variables D_renumbered D_kind_text D_no_more_general D_is_instance D_plain_scheme
end K05

namespace K05
open PySem PySem.Spec PyProof.Rows L2 Z
theorem cx_no {P : Program} {w : World} {H : Hp} {s : Shared} {e : Value} {s' : Shared} (h : L2.CX P w [] H s (fun _ _ _ => False) e s') : False := by
  obtain ⟨_, _, _, _, _, _, _, _, _, _, _, _, z⟩ := h
  exact z
abbrev R : PySem.W.OpenRow := PySem.W.OpenLaw.row PySem.Challenge.rw_tonguestack_k05_kinds_made_alike
abbrev hk : PySem.W.Hook := Zh.hookQ 5 fa fn tf ex
def ob (s : PySem.W.SharedT) : Zh.AlQ := Zh.obsQ 5 fa fn tf ex (HandSHeadRun.getT s)
theorem ob_eq (s : PySem.W.SharedT) : ob s = hk.obs s.abs := Zh.obsQ_eq (HandSHeadRun.getT_eq s)
def loose : List Str := ["__name__", "TongueError", "KindError", "KIND_LETTERS", "Unifier", "kind_parts", "with_parts", "kind_variables", "gather_variables", "substituted", "plain_scheme", "renumbered", "kind_text", "function_text", "pair_text", "small_text", "letters_of", "no_more_general", "is_instance", "_law_dice", "_law_roll", "_law_rounds", "_law_told", "_law_kind", "_law_parts", "_law_put", "_law_within", "_law_alike", "_law_numbered", "_law_gather"]
set_option maxHeartbeats 0 in
theorem run (w : World) : HandSHeadRun.RunEq R (PySem.W.view R.prog [32]) hk ob 4000 loose w := by
  intro os
  kernel_rfl
end K05
open PySem PySem.W PySem.Calls PyProof.Rows
set_option maxHeartbeats 0 in
theorem PySem.Challenge.cw_tonguestack_k05_kinds_made_alike_holds : PySem.Challenge.rw_tonguestack_k05_kinds_made_alike.Holds := by
  w_on; o_law
  refine HandSHeadRun.head_any (r := OpenLaw.row PySem.Challenge.rw_tonguestack_k05_kinds_made_alike) (q := view (OpenLaw.row PySem.Challenge.rw_tonguestack_k05_kinds_made_alike).prog [32]) (H := K05.hk) (ob := K05.ob) (M := 4000) (loose := K05.loose) (d := HandSHeadRun.topDef (OpenLaw.row PySem.Challenge.rw_tonguestack_k05_kinds_made_alike).prog 32) (kwd := []) K05.ob_eq
    (by kernel_rfl) (fun s => by kernel_rfl) K05.run (by kernel_rfl) (by kernel_rfl) (by kernel_rfl) (by rfl) (by first | assumption | decide +kernel) (by decide +kernel) ⟨rfl, rfl, rfl, rfl, rfl, by decide +kernel⟩ ?hw ?hc
  case hw => w_witness2
  case hc =>
    refine Zh.walk_q (l := PySem.Challenge.rw_tonguestack_k05_kinds_made_alike) (n := 63) (k := 121) (x := "script") (CX := fun w => L2.CX PySem.Challenge.rw_tonguestack_k05_kinds_made_alike.prog w) rfl (by decide) (by kernel_rfl) ⟨rfl, by decide, by decide⟩ ?F (fun _ _ _ _ _ h => K05.cx_no h)
    intro w mg fa h Y G hmg0
    obtain ⟨K, KX, c⟩ := Y
    have hmg : mg ("law" : PySem.Str) = some (.ref fa) := by
      have e : (HandSHeadRun.topDef (OpenLaw.row PySem.Challenge.rw_tonguestack_k05_kinds_made_alike).prog 32).name = ("law" : PySem.Str) := by kernel_rfl
      rw [← e]
      exact hmg0
    exact ⟨K, KX, K05.all_q KX G hmg c⟩

