import PyProof.Rows.All
import Wide.All
import OpenK.AllK
import Wide.FinOn
import HandS.ForMost
import HandS.Deep
import HandS.Lambda
import HandS.ForExc
import HandS.AnyAll
import KE.DatumOrd
import KE.KDictPairs
import HandS.More
import HandS.FStr
import HandS.RaiseMore
import PyProof.StrBlock2
import HandS.TryMany
import HandS.Style
import PySem.Challenge.RW_tonguestack_k01_texts_to_tokens
import HandS.Text
import HandS.EndTab
set_option Elab.async false
set_option linter.all false
set_option maxRecDepth 100000
set_option maxHeartbeats 4000000
namespace Z
open PySem PySem.Spec PyProof.Rows L2

/-! ### data: tuples by what they hold, what changes by its address -/
inductive D where
  | non
  | bl (b : Bool)
  | int (i : Int)
  | str (x : Str)
  | ty (n : String)
  | ref (a : Addr)
  | tup (ds : List D)
  | ct (ds : List D)
  | cl (ds : List D)

def TqT (K : PySem.W.Frag) (H : Hp) (a : Addr) (xs : List V) : Prop := H a = some (.tup xs)
def CqT (K : PySem.W.Frag) (a : Addr) (xs : List V) : Prop :=
  ∃ (o : Obj) (its : Array Value) (n : Nat), K.lookup a = some o ∧ o.cls = .type "tuple" ∧ o.data = .seq its n ∧ its.size ≤ sizeLine ∧ Vals xs its.toList
def CqL (K : PySem.W.Frag) (H : Hp) (a : Addr) (xs : List V) : Prop :=
  (∃ o, H a = some (.frz o (.lst xs))) ∨ ∃ (o : Obj) (its : Array Value) (n : Nat), K.lookup a = some o ∧ o.cls = .type "list" ∧ o.dict = none ∧ o.data = .seq its n ∧ its.size ≤ sizeLine ∧ Vals xs its.toList
theorem TqT.sq {K : PySem.W.Frag} {H : Hp} {a : Addr} {xs : List V} (h : TqT K H a xs) : SqT K H a xs := .inl (.inl h)
theorem CqT.sq {K : PySem.W.Frag} {H : Hp} {a : Addr} {xs : List V} (h : CqT K a xs) : SqT K H a xs := .inr h
theorem CqL.sq {K : PySem.W.Frag} {H : Hp} {a : Addr} {xs : List V} (h : CqL K H a xs) : SqL K H a xs := by
  rcases h with h | h
  · exact .inl (.inr h)
  · exact .inr h

mutual
inductive Rep (K : PySem.W.Frag) (H : Hp) : V → D → Prop
  | non : Rep K H .non .non
  | bl (b : Bool) : Rep K H (.bl b) (.bl b)
  | int (i : Int) : Rep K H (.int i) (.int i)
  | str (x : Str) : Rep K H (.str x) (.str x)
  | ty (n : String) : Rep K H (.ty n) (.ty n)
  | ref (a : Addr) : Rep K H (.ref a) (.ref a)
  | tup {a : Addr} {xs : List V} {ds : List D} : TqT K H a xs → Reps K H xs ds → Rep K H (.ref a) (.tup ds)
  | ct {a : Addr} {xs : List V} {ds : List D} : CqT K a xs → Reps K H xs ds → Rep K H (.ref a) (.ct ds)
  | cl {a : Addr} {xs : List V} {ds : List D} : CqL K H a xs → Reps K H xs ds → Rep K H (.ref a) (.cl ds)
inductive Reps (K : PySem.W.Frag) (H : Hp) : List V → List D → Prop
  | nil : Reps K H [] []
  | cons {v : V} {vs : List V} {d : D} {ds : List D} : Rep K H v d → Reps K H vs ds → Reps K H (v :: vs) (d :: ds)
end

def sta : HO → Prop
  | .tup _ => True
  | .frz _ (.lst _) => True
  | .ext _ => True
  | _ => False
def Tm (H H' : Hp) : Prop := ∀ a o, H a = some o → sta o → H' a = some o
theorem Tm.refl (H : Hp) : Tm H H := fun _ _ h _ => h
theorem Tm.trans {H H1 H2 : Hp} (a : Tm H H1) (b : Tm H1 H2) : Tm H H2 := fun x o h s => b x o (a x o h s) s
theorem Tm.tq {K : PySem.W.Frag} {H H' : Hp} {a : Addr} {xs : List V} (t : Tm H H') (h : TqT K H a xs) : TqT K H' a xs := t _ _ h trivial
theorem Tm.cq {K : PySem.W.Frag} {H H' : Hp} {a : Addr} {xs : List V} (t : Tm H H') (h : CqL K H a xs) : CqL K H' a xs := by
  rcases h with ⟨o, h⟩ | h
  · exact .inl ⟨o, t _ _ h trivial⟩
  · exact .inr h
mutual
theorem Rep.mono {K : PySem.W.Frag} {H H' : Hp} (t : Tm H H') : ∀ {d : D} {v : V}, Rep K H v d → Rep K H' v d
  | .non, _, .non => .non
  | .bl b, _, .bl _ => .bl b
  | .int b, _, .int _ => .int b
  | .str b, _, .str _ => .str b
  | .ty b, _, .ty _ => .ty b
  | .ref b, _, .ref _ => .ref b
  | .tup ds, _, .tup h r => .tup (t.tq h) (Reps.mono t r)
  | .ct ds, _, .ct h r => .ct h (Reps.mono t r)
  | .cl ds, _, .cl h r => .cl (t.cq h) (Reps.mono t r)
theorem Reps.mono {K : PySem.W.Frag} {H H' : Hp} (t : Tm H H') : ∀ {ds : List D} {vs : List V}, Reps K H vs ds → Reps K H' vs ds
  | [], _, .nil => .nil
  | _ :: _, _, .cons h r => .cons (Rep.mono t h) (Reps.mono t r)
end
section
variable {K : PySem.W.Frag} {H : Hp}
theorem Reps.length : ∀ {ds : List D} {vs : List V}, Reps K H vs ds → vs.length = ds.length
  | [], _, .nil => rfl
  | _ :: _, _, .cons _ r => by rw [List.length_cons, List.length_cons, r.length]
theorem Reps.append : ∀ {ds es : List D} {vs ws : List V}, Reps K H vs ds → Reps K H ws es → Reps K H (vs ++ ws) (ds ++ es)
  | [], _, _, _, .nil, s => s
  | _ :: _, _, _, _, .cons h r, s => .cons h (r.append s)
theorem Reps.get : ∀ {ds : List D} {vs : List V} {i : Nat} {d : D}, Reps K H vs ds → ds[i]? = some d → ∃ v, vs[i]? = some v ∧ Rep K H v d
  | _ :: _, _, 0, _, .cons h _, e => by
    cases e
    exact ⟨_, rfl, h⟩
  | _ :: _, _, i + 1, _, .cons _ r, e => by
    obtain ⟨v, h1, h2⟩ := Reps.get (i := i) r (by simpa using e)
    exact ⟨v, by simpa using h1, h2⟩
theorem Reps.set : ∀ {ds : List D} {vs : List V} (i : Nat) {v : V} {d : D}, Reps K H vs ds → Rep K H v d → Reps K H (vs.set i v) (ds.set i d)
  | [], _, _, _, _, .nil, _ => .nil
  | _ :: _, _, 0, _, _, .cons _ r, h => .cons h r
  | _ :: _, _, i + 1, _, _, .cons q r, h => .cons q (r.set i h)
theorem Reps.take : ∀ {ds : List D} {vs : List V} (n : Nat), Reps K H vs ds → Reps K H (vs.take n) (ds.take n)
  | _, _, 0, _ => by simpa using Reps.nil
  | [], _, _ + 1, .nil => .nil
  | _ :: _, _, n + 1, .cons h r => .cons h (r.take n)
theorem Reps.drop : ∀ {ds : List D} {vs : List V} (n : Nat), Reps K H vs ds → Reps K H (vs.drop n) (ds.drop n)
  | _, _, 0, r => r
  | [], _, _ + 1, .nil => .nil
  | _ :: _, _, n + 1, .cons _ r => r.drop n
theorem Reps.ints : ∀ ns : List Int, Reps K H (ns.map V.int) (ns.map D.int)
  | [] => .nil
  | n :: ns => .cons (.int n) (Reps.ints ns)
theorem Reps.of_ints : ∀ {ns : List Int} {vs : List V}, Reps K H vs (ns.map D.int) → vs = ns.map V.int
  | [], _, .nil => rfl
  | _ :: _, _, .cons (.int _) r => by rw [List.map_cons, Reps.of_ints r]
theorem Reps.dropLast {ds : List D} {vs : List V} (r : Reps K H vs ds) : Reps K H vs.dropLast ds.dropLast := by
  rw [List.dropLast_eq_take, List.dropLast_eq_take, r.length]
  exact r.take _
theorem Reps.reverse : ∀ {ds : List D} {vs : List V}, Reps K H vs ds → Reps K H vs.reverse ds.reverse
  | [], _, .nil => .nil
  | _ :: _, _, .cons h r => by
    rw [List.reverse_cons, List.reverse_cons]
    exact r.reverse.append (.cons h .nil)
end

/-! ### the heap of what changes -/
inductive MO where
  | lst (ds : List D)
  | dk (kvs : List (Key × D))
  | dt (kvs : List (List Key × D))
  | ldk (o : Obj) (xs : List (Key × V)) (kvs : List (Key × D))
  | ldt (o : Obj) (xs : List (List Key × V)) (kvs : List (List Key × D))
  | obj (C dx : Addr) (fs : List (Str × D))
abbrev Gp := Addr → Option MO
def put (G : Gp) (a : Addr) (m : MO) : Gp := fun b => if b = a then some m else G b
theorem put_same {G : Gp} {a : Addr} {m : MO} : put G a m a = some m := by unfold put; rw [if_pos rfl]
theorem put_ne {G : Gp} {a b : Addr} {m : MO} (h : b ≠ a) : put G a m b = G b := by unfold put; rw [if_neg h]
/-- pairs of a key and a value -/
inductive RepKV {κ : Type} (K : PySem.W.Frag) (H : Hp) : List (κ × V) → List (κ × D) → Prop
  | nil : RepKV K H [] []
  | cons {k : κ} {v : V} {d : D} {vs : List (κ × V)} {ds : List (κ × D)} : Rep K H v d → RepKV K H vs ds → RepKV K H ((k, v) :: vs) ((k, d) :: ds)
theorem RepKV.mono {κ : Type} {K : PySem.W.Frag} {H H' : Hp} (t : Tm H H') : ∀ {ds : List (κ × D)} {vs : List (κ × V)}, RepKV K H vs ds → RepKV K H' vs ds
  | [], _, .nil => .nil
  | _ :: _, _, .cons h r => .cons (h.mono t) (r.mono t)
def RepO (K : PySem.W.Frag) (H : Hp) (a : Addr) : MO → Prop
  | .lst ds => ∃ xs, H a = some (.lst xs) ∧ Reps K H xs ds
  | .dk kvs => ∃ xs, H a = some (.dK xs) ∧ RepKV K H xs kvs
  | .dt kvs => ∃ xs, H a = some (.dT xs) ∧ RepKV K H xs kvs
  | .ldk o xs kvs => H a = some (.frz o (.dK xs)) ∧ RepKV K H xs kvs
  | .ldt o xs kvs => H a = some (.frz o (.dT xs)) ∧ RepKV K H xs kvs
  | .obj C dx fs => ∃ xs, H a = some (.ins C dx xs) ∧ RepKV K H xs fs
/-- the tables of code objects of the law's defs that make lambdas -/
class Tbl where
  T : List (Addr × Str)
def Fr (H : Hp) (G : Gp) (H' : Hp) (G' : Gp) : Prop := ∀ b o, H b = some o → G b = none → (∀ ps, o ≠ .tbl ps) → H' b = some o ∧ G' b = none
theorem Fr.refl (H : Hp) (G : Gp) : Fr H G H G := fun _ _ h g _ => ⟨h, g⟩
theorem Fr.trans {H H1 H2 : Hp} {G G1 G2 : Gp} (a : Fr H G H1 G1) (b : Fr H1 G1 H2 G2) : Fr H G H2 G2 := fun x o h g n =>
  let ⟨h1, g1⟩ := a x o h g n
  b x o h1 g1 n
/-- what stands since a def was entered -/
class Bas where
  B : Hp → Gp → Prop
  keep : ∀ {H G H' G'}, B H G → Fr H G H' G' → B H' G'
@[reducible] def noBas : Bas := ⟨fun _ _ => True, fun _ _ => True.intro⟩
@[reducible] def frBas (H0 : Hp) (G0 : Gp) : Bas := ⟨fun H G => Fr H0 G0 H G, fun a b => a.trans b⟩
structure Sim0 [τ : Tbl] (K : PySem.W.Frag) (H : Hp) (G : Gp) : Prop where
  at_ : ∀ a m, G a = some m → RepO K H a m
  tabs : LamX.Tabs τ.T H
  apart : ∀ p ∈ τ.T, G p.1 = none
structure SimG [τ : Tbl] [β : Bas] (K : PySem.W.Frag) (H : Hp) (G : Gp) : Prop extends Sim0 K H G where
  base : β.B H G
instance [Tbl] [Bas] {K : PySem.W.Frag} {H : Hp} {G : Gp} : CoeFun (SimG K H G) (fun _ => ∀ a m, G a = some m → RepO K H a m) := ⟨fun s => s.at_⟩
theorem RepO.there {K : PySem.W.Frag} {H : Hp} {a : Addr} : ∀ {m : MO}, RepO K H a m → ∃ o, H a = some o ∧ ¬ sta o
  | .lst _, ⟨_, h, _⟩ => ⟨_, h, fun z => z⟩
  | .dk _, ⟨_, h, _⟩ => ⟨_, h, fun z => z⟩
  | .dt _, ⟨_, h, _⟩ => ⟨_, h, fun z => z⟩
  | .ldk _ _ _, ⟨h, _⟩ => ⟨_, h, fun z => z⟩
  | .ldt _ _ _, ⟨h, _⟩ => ⟨_, h, fun z => z⟩
  | .obj _ _ _, ⟨_, h, _⟩ => ⟨_, h, fun z => z⟩
section
variable [τ : Tbl] [β : Bas] {K : PySem.W.Frag} {H H' : Hp} {G G' : Gp}
theorem SimG.next (s : SimG K H G) (f : Fr H G H' G') (g : Sim0 K H' G') : SimG K H' G' := { g with base := β.keep s.base f }
theorem Sim0.none {p : Addr} (s : Sim0 K H G) (h : H p = none) : G p = none := by
  cases e : G p with
  | none => rfl
  | some m =>
    obtain ⟨o, ho, _⟩ := (s.at_ p m e).there
    rw [h] at ho
    cases ho
theorem SimG.none {p : Addr} (s : SimG K H G) (h : H p = none) : G p = none := s.toSim0.none h
theorem Sim0.tm (s : Sim0 K H G) (f : Fr H G H' G') : Tm H H' := fun a o h st => by
  cases e : G a with
  | none => exact (f a o h e (fun ps z => by rw [z] at st; exact st)).1
  | some m =>
    obtain ⟨o', ho, ns⟩ := (s.at_ a m e).there
    rw [h] at ho
    cases ho
    exact absurd st ns
theorem SimG.tm (s : SimG K H G) (f : Fr H G H' G') : Tm H H' := s.toSim0.tm f
end
theorem TabS.tm {H H' : Hp} {P : Addr} {q : Str} (t : LamX.TabS H P q) (m : Tm H H') (e : H' P = H P) : LamX.TabS H' P q := by
  obtain ⟨ps, h1, h2, h3⟩ := t
  refine ⟨ps, e.trans h1, h2, fun pos cv hc => ?_⟩
  obtain ⟨c, e1, e2⟩ := h3 pos cv hc
  exact ⟨c, e1, m c _ e2 True.intro⟩
theorem RepO.mono {K : PySem.W.Frag} {H H' : Hp} {a : Addr} (t : Tm H H') (e : H' a = H a) : ∀ {m : MO}, RepO K H a m → RepO K H' a m
  | .lst _, ⟨_, h, r⟩ => ⟨_, e.trans h, r.mono t⟩
  | .dk _, ⟨_, h, r⟩ => ⟨_, e.trans h, r.mono t⟩
  | .dt _, ⟨_, h, r⟩ => ⟨_, e.trans h, r.mono t⟩
  | .ldk _ _ _, ⟨h, r⟩ => ⟨e.trans h, r.mono t⟩
  | .ldt _ _ _, ⟨h, r⟩ => ⟨e.trans h, r.mono t⟩
  | .obj _ _ _, ⟨_, h, r⟩ => ⟨_, e.trans h, r.mono t⟩
/-- a tracked object changes, or a new one comes -/
theorem Tm.upd {H : Hp} {a : Addr} {o : HO} (h : ∀ u, H a = some u → ¬ sta u) : Tm H (upd H a o) := fun b u e st => by
  by_cases hb : b = a
  · subst hb
    exact absurd st (h u e)
  · rw [upd_ne hb]
    exact e
theorem Fr.put {H : Hp} {G : Gp} {a : Addr} {o : HO} {m : MO} (h : H a = Option.none ∨ ∃ n, G a = some n) : Fr H G (upd H a o) (put G a m) := fun b u e g _ => by
  have hb : b ≠ a := by
    rintro rfl
    rcases h with h | ⟨n, h⟩
    · rw [h] at e; cases e
    · rw [h] at g; cases g
  rw [upd_ne hb, put_ne hb]
  exact ⟨e, g⟩
/-- a new tuple: nothing that changes is new -/
theorem Fr.tup {H : Hp} {G : Gp} {a : Addr} {o : HO} (h : H a = Option.none) : Fr H G (upd H a o) G := fun b u e g _ => by
  have hb : b ≠ a := by
    rintro rfl
    rw [h] at e; cases e
  rw [upd_ne hb]
  exact ⟨e, g⟩
section
variable [τ : Tbl] [β : Bas] {K : PySem.W.Frag} {H H' : Hp} {G G' : Gp} {a : Addr} {o : HO} {m : MO}
theorem SimG.put (s : SimG K H G) (h : H a = Option.none ∨ ∃ n, G a = some n) (t : Tm H (upd H a o)) (new : RepO K (upd H a o) a m) : SimG K (upd H a o) (put G a m) := by
  have tb : ∀ p ∈ τ.T, p.1 ≠ a := fun p hp e => by
    obtain ⟨ps, h1, _⟩ := s.tabs p hp
    rcases h with h | ⟨n, h⟩
    · rw [e, h] at h1; cases h1
    · have := s.apart p hp
      rw [e, h] at this; cases this
  refine ⟨⟨fun b n e => ?_, fun p hp => TabS.tm (s.tabs p hp) t (upd_ne (tb p hp)), fun p hp => by rw [put_ne (tb p hp)]; exact s.apart p hp⟩, β.keep s.base (Fr.put h)⟩
  by_cases hb : b = a
  · subst hb
    rw [put_same] at e
    cases e
    exact new
  · rw [put_ne hb] at e
    exact (s b n e).mono t (upd_ne hb)
theorem SimG.keep (s : SimG K H G) (h : H a = Option.none) : SimG K (upd H a o) G := by
  have t : Tm H (L2.upd H a o) := Tm.upd fun u e => by rw [h] at e; cases e
  have nb : ∀ {b u}, H b = some u → b ≠ a := fun {b u} e z => by rw [z, h] at e; cases e
  refine ⟨⟨fun b n e => ?_, fun p hp => TabS.tm (s.tabs p hp) t (upd_ne (nb (s.tabs p hp).choose_spec.1)), s.apart⟩, β.keep s.base (Fr.tup h)⟩
  obtain ⟨u, hu, _⟩ := (s b n e).there
  exact (s b n e).mono t (upd_ne (nb hu))
end

/-! ### states -/
abbrev ZSt := List (Option D)
def SimS (K : PySem.W.Frag) (H : Hp) (σ : L2.St) (ρ : ZSt) : Prop := σ.length = ρ.length ∧ ∀ (i : Nat) (d : D), ρ[i]? = some (some d) → ∃ v, σ[i]? = some (some v) ∧ Rep K H v d
theorem SimS.mono {K : PySem.W.Frag} {H H' : Hp} {σ : L2.St} {ρ : ZSt} (t : Tm H H') (s : SimS K H σ ρ) : SimS K H' σ ρ := ⟨s.1, fun i d e =>
  let ⟨v, h1, h2⟩ := s.2 i d e
  ⟨v, h1, h2.mono t⟩⟩
theorem SimS.set {K : PySem.W.Frag} {H : Hp} {σ : L2.St} {ρ : ZSt} {i : Nat} {v : V} {d : D} (s : SimS K H σ ρ) (r : Rep K H v d) : SimS K H (σ.set i (some v)) (ρ.set i (some d)) := by
  refine ⟨by rw [List.length_set, List.length_set, s.1], fun j e h => ?_⟩
  by_cases hj : i = j
  · subst hj
    by_cases hl : i < ρ.length
    · rw [List.getElem?_set_self hl] at h
      cases h
      exact ⟨v, List.getElem?_set_self (by rw [s.1]; exact hl), r⟩
    · rw [List.getElem?_eq_none (by rw [List.length_set]; omega)] at h
      cases h
  · rw [List.getElem?_set_ne hj] at h ⊢
    exact s.2 j e h
theorem SimS.unset {K : PySem.W.Frag} {H : Hp} {σ : L2.St} {ρ : ZSt} {i : Nat} (s : SimS K H σ ρ) : SimS K H (σ.set i none) (ρ.set i none) := by
  refine ⟨by rw [List.length_set, List.length_set, s.1], fun j e h => ?_⟩
  by_cases hj : i = j
  · subst hj
    by_cases hl : i < ρ.length
    · rw [List.getElem?_set_self hl] at h
      cases h
    · rw [List.getElem?_eq_none (by rw [List.length_set]; omega)] at h
      cases h
  · rw [List.getElem?_set_ne hj] at h ⊢
    exact s.2 j e h

abbrev DK := D → Gp → Prop
abbrev DE := ZSt → Gp → DK → Prop
abbrev DT := ZSt → Gp → (Bool → Gp → Prop) → Prop
abbrev DA := ZSt → Gp → (List D → Gp → Prop) → Prop
structure ZEnds where
  nx : ZSt → Gp → Prop
  rt : DK
  bk : ZSt → Gp → Prop := fun _ _ => False
  ct : ZSt → Gp → Prop := fun _ _ => False
abbrev DS := ZEnds → ZSt → Gp → Prop

section
variable [τ : Tbl] [β : Bas]
def upE (K : PySem.W.Frag) (t : DE) : TE := fun σ H Q => ∃ ρ G Q0, SimS K H σ ρ ∧ SimG K H G ∧ t ρ G Q0 ∧ ∀ d G' v H', Q0 d G' → Fr H G H' G' → SimG K H' G' → Rep K H' v d → Q v H'
def upT (K : PySem.W.Frag) (t : DT) : TT := fun σ H Q => ∃ ρ G Q0, SimS K H σ ρ ∧ SimG K H G ∧ t ρ G Q0 ∧ ∀ b G' H', Q0 b G' → Fr H G H' G' → SimG K H' G' → Q b H'
def upA (K : PySem.W.Frag) (t : DA) : TA := fun σ H Q => ∃ ρ G Q0, SimS K H σ ρ ∧ SimG K H G ∧ t ρ G Q0 ∧ ∀ ds G' vs H', Q0 ds G' → Fr H G H' G' → SimG K H' G' → Reps K H' vs ds → Q vs H'
def upS (K : PySem.W.Frag) (t : DS) : TS := fun D σ H => ∃ ρ G Z, SimS K H σ ρ ∧ SimG K H G ∧ t Z ρ G ∧
  (∀ ρ' G' σ' H', Z.nx ρ' G' → Fr H G H' G' → SimG K H' G' → SimS K H' σ' ρ' → D.nx σ' H') ∧
  (∀ d G' v H', Z.rt d G' → Fr H G H' G' → SimG K H' G' → Rep K H' v d → D.rt v H') ∧
  (∀ ρ' G' σ' H', Z.bk ρ' G' → Fr H G H' G' → SimG K H' G' → SimS K H' σ' ρ' → D.bk σ' H') ∧
  (∀ ρ' G' σ' H', Z.ct ρ' G' → Fr H G H' G' → SimG K H' G' → SimS K H' σ' ρ' → D.ct σ' H')
def ZE (X : Cx) (e : Expr) (t : DE) : Prop := PE X e (upE X.K t)
def ZT (X : Cx) (e : Expr) (t : DT) : Prop := PT X e (upT X.K t)
def ZW (X : Cx) (e : Expr) (t : DT) : Prop := PW X e (upT X.K t)
def ZA (X : Cx) (es : List Expr) (t : DA) : Prop := PA X es (upA X.K t)
def ZS (X : Cx) (st : Stmt) (t : DS) : Prop := PS X st (upS X.K t)
def ZSs (X : Cx) (st : List Stmt) (t : DS) : Prop := PSs X st (upS X.K t)

end
theorem PEi {X : Cx} {e : Expr} {t t' : TE} (h : PE X e t) (i : ∀ σ H Q, t' σ H Q → t σ H Q) : PE X e t' := ⟨fun pins s σ H Q I q => h.run pins s σ H Q I (i σ H Q q)⟩
theorem PTi {X : Cx} {e : Expr} {t t' : TT} (h : PT X e t) (i : ∀ σ H Q, t' σ H Q → t σ H Q) : PT X e t' := ⟨fun pins s σ H Q I q => h.run pins s σ H Q I (i σ H Q q)⟩
theorem PWi {X : Cx} {e : Expr} {t t' : TT} (h : PW X e t) (i : ∀ σ H Q, t' σ H Q → t σ H Q) : PW X e t' := ⟨fun wh pins s σ H Q I q => h.run wh pins s σ H Q I (i σ H Q q)⟩
theorem PAi {X : Cx} {e : List Expr} {t t' : TA} (h : PA X e t) (i : ∀ σ H Q, t' σ H Q → t σ H Q) : PA X e t' := ⟨fun ps pins s σ H Q I q => h.run ps pins s σ H Q I (i σ H Q q)⟩
theorem PSi {X : Cx} {e : Stmt} {t t' : TS} (h : PS X e t) (i : ∀ D σ H, t' D σ H → t D σ H) : PS X e t' := ⟨fun pins s σ H D I q => h.run pins s σ H D I (i D σ H q)⟩
theorem PSsi {X : Cx} {e : List Stmt} {t t' : TS} (h : PSs X e t) (i : ∀ D σ H, t' D σ H → t D σ H) : PSs X e t' := ⟨fun pins s σ H D I q => h.run pins s σ H D I (i D σ H q)⟩

/-! ### names, constants -/
section
variable [τ : Tbl] [β : Bas] {X : Cx}
def zVar (i : Nat) : DE := fun ρ G Q => match ρ[i]? with
  | some (some d) => Q d G
  | _ => False
def zC (d : D) : DE := fun _ G Q => Q d G
theorem z_var (i : Nat) {x : Str} {pos : Pos} (hN : X.N[i]? = some x := by rfl) (hv : Vis X.env.scope x := by first | exact Or.inl rfl | exact Or.inr (Or.inl rfl) | exact Or.inr (Or.inr rfl)) (hd : (x == ("__debug__" : Str)) = false := by decide)
    (hcd : (x == ("__classdict__" : Str)) = false := by decide) : ZE X (.Name x pos) (zVar i) := PEi (pe_var hN hv hd hcd) fun σ H Q q => by
  obtain ⟨ρ, G, Q0, hs, hg, h, k⟩ := q
  unfold zVar at h
  split at h
  · rename_i d e
    obtain ⟨v, e1, r⟩ := hs.2 i d e
    exact ⟨v, e1, k d G v H h (Fr.refl H G) hg r⟩
  · cases h
theorem up_c {v : V} {d : D} {e : Expr} (h : PE X e (tC v)) (r : ∀ H, Rep X.K H v d) : ZE X e (zC d) := PEi h fun σ H Q q => by
  obtain ⟨ρ, G, Q0, hs, hg, h, k⟩ := q
  exact k d G v H h (Fr.refl H G) hg (r H)
theorem z_int {i j pos} : ZE X (.Constant (.int i) j pos) (zC (.int i)) := up_c pe_int fun _ => .int _
theorem z_bl {i j pos} : ZE X (.Constant (.bool i) j pos) (zC (.bl i)) := up_c pe_bl fun _ => .bl _
theorem z_str {i j pos} : ZE X (.Constant (.str i) j pos) (zC (.str i)) := up_c pe_str fun _ => .str _
theorem z_non {j pos} : ZE X (.Constant .none j pos) (zC .non) := up_c pe_non fun _ => .non
end
end Z

namespace Z
open PySem PySem.Spec PyProof.Rows L2
/-- a heap that is as G but at a -/
structure At (G : Gp) (a : Addr) (m : MO) (G' : Gp) : Prop where
  is : G' a = some m
  other : ∀ b, b ≠ a → G' b = G b
theorem At.put (G : Gp) (a : Addr) (m : MO) : At G a m (put G a m) := ⟨put_same, fun _ h => put_ne h⟩
def Ext (G G' : Gp) : Prop := ∀ b x, G b = some x → G' b = some x
theorem Ext.refl (G : Gp) : Ext G G := fun _ _ h => h
theorem Ext.trans {G G1 G2 : Gp} (a : Ext G G1) (b : Ext G1 G2) : Ext G G2 := fun x m h => b x m (a x m h)
theorem Ext.back {G G1 : Gp} (e : Ext G G1) {p : Addr} (h : G1 p = none) : G p = none := by
  cases q : G p with
  | none => rfl
  | some m =>
    rw [e p m q] at h
    cases h
theorem At.ext {G G' : Gp} {a : Addr} {m : MO} (h : At G a m G') (n : G a = none) : Ext G G' := fun b x e => by
  rw [h.other b (by rintro rfl; rw [n] at e; cases e)]
  exact e
/-- a heap that keeps all of G but what is at a -/
def Exb (a : Addr) (G G' : Gp) : Prop := ∀ b x, b ≠ a → G b = some x → G' b = some x
theorem Exb.refl (a : Addr) (G : Gp) : Exb a G G := fun _ _ _ h => h
theorem Exb.trans {a : Addr} {G G1 G2 : Gp} (x : Exb a G G1) (y : Exb a G1 G2) : Exb a G G2 := fun b m n h => y b m n (x b m n h)
theorem Ext.exb {a : Addr} {G G' : Gp} (e : Ext G G') : Exb a G G' := fun b m _ h => e b m h
theorem At.exb {G G' : Gp} {a : Addr} {m : MO} (h : At G a m G') : Exb a G G' := fun b x n e => by rw [h.other b n]; exact e
variable [τ : Tbl] [β : Bas]

abbrev CK (K : PySem.W.Frag) (H : Hp) (G : Gp) (Q0 : DK) (Q : VK) : Prop := ∀ d G' v H', Q0 d G' → Fr H G H' G' → SimG K H' G' → Rep K H' v d → Q v H'
theorem CK.go {K : PySem.W.Frag} {H H1 : Hp} {G G1 : Gp} {Q0 : DK} {Q : VK} (k : CK K H G Q0 Q) (f : Fr H G H1 G1) : CK K H1 G1 Q0 Q := fun d G' v H' q f' g r => k d G' v H' q (f.trans f') g r
theorem CK.at {K : PySem.W.Frag} {H : Hp} {G : Gp} {Q0 : DK} {Q : VK} (k : CK K H G Q0 Q) {d : D} {v : V} (q : Q0 d G) (g : SimG K H G) (r : Rep K H v d) : Q v H := k d G v H q (Fr.refl H G) g r
/-- a new tuple -/
theorem CK.tup {K : PySem.W.Frag} {H : Hp} {G : Gp} {Q0 : DK} {Q : VK} (k : CK K H G Q0 Q) {p : Addr} {xs : List V} {ds : List D} (hp : H p = none) (q : Q0 (.tup ds) G) (g : SimG K H G) (r : Reps K H xs ds) : Q (.ref p) (upd H p (.tup xs)) :=
  k _ G _ _ q (Fr.tup hp) (g.keep hp) (.tup upd_same (r.mono (Tm.upd fun u e => by rw [hp] at e; cases e)))
theorem tm_new {H : Hp} {p : Addr} {o : HO} (hp : H p = none) : Tm H (upd H p o) := Tm.upd fun u e => by rw [hp] at e; cases e
theorem tm_set {H : Hp} {p : Addr} {o u : HO} (hp : H p = some u) (n : ¬ sta u) : Tm H (upd H p o) := Tm.upd fun w e => by
  rw [hp] at e
  cases e
  exact n
/-- a new changing object -/
theorem CK.new {K : PySem.W.Frag} {H : Hp} {G : Gp} {Q0 : DK} {Q : VK} (k : CK K H G Q0 Q) {p : Addr} {o : HO} {m : MO} (hp : H p = none) (g : SimG K H G) (r : RepO K (upd H p o) p m) (q : ∀ G', G p = none → At G p m G' → Q0 (.ref p) G') : Q (.ref p) (upd H p o) :=
  k _ (put G p m) _ _ (q _ (g.none hp) (At.put G p m)) (Fr.put (.inl hp)) (g.put (.inl hp) (tm_new hp) r) (.ref p)
/-- one that stands changes -/
theorem CK.set {K : PySem.W.Frag} {H : Hp} {G : Gp} {Q0 : DK} {Q : VK} (k : CK K H G Q0 Q) {p : Addr} {o u : HO} {m n : MO} {v : V} {d : D} (hp : H p = some u) (hn : ¬ sta u) (hg : G p = some n) (g : SimG K H G) (r : RepO K (upd H p o) p m)
    (rv : Rep K (upd H p o) v d) (q : ∀ G', At G p m G' → Q0 d G') : Q v (upd H p o) :=
  k _ (put G p m) _ _ (q _ (At.put G p m)) (Fr.put (.inr ⟨n, hg⟩)) (g.put (.inr ⟨n, hg⟩) (tm_set hp hn) r) rv

abbrev Z2 := D → D → Gp → DK → Prop
def upR2 (K : PySem.W.Frag) (z : Z2) : R2 := fun x y H Q => ∃ d e G Q0, SimG K H G ∧ Rep K H x d ∧ Rep K H y e ∧ z d e G Q0 ∧ CK K H G Q0 Q
def ZOp (X : Cx) (f : Value → Value → Sem Value) (z : Z2) : Prop := OpR X f (upR2 X.K z)
def zOp (z : Z2) (ta tb : DE) : DE := fun ρ G Q => ta ρ G fun d G1 => tb ρ G1 fun e G2 => z d e G2 Q
theorem up_op {K : PySem.W.Frag} {z : Z2} {ta tb : DE} {σ : L2.St} {H : Hp} {Q : VK} (q : upE K (zOp z ta tb) σ H Q) : tOp (upR2 K z) (upE K ta) (upE K tb) σ H Q := by
  obtain ⟨ρ, G, Q0, hs, hg, h, k⟩ := q
  exact ⟨ρ, G, _, hs, hg, h, fun d G1 x H1 h1 f1 g1 r1 => ⟨ρ, G1, _, hs.mono (hg.tm f1), g1, h1, fun e G2 y H2 h2 f2 g2 r2 => ⟨d, e, G2, Q0, g2, r1.mono (g1.tm f2), r2, h2, CK.go k (f1.trans f2)⟩⟩⟩
theorem OpRi {X : Cx} {f : Value → Value → Sem Value} {r r' : R2} (h : OpR X f r) (i : ∀ x y H Q, r' x y H Q → r x y H Q) : OpR X f r' := fun pins s σ H x y v u Q I rx ry q => h pins s σ H x y v u Q I rx ry (i x y H Q q)
def zOr (z z' : Z2) : Z2 := fun d e G Q => z d e G Q ∨ z' d e G Q
theorem ZOp.or {X : Cx} {f : Value → Value → Sem Value} {z z' : Z2} (h : ZOp X f z) (h' : ZOp X f z') : ZOp X f (zOr z z') := OpRi (OpR.or h h') fun x y H Q q => by
  obtain ⟨d, e, G, Q0, g, rx, ry, h | h, k⟩ := q
  · exact .inl ⟨d, e, G, Q0, g, rx, ry, h, k⟩
  · exact .inr ⟨d, e, G, Q0, g, rx, ry, h, k⟩

section
variable {X : Cx} {a b : Expr} {ta tb : DE} {pos : Pos}
theorem z_op {op : Operator} {z : Z2} (ho : ZOp X (binaryOp op) z) (ha : ZE X a ta) (hb : ZE X b tb) : ZE X (.BinOp a op b pos) (zOp z ta tb) := PEi (pe_op ho ha hb) fun _ _ _ q => up_op q
theorem z_cmp {op : CmpOp} {z : Z2} (ho : ZOp X (compareOp op) z) (ha : ZE X a ta) (hb : ZE X b tb) (hm : behindInMarks op b = false := by rfl) : ZE X (.Compare a [op] [b] pos) (zOp z ta tb) := PEi (pe_cmpR ho ha hb hm) fun _ _ _ q => up_op q
/-- a value that is a bool, as a test -/
def zTest (t : DE) : DT := fun ρ G Q => t ρ G fun d G1 => match d with
  | .bl b => Q b G1
  | _ => False
theorem up_test {K : PySem.W.Frag} {t : DE} {σ : L2.St} {H : Hp} {Q : Bool → Hp → Prop} (q : upT K (zTest t) σ H Q) : tTest (upE K t) σ H Q := by
  obtain ⟨ρ, G, Q0, hs, hg, h, k⟩ := q
  refine ⟨ρ, G, _, hs, hg, h, fun d G1 x H1 h1 f1 g1 r1 => ?_⟩
  cases r1 with
  | bl b => exact ⟨b, rfl, k b G1 H1 h1 f1 g1⟩
  | _ => cases h1
theorem z_tcmp {op : CmpOp} {z : Z2} (ho : ZOp X (compareOp op) z) (ha : ZE X a ta) (hb : ZE X b tb) (hm : behindInMarks op b = false := by rfl) : ZT X (.Compare a [op] [b] pos) (zTest (zOp z ta tb)) := PTi (pt_cmpR ho ha hb hm) fun σ H Q q => by
  obtain ⟨ρ, G, Q0, hs, hg, h, k⟩ := up_test q
  exact up_op ⟨ρ, G, Q0, hs, hg, h, k⟩
/-- any value's truth -/
def zTru (t : DE) : DT := fun ρ G Q => t ρ G fun d G1 => match d with
  | .non => Q false G1
  | .bl b => Q b G1
  | .int i => Q (i != 0) G1
  | .str y => y.length ≤ sizeLine ∧ Q ((y.length : Int) != 0) G1
  | .tup ds => Q (!ds.isEmpty) G1
  | .ct ds => Q (!ds.isEmpty) G1
  | .cl ds => Q (!ds.isEmpty) G1
  | .ref p => match G1 p with
    | some (.lst ds) => Q (!ds.isEmpty) G1
    | some (.dk ds) => Q (!ds.isEmpty) G1
    | _ => False
  | _ => False
theorem Reps.isEmpty {K : PySem.W.Frag} {H : Hp} {xs : List V} {ds : List D} (r : Reps K H xs ds) : xs.isEmpty = ds.isEmpty := by cases r <;> rfl
theorem RepKV.isEmpty {κ : Type} {K : PySem.W.Frag} {H : Hp} {xs : List (κ × V)} {ds : List (κ × D)} (r : RepKV K H xs ds) : xs.isEmpty = ds.isEmpty := by cases r <;> rfl
theorem z_tru (ha : ZE X a ta) (he : ∀ whole, isTrue a X.env whole = (do let v ← whole; standAt a.pos; holding [v] (truthy v)) := by intro _; rfl) : ZT X a (zTru ta) := PTi (pt_truth ha he) fun σ H Q q => by
  obtain ⟨ρ, G, Q0, hs, hg, h, k⟩ := q
  refine ⟨ρ, G, _, hs, hg, h, fun d G1 x H1 h1 f1 g1 r1 => ?_⟩
  have fin : ∀ b, Q0 b G1 → Q b H1 := fun b q => k b G1 H1 q f1 g1
  cases r1 with
  | non => exact ⟨_, rfl, fin _ h1⟩
  | bl b => exact ⟨_, rfl, fin _ h1⟩
  | int i => exact ⟨_, rfl, fin _ h1⟩
  | str i => exact ⟨_, ⟨h1.1, rfl⟩, fin _ h1.2⟩
  | ty n => cases h1
  | tup hq r => exact ⟨_, .inr (.inl ⟨_, hq.sq, rfl⟩), fin _ (by rw [r.isEmpty]; exact h1)⟩
  | ct hq r => exact ⟨_, .inr (.inl ⟨_, hq.sq, rfl⟩), fin _ (by rw [r.isEmpty]; exact h1)⟩
  | cl hq r => exact ⟨_, .inl ⟨_, hq.sq, rfl⟩, fin _ (by rw [r.isEmpty]; exact h1)⟩
  | ref p =>
    simp only at h1
    split at h1
    · rename_i ds e
      obtain ⟨xs, hx, r⟩ := g1 p _ e
      exact ⟨_, .inl ⟨_, .inl (.inl hx), rfl⟩, fin _ (by rw [r.isEmpty]; exact h1)⟩
    · rename_i ds e
      obtain ⟨xs, hx, r⟩ := g1 p _ e
      exact ⟨_, .inr (.inr ⟨_, hx, rfl⟩), fin _ (by rw [r.isEmpty]; exact h1)⟩
    · cases h1

/-! ### and, or, not; a if c else b -/
variable {t u : DT} {rest : List Expr}
def zAnd (t u : DT) : DT := fun ρ G Q => t ρ G fun c G1 => if c = true then u ρ G1 Q else Q false G1
def zOrT (t u : DT) : DT := fun ρ G Q => t ρ G fun c G1 => if c = true then Q true G1 else u ρ G1 Q
def zNot (t : DT) : DT := fun ρ G Q => t ρ G fun c G1 => Q (!c) G1
theorem zw_and1 (ha : ZT X a t) : ZW X (.BoolOp .And [a] pos) t := pw_and1 ha
theorem zw_or1 (ha : ZT X a t) : ZW X (.BoolOp .Or [a] pos) t := pw_or1 ha
theorem zw_and (ha : ZT X a t) (hb : ZW X (.BoolOp .And (b :: rest) pos) u) : ZW X (.BoolOp .And (a :: b :: rest) pos) (zAnd t u) := PWi (pw_and ha hb) fun σ H Q q => by
  obtain ⟨ρ, G, Q0, hs, hg, h, k⟩ := q
  refine ⟨ρ, G, _, hs, hg, h, fun c G1 H1 h1 f1 g1 => ?_⟩
  cases c with
  | true =>
    rw [if_pos rfl] at h1 ⊢
    exact ⟨ρ, G1, Q0, hs.mono (hg.tm f1), g1, h1, fun b G' H' q f g => k b G' H' q (f1.trans f) g⟩
  | false =>
    rw [if_neg Bool.false_ne_true] at h1 ⊢
    exact k false G1 H1 h1 f1 g1
theorem zw_or (ha : ZT X a t) (hb : ZW X (.BoolOp .Or (b :: rest) pos) u) : ZW X (.BoolOp .Or (a :: b :: rest) pos) (zOrT t u) := PWi (pw_or ha hb) fun σ H Q q => by
  obtain ⟨ρ, G, Q0, hs, hg, h, k⟩ := q
  refine ⟨ρ, G, _, hs, hg, h, fun c G1 H1 h1 f1 g1 => ?_⟩
  cases c with
  | true =>
    rw [if_pos rfl] at h1 ⊢
    exact k true G1 H1 h1 f1 g1
  | false =>
    rw [if_neg Bool.false_ne_true] at h1 ⊢
    exact ⟨ρ, G1, Q0, hs.mono (hg.tm f1), g1, h1, fun b G' H' q f g => k b G' H' q (f1.trans f) g⟩
theorem z_not (ha : ZT X a t) : ZT X (.UnaryOp .Not a pos) (zNot t) := PTi (pt_not ha) fun σ H Q q => by
  obtain ⟨ρ, G, Q0, hs, hg, h, k⟩ := q
  exact ⟨ρ, G, _, hs, hg, h, fun c G1 H1 h1 f1 g1 => k (!c) G1 H1 h1 f1 g1⟩
theorem zw_t {e : Expr} (h : ZW X e t) : ZT X e t := PW.pt h
def zIf (t : DT) (ta tb : DE) : DE := fun ρ G Q => t ρ G fun c G1 => if c = true then ta ρ G1 Q else tb ρ G1 Q
theorem z_ifE {c : Expr} (hc : ZT X c t) (ha : ZE X a ta) (hb : ZE X b tb) : ZE X (.IfExp c a b pos) (zIf t ta tb) := PEi (pe_ifExp hc ha hb) fun σ H Q q => by
  obtain ⟨ρ, G, Q0, hs, hg, h, k⟩ := q
  refine ⟨ρ, G, _, hs, hg, h, fun c G1 H1 h1 f1 g1 => ?_⟩
  cases c with
  | true =>
    rw [if_pos rfl] at h1 ⊢
    exact ⟨ρ, G1, Q0, hs.mono (hg.tm f1), g1, h1, CK.go k f1⟩
  | false =>
    rw [if_neg Bool.false_ne_true] at h1 ⊢
    exact ⟨ρ, G1, Q0, hs.mono (hg.tm f1), g1, h1, CK.go k f1⟩
/-- and, or, not as values of bools -/
def zAndV (ta tb : DE) : DE := fun ρ G Q => ta ρ G fun d G1 => match d with
  | .bl c => if c = true then tb ρ G1 Q else Q (.bl false) G1
  | _ => False
def zOrV (ta tb : DE) : DE := fun ρ G Q => ta ρ G fun d G1 => match d with
  | .bl c => if c = true then Q (.bl true) G1 else tb ρ G1 Q
  | _ => False
def zNotV (ta : DE) : DE := fun ρ G Q => ta ρ G fun d G1 => match d with
  | .bl c => Q (.bl (!c)) G1
  | _ => False
theorem z_one {op} {t : DE} (h : ZE X a t) : ZE X (.BoolOp op [a] pos) t := pe_one h
theorem z_and (ha : ZE X a ta) (hb : ZE X (.BoolOp .And (b :: rest) pos) tb) : ZE X (.BoolOp .And (a :: b :: rest) pos) (zAndV ta tb) := PEi (pe_and ha hb) fun σ H Q q => by
  obtain ⟨ρ, G, Q0, hs, hg, h, k⟩ := q
  refine ⟨ρ, G, _, hs, hg, h, fun d G1 x H1 h1 f1 g1 r1 => ?_⟩
  cases r1 with
  | bl c =>
    refine ⟨c, rfl, ?_⟩
    cases c with
    | true => exact ⟨ρ, G1, Q0, hs.mono (hg.tm f1), g1, h1, CK.go k f1⟩
    | false => exact k _ G1 _ H1 h1 f1 g1 (.bl _)
  | _ => cases h1
theorem z_or (ha : ZE X a ta) (hb : ZE X (.BoolOp .Or (b :: rest) pos) tb) : ZE X (.BoolOp .Or (a :: b :: rest) pos) (zOrV ta tb) := PEi (pe_or ha hb) fun σ H Q q => by
  obtain ⟨ρ, G, Q0, hs, hg, h, k⟩ := q
  refine ⟨ρ, G, _, hs, hg, h, fun d G1 x H1 h1 f1 g1 r1 => ?_⟩
  cases r1 with
  | bl c =>
    refine ⟨c, rfl, ?_⟩
    cases c with
    | true => exact k _ G1 _ H1 h1 f1 g1 (.bl _)
    | false => exact ⟨ρ, G1, Q0, hs.mono (hg.tm f1), g1, h1, CK.go k f1⟩
  | _ => cases h1
theorem z_notV (ha : ZE X a ta) : ZE X (.UnaryOp .Not a pos) (zNotV ta) := PEi (pe_not ha) fun σ H Q q => by
  obtain ⟨ρ, G, Q0, hs, hg, h, k⟩ := q
  refine ⟨ρ, G, _, hs, hg, h, fun d G1 x H1 h1 f1 g1 r1 => ?_⟩
  cases r1 with
  | bl c => exact ⟨c, rfl, k _ G1 _ H1 h1 f1 g1 (.bl _)⟩
  | _ => cases h1

/-! ### argument lists, displays -/
variable {es : List Expr} {tA : DA}
def zNil : DA := fun _ G Q => Q [] G
def zCons (ta : DE) (tr : DA) : DA := fun ρ G Q => ta ρ G fun d G1 => tr ρ G1 fun ds G2 => Q (d :: ds) G2
theorem za_nil : ZA X [] zNil := PAi pa_nil fun σ H Q q => by
  obtain ⟨ρ, G, Q0, hs, hg, h, k⟩ := q
  exact k [] G [] H h (Fr.refl H G) hg .nil
theorem za_cons (ha : ZE X a ta) (hr : ZA X es tA) (hs : starEach (a :: es) X.env = (false, eval a X.env) :: starEach es X.env := by rfl) : ZA X (a :: es) (zCons ta tA) := PAi (pa_cons ha hr hs) fun σ H Q q => by
  obtain ⟨ρ, G, Q0, hs, hg, h, k⟩ := q
  exact ⟨ρ, G, _, hs, hg, h, fun d G1 x H1 h1 f1 g1 r1 => ⟨ρ, G1, _, hs.mono (hg.tm f1), g1, h1, fun ds G2 xs H2 h2 f2 g2 r2 => k _ G2 _ H2 h2 (f1.trans f2) g2 (.cons (r1.mono (g1.tm f2)) r2)⟩⟩
def zTup (ta : DA) : DE := fun ρ G Q => ta ρ G fun ds G1 => ds.length ≤ sizeLine ∧ Q (.tup ds) G1
def zLst (ta : DA) : DE := fun ρ G Q => ta ρ G fun ds G1 => ds.length ≤ sizeLine ∧ ∀ p G2, G1 p = none → At G1 p (.lst ds) G2 → Q (.ref p) G2
theorem z_tup {x1} (h : ZA X es tA) : ZE X (.Tuple es x1 pos) (zTup tA) := PEi (pe_tup h) fun σ H Q q => by
  obtain ⟨ρ, G, Q0, hs, hg, h, k⟩ := q
  exact ⟨ρ, G, _, hs, hg, h, fun ds G1 xs H1 h1 f1 g1 r1 => ⟨by rw [r1.length]; exact h1.1, fun p hp => CK.tup (CK.go k f1) hp h1.2 g1 r1⟩⟩
theorem z_lst (h : ZA X es tA) : ZE X (.List es pos) (zLst tA) := PEi (pe_lst h) fun σ H Q q => by
  obtain ⟨ρ, G, Q0, hs, hg, h, k⟩ := q
  exact ⟨ρ, G, _, hs, hg, h, fun ds G1 xs H1 h1 f1 g1 r1 => ⟨by rw [r1.length]; exact h1.1, fun p hp => CK.new (m := .lst ds) (CK.go k f1) hp g1 ⟨xs, upd_same, r1.mono (tm_new hp)⟩ fun G' n at_ => h1.2 p G' n at_⟩⟩

/-! ### calls of builtins -/
abbrev ZF := List D → Gp → DK → Prop
def upC (K : PySem.W.Frag) (z : ZF) : List V → Hp → VK → Prop := fun xs H Q => ∃ ds G Q0, SimG K H G ∧ Reps K H xs ds ∧ z ds G Q0 ∧ CK K H G Q0 Q
def ZCall (X : Cx) (f : Value) (z : ZF) : Prop := CallR X f (upC X.K z)
theorem CallRi {X : Cx} {f : Value} {r r' : List V → Hp → VK → Prop} (h : CallR X f r) (i : ∀ xs H Q, r' xs H Q → r xs H Q) : CallR X f r' := fun pins s σ H xs us Q I rx q => h pins s σ H xs us Q I rx (i xs H Q q)
def zfOr (z z' : ZF) : ZF := fun ds G Q => z ds G Q ∨ z' ds G Q
theorem ZCall.or {f : Value} {z z' : ZF} (h : ZCall X f z) (h' : ZCall X f z') : ZCall X f (zfOr z z') := CallRi (CallR.or h h') fun xs H Q q => by
  obtain ⟨ds, G, Q0, g, r, h | h, k⟩ := q
  · exact .inl ⟨ds, G, Q0, g, r, h, k⟩
  · exact .inr ⟨ds, G, Q0, g, r, h, k⟩
def zCB (z : ZF) (t : DA) : DE := fun ρ G Q => t ρ G fun ds G1 => z ds G1 Q
theorem up_cb {K : PySem.W.Frag} {z : ZF} {t : DA} {σ : L2.St} {H : Hp} {Q : VK} (q : upE K (zCB z t) σ H Q) : tCB (upC K z) (upA K t) σ H Q := by
  obtain ⟨ρ, G, Q0, hs, hg, h, k⟩ := q
  exact ⟨ρ, G, _, hs, hg, h, fun ds G1 xs H1 h1 f1 g1 r1 => ⟨ds, G1, Q0, g1, r1, h1, CK.go k f1⟩⟩
theorem z_callB {id : String} {x : Str} {p : Pos} {z : ZF} (hc : ZCall X (.builtin id) z) (hg : Gl X x) (hm : X.mg x = none) (hv : bootBuiltins x = some (.builtin id)) (ha : ZA X (a :: es) tA) (hn : x ≠ "__name__" := by decide)
    (hdb : (x == ("__debug__" : Str)) = false := by decide) (he : starEach (a :: es) X.env = (false, eval a X.env) :: starEach es X.env := by rfl) (hpl : (backTo pos (starEach es X.env)).any (·.1) = false := by rfl) :
    ZE X (.Call (.Name x p) (a :: es) [] pos) (zCB z tA) := PEi (pe_callB hc hg hm hv ha hn hdb he hpl) fun _ _ _ q => up_cb q
theorem z_callTy {T : String} {x : Str} {p : Pos} {z : ZF} (hc : ZCall X (.type T) z) (hg : Gl X x) (hm : X.mg x = none) (hv : bootBuiltins x = some (.type T)) (ha : ZA X (a :: es) tA) (hn : x ≠ "__name__" := by decide)
    (hdb : (x == ("__debug__" : Str)) = false := by decide) (he : starEach (a :: es) X.env = (false, eval a X.env) :: starEach es X.env := by rfl) (hpl : (backTo pos (starEach es X.env)).any (·.1) = false := by rfl) :
    ZE X (.Call (.Name x p) (a :: es) [] pos) (zCB z tA) := PEi (pe_callTy hc hg hm hv ha hn hdb he hpl) fun _ _ _ q => up_cb q

/-! ### calls of the program's defs -/
abbrev XKz := Value → Gp → Prop
abbrev ZSp := List D → Gp → DK → XKz → Prop
def upSp (K : PySem.W.Frag) (z : ZSp) : Sp := fun vs H Q E => ∃ ds G Q0 E0, Sim0 K H G ∧ Reps K H vs ds ∧ z ds G Q0 E0 ∧ (∀ d G' v H', Q0 d G' → Fr H G H' G' → Sim0 K H' G' → Rep K H' v d → Q v H') ∧ ∀ c G' dx H', E0 c G' → Fr H G H' G' → Sim0 K H' G' → E c dx H'
/-- what is wanted of an exception here: E0 told as E -/
def EOk (K : PySem.W.Frag) (E0 : XKz) (E : XK) : Prop := ∀ c G' dx H', E0 c G' → SimG K H' G' → E c dx H'
def zCall (z : ZSp) (E0 : XKz) (t : DA) : DE := fun ρ G Q => t ρ G fun ds G1 => z ds G1 Q E0
theorem up_call {K : PySem.W.Frag} {z : ZSp} {t : DA} {E0 : XKz} {E : XK} (hE : EOk K E0 E) {σ : L2.St} {H : Hp} {Q : VK} (q : upE K (zCall z E0 t) σ H Q) : tCall (upSp K z) [] E (upA K t) σ H Q := by
  obtain ⟨ρ, G, Q0, hs, hg, h, k⟩ := q
  exact ⟨ρ, G, _, hs, hg, h, fun ds G1 xs H1 h1 f1 g1 r1 => ⟨ds, G1, Q0, E0, g1.toSim0, by rw [List.append_nil]; exact r1, h1, fun d G' v H' q f g r => k d G' v H' q (f1.trans f) (g1.next f g) r, fun c G' dx H' q f g => hE c G' dx H' q (g1.next f g)⟩⟩
/-- no exception comes here -/
abbrev X0 : XKz := fun _ _ => False
theorem eok0 {K : PySem.W.Frag} {E : XK} : EOk K X0 E := fun _ _ _ _ h _ => h.elim
theorem z_call {k : Nat} {f : Addr} {fd : FuncData} {ps : List Str} {z : ZSp} {x : Str} {p : Pos} {E0 : XKz} {E : XK} (F : FnOk X.prog X.w X.K X.mg X.base (L2.CX X.prog X.w) k f fd ps (upSp X.K z)) (hr : Room k X.A) (hg : Gl X x) (hm : X.mg x = some (.ref f)) (hk : PySem.W.keepIn X.K (.ref f) = true) (hb : Binds X.K fd ps [])
    (hE : EOk X.K E0 E) (hx : Passes (L2.CX X.prog X.w) X E) (ha : ZA X (a :: es) tA) (hdb : (x == ("__debug__" : Str)) = false := by decide) (he : starEach (a :: es) X.env = (false, eval a X.env) :: starEach es X.env := by rfl) (hpl : (backTo pos (starEach es X.env)).any (·.1) = false := by rfl) :
    ZE X (.Call (.Name x p) (a :: es) [] pos) (zCall z E0 tA) := PEi (pe_call F hr hg hm hk hb .nil hx ha hdb he hpl) fun _ _ _ q => up_call hE q
/-- a call that lets nothing out -/
theorem z_call0 {k : Nat} {f : Addr} {fd : FuncData} {ps : List Str} {z : ZSp} {x : Str} {p : Pos} (F : FnOk X.prog X.w X.K X.mg X.base (L2.CX X.prog X.w) k f fd ps (upSp X.K z)) (hr : Room k X.A) (hg : Gl X x) (hm : X.mg x = some (.ref f)) (hk : PySem.W.keepIn X.K (.ref f) = true) (hb : Binds X.K fd ps [])
    (ha : ZA X (a :: es) tA) (hdb : (x == ("__debug__" : Str)) = false := by decide) (he : starEach (a :: es) X.env = (false, eval a X.env) :: starEach es X.env := by rfl) (hpl : (backTo pos (starEach es X.env)).any (·.1) = false := by rfl) :
    ZE X (.Call (.Name x p) (a :: es) [] pos) (zCall z X0 tA) := z_call (E := L2.E0) F hr hg hm hk hb eok0 (passL (X := X)) ha hdb he hpl
end

/-! ### statements -/
section
variable {X : Cx} {st : Stmt} {rest : List Stmt} {a b : Expr} {ta tb : DE} {pos : Pos} {t u : DS}
def zNext : DS := fun Z ρ G => Z.nx ρ G
def zSeq (t u : DS) : DS := fun Z ρ G => t { Z with nx := u Z } ρ G
abbrev SK (K : PySem.W.Frag) (H : Hp) (G : Gp) (Z : ZSt → Gp → Prop) (D : L2.St → Hp → Prop) : Prop := ∀ ρ' G' σ' H', Z ρ' G' → Fr H G H' G' → SimG K H' G' → SimS K H' σ' ρ' → D σ' H'
theorem SK.go {K : PySem.W.Frag} {H H1 : Hp} {G G1 : Gp} {Z : ZSt → Gp → Prop} {D : L2.St → Hp → Prop} (k : SK K H G Z D) (f : Fr H G H1 G1) : SK K H1 G1 Z D := fun ρ' G' σ' H' q f' g s => k ρ' G' σ' H' q (f.trans f') g s
theorem zs_nil : ZSs X [] zNext := PSsi pss_nil fun D σ H q => by
  obtain ⟨ρ, G, Z, hs, hg, h, k, _⟩ := q
  exact k ρ G σ H h (Fr.refl H G) hg hs
theorem zs_cons (h1 : ZS X st t) (h2 : ZSs X rest u) : ZSs X (st :: rest) (zSeq t u) := PSsi (pss_cons h1 h2) fun D σ H q => by
  obtain ⟨ρ, G, Z, hs, hg, h, k1, k2, k3, k4⟩ := q
  exact ⟨ρ, G, _, hs, hg, h, fun ρ' G' σ' H' h' f' g' s' => ⟨ρ', G', Z, s', g', h', SK.go k1 f', CK.go k2 f', SK.go k3 f', SK.go k4 f'⟩, k2, k3, k4⟩
theorem zs_one (h1 : ZS X st t) : ZSs X [st] t := pss_one h1
def zBreak : DS := fun Z ρ G => Z.bk ρ G
def zCont : DS := fun Z ρ G => Z.ct ρ G
theorem z_pass : ZS X (.Pass pos) zNext := PSi ps_pass fun D σ H q => by
  obtain ⟨ρ, G, Z, hs, hg, h, k, _⟩ := q
  exact k ρ G σ H h (Fr.refl H G) hg hs
theorem z_break : ZS X (.Break pos) zBreak := PSi ps_break fun D σ H q => by
  obtain ⟨ρ, G, Z, hs, hg, h, _, _, k, _⟩ := q
  exact k ρ G σ H h (Fr.refl H G) hg hs
theorem z_continue : ZS X (.Continue pos) zCont := PSi ps_continue fun D σ H q => by
  obtain ⟨ρ, G, Z, hs, hg, h, _, _, _, k⟩ := q
  exact k ρ G σ H h (Fr.refl H G) hg hs
def zDrop (te : DE) : DS := fun Z ρ G => te ρ G fun _ G1 => Z.nx ρ G1
theorem z_expr (he : ZE X a ta) (hs : swapsWith a none pos.line X.env = pure false := by rfl) : ZS X (.Expr a pos) (zDrop ta) := PSi (ps_expr he hs) fun D σ H q => by
  obtain ⟨ρ, G, Z, hs, hg, h, k, _⟩ := q
  exact ⟨ρ, G, _, hs, hg, h, fun d G1 x H1 h1 f1 g1 r1 => k ρ G1 σ H1 h1 f1 g1 (hs.mono (hg.tm f1))⟩
def zRet (te : DE) : DS := fun Z ρ G => te ρ G Z.rt
theorem z_ret (he : ZE X a ta) : ZS X (.Return (some a) pos) (zRet ta) := PSi (ps_ret he) fun D σ H q => by
  obtain ⟨ρ, G, Z, hs, hg, h, _, k, _⟩ := q
  exact ⟨ρ, G, _, hs, hg, h, k⟩
def zRetN : DS := fun Z _ G => Z.rt .non G
theorem z_retN : ZS X (.Return none pos) zRetN := PSi ps_retN fun D σ H q => by
  obtain ⟨ρ, G, Z, hs, hg, h, _, k, _⟩ := q
  exact k _ G _ H h (Fr.refl H G) hg .non
def zIfS (c : DT) (t u : DS) : DS := fun Z ρ G => c ρ G fun b G1 => if b = true then t Z ρ G1 else u Z ρ G1
theorem z_if {c : Expr} {sa sb : List Stmt} {tc : DT} (hc : ZT X c tc) (ha : ZSs X sa t) (hb : ZSs X sb u) : ZS X (.If c sa sb pos) (zIfS tc t u) := PSi (ps_if hc ha hb) fun D σ H q => by
  obtain ⟨ρ, G, Z, hs, hg, h, k1, k2, k3, k4⟩ := q
  refine ⟨ρ, G, _, hs, hg, h, fun c G1 H1 h1 f1 g1 => ?_⟩
  cases c with
  | true =>
    rw [if_pos rfl] at h1 ⊢
    exact ⟨ρ, G1, Z, hs.mono (hg.tm f1), g1, h1, SK.go k1 f1, CK.go k2 f1, SK.go k3 f1, SK.go k4 f1⟩
  | false =>
    rw [if_neg Bool.false_ne_true] at h1 ⊢
    exact ⟨ρ, G1, Z, hs.mono (hg.tm f1), g1, h1, SK.go k1 f1, CK.go k2 f1, SK.go k3 f1, SK.go k4 f1⟩
theorem z_doc {x j pos'} : ZS X (.Expr (.Constant (.str x) j pos) pos') zNext := PSi ps_doc fun D σ H q => by
  obtain ⟨ρ, G, Z, hs, hg, h, k, _⟩ := q
  exact k ρ G σ H h (Fr.refl H G) hg hs

/-! ### targets, assignments -/
abbrev DG := D → ZSt → Gp → (ZSt → Gp → Prop) → Prop
abbrev DGs := List D → ZSt → Gp → (ZSt → Gp → Prop) → Prop
def upG (K : PySem.W.Frag) (t : DG) : TG := fun v σ H Q => ∃ d ρ G Q0, Rep K H v d ∧ SimS K H σ ρ ∧ SimG K H G ∧ t d ρ G Q0 ∧ SK K H G Q0 Q
def upGs (K : PySem.W.Frag) (t : DGs) : TGs := fun vs σ H Q => ∃ ds ρ G Q0, Reps K H vs ds ∧ SimS K H σ ρ ∧ SimG K H G ∧ t ds ρ G Q0 ∧ SK K H G Q0 Q
def ZG (X : Cx) (e : Expr) (t : DG) : Prop := PG X e (upG X.K t)
def ZGs (X : Cx) (es : List Expr) (t : DGs) : Prop := PGs X es (upGs X.K t)
theorem PGi {e : Expr} {t t' : TG} (h : PG X e t) (i : ∀ v σ H Q, t' v σ H Q → t v σ H Q) : PG X e t' := ⟨fun pins s σ H v u Q I r q => h.run pins s σ H v u Q I r (i v σ H Q q)⟩
theorem PGsi {e : List Expr} {t t' : TGs} (h : PGs X e t) (i : ∀ v σ H Q, t' v σ H Q → t v σ H Q) : PGs X e t' := ⟨fun pins s σ H v u Q I r q => h.run pins s σ H v u Q I r (i v σ H Q q)⟩
def zName (i : Nat) : DG := fun d ρ G Q => Q (ρ.set i (some d)) G
theorem zg_name {i : Nat} {x : Str} (hN : X.N.Nodup) (hi : X.N[i]? = some x) (hx : Loc X.env.scope x) (hf : X.fn x = true ∨ X.env.scope.names.lookup x = some .local := by first | exact .inl rfl | exact .inr rfl | assumption) : ZG X (.Name x pos) (zName i) := PGi (pg_name hN hi hx hf) fun v σ H Q q => by
  obtain ⟨d, ρ, G, Q0, r, hs, hg, h, k⟩ := q
  exact k _ G _ H h (Fr.refl H G) hg (hs.set r)
def zgNil : DGs := fun ds ρ G Q => ds = [] ∧ Q ρ G
def zgCons (t : DG) (u : DGs) : DGs := fun ds ρ G Q => match ds with
  | d :: r => t d ρ G fun ρ' G' => u r ρ' G' Q
  | [] => False
theorem zgs_nil : ZGs X [] zgNil := PGsi pgs_nil fun v σ H Q q => by
  obtain ⟨d, ρ, G, Q0, r, hs, hg, ⟨e, h⟩, k⟩ := q
  subst e
  cases r
  exact ⟨rfl, k _ G _ H h (Fr.refl H G) hg hs⟩
theorem zgs_cons {e : Expr} {es : List Expr} {t : DG} {u : DGs} (h1 : ZG X e t) (h2 : ZGs X es u) (hs : (assignEach (e :: es) X.env).map (·.2) = assign e X.env :: (assignEach es X.env).map (·.2) := by rfl) : ZGs X (e :: es) (zgCons t u) := PGsi (pgs_cons h1 h2 hs) fun v σ H Q q => by
  obtain ⟨ds, ρ, G, Q0, r, hs, hg, h, k⟩ := q
  cases r with
  | nil => exact False.elim h
  | cons r1 r2 => exact ⟨_, _, rfl, _, ρ, G, _, r1, hs, hg, h, fun ρ' G' σ' H' h' f' g' s' => ⟨_, ρ', G', Q0, r2.mono (hg.tm f'), s', g', h', SK.go k f'⟩⟩
/-- a, b, .. = a tuple -/
def zgTup (n : Nat) (u : DGs) : DG := fun d ρ G Q => match d with
  | .tup ds => ds.length = n ∧ u ds ρ G Q
  | _ => False
theorem zg_tup {es : List Expr} {k : Nat} {t : DGs} {n : Nat} (hc : X.calm = true) (h : ZGs X es t) (hn : (assignEach es X.env).length = n := by rfl) (hst : (assignEach es X.env).findIdx? (·.1) = none := by rfl) : ZG X (.Tuple es k pos) (zgTup n t) := PGi (pg_tup hc h hn hst) fun v σ H Q q => by
  obtain ⟨d, ρ, G, Q0, r, hs, hg, h, k⟩ := q
  cases r with
  | tup hq r => exact ⟨_, _, rfl, hq.sq, by rw [r.length]; exact h.1, _, ρ, G, Q0, r, hs, hg, h.2, k⟩
  | _ => exact False.elim h
def zAsg (te : DE) (g : DG) : DS := fun Z ρ G => te ρ G fun d G1 => g d ρ G1 Z.nx
theorem up_asg {K : PySem.W.Frag} {te : DE} {g : DG} {D : Ends} {σ : L2.St} {H : Hp} (q : upS K (zAsg te g) D σ H) : tAsg (upE K te) (upG K g) D σ H := by
  obtain ⟨ρ, G, Z, hs, hg, h, k, _⟩ := q
  exact ⟨ρ, G, _, hs, hg, h, fun d G1 x H1 h1 f1 g1 r1 => ⟨d, ρ, G1, Z.nx, r1, hs.mono (hg.tm f1), g1, h1, SK.go k f1⟩⟩
theorem z_asg {tg e : Expr} {te : DE} {g : DG} (he : ZE X e te) (hg : ZG X tg g) (hs : swapsWithSole [tg] e pos.line X.env = pure false := by rfl) (hw : swappedStores [tg] e X.env = pure none := by rfl)
    (h1 : (assignEach [tg] X.env).map (·.2) = [assign tg X.env] := by rfl) : ZS X (.Assign [tg] e pos) (zAsg te g) := PSi (ps_asg he hg hs hw h1) fun D σ H q => up_asg q
theorem z_set {i : Nat} {x : Str} {e : Expr} {te : DE} {pos' : Pos} (hN : X.N.Nodup) (hi : X.N[i]? = some x) (hx : Loc X.env.scope x) (he : ZE X e te) (hs : swapsWith e (some (.Name x pos')) pos.line X.env = pure false := by rfl) (hf : X.fn x = true ∨ X.env.scope.names.lookup x = some .local := by first | exact .inl rfl | exact .inr rfl | assumption) :
    ZS X (.Assign [.Name x pos'] e pos) (zAsg te (zName i)) := PSi (ps_set hN hi hx he hs hf) fun D σ H q => by
  obtain ⟨ρ, G, Z, hs, hg, h, k, _⟩ := q
  exact ⟨ρ, G, _, hs, hg, h, fun d G1 x H1 h1 f1 g1 r1 => k _ G1 _ H1 h1 f1 g1 ((hs.mono (hg.tm f1)).set r1)⟩
/-- a, b = x, y -/
def zPar (i j : Nat) (ta : DA) : DS := fun Z ρ G => ta ρ G fun ds G1 => match ds with
  | [d, e] => Z.nx ((ρ.set i (some d)).set j (some e)) G1
  | _ => False
theorem z_par {i j : Nat} {x y : Str} {a b : Expr} {ta : DA} {px py pt : Pos} {kt k2 pt2} (hc : X.calm = true) (hN : X.N.Nodup) (hi : X.N[i]? = some x) (hj : X.N[j]? = some y) (hij : i ≠ j)
    (hx : X.env.scope.names.lookup x = some .local) (hy : X.env.scope.names.lookup y = some .local) (ha : ZA X [a, b] ta)
    (hw : swappedStores [.Tuple [.Name x px, .Name y py] kt pt] (.Tuple [a, b] k2 pt2) X.env = pure (some [x, y]))
    (hs : swapsWithSole [.Tuple [.Name x px, .Name y py] kt pt] (.Tuple [a, b] k2 pt2) pos.line X.env = pure false := by rfl) :
    ZS X (.Assign [.Tuple [.Name x px, .Name y py] kt pt] (.Tuple [a, b] k2 pt2) pos) (zPar i j ta) := PSi (ps_par hc hN hi hj hij hx hy ha hw hs) fun D σ H q => by
  obtain ⟨ρ, G, Z, hs, hg, h, k, _⟩ := q
  refine ⟨ρ, G, _, hs, hg, h, fun ds G1 xs H1 h1 f1 g1 r1 => ?_⟩
  cases r1 with
  | nil => cases h1
  | cons p r1 =>
    cases r1 with
    | nil => cases h1
    | cons p' r1 =>
      cases r1 with
      | nil => exact ⟨_, _, rfl, k _ G1 _ H1 h1 f1 g1 (((hs.mono (hg.tm f1)).set p).set p')⟩
      | cons p2 r2 => cases h1

/-! ### while -/
def zWhile (c : DT) (tb : DS) : DS := fun Z ρ G => ∃ W : Nat → ZSt → Gp → Prop, (∃ m, W m ρ G) ∧ ∀ m ρ' G', W m ρ' G' →
  c ρ' G' fun b G1 => if b = true then tb { Z with nx := fun ρ2 G2 => ∃ m', m' < m ∧ W m' ρ2 G2, ct := fun ρ2 G2 => ∃ m', m' < m ∧ W m' ρ2 G2, bk := Z.nx } ρ' G1 else Z.nx ρ' G1
theorem z_while {c : Expr} {body : List Stmt} {tc : DT} {tb : DS} (hp : PassesOwn (model X.prog X.w) X.A X.env X.xe) (hc : ZT X c tc) (hb : ZSs X body tb) : ZS X (.While c body [] pos) (zWhile tc tb) := PSi (ps_while hp hc hb) fun D σ H q => by
  obtain ⟨ρ, G, Z, hs, hg, ⟨W, ⟨m0, w0⟩, turn⟩, k1, k2, k3, k4⟩ := q
  refine ⟨fun m σ' H' => ∃ ρ' G', SimS X.K H' σ' ρ' ∧ SimG X.K H' G' ∧ Fr H G H' G' ∧ W m ρ' G', ⟨m0, ρ, G, hs, hg, Fr.refl H G, w0⟩, ?_⟩
  rintro m σ' H' ⟨ρ', G', hs', hg', f', w⟩
  refine ⟨ρ', G', _, hs', hg', turn m ρ' G' w, fun b G1 H1 h1 f1 g1 => ?_⟩
  cases b with
  | true =>
    rw [if_pos rfl] at h1 ⊢
    refine ⟨fun σ2 H2 => ∃ ρ2 G2, SimS X.K H2 σ2 ρ2 ∧ SimG X.K H2 G2 ∧ Fr H G H2 G2 ∧ ∃ m', m' < m ∧ W m' ρ2 G2, fun σ2 H2 ⟨ρ2, G2, s2, g2, f2, m', hm, w2⟩ => ⟨m', hm, ρ2, G2, s2, g2, f2, w2⟩, ?_⟩
    have ff := f'.trans f1
    have nn : SK X.K H1 G1 (fun ρ2 G2 => ∃ m', m' < m ∧ W m' ρ2 G2) (fun σ2 H2 => ∃ ρ2 G2, SimS X.K H2 σ2 ρ2 ∧ SimG X.K H2 G2 ∧ Fr H G H2 G2 ∧ ∃ m', m' < m ∧ W m' ρ2 G2) := fun ρ2 G2 σ2 H2 w2 f2 g2 s2 => ⟨ρ2, G2, s2, g2, ff.trans f2, w2⟩
    exact ⟨ρ', G1, _, hs'.mono (hg'.tm f1), g1, h1, nn, CK.go k2 ff, SK.go k1 ff, nn⟩
  | false =>
    rw [if_neg Bool.false_ne_true] at h1 ⊢
    exact k1 ρ' G1 σ' H1 h1 (f'.trans f1) g1 (hs'.mono (hg'.tm f1))
end
end Z

namespace Z
open PySem PySem.Spec PyProof.Rows L2
variable [τ : Tbl] [β : Bas]

/-! ### what a loop walks: its items, and what must stand at every turn -/
abbrev DI := ZSt → Gp → (List D → (Gp → Prop) → Gp → Prop) → Prop
structure ItOk (K : PySem.W.Frag) (Hs : Hp) (J : It) (items : List D) (live : Gp → Prop) : Prop where
  go : ∀ i H G, Tm Hs H → SimG K H G → live G → i < items.length → J.go i H
  yld : ∀ i d H G x H', Tm Hs H → SimG K H G → live G → items[i]? = some d → J.yld i H x H' → Fr H G H' G ∧ SimG K H' G ∧ Rep K H' x d
  stop : ∀ H G, Tm Hs H → SimG K H G → live G → J.stop items.length H
def upI (K : PySem.W.Frag) (t : DI) : TI := fun σ H R => ∃ ρ G Q0, SimS K H σ ρ ∧ SimG K H G ∧ t ρ G Q0 ∧ ∀ items live G' H' J, Q0 items live G' → Fr H G H' G' → SimG K H' G' → ItOk K H' J items live → R J H'
def ZI (X : Cx) (tg iter : Expr) (t : DI) : Prop := PI X tg iter (upI X.K t)
theorem PIi {X : Cx} {tg e : Expr} {t t' : TI} (h : PI X tg e t) (i : ∀ σ H Q, t' σ H Q → t σ H Q) : PI X tg e t' := ⟨fun pins s σ H R I q => h.run pins s σ H R I (i σ H R q)⟩

theorem itok_list {K : PySem.W.Frag} {Hs : Hp} {a : Addr} {ds : List D} : ItOk K Hs (Itl K a) ds (fun G => G a = some (.lst ds)) where
  go := fun i H G _ g l hi => by
    obtain ⟨xs, hx, r⟩ := g a _ l
    obtain ⟨v, hv, _⟩ := r.get (List.getElem?_eq_getElem hi)
    exact ⟨xs, v, SqL.of hx, hv⟩
  yld := fun i d H G x H' _ g l hi y => by
    obtain ⟨rfl, y⟩ := y
    obtain ⟨xs, hx, r⟩ := g a _ l
    obtain ⟨v, hv, rv⟩ := r.get hi
    have e := y xs (SqL.of hx)
    rw [hv] at e
    cases e
    exact ⟨Fr.refl _ _, g, rv⟩
  stop := fun H G _ g l => by
    obtain ⟨xs, hx, r⟩ := g a _ l
    exact ⟨xs, SqL.of hx, by rw [r.length]; exact Nat.le_refl _⟩
theorem itok_cl {K : PySem.W.Frag} {Hs : Hp} {a : Addr} {xs : List V} {ds : List D} (hq : CqL K Hs a xs) (r : Reps K Hs xs ds) : ItOk K Hs (Itl K a) ds (fun _ => True) where
  go := fun i H G t g l hi => by
    obtain ⟨v, hv, _⟩ := r.get (List.getElem?_eq_getElem hi)
    exact ⟨xs, v, (t.cq hq).sq, hv⟩
  yld := fun i d H G x H' t g l hi y => by
    obtain ⟨rfl, y⟩ := y
    obtain ⟨v, hv, rv⟩ := r.get hi
    have e := y xs (t.cq hq).sq
    rw [hv] at e
    cases e
    exact ⟨Fr.refl _ _, g, rv.mono t⟩
  stop := fun H G t g l => ⟨xs, (t.cq hq).sq, by rw [r.length]; exact Nat.le_refl _⟩
theorem itok_tup {K : PySem.W.Frag} {Hs : Hp} {a : Addr} {xs : List V} {ds : List D} (hq : TqT K Hs a xs) (r : Reps K Hs xs ds) : ItOk K Hs (Itt K a) ds (fun _ => True) where
  go := fun i H G t g l hi => by
    obtain ⟨v, hv, _⟩ := r.get (List.getElem?_eq_getElem hi)
    exact ⟨xs, v, (t.tq hq).sq, hv⟩
  yld := fun i d H G x H' t g l hi y => by
    obtain ⟨rfl, y⟩ := y
    obtain ⟨v, hv, rv⟩ := r.get hi
    have e := y xs (t.tq hq).sq
    rw [hv] at e
    cases e
    exact ⟨Fr.refl _ _, g, rv.mono t⟩
  stop := fun H G t g l => ⟨xs, (t.tq hq).sq, by rw [r.length]; exact Nat.le_refl _⟩
theorem itok_ct {K : PySem.W.Frag} {Hs : Hp} {a : Addr} {xs : List V} {ds : List D} (hq : CqT K a xs) (r : Reps K Hs xs ds) : ItOk K Hs (Itt K a) ds (fun _ => True) where
  go := fun i H G t g l hi => by
    obtain ⟨v, hv, _⟩ := r.get (List.getElem?_eq_getElem hi)
    exact ⟨xs, v, hq.sq, hv⟩
  yld := fun i d H G x H' t g l hi y => by
    obtain ⟨rfl, y⟩ := y
    obtain ⟨v, hv, rv⟩ := r.get hi
    have e := y xs hq.sq
    rw [hv] at e
    cases e
    exact ⟨Fr.refl _ _, g, rv.mono t⟩
  stop := fun H G t g l => ⟨xs, hq.sq, by rw [r.length]; exact Nat.le_refl _⟩
def rngD (lo : Int) (n : Nat) : List D := (List.range n).map fun i => D.int (lo + (i : Nat))
theorem rngD_len (lo : Int) (n : Nat) : (rngD lo n).length = n := by simp [rngD]
theorem rngD_get {lo : Int} {n i : Nat} {d : D} (h : (rngD lo n)[i]? = some d) : i < n ∧ d = .int (lo + (i : Nat)) := by
  have hi : i < n := by
    have := (List.getElem?_eq_some_iff.mp h).1
    rw [rngD_len] at this
    exact this
  refine ⟨hi, ?_⟩
  unfold rngD at h
  rw [List.getElem?_map, List.getElem?_range hi] at h
  cases h
  rfl
theorem itok_rng {K : PySem.W.Frag} {Hs : Hp} {lo : Int} {n : Nat} : ItOk K Hs (Itr lo n) (rngD lo n) (fun _ => True) where
  go := fun i H G t g l hi => by rw [rngD_len] at hi; exact hi
  yld := fun i d H G x H' t g l hi y => by
    obtain ⟨rfl, rfl⟩ := y
    obtain ⟨_, rfl⟩ := rngD_get hi
    exact ⟨Fr.refl _ _, g, .int _⟩
  stop := fun H G t g l => by rw [rngD_len]; exact Nat.le_refl n
def enD (ds : List D) : List D := ds.zipIdx.map fun p => .tup [.int (p.2 : Nat), p.1]
theorem enD_len (ds : List D) : (enD ds).length = ds.length := by simp [enD]
theorem enD_get {ds : List D} {i : Nat} {d : D} (h : (enD ds)[i]? = some d) : ∃ e, ds[i]? = some e ∧ d = .tup [.int (i : Nat), e] := by
  unfold enD at h
  rw [List.getElem?_map, List.getElem?_zipIdx] at h
  cases e : ds[i]? with
  | none => rw [e] at h; cases h
  | some x =>
    rw [e] at h
    simp only [Option.map_some, Nat.zero_add, Option.some.injEq] at h
    exact ⟨x, rfl, h.symm⟩
theorem itok_enum {K : PySem.W.Frag} {Hs : Hp} {a : Addr} {ds : List D} : ItOk K Hs (Ite K a) (enD ds) (fun G => G a = some (.lst ds)) where
  go := fun i H G _ g l hi => by
    rw [enD_len] at hi
    obtain ⟨xs, hx, r⟩ := g a _ l
    obtain ⟨v, hv, _⟩ := r.get (List.getElem?_eq_getElem hi)
    exact ⟨xs, v, SqL.of hx, hv⟩
  yld := fun i d H G x H' _ g l hi y => by
    obtain ⟨T, w, rfl, hT, rfl, y⟩ := y
    obtain ⟨e, he, rfl⟩ := enD_get hi
    obtain ⟨xs, hx, r⟩ := g a _ l
    obtain ⟨v, hv, rv⟩ := r.get he
    have e := y xs (SqL.of hx)
    rw [hv] at e
    cases e
    have t := tm_new (o := .tup [.int (i : Nat), w]) hT
    exact ⟨Fr.tup hT, g.keep hT, .tup upd_same (.cons (.int _) (.cons (rv.mono t) .nil))⟩
  stop := fun H G _ g l => by
    obtain ⟨xs, hx, r⟩ := g a _ l
    exact ⟨xs, SqL.of hx, by rw [r.length, enD_len]; exact Nat.le_refl _⟩
def zipD (ds es : List D) : List D := (ds.zip es).map fun p => .tup [p.1, p.2]
theorem zipD_get {ds es : List D} {i : Nat} {d : D} (h : (zipD ds es)[i]? = some d) : ∃ x y, ds[i]? = some x ∧ es[i]? = some y ∧ d = .tup [x, y] := by
  unfold zipD at h
  rw [List.getElem?_map] at h
  cases e : (ds.zip es)[i]? with
  | none => rw [e] at h; cases h
  | some p =>
    rw [e] at h
    simp only [Option.map_some, Option.some.injEq] at h
    obtain ⟨h1, h2⟩ := List.getElem?_zip_eq_some.mp e
    exact ⟨p.1, p.2, h1, h2, h.symm⟩
theorem zipD_len (ds es : List D) : (zipD ds es).length = min ds.length es.length := by simp [zipD]
theorem itok_zip {K : PySem.W.Frag} {Hs : Hp} {a b : Addr} {ds es : List D} : ItOk K Hs (Itz K a b) (zipD ds es) (fun G => G a = some (.lst ds) ∧ G b = some (.lst es)) where
  go := fun i H G _ g l hi => by
    rw [zipD_len] at hi
    obtain ⟨xs, hx, r⟩ := g a _ l.1
    obtain ⟨ys, hy, r2⟩ := g b _ l.2
    obtain ⟨v, hv, _⟩ := r.get (List.getElem?_eq_getElem (show i < ds.length by omega))
    obtain ⟨w, hw, _⟩ := r2.get (List.getElem?_eq_getElem (show i < es.length by omega))
    exact ⟨xs, ys, v, w, SqL.of hx, SqL.of hy, hv, hw⟩
  yld := fun i d H G x H' _ g l hi y => by
    obtain ⟨T, w, u, rfl, hT, rfl, y1, y2⟩ := y
    obtain ⟨e1, e2, he1, he2, rfl⟩ := zipD_get hi
    obtain ⟨xs, hx, r⟩ := g a _ l.1
    obtain ⟨ys, hy, r2⟩ := g b _ l.2
    obtain ⟨v, hv, rv⟩ := r.get he1
    obtain ⟨v2, hv2, rv2⟩ := r2.get he2
    have e := y1 xs (SqL.of hx)
    rw [hv] at e
    cases e
    have e := y2 ys (SqL.of hy)
    rw [hv2] at e
    cases e
    have t := tm_new (o := .tup [w, u]) hT
    exact ⟨Fr.tup hT, g.keep hT, .tup upd_same (.cons (rv.mono t) (.cons (rv2.mono t) .nil))⟩
  stop := fun H G _ g l => by
    obtain ⟨xs, hx, r⟩ := g a _ l.1
    obtain ⟨ys, hy, r2⟩ := g b _ l.2
    refine ⟨xs, ys, SqL.of hx, SqL.of hy, ?_⟩
    have h1 := r.length
    have h2 := r2.length
    rw [zipD_len]
    omega
theorem RepKV.len {κ : Type} {K : PySem.W.Frag} {H : Hp} : ∀ {ds : List (κ × D)} {vs : List (κ × V)}, RepKV K H vs ds → vs.length = ds.length
  | [], _, .nil => rfl
  | _ :: _, _, .cons _ r => by rw [List.length_cons, List.length_cons, r.len]
theorem RepKV.get {κ : Type} {K : PySem.W.Frag} {H : Hp} : ∀ {ds : List (κ × D)} {vs : List (κ × V)} {i : Nat} {k : κ} {d : D}, RepKV K H vs ds → ds[i]? = some (k, d) → ∃ v, vs[i]? = some (k, v) ∧ Rep K H v d
  | _ :: _, _, 0, _, _, .cons h _, e => by
    cases e
    exact ⟨_, rfl, h⟩
  | _ :: _, _, i + 1, _, _, .cons _ r, e => by
    obtain ⟨v, h1, h2⟩ := RepKV.get (i := i) r (by simpa using e)
    exact ⟨v, by simpa using h1, h2⟩
def kD : Key → D
  | .inl i => .int i
  | .inr x => .str x
theorem rep_kD {K : PySem.W.Frag} {H : Hp} : ∀ k : Key, Rep K H (kV k) (kD k)
  | .inl i => .int i
  | .inr x => .str x
theorem reps_kD {K : PySem.W.Frag} {H : Hp} : ∀ k : List Key, Reps K H (k.map kV) (k.map kD)
  | [] => .nil
  | k :: r => .cons (rep_kD k) (reps_kD r)
theorem itok_keys {K : PySem.W.Frag} {Hs : Hp} {a : Addr} {o : Obj} {xs : List (Key × V)} {kvs : List (Key × D)} : ItOk K Hs (Itk a o xs) (kvs.map fun p => kD p.1) (fun G => G a = some (.ldk o xs kvs)) where
  go := fun i H G _ g l hi => by
    obtain ⟨hx, r⟩ := g a _ l
    rw [List.length_map] at hi
    exact ⟨hx, by rw [r.len]; exact hi⟩
  yld := fun i d H G x H' _ g l hi y => by
    obtain ⟨rfl, k, v, hk, rfl⟩ := y
    obtain ⟨hx, r⟩ := g a _ l
    rw [List.getElem?_map] at hi
    cases e : kvs[i]? with
    | none => rw [e] at hi; cases hi
    | some p =>
      obtain ⟨k', d'⟩ := p
      rw [e] at hi
      simp only [Option.map_some, Option.some.injEq] at hi
      subst hi
      obtain ⟨v', hv', _⟩ := r.get e
      rw [hv'] at hk
      cases hk
      exact ⟨Fr.refl _ _, g, rep_kD _⟩
  stop := fun H G _ g l => by
    obtain ⟨hx, r⟩ := g a _ l
    exact ⟨hx, by rw [r.len, List.length_map]; exact Nat.le_refl _⟩
theorem itok_keysT {K : PySem.W.Frag} {Hs : Hp} {a : Addr} {o : Obj} {xs : List (List Key × V)} {kvs : List (List Key × D)} : ItOk K Hs (Itkt a o xs) (kvs.map fun p => .tup (p.1.map kD)) (fun G => G a = some (.ldt o xs kvs)) where
  go := fun i H G _ g l hi => by
    obtain ⟨hx, r⟩ := g a _ l
    rw [List.length_map] at hi
    exact ⟨hx, by rw [r.len]; exact hi⟩
  yld := fun i d H G x H' _ g l hi y => by
    obtain ⟨rfl, k, v, q, hk, rfl, hq⟩ := y
    obtain ⟨hx, r⟩ := g a _ l
    rw [List.getElem?_map] at hi
    cases e : kvs[i]? with
    | none => rw [e] at hi; cases hi
    | some p =>
      obtain ⟨k', d'⟩ := p
      rw [e] at hi
      simp only [Option.map_some, Option.some.injEq] at hi
      subst hi
      obtain ⟨v', hv', _⟩ := r.get e
      rw [hv'] at hk
      cases hk
      exact ⟨Fr.refl _ _, g, .tup hq (reps_kD _)⟩
  stop := fun H G _ g l => by
    obtain ⟨hx, r⟩ := g a _ l
    exact ⟨hx, by rw [r.len, List.length_map]; exact Nat.le_refl _⟩
def strD (x : Str) : List D := x.cps.toList.map fun c => .str ⟨#[c]⟩
theorem strD_len (x : Str) : (strD x).length = x.cps.size := by simp [strD]
theorem itok_str {K : PySem.W.Frag} {Hs : Hp} {x : Str} : ItOk K Hs (Its x) (strD x) (fun _ => True) where
  go := fun i H G _ g l hi => by rw [strD_len] at hi; exact hi
  yld := fun i d H G v H' _ g l hi y => by
    obtain ⟨rfl, c, hc, rfl⟩ := y
    unfold strD at hi
    rw [List.getElem?_map, Array.getElem?_toList, hc] at hi
    cases hi
    exact ⟨Fr.refl _ _, g, .str _⟩
  stop := fun H G _ g l => by rw [strD_len]; exact Nat.le_refl _

section
variable {X : Cx} {tg a b : Expr} {ta tb : DE} {tA : DA} {pos p : Pos}
/-- a list that stands (tracked or written) -/
def zList (te : DE) : DI := fun ρ G Q => te ρ G fun d G1 => match d with
  | .cl ds => Q ds (fun _ => True) G1
  | .ref a => match G1 a with
    | some (.lst ds) => Q ds (fun G => G a = some (.lst ds)) G1
    | _ => False
  | _ => False
theorem zi_list (h : ZE X a ta) : ZI X tg a (zList ta) := PIi (pi_list h) fun σ H R q => by
  obtain ⟨ρ, G, Q0, hs, hg, h, k⟩ := q
  refine ⟨ρ, G, _, hs, hg, h, fun d G1 x H1 h1 f1 g1 r1 => ?_⟩
  cases r1 with
  | cl hq r => exact ⟨_, rfl, ⟨_, hq.sq⟩, k _ _ G1 H1 _ h1 f1 g1 (itok_cl hq r)⟩
  | ref p =>
    simp only at h1
    split at h1
    · rename_i ds e
      obtain ⟨xs, hx, r⟩ := g1 p _ e
      exact ⟨_, rfl, ⟨_, SqL.of hx⟩, k _ _ G1 H1 _ h1 f1 g1 itok_list⟩
    · cases h1
  | _ => cases h1
def zTupI (te : DE) : DI := fun ρ G Q => te ρ G fun d G1 => match d with
  | .tup ds => Q ds (fun _ => True) G1
  | .ct ds => Q ds (fun _ => True) G1
  | _ => False
theorem zi_tup (h : ZE X a ta) : ZI X tg a (zTupI ta) := PIi (pi_tup h) fun σ H R q => by
  obtain ⟨ρ, G, Q0, hs, hg, h, k⟩ := q
  refine ⟨ρ, G, _, hs, hg, h, fun d G1 x H1 h1 f1 g1 r1 => ?_⟩
  cases r1 with
  | tup hq r => exact ⟨_, rfl, ⟨_, hq.sq⟩, k _ _ G1 H1 _ h1 f1 g1 (itok_tup hq r)⟩
  | ct hq r => exact ⟨_, rfl, ⟨_, hq.sq⟩, k _ _ G1 H1 _ h1 f1 g1 (itok_ct hq r)⟩
  | _ => cases h1
def zStrI (te : DE) : DI := fun ρ G Q => te ρ G fun d G1 => match d with
  | .str x => Q (strD x) (fun _ => True) G1
  | _ => False
theorem zi_str (h : ZE X a ta) : ZI X tg a (zStrI ta) := PIi (pi_str h) fun σ H R q => by
  obtain ⟨ρ, G, Q0, hs, hg, h, k⟩ := q
  refine ⟨ρ, G, _, hs, hg, h, fun d G1 x H1 h1 f1 g1 r1 => ?_⟩
  cases r1 with
  | str y => exact ⟨_, rfl, k _ _ G1 H1 _ h1 f1 g1 itok_str⟩
  | _ => cases h1
def zKeysI (te : DE) : DI := fun ρ G Q => te ρ G fun d G1 => match d with
  | .ref a => match G1 a with
    | some (.ldk o xs kvs) => Q (kvs.map fun p => kD p.1) (fun G => G a = some (.ldk o xs kvs)) G1
    | some (.ldt o xs kvs) => Q (kvs.map fun p => .tup (p.1.map kD)) (fun G => G a = some (.ldt o xs kvs)) G1
    | _ => False
  | _ => False
theorem zi_keys (h : ZE X a ta) : ZI X tg a (zKeysI ta) := PIi (pi_keys h) fun σ H R q => by
  obtain ⟨ρ, G, Q0, hs, hg, h, k⟩ := q
  refine ⟨ρ, G, _, hs, hg, h, fun d G1 x H1 h1 f1 g1 r1 => ?_⟩
  cases r1 with
  | ref p =>
    simp only at h1
    split at h1
    · rename_i o xs kvs e
      exact ⟨_, o, rfl, .inl ⟨xs, (g1 p _ e).1, k _ _ G1 H1 _ h1 f1 g1 itok_keys⟩⟩
    · rename_i o xs kvs e
      exact ⟨_, o, rfl, .inr ⟨xs, (g1 p _ e).1, k _ _ G1 H1 _ h1 f1 g1 itok_keysT⟩⟩
    · cases h1
  | _ => cases h1
def zRng1 (tA : DA) : DI := fun ρ G Q => tA ρ G fun ds G1 => match ds with
  | [.int n] => -(2 ^ 62) ≤ n ∧ n < 2 ^ 62 ∧ Q (rngD 0 n.toNat) (fun _ => True) G1
  | _ => False
theorem zi_rng1 (hg : Gl X "range") (hm : X.mg "range" = none) (ha : ZA X [a] tA) (hs : starEach [a] X.env = [(false, eval a X.env)] := by rfl) : ZI X tg (.Call (.Name "range" p) [a] [] pos) (zRng1 tA) := PIi (pi_range1 hg hm ha hs) fun σ H R q => by
  obtain ⟨ρ, G, Q0, hs, hg, h, k⟩ := q
  refine ⟨ρ, G, _, hs, hg, h, fun ds G1 xs H1 h1 f1 g1 r1 => ?_⟩
  cases r1 with
  | nil => cases h1
  | cons r r2 =>
    cases r2 with
    | nil =>
      cases r with
      | int n => exact ⟨n, rfl, h1.1, h1.2.1, k _ _ G1 H1 _ h1.2.2 f1 g1 itok_rng⟩
      | _ => cases h1
    | cons r3 r4 => cases r <;> cases h1
def zRng2 (tA : DA) : DI := fun ρ G Q => tA ρ G fun ds G1 => match ds with
  | [.int i, .int j] => (-(2 ^ 62) ≤ i ∧ i < 2 ^ 62 ∧ -(2 ^ 62) ≤ j ∧ j < 2 ^ 62) ∧ Q (rngD i (j - i).toNat) (fun _ => True) G1
  | _ => False
theorem zi_rng2 (hg : Gl X "range") (hm : X.mg "range" = none) (ha : ZA X [a, b] tA) (hs : starEach [a, b] X.env = [(false, eval a X.env), (false, eval b X.env)] := by rfl) (hs2 : starEach [b] X.env = [(false, eval b X.env)] := by rfl) :
    ZI X tg (.Call (.Name "range" p) [a, b] [] pos) (zRng2 tA) := PIi (pi_range2 hg hm ha hs hs2) fun σ H R q => by
  obtain ⟨ρ, G, Q0, hs, hg, h, k⟩ := q
  refine ⟨ρ, G, _, hs, hg, h, fun ds G1 xs H1 h1 f1 g1 r1 => ?_⟩
  match ds, xs, r1, h1 with
  | [.int i, .int j], _, .cons (.int _) (.cons (.int _) .nil), h1 => exact ⟨i, j, rfl, h1.1, k _ _ G1 H1 _ h1.2 f1 g1 itok_rng⟩
def zEnum (tA : DA) : DI := fun ρ G Q => tA ρ G fun ds G1 => match ds with
  | [.ref a] => match G1 a with
    | some (.lst ds) => Q (enD ds) (fun G => G a = some (.lst ds)) G1
    | _ => False
  | _ => False
theorem zi_enum {elts : List Expr} {kk : Nat} {tpos : Pos} (hg : Gl X "enumerate") (hm : X.mg "enumerate" = none) (ha : ZA X [a] tA) (hs : starEach [a] X.env = [(false, eval a X.env)] := by rfl) :
    ZI X (.Tuple elts kk tpos) (.Call (.Name "enumerate" p) [a] [] pos) (zEnum tA) := PIi (pi_enum hg hm ha hs) fun σ H R q => by
  obtain ⟨ρ, G, Q0, hs, hg, h, k⟩ := q
  refine ⟨ρ, G, _, hs, hg, h, fun ds G1 xs H1 h1 f1 g1 r1 => ?_⟩
  match ds, xs, r1, h1 with
  | [.ref q], _, .cons (.ref _) .nil, h1 =>
    simp only at h1
    split at h1
    · rename_i ds e
      obtain ⟨xs, hx, r⟩ := g1 q _ e
      exact ⟨q, xs, rfl, SqL.of hx, k _ _ G1 H1 _ h1 f1 g1 itok_enum⟩
    · cases h1
def zZip (tA : DA) : DI := fun ρ G Q => tA ρ G fun ds G1 => match ds with
  | [.ref a, .ref b] => match G1 a, G1 b with
    | some (.lst ds), some (.lst es) => Q (zipD ds es) (fun G => G a = some (.lst ds) ∧ G b = some (.lst es)) G1
    | _, _ => False
  | _ => False
theorem zi_zip {elts : List Expr} {kk : Nat} {tpos : Pos} (hg : Gl X "zip") (hm : X.mg "zip" = none) (ha : ZA X [a, b] tA) (hs : starEach [a, b] X.env = (false, eval a X.env) :: starEach [b] X.env := by rfl) (hpl : (backTo pos (starEach [b] X.env)).any (·.1) = false := by rfl) :
    ZI X (.Tuple elts kk tpos) (.Call (.Name "zip" p) [a, b] [] pos) (zZip tA) := PIi (pi_zip hg hm ha hs hpl) fun σ H R q => by
  obtain ⟨ρ, G, Q0, hs, hg, h, k⟩ := q
  refine ⟨ρ, G, _, hs, hg, h, fun ds G1 xs H1 h1 f1 g1 r1 => ?_⟩
  match ds, xs, r1, h1 with
  | [.ref q, .ref q2], _, .cons (.ref _) (.cons (.ref _) .nil), h1 =>
    simp only at h1
    split at h1
    · rename_i ds es e e2
      obtain ⟨xs, hx, r⟩ := g1 q _ e
      obtain ⟨ys, hy, r2⟩ := g1 q2 _ e2
      exact ⟨q, q2, xs, ys, rfl, SqL.of hx, SqL.of hy, k _ _ G1 H1 _ h1 f1 g1 itok_zip⟩
    · cases h1

/-! ### for -/
def zFor (zi : DI) (g : DG) (tb : DS) : DS := fun Z ρ G => zi ρ G fun items live G1 => ∃ P : Nat → ZSt → Gp → Prop, P 0 ρ G1 ∧
  (∀ i d ρ' G', items[i]? = some d → P i ρ' G' → live G' ∧ g d ρ' G' fun ρ2 G2 => tb { nx := P (i + 1), ct := P (i + 1), bk := Z.nx, rt := Z.rt } ρ2 G2) ∧
  ∀ ρ' G', P items.length ρ' G' → live G' ∧ Z.nx ρ' G'
theorem z_for {iter : Expr} {body : List Stmt} {wi : DI} {g : DG} {tb : DS} (hp : PassesOwn (model X.prog X.w) X.A X.env X.xe) (hc : X.calm = true) (hi : ZI X tg iter wi) (hg : ZG X tg g) (hb : ZSs X body tb)
    (hs : ∀ x, foldedSetIterable iter X.env x = pure x := by intro _; rfl) : ZS X (.For tg iter body [] pos) (zFor wi g tb) := PSi (ps_for hp hc hi hg hb hs) fun D σ H q => by
  obtain ⟨ρ, G, Z, hs, hg, h, k1, k2, k3, k4⟩ := q
  refine ⟨ρ, G, _, hs, hg, h, fun items live G1 H1 J h1 f1 g1 it => ?_⟩
  obtain ⟨P, p0, step, done⟩ := h1
  refine ⟨fun i m σ' H' => m = items.length - i ∧ i ≤ items.length ∧ ∃ ρ' G', SimS X.K H' σ' ρ' ∧ SimG X.K H' G' ∧ Fr H1 G1 H' G' ∧ P i ρ' G', ⟨_, rfl, Nat.zero_le _, ρ, G1, hs.mono (hg.tm f1), g1, Fr.refl _ _, p0⟩, ?_⟩
  rintro i m σ' H' ⟨rfl, hi, ρ', G', s', g', f', p'⟩
  have tm := g1.tm f'
  by_cases hlt : i < items.length
  · have hd := List.getElem?_eq_getElem hlt
    obtain ⟨lv, st⟩ := step i _ ρ' G' hd p'
    refine .inr ⟨it.go i H' G' tm g' lv hlt, fun σ2 H2 => ∃ ρ2 G2, SimS X.K H2 σ2 ρ2 ∧ SimG X.K H2 G2 ∧ Fr H1 G1 H2 G2 ∧ P (i + 1) ρ2 G2, fun σ2 H2 ⟨ρ2, G2, s2, g2, f2, p2⟩ => ⟨_, by omega, rfl, hlt, ρ2, G2, s2, g2, f2, p2⟩, fun x H2 y => ?_⟩
    obtain ⟨fy, gy, ry⟩ := it.yld i _ H' G' x H2 tm g' lv hd y
    refine ⟨_, ρ', G', _, ry, s'.mono (g'.tm fy), gy, st, fun ρ3 G3 σ3 H3 h3 f3 g3 s3 => ?_⟩
    have ff : Fr H1 G1 H3 G3 := (f'.trans fy).trans f3
    have nn : SK X.K H3 G3 (P (i + 1)) (fun σ2 H2 => ∃ ρ2 G2, SimS X.K H2 σ2 ρ2 ∧ SimG X.K H2 G2 ∧ Fr H1 G1 H2 G2 ∧ P (i + 1) ρ2 G2) := fun ρ4 G4 σ4 H4 p4 f4 g4 s4 => ⟨ρ4, G4, s4, g4, ff.trans f4, p4⟩
    exact ⟨ρ3, G3, _, s3, g3, h3, nn, CK.go k2 (f1.trans ff), SK.go k1 (f1.trans ff), nn⟩
  · have e : i = items.length := by omega
    subst e
    obtain ⟨lv, nx⟩ := done ρ' G' p'
    exact .inl ⟨it.stop H' G' tm g' lv, k1 ρ' G' σ' H' nx (f1.trans f') g' s'⟩

/-! ### comprehensions -/
def zwipe (ρ : ZSt) : List Nat → ZSt
  | [] => ρ
  | v :: vs => (zwipe ρ vs).set v none
theorem SimS.wipe {K : PySem.W.Frag} {H : Hp} {σ : L2.St} {ρ : ZSt} (s : SimS K H σ ρ) : ∀ vs : List Nat, SimS K H (wipe σ vs) (zwipe ρ vs)
  | [] => s
  | v :: vs => (SimS.wipe s vs).unset
/-- a target that stores into the block's own slots alone -/
def GRel (K : PySem.W.Frag) (vs : List Nat) (gv : TG) (g : DG) : Prop := ∀ d v ρ σ H G Q0 Q, Rep K H v d → SimS K H σ ρ → SimG K H G → g d ρ G Q0 →
  (∀ ρ' G' σ' H', Q0 ρ' G' → Fr H G H' G' → SimG K H' G' → SimS K H' σ' ρ' → wipe σ' vs = wipe σ vs → Q σ' H') → gv v σ H Q
def GsRel (K : PySem.W.Frag) (vs : List Nat) (gv : TGs) (g : DGs) : Prop := ∀ d v ρ σ H G Q0 Q, Reps K H v d → SimS K H σ ρ → SimG K H G → g d ρ G Q0 →
  (∀ ρ' G' σ' H', Q0 ρ' G' → Fr H G H' G' → SimG K H' G' → SimS K H' σ' ρ' → wipe σ' vs = wipe σ vs → Q σ' H') → gv v σ H Q
theorem wipe_set {σ : L2.St} {i : Nat} {x : Option V} : ∀ {vs : List Nat}, i ∈ vs → wipe (σ.set i x) vs = wipe σ vs
  | v :: vs, h => by
    by_cases hv : i ∈ vs
    · unfold wipe
      rw [wipe_set hv]
    · have e : i = v := by
        rcases List.mem_cons.mp h with e | e
        · exact e
        · exact absurd e hv
      subst e
      have out : ∀ {us : List Nat}, i ∉ us → wipe (σ.set i x) us = (wipe σ us).set i x := by
        intro us
        induction us with
        | nil => intro _; rfl
        | cons u us ih =>
          intro hu
          unfold wipe
          rw [ih (fun z => hu (List.mem_cons_of_mem _ z)), List.set_comm _ _ (fun z => hu (by rw [z]; exact List.mem_cons_self))]
      show (wipe (σ.set i x) vs).set i none = (wipe σ vs).set i none
      rw [out hv, List.set_set]
theorem grel_name {K : PySem.W.Frag} {vs : List Nat} {i : Nat} (h : i ∈ vs) : GRel K vs (gName i) (zName i) := fun d v ρ σ H G Q0 Q r s g q k => k _ G _ H q (Fr.refl H G) g (s.set r) (wipe_set h)
theorem gsrel_nil {K : PySem.W.Frag} {vs : List Nat} : GsRel K vs gNil zgNil := fun d v ρ σ H G Q0 Q r s g q k => by
  obtain ⟨rfl, q⟩ := q
  cases r
  exact ⟨rfl, k _ G _ H q (Fr.refl H G) g s rfl⟩
theorem gsrel_cons {K : PySem.W.Frag} {vs : List Nat} {gv : TG} {g : DG} {uv : TGs} {u : DGs} (h1 : GRel K vs gv g) (h2 : GsRel K vs uv u) : GsRel K vs (gCons gv uv) (zgCons g u) := fun d v ρ σ H G Q0 Q r s g q k => by
  cases r with
  | nil => exact q.elim
  | cons ra rb => exact ⟨_, _, rfl, h1 _ _ ρ σ H G _ _ ra s g q fun ρ' G' σ' H' q' f' g' s' w' => h2 _ _ ρ' σ' H' G' Q0 Q (rb.mono (g.tm f')) s' g' q' fun ρ2 G2 σ2 H2 q2 f2 g2 s2 w2 => k ρ2 G2 σ2 H2 q2 (f'.trans f2) g2 s2 (w2.trans w')⟩
theorem grel_tup {K : PySem.W.Frag} {vs : List Nat} {n : Nat} {uv : TGs} {u : DGs} (h : GsRel K vs uv u) : GRel K vs (gTup K n uv) (zgTup n u) := fun d v ρ σ H G Q0 Q r s g q k => by
  cases r with
  | tup hq r => exact ⟨_, _, rfl, hq.sq, by rw [r.length]; exact q.1, h _ _ ρ σ H G Q0 Q r s g q.2 k⟩
  | _ => exact False.elim q
def zYes : DT := fun _ G Q => Q true G
def ZTs (X : Cx) (ifs : List Expr) (t : DT) : Prop := PTs X ifs (upT X.K t)
theorem PTsi {ifs : List Expr} {t t' : TT} (h : PTs X ifs t) (i : ∀ σ H Q, t' σ H Q → t σ H Q) : PTs X ifs t' := ⟨fun pins s σ H Q I q => h.run pins s σ H Q I (i σ H Q q)⟩
theorem zts_nil : ZTs X [] zYes := PTsi pts_nil fun σ H Q q => by
  obtain ⟨ρ, G, Q0, hs, hg, h, k⟩ := q
  exact k true G H h (Fr.refl H G) hg
theorem zts_one {c : Expr} {t : DT} (h : ZT X c t) : ZTs X [c] t := pts_one h
theorem sim_own {K : PySem.W.Frag} {H : Hp} {G : Gp} {D : Addr} {xs ys : List V} (s : SimG K H G) (h : H D = some (.lst xs)) (n : G D = Option.none) (bb : β.B (upd H D (.lst ys)) G) : SimG K (upd H D (.lst ys)) G := by
  have t : Tm H (L2.upd H D (.lst ys)) := tm_set h fun z => z
  refine ⟨⟨fun b m e => ?_, fun p hp => TabS.tm (s.tabs p hp) t (upd_ne ?_), s.apart⟩, bb⟩
  · have hb : b ≠ D := by
      rintro rfl
      rw [n] at e; cases e
    exact (s b m e).mono t (upd_ne hb)
  · intro z
    obtain ⟨ps, h1, _⟩ := s.tabs p hp
    rw [z, h] at h1; cases h1
theorem sim_join {K : PySem.W.Frag} {H : Hp} {G : Gp} {D : Addr} {xs : List V} {m : MO} (s : SimG K H G) (h : H D = some (.lst xs)) (r : RepO K H D m) (bb : β.B H (put G D m)) : SimG K H (put G D m) := by
  refine ⟨⟨fun b n e => ?_, s.tabs, fun p hp => ?_⟩, bb⟩
  · by_cases hb : b = D
    · subst hb
      rw [put_same] at e
      cases e
      exact r
    · rw [put_ne hb] at e
      exact s b n e
  · have hb : p.1 ≠ D := by
      intro z
      obtain ⟨ps, h1, _⟩ := s.tabs p hp
      rw [z, h] at h1; cases h1
    rw [put_ne hb]
    exact s.apart p hp
def zLc (zi : DI) (g : DG) (tt : DT) (te : DE) (vs : List Nat) : DE := fun ρ G Q => zi ρ G fun items live G1 => ∃ P : Nat → List D → Gp → Prop, P 0 [] G1 ∧
  (∀ i d acc G', items[i]? = some d → P i acc G' → live G' ∧ acc.length < sizeLine ∧ g d (zwipe ρ vs) G' fun ρ2 G2 => tt ρ2 G2 fun b G3 => if b = true then te ρ2 G3 fun e G4 => P (i + 1) (acc ++ [e]) G4 else P (i + 1) acc G3) ∧
  ∀ acc G', P items.length acc G' → live G' ∧ ∀ p G2, G' p = none → At G' p (.lst acc) G2 → Q (.ref p) G2
theorem up_lc {K : PySem.W.Frag} {zi : DI} {gv : TG} {g : DG} {tt : DT} {te : DE} {vs : List Nat} (gr : GRel K vs gv g) {σ : L2.St} {H : Hp} {Q : VK} (q : upE K (zLc zi g tt te vs) σ H Q) : tLc (upI K zi) gv (upT K tt) (upE K te) vs σ H Q := by
  obtain ⟨ρ, G, Q0, hs, hg, h, k⟩ := q
  refine ⟨ρ, G, _, hs, hg, h, fun items live G1 H1 J h1 f1 g1 it D hD => ?_⟩
  obtain ⟨P, p0, step, done⟩ := h1
  have gD := g1.none hD
  -- the new list at D stands beside what the walk knows
  refine ⟨fun i m H' => m = items.length - i ∧ i ≤ items.length ∧ ∃ acc xs G', H' D = some (.lst xs) ∧ G' D = none ∧ Reps K H' xs acc ∧ SimG K H' G' ∧ Fr H1 G1 H' G' ∧ P i acc G',
    ⟨_, rfl, Nat.zero_le _, [], [], G1, upd_same, gD, .nil, g1.keep hD, Fr.tup hD, p0⟩, ?_⟩
  rintro i m H' ⟨rfl, hi, acc, xs, G', hL, nG, rL, g', f', p'⟩
  have tm := g1.tm f'
  by_cases hlt : i < items.length
  · have hd := List.getElem?_eq_getElem hlt
    obtain ⟨lv, sz, st⟩ := step i _ acc G' hd p'
    refine .inr ⟨it.go i H' G' tm g' lv hlt, fun H2 => ∃ acc xs G2, H2 D = some (.lst xs) ∧ G2 D = none ∧ Reps K H2 xs acc ∧ SimG K H2 G2 ∧ Fr H1 G1 H2 G2 ∧ P (i + 1) acc G2, fun H2 ⟨acc, xs, G2, a1, a2, a3, a4, a5, a6⟩ => ⟨_, by omega, rfl, hlt, acc, xs, G2, a1, a2, a3, a4, a5, a6⟩, fun x H2 y => ?_⟩
    obtain ⟨fy, gy, ry⟩ := it.yld i _ H' G' x H2 tm g' lv hd y
    have s2 : SimS K H2 σ ρ := (hs.mono (hg.tm f1)).mono (g1.tm (f'.trans fy))
    refine gr _ _ _ _ H2 G' _ _ ry (s2.wipe vs) gy st fun ρ3 G3 σ3 H3 h3 f3 g3 s3 w3 => ⟨?_, ?_⟩
    · have w : wipe (wipe σ vs) vs = wipe σ vs := by
        have : ∀ {σ : L2.St} (us : List Nat), (∀ u ∈ us, u ∈ vs) → wipe (wipe σ us) vs = wipe σ vs := by
          intro σ us
          induction us with
          | nil => intro _; rfl
          | cons u us ih =>
            intro hu
            show wipe ((wipe σ us).set u none) vs = wipe σ vs
            rw [wipe_set (hu u List.mem_cons_self)]
            exact ih fun z hz => hu z (List.mem_cons_of_mem _ hz)
        exact this vs fun _ z => z
      rw [w3, w]
    refine ⟨ρ3, G3, _, s3, g3, h3, fun b G4 H4 h4 f4 g4 => ?_⟩
    have f14 : Fr H' G' H4 G4 := (fy.trans f3).trans f4
    obtain ⟨hL4, nG4⟩ := f14 D _ hL nG (fun _ z => nomatch z)
    cases b with
    | false =>
      rw [if_neg Bool.false_ne_true] at h4
      dsimp only
      rw [if_neg Bool.false_ne_true]
      exact ⟨acc, xs, G4, hL4, nG4, rL.mono (g'.tm f14), g4, f'.trans f14, h4⟩
    | true =>
      rw [if_pos rfl] at h4
      dsimp only
      rw [if_pos rfl]
      refine ⟨ρ3, G4, _, s3.mono (g3.tm f4), g4, h4, fun e G5 v H5 h5 f5 g5 r5 => ?_⟩
      have f15 := f14.trans f5
      obtain ⟨hL5, nG5⟩ := f15 D _ hL nG (fun _ z => nomatch z)
      have t5 : Tm H5 (upd H5 D (.lst (xs ++ [v]))) := tm_set hL5 fun z => z
      have ff : Fr H1 G1 (upd H5 D (.lst (xs ++ [v]))) G5 := fun b o e' n nt => by
        have hb : b ≠ D := by
          rintro rfl
          rw [hD] at e'; cases e'
        rw [upd_ne hb]
        exact (f'.trans f15) b o e' n nt
      exact ⟨xs, hL5, by rw [rL.length]; exact sz, acc ++ [e], xs ++ [v], G5, upd_same, nG5, ((rL.mono (g'.tm f15)).append (.cons r5 .nil)).mono t5, sim_own g5 hL5 nG5 (β.keep g1.base ff), ff, h5⟩
  · have e : i = items.length := by omega
    subst e
    obtain ⟨lv, fin⟩ := done acc G' p'
    have ff : Fr H1 G1 H' (put G' D (.lst acc)) := fun b o eb n nt => by
      obtain ⟨x1, x2⟩ := f' b o eb n nt
      have hb : b ≠ D := by
        rintro rfl
        rw [hD] at eb; cases eb
      rw [put_ne hb]
      exact ⟨x1, x2⟩
    exact .inl ⟨it.stop H' G' tm g' lv, k _ (put G' D (.lst acc)) _ H' (fin D _ nG (At.put G' D (.lst acc))) (f1.trans ff) (sim_join g' hL (show RepO K H' D (.lst acc) from ⟨xs, hL, rL⟩) (β.keep g1.base ff)) (.ref D)⟩
theorem z_lc {elt tg iter : Expr} {ifs : List Expr} {scope : Scope} {own : List (Str × Nat)} {pos : Pos} {wi : DI} {gv : TG} {g : DG} {tt : DT} {te : DE} (hc : X.calm = true) (hN : X.N.Nodup) (hi : ZI X tg iter wi) (ok : BlkOk X.N X.env.scope scope own) (gr : GRel X.K (own.map (·.2)) gv g)
    (hg : ∀ (s : Shared) (H : Hp) (C : Addr) (cl : List (Str × Addr)) (fp : List Addr), PG (X.blk s H scope (compEnvC scope cl C X.env) fp) tg gv) (ht : ∀ (s : Shared) (H : Hp) (C : Addr) (cl : List (Str × Addr)) (fp : List Addr), ZTs (X.blk s H scope (compEnvC scope cl C X.env) fp) ifs tt)
    (he : ∀ (s : Shared) (H : Hp) (C : Addr) (cl : List (Str × Addr)) (fp : List Addr), ZE (X.blk s H scope (compEnvC scope cl C X.env) fp) elt te) (hs : ∀ x, foldedSetIterable iter X.env x = pure x := by intro _; rfl) :
    ZE X (.ListComp elt [⟨tg, iter, ifs, 0⟩] scope pos) (zLc wi g tt te (own.map (·.2))) := PEi (pe_lc (wi := upI X.K wi) (tt := upT X.K tt) (te := upE X.K te) hc hN hi ok hg ht he hs) fun σ H Q q => up_lc gr q
theorem z_setLc {i : Nat} {y : Str} {py : Pos} {elt tg iter : Expr} {ifs : List Expr} {scope : Scope} {own : List (Str × Nat)} {pos spos : Pos} {wi : DI} {gv : TG} {g : DG} {tt : DT} {te : DE} (hc : X.calm = true) (hN : X.N.Nodup) (hy : X.N[i]? = some y) (hyl : X.env.scope.names.lookup y = some .local)
    (hsw : swapsWith (.ListComp elt [⟨tg, iter, ifs, 0⟩] scope pos) (some (.Name y py)) spos.line X.env = pure true) (hi : ZI X tg iter wi) (ok : BlkOk X.N X.env.scope scope own) (gr : GRel X.K (own.map (·.2)) gv g)
    (hg : ∀ (s : Shared) (H : Hp) (C : Addr) (cl : List (Str × Addr)) (fp : List Addr), PG (X.blk s H scope (compEnvC scope cl C X.env) fp) tg gv) (ht : ∀ (s : Shared) (H : Hp) (C : Addr) (cl : List (Str × Addr)) (fp : List Addr), ZTs (X.blk s H scope (compEnvC scope cl C X.env) fp) ifs tt)
    (he : ∀ (s : Shared) (H : Hp) (C : Addr) (cl : List (Str × Addr)) (fp : List Addr), ZE (X.blk s H scope (compEnvC scope cl C X.env) fp) elt te) (hs : ∀ x, foldedSetIterable iter X.env x = pure x := by intro _; rfl) :
    ZS X (.Assign [.Name y py] (.ListComp elt [⟨tg, iter, ifs, 0⟩] scope pos) spos) (zAsg (zLc wi g tt te (own.map (·.2))) (zName i)) := PSi (ps_setLc (wi := upI X.K wi) (tt := upT X.K tt) (te := upE X.K te) hc hN hy hyl hsw hi ok hg ht he hs) fun D σ H q => by
  obtain ⟨ρ, G, Z, hs, hg, h, k, _⟩ := q
  exact up_lc gr ⟨ρ, G, _, hs, hg, h, fun d G1 x H1 h1 f1 g1 r1 => k _ G1 _ H1 h1 f1 g1 ((hs.mono (hg.tm f1)).set r1)⟩
end
end Z

namespace Z
open PySem PySem.Spec PyProof.Rows L2
variable [τ : Tbl] [β : Bas]

/-! ### ints -/
def dI0 (g : Int → Int → D) : Z2 := fun d e G Q => match d, e with
  | .int i, .int j => Q (g i j) G
  | _, _ => False
def dI (C : Int → Int → Prop) (g : Int → Int → D) : Z2 := fun d e G Q => match d, e with
  | .int i, .int j => C i j ∧ Q (g i j) G
  | _, _ => False
section
variable {X : Cx} {f : Value → Value → Sem Value}
theorem op_i0 {g : Int → Int → V} {g' : Int → Int → D} (h : OpR X f (rI0 g)) (hg : ∀ H i j, Rep X.K H (g i j) (g' i j)) : ZOp X f (dI0 g') := OpRi h fun x y H Q q => by
  obtain ⟨d, e, G, Q0, sg, rx, ry, h, k⟩ := q
  unfold dI0 at h
  split at h
  · rename_i i j
    cases rx
    cases ry
    exact ⟨i, j, rfl, rfl, CK.at k h sg (hg H i j)⟩
  · cases h
theorem op_iC {C : Int → Int → Prop} {g : Int → Int → V} {g' : Int → Int → D} (h : OpR X f (rI C g)) (hg : ∀ H i j, Rep X.K H (g i j) (g' i j)) : ZOp X f (dI C g') := OpRi h fun x y H Q q => by
  obtain ⟨d, e, G, Q0, sg, rx, ry, h, k⟩ := q
  unfold dI at h
  split at h
  · rename_i i j
    cases rx
    cases ry
    exact ⟨i, j, rfl, rfl, h.1, CK.at k h.2 sg (hg H i j)⟩
  · cases h
theorem zo_add : ZOp X (binaryOp .Add) (dI0 fun i j => .int (i + j)) := op_i0 op_add fun _ _ _ => .int _
theorem zo_sub : ZOp X (binaryOp .Sub) (dI0 fun i j => .int (i - j)) := op_i0 op_sub fun _ _ _ => .int _
theorem zo_mul : ZOp X (binaryOp .Mult) (dI CMul fun i j => .int (i * j)) := op_iC op_mul fun _ _ _ => .int _
theorem zo_div : ZOp X (binaryOp .FloorDiv) (dI CDivN fun i j => .int (i.fdiv j)) := op_iC op_fdivN fun _ _ _ => .int _
theorem zo_mod : ZOp X (binaryOp .Mod) (dI (fun _ j => j ≠ 0) fun i j => .int (i.fmod j)) := op_iC op_modN fun _ _ _ => .int _
theorem zo_pow : ZOp X (binaryOp .Pow) (dI CPow fun i j => .int (i ^ j.toNat)) := op_iC op_pow fun _ _ _ => .int _
theorem zo_lt : ZOp X (compareOp .Lt) (dI0 fun i j => .bl (decide (i < j))) := op_i0 op_lt fun _ _ _ => .bl _
theorem zo_le : ZOp X (compareOp .LtE) (dI0 fun i j => .bl (decide (i ≤ j))) := op_i0 op_le fun _ _ _ => .bl _
theorem zo_gt : ZOp X (compareOp .Gt) (dI0 fun i j => .bl (decide (j < i))) := op_i0 op_gt fun _ _ _ => .bl _
theorem zo_ge : ZOp X (compareOp .GtE) (dI0 fun i j => .bl (decide (j ≤ i))) := op_i0 op_ge fun _ _ _ => .bl _
end
/-- -a -/
def zNeg (ta : DE) : DE := fun ρ G Q => ta ρ G fun d G1 => match d with
  | .int i => Q (.int (-i)) G1
  | _ => False
theorem z_neg {X : Cx} {a : Expr} {ta : DE} {pos : Pos} (ha : ZE X a ta) : ZE X (.UnaryOp .USub a pos) (zNeg ta) := PEi (pe_un un_neg ha) fun σ H Q q => by
  obtain ⟨ρ, G, Q0, hs, hg, h, k⟩ := q
  refine ⟨ρ, G, _, hs, hg, h, fun d G1 x H1 h1 f1 g1 r1 => ?_⟩
  cases r1 with
  | int i => exact ⟨i, rfl, k _ G1 _ H1 h1 f1 g1 (.int _)⟩
  | _ => cases h1
/-- a < b < c -/
def zChain (z z' : Z2) (ta tb tc : DE) : DE := fun ρ G Q => ta ρ G fun x G1 => tb ρ G1 fun y G2 => z x y G2 fun c G3 => match c with
  | .bl k => if k = true then tc ρ G3 fun w G4 => z' y w G4 Q else Q (.bl false) G3
  | _ => False
theorem z_tchain {X : Cx} {a b c : Expr} {ta tb tc : DE} {pos : Pos} {op op' : CmpOp} {z z' : Z2} (ho : ZOp X (compareOp op) z) (ho' : ZOp X (compareOp op') z') (ha : ZE X a ta) (hb : ZE X b tb) (hc : ZE X c tc)
    (hm : lastMarks [op, op'] [b, c] = false := by with_unfolding_all rfl) : ZT X (.Compare a [op, op'] [b, c] pos) (zTest (zChain z z' ta tb tc)) := PTi (pt_chain ho ho' ha hb hc hm) fun σ H Q q => by
  obtain ⟨ρ, G, Q0, hs, hg, h, k⟩ := q
  refine ⟨ρ, G, _, hs, hg, h, fun d G1 x H1 h1 f1 g1 r1 => ⟨ρ, G1, _, hs.mono (hg.tm f1), g1, h1, fun e G2 y H2 h2 f2 g2 r2 => ?_⟩⟩
  refine ⟨d, e, G2, _, g2, r1.mono (g1.tm f2), r2, h2, fun c G3 v H3 h3 f3 g3 r3 => ?_⟩
  cases r3 with
  | bl b =>
    refine ⟨b, rfl, ?_⟩
    have f13 := f1.trans (f2.trans f3)
    cases b with
    | true =>
      rw [if_pos rfl]
      exact ⟨ρ, G3, _, hs.mono (hg.tm f13), g3, h3, fun w G4 u H4 h4 f4 g4 r4 => ⟨e, w, G4, _, g4, r2.mono ((g2.tm f3).trans (g3.tm f4)), r4, h4, fun d5 G5 v5 H5 h5 f5 g5 r5 => by
        cases r5 with
        | bl b5 => exact ⟨b5, rfl, k b5 G5 H5 h5 (f13.trans (f4.trans f5)) g5⟩
        | _ => cases h5⟩⟩
    | false =>
      rw [if_neg Bool.false_ne_true]
      exact ⟨false, rfl, k false G3 H3 h3 f13 g3⟩
  | _ => cases h3

/-! ### data as the semantics reads it -/
mutual
def pd : D → Option PyData
  | .non => some .none
  | .bl b => some (.bool b)
  | .int i => some (.int i)
  | .str x => some (.str x)
  | .tup ds => (pds ds).map .tuple
  | .ct ds => (pds ds).map .tuple
  | .cl ds => (pds ds).map .list
  | .ty _ => none
  | .ref _ => none
def pds : List D → Option (List PyData)
  | [] => some []
  | d :: ds => match pd d, pds ds with
    | some p, some ps => some (p :: ps)
    | _, _ => none
end
mutual
theorem Rep.dp {K : PySem.W.Frag} {H : Hp} : ∀ {d : D} {v : V} {p : PyData}, Rep K H v d → pd d = some p → Dp K H v p
  | .non, _, _, .non, e => by cases e; exact .non
  | .bl b, _, _, .bl _, e => by cases e; exact .bl _
  | .int b, _, _, .int _, e => by cases e; exact .int _
  | .str b, _, _, .str _, e => by cases e; exact .str _
  | .tup ds, _, p, .tup h r, e => by
    unfold pd at e
    cases q : pds ds with
    | none => rw [q] at e; cases e
    | some ps =>
      rw [q] at e
      cases e
      exact .tup h.sq (Reps.dp r q)
  | .ct ds, _, p, .ct h r, e => by
    unfold pd at e
    cases q : pds ds with
    | none => rw [q] at e; cases e
    | some ps =>
      rw [q] at e
      cases e
      exact .tup h.sq (Reps.dp r q)
  | .cl ds, _, p, .cl h r, e => by
    unfold pd at e
    cases q : pds ds with
    | none => rw [q] at e; cases e
    | some ps =>
      rw [q] at e
      cases e
      exact .lst h.sq (Reps.dp r q)
  | .ty _, _, _, _, e => by cases e
  | .ref _, _, _, _, e => by cases e
theorem Reps.dp {K : PySem.W.Frag} {H : Hp} : ∀ {ds : List D} {vs : List V} {ps : List PyData}, Reps K H vs ds → pds ds = some ps → DpAll K H vs ps
  | [], _, _, .nil, e => by cases e; exact .nil
  | d :: ds, _, ps, .cons h r, e => by
    unfold pds at e
    split at e
    · rename_i p qs e1 e2
      cases e
      exact .cons (Rep.dp h e1) (Reps.dp r e2)
    · cases e
end
/-- one list of what changes at the top -/
def pdT (G : Gp) (d : D) : Option PyData := match d with
  | .ref a => match G a with
    | some (.lst ds) => (pds ds).map .list
    | _ => none
  | d => pd d
theorem pdT_dp {K : PySem.W.Frag} {H : Hp} {G : Gp} {d : D} {v : V} {p : PyData} (g : SimG K H G) (r : Rep K H v d) (e : pdT G d = some p) : Dp K H v p := by
  unfold pdT at e
  split at e
  · rename_i a
    split at e
    · rename_i ds ha
      cases q : pds ds with
      | none => rw [q] at e; cases e
      | some ps =>
        rw [q] at e
        cases e
        obtain ⟨xs, hx, r'⟩ := g a _ ha
        cases r
        exact .lst (SqL.of hx) (r'.dp q)
    · cases e
  · exact r.dp e
def dEq : Z2 := fun d e G Q => match pdT G d, pdT G e with
  | some p, some q => SeqAt.shaped p = true ∧ SeqAt.shaped q = true ∧ Q (.bl (PyData.eqv p q)) G
  | _, _ => False
def dNe : Z2 := fun d e G Q => match pdT G d, pdT G e with
  | some p, some q => SeqAt.shaped p = true ∧ SeqAt.shaped q = true ∧ Q (.bl (!PyData.eqv p q)) G
  | _, _ => False
section
variable {X : Cx}
theorem zo_eq (hu : X.A.units + 64 < cLine) : ZOp X (compareOp .Eq) dEq := OpRi (op_eqD hu) fun x y H Q q => by
  obtain ⟨d, e, G, Q0, sg, rx, ry, h, k⟩ := q
  unfold dEq at h
  split at h
  · rename_i p q e1 e2
    exact ⟨p, q, pdT_dp sg rx e1, pdT_dp sg ry e2, h.1, h.2.1, CK.at k h.2.2 sg (.bl _)⟩
  · cases h
theorem zo_ne (hu : X.A.units + 64 < cLine) : ZOp X (compareOp .NotEq) dNe := OpRi (op_neD hu) fun x y H Q q => by
  obtain ⟨d, e, G, Q0, sg, rx, ry, h, k⟩ := q
  unfold dNe at h
  split at h
  · rename_i p q e1 e2
    exact ⟨p, q, pdT_dp sg rx e1, pdT_dp sg ry e2, h.1, h.2.1, CK.at k h.2.2 sg (.bl _)⟩
  · cases h
/-- in, not in: a list -/
def dIn (neg : Bool) : Z2 := fun d e G Q => match pd d, pdT G e with
  | some p, some (.list qs) => SeqAt.shaped p = true ∧ SeqAt.shaped (.list qs) = true ∧ Q (.bl (if neg then !(qs.any fun z => PyData.eqv z p) else qs.any fun z => PyData.eqv z p)) G
  | _, _ => False
theorem zo_in (hu : X.A.units + 65 < cLine) : ZOp X (compareOp .In) (dIn false) := OpRi (op_inD hu) fun x y H Q q => by
  obtain ⟨d, e, G, Q0, sg, rx, ry, h, k⟩ := q
  unfold dIn at h
  split at h
  · rename_i p qs e1 e2
    exact ⟨p, qs, rx.dp e1, pdT_dp sg ry e2, h.1, h.2.1, CK.at k h.2.2 sg (.bl _)⟩
  · cases h
theorem zo_notin (hu : X.A.units + 65 < cLine) : ZOp X (compareOp .NotIn) (dIn true) := OpRi (op_notInD hu) fun x y H Q q => by
  obtain ⟨d, e, G, Q0, sg, rx, ry, h, k⟩ := q
  unfold dIn at h
  split at h
  · rename_i p qs e1 e2
    exact ⟨p, qs, rx.dp e1, pdT_dp sg ry e2, h.1, h.2.1, CK.at k h.2.2 sg (.bl _)⟩
  · cases h
/-- in, not in: a tuple of flat things -/
def flD : D → Bool
  | .non => true
  | .bl _ => true
  | .int _ => true
  | .str _ => true
  | _ => false
def eqF (d e : D) : Bool := match pd d, pd e with
  | some p, some q => PyData.eqv p q
  | _, _ => false
theorem flat_rep {K : PySem.W.Frag} {H : Hp} {v : V} {d : D} (r : Rep K H v d) (h : flD d = true) : flatV v = true := by
  cases r <;> first | rfl | cases h
theorem eqF_rep {K : PySem.W.Frag} {H : Hp} {v w : V} {d e : D} (r : Rep K H v d) (r' : Rep K H w e) (h : flD d = true) (h' : flD e = true) : eqV v w = eqF d e := by
  cases r <;> first | (exact absurd h Bool.false_ne_true) | (cases r' <;> first | (exact absurd h' Bool.false_ne_true) | rfl | (simp [eqV, eqF, pd, PyData.eqv]; done))
theorem flats_rep {K : PySem.W.Frag} {H : Hp} : ∀ {ds : List D} {vs : List V}, Reps K H vs ds → ds.all flD = true → vs.all flatV = true
  | [], _, .nil, _ => rfl
  | _ :: _, _, .cons h r, e => by
    rw [List.all_cons, Bool.and_eq_true] at e ⊢
    exact ⟨flat_rep h e.1, flats_rep r e.2⟩
theorem inV_rep {K : PySem.W.Frag} {H : Hp} {w : V} {e : D} (rw' : Rep K H w e) (he : flD e = true) : ∀ {ds : List D} {vs : List V}, Reps K H vs ds → ds.all flD = true → inV w vs = ds.any fun d => eqF d e
  | [], _, .nil, _ => rfl
  | _ :: _, _, .cons h r, q => by
    rw [List.all_cons, Bool.and_eq_true] at q
    have ih := inV_rep rw' he r q.2
    unfold inV at ih ⊢
    rw [List.any_cons, List.any_cons, ih, eqF_rep h rw' q.1 he]
/-- the items of a tuple or a list -/
def seqD (G : Gp) : D → Option (List D)
  | .tup ds => some ds
  | .ct ds => some ds
  | .cl ds => some ds
  | .ref a => match G a with
    | some (.lst ds) => some ds
    | _ => none
  | _ => none
theorem seqD_rep {K : PySem.W.Frag} {H : Hp} {G : Gp} {v : V} {d : D} {ds : List D} (g : SimG K H G) (r : Rep K H v d) (e : seqD G d = some ds) : ∃ p xs, v = .ref p ∧ (SqL K H p xs ∨ SqT K H p xs) ∧ Reps K H xs ds := by
  cases r with
  | tup h r => cases e; exact ⟨_, _, rfl, .inr h.sq, r⟩
  | ct h r => cases e; exact ⟨_, _, rfl, .inr h.sq, r⟩
  | cl h r => cases e; exact ⟨_, _, rfl, .inl h.sq, r⟩
  | ref a =>
    unfold seqD at e
    simp only at e
    split at e
    · rename_i es ha
      cases e
      obtain ⟨xs, hx, r⟩ := g a _ ha
      exact ⟨a, xs, rfl, .inl (SqL.of hx), r⟩
    · cases e
  | _ => cases e
def dInF (neg : Bool) : Z2 := fun d e G Q => match seqD G e with
  | some es => flD d = true ∧ es.all flD = true ∧ Q (.bl (if neg then !(es.any fun z => eqF z d) else es.any fun z => eqF z d)) G
  | none => False
theorem zo_inF : ZOp X (compareOp .In) (dInF false) := OpRi op_in_seq fun x y H Q q => by
  obtain ⟨d, e, G, Q0, sg, rx, ry, h, k⟩ := q
  unfold dInF at h
  split at h
  · rename_i es e1
    obtain ⟨p, xs, rfl, hq, r⟩ := seqD_rep sg ry e1
    refine ⟨p, xs, rfl, hq, flat_rep rx h.1, flats_rep r h.2.1, ?_⟩
    rw [inV_rep rx h.1 r h.2.1]
    exact CK.at k h.2.2 sg (.bl _)
  · cases h
theorem zo_notinF : ZOp X (compareOp .NotIn) (dInF true) := OpRi op_notIn_seq fun x y H Q q => by
  obtain ⟨d, e, G, Q0, sg, rx, ry, h, k⟩ := q
  unfold dInF at h
  split at h
  · rename_i es e1
    obtain ⟨p, xs, rfl, hq, r⟩ := seqD_rep sg ry e1
    refine ⟨p, xs, rfl, hq, flat_rep rx h.1, flats_rep r h.2.1, ?_⟩
    rw [inV_rep rx h.1 r h.2.1]
    exact CK.at k h.2.2 sg (.bl _)
  · cases h
/-- is None -/
def dIsN (neg : Bool) : Z2 := fun d e G Q => match e with
  | .non => match d with
    | .non => Q (.bl (!neg)) G
    | _ => Q (.bl neg) G
  | _ => False
theorem zo_isN : ZOp X (compareOp .Is) (dIsN false) := OpRi op_isN fun x y H Q q => by
  obtain ⟨d, e, G, Q0, sg, rx, ry, h, k⟩ := q
  cases ry with
  | non => cases rx <;> exact ⟨rfl, CK.at k h sg (.bl _)⟩
  | _ => cases h
theorem zo_notN : ZOp X (compareOp .IsNot) (dIsN true) := OpRi op_notN fun x y H Q q => by
  obtain ⟨d, e, G, Q0, sg, rx, ry, h, k⟩ := q
  cases ry with
  | non => cases rx <;> exact ⟨rfl, CK.at k h sg (.bl _)⟩
  | _ => cases h

/-! ### items -/
theorem atI_rep {K : PySem.W.Frag} {H : Hp} {ds : List D} {xs : List V} {i : Int} {d : D} (r : Reps K H xs ds) (e : atI ds i = some d) : ∃ v, atI xs i = some v ∧ Rep K H v d := by
  unfold atI at e ⊢
  rw [r.length]
  cases q : ixN ds.length i with
  | none => rw [q] at e; cases e
  | some j =>
    rw [q] at e
    exact r.get (show ds[j]? = some d from e)
def dIx : Z2 := fun d e G Q => match d, e with
  | .str z, .int i => z.length ≤ sizeLine ∧ (match atI z.cps.toList i with
    | some c => Q (.str ⟨#[c]⟩) G
    | none => False)
  | d, .int i => match seqD G d with
    | some ds => (match atI ds i with
      | some x => Q x G
      | none => False)
    | none => False
  | _, _ => False
def ZIx (X : Cx) (z : Z2) : Prop := IxR X (upR2 X.K z)
theorem zo_ix : ZIx X dIx := by
  intro value slice pins s σ H x y v u Q I rx ry q hs
  refine ix_seq value slice pins s σ H x y v u Q I rx ry ?_ hs
  obtain ⟨d, e, G, Q0, sg, rx, ry, h, k⟩ := q
  unfold dIx at h
  split at h
  · rename_i z i
    cases rx
    cases ry
    refine .inr (.inr ?_)
    obtain ⟨h1, h2⟩ := h
    split at h2
    · rename_i c e
      exact ⟨z, i, c, rfl, rfl, h1, e, CK.at k h2 sg (.str _)⟩
    · cases h2
  · rename_i i _
    cases ry
    split at h
    · rename_i ds e1
      split at h
      · rename_i w e2
        obtain ⟨p, xs, rfl, hq, r⟩ := seqD_rep sg rx e1
        obtain ⟨w', hw, rw'⟩ := atI_rep r e2
        rcases hq with hq | hq
        · exact .inl ⟨p, xs, i, w', rfl, rfl, hq, hw, CK.at k h sg rw'⟩
        · exact .inr (.inl ⟨p, xs, i, w', rfl, rfl, hq, hw, CK.at k h sg rw'⟩)
      · cases h
    · cases h
  · cases h
theorem z_ix {a b : Expr} {ta tb : DE} {pos : Pos} (ha : ZE X a ta) (hb : ZE X b tb) (hs : PlainIx b := by exact fun _ _ => rfl) : ZE X (.Subscript a b pos) (zOp dIx ta tb) := PEi (pe_ix zo_ix ha hb hs) fun _ _ _ q => up_op q

/-! ### slices -/
abbrev DO := ZSt → Gp → (Option Int → Gp → Prop) → Prop
def upO (K : PySem.W.Frag) (t : DO) : TO := fun σ H Q => ∃ ρ G Q0, SimS K H σ ρ ∧ SimG K H G ∧ t ρ G Q0 ∧ ∀ o G' H', Q0 o G' → Fr H G H' G' → SimG K H' G' → Q o H'
def ZO (X : Cx) (e : Option Expr) (t : DO) : Prop := PO X e (upO X.K t)
theorem POi {e : Option Expr} {t t' : TO} (h : PO X e t) (i : ∀ σ H Q, t' σ H Q → t σ H Q) : PO X e t' := ⟨fun pins s σ H Q I q => h.run pins s σ H Q I (i σ H Q q)⟩
def zNoP : DO := fun _ G Q => Q none G
def zPart (t : DE) : DO := fun ρ G Q => t ρ G fun d G1 => match d with
  | .int i => Q (some i) G1
  | _ => False
theorem zo_none : ZO X none zNoP := POi po_none fun σ H Q q => by
  obtain ⟨ρ, G, Q0, hs, hg, h, k⟩ := q
  exact k none G H h (Fr.refl H G) hg
theorem zo_some {e : Expr} {te : DE} (h : ZE X e te) : ZO X (some e) (zPart te) := POi (po_some h) fun σ H Q q => by
  obtain ⟨ρ, G, Q0, hs, hg, h, k⟩ := q
  refine ⟨ρ, G, _, hs, hg, h, fun d G1 x H1 h1 f1 g1 r1 => ?_⟩
  cases r1 with
  | int i => exact ⟨i, rfl, k _ G1 H1 h1 f1 g1⟩
  | _ => cases h1
abbrev Z3 := D → Option Int → Option Int → Gp → DK → Prop
def upR3 (K : PySem.W.Frag) (z : Z3) : V → Option Int → Option Int → Hp → VK → Prop := fun x lo hi H Q => ∃ d G Q0, SimG K H G ∧ Rep K H x d ∧ z d lo hi G Q0 ∧ CK K H G Q0 Q
def ZSl (X : Cx) (z : Z3) : Prop := SlR X (upR3 X.K z)
def zSl (z : Z3) (te : DE) (tl th : DO) : DE := fun ρ G Q => te ρ G fun d G1 => tl ρ G1 fun l G2 => th ρ G2 fun u G3 => z d l u G3 Q
theorem z_slice {e : Expr} {te : DE} {lo hi : Option Expr} {tl th : DO} {pos p2 : Pos} {z : Z3} (hr : ZSl X z) (he : ZE X e te) (hl : ZO X lo tl) (hu : ZO X hi th) : ZE X (.Subscript e (.Slice lo hi none p2) pos) (zSl z te tl th) := PEi (pe_slice hr he hl hu) fun σ H Q q => by
  obtain ⟨ρ, G, Q0, hs, hg, h, k⟩ := q
  exact ⟨ρ, G, _, hs, hg, h, fun d G1 x H1 h1 f1 g1 r1 => ⟨ρ, G1, _, hs.mono (hg.tm f1), g1, h1, fun l G2 H2 h2 f2 g2 => ⟨ρ, G2, _, hs.mono (hg.tm (f1.trans f2)), g2, h2, fun u G3 H3 h3 f3 g3 => ⟨d, G3, Q0, g3, r1.mono (g1.tm (f2.trans f3)), h3, CK.go k (f1.trans (f2.trans f3))⟩⟩⟩⟩
def cutD (xs : List D) (lo hi : Option Int) : List D := (xs.drop (HT.sIx xs.length 0 lo)).take (HT.sIx xs.length xs.length hi - HT.sIx xs.length 0 lo)
theorem cut_rep {K : PySem.W.Frag} {H : Hp} {ds : List D} {xs : List V} {lo hi : Option Int} (r : Reps K H xs ds) : Reps K H (cutV xs lo hi) (cutD ds lo hi) := by
  unfold cutV cutD
  rw [r.length]
  exact (r.drop _).take _
/-- a list's -/
def dSlL : Z3 := fun d lo hi G Q => match d with
  | .cl ds => ∀ p G', G p = none → At G p (.lst (cutD ds lo hi)) G' → Q (.ref p) G'
  | .ref a => match G a with
    | some (.lst ds) => ∀ p G', G p = none → At G p (.lst (cutD ds lo hi)) G' → Q (.ref p) G'
    | _ => False
  | _ => False
theorem zsl_list : ZSl X dSlL := by
  intro pins s σ H x v vl vu lo hi sl Q I rx hs pl pu q
  refine sl_list pins s σ H x v vl vu lo hi sl Q I rx hs pl pu ?_
  obtain ⟨d, G, Q0, sg, rx, h, k⟩ := q
  cases rx with
  | cl hq r => exact ⟨_, _, rfl, hq.sq, fun p hp => CK.new (m := .lst (cutD _ lo hi)) k hp sg ⟨_, upd_same, (cut_rep r).mono (tm_new hp)⟩ fun G' n at_ => h p G' n at_⟩
  | ref a =>
    unfold dSlL at h
    simp only at h
    split at h
    · rename_i ds e
      obtain ⟨xs, hx, r⟩ := sg a _ e
      exact ⟨_, _, rfl, SqL.of hx, fun p hp => CK.new (m := .lst (cutD _ lo hi)) k hp sg ⟨_, upd_same, (cut_rep r).mono (tm_new hp)⟩ fun G' n at_ => h p G' n at_⟩
    · cases h
  | _ => exact False.elim h
/-- a tuple's, not the whole -/
def dSlT : Z3 := fun d lo hi G Q => match d with
  | .tup ds => ¬ (HT.sIx ds.length 0 lo = 0 ∧ HT.sIx ds.length ds.length hi = ds.length) ∧ Q (.tup (cutD ds lo hi)) G
  | .ct ds => ¬ (HT.sIx ds.length 0 lo = 0 ∧ HT.sIx ds.length ds.length hi = ds.length) ∧ Q (.tup (cutD ds lo hi)) G
  | _ => False
theorem zsl_tup : ZSl X dSlT := by
  intro pins s σ H x v vl vu lo hi sl Q I rx hs pl pu q
  refine sl_tup pins s σ H x v vl vu lo hi sl Q I rx hs pl pu ?_
  obtain ⟨d, G, Q0, sg, rx, h, k⟩ := q
  cases rx with
  | tup hq r => exact ⟨_, _, rfl, hq.sq, by rw [r.length]; exact h.1, fun p hp => CK.tup k hp h.2 sg (cut_rep r)⟩
  | ct hq r => exact ⟨_, _, rfl, hq.sq, by rw [r.length]; exact h.1, fun p hp => CK.tup k hp h.2 sg (cut_rep r)⟩
  | _ => exact False.elim h
def dSlS : Z3 := fun d lo hi G Q => match d with
  | .str z => z.length ≤ sizeLine ∧ Q (.str (cutS z lo hi)) G
  | _ => False
theorem zsl_str : ZSl X dSlS := by
  intro pins s σ H x v vl vu lo hi sl Q I rx hs pl pu q
  refine sl_str pins s σ H x v vl vu lo hi sl Q I rx hs pl pu ?_
  obtain ⟨d, G, Q0, sg, rx, h, k⟩ := q
  cases rx with
  | str z => exact ⟨z, rfl, h.1, CK.at k h.2 sg (.str _)⟩
  | _ => exact False.elim h

/-! ### dicts -/
def keyD : D → Option Key
  | .int i => some (.inl i)
  | .str x => some (.inr x)
  | _ => none
def keysD : List D → Option (List Key)
  | [] => some []
  | d :: ds => match keyD d, keysD ds with
    | some k, some ks => some (k :: ks)
    | _, _ => none
theorem keyD_rep {K : PySem.W.Frag} {H : Hp} {v : V} {d : D} {k : Key} (r : Rep K H v d) (e : keyD d = some k) : v = kV k := by
  cases r <;> first | (cases e; rfl) | cases e
theorem keysD_rep {K : PySem.W.Frag} {H : Hp} : ∀ {ds : List D} {vs : List V} {ks : List Key}, Reps K H vs ds → keysD ds = some ks → vs = ks.map kV
  | [], _, _, .nil, e => by cases e; rfl
  | _ :: _, _, _, .cons h r, e => by
    unfold keysD at e
    split at e
    · rename_i k ks e1 e2
      cases e
      rw [List.map_cons, keyD_rep h e1, keysD_rep r e2]
    · cases e
def valD {κ : Type} [DecidableEq κ] (kvs : List (κ × D)) (k : κ) : Option D := (kvs.find? fun kv => decide (kv.1 = k)).map (·.2)
def putD {κ : Type} [DecidableEq κ] (kvs : List (κ × D)) (k : κ) (v : D) : List (κ × D) :=
  if (kvs.any fun kv => decide (kv.1 = k)) then kvs.map fun kv => if kv.1 = k then (kv.1, v) else kv else kvs ++ [(k, v)]
def RepO' (K : PySem.W.Frag) (H : Hp) : Option V → Option D → Prop
  | some v, some d => Rep K H v d
  | none, none => True
  | _, _ => False
theorem RepKV.val {κ : Type} [DecidableEq κ] {K : PySem.W.Frag} {H : Hp} (k : κ) : ∀ {ds : List (κ × D)} {vs : List (κ × V)}, RepKV K H vs ds → RepO' K H (valV vs k) (valD ds k)
  | [], _, .nil => trivial
  | _ :: _, _, .cons (k := k') h r => by
    by_cases e : k' = k
    · rw [valV_pos (show (k', _).1 = k from e)]
      unfold valD
      rw [List.find?_cons_of_pos (by simpa using e)]
      exact h
    · rw [valV_neg (show ¬ (k', _).1 = k from e)]
      unfold valD
      rw [List.find?_cons_of_neg (by simpa using e)]
      exact r.val k
theorem RepKV.any {κ : Type} [DecidableEq κ] {K : PySem.W.Frag} {H : Hp} (k : κ) : ∀ {ds : List (κ × D)} {vs : List (κ × V)}, RepKV K H vs ds → (vs.any fun kv => decide (kv.1 = k)) = ds.any fun kv => decide (kv.1 = k)
  | [], _, .nil => rfl
  | _ :: _, _, .cons h r => by rw [List.any_cons, List.any_cons, r.any k]
theorem RepKV.append {κ : Type} {K : PySem.W.Frag} {H : Hp} : ∀ {ds es : List (κ × D)} {vs ws : List (κ × V)}, RepKV K H vs ds → RepKV K H ws es → RepKV K H (vs ++ ws) (ds ++ es)
  | [], _, _, _, .nil, s => s
  | _ :: _, _, _, _, .cons h r, s => .cons h (r.append s)
theorem RepKV.repl {κ : Type} [DecidableEq κ] {K : PySem.W.Frag} {H : Hp} (k : κ) {v : V} {d : D} (rv : Rep K H v d) : ∀ {ds : List (κ × D)} {vs : List (κ × V)}, RepKV K H vs ds → RepKV K H (vs.map fun kv => if kv.1 = k then (kv.1, v) else kv) (ds.map fun kv => if kv.1 = k then (kv.1, d) else kv)
  | [], _, .nil => .nil
  | _ :: _, _, .cons (k := k') h r => by
    rw [List.map_cons, List.map_cons]
    by_cases e : k' = k
    · rw [if_pos (show (k', _).1 = k from e), if_pos (show (k', _).1 = k from e)]
      exact .cons rv (r.repl k rv)
    · rw [if_neg (show ¬ (k', _).1 = k from e), if_neg (show ¬ (k', _).1 = k from e)]
      exact .cons h (r.repl k rv)
theorem RepKV.put {κ : Type} [DecidableEq κ] {K : PySem.W.Frag} {H : Hp} {k : κ} {v : V} {d : D} {ds : List (κ × D)} {vs : List (κ × V)} (r : RepKV K H vs ds) (rv : Rep K H v d) : RepKV K H (putK vs k v) (putD ds k d) := by
  unfold putK putD
  rw [r.any k]
  split
  · exact r.repl k rv
  · exact r.append (.cons rv .nil)
def tGet (kvs : List (List Key × D)) (d : D) : Option (Option D) := match d with
  | .tup ds => (keysD ds).map (valD kvs)
  | _ => none
/-- what the dict at a holds at d; none: no such key can be asked -/
def dGet (G : Gp) (a : Addr) (d : D) : Option (Option D) := match G a with
  | some (.dk kvs) => (keyD d).map (valD kvs)
  | some (.ldk _ _ kvs) => (keyD d).map (valD kvs)
  | some (.dt kvs) => tGet kvs d
  | some (.ldt _ _ kvs) => tGet kvs d
  | _ => none
theorem tget_rep {K : PySem.W.Frag} {H : Hp} {a : Addr} {kvs : List (List Key × D)} {xs : List (List Key × V)} (hr : Rd H a (.dT xs)) (rk : RepKV K H xs kvs) : ∀ {d : D} {y : V} {r : Option D}, Rep K H y d → tGet kvs d = some r → ∃ o, DGet H a y o ∧ RepO' K H o r
  | .tup ds, _, r, .tup hq rr, e => by
    have e : (keysD ds).map (valD kvs) = some r := e
    cases q : keysD ds with
    | none => rw [q] at e; cases e
    | some k =>
      rw [q] at e
      cases e
      have := keysD_rep rr q
      subst this
      exact ⟨_, .inr ⟨xs, k, _, hr, rfl, hq, rfl⟩, rk.val k⟩
theorem dget_rep {K : PySem.W.Frag} {H : Hp} {G : Gp} {a : Addr} {y : V} {d : D} {r : Option D} (g : SimG K H G) (ry : Rep K H y d) (e : dGet G a d = some r) : ∃ o, DGet H a y o ∧ RepO' K H o r := by
  have kk : ∀ {kvs : List (Key × D)} {xs : List (Key × V)}, Rd H a (.dK xs) → RepKV K H xs kvs → (keyD d).map (valD kvs) = some r → ∃ o, DGet H a y o ∧ RepO' K H o r := by
    intro kvs xs hr rk e
    cases q : keyD d with
    | none => rw [q] at e; cases e
    | some k =>
      rw [q] at e
      cases e
      exact ⟨_, .inl ⟨xs, k, hr, keyD_rep ry q, rfl⟩, rk.val k⟩
  unfold dGet at e
  split at e
  · rename_i kvs ha
    obtain ⟨xs, hx, rk⟩ := g a _ ha
    exact kk (.inl hx) rk e
  · rename_i o xs kvs ha
    obtain ⟨hx, rk⟩ := g a _ ha
    exact kk (.inr ⟨_, hx⟩) rk e
  · rename_i kvs ha
    obtain ⟨xs, hx, rk⟩ := g a _ ha
    exact tget_rep (.inl hx) rk ry e
  · rename_i o xs kvs ha
    obtain ⟨hx, rk⟩ := g a _ ha
    exact tget_rep (.inr ⟨_, hx⟩) rk ry e
  · cases e
def zDGet (td ty : DE) : DE := fun ρ G Q => td ρ G fun x G1 => ty ρ G1 fun y G2 => match x with
  | .ref a => match dGet G2 a y with
    | some (some d) => Q d G2
    | _ => False
  | _ => False
theorem z_dget {o i : Expr} {td ty : DE} {pos : Pos} (hu : X.A.units + 1 < cLine) (ho : ZE X o td) (hi : ZE X i ty) (hs : NoSl i := by exact fun _ _ => rfl) : ZE X (.Subscript o i pos) (zDGet td ty) := PEi (pe_dget hu ho hi hs) fun σ H Q q => by
  obtain ⟨ρ, G, Q0, hs, hg, h, k⟩ := q
  refine ⟨ρ, G, _, hs, hg, h, fun d G1 x H1 h1 f1 g1 r1 => ⟨ρ, G1, _, hs.mono (hg.tm f1), g1, h1, fun e G2 y H2 h2 f2 g2 r2 => ?_⟩⟩
  cases r1 with
  | ref a =>
    simp only at h2
    split at h2
    · rename_i d e1
      obtain ⟨o, ho, ro⟩ := dget_rep g2 r2 e1
      cases o with
      | none => exact ro.elim
      | some v => exact ⟨a, v, rfl, ho, k d G2 v H2 h2 (f1.trans f2) g2 ro⟩
    · cases h2
  | _ => exact False.elim h2
def zDIn (neg : Bool) (ty td : DE) : DE := fun ρ G Q => ty ρ G fun y G1 => td ρ G1 fun x G2 => match x with
  | .ref a => match dGet G2 a y with
    | some r => Q (.bl (if neg then !r.isSome else r.isSome)) G2
    | none => False
  | _ => False
theorem z_din {o i : Expr} {td ty : DE} {pos : Pos} (hu : X.A.units + 1 < cLine) (hi : ZE X i ty) (ho : ZE X o td) (h1 : behindInMarks .In o = false := by rfl) : ZE X (.Compare i [.In] [o] pos) (zDIn false ty td) := PEi (pe_cmp (pc_din hu hi ho) h1) fun σ H Q q => by
  obtain ⟨ρ, G, Q0, hs, hg, h, k⟩ := q
  refine ⟨ρ, G, _, hs, hg, h, fun d G1 x H1 h1 f1 g1 r1 => ⟨ρ, G1, _, hs.mono (hg.tm f1), g1, h1, fun e G2 y H2 h2 f2 g2 r2 => ?_⟩⟩
  cases r2 with
  | ref a =>
    simp only at h2
    split at h2
    · rename_i r e1
      obtain ⟨o, ho, ro⟩ := dget_rep g2 (r1.mono (g1.tm f2)) e1
      refine ⟨a, o, rfl, ho, ?_⟩
      have e : o.isSome = r.isSome := by cases o <;> cases r <;> first | rfl | exact ro.elim
      rw [e]
      exact k _ G2 _ H2 h2 (f1.trans f2) g2 (.bl _)
    · cases h2
  | _ => exact False.elim h2
theorem z_dnotin {o i : Expr} {td ty : DE} {pos : Pos} (hu : X.A.units + 1 < cLine) (hi : ZE X i ty) (ho : ZE X o td) (h1 : behindInMarks .NotIn o = false := by rfl) : ZE X (.Compare i [.NotIn] [o] pos) (zDIn true ty td) := PEi (pe_cmp (pc_dnotin hu hi ho) h1) fun σ H Q q => by
  obtain ⟨ρ, G, Q0, hs, hg, h, k⟩ := q
  refine ⟨ρ, G, _, hs, hg, h, fun d G1 x H1 h1 f1 g1 r1 => ⟨ρ, G1, _, hs.mono (hg.tm f1), g1, h1, fun e G2 y H2 h2 f2 g2 r2 => ?_⟩⟩
  cases r2 with
  | ref a =>
    simp only at h2
    split at h2
    · rename_i r e1
      obtain ⟨o, ho, ro⟩ := dget_rep g2 (r1.mono (g1.tm f2)) e1
      refine ⟨a, o, rfl, ho, ?_⟩
      have e : o.isSome = r.isSome := by cases o <;> cases r <;> first | rfl | exact ro.elim
      rw [e]
      exact k _ G2 _ H2 h2 (f1.trans f2) g2 (.bl _)
    · cases h2
  | _ => exact False.elim h2
/-- a value's test where it is a bool -/
theorem z_val {a : Expr} {ta : DE} (h : ZE X a ta) (he : ∀ whole, isTrue a X.env whole = (do let v ← whole; standAt a.pos; holding [v] (truthy v)) := by intro _; rfl) : ZT X a (zTest ta) := PTi (pt_val h he) fun σ H Q q => by
  obtain ⟨ρ, G, Q0, hs, hg, h, k⟩ := q
  refine ⟨ρ, G, _, hs, hg, h, fun d G1 x H1 h1 f1 g1 r1 => ?_⟩
  cases r1 with
  | bl b => exact ⟨b, rfl, k b G1 H1 h1 f1 g1⟩
  | _ => cases h1
theorem z_tdin {o i : Expr} {td ty : DE} {pos : Pos} (hu : X.A.units + 1 < cLine) (hi : ZE X i ty) (ho : ZE X o td) (h1 : behindInMarks .In o = false := by rfl) : ZT X (.Compare i [.In] [o] pos) (zTest (zDIn false ty td)) := PTi (pt_cmp (pc_din hu hi ho) h1) fun σ H Q q => by
  obtain ⟨ρ, G, Q0, hs, hg, h, k⟩ := q
  refine ⟨ρ, G, _, hs, hg, h, fun d G1 x H1 h1 f1 g1 r1 => ⟨ρ, G1, _, hs.mono (hg.tm f1), g1, h1, fun e G2 y H2 h2 f2 g2 r2 => ?_⟩⟩
  cases r2 with
  | ref a =>
    simp only at h2
    split at h2
    · rename_i r e1
      obtain ⟨o, ho, ro⟩ := dget_rep g2 (r1.mono (g1.tm f2)) e1
      refine ⟨a, o, rfl, ho, _, rfl, ?_⟩
      have e : o.isSome = r.isSome := by cases o <;> cases r <;> first | rfl | exact ro.elim
      rw [e]
      exact k _ G2 H2 h2 (f1.trans f2) g2
    · cases h2
  | _ => exact False.elim h2
theorem z_tdnotin {o i : Expr} {td ty : DE} {pos : Pos} (hu : X.A.units + 1 < cLine) (hi : ZE X i ty) (ho : ZE X o td) (h1 : behindInMarks .NotIn o = false := by rfl) : ZT X (.Compare i [.NotIn] [o] pos) (zTest (zDIn true ty td)) := PTi (pt_cmp (pc_dnotin hu hi ho) h1) fun σ H Q q => by
  obtain ⟨ρ, G, Q0, hs, hg, h, k⟩ := q
  refine ⟨ρ, G, _, hs, hg, h, fun d G1 x H1 h1 f1 g1 r1 => ⟨ρ, G1, _, hs.mono (hg.tm f1), g1, h1, fun e G2 y H2 h2 f2 g2 r2 => ?_⟩⟩
  cases r2 with
  | ref a =>
    simp only at h2
    split at h2
    · rename_i r e1
      obtain ⟨o, ho, ro⟩ := dget_rep g2 (r1.mono (g1.tm f2)) e1
      refine ⟨a, o, rfl, ho, _, rfl, ?_⟩
      have e : o.isSome = r.isSome := by cases o <;> cases r <;> first | rfl | exact ro.elim
      rw [e]
      exact k _ G2 H2 h2 (f1.trans f2) g2
    · cases h2
  | _ => exact False.elim h2
/-- d[k] = v -/
def zDPut (td ty tv : DE) : DS := fun Z ρ G => tv ρ G fun v G1 => td ρ G1 fun x G2 => ty ρ G2 fun y G3 => match x with
  | .ref a => (match G3 a with
    | some (.dk kvs) => (match keyD y with
      | some k => kvs.length < sizeLine ∧ ∀ G4, At G3 a (.dk (putD kvs k v)) G4 → Z.nx ρ G4
      | none => False)
    | some (.dt kvs) => (match y with
      | .tup ds => (match keysD ds with
        | some k => kvs.length < sizeLine ∧ ∀ G4, At G3 a (.dt (putD kvs k v)) G4 → Z.nx ρ G4
        | none => False)
      | _ => False)
    | _ => False)
  | _ => False
theorem z_dput {o i value : Expr} {td ty tv : DE} {pos pos' : Pos} (hu : X.A.units + 1 < cLine) (ho : ZE X o td) (hi : ZE X i ty) (hv : ZE X value tv) (hs : swapsWith value (some (.Subscript o i pos')) pos.line X.env = pure false := by rfl) :
    ZS X (.Assign [.Subscript o i pos'] value pos) (zDPut td ty tv) := PSi (ps_dput hu ho hi hv hs) fun D σ H q => by
  obtain ⟨ρ, G, Z, hs, hg, h, k1, _⟩ := q
  refine ⟨ρ, G, _, hs, hg, h, fun v G1 xv H1 h1 f1 g1 r1 => ⟨ρ, G1, _, hs.mono (hg.tm f1), g1, h1, fun d G2 x H2 h2 f2 g2 r2 => ⟨ρ, G2, _, hs.mono (hg.tm (f1.trans f2)), g2, h2, fun e G3 y H3 h3 f3 g3 r3 => ?_⟩⟩⟩
  have ff := f1.trans (f2.trans f3)
  have r1' := r1.mono (g1.tm (f2.trans f3))
  have s3 := hs.mono (hg.tm ff)
  cases r2 with
  | ref a =>
    simp only at h3
    split at h3
    · rename_i kvs ha
      split at h3
      · rename_i kk hk
        obtain ⟨xs, hx, rk⟩ := g3 a _ ha
        have t := tm_set (o := .dK (putK xs kk xv)) hx fun z => z
        refine ⟨a, _, rfl, .inl ⟨xs, kk, hx, keyD_rep r3 hk, by rw [rk.len]; exact h3.1, rfl⟩, ?_⟩
        exact k1 ρ (put G3 a (.dk (putD kvs kk v))) σ _ (h3.2 _ (At.put _ _ _)) (ff.trans (Fr.put (.inr ⟨_, ha⟩))) (g3.put (.inr ⟨_, ha⟩) t ⟨_, upd_same, (rk.put r1').mono t⟩) (s3.mono t)
      · cases h3
    · rename_i kvs ha
      split at h3
      · rename_i ds
        split at h3
        · rename_i kk hk
          obtain ⟨xs, hx, rk⟩ := g3 a _ ha
          have t := tm_set (o := .dT (putK xs kk xv)) hx fun z => z
          cases r3 with
          | tup hq rr =>
            have e := keysD_rep rr hk
            subst e
            refine ⟨a, _, rfl, .inr ⟨xs, kk, _, hx, rfl, hq, by rw [rk.len]; exact h3.1, rfl⟩, ?_⟩
            exact k1 ρ (put G3 a (.dt (putD kvs kk v))) σ _ (h3.2 _ (At.put _ _ _)) (ff.trans (Fr.put (.inr ⟨_, ha⟩))) (g3.put (.inr ⟨_, ha⟩) t ⟨_, upd_same, (rk.put r1').mono t⟩) (s3.mono t)
        · cases h3
      · cases h3
    · cases h3
  | _ => exact False.elim h3
/-- {} -/
def zDNewK : DE := fun _ G Q => ∀ p G', G p = none → At G p (.dk []) G' → Q (.ref p) G'
def zDNewT : DE := fun _ G Q => ∀ p G', G p = none → At G p (.dt []) G' → Q (.ref p) G'
theorem z_dnewK {pos : Pos} : ZE X (.Dict [] [] pos) zDNewK := PEi pe_dnewK fun σ H Q q => by
  obtain ⟨ρ, G, Q0, hs, hg, h, k⟩ := q
  exact fun p hp => CK.new (m := .dk []) k hp hg ⟨_, upd_same, .nil⟩ fun G' n at_ => h p G' n at_
theorem z_dnewT {pos : Pos} : ZE X (.Dict [] [] pos) zDNewT := PEi pe_dnewT fun σ H Q q => by
  obtain ⟨ρ, G, Q0, hs, hg, h, k⟩ := q
  exact fun p hp => CK.new (m := .dt []) k hp hg ⟨_, upd_same, .nil⟩ fun G' n at_ => h p G' n at_
/-- a dict is locked while it is walked -/
def zLock (t : DS) : DS := fun Z ρ G => ∃ a, (∃ kvs, G a = some (.dk kvs) ∧ ∀ o xs G1, At G a (.ldk o xs kvs) G1 →
    t ⟨fun ρ' G' => G' a = some (.ldk o xs kvs) ∧ ∀ G2, At G' a (.dk kvs) G2 → Z.nx ρ' G2, fun d G' => G' a = some (.ldk o xs kvs) ∧ ∀ G2, At G' a (.dk kvs) G2 → Z.rt d G2,
      fun ρ' G' => G' a = some (.ldk o xs kvs) ∧ ∀ G2, At G' a (.dk kvs) G2 → Z.bk ρ' G2, fun ρ' G' => G' a = some (.ldk o xs kvs) ∧ ∀ G2, At G' a (.dk kvs) G2 → Z.ct ρ' G2⟩ ρ G1) ∨
  ∃ kvs, G a = some (.dt kvs) ∧ ∀ o xs G1, At G a (.ldt o xs kvs) G1 →
    t ⟨fun ρ' G' => G' a = some (.ldt o xs kvs) ∧ ∀ G2, At G' a (.dt kvs) G2 → Z.nx ρ' G2, fun d G' => G' a = some (.ldt o xs kvs) ∧ ∀ G2, At G' a (.dt kvs) G2 → Z.rt d G2,
      fun ρ' G' => G' a = some (.ldt o xs kvs) ∧ ∀ G2, At G' a (.dt kvs) G2 → Z.bk ρ' G2, fun ρ' G' => G' a = some (.ldt o xs kvs) ∧ ∀ G2, At G' a (.dt kvs) G2 → Z.ct ρ' G2⟩ ρ G1
theorem unlockS {K : PySem.W.Frag} {H : Hp} {G : Gp} {a : Addr} {o : Obj} {u : HO} {m n l : MO} {Zx : ZSt → Gp → Prop} {D : L2.St → Hp → Prop} (hH : H a = some u) (hG : G a = some n) (nu : ¬ sta u) (nf : ¬ sta (.frz o u)) (hg : SimG K H G) (k : SK K H G Zx D)
    (hl : ∀ H', RepO K H' a l → H' a = some (.frz o u)) (hm : ∀ H', RepO K H' a l → Tm H' (upd H' a u) → RepO K (upd H' a u) a m) :
    SK K (upd H a (.frz o u)) (put G a l) (fun ρ' G' => G' a = some l ∧ ∀ G2, At G' a m G2 → Zx ρ' G2) fun σ' H' => H' a = some (.frz o u) ∧ D σ' (upd H' a u) := fun ρ' G' σ' H' q f g s => by
  obtain ⟨e, q⟩ := q
  have x1 := hl H' (g a _ e)
  have t : Tm H' (upd H' a u) := tm_set x1 nf
  refine ⟨x1, k ρ' (put G' a m) σ' _ (q _ (At.put _ _ _)) (fun b ob hb nb nt => ?_) (g.put (.inr ⟨_, e⟩) t (hm H' (g a _ e) t)) (s.mono t)⟩
  have hba : b ≠ a := by
    rintro rfl
    rw [hG] at nb; cases nb
  obtain ⟨y1, y2⟩ := f b ob (by rw [upd_ne hba]; exact hb) (by rw [put_ne hba]; exact nb) nt
  rw [upd_ne hba, put_ne hba]
  exact ⟨y1, y2⟩
theorem unlockR {K : PySem.W.Frag} {H : Hp} {G : Gp} {a : Addr} {o : Obj} {u : HO} {m n l : MO} {Zx : DK} {D : VK} (hH : H a = some u) (hG : G a = some n) (nu : ¬ sta u) (nf : ¬ sta (.frz o u)) (hg : SimG K H G) (k : CK K H G Zx D)
    (hl : ∀ H', RepO K H' a l → H' a = some (.frz o u)) (hm : ∀ H', RepO K H' a l → Tm H' (upd H' a u) → RepO K (upd H' a u) a m) :
    CK K (upd H a (.frz o u)) (put G a l) (fun d G' => G' a = some l ∧ ∀ G2, At G' a m G2 → Zx d G2) fun v H' => H' a = some (.frz o u) ∧ D v (upd H' a u) := fun d G' v H' q f g s => by
  obtain ⟨e, q⟩ := q
  have x1 := hl H' (g a _ e)
  have t : Tm H' (upd H' a u) := tm_set x1 nf
  refine ⟨x1, k d (put G' a m) v _ (q _ (At.put _ _ _)) (fun b ob hb nb nt => ?_) (g.put (.inr ⟨_, e⟩) t (hm H' (g a _ e) t)) (s.mono t)⟩
  have hba : b ≠ a := by
    rintro rfl
    rw [hG] at nb; cases nb
  obtain ⟨y1, y2⟩ := f b ob (by rw [upd_ne hba]; exact hb) (by rw [put_ne hba]; exact nb) nt
  rw [upd_ne hba, put_ne hba]
  exact ⟨y1, y2⟩
theorem z_lock {st : Stmt} {t : DS} (h : ZS X st t) : ZS X st (zLock t) := PSi (ps_lock h) fun D σ H q => by
  obtain ⟨ρ, G, Z, hs, hg, ⟨a, h⟩, k1, k2, k3, k4⟩ := q
  rcases h with ⟨kvs, ha, h⟩ | ⟨kvs, ha, h⟩
  · obtain ⟨xs, hx, rk⟩ := hg a _ ha
    show ∃ d u, H d = some u ∧ Mut (some u) ∧ _
    refine ⟨a, .dK xs, hx, True.intro, fun od => ?_⟩
    have t := tm_set (o := .frz od (.dK xs)) hx fun z => z
    have hl : ∀ H', RepO X.K H' a (.ldk od xs kvs) → H' a = some (.frz od (.dK xs)) := fun H' z => z.1
    have hm : ∀ H', RepO X.K H' a (.ldk od xs kvs) → Tm H' (upd H' a (.dK xs)) → RepO X.K (upd H' a (.dK xs)) a (.dk kvs) := fun H' z t => ⟨xs, upd_same, z.2.mono t⟩
    exact ⟨ρ, put G a (.ldk od xs kvs), _, hs.mono t, hg.put (.inr ⟨_, ha⟩) t ⟨upd_same, rk.mono t⟩, h od xs _ (At.put _ _ _), unlockS hx ha (fun z => z) (fun z => z) hg k1 hl hm, unlockR hx ha (fun z => z) (fun z => z) hg k2 hl hm, unlockS hx ha (fun z => z) (fun z => z) hg k3 hl hm, unlockS hx ha (fun z => z) (fun z => z) hg k4 hl hm⟩
  · obtain ⟨xs, hx, rk⟩ := hg a _ ha
    refine ⟨a, .dT xs, hx, trivial, fun od => ?_⟩
    have t := tm_set (o := .frz od (.dT xs)) hx fun z => z
    have hl : ∀ H', RepO X.K H' a (.ldt od xs kvs) → H' a = some (.frz od (.dT xs)) := fun H' z => z.1
    have hm : ∀ H', RepO X.K H' a (.ldt od xs kvs) → Tm H' (upd H' a (.dT xs)) → RepO X.K (upd H' a (.dT xs)) a (.dt kvs) := fun H' z t => ⟨xs, upd_same, z.2.mono t⟩
    exact ⟨ρ, put G a (.ldt od xs kvs), _, hs.mono t, hg.put (.inr ⟨_, ha⟩) t ⟨upd_same, rk.mono t⟩, h od xs _ (At.put _ _ _), unlockS hx ha (fun z => z) (fun z => z) hg k1 hl hm, unlockR hx ha (fun z => z) (fun z => z) hg k2 hl hm, unlockS hx ha (fun z => z) (fun z => z) hg k3 hl hm, unlockS hx ha (fun z => z) (fun z => z) hg k4 hl hm⟩
end
end Z

namespace Z
open PySem PySem.Spec PyProof.Rows L2
variable [τ : Tbl] [β : Bas]
section
variable {X : Cx}

/-! ### built-in functions -/
def fAbs : ZF := fun ds G Q => match ds with
  | [.int i] => Q (.int (if i < 0 then -i else i)) G
  | _ => False
theorem zf_abs : ZCall X (.builtin "abs") fAbs := CallRi call_abs fun xs H Q q => by
  obtain ⟨ds, G, Q0, g, r, h, k⟩ := q
  unfold fAbs at h
  split at h
  · rename_i i
    cases r with
    | cons r1 r2 =>
      cases r1
      cases r2
      exact ⟨i, rfl, CK.at k h g (.int _)⟩
  · cases h
/-- int(n), int(flag) -/
def fInt : ZF := fun ds G Q => match ds with
  | [.int i] => Q (.int i) G
  | [.bl b] => Q (.int (if b then 1 else 0)) G
  | _ => False
theorem zf_int : ZCall X (.type "int") fInt := CallRi call_int1 fun xs H Q q => by
  obtain ⟨ds, G, Q0, g, r, h, k⟩ := q
  unfold fInt at h
  split at h
  · rename_i i
    cases r with
    | cons r1 r2 =>
      cases r1
      cases r2
      exact .inl ⟨i, rfl, CK.at k h g (.int _)⟩
  · rename_i b
    cases r with
    | cons r1 r2 =>
      cases r1
      cases r2
      exact .inr ⟨b, rfl, CK.at k h g (.int _)⟩
  · cases h
/-- len of a list, a tuple, a text -/
def fLen : ZF := fun ds G Q => match ds with
  | [.str y] => y.length ≤ sizeLine ∧ Q (.int (y.length : Nat)) G
  | [d] => match seqD G d with
    | some es => Q (.int (es.length : Nat)) G
    | none => False
  | _ => False
theorem zf_len : ZCall X (.builtin "len") fLen := CallRi call_len fun xs H Q q => by
  obtain ⟨ds, G, Q0, g, r, h, k⟩ := q
  unfold fLen at h
  split at h
  · rename_i y
    cases r with
    | cons r1 r2 =>
      cases r1
      cases r2
      exact ⟨_, _, rfl, ⟨h.1, rfl⟩, CK.at k h.2 g (.int _)⟩
  · rename_i d _
    split at h
    · rename_i es e
      cases r with
      | cons r1 r2 =>
        cases r2
        obtain ⟨p, ys, rfl, hq, r⟩ := seqD_rep g r1 e
        refine ⟨_, ys.length, rfl, ?_, CK.at k (by rw [r.length]; exact h) g (.int _)⟩
        rcases hq with hq | hq
        · exact .inl ⟨ys, hq, rfl⟩
        · exact .inr ⟨ys, hq, rfl⟩
    · cases h
  · cases h
/-- tuple(list) -/
def fTup : ZF := fun ds G Q => match ds with
  | [d] => match seqD G d with
    | some es => es.length ≤ sizeLine ∧ Q (.tup es) G
    | none => False
  | _ => False
def isLst (G : Gp) : D → Bool
  | .cl _ => true
  | .ref a => match G a with
    | some (.lst _) => true
    | _ => false
  | _ => false
def fTupL : ZF := fun ds G Q => match ds with
  | [.cl es] => Q (.tup es) G
  | [.tup es] => Q (.tup es) G
  | [.ct es] => Q (.ct es) G
  | [.ref a] => match G a with
    | some (.lst es) => Q (.tup es) G
    | _ => False
  | _ => False
theorem zf_tuple : ZCall X (.type "tuple") fTupL := CallRi call_tuple_of fun xs H Q q => by
  obtain ⟨ds, G, Q0, g, r, h, k⟩ := q
  unfold fTupL at h
  split at h
  · cases r with
    | cons r1 r2 =>
      cases r2
      cases r1 with
      | cl hq r => exact ⟨_, _, rfl, .inl ⟨hq.sq, fun p hp => CK.tup k hp h g r⟩⟩
  · cases r with
    | cons r1 r2 =>
      cases r2
      cases r1 with
      | tup hq r => exact ⟨_, _, rfl, .inr ⟨hq.sq, CK.at k h g (.tup hq r)⟩⟩
  · cases r with
    | cons r1 r2 =>
      cases r2
      cases r1 with
      | ct hq r => exact ⟨_, _, rfl, .inr ⟨hq.sq, CK.at k h g (.ct hq r)⟩⟩
  · split at h
    · rename_i es e
      cases r with
      | cons r1 r2 =>
        cases r2
        cases r1 with
        | ref a =>
          obtain ⟨ys, hy, r⟩ := g _ _ e
          exact ⟨_, _, rfl, .inl ⟨SqL.of hy, fun p hp => CK.tup k hp h g r⟩⟩
    · cases h
  · cases h
/-- list(seq) -/
def fList : ZF := fun ds G Q => match ds with
  | [d] => match seqD G d with
    | some es => ∀ p G', G p = none → At G p (.lst es) G' → Q (.ref p) G'
    | none => False
  | _ => False
theorem zf_list : ZCall X (.type "list") fList := CallRi call_list_of fun xs H Q q => by
  obtain ⟨ds, G, Q0, g, r, h, k⟩ := q
  unfold fList at h
  split at h
  · split at h
    · rename_i es e
      cases r with
      | cons r1 r2 =>
        cases r2
        obtain ⟨p, ys, rfl, hq, r⟩ := seqD_rep g r1 e
        exact ⟨_, ys, rfl, hq, fun l hl => CK.new (m := .lst es) k hl g ⟨ys, upd_same, r.mono (tm_new hl)⟩ fun G' n at_ => h l G' n at_⟩
    · cases h
  · cases h

/-! ### methods of built-in types -/
abbrev ZM := D → List D → Gp → DK → Prop
def upM (K : PySem.W.Frag) (z : ZM) : V → List V → Hp → VK → Prop := fun x xs H Q => ∃ d ds G Q0, SimG K H G ∧ Rep K H x d ∧ Reps K H xs ds ∧ z d ds G Q0 ∧ CK K H G Q0 Q
def ZMt (X : Cx) (id : String) (z : ZM) : Prop := MtR X id (upM X.K z)
theorem MtRi {id : String} {r r' : V → List V → Hp → VK → Prop} (h : MtR X id r) (i : ∀ x xs H Q, r' x xs H Q → r x xs H Q) : MtR X id r' := fun pins s σ H x xs v us Q I rx rs q => h pins s σ H x xs v us Q I rx rs (i x xs H Q q)
/-- the type of a value -/
def tyZ (T : String) (d : D) (G : Gp) : Prop := match d with
  | .str _ => T = "str"
  | .int _ => T = "int"
  | .cl _ => T = "list"
  | .ref a => match G a with
    | some (.lst _) => T = "list"
    | some (.dk _) => T = "dict"
    | some (.dt _) => T = "dict"
    | _ => False
  | _ => False
theorem tyZ_rep {K : PySem.W.Frag} {H : Hp} {G : Gp} {T : String} {v : V} {d : D} (g : SimG K H G) (r : Rep K H v d) (t : tyZ T d G) : tyV K T v H := by
  cases r with
  | str x => exact t
  | int x => exact t
  | cl hq r => exact .inl ⟨t, _, hq.sq⟩
  | ref a =>
    unfold tyZ at t
    simp only at t
    split at t
    · rename_i es e
      obtain ⟨xs, hx, _⟩ := g _ _ e
      exact .inl ⟨t, _, SqL.of hx⟩
    · rename_i es e
      obtain ⟨xs, hx, _⟩ := g _ _ e
      exact .inr (.inr (.inl ⟨t, .inl ⟨_, hx⟩⟩))
    · rename_i es e
      obtain ⟨xs, hx, _⟩ := g _ _ e
      exact .inr (.inr (.inl ⟨t, .inr ⟨_, hx⟩⟩))
    · cases t
  | _ => exact False.elim t
def zBM (T : String) (z : ZM) (to : DE) (t : DA) : DE := fun ρ G Q => to ρ G fun d G1 => tyZ T d G1 ∧ t ρ G1 fun ds G2 => z d ds G2 Q
def zBM0 (T : String) (z : ZM) (to : DE) : DE := fun ρ G Q => to ρ G fun d G1 => tyZ T d G1 ∧ z d [] G1 Q
variable {o e : Expr} {es : List Expr} {to : DE} {t : DA} {name : Str} {apos cpos : Pos} {T id : String} {z : ZM}
theorem z_bm0 (pa : PlainAttrs T) (slot : Slot T name id) (hty : typeOf (.builtin id) = pure (.type "method_descriptor")) (hm : ZMt X id z) (ho : ZE X o to)
    (hbase : attributeBase o name X.env (eval o X.env) = eval o X.env := by rfl) (hline : (apos.endLine == cpos.line) = true := by rfl) : ZE X (.Call (.Attribute o name apos) [] [] cpos) (zBM0 T z to) := PEi (pe_bm0 pa slot hty hm ho hbase hline) fun σ H Q q => by
  obtain ⟨ρ, G, Q0, hs, hg, h, k⟩ := q
  exact ⟨ρ, G, _, hs, hg, h, fun d G1 x H1 h1 f1 g1 r1 => ⟨tyZ_rep g1 r1 h1.1, d, [], G1, Q0, g1, r1, .nil, h1.2, CK.go k f1⟩⟩
theorem z_bm (pa : PlainAttrs T) (slot : Slot T name id) (hty : typeOf (.builtin id) = pure (.type "method_descriptor")) (hm : ZMt X id z) (ho : ZE X o to) (ha : ZA X (e :: es) t)
    (hbase : attributeBase o name X.env (eval o X.env) = eval o X.env := by rfl)
    (hfew : ((backTo cpos (starEach (e :: es) X.env)).all (fun x => !x.1) && (backToKw cpos (keywordEach [] X.env)).all (fun x => x.1.isSome)
      && decide ((e :: es).length + ([] : List Keyword).length + (if ([] : List Keyword).isEmpty then 0 else 1) < 30)) = true := by rfl)
    (hline : (apos.endLine == cpos.line) = true := by rfl) (hs : starEach (e :: es) X.env = (false, eval e X.env) :: starEach es X.env := by rfl) (hplain : (backTo cpos (starEach es X.env)).any (·.1) = false := by rfl) :
    ZE X (.Call (.Attribute o name apos) (e :: es) [] cpos) (zBM T z to t) := PEi (pe_bm pa slot hty hm ho ha hbase hfew hline hs hplain) fun σ H Q q => by
  obtain ⟨ρ, G, Q0, hs, hg, h, k⟩ := q
  exact ⟨ρ, G, _, hs, hg, h, fun d G1 x H1 h1 f1 g1 r1 => ⟨tyZ_rep g1 r1 h1.1, ρ, G1, _, hs.mono (hg.tm f1), g1, h1.2, fun ds G2 xs H2 h2 f2 g2 r2 => ⟨d, ds, G2, Q0, g2, r1.mono (g1.tm f2), r2, h2, CK.go k (f1.trans f2)⟩⟩⟩
def mAppend : ZM := fun d ds G Q => match d, ds with
  | .ref a, [x] => (match G a with
    | some (.lst es) => es.length < sizeLine ∧ ∀ G', At G a (.lst (es ++ [x])) G' → Q .non G'
    | _ => False)
  | _, _ => False
theorem zm_append : ZMt X "list.append" mAppend := MtRi mt_append fun x xs H Q q => by
  obtain ⟨d, ds, G, Q0, g, r, rs, h, k⟩ := q
  unfold mAppend at h
  split at h
  · split at h
    · rename_i es e
      cases rs with
      | cons r1 r2 =>
        cases r2
        cases r with
        | ref a =>
          obtain ⟨ys, hy, ry⟩ := g _ _ e
          exact ⟨_, ys, _, rfl, rfl, hy, by rw [ry.length]; exact h.1, CK.set (m := .lst _) k hy (fun z => z) e g ⟨_, upd_same, (ry.append (.cons r1 .nil)).mono (tm_set hy fun z => z)⟩ .non fun G' at_ => h.2 G' at_⟩
    · cases h
  · cases h
def mPop : ZM := fun d ds G Q => match d, ds with
  | .ref a, [] => (match G a with
    | some (.lst es) => (match es[es.length - 1]? with
      | some y => ∀ G', At G a (.lst es.dropLast) G' → Q y G'
      | none => False)
    | _ => False)
  | _, _ => False
theorem zm_pop : ZMt X "list.pop" mPop := MtRi mt_pop fun x xs H Q q => by
  obtain ⟨d, ds, G, Q0, g, r, rs, h, k⟩ := q
  unfold mPop at h
  split at h
  · split at h
    · rename_i es e
      split at h
      · rename_i y hy2
        cases rs
        cases r with
        | ref a =>
          obtain ⟨ys, hy, ry⟩ := g _ _ e
          obtain ⟨v, hv, rv⟩ := ry.get hy2
          have tt := tm_set (o := .lst ys.dropLast) hy fun z => z
          exact ⟨_, ys, v, rfl, rfl, hy, by rw [ry.length]; exact hv, CK.set (m := .lst _) k hy (fun z => z) e g ⟨_, upd_same, ry.dropLast.mono tt⟩ (rv.mono tt) fun G' at_ => h G' at_⟩
      · cases h
    · cases h
  · cases h

/-! ### xs[i] = e -/
def zSetL (to ti : DE) : DG := fun v ρ G Q => to ρ G fun o G1 => ti ρ G1 fun i G2 => match o, i with
  | .ref a, .int n => (match G2 a with
    | some (.lst es) => (match ixN es.length n with
      | some j => ∀ G', At G2 a (.lst (es.set j v)) G' → Q ρ G'
      | none => False)
    | _ => False)
  | _, _ => False
theorem zg_setL {o i : Expr} {to ti : DE} {pos : Pos} (ho : ZE X o to) (hi : ZE X i ti)
    (ha : ∀ v, assign (.Subscript o i pos) X.env v = (do
      let ov ← holding [v] (eval o X.env)
      let iv ← holding [v, ov] (eval i X.env)
      standAt pos
      holding [v, ov, iv] (setItem ov iv v)
      release [v, ov, iv] []) := by intro _; rfl) : ZG X (.Subscript o i pos) (zSetL to ti) := PGi (pg_sub ho hi set_list ha) fun v σ H Q q => by
  obtain ⟨d, ρ, G, Q0, r, hs, hg, h, k⟩ := q
  refine ⟨ρ, G, _, hs, hg, h, fun w G1 x H1 h1 f1 g1 r1 => ⟨ρ, G1, _, hs.mono (hg.tm f1), g1, h1, fun u G2 y H2 h2 f2 g2 r2 => ?_⟩⟩
  split at h2
  · split at h2
    · rename_i es e
      split at h2
      · rename_i j ej
        cases r2
        cases r1 with
        | ref a =>
          obtain ⟨ys, hy, ry⟩ := g2 _ _ e
          have tt := tm_set (o := .lst (ys.set j v)) hy fun z => z
          have rv := r.mono (hg.tm (f1.trans f2))
          refine ⟨_, ys, _, j, rfl, rfl, hy, by rw [ry.length]; exact ej, ?_⟩
          exact k ρ (put G2 _ (.lst (es.set j d))) σ _ (h2 _ (At.put _ _ _)) (f1.trans (f2.trans (Fr.put (.inr ⟨_, e⟩)))) (g2.put (.inr ⟨_, e⟩) tt ⟨_, upd_same, (ry.set j rv).mono tt⟩) ((hs.mono (hg.tm (f1.trans f2))).mono tt)
      · cases h2
    · cases h2
  · cases h2
/-- name op= e -/
def zAug (i : Nat) (te : DE) (z : Z2) : DS := fun Z ρ G => match ρ[i]? with
  | some (some x) => te ρ G fun y G1 => z x y G1 fun w G2 => Z.nx (ρ.set i (some w)) G2
  | _ => False
theorem z_aug {i : Nat} {x : Str} {e : Expr} {te : DE} {op : Operator} {z : Z2} {pos pos' : Pos} (hN : X.N.Nodup) (hi : X.N[i]? = some x) (hx : Loc X.env.scope x) (he : ZE X e te) (ho : ZOp X (inplaceOp op) z) (hf : X.fn x = true ∨ X.env.scope.names.lookup x = some .local := by first | exact .inl rfl | exact .inr rfl | assumption) :
    ZS X (.AugAssign (.Name x pos') op e pos) (zAug i te z) := PSi (ps_aug (ti := upR2 X.K z) hN hi hx he (fun pins s σ H x y v u Q I r1 r2 h => ho pins s σ H x y v u Q I r1 r2 h) hf) fun D σ H q => by
  obtain ⟨ρ, G, Z, hs, hg, h, k1, _⟩ := q
  unfold zAug at h
  split at h
  · rename_i d ed
    obtain ⟨v, hv, rv⟩ := hs.2 i d ed
    exact ⟨v, hv, ρ, G, _, hs, hg, h, fun y G1 u H1 h1 f1 g1 r1 => ⟨d, y, G1, _, g1, rv.mono (hg.tm f1), r1, h1, fun w G2 u2 H2 h2 f2 g2 r2 => k1 _ G2 _ H2 h2 (f1.trans f2) g2 ((hs.mono (hg.tm (f1.trans f2))).set r2)⟩⟩
  · cases h
theorem zi_add : ZOp X (inplaceOp .Add) (dI0 fun i j => .int (i + j)) := op_i0 iop_add fun _ _ _ => .int _
theorem zi_sub : ZOp X (inplaceOp .Sub) (dI0 fun i j => .int (i - j)) := op_i0 iop_sub fun _ _ _ => .int _
theorem zi_div : ZOp X (inplaceOp .FloorDiv) (dI CDiv fun i j => .int (i / j)) := op_iC iop_fdiv fun _ _ _ => .int _

/-! ### list + list -/
def dCat : Z2 := fun d e G Q => match d, e with
  | .ref a, .ref b => (match G a, G b with
    | some (.lst xs), some (.lst ys) => xs.length + ys.length ≤ sizeLine ∧ ∀ p G', G p = none → At G p (.lst (xs ++ ys)) G' → Q (.ref p) G'
    | _, _ => False)
  | _, _ => False
theorem zo_cat : ZOp X (binaryOp .Add) dCat := OpRi op_cat fun x y H Q q => by
  obtain ⟨d, e, G, Q0, g, rx, ry, h, k⟩ := q
  unfold dCat at h
  split at h
  · split at h
    · rename_i xs ys e1 e2
      cases rx
      cases ry
      obtain ⟨us, hu, ru⟩ := g _ _ e1
      obtain ⟨ws, hw, rw'⟩ := g _ _ e2
      exact ⟨_, _, us, ws, rfl, rfl, hu, hw, by rw [ru.length, rw'.length]; exact h.1, fun p hp => CK.new (m := .lst (xs ++ ys)) k hp g ⟨_, upd_same, (ru.append rw').mono (tm_new hp)⟩ fun G' n at_ => h.2 p G' n at_⟩
    · cases h
  · cases h
def dCatS : Z2 := fun d e G Q => match d, e with
  | .str a, .str b => a.length + b.length ≤ sizeLine ∧ Q (.str (a ++ b)) G
  | _, _ => False
theorem zo_catS : ZOp X (binaryOp .Add) dCatS := OpRi op_add_str fun x y H Q q => by
  obtain ⟨d, e, G, Q0, g, rx, ry, h, k⟩ := q
  unfold dCatS at h
  split at h
  · cases rx
    cases ry
    exact ⟨_, _, rfl, rfl, h.1, CK.at k h.2 g (.str _)⟩
  · cases h
/-- t + u, tuples -/
def dCatT : Z2 := fun d e G Q => match d, e with
  | .tup a, .tup b => a ≠ [] ∧ a.length + b.length ≤ sizeLine ∧ Q (.tup (a ++ b)) G
  | .tup a, .ct b => a ≠ [] ∧ a.length + b.length ≤ sizeLine ∧ Q (.tup (a ++ b)) G
  | _, _ => False
theorem zo_catT : ZOp X (binaryOp .Add) dCatT := OpRi op_catT fun x y H Q q => by
  obtain ⟨d, e, G, Q0, g, rx, ry, h, k⟩ := q
  have go : ∀ {a b : Addr} {xs ys : List V} {ds es : List D}, TqT X.K H a xs → SqT X.K H b ys → Reps X.K H xs ds → Reps X.K H ys es → ds ≠ [] ∧ ds.length + es.length ≤ sizeLine ∧ Q0 (.tup (ds ++ es)) G → rCatT X.K (.ref a) (.ref b) H Q := by
    intro a b xs ys ds es ha hb ra rb h
    refine ⟨a, b, xs, ys, rfl, rfl, ha.sq, hb, ?_, by rw [ra.length, rb.length]; exact h.2.1, fun e => ?_, fun _ p hp => CK.tup k hp h.2.2 g (ra.append rb)⟩
    · rintro rfl
      cases ra
      exact h.1 rfl
    · subst e
      cases rb
      have q := h.2.2
      rw [List.append_nil] at q
      exact CK.at k q g (.tup ha ra)
  unfold dCatT at h
  split at h
  · cases rx with
    | tup ha ra =>
      cases ry with
      | tup hb rb => exact go ha hb.sq ra rb h
  · cases rx with
    | tup ha ra =>
      cases ry with
      | ct hb rb => exact go ha hb.sq ra rb h
  · cases h
end
end Z

namespace Z
open PySem PySem.Spec PyProof.Rows L2
variable [τ : Tbl] [β : Bas]

/-! ### attributes as pairs -/
def putA (f : Str) (v : D) : List (Str × D) → List (Str × D)
  | [] => [(f, v)]
  | (g, x) :: r => if g = f then (g, v) :: r else (g, x) :: putA f v r
theorem RepKV.lookup {K : PySem.W.Frag} {H : Hp} (f : Str) : ∀ {ds : List (Str × D)} {vs : List (Str × V)}, RepKV K H vs ds → RepO' K H (vs.lookup f) (ds.lookup f)
  | [], _, .nil => True.intro
  | _ :: _, _, .cons (k := k) h r => by
    rw [List.lookup_cons, List.lookup_cons]
    cases e : f == k with
    | true => exact h
    | false => exact r.lookup f
theorem RepKV.putA {K : PySem.W.Frag} {H : Hp} {f : Str} {v : V} {d : D} (rv : Rep K H v d) : ∀ {ds : List (Str × D)} {vs : List (Str × V)}, RepKV K H vs ds → RepKV K H (putF f v vs) (putA f d ds)
  | [], _, .nil => .cons rv .nil
  | _ :: _, _, .cons (k := k) h r => by
    unfold putF Z.putA
    by_cases e : k = f
    · rw [if_pos e, if_pos e]
      exact .cons rv r
    · rw [if_neg e, if_neg e]
      exact .cons h (r.putA rv)

section
variable {X : Cx} {C : Addr} {o e value : Expr} {f m : Str} {pos pos' tpos apos p : Pos} {to tv : DE} {es : List Expr} {tA : DA}
/-- o.f -/
def zFld (C : Addr) (to : DE) (f : Str) : DE := fun ρ G Q => to ρ G fun d G1 => match d with
  | .ref a => (match G1 a with
    | some (.obj C' _ fs) => C' = C ∧ (match fs.lookup f with
      | some x => Q x G1
      | none => False)
    | _ => False)
  | _ => False
theorem z_fld (c : Cls X.K C) (n : NoAttr X.K C f) (ho : ZE X o to) (hb : attributeBase o f X.env (eval o X.env) = eval o X.env := by rfl) : ZE X (.Attribute o f pos) (zFld C to f) := PEi (pe_fld ho hb) fun σ H Q q => by
  obtain ⟨ρ, G, Q0, hs, hg, h, k⟩ := q
  refine ⟨ρ, G, _, hs, hg, h, fun d G1 x H1 h1 f1 g1 r1 => ?_⟩
  cases r1 with
  | ref a =>
    simp only at h1
    split at h1
    · rename_i C' dx fs ea
      obtain ⟨rfl, h1⟩ := h1
      split at h1
      · rename_i d ed
        obtain ⟨xs, hx, rx⟩ := g1 a _ ea
        have rl := rx.lookup f
        rw [ed] at rl
        cases el : xs.lookup f with
        | none => rw [el] at rl; exact rl.elim
        | some v =>
          rw [el] at rl
          exact ⟨a, _, _, xs, v, rfl, hx, c, n, el, k d G1 v H1 h1 f1 g1 rl⟩
      · cases h1
    · cases h1
  | _ => exact False.elim h1
/-- o.f = e -/
def zSFld (C : Addr) (to tv : DE) (f : Str) : DS := fun Z ρ G => tv ρ G fun y G1 => to ρ G1 fun x G2 => match x with
  | .ref a => (match G2 a with
    | some (.obj C' dx fs) => C' = C ∧ fs.length < 1000 ∧ ∀ G3, At G2 a (.obj C dx (putA f y fs)) G3 → Z.nx ρ G3
    | _ => False)
  | _ => False
theorem z_sfld (c : Cls X.K C) (n : NoAttr X.K C f) (ho : ZE X o to) (hv : ZE X value tv) (hs : swapsWith value (some (.Attribute o f pos')) pos.line X.env = pure false := by rfl) : ZS X (.Assign [.Attribute o f pos'] value pos) (zSFld C to tv f) := PSi (ps_fld ho hv hs) fun D σ H q => by
  obtain ⟨ρ, G, Z, hs, hg, h, k1, _⟩ := q
  refine ⟨ρ, G, _, hs, hg, h, fun y G1 v H1 h1 f1 g1 r1 => ⟨ρ, G1, _, hs.mono (hg.tm f1), g1, h1, fun x G2 u H2 h2 f2 g2 r2 => ?_⟩⟩
  cases r2 with
  | ref a =>
    simp only at h2
    split at h2
    · rename_i C' dx fs ea
      obtain ⟨rfl, hl, h2⟩ := h2
      obtain ⟨xs, hx, rx⟩ := g2 a _ ea
      have t := tm_set (o := .ins C' dx (putF f v xs)) hx fun z => z
      exact ⟨a, _, dx, xs, rfl, hx, c, n, by rw [rx.len]; exact hl, k1 ρ (put G2 a (.obj C' dx (putA f y fs))) σ _ (h2 _ (At.put _ _ _)) ((f1.trans f2).trans (Fr.put (.inr ⟨_, ea⟩))) (g2.put (.inr ⟨_, ea⟩) t ⟨_, upd_same, (rx.putA (r1.mono (g1.tm f2))).mono t⟩) ((hs.mono (hg.tm (f1.trans f2))).mono t)⟩
    · cases h2
  | _ => exact False.elim h2
/-- o.f op= e -/
def zFldAug (C : Addr) (to tv : DE) (z : Z2) (f : Str) : DS := fun Z ρ G => to ρ G fun x G1 => match x with
  | .ref a => (match G1 a with
    | some (.obj C' _ fs) => C' = C ∧ (match fs.lookup f with
      | some d => tv ρ G1 fun y G2 => z d y G2 fun w G3 => (match G3 a with
        | some (.obj C2 dx fs') => C2 = C ∧ fs'.length < 1000 ∧ ∀ G4, At G3 a (.obj C dx (putA f w fs')) G4 → Z.nx ρ G4
        | _ => False)
      | none => False)
    | _ => False)
  | _ => False
theorem z_fldaug {op : Operator} {z : Z2} (c : Cls X.K C) (n : NoAttr X.K C f) (ho : ZE X o to) (hv : ZE X value tv) (hop : ZOp X (inplaceOp op) z) : ZS X (.AugAssign (.Attribute o f tpos) op value pos) (zFldAug C to tv z f) := PSi (ps_fldaug (rd := upR2 X.K z) ho hv (fun pins s σ H x y u v Q I rx ry q => hop pins s σ H x y u v Q I rx ry q)) fun D σ H q => by
  obtain ⟨ρ, G, Z, hs, hg, h, k1, _⟩ := q
  refine ⟨ρ, G, _, hs, hg, h, fun x G1 u H1 h1 f1 g1 r1 => ?_⟩
  cases r1 with
  | ref a =>
    simp only at h1
    split at h1
    · rename_i C' dx fs ea
      obtain ⟨rfl, h1⟩ := h1
      split at h1
      · rename_i d ed
        obtain ⟨xs, hx, rx⟩ := g1 a _ ea
        have rl := rx.lookup f
        rw [ed] at rl
        cases el : xs.lookup f with
        | none => rw [el] at rl; exact rl.elim
        | some v =>
          rw [el] at rl
          refine ⟨a, _, _, xs, v, rfl, hx, c, n, el, ρ, G1, _, hs.mono (hg.tm f1), g1, h1, fun y G2 w H2 h2 f2 g2 r2 => ⟨d, y, G2, _, g2, rl.mono (g1.tm f2), r2, h2, fun w' G3 u3 H3 h3 f3 g3 r3 => ?_⟩⟩
          split at h3
          · rename_i C2 dx2 fs2 ea2
            obtain ⟨rfl, hl, h3⟩ := h3
            obtain ⟨xs2, hx2, rx2⟩ := g3 a _ ea2
            have t := tm_set (o := .ins C2 dx2 (putF f u3 xs2)) hx2 fun z => z
            have ff := f1.trans (f2.trans f3)
            exact ⟨dx2, xs2, hx2, by rw [rx2.len]; exact hl, k1 ρ (put G3 a (.obj C2 dx2 (putA f w' fs2))) σ _ (h3 _ (At.put _ _ _)) (ff.trans (Fr.put (.inr ⟨_, ea2⟩))) (g3.put (.inr ⟨_, ea2⟩) t ⟨_, upd_same, (rx2.putA r3).mono t⟩) ((hs.mono (hg.tm ff)).mono t)⟩
          · cases h3
      · cases h1
    · cases h1
  | _ => exact False.elim h1
/-- C(e, ..) -/
def zMake (C : Addr) (z : ZSp) (E0 : XKz) (t : DA) : DE := fun ρ G Q => t ρ G fun ds G1 => ∀ x dx G2, G1 x = none → At G1 x (.obj C dx []) G2 → z (.ref x :: ds) G2 (fun d G3 => d = .non ∧ Q (.ref x) G3) E0
theorem z_make {k : Nat} {g : Addr} {fd : FuncData} {ps : List Str} {z : ZSp} {x : Str} {E0 : XKz} {E : XK} (M : Mk X.K C g) (F : FnOk X.prog X.w X.K X.mg X.base (L2.CX X.prog X.w) k g fd ps (upSp X.K z)) (hr : Room (k + 1) X.A) (hg : Gl X x) (hm : X.mg x = some (.ref C)) (hb : Binds X.K fd ps [])
    (hE : EOk X.K E0 E) (hx : Passes (L2.CX X.prog X.w) X E) (ha : ZA X (e :: es) tA) (hdb : (x == ("__debug__" : Str)) = false := by decide) (he : starEach (e :: es) X.env = (false, eval e X.env) :: starEach es X.env := by rfl) (hpl : (backTo pos (starEach es X.env)).any (·.1) = false := by rfl) :
    ZE X (.Call (.Name x p) (e :: es) [] pos) (zMake C z E0 tA) := PEi (pe_make M F hr hg hm hb .nil hx ha hdb he hpl) fun σ H Q q => by
  obtain ⟨ρ, G, Q0, hs, hg, h, k⟩ := q
  refine ⟨ρ, G, _, hs, hg, h, fun ds G1 xs H1 h1 f1 g1 r1 x dx hx hdx ne => ?_⟩
  have ga := g1.keep (o := .own x) hdx
  have fa := Fr.tup (G := G1) (o := .own x) hdx
  have hx' : upd H1 dx (.own x) x = none := by rw [upd_ne (Ne.symm ne)]; exact hx
  have tb := tm_new (o := .ins C dx []) hx'
  have gb := ga.put (m := .obj C dx []) (.inl hx') tb ⟨[], upd_same, .nil⟩
  have fb := fa.trans (Fr.put (G := G1) (o := .ins C dx []) (m := .obj C dx []) (.inl hx'))
  have r2 := (r1.mono (g1.tm fa)).mono tb
  refine ⟨.ref x :: ds, put G1 x (.obj C dx []), _, E0, gb.toSim0, by rw [List.append_nil]; exact .cons (.ref x) r2, h1 x dx _ (g1.none hx) (At.put _ _ _), fun d G' v H' q f g r => ?_, fun c G' dx' H' q f g => hE c G' dx' H' q (gb.next f g)⟩
  obtain ⟨rfl, q⟩ := q
  cases r
  exact ⟨rfl, k _ G' _ H' q (f1.trans (fb.trans f)) (gb.next f g) (.ref x)⟩
theorem z_make0 {k : Nat} {g : Addr} {fd : FuncData} {ps : List Str} {z : ZSp} {x : Str} {E0 : XKz} {E : XK} (M : Mk X.K C g) (F : FnOk X.prog X.w X.K X.mg X.base (L2.CX X.prog X.w) k g fd ps (upSp X.K z)) (hr : Room (k + 1) X.A) (hg : Gl X x) (hm : X.mg x = some (.ref C)) (hb : Binds X.K fd ps [])
    (hE : EOk X.K E0 E) (hx : Passes (L2.CX X.prog X.w) X E) (hdb : (x == ("__debug__" : Str)) = false := by decide) : ZE X (.Call (.Name x p) [] [] pos) (zMake C z E0 zNil) := PEi (pe_make0 M F hr hg hm hb .nil hx hdb) fun σ H Q q => by
  obtain ⟨ρ, G, Q0, hs, hg, h, k⟩ := q
  intro x dx hx hdx ne
  have ga := hg.keep (o := .own x) hdx
  have fa := Fr.tup (G := G) (o := .own x) hdx
  have hx' : upd H dx (.own x) x = none := by rw [upd_ne (Ne.symm ne)]; exact hx
  have tb := tm_new (o := .ins C dx []) hx'
  have gb := ga.put (m := .obj C dx []) (.inl hx') tb ⟨[], upd_same, .nil⟩
  have fb := fa.trans (Fr.put (G := G) (o := .ins C dx []) (m := .obj C dx []) (.inl hx'))
  refine ⟨[.ref x], put G x (.obj C dx []), _, E0, gb.toSim0, .cons (.ref x) .nil, h x dx _ (hg.none hx) (At.put _ _ _), fun d G' v H' q f g r => ?_, fun c G' dx' H' q f g => hE c G' dx' H' q (gb.next f g)⟩
  obtain ⟨rfl, q⟩ := q
  cases r
  exact ⟨rfl, k _ G' _ H' q (fb.trans f) (gb.next f g) (.ref x)⟩
/-- o.m(e, ..) -/
def zMeth (C : Addr) (m : Str) (z : ZSp) (E0 : XKz) (to : DE) (t : DA) : DE := fun ρ G Q => to ρ G fun d G1 => match d with
  | .ref a => (match G1 a with
    | some (.obj C' _ fs) => C' = C ∧ fs.lookup m = none ∧ t ρ G1 fun ds G2 => z (.ref a :: ds) G2 Q E0
    | _ => False)
  | _ => False
theorem up_meth {K : PySem.W.Frag} {C : Addr} {m : Str} {z : ZSp} {E0 : XKz} {E : XK} {to : DE} {t : DA} (hE : EOk K E0 E) {σ : L2.St} {H : Hp} {Q : VK} (q : upE K (zMeth C m z E0 to t) σ H Q) : tMeth C m (upSp K z) [] E (upE K to) (upA K t) σ H Q := by
  obtain ⟨ρ, G, Q0, hs, hg, h, k⟩ := q
  refine ⟨ρ, G, _, hs, hg, h, fun d G1 x H1 h1 f1 g1 r1 => ?_⟩
  cases r1 with
  | ref a =>
    simp only at h1
    split at h1
    · rename_i C' dx fs ea
      obtain ⟨rfl, hn, h1⟩ := h1
      obtain ⟨xs, hx, rx⟩ := g1 a _ ea
      have rl := rx.lookup m
      rw [hn] at rl
      have el : xs.lookup m = none := by
        cases el : xs.lookup m with
        | none => rfl
        | some v => rw [el] at rl; exact rl.elim
      exact ⟨a, dx, xs, rfl, hx, el, ρ, G1, _, hs.mono (hg.tm f1), g1, h1, fun ds G2 vs H2 h2 f2 g2 r2 => ⟨.ref a :: ds, G2, Q0, E0, g2.toSim0, by rw [List.append_nil]; exact .cons (.ref a) r2, h2, fun d G' v H' q f g r => k d G' v H' q (f1.trans (f2.trans f)) (g2.next f g) r, fun c G' dx H' q f g => hE c G' dx H' q (g2.next f g)⟩⟩
    · cases h1
  | _ => exact False.elim h1
theorem z_meth {k : Nat} {g : Addr} {fd : FuncData} {ps : List Str} {z : ZSp} {pl : Sem Bool} {E0 : XKz} {E : XK} (c : Cls X.K C) (hm : Meth X.K C m g) (F : FnOk X.prog X.w X.K X.mg X.base (L2.CX X.prog X.w) k g fd ps (upSp X.K z)) (hr : Room k X.A) (hb : Binds X.K fd ps [])
    (hE : EOk X.K E0 E) (hx : Passes (L2.CX X.prog X.w) X E) (ho : ZE X o to) (ha : ZA X (e :: es) tA)
    (hst : starEach (e :: es) X.env = (false, eval e X.env) :: starEach es X.env := by rfl) (hpl : (backTo pos (starEach es X.env)).any (·.1) = false := by rfl)
    (ht : eval (.Call (.Attribute o m apos) (e :: es) [] pos) X.env = (do
      let ov ← eval o X.env
      standAt apos.atName
      let (f, first) ← holding [ov] (getMethod ov m pl)
      callWith pos f first (backTo pos (starEach (e :: es) X.env)) (backToKw pos (keywordEach [] X.env))) := by rfl) :
    ZE X (.Call (.Attribute o m apos) (e :: es) [] pos) (zMeth C m z E0 to tA) := PEi (pe_meth ho c hm F hr hb .nil hx ha hst hpl ht) fun _ _ _ q => up_meth hE q
theorem z_meth0 {k : Nat} {g : Addr} {fd : FuncData} {ps : List Str} {z : ZSp} {pl : Sem Bool} {E0 : XKz} {E : XK} (c : Cls X.K C) (hm : Meth X.K C m g) (F : FnOk X.prog X.w X.K X.mg X.base (L2.CX X.prog X.w) k g fd ps (upSp X.K z)) (hr : Room k X.A) (hb : Binds X.K fd ps [])
    (hE : EOk X.K E0 E) (hx : Passes (L2.CX X.prog X.w) X E) (ho : ZE X o to)
    (ht : eval (.Call (.Attribute o m apos) [] [] pos) X.env = (do
      let ov ← eval o X.env
      standAt apos.atName
      let (f, first) ← holding [ov] (getMethod ov m pl)
      callWith pos f first (backTo pos (starEach [] X.env)) (backToKw pos (keywordEach [] X.env))) := by rfl) :
    ZE X (.Call (.Attribute o m apos) [] [] pos) (zMeth C m z E0 to zNil) := PEi (pe_meth0 ho c hm F hr hb .nil hx ht) fun σ H Q q => by
  obtain ⟨ρ, G, Q0, hs, hg, h, k⟩ := q
  refine ⟨ρ, G, _, hs, hg, h, fun d G1 x H1 h1 f1 g1 r1 => ?_⟩
  cases r1 with
  | ref a =>
    simp only at h1
    split at h1
    · rename_i C' dx fs ea
      obtain ⟨rfl, hn, h1⟩ := h1
      obtain ⟨xs, hx, rx⟩ := g1 a _ ea
      have rl := rx.lookup m
      rw [hn] at rl
      have el : xs.lookup m = none := by
        cases el : xs.lookup m with
        | none => rfl
        | some v => rw [el] at rl; exact rl.elim
      exact ⟨a, dx, xs, rfl, hx, el, [.ref a], G1, Q0, E0, g1.toSim0, .cons (.ref a) .nil, h1, fun d G' v H' q f g r => k d G' v H' q (f1.trans f) (g1.next f g) r, fun c G' dx H' q f g => hE c G' dx H' q (g1.next f g)⟩
    · cases h1
  | _ => exact False.elim h1

/-! ### raise, f-strings -/
def zRaise (C : Addr) (E0 : XKz) : DS := fun _ _ G => E0 (.ref C) G
def zRaise1 (C : Addr) (E0 : XKz) (te : DE) : DS := fun _ ρ G => te ρ G fun _ G1 => E0 (.ref C) G1
theorem z_raise1 {B newId initId : String} {bmB : List Value} {x : Str} {p2 : Pos} {te : DE} {E0 : XKz} {E : XK} (F : ExcBaseFacts B newId initId bmB) (q : PySem.W.excIn X.K C bmB newId = true) (gC : X.mg x = some (.ref C)) (kC : PySem.W.keepIn X.K (.ref C) = true) (r : Raises X (.ref C)) (hg : Gl X x)
    (hc : X.calm = true) (tk : Takes X (fun cls d _ H => E cls d H)) (hE : EOk X.K E0 E) (he : ZE X e te) (hs : starEach [e] X.env = (false, eval e X.env) :: starEach [] X.env := by rfl) (hdb : (x == ("__debug__" : Str)) = false := by decide) :
    ZS X (.Raise (some (.Call (.Name x p) [e] [] p2)) none pos) (zRaise1 C E0 te) := PSi (ps_raise hc tk (SkE.pmk_own1 F q gC kC r hg he hs hdb)) fun D σ H q => by
  obtain ⟨ρ, G, Z, hs, hg, h, _⟩ := q
  exact ⟨ρ, G, _, hs, hg, h, fun d G1 x H1 h1 f1 g1 r1 => hE _ _ _ _ h1 g1⟩
/-- a statement that is never reached -/
def zNever : DS := fun _ _ _ => False
theorem z_never {st : Stmt} : ZS X st zNever := PSi (t := L2.tNever) ps_never fun D σ H q => by
  obtain ⟨ρ, G, Z, hs, hg, h, _⟩ := q
  exact h.elim
def zFmt (te : DE) : DE := fun ρ G Q => te ρ G fun d G1 => match d with
  | .str y => y.length ≤ sizeLine ∧ Q (.str y) G1
  | .int i => i.natAbs.log2 < 1920 ∧ Q (.str (toString i)) G1
  | _ => False
theorem z_fmt {te : DE} (he : ZE X e te) : ZE X (.FormattedValue e (-1) none pos) (zFmt te) := PEi (pe_fmt he) fun σ H Q q => by
  obtain ⟨ρ, G, Q0, hs, hg, h, k⟩ := q
  refine ⟨ρ, G, _, hs, hg, h, fun d G1 x H1 h1 f1 g1 r1 => ?_⟩
  cases r1 with
  | str y => exact .inl ⟨y, rfl, h1.1, k _ G1 _ H1 h1.2 f1 g1 (.str _)⟩
  | int i => exact .inr ⟨i, rfl, h1.1, k _ G1 _ H1 h1.2 f1 g1 (.str _)⟩
  | _ => exact False.elim h1
inductive ZJ (X : Cx) : List Expr → List DE → Prop where
  | nil : ZJ X [] []
  | cons {e : Expr} {t : DE} {es : List Expr} {ts : List DE} (h : ZE X e t) (r : ZJ X es ts) : ZJ X (e :: es) (t :: ts)
def zJs : List DE → Str → ZSt → Gp → (Str → Gp → Prop) → Prop
  | [], acc, _, G, Q => Q acc G
  | t :: ts, acc, ρ, G, Q => t ρ G fun d G1 => match d with
    | .str y => (acc ++ y).length ≤ sizeLine ∧ zJs ts (acc ++ y) ρ G1 Q
    | _ => False
theorem zj_pj {es : List Expr} {ts : List DE} (h : ZJ X es ts) : PJ X es (ts.map (upE X.K)) := by
  induction h with
  | nil => exact .nil
  | cons h _ ih => exact .cons h ih
theorem up_js {K : PySem.W.Frag} : ∀ {ts : List DE} {acc : Str} {σ : L2.St} {ρ : ZSt} {H : Hp} {G : Gp} {Q0 : Str → Gp → Prop} {Q : Str → Hp → Prop}, SimS K H σ ρ → SimG K H G → zJs ts acc ρ G Q0 → (∀ y G' H', Q0 y G' → Fr H G H' G' → SimG K H' G' → Q y H') → tJs (ts.map (upE K)) acc σ H Q
  | [], _, _, _, _, _, _, _, _, hg, h, k => k _ _ _ h (Fr.refl _ _) hg
  | t :: ts, acc, σ, ρ, H, G, Q0, Q, hs, hg, h, k => ⟨ρ, G, _, hs, hg, h, fun d G1 x H1 h1 f1 g1 r1 => by
      cases r1 with
      | str y => exact ⟨y, rfl, h1.1, up_js (hs.mono (hg.tm f1)) g1 h1.2 fun y G' H' q f g => k y G' H' q (f1.trans f) g⟩
      | _ => exact False.elim h1⟩
def zJoin (ts : List DE) : DE := fun ρ G Q => zJs ts Str.empty ρ G fun y G1 => Q (.str y) G1
theorem z_joined {v1 v2 : Expr} {rest : List Expr} {ts : List DE} (h : ZJ X (v1 :: v2 :: rest) ts) : ZE X (.JoinedStr (v1 :: v2 :: rest) pos) (zJoin ts) := PEi (pe_joined (zj_pj h)) fun σ H Q q => by
  obtain ⟨ρ, G, Q0, hs, hg, h, k⟩ := q
  exact up_js hs hg h fun y G' H' q f g => k _ G' _ H' q f g (.str _)
end

/-! ### a def's promise by its body -/
def zstart (N : List Str) (ds : List D) : ZSt := ds.map some ++ List.replicate (N.length - ds.length) none
theorem sims_start {K : PySem.W.Frag} {H : Hp} {N : List Str} {vs : List V} {ds : List D} (r : Reps K H vs ds) : SimS K H (L2.start N vs) (zstart N ds) := by
  unfold L2.start zstart
  refine ⟨by simp [r.length], fun i d e => ?_⟩
  by_cases hi : i < ds.length
  · rw [List.getElem?_append_left (by simpa using hi), List.getElem?_map] at e
    cases q : ds[i]? with
    | none => rw [q] at e; cases e
    | some d' =>
      rw [q] at e
      cases e
      obtain ⟨v, hv, rv⟩ := r.get q
      exact ⟨v, by rw [List.getElem?_append_left (by rw [List.length_map, r.length]; exact hi), List.getElem?_map, hv]; rfl, rv⟩
  · rw [List.getElem?_append_right (by simp; omega)] at e
    have := List.mem_of_getElem? e
    rw [List.mem_replicate] at this
    cases this.2
end Z
namespace Z
open PySem PySem.Spec PyProof.Rows L2
variable [τ : Tbl]
section
variable {P : Program} {w : World} {K : PySem.W.Frag} {mg : Str → Option Value} {base : Heap}
theorem z_fn {x qual : Str} {st : Stmt} {f : Addr} {fd : FuncData} {N ps : List Str} {k : Nat} {z : ZSp} (F : Fun K x qual st f fd) (S : FnScope N ps (defScope st)) (len : ∀ ds G Q E, z ds G Q E → ds.length = ps.length)
    (hbody : ∀ (bas : Bas) (cdv : Value) (A : Around) (outer : List Env) (s : Shared) (H : Hp) (E : XK), Room k (A.deeper (envOfC qual (defScope st) s.heap.objs.size f cdv)) → ∀ (ds : List D) (G : Gp) (Q : DK) (E0 : XKz), @EOk τ bas K E0 E → z ds G Q E0 →
      ∃ t, @ZSs τ bas (cxOf (L2.CX P w) P w K mg base N qual (defScope st) f cdv A outer s H E) (defBody st) t ∧ t { nx := fun _ G' => Q .non G', rt := Q } (zstart N ds) G) : FnOk P w K mg base (L2.CX P w) (k + 1) f fd ps (upSp K z) := by
  refine F.okX S (fun vs H Q E h => ?_) (fun cdv A outer s H vs Q E hr h => ?_)
  · obtain ⟨ds, G, Q0, E0, _, r, hz, _⟩ := h
    rw [r.length]
    exact len _ _ _ _ hz
  · obtain ⟨ds, G, Q0, E0, g, r, hz, k1, k2⟩ := h
    obtain ⟨t, ht, hq⟩ := hbody (frBas H G) cdv A outer s H E hr ds G Q0 E0 (fun c G' dx H' e g' => k2 c G' dx H' e (@SimG.base τ (frBas H G) _ _ _ g') (@SimG.toSim0 τ (frBas H G) _ _ _ g')) hz
    letI : Bas := frBas H G
    exact ⟨_, ht, zstart N ds, G, _, sims_start r, ⟨g, Fr.refl H G⟩, hq, fun ρ' G' σ' H' q f g' s' => k1 .non G' .non H' q f g'.toSim0 .non, fun d G' v H' q f g' r => k1 d G' v H' q f g'.toSim0 r, fun _ _ _ _ q => q.elim, fun _ _ _ _ q => q.elim⟩
end
end Z

namespace Z
open PySem PySem.Spec PyProof.Rows L2
variable [τ : Tbl] [β : Bas]

/-! ### names of the module's top -/
section
variable {X : Cx} {pos : Pos}
theorem up_glob {v : V} {d : D} {x : Str} {u : Value} (hg : Gl X x) (hm : X.mg x = some u) (r : RelV v u) (rd : ∀ H, Rep X.K H v d) (hd : (x == ("__debug__" : Str)) = false := by decide) : ZE X (.Name x pos) (zC d) := up_c (pe_glob hg hm r hd) rd
theorem z_gint {x : Str} {i : Int} (hg : Gl X x) (hm : ∃ t, X.mg x = some (.int i t)) (hd : (x == ("__debug__" : Str)) = false := by decide) : ZE X (.Name x pos) (zC (.int i)) := by
  obtain ⟨t, hm⟩ := hm
  exact up_glob (v := .int i) hg hm ⟨t, rfl⟩ (fun _ => .int _) hd
theorem z_gstr {x y : Str} (hg : Gl X x) (hm : ∃ t, X.mg x = some (.str y t)) (hd : (x == ("__debug__" : Str)) = false := by decide) : ZE X (.Name x pos) (zC (.str y)) := by
  obtain ⟨t, hm⟩ := hm
  exact up_glob (v := .str y) hg hm ⟨t, rfl⟩ (fun _ => .str _) hd
/-- a written tuple at the top -/
theorem z_gct {x : Str} {a : Addr} {xs : List V} {ds : List D} (hg : Gl X x) (hm : X.mg x = some (.ref a)) (hq : CqT X.K a xs) (hr : ∀ H, Reps X.K H xs ds) (hd : (x == ("__debug__" : Str)) = false := by decide) : ZE X (.Name x pos) (zC (.ct ds)) :=
  up_glob (v := .ref a) hg hm rfl (fun H => .ct hq (hr H)) hd
end
theorem reps_strs {K : PySem.W.Frag} {H : Hp} : ∀ ys : List Str, Reps K H (ys.map V.str) (ys.map D.str)
  | [] => .nil
  | y :: r => .cons (.str y) (reps_strs r)
theorem Reps.of_strs {K : PySem.W.Frag} {H : Hp} : ∀ {ys : List Str} {vs : List V}, Reps K H vs (ys.map D.str) → vs = ys.map V.str
  | [], _, .nil => rfl
  | _ :: _, _, .cons (.str _) r => by rw [List.map_cons, Reps.of_strs r]

/-! ### plain comparisons -/
def dEqF (neg : Bool) : Z2 := fun d e G Q => match d, e with
  | .int i, .int j => Q (.bl (neg != decide (i = j))) G
  | .str i, .str j => Q (.bl (neg != decide (i = j))) G
  | .bl i, .bl j => Q (.bl (neg != decide (i = j))) G
  | _, _ => False
section
variable {X : Cx}
theorem dec_inj {α : Type} [DecidableEq α] {c : α → V} (h : ∀ a b, c a = c b → a = b) (a b : α) : decide (c a = c b) = decide (a = b) := decide_eq_decide.mpr ⟨h a b, fun e => by rw [e]⟩
theorem zo_eqF : ZOp X (compareOp .Eq) (dEqF false) := OpRi op_eq fun x y H Q q => by
  obtain ⟨d, e, G, Q0, sg, rx, ry, h, k⟩ := q
  unfold dEqF at h
  split at h
  · cases rx; cases ry
    refine ⟨rfl, ?_⟩
    rw [dec_inj (c := V.int) (fun a b e => V.int.inj e)]
    exact CK.at k h sg (by simpa using Rep.bl _)
  · cases rx; cases ry
    refine ⟨rfl, ?_⟩
    rw [dec_inj (c := V.str) (fun a b e => V.str.inj e)]
    exact CK.at k h sg (by simpa using Rep.bl _)
  · cases rx; cases ry
    refine ⟨rfl, ?_⟩
    rw [dec_inj (c := V.bl) (fun a b e => V.bl.inj e)]
    exact CK.at k h sg (by simpa using Rep.bl _)
  · cases h
theorem zo_neF : ZOp X (compareOp .NotEq) (dEqF true) := OpRi op_ne fun x y H Q q => by
  obtain ⟨d, e, G, Q0, sg, rx, ry, h, k⟩ := q
  unfold dEqF at h
  split at h
  · cases rx; cases ry
    refine ⟨rfl, ?_⟩
    rw [dec_inj (c := V.int) (fun a b e => V.int.inj e)]
    exact CK.at k h sg (by simpa using Rep.bl _)
  · cases rx; cases ry
    refine ⟨rfl, ?_⟩
    rw [dec_inj (c := V.str) (fun a b e => V.str.inj e)]
    exact CK.at k h sg (by simpa using Rep.bl _)
  · cases rx; cases ry
    refine ⟨rfl, ?_⟩
    rw [dec_inj (c := V.bl) (fun a b e => V.bl.inj e)]
    exact CK.at k h sg (by simpa using Rep.bl _)
  · cases h
/-- one sign in a text -/
def dSign (neg : Bool) : Z2 := fun d e G Q => match d, e with
  | .str x, .str z => ∃ c, x = ⟨#[c]⟩ ∧ Q (.bl (neg != decide (c ∈ z.cps.toList))) G
  | _, _ => False
theorem zo_sign : ZOp X (compareOp .In) (dSign false) := OpRi op_in_sign fun x y H Q q => by
  obtain ⟨d, e, G, Q0, sg, rx, ry, h, k⟩ := q
  unfold dSign at h
  split at h
  · cases rx; cases ry
    obtain ⟨c, rfl, h⟩ := h
    exact ⟨c, _, rfl, rfl, CK.at k h sg (by simpa using Rep.bl _)⟩
  · cases h
theorem zo_notsign : ZOp X (compareOp .NotIn) (dSign true) := OpRi op_notIn_sign fun x y H Q q => by
  obtain ⟨d, e, G, Q0, sg, rx, ry, h, k⟩ := q
  unfold dSign at h
  split at h
  · cases rx; cases ry
    obtain ⟨c, rfl, h⟩ := h
    exact ⟨c, _, rfl, rfl, CK.at k h sg (by simpa using Rep.bl _)⟩
  · cases h
/-- a text, many times -/
def dRep : Z2 := fun d e G Q => match d, e with
  | .str x, .int n => (1 < n ∧ n < 1000 ∧ 0 < x.length ∧ x.length < 1000) ∧ Q (.str (Txt.mul x n)) G
  | _, _ => False
theorem mulOk {x : Str} {n : Int} (h : 1 < n ∧ n < 1000 ∧ 0 < x.length ∧ x.length < 1000) : MulOk x n := by
  obtain ⟨h1, h2, h3, h4⟩ := h
  refine ⟨?_, fun _ _ => ?_, fun _ _ => ?_⟩
  · rw [decide_eq_false (by omega), decide_eq_false (by omega)] <;> rfl
  · have e : (1000 : Int) ≤ (2 ^ 63 - 1) / n := by
      rw [Int.le_ediv_iff_mul_le (by omega)]
      omega
    omega
  · unfold Builtin.Str.tooLong
    have : x.length * n.toNat ≤ 1000 * 1000 := Nat.mul_le_mul (by omega) (by omega)
    have hs : (1000 * 1000 : Nat) ≤ sizeLine := by decide
    simp only [decide_eq_false_iff_not]
    omega
theorem zo_rep : ZOp X (binaryOp .Mult) dRep := by
  intro pins s σ H x y v u Q I rx ry q
  obtain ⟨d, e, G, Q0, sg, qx, qy, h, k⟩ := q
  unfold dRep at h
  split at h
  · cases qx; cases qy
    obtain ⟨t, rfl⟩ := rx
    obtain ⟨t', rfl⟩ := ry
    exact SB.mul (mulOk h.1) fun t9 tk => ⟨.str (Txt.mul _ _), H, I.tok _, ⟨_, rfl⟩, CK.at k h.2 sg (.str _)⟩
  · cases h
/-- str(n) -/
def fStrI : ZF := fun ds G Q => match ds with
  | [.int i] => i.natAbs.log2 < 1920 ∧ Q (.str (toString i)) G
  | _ => False
theorem zf_strI : ZCall X (.type "str") fStrI := CallRi call_str_int fun xs H Q q => by
  obtain ⟨ds, G, Q0, sg, rs, h, k⟩ := q
  unfold fStrI at h
  split at h
  · cases rs with
    | cons r rs =>
      cases rs
      cases r
      exact ⟨_, rfl, h.1, CK.at k h.2 sg (.str _)⟩
  · cases h
/-- int(text) -/
def fIntS : ZF := fun ds G Q => match ds with
  | [.str a] => a.length ≤ 640 ∧ ∃ n, PySem.intText? a = some n ∧ Q (.int n) G
  | _ => False
theorem zf_intS : ZCall X (.type "int") fIntS := CallRi call_int_str fun xs H Q q => by
  obtain ⟨ds, G, Q0, sg, rs, h, k⟩ := q
  unfold fIntS at h
  split at h
  · cases rs with
    | cons r rs =>
      cases rs
      cases r
      obtain ⟨h1, n, h2, h3⟩ := h
      exact ⟨_, n, rfl, h2, h1, CK.at k h3 sg (.int _)⟩
  · cases h
/-- sep.join(list of texts) -/
def mJoin : ZM := fun d ds G Q => match d, ds with
  | .str a, [.ref p] => ∃ ys : List Str, G p = some (.lst (ys.map D.str)) ∧ (ys.map (·.length)).sum + ys.length * a.length ≤ 16777216 ∧ Q (.str (Txt.join a ys)) G
  | _, _ => False
theorem zm_join : ZMt X "str.join" mJoin := MtRi mt_join fun x xs H Q q => by
  obtain ⟨d, ds, G, Q0, sg, rx, rs, h, k⟩ := q
  unfold mJoin at h
  split at h
  · cases rx
    cases rs with
    | cons r rs =>
      cases rs
      cases r
      obtain ⟨ys, hG, h1, h2⟩ := h
      obtain ⟨vs, hv, rv⟩ := sg _ _ hG
      have := rv.of_strs
      subst this
      exact ⟨_, _, ys, rfl, rfl, .inl (SqL.of hv), h1, CK.at k h2 sg (.str _)⟩
  · cases h
end
end Z

namespace Z
open PySem PySem.Spec PyProof.Rows L2
open GxR (TabB GenS trF trF_some)
open LamX (Tabs TabS ExtN CodeO)

/-! ### all(test for x in text), the test over what the module's top has written -/
def EltK (X : Cx) (scope : Scope) (x : Str) (elt : Expr) (pb : Nat → Bool) : Prop :=
  ∀ (ce : Env) (B : Around) (Ex : Value → Shared → Prop) (c : Nat) (t : Tok) (z : Shared) (m : Str → Option Value), ce.scope = scope → ce.globals = mainGlobals → X.K.In z.heap → z.heap.Ns mainGlobals X.mg → z.heap.Ns ce.locals m → m x = some (.str ⟨#[c]⟩ t) →
    wpAny (model X.prog X.w) B (eval elt ce) (fun y z' => y = .bool (pb c) ∧ Keeps z z') Ex z
theorem not_old {n : Nat} {b : Addr} {h : Heap} {o : Obj} (e : h.get? b = some o) (hn : h.objs.size ≤ n) : b ≠ n := fun z => by
  have := Heap.lt_size e
  subst z
  exact absurd this (Nat.not_lt.mpr hn)
/-- where the generator stands once its code is found: the heap y3, in it the iterator at it0; G3: y3 without that -/
structure Mid (X : Cx) (pins : List (Addr × Obj)) (σ : L2.St) (H3 : Hp) (P it0 : Addr) (ps : Array Value) (s1 : Shared) (y3 : Heap) (tq : Nat) (G3 : Heap) : Prop where
  inv : Inv X pins σ H3 { s1 with heap := G3, toks := tq }
  sub : ∀ b o, G3.get? b = some o → y3.get? b = some o ∧ b ≠ it0
  hP : H3 P = some (.tbl ps)
  lt : it0 < y3.objs.size
/-- the generator g over the signs of a, to be walked from s5 -/
def ReadyT (X : Cx) (pins : List (Addr × Obj)) (σ : L2.St) (H3 : Hp) (a : Str) (pb : Nat → Bool) (g : Addr) (s5 : Shared) : Prop :=
  ∃ (fp wr : List Addr) (G : Array GenState → Array GenState → Prop) (F : Nat → Value → Prop) (St : Nat → Shared → Prop), WalksS X.prog X.w X.A.in1 g fp wr G a.cps.size F St ∧ St 0 s5 ∧ TruthOf X.prog X.w X.A.in1 F (trF pb a.cps.toList) ∧
    ∀ s', Moved wr G s5 s' → Inv X pins σ H3 s'
section
variable {X : Cx} {pins : List (Addr × Obj)} {σ : L2.St} {H1 H3 : Hp} {P it0 : Addr} {ps more : Array Value} {s1 : Shared} {y3 G3 : Heap} {tq : Nat}
theorem Mid.ready {a : Str} {pb : Nat → Bool} {scope : Scope} {x : Str} {elt : Expr} {k : Nat} {code : Value} {c : Addr} {St : Nat → Heap → Prop} {Q' : Value → Shared → Prop} {E : Value → Shared → Prop}
    (M : Mid X pins σ H3 P it0 ps s1 y3 tq G3) (hr : Room k X.A) (TB : TabB X.base X.mg c P) (hel : EltK X scope x elt pb)
    (W : ∀ A' : Around, A'.handled = none → Walks X.prog X.w A' it0 [it0] [it0] a.cps.size (SignAt a) St) (h0 : St 0 y3) (lim : y3.NoLimit) (hcs : cStatics < it0)
    (hQ : ∀ g s5, ReadyT X pins σ H3 a pb g s5 → Q' (.ref g) s5) :
    wpAny (model X.prog X.w) X.A (builtinsFor X.env.globals X.env.builtins) (fun bi s₄ =>
      ∃ I fp wr n₀ Pz St₀ pz F, Value.ref it0 = .ref I ∧ (∀ A' : Around, A'.handled = none → Walks X.prog X.w A' I fp wr n₀ Pz St₀) ∧ St₀ 0 s₄.heap ∧ (∀ b ∈ fp, b < s₄.heap.objs.size) ∧ s₄.heap.NoLimit ∧ cStatics ∉ wr ∧
        (∀ hz : Heap, (∀ b o, s₄.heap.get? b = some o → hz.get? b = some o) → QuietGen X.prog X.w (genEnv scope (cloFrom X.env.cells scope.names []) s₄.heap.objs.size code bi X.env) x [] elt (List.range s₄.heap.objs.size) wr Pz pz F hz) ∧
        (∀ g h₅ tk gs, gs.bare = true → s₄.heap.objs.size < g → h₅.objs.size = g + 1 → (∀ b o, s₄.heap.get? b = some o → h₅.get? b = some o) →
          WalksS X.prog X.w X.A.in4 g (g :: s₄.heap.objs.size :: List.range s₄.heap.objs.size) (s₄.heap.objs.size :: wr) (GenOnlyQ s₄.gens.size) (passing pz n₀ 0).length
            (fun j y => ∃ i, (passing pz n₀ 0)[j]? = some i ∧ F i y) (GenAt X.prog X.w X.A.in4 g s₄.gens.size s₄.heap.objs.size (List.range s₄.heap.objs.size) wr pz n₀ F) →
          GenAt X.prog X.w X.A.in4 g s₄.gens.size s₄.heap.objs.size (List.range s₄.heap.objs.size) wr pz n₀ F 0 { s₄ with gens := s₄.gens.push gs, toks := tk, heap := h₅ } →
          Q' (.ref g) { s₄ with gens := s₄.gens.push gs, toks := tk, heap := h₅ })) E { s1 with heap := y3, toks := tq } := by
  have mainG : G3.Ns mainGlobals X.mg := M.inv.mod.glob.keeps M.inv.bk
  have kinG : X.K.In G3 := M.inv.kIn
  have mainY : y3.Ns mainGlobals X.mg := mainG.at fun o e => (M.sub _ o e).1
  obtain ⟨bm, ob, b1, b2, _, b4, b5, b6, b7, b8⟩ := TB.bm
  refine wpAny_builtinsFor (m := X.mg) (by rw [M.inv.ok.glob]; exact mainY) b1 b2 (M.sub _ _ (M.inv.bk _ _ b5)).1 b6 b7 b8 ?_
  refine ⟨it0, [it0], [it0], a.cps.size, SignAt a, St, fun _ => true, fun i y => ∃ q, a.cps[i]? = some q ∧ y = .bool (pb q), rfl, W, h0, fun b hb => ?_, lim, fun z => ?_, fun hz kz => ⟨?_, ?_⟩, fun g h5 tk gs gb ag sz k5 W5 at5 => ?_⟩
  · rw [List.mem_singleton] at hb
    rw [hb]
    exact M.lt
  · rw [List.mem_singleton] at z
    exact absurd hcs (by rw [z]; exact Nat.lt_irrefl _)
  · -- no tests
    intro A' E' i v z2 m2 _ _ _ _ _
    simp only [List.forIn_nil]
    exact wpAny_pure ⟨rfl, GxR.keeps_refl _⟩
  · -- the element
    intro A' E' i v z2 m2 _ hv _ hn hm hk
    obtain ⟨q, u, hq, rfl⟩ := hv
    have kept : ∀ b o, G3.get? b = some o → z2.heap.get? b = some o := fun b o e => by
      obtain ⟨e1, nb⟩ := M.sub b o e
      exact hk b (List.mem_range.mpr (Heap.lt_size e1)) (fun w => nb (List.mem_singleton.mp w)) o (kz b o e1)
    exact wpAny_mono (hel _ A' E' q u z2 m2 rfl M.inv.ok.glob (kinG.keeps kept) (mainG.keeps kept) hn hm) (fun y z3 r => ⟨⟨q, hq, r.1⟩, r.2⟩) fun _ _ e => e
  · simp only [GxR.passing_true, List.length_range] at W5
    refine hQ g _ ⟨_, _, _, _, _, W5.in4_1, at5, fun j y sj Qj Ej hy hq => ?_, fun s' mv => ?_⟩
    · obtain ⟨i, hi, q, hcq, rfl⟩ := hy
      obtain ⟨hj, ej⟩ := List.getElem?_eq_some_iff.mp hi
      rw [List.getElem_range] at ej
      subst ej
      have hq : Qj (trF pb a.cps.toList j) sj := hq
      rw [trF_some (b := q) (by rw [Array.getElem?_toList]; exact hcq)] at hq
      exact wpAny_truthy_bool hq
    · have go : ∀ b u, G3.get? b = some u → s'.heap.get? b = some u := fun b u e => by
        obtain ⟨e1, nb⟩ := M.sub b u e
        refine mv.heap b u (fun hb => ?_) (k5 b u e1)
        rw [List.mem_cons, List.mem_singleton] at hb
        rcases hb with hb | hb
        · rw [hb] at e1
          exact Nat.lt_irrefl _ (Heap.lt_size e1)
        · exact nb hb
      have J := GxR.inv_tab (more := #[]) (h' := s'.heap) (g' := s'.gens) (d' := s'.drawn) (t' := s'.toks) M.inv M.hP (fun b u _ e => go b u e) (by rw [Array.append_empty]; exact go P _ (M.inv.hok P _ M.hP)) (AllBare.movedS (M.inv.bare.push gb) mv)
      have same : upd H3 P (.tbl (ps ++ #[])) = H3 := funext fun b => by
        by_cases hb : b = P
        · rw [hb, upd_same, M.hP, Array.append_empty]
        · rw [upd_ne hb]
      rw [same] at J
      have es : ({ s1 with heap := s'.heap, gens := s'.gens, drawn := s'.drawn, toks := s'.toks } : Shared) = s' := GxR.sh_eta s1 s' mv.os
      rw [← es]
      exact J
theorem gen_signs {T : List (Addr × Str)} {s : Shared} {H : Hp} {c : Addr} {elt iter : Expr} {x : Str} {px gpos : Pos} {scope : Scope} {pb : Nat → Bool} {te : TE} {k : Nat} {Q' : Value → Shared → Prop} {R : Str → Hp → Prop}
    (hmT : (P, X.env.qual ++ "<genexpr>") ∈ T) (hu : ∀ p ∈ T, p.1 = P → p.2 = X.env.qual ++ "<genexpr>")
    (hr : Room k X.A) (TB : TabB X.base X.mg c P) (hcode : X.env.code = .ref c) (S : GenS X.env scope x) (hi : PE X iter te) (hel : EltK X scope x elt pb) (hs : ∀ v, genFold iter X.env v = pure v)
    (I : Inv X pins σ H s) (h : te σ H fun v H1 => ∃ a : Str, v = .str a ∧ Tabs T H1 ∧ ∀ H3, ExtN H1 H3 → Tabs T H3 → R a H3) (hQ : ∀ a H3 g s5, R a H3 → ReadyT X pins σ H3 a pb g s5 → Q' (.ref g) s5) :
    wpAny (model X.prog X.w) X.A (eval (.GeneratorExp elt [⟨.Name x px, iter, [], 0⟩] scope gpos) X.env) Q' X.xe s := by
  refine wpAny_GeneratorExp_walksQ hr.hd S.co (closure_ok S.free) S.cell S.dot S.loc S.kind hr.depth (thn (hi.run pins s σ H _ I h) fun xv s1 hh => ?_) hs
  obtain ⟨v, H1, I1, r1, a, ev, hT, hR⟩ := hh
  subst ev
  obtain ⟨t, et⟩ := _root_.id r1
  subst et
  obtain ⟨ps, hP, ht, hall⟩ := hT _ hmT
  have tabS : s1.heap.get? P = some { cls := .none, data := .fields ps } := I1.hok P _ hP
  have low : cStatics < s1.heap.objs.size := by
    obtain ⟨m, hn, _⟩ := I1.nolimit
    exact hn.lt
  have offP : cStatics ≠ P := fun z => by
    obtain ⟨m, ⟨o, es, ep, h1, h2, _⟩, _⟩ := I1.nolimit
    rw [z, tabS] at h1
    rw [← Option.some.inj h1] at h2
    cases h2
  refine wpAny_pyIter_str fun o St W h0 => ⟨I1.nolimit.push o, ?_⟩
  have tab2 : (s1.heap.push o).get? P = some { cls := .none, data := .fields ps } := Heap.get?_push_of_some _ tabS
  have hd2 : PySem.W.CodeHd (s1.heap.push o) c P := TB.code.keeps fun b u e => Heap.get?_push_of_some _ (I1.bk b u e)
  have one : s1.heap.objs.size < (s1.heap.push o).objs.size := by
    rw [Heap.size_push]
    exact Nat.lt_succ_self _
  -- the rest
  have rest : ∀ (code : Value) (H3 : Hp) (y3 G3 : Heap) (tq : Nat) (ps3 : Array Value), Mid X pins σ H3 P s1.heap.objs.size ps3 s1 y3 tq G3 → R a H3 → Heap.ExtBut P (s1.heap.push o) y3 →
      wpAny (model X.prog X.w) X.A (builtinsFor X.env.globals X.env.builtins) _ X.xe { s1 with heap := y3, toks := tq } := fun code H3 y3 G3 tq ps3 M hR3 xb => by
    refine Mid.ready (code := code) (St := St) M hr TB hel W ?_ ((I1.nolimit.push o).extBut xb offP) low fun g s5 rd => hQ a H3 g s5 hR3 rd
    refine (W X.A hr.hd).frame _ _ _ h0 fun b hb u e => xb b u (fun z => ?_) e
    rw [List.mem_singleton] at hb
    rw [← z, hb] at tabS
    exact Nat.lt_irrefl _ (Heap.lt_size tabS)
  have nit : ∀ {b u}, s1.heap.get? b = some u → b ≠ s1.heap.objs.size := fun e => not_old e (Nat.le_refl _)
  cases hf : codeAmong gpos ps.toList with
  | none =>
    refine wpAny_genexprCodeX hcode (hd2.code tab2 ht) (hd2.tab tab2) hf fun c' h' tk xb ge lt ic cr tb _ => ?_
    obtain ⟨c2, oc, vs, t2, e2, hoc, hdc, hvc⟩ := cr
    cases e2
    have big : s1.heap.objs.size < c' := Nat.lt_of_lt_of_le one ge
    have nC : H1 c' = none := I1.hok.fresh (Nat.le_of_lt big)
    have nPc : P ≠ c' := ne_of_none hP nC
    obtain ⟨G3, g1, g2⟩ := restrict h' fun b => decide (b ≠ s1.heap.objs.size)
    have gk : ∀ b, b ≠ s1.heap.objs.size → G3.get? b = h'.get? b := fun b hb => g1 b (decide_eq_true hb)
    have gn : G3.get? s1.heap.objs.size = none := g2 _ (by simp)
    have J := LamX.inv_table (t' := tk) (c := c') (q := X.env.qual ++ "<genexpr>") (more := #[rawInt gpos.line, rawInt gpos.col, .ref c']) (h' := G3) I1 hP (fun b u nb e => (gk b (nit e)).trans (xb b u nb (Heap.get?_push_of_some _ e)))
      ((gk P (nit tabS)).trans tb.2) (Nat.le_of_lt big) ⟨oc, vs, t2, (gk c' (Nat.ne_of_gt big)).trans hoc, hdc, hvc⟩
    have hE : ExtN H1 (upd (upd H1 P (.tbl (ps ++ #[rawInt gpos.line, rawInt gpos.col, .ref c']))) c' (CodeO c' (X.env.qual ++ "<genexpr>"))) := fun b u e n => by
      have nb : b ≠ P := fun z => n ps (Option.some.inj (e.symm.trans (by rw [z]; exact hP)))
      rw [upd_ne (ne_of_none e nC), upd_ne nb]
      exact e
    have eL : (ps ++ #[rawInt gpos.line, rawInt gpos.col, .ref c']).toList = ps.toList ++ [rawInt gpos.line, rawInt gpos.col, .ref c'] := by simp
    have hT3 : Tabs T (upd (upd H1 P (.tbl (ps ++ #[rawInt gpos.line, rawInt gpos.col, .ref c']))) c' (CodeO c' (X.env.qual ++ "<genexpr>"))) := fun p hp => by
      by_cases hb : p.1 = P
      · refine ⟨_, by rw [hb, upd_ne nPc, upd_same], by rw [eL]; exact TriplesOk_snoc _ _ _ _ ht, fun p9 cv hcv => ?_⟩
        rw [eL] at hcv
        rcases LamX.among_app _ ht hcv with z | z
        · obtain ⟨c0, x1, x2⟩ := hall p9 cv z
          exact ⟨c0, x1, by rw [hu p hp hb]; exact hE _ _ x2 LamX.codeO_ne⟩
        · exact ⟨c', z, by rw [hu p hp hb]; exact upd_same⟩
      · obtain ⟨qs, a1, a2, a3⟩ := hT p hp
        refine ⟨qs, by rw [upd_ne (ne_of_none a1 nC), upd_ne hb]; exact a1, a2, fun p9 cv hcv => ?_⟩
        obtain ⟨c0, x1, x2⟩ := a3 p9 cv hcv
        exact ⟨c0, x1, hE _ _ x2 LamX.codeO_ne⟩
    refine rest (.ref c') _ h' G3 tk _ ⟨J, fun b u e => ?_, by rw [upd_ne nPc, upd_same], Nat.lt_trans big lt⟩ (hR _ hE hT3) xb
    by_cases hb : b = s1.heap.objs.size
    · rw [hb, gn] at e
      cases e
    · exact ⟨(gk b hb).symm.trans e, hb⟩
  | some cv =>
    refine wpAny_genexprCode_hit hcode (hd2.code tab2 ht) hf ?_
    exact rest cv H1 (s1.heap.push o) s1.heap s1.toks ps ⟨I1, fun b u e => ⟨Heap.get?_push_of_some _ e, nit e⟩, hP, one⟩ (hR H1 (ExtN.refl H1) hT) (Heap.ExtBut.refl _ _)
def tAllT (T : List (Addr × Str)) (pb : Nat → Bool) (te : TE) : TE := fun σ H Q => te σ H fun v H1 => ∃ a : Str, v = .str a ∧ Tabs T H1 ∧ ∀ H3, ExtN H1 H3 → Tabs T H3 → Q (.bl (a.cps.toList.all pb)) H3
theorem pe_allK {T : List (Addr × Str)} {c : Addr} {elt iter : Expr} {x : Str} {px p pos gpos : Pos} {scope : Scope} {pb : Nat → Bool} {te : TE} {k : Nat} (hmT : (P, X.env.qual ++ "<genexpr>") ∈ T) (hu : ∀ p ∈ T, p.1 = P → p.2 = X.env.qual ++ "<genexpr>")
    (hr : Room k X.A) (hg : Gl X "all") (hm : X.mg "all" = none) (hb : bootBuiltins "all" = some (.builtin "all")) (TB : TabB X.base X.mg c P) (hcode : X.env.code = .ref c) (S : GenS X.env scope x) (hi : PE X iter te) (hel : EltK X scope x elt pb)
    (hs : ∀ v, genFold iter X.env v = pure v)
    (he : starEach [.GeneratorExp elt [⟨.Name x px, iter, [], 0⟩] scope gpos] X.env = (false, eval (.GeneratorExp elt [⟨.Name x px, iter, [], 0⟩] scope gpos) X.env) :: starEach [] X.env := by rfl) :
    PE X (.Call (.Name "all" p) [.GeneratorExp elt [⟨.Name x px, iter, [], 0⟩] scope gpos] [] pos) (tAllT T pb te) := by
  refine ⟨fun pins s σ H Q I h => wpAny_Call_Name_kw (ld_blt I hg hm hb (PyProof.Rows.callWith_builtin1 ?_ he (by rfl)))⟩
  rw [he]
  refine Calls.spliced_cons (gen_signs (R := fun a H3 => Q (.bl (a.cps.toList.all pb)) H3) hmT hu hr TB hcode S hi hel hs I h fun a H3 g s5 hR hG => Calls.spliced_nil ?_)
  obtain ⟨fp, wr, G, F, St, W, hst, htr, hI⟩ := hG
  refine call_all_walkS (W.self 0 _ _ _ hst ⟨g, fp, wr, G, _, F, St, _, rfl, W, hst, htr, fun s' mv => ?_⟩)
  exact ⟨.bl _, H3, hI s' mv, rfl, by rw [GxR.all_signs a pb]; exact hR⟩
end
theorem extN_fr {H H' : Hp} {G : Gp} (x : ExtN H H') : Fr H G H' G := fun b o e g n => ⟨x b o e n, g⟩
theorem extN_sim [τ : Tbl] [β : Bas] {K : PySem.W.Frag} {H H' : Hp} {G : Gp} (s : SimG K H G) (x : ExtN H H') (hT : Tabs τ.T H') : SimG K H' G := by
  have f := extN_fr (G := G) x
  refine s.next f ⟨fun a m e => ?_, hT, s.apart⟩
  obtain ⟨o, ho, ns⟩ := (s a m e).there
  have no : ∀ ps, o ≠ .tbl ps := fun ps z => by
    have h := s a m e
    subst z
    cases m <;> first | (obtain ⟨_, h, _⟩ := h; rw [ho] at h; cases h) | (obtain ⟨h, _⟩ := h; rw [ho] at h; cases h)
  exact (s a m e).mono (s.tm f) ((x a o ho no).trans ho.symm)
/-- all(test for x in text) -/
def zAllS (pb : Nat → Bool) (te : DE) : DE := fun ρ G Q => te ρ G fun d G1 => match d with
  | .str a => Q (.bl (a.cps.toList.all pb)) G1
  | _ => False
theorem z_allS [τ : Tbl] [β : Bas] {X : Cx} {c P : Addr} {elt iter : Expr} {x : Str} {px p pos gpos : Pos} {scope : Scope} {pb : Nat → Bool} {te : DE} {k : Nat} (hmT : (P, X.env.qual ++ "<genexpr>") ∈ τ.T) (hu : ∀ p ∈ τ.T, p.1 = P → p.2 = X.env.qual ++ "<genexpr>")
    (hr : Room k X.A) (hg : Gl X "all") (hm : X.mg "all" = none) (TB : TabB X.base X.mg c P) (hcode : X.env.code = .ref c) (S : GenS X.env scope x) (hi : ZE X iter te) (hel : EltK X scope x elt pb)
    (hs : ∀ v, genFold iter X.env v = pure v) (hb : bootBuiltins "all" = some (.builtin "all") := by first | rfl | decide)
    (he : starEach [.GeneratorExp elt [⟨.Name x px, iter, [], 0⟩] scope gpos] X.env = (false, eval (.GeneratorExp elt [⟨.Name x px, iter, [], 0⟩] scope gpos) X.env) :: starEach [] X.env := by rfl) :
    ZE X (.Call (.Name "all" p) [.GeneratorExp elt [⟨.Name x px, iter, [], 0⟩] scope gpos] [] pos) (zAllS pb te) := PEi (pe_allK hmT hu hr hg hm hb TB hcode S hi hel hs he) fun σ H Q q => by
  obtain ⟨ρ, G, Q0, sg, gg, h, kk⟩ := q
  refine ⟨ρ, G, _, sg, gg, h, fun d G1 v H1 h1 f1 g1 r1 => ?_⟩
  cases r1 with
  | str a => exact ⟨a, rfl, g1.tabs, fun H2 x2 hT => kk _ G1 _ H2 h1 (f1.trans (extN_fr x2)) (extN_sim g1 x2 hT) (.bl _)⟩
  | _ => exact False.elim h1
end Z

namespace Z
open PySem PySem.Spec PyProof.Rows L2
open LamX (Tabs TabS ExtN CodeO GivesTo lamCx lamEnv tLam LamS)

/-! ### told(lambda: body): try: return body / except A: return 'A' .. -/
inductive Clauses (X : Cx) (sg : Scope) : List ExceptHandler → List (Addr × Str) → Prop
  | nil : Clauses X sg [] []
  | cons {e ret : Str} {C : Addr} {j : Nat} {p4 p5 p6 p7 : Pos} {hds : List ExceptHandler} {l : List (Addr × Str)} (hn : sg.names.lookup e = some .globalImplicit) (hm : X.mg e = some (.ref C)) (hd : (e == ("__debug__" : Str)) = false) (r : Clauses X sg hds l) :
      Clauses X sg (.ExceptHandler (some (.Name e p4)) none [.Return (some (.Constant (.str ret) j p5)) p6] p7 :: hds) ((C, ret) :: l)
def toldV (K : PySem.W.Frag) (Q : VK) : List (Addr × Str) → Value → Hp → Prop
  | [], _, _ => False
  | (C, r) :: l, cls, H => ∃ b, PySem.W.exmOne K cls (.ref C) = some b ∧ (b = true → Q (.str r) H) ∧ (b = false → toldV K Q l cls H)
def TTmany (K : PySem.W.Frag) (l : List (Addr × Str)) : (XK → Hp → VK → Prop) → Hp → VK → Prop := fun tl H Q => tl (fun cls _ H' => toldV K Q l cls H') H Q
def toSuites (l : List (Addr × Str)) : List (Value × (Addr → Value → Option Addr → TS)) := l.map fun p => (.ref p.1, fun _ _ _ => tRet (tC (.str p.2)))
theorem told_w {K : PySem.W.Frag} {D : Ends} {cls : Value} {d : Option Addr} {σ : L2.St} {H : Hp} : ∀ {l : List (Addr × Str)}, toldV K D.rt l cls H → wMany K (fun _ _ _ _ => False) D (toSuites l) cls d σ H
  | [], h => h
  | (C, r) :: l, ⟨b, h1, h2, h3⟩ => ⟨b, h1, fun hb a _ => h2 hb, fun hb => told_w (h3 hb)⟩
theorem clauses_ok {X Z : Cx} {sg : Scope} (hs : Z.env.scope = sg) (hm : Z.mg = X.mg) : ∀ {hds : List ExceptHandler} {l : List (Addr × Str)}, Clauses X sg hds l → HdsOk Z hds (toSuites l)
  | _, _, .nil => .nil
  | _, _, .cons hn hg hd r => .cons ⟨by show Z.env.scope.names.lookup _ = _; rw [hs]; exact hn, hd, .inl (by rw [hm]; exact hg)⟩ (fun a oe cls d pn _ _ => pss_one (ps_ret pe_str)) (clauses_ok hs hm r)
section
variable {X : Cx}
theorem many_gives {Ng : List Str} {x a q : Str} {sg : Scope} {g : Addr} {cdg : Value} {h0 : ExceptHandler} {hds : List ExceptHandler} {l : List (Addr × Str)} {p1 p2 p3 p8 : Pos} (hc : Clauses X sg (h0 :: hds) l) (hstart : ∀ f : Addr, (L2.start Ng [V.ref f])[0]? = some (some (V.ref f))) :
    GivesTo X Ng x sg g cdg [.Try [.Return (some (.Call (.Name a p1) [] [] p2)) p3] (h0 :: hds) [] [] p8] a q (TTmany X.K l) := by
  intro f c' s H Q tl act hco h
  refine ⟨_, pss_one (ps_try_many (X := (cxOf C8.CX0 X.prog X.w X.K X.mg X.base Ng x sg g cdg X.A X.stack s H C8.E0).nox) (Wout := fun _ _ _ _ => False)
    (tb := fun W D σ H => ∃ Ech : XK, (∀ cls d σ' H', Ech cls d H' → W cls d σ' H') ∧ σ[0]? = some (some (.ref f)) ∧ H c' = some (CodeO c' q) ∧ tl Ech H D.rt)
    rfl rfl LamX.takes0 (fun W pn xe tk _ => ⟨fun pins s' σ H' D I ⟨Ech, hW, h1, h2, h3⟩ => (pss_one (ps_ret (pos := p3) (act W pn xe Ech p1 p2 tk hW))).run pins s' σ H' D I ⟨h1, h2, h3⟩⟩) (clauses_ok (X := X) (sg := sg) (Z := (cxOf C8.CX0 X.prog X.w X.K X.mg X.base Ng x sg g cdg X.A X.stack s H C8.E0).nox) rfl rfl hc)), ?_⟩
  exact ⟨_, fun cls d σ' H' hh => told_w hh, hstart f, hco, h⟩
end
def toldZ (K : PySem.W.Frag) (Q : DK) : List (Addr × Str) → XKz
  | [], _, _ => False
  | (C, r) :: l, cls, G => ∃ b, PySem.W.exmOne K cls (.ref C) = some b ∧ (b = true → Q (.str r) G) ∧ (b = false → toldZ K Q l cls G)
theorem toldZ_up {K : PySem.W.Frag} {Q0 : DK} {Q : VK} {cls : Value} {G' : Gp} {H' : Hp} (k : ∀ x, Q0 (.str x) G' → Q (.str x) H') : ∀ {l : List (Addr × Str)}, toldZ K Q0 l cls G' → toldV K Q l cls H'
  | [], h => h
  | (C, r) :: l, ⟨b, h1, h2, h3⟩ => ⟨b, h1, fun hb => k _ (h2 hb), fun hb => toldZ_up k (h3 hb)⟩
/-- the body's reading, by what is let out -/
abbrev DL := XKz → DE
def upL [τ : Tbl] (K : PySem.W.Frag) (t : DL) : XK → TE := fun E σ H Q => ∃ ρ G Q0 E0, SimS K H σ ρ ∧ Sim0 K H G ∧ t E0 ρ G Q0 ∧ (∀ d G' v H', Q0 d G' → Fr H G H' G' → Sim0 K H' G' → Rep K H' v d → Q v H') ∧ ∀ c G' dx H', E0 c G' → Fr H G H' G' → Sim0 K H' G' → E c dx H'
theorem lam_body [τ : Tbl] {Y : Cx} {e : Expr} {t : DL} {E : XK} (h : ∀ (bas : Bas) (E0 : XKz), @EOk τ bas Y.K E0 E → @ZE τ bas Y e (t E0)) : PE Y e (upL Y.K t E) := ⟨fun pins s σ H Q I q => by
  obtain ⟨ρ, G, Q0, E0, hs, hg, ht, k1, k2⟩ := q
  have hz := h (frBas H G) E0 fun c G' dx H' e g' => k2 c G' dx H' e (@SimG.base τ (frBas H G) _ _ _ g') (@SimG.toSim0 τ (frBas H G) _ _ _ g')
  letI : Bas := frBas H G
  exact PE.run hz pins s σ H Q I ⟨ρ, G, Q0, hs, ⟨hg, Fr.refl H G⟩, ht, fun d G' v H' q f g' r => k1 d G' v H' q f g'.toSim0 r⟩⟩
section
variable [τ : Tbl] [β : Bas] {X : Cx}
def zTold (K : PySem.W.Frag) (l : List (Addr × Str)) (t : DL) : DE := fun ρ G Q => t (toldZ K Q l) ρ G Q
theorem z_told {x a : Str} {g c P : Addr} {k : Nat} {pg : Arguments} {h0 : ExceptHandler} {hds : List ExceptHandler} {sg : Scope} {dV kV doc pm cdv ct oc : Value} {an od : Option Addr} {osl : Array (Option Value)} {Ng : List Str}
    {params : Arguments} {body : Expr} {scope : Scope} {t : DL} {l : List (Addr × Str)} {p lpos pos p1 p2 p3 p8 : Pos} (hg : Gl X x) (hm : X.mg x = some (.ref g)) (hk : PySem.W.keepIn X.K (.ref g) = true)
    (lk : X.K.lookup g = some ⟨oc, od, .func (PySem.W.fnOf x x pg [.Try [.Return (some (.Call (.Name a p1) [] [] p2)) p3] (h0 :: hds) [] [] p8] sg dV kV doc pm an cdv ct), osl⟩) (hcg : PySem.W.codeIn X.K cdv x = true)
    (hb : L2.Binds X.K (PySem.W.fnOf x x pg [.Try [.Return (some (.Call (.Name a p1) [] [] p2)) p3] (h0 :: hds) [] [] p8] sg dV kV doc pm an cdv ct) [a] []) (Sg : FnScope Ng [a] sg) (hNg : Ng[0]? = some a) (hva : Vis sg a)
    (hc : Clauses X sg (h0 :: hds) l) (hstart : ∀ f : Addr, (L2.start Ng [V.ref f])[0]? = some (some (V.ref f)))
    (TB : LamX.TabB X.base X.mg c P) (hcode : X.env.code = .ref c) (hmT : (P, X.env.qual ++ "<lambda>") ∈ τ.T) (hu : ∀ p ∈ τ.T, p.1 = P → p.2 = X.env.qual ++ "<lambda>") (hr : Room (k + 2) X.A) (L : LamS X.env.scope scope) (hdef : defaultsOf params X.env = ([], []))
    (hbind : ∀ (q : Str) (cl : List (Str × Addr)) (pm cv ctv : Value), bindArgs (PySem.W.kla_fn "<lambda>" q params body scope cl pm cv ctv) ⟨[], []⟩ = pure [])
    (hbody : ∀ (bas : Bas) (A : Around) (outer : List Env) (s : Shared) (H : Hp) (E : XK) (f c' : Addr) (E0 : XKz), Room k (A.deeper (lamEnv X scope s.heap.objs.size f c')) → @EOk τ bas X.K E0 E → @ZE τ bas (lamCx X A outer s H E scope f c') body (t E0))
    (hdb : (x == ("__debug__" : Str)) = false := by decide) (hd : (a == ("__debug__" : Str)) = false := by decide) (hcd : (a == ("__classdict__" : Str)) = false := by decide) :
    ZE X (.Call (.Name x p) [.Lambda params body scope lpos] [] pos) (zTold X.K l t) := by
  refine PEi (LamX.pe_lamcall (t := upL X.K t) hg hm hk lk hcg hb Sg hNg hva (many_gives hc hstart) TB hcode hmT hu hr L hdef hbind (fun A outer s H E f c' hr2 => lam_body fun bas E0 hE => hbody bas A outer s H E f c' E0 hr2 hE) hdb hd hcd) fun σ H Q q => ?_
  obtain ⟨ρ, G, Q0, hs, hg, h, kk⟩ := q
  refine ⟨hg.tabs, fun H1 xN hT => ?_⟩
  have f1 := extN_fr (G := G) xN
  have g1 := extN_sim hg xN hT
  exact ⟨ρ, G, Q0, _, hs.mono (hg.tm f1), g1.toSim0, h, fun d G' v H' q f g r => kk d G' v H' q (f1.trans f) (g1.next f g) r, fun c G' dx H' q f g => toldZ_up (fun x hx => kk _ G' _ H' hx (f1.trans f) (g1.next f g) (.str _)) q⟩
end
end Z

namespace Z
open PySem PySem.Spec PyProof.Rows L2

theorem At.trans {G G1 G2 : Gp} {a : Addr} {m n : MO} (x : At G a m G1) (y : At G1 a n G2) : At G a n G2 := ⟨y.is, fun b h => (y.other b h).trans (x.other b h)⟩
theorem At.self {G : Gp} {a : Addr} {m : MO} (h : G a = some m) : At G a m G := ⟨h, fun _ _ => rfl⟩
theorem dI0_e {g : Int → Int → D} {i j : Int} {G : Gp} {Q : DK} : dI0 g (.int i) (.int j) G Q = Q (g i j) G := rfl
theorem dI_e {C : Int → Int → Prop} {g : Int → Int → D} {i j : Int} {G : Gp} {Q : DK} : dI C g (.int i) (.int j) G Q = (C i j ∧ Q (g i j) G) := rfl
theorem dEqF_i {neg : Bool} {i j : Int} {G : Gp} {Q : DK} : dEqF neg (.int i) (.int j) G Q = Q (.bl (neg != decide (i = j))) G := rfl
theorem dEqF_s {neg : Bool} {i j : Str} {G : Gp} {Q : DK} : dEqF neg (.str i) (.str j) G Q = Q (.bl (neg != decide (i = j))) G := rfl
theorem dEqF_b {neg : Bool} {i j : Bool} {G : Gp} {Q : DK} : dEqF neg (.bl i) (.bl j) G Q = Q (.bl (neg != decide (i = j))) G := rfl
theorem dCatS_e {x y : Str} {G : Gp} {Q : DK} : dCatS (.str x) (.str y) G Q = (x.length + y.length ≤ sizeLine ∧ Q (.str (x ++ y)) G) := rfl
theorem fLen_s {x : Str} {G : Gp} {Q : DK} : fLen [.str x] G Q = (x.length ≤ sizeLine ∧ Q (.int (x.length : Nat)) G) := rfl
theorem fInt_i {i : Int} {G : Gp} {Q : DK} : fInt [.int i] G Q = Q (.int i) G := rfl
theorem fAbs_i {i : Int} {G : Gp} {Q : DK} : fAbs [.int i] G Q = Q (.int (if i < 0 then -i else i)) G := rfl
theorem fInt_b {b : Bool} {G : Gp} {Q : DK} : fInt [.bl b] G Q = Q (.int (if b then 1 else 0)) G := rfl
theorem zTest_e {t : DE} {ρ : ZSt} {G : Gp} {Q : Bool → Gp → Prop} : zTest t ρ G Q = t ρ G (fun d G1 => match d with | .bl b => Q b G1 | _ => False) := rfl
/-- x, y, z = a, b, c -/
def zPar3 (i j l : Nat) (ta : DA) : DS := fun Z ρ G => ta ρ G fun ds G1 => match ds with
  | [d, e, f] => Z.nx (((ρ.set i (some d)).set j (some e)).set l (some f)) G1
  | _ => False
section
variable [τ : Tbl] [β : Bas] {X : Cx}
theorem z_par3 {i j l : Nat} {x y z : Str} {a b c : Expr} {ta : DA} {px py pz pt pos : Pos} {kt k2 pt2} (hc : X.calm = true) (hN : X.N.Nodup) (hi : X.N[i]? = some x) (hj : X.N[j]? = some y) (hl : X.N[l]? = some z) (hij : i ≠ j) (hil : i ≠ l) (hjl : j ≠ l)
    (hx : X.env.scope.names.lookup x = some .local) (hy : X.env.scope.names.lookup y = some .local) (hz : X.env.scope.names.lookup z = some .local) (ha : ZA X [a, b, c] ta)
    (hw : swappedStores [.Tuple [.Name x px, .Name y py, .Name z pz] kt pt] (.Tuple [a, b, c] k2 pt2) X.env = pure (some [x, y, z]))
    (hs : swapsWithSole [.Tuple [.Name x px, .Name y py, .Name z pz] kt pt] (.Tuple [a, b, c] k2 pt2) pos.line X.env = pure false := by rfl) :
    ZS X (.Assign [.Tuple [.Name x px, .Name y py, .Name z pz] kt pt] (.Tuple [a, b, c] k2 pt2) pos) (zPar3 i j l ta) := PSi (ps_par3 hc hN hi hj hl hij hil hjl hx hy hz ha hw hs) fun D σ H q => by
  obtain ⟨ρ, G, Z, hs, hg, h, k, _⟩ := q
  refine ⟨ρ, G, _, hs, hg, h, fun ds G1 xs H1 h1 f1 g1 r1 => ?_⟩
  cases r1 with
  | nil => cases h1
  | cons p r1 =>
    cases r1 with
    | nil => cases h1
    | cons p' r1 =>
      cases r1 with
      | nil => cases h1
      | cons p'' r1 =>
        cases r1 with
        | nil => exact ⟨_, _, _, rfl, k _ G1 _ H1 h1 f1 g1 ((((hs.mono (hg.tm f1)).set p).set p').set p'')⟩
        | cons p2 r2 => cases h1
end

/-! ### what is known of a def, a method, a maker -/
section
variable [τ : Tbl]
structure Dfn (P : Program) (w : World) (K : PySem.W.Frag) (mg : Str → Option Value) (base : Heap) (x : Str) (k : Nat) (ps : List Str) (z : ZSp) : Prop where
  ex : ∃ (f : Addr) (fd : FuncData), mg x = some (.ref f) ∧ PySem.W.keepIn K (.ref f) = true ∧ Binds K fd ps [] ∧ FnOk P w K mg base (L2.CX P w) k f fd ps (upSp K z)
structure Mtd (P : Program) (w : World) (K : PySem.W.Frag) (mg : Str → Option Value) (base : Heap) (C : Addr) (m : Str) (k : Nat) (ps : List Str) (z : ZSp) : Prop where
  ex : ∃ (g : Addr) (fd : FuncData), Meth K C m g ∧ Binds K fd ps [] ∧ FnOk P w K mg base (L2.CX P w) k g fd ps (upSp K z)
structure Ini (P : Program) (w : World) (K : PySem.W.Frag) (mg : Str → Option Value) (base : Heap) (C : Addr) (k : Nat) (ps : List Str) (z : ZSp) : Prop where
  ex : ∃ (g : Addr) (fd : FuncData), Mk K C g ∧ Binds K fd ps [] ∧ FnOk P w K mg base (L2.CX P w) k g fd ps (upSp K z)
end
section
variable [τ : Tbl] [β : Bas] {X : Cx} {k m : Nat} {ps : List Str} {z : ZSp} {x : Str} {p pos apos : Pos} {a e o : Expr} {es : List Expr} {tA : DA} {to : DE} {C : Addr} {E0 : XKz} {E : XK}
theorem z_dc0 (D : Dfn X.prog X.w X.K X.mg X.base x k ps z) (hr : Room m X.A) (hk : k ≤ m) (hg : Gl X x) (ha : ZA X (a :: es) tA) (hdb : (x == ("__debug__" : Str)) = false := by decide)
    (he : starEach (a :: es) X.env = (false, eval a X.env) :: starEach es X.env := by rfl) (hpl : (backTo pos (starEach es X.env)).any (·.1) = false := by rfl) : ZE X (.Call (.Name x p) (a :: es) [] pos) (zCall z X0 tA) := by
  obtain ⟨f, fd, h1, h2, h3, h4⟩ := D.ex
  exact z_call0 h4 (hr.mono hk) hg h1 h2 h3 ha hdb he hpl
theorem z_dc (D : Dfn X.prog X.w X.K X.mg X.base x k ps z) (hr : Room m X.A) (hk : k ≤ m) (hg : Gl X x) (hE : EOk X.K E0 E) (hx : Passes (L2.CX X.prog X.w) X E) (ha : ZA X (a :: es) tA) (hdb : (x == ("__debug__" : Str)) = false := by decide)
    (he : starEach (a :: es) X.env = (false, eval a X.env) :: starEach es X.env := by rfl) (hpl : (backTo pos (starEach es X.env)).any (·.1) = false := by rfl) : ZE X (.Call (.Name x p) (a :: es) [] pos) (zCall z E0 tA) := by
  obtain ⟨f, fd, h1, h2, h3, h4⟩ := D.ex
  exact z_call h4 (hr.mono hk) hg h1 h2 h3 hE hx ha hdb he hpl
theorem z_mc {y : Str} {pl : Sem Bool} (c : Cls X.K C) (D : Mtd X.prog X.w X.K X.mg X.base C y k ps z) (hr : Room m X.A) (hk : k ≤ m) (hE : EOk X.K E0 E) (hx : Passes (L2.CX X.prog X.w) X E) (ho : ZE X o to) (ha : ZA X (e :: es) tA)
    (hst : starEach (e :: es) X.env = (false, eval e X.env) :: starEach es X.env := by rfl) (hpl : (backTo pos (starEach es X.env)).any (·.1) = false := by rfl)
    (ht : eval (.Call (.Attribute o y apos) (e :: es) [] pos) X.env = (do
      let ov ← eval o X.env
      standAt apos.atName
      let (f, first) ← holding [ov] (getMethod ov y pl)
      callWith pos f first (backTo pos (starEach (e :: es) X.env)) (backToKw pos (keywordEach [] X.env))) := by rfl) : ZE X (.Call (.Attribute o y apos) (e :: es) [] pos) (zMeth C y z E0 to tA) := by
  obtain ⟨g, fd, h1, h3, h4⟩ := D.ex
  exact z_meth c h1 h4 (hr.mono hk) h3 hE hx ho ha hst hpl ht
theorem z_mc0 {y : Str} {pl : Sem Bool} (c : Cls X.K C) (D : Mtd X.prog X.w X.K X.mg X.base C y k ps z) (hr : Room m X.A) (hk : k ≤ m) (hE : EOk X.K E0 E) (hx : Passes (L2.CX X.prog X.w) X E) (ho : ZE X o to)
    (ht : eval (.Call (.Attribute o y apos) [] [] pos) X.env = (do
      let ov ← eval o X.env
      standAt apos.atName
      let (f, first) ← holding [ov] (getMethod ov y pl)
      callWith pos f first (backTo pos (starEach [] X.env)) (backToKw pos (keywordEach [] X.env))) := by rfl) : ZE X (.Call (.Attribute o y apos) [] [] pos) (zMeth C y z E0 to zNil) := by
  obtain ⟨g, fd, h1, h3, h4⟩ := D.ex
  exact z_meth0 c h1 h4 (hr.mono hk) h3 hE hx ho ht
/-- nothing is let out -/
theorem z_mm {y : Str} {pl : Sem Bool} (c : Cls X.K C) (D : Mtd X.prog X.w X.K X.mg X.base C y k ps z) (hr : Room m X.A) (hk : k ≤ m) (ho : ZE X o to) (ha : ZA X (e :: es) tA)
    (hst : starEach (e :: es) X.env = (false, eval e X.env) :: starEach es X.env := by rfl) (hpl : (backTo pos (starEach es X.env)).any (·.1) = false := by rfl)
    (ht : eval (.Call (.Attribute o y apos) (e :: es) [] pos) X.env = (do
      let ov ← eval o X.env
      standAt apos.atName
      let (f, first) ← holding [ov] (getMethod ov y pl)
      callWith pos f first (backTo pos (starEach (e :: es) X.env)) (backToKw pos (keywordEach [] X.env))) := by rfl) : ZE X (.Call (.Attribute o y apos) (e :: es) [] pos) (zMeth C y z X0 to tA) :=
  z_mc (E := L2.E0) c D hr hk eok0 (passL (X := X)) ho ha hst hpl ht
theorem z_mm0 {y : Str} {pl : Sem Bool} (c : Cls X.K C) (D : Mtd X.prog X.w X.K X.mg X.base C y k ps z) (hr : Room m X.A) (hk : k ≤ m) (ho : ZE X o to)
    (ht : eval (.Call (.Attribute o y apos) [] [] pos) X.env = (do
      let ov ← eval o X.env
      standAt apos.atName
      let (f, first) ← holding [ov] (getMethod ov y pl)
      callWith pos f first (backTo pos (starEach [] X.env)) (backToKw pos (keywordEach [] X.env))) := by rfl) : ZE X (.Call (.Attribute o y apos) [] [] pos) (zMeth C y z X0 to zNil) :=
  z_mc0 (E := L2.E0) c D hr hk eok0 (passL (X := X)) ho ht
theorem z_new (D : Ini X.prog X.w X.K X.mg X.base C k ps z) (hr : Room m X.A) (hk : k + 1 ≤ m) (hg : Gl X x) (hm : X.mg x = some (.ref C)) (ha : ZA X (e :: es) tA) (hdb : (x == ("__debug__" : Str)) = false := by decide)
    (he : starEach (e :: es) X.env = (false, eval e X.env) :: starEach es X.env := by rfl) (hpl : (backTo pos (starEach es X.env)).any (·.1) = false := by rfl) : ZE X (.Call (.Name x p) (e :: es) [] pos) (zMake C z X0 tA) := by
  obtain ⟨g, fd, h1, h3, h4⟩ := D.ex
  exact z_make (E := L2.E0) h1 h4 (hr.mono hk) hg hm h3 eok0 (passL (X := X)) ha hdb he hpl
end
section
variable [τ : Tbl] {P : Program} {w : World} {K : PySem.W.Frag} {mg : Str → Option Value} {base : Heap}
/-- a def whose code object is known -/
theorem z_fnC {x qual : Str} {st : Stmt} {f : Addr} {N ps : List Str} {k : Nat} {z : ZSp} {oc kV doc pm cdv ct : Value} {od an : Option Addr} {osl : Array (Option Value)}
    (lk : K.lookup f = some ⟨oc, od, .func (PySem.W.fnOf x qual (defArgs st) (defBody st) (defScope st) .none kV doc pm an cdv ct), osl⟩) (hcd : PySem.W.codeIn K cdv qual = true) (S : FnScope N ps (defScope st)) (len : ∀ ds G Q E, z ds G Q E → ds.length = ps.length)
    (hbody : ∀ (bas : Bas) (A : Around) (outer : List Env) (s : Shared) (H : Hp) (E : XK), Room k (A.deeper (envOfC qual (defScope st) s.heap.objs.size f cdv)) → ∀ (ds : List D) (G : Gp) (Q : DK) (E0 : XKz), @EOk τ bas K E0 E → z ds G Q E0 →
      ∃ t, @ZSs τ bas (cxOf (L2.CX P w) P w K mg base N qual (defScope st) f cdv A outer s H E) (defBody st) t ∧ t { nx := fun _ G' => Q .non G', rt := Q } (zstart N ds) G) :
    FnOk P w K mg base (L2.CX P w) (k + 1) f (PySem.W.fnOf x qual (defArgs st) (defBody st) (defScope st) .none kV doc pm an cdv ct) ps (upSp K z) := by
  refine fn_of lk hcd S (fun vs H Q E h => ?_) fun A outer s H vs Q E hr h => ?_
  · obtain ⟨ds, G, Q0, E0, _, r, hz, _⟩ := h
    rw [r.length]
    exact len _ _ _ _ hz
  · obtain ⟨ds, G, Q0, E0, g, r, hz, k1, k2⟩ := h
    obtain ⟨t, ht, hq⟩ := hbody (frBas H G) A outer s H E hr ds G Q0 E0 (fun c G' dx H' e g' => k2 c G' dx H' e (@SimG.base τ (frBas H G) _ _ _ g') (@SimG.toSim0 τ (frBas H G) _ _ _ g')) hz
    letI : Bas := frBas H G
    exact ⟨_, ht, zstart N ds, G, _, sims_start r, ⟨g, Fr.refl H G⟩, hq, fun ρ' G' σ' H' q f g' s' => k1 .non G' .non H' q f g'.toSim0 .non, fun d G' v H' q f g' r => k1 d G' v H' q f g'.toSim0 r, fun _ _ _ _ q => q.elim, fun _ _ _ _ q => q.elim⟩
end
/-! ### one statement at a time (the rest stays folded) -/
section
variable {te : DE} {c : DT} {t e u : DS} {Z : ZEnds} {ρ : ZSt} {G : Gp} {i : Nat} {g : DG}
theorem s_asg (h : te ρ G fun d G1 => u Z (ρ.set i (some d)) G1) : zSeq (zAsg te (zName i)) u Z ρ G := h
theorem s_asgG (h : te ρ G fun d G1 => g d ρ G1 (u Z)) : zSeq (zAsg te g) u Z ρ G := h
theorem s_if (h : c ρ G fun b G1 => if b = true then t { Z with nx := u Z } ρ G1 else e { Z with nx := u Z } ρ G1) : zSeq (zIfS c t e) u Z ρ G := h
theorem s_drop (h : te ρ G fun _ G1 => u Z ρ G1) : zSeq (zDrop te) u Z ρ G := h
theorem s_ret (h : te ρ G Z.rt) : zSeq (zRet te) u Z ρ G := h
theorem s_next (h : Z.nx ρ G) : zNext Z ρ G := h
theorem s_seq (h : t { Z with nx := u Z } ρ G) : zSeq t u Z ρ G := h
end
end Z

namespace K01
open PySem PySem.Spec PyProof.Rows L2 Z

/-! ### the text -/
def top (i : Nat) : Stmt := PySem.Challenge.pw_tonguestack_k01_texts_to_tokens.main.body.getD i (.Pass ⟨0, 0, 0, 0⟩)
abbrev s_Token___init__ : Stmt := inClass (top 11) 0
abbrev s_Token_shown : Stmt := inClass (top 11) 1
abbrev s_Lexer___init__ : Stmt := inClass (top 12) 0
abbrev s_Lexer_here : Stmt := inClass (top 12) 1
abbrev s_Lexer_step : Stmt := inClass (top 12) 2
abbrev s_Lexer_skip_blanks : Stmt := inClass (top 12) 3
abbrev s_Lexer_run_of : Stmt := inClass (top 12) 4
abbrev s_Lexer_token : Stmt := inClass (top 12) 5
abbrev s_Lexer_name_token : Stmt := inClass (top 12) 6
abbrev s_Lexer_number : Stmt := inClass (top 12) 7
abbrev s_tokenize : Stmt := top 13
abbrev s_words_of : Stmt := top 14
abbrev s_is_name : Stmt := top 15
abbrev s_is_constructor : Stmt := top 16
abbrev s_is_tail : Stmt := top 17
abbrev s__law_dice : Stmt := top 19
abbrev s__law_roll : Stmt := top 20
abbrev s__law_rounds : Stmt := top 21
abbrev s__law_told : Stmt := top 22
abbrev s__law_token : Stmt := top 23
abbrev s__law_gap : Stmt := top 24
abbrev s__law_moved : Stmt := top 25
abbrev s_law : Stmt := top 26
theorem sc_Token___init__ : FnScope ["self", "word", "text", "line", "column"] ["self", "word", "text", "line", "column"] (defScope s_Token___init__) := ⟨rfl, rfl, rfl, by decide +kernel, rfl, by decide +kernel, by decide +kernel⟩
theorem sc_Token_shown : FnScope ["self"] ["self"] (defScope s_Token_shown) := ⟨rfl, rfl, rfl, by decide +kernel, rfl, by decide +kernel, by decide +kernel⟩
theorem sc_Lexer___init__ : FnScope ["self", "text"] ["self", "text"] (defScope s_Lexer___init__) := ⟨rfl, rfl, rfl, by decide +kernel, rfl, by decide +kernel, by decide +kernel⟩
theorem sc_Lexer_here : FnScope ["self"] ["self"] (defScope s_Lexer_here) := ⟨rfl, rfl, rfl, by decide +kernel, rfl, by decide +kernel, by decide +kernel⟩
theorem sc_Lexer_step : FnScope ["self"] ["self"] (defScope s_Lexer_step) := ⟨rfl, rfl, rfl, by decide +kernel, rfl, by decide +kernel, by decide +kernel⟩
theorem sc_Lexer_skip_blanks : FnScope ["self"] ["self"] (defScope s_Lexer_skip_blanks) := ⟨rfl, rfl, rfl, by decide +kernel, rfl, by decide +kernel, by decide +kernel⟩
theorem sc_Lexer_run_of : FnScope ["self", "letters", "start"] ["self", "letters"] (defScope s_Lexer_run_of) := ⟨rfl, rfl, rfl, by decide +kernel, rfl, by decide +kernel, by decide +kernel⟩
theorem sc_Lexer_token : FnScope ["self", "line", "column", "first", "sign", "step"] ["self"] (defScope s_Lexer_token) := ⟨rfl, rfl, rfl, by decide +kernel, rfl, by decide +kernel, by decide +kernel⟩
theorem sc_Lexer_name_token : FnScope ["self", "line", "column", "first", "text"] ["self", "line", "column"] (defScope s_Lexer_name_token) := ⟨rfl, rfl, rfl, by decide +kernel, rfl, by decide +kernel, by decide +kernel⟩
theorem sc_Lexer_number : FnScope ["self", "line", "column", "text"] ["self"] (defScope s_Lexer_number) := ⟨rfl, rfl, rfl, by decide +kernel, rfl, by decide +kernel, by decide +kernel⟩
theorem sc_tokenize : FnScope ["text", "lexer", "found"] ["text"] (defScope s_tokenize) := ⟨rfl, rfl, rfl, by decide +kernel, rfl, by decide +kernel, by decide +kernel⟩
theorem sc_words_of : FnScope ["text", "token"] ["text"] (defScope s_words_of) := ⟨rfl, rfl, rfl, by decide +kernel, rfl, by decide +kernel, by decide +kernel⟩
theorem sc_is_name : FnScope ["text"] ["text"] (defScope s_is_name) := ⟨rfl, rfl, rfl, by decide +kernel, rfl, by decide +kernel, by decide +kernel⟩
theorem sc_is_constructor : FnScope ["text"] ["text"] (defScope s_is_constructor) := ⟨rfl, rfl, rfl, by decide +kernel, rfl, by decide +kernel, by decide +kernel⟩
theorem sc_is_tail : FnScope ["text"] ["text"] (defScope s_is_tail) := ⟨rfl, rfl, rfl, by decide +kernel, rfl, by decide +kernel, by decide +kernel⟩
theorem sc__law_dice : FnScope ["cell"] ["cell"] (defScope s__law_dice) := ⟨rfl, rfl, rfl, by decide +kernel, rfl, by decide +kernel, by decide +kernel⟩
theorem sc__law_roll : FnScope ["dice", "many", "found"] ["dice", "many"] (defScope s__law_roll) := ⟨rfl, rfl, rfl, by decide +kernel, rfl, by decide +kernel, by decide +kernel⟩
theorem sc__law_rounds : FnScope ["script", "most", "cells", "cell"] ["script", "most"] (defScope s__law_rounds) := ⟨rfl, rfl, rfl, by decide +kernel, rfl, by decide +kernel, by decide +kernel⟩
theorem sc__law_told : FnScope ["what"] ["what"] (defScope s__law_told) := ⟨rfl, rfl, rfl, by decide +kernel, rfl, by decide +kernel, by decide +kernel⟩
theorem sc__law_token : FnScope ["dice", "keywords", "signs", "sort", "word", "turn", "name"] ["dice"] (defScope s__law_token) := ⟨rfl, rfl, rfl, by decide +kernel, rfl, by decide +kernel, by decide +kernel⟩
theorem sc__law_gap : FnScope ["dice"] ["dice"] (defScope s__law_gap) := ⟨rfl, rfl, rfl, by decide +kernel, rfl, by decide +kernel, by decide +kernel⟩
theorem sc__law_moved : FnScope ["text", "line", "column", "sign"] ["text", "line", "column"] (defScope s__law_moved) := ⟨rfl, rfl, rfl, by decide +kernel, rfl, by decide +kernel, by decide +kernel⟩
theorem sc_law : FnScope ["script", "dice", "text", "line", "column", "due", "turn", "word", "shown", "gap", "told_now", "token", "row", "bad", "lexer"] ["script"] (defScope s_law) := ⟨rfl, rfl, rfl, by decide +kernel, rfl, by decide +kernel, by decide +kernel⟩

/-! ### texts as lists of code points -/
def S (l : List Nat) : Str := ⟨l.toArray⟩
theorem S_cps (l : List Nat) : (S l).cps.toList = l := by simp [S]
theorem S_len (l : List Nat) : (S l).length = l.length := by
  show l.toArray.size = l.length
  simp
theorem S_app (a b : List Nat) : S a ++ S b = S (a ++ b) := by
  show (⟨a.toArray ++ b.toArray⟩ : Str) = ⟨(a ++ b).toArray⟩
  simp
theorem S_inj {a b : List Nat} : S a = S b ↔ a = b := by
  constructor
  · intro h
    have := congrArg (fun s : Str => s.cps.toList) h
    simpa [S] using this
  · intro h
    rw [h]
theorem S_of (s : Str) : ∃ l, s = S l := ⟨s.cps.toList, by simp [S]⟩
/-- z[p:q] -/
theorem S_cut (l : List Nat) {p q : Nat} (hp : p ≤ l.length) (hq : p ≤ q) : cutS (S l) (some (p : Int)) (some (q : Int)) = S ((l.drop p).take (q - p)) := by
  unfold cutS
  rw [S_cps, S_len, HT.sIx_nat, HT.sIx_nat]
  have e : min p l.length = p := Nat.min_eq_left hp
  rw [e]
  by_cases h : q ≤ l.length
  · rw [Nat.min_eq_left h] <;> rfl
  · rw [Nat.min_eq_right (by omega)]
    unfold S
    congr 2
    rw [List.take_of_length_le (by rw [List.length_drop]; omega), List.take_of_length_le (by rw [List.length_drop]; omega)]
theorem dIx_S {l : List Nat} {i : Int} {c : Nat} (h : l.length ≤ sizeLine) (e : atI l i = some c) {G : Gp} {Q : DK} (q : Q (.str (S [c])) G) : dIx (.str (S l)) (.int i) G Q := by
  show (S l).length ≤ sizeLine ∧ _
  rw [S_len, S_cps, e]
  exact ⟨h, q⟩
def lowers : List Nat := [97, 98, 99, 100, 101, 102, 103, 104, 105, 106, 107, 108, 109, 110, 111, 112, 113, 114, 115, 116, 117, 118, 119, 120, 121, 122]
def capitals : List Nat := [65, 66, 67, 68, 69, 70, 71, 72, 73, 74, 75, 76, 77, 78, 79, 80, 81, 82, 83, 84, 85, 86, 87, 88, 89, 90]
def digits : List Nat := [48, 49, 50, 51, 52, 53, 54, 55, 56, 57]
def keyTexts : List Str := ["and", "case", "data", "else", "end", "false", "fn", "fun", "if", "in", "let", "mod", "not", "of", "print", "raise", "ref", "then", "true", "try", "val", "with"]
def signTexts : List Str := ["=>", "->", "::", ":=", "<=", "==", "&&", "||", "+", "-", "*", "/", "<", "=", "!", ";", ",", "|", "(", ")", "[", "]", "_"]
def keyL : List (List Nat) := keyTexts.map fun s => s.cps.toList
def signL : List (List Nat) := signTexts.map fun s => s.cps.toList
theorem str_S (s : Str) : s = S s.cps.toList := by simp [S]
theorem keyT_S : keyTexts = keyL.map S := by
  unfold keyL
  rw [List.map_map]
  exact (List.map_id keyTexts).symm.trans (List.map_congr_left fun s _ => str_S s)
theorem signT_S : signTexts = signL.map S := by
  unfold signL
  rw [List.map_map]
  exact (List.map_id signTexts).symm.trans (List.map_congr_left fun s _ => str_S s)

/-! ### what the top has written -/
structure Txt (K : PySem.W.Frag) (mg : Str → Option Value) (CT CL CE CU aK aS : Addr) : Prop where
  g_Token : mg "Token" = some (.ref CT)
  g_Lexer : mg "Lexer" = some (.ref CL)
  g_LexError : mg "LexError" = some (.ref CE)
  g_TongueError : mg "TongueError" = some (.ref CU)
  c_Token : Cls K CT
  c_Lexer : Cls K CL
  n_Token_word : NoAttr K CT "word"
  n_Token_text : NoAttr K CT "text"
  n_Token_line : NoAttr K CT "line"
  n_Token_column : NoAttr K CT "column"
  n_Lexer_text : NoAttr K CL "text"
  n_Lexer_place : NoAttr K CL "place"
  n_Lexer_line : NoAttr K CL "line"
  n_Lexer_column : NoAttr K CL "column"
  x_LexError : PySem.W.excIn K CE [.type "ValueError", .type "Exception", .type "BaseException", .type "object"] "ValueError.__new__" = true
  k_LexError : PySem.W.keepIn K (.ref CE) = true
  e_LexError : PySem.W.subIn K (.ref CE) (.type "BaseException") = some true
  t_LexError : PySem.W.typeIn K (.ref CE) = some (.type "type")
  m_LexError : PySem.W.exmOne K (.ref CE) (.ref CE) = some true
  g_LETTERS : ∃ t, mg "LETTERS" = some (.str (S lowers) t)
  g_CAPITALS : ∃ t, mg "CAPITALS" = some (.str (S capitals) t)
  g_DIGITS : ∃ t, mg "DIGITS" = some (.str (S digits) t)
  g_LONGEST : ∃ t, mg "LONGEST" = some (.int 10 t)
  g_GREATEST : ∃ t, mg "GREATEST" = some (.int 2147483647 t)
  g_KEYWORDS : mg "KEYWORDS" = some (.ref aK)
  g_TOKEN_SIGNS : mg "TOKEN_SIGNS" = some (.ref aS)
  q_KEYWORDS : CqT K aK (keyTexts.map V.str)
  q_TOKEN_SIGNS : CqT K aS (signTexts.map V.str)
  z_len : mg "len" = none
  z_range : mg "range" = none
  z_int : mg "int" = none
  z_str : mg "str" = none
  z_all : mg "all" = none
  z_abs : mg "abs" = none
end K01

namespace K01
open PySem PySem.Spec PyProof.Rows L2 Z
section
variable (a b c d e : D)
theorem lk1 : List.lookup ("text" : Str) [(("text" : Str), a), ("place", b), ("line", c), ("column", d)] = some a := rfl
theorem lk2 : List.lookup ("place" : Str) [(("text" : Str), a), ("place", b), ("line", c), ("column", d)] = some b := rfl
theorem lk3 : List.lookup ("line" : Str) [(("text" : Str), a), ("place", b), ("line", c), ("column", d)] = some c := rfl
theorem lk4 : List.lookup ("column" : Str) [(("text" : Str), a), ("place", b), ("line", c), ("column", d)] = some d := rfl
theorem lm1 : List.lookup ("here" : Str) [(("text" : Str), a), ("place", b), ("line", c), ("column", d)] = none := rfl
theorem lm2 : List.lookup ("step" : Str) [(("text" : Str), a), ("place", b), ("line", c), ("column", d)] = none := rfl
theorem lm3 : List.lookup ("skip_blanks" : Str) [(("text" : Str), a), ("place", b), ("line", c), ("column", d)] = none := rfl
theorem lm4 : List.lookup ("run_of" : Str) [(("text" : Str), a), ("place", b), ("line", c), ("column", d)] = none := rfl
theorem lm5 : List.lookup ("token" : Str) [(("text" : Str), a), ("place", b), ("line", c), ("column", d)] = none := rfl
theorem lm6 : List.lookup ("name_token" : Str) [(("text" : Str), a), ("place", b), ("line", c), ("column", d)] = none := rfl
theorem lm7 : List.lookup ("number" : Str) [(("text" : Str), a), ("place", b), ("line", c), ("column", d)] = none := rfl
theorem lp2 : putA ("place" : Str) e [(("text" : Str), a), ("place", b), ("line", c), ("column", d)] = [(("text" : Str), a), ("place", e), ("line", c), ("column", d)] := rfl
theorem lp3 : putA ("line" : Str) e [(("text" : Str), a), ("place", b), ("line", c), ("column", d)] = [(("text" : Str), a), ("place", b), ("line", e), ("column", d)] := rfl
theorem lp4 : putA ("column" : Str) e [(("text" : Str), a), ("place", b), ("line", c), ("column", d)] = [(("text" : Str), a), ("place", b), ("line", c), ("column", e)] := rfl
theorem tk1 : List.lookup ("word" : Str) [(("word" : Str), a), ("text", b), ("line", c), ("column", d)] = some a := rfl
theorem tk2 : List.lookup ("text" : Str) [(("word" : Str), a), ("text", b), ("line", c), ("column", d)] = some b := rfl
theorem tk3 : List.lookup ("line" : Str) [(("word" : Str), a), ("text", b), ("line", c), ("column", d)] = some c := rfl
theorem tk4 : List.lookup ("column" : Str) [(("word" : Str), a), ("text", b), ("line", c), ("column", d)] = some d := rfl
theorem tm1 : List.lookup ("shown" : Str) [(("word" : Str), a), ("text", b), ("line", c), ("column", d)] = none := rfl
end
def lx (CL dx : Addr) (t : List Nat) (p : Nat) (l c : Int) : MO := .obj CL dx [("text", .str (S t)), ("place", .int p), ("line", .int l), ("column", .int c)]
def tkO (CT dx : Addr) (w x : Str) (l c : Int) : MO := .obj CT dx [("word", .str w), ("text", .str x), ("line", .int l), ("column", .int c)]

def one (q : Int × Int) (x : Nat) : Int × Int := if x = 10 then (q.1 + 1, 1) else (q.1, q.2 + 1)
def moved (q : Int × Int) (l : List Nat) : Int × Int := l.foldl one q
def posn (t : List Nat) (p : Nat) : Int × Int := moved (1, 1) (t.take p)
theorem posn_succ {t : List Nat} {p x : Nat} (h : t[p]? = some x) : posn t (p + 1) = one (posn t p) x := by
  unfold posn moved
  rw [List.take_add_one, h, List.foldl_append]
  rfl
def lexAt (CL dx : Addr) (t : List Nat) (p : Nat) : MO := lx CL dx t p (posn t p).1 (posn t p).2
theorem drop_some {t : List Nat} {p x : Nat} (h : t[p]? = some x) : t.drop p = x :: t.drop (p + 1) := by
  obtain ⟨hp, e⟩ := List.getElem?_eq_some_iff.mp h
  rw [← e]
  exact List.drop_eq_getElem_cons hp
theorem drop_end {t : List Nat} {p : Nat} (h : t[p]? = none) : t.drop p = [] := List.drop_eq_nil_of_le (List.getElem?_eq_none_iff.mp h)
def skipN : Bool → List Nat → Nat
  | _, [] => 0
  | true, x :: r => if x = 10 then 1 + skipN false r else 1 + skipN true r
  | false, x :: r => if x = 32 ∨ x = 10 then 1 + skipN false r else if x = 35 then 1 + skipN true r else 0
theorem lit_nl : ("\n" : Str) = S [10] := rfl
theorem lit_no : ("" : Str) = S [] := rfl
theorem lit_hash : ("#" : Str) = S [35] := rfl
theorem lit_blank : (" \n#" : Str) = S [32, 10, 35] := rfl
theorem sign1 {x : Nat} : S [x] = ⟨#[x]⟩ := rfl

/-! ### promises -/
def spTokenI (CT : Addr) : ZSp := fun ds G Q _ => ∃ a dx w x l c, ds = [.ref a, .str w, .str x, .int l, .int c] ∧ G a = some (.obj CT dx []) ∧ ∀ G', At G a (tkO CT dx w x l c) G' → Q .non G'
def spShown (CT : Addr) : ZSp := fun ds G Q _ => ∃ a dx w x l c, ds = [.ref a] ∧ G a = some (tkO CT dx w x l c) ∧ Q (.tup [.str w, .str x, .int l, .int c]) G
def spLexerI (CL : Addr) : ZSp := fun ds G Q _ => ∃ a dx t, ds = [.ref a, .str (S t)] ∧ G a = some (.obj CL dx []) ∧ ∀ G', At G a (lexAt CL dx t 0) G' → Q .non G'
def spHere (CL : Addr) : ZSp := fun ds G Q _ => ∃ a dx t p, ds = [.ref a] ∧ G a = some (lexAt CL dx t p) ∧ t.length ≤ sizeLine ∧ p ≤ t.length ∧ Q (.str (S ((t.drop p).take 1))) G
def spStep (CL : Addr) : ZSp := fun ds G Q _ => ∃ a dx t p x, ds = [.ref a] ∧ G a = some (lexAt CL dx t p) ∧ t.length ≤ sizeLine ∧ t[p]? = some x ∧ ∀ G', At G a (lexAt CL dx t (p + 1)) G' → Q .non G'
def spSkip (CL : Addr) : ZSp := fun ds G Q _ => ∃ a dx t p, ds = [.ref a] ∧ G a = some (lexAt CL dx t p) ∧ t.length ≤ sizeLine ∧ p ≤ t.length ∧ ∀ G', At G a (lexAt CL dx t (p + skipN false (t.drop p))) G' → Q .non G'
def runL (L r : List Nat) : List Nat := r.takeWhile fun x => decide (x ∈ L)
def spRun (CL : Addr) : ZSp := fun ds G Q _ => ∃ a dx t p L, ds = [.ref a, .str (S L)] ∧ G a = some (lexAt CL dx t p) ∧ t.length ≤ sizeLine ∧ p ≤ t.length ∧ ∀ G', At G a (lexAt CL dx t (p + (runL L (t.drop p)).length)) G' → Q (.str (S (runL L (t.drop p)))) G'
section
variable [τ : Tbl] {P : Program} {w : World} {K : PySem.W.Frag} {mg : Str → Option Value} {base : Heap} {CT CL CE CU aK aS : Addr}
theorem ok_TokenI {f : Addr} {fd : FuncData} (FF : Fun K "__init__" "Token.__init__" s_Token___init__ f fd) (T : Txt K mg CT CL CE CU aK aS) : FnOk P w K mg base (L2.CX P w) 1 f fd ["self", "word", "text", "line", "column"] (upSp K (spTokenI CT)) :=
  z_fn FF sc_Token___init__ (fun ds G Q E h => by obtain ⟨a, dx, w, x, l, c, rfl, _⟩ := h; rfl) fun bas cdv A outer s H E hr ds G Q E0 hE hz => by
    obtain ⟨a, dx, w, x, l, c, rfl, ha, hq⟩ := hz
    refine ⟨_, (zs_cons (z_sfld T.c_Token T.n_Token_word (z_var 0) (z_var 1)) (zs_cons (z_sfld T.c_Token T.n_Token_text (z_var 0) (z_var 2)) (zs_cons (z_sfld T.c_Token T.n_Token_line (z_var 0) (z_var 3)) (zs_cons (z_sfld T.c_Token T.n_Token_column (z_var 0) (z_var 4)) zs_nil)))), ?_⟩
    simp only [zSeq, zSFld, zVar, zNext, zstart, List.map_cons, List.map_nil, List.getElem?_cons_succ, List.getElem?_cons_zero, List.cons_append, ha]
    refine ⟨trivial, by decide, fun G1 h1 => ?_⟩
    rw [h1.is]
    refine ⟨rfl, by show 1 < 1000; decide, fun G2 h2 => ?_⟩
    rw [h2.is]
    refine ⟨rfl, by show 2 < 1000; decide, fun G3 h3 => ?_⟩
    rw [h3.is]
    refine ⟨rfl, by show 3 < 1000; decide, fun G4 h4 => ?_⟩
    exact hq G4 (((h1.trans h2).trans h3).trans h4)
theorem ok_Shown {f : Addr} {fd : FuncData} (FF : Fun K "shown" "Token.shown" s_Token_shown f fd) (T : Txt K mg CT CL CE CU aK aS) : FnOk P w K mg base (L2.CX P w) 1 f fd ["self"] (upSp K (spShown CT)) :=
  z_fn FF sc_Token_shown (fun ds G Q E h => by obtain ⟨a, dx, w, x, l, c, rfl, _⟩ := h; rfl) fun bas cdv A outer s H E hr ds G Q E0 hE hz => by
    obtain ⟨a, dx, w, x, l, c, rfl, ha, hq⟩ := hz
    refine ⟨_, (zs_one (z_ret (z_tup (za_cons (z_fld T.c_Token T.n_Token_word (z_var 0)) (za_cons (z_fld T.c_Token T.n_Token_text (z_var 0)) (za_cons (z_fld T.c_Token T.n_Token_line (z_var 0)) (za_cons (z_fld T.c_Token T.n_Token_column (z_var 0)) za_nil))))))), ?_⟩
    simp only [zRet, zTup, zCons, zNil, zFld, zVar, zstart, List.map_cons, List.map_nil, List.getElem?_cons_succ, List.getElem?_cons_zero, List.cons_append, ha, tkO, tk1, tk2, tk3, tk4, true_and]
    exact ⟨by show 4 ≤ sizeLine; decide, hq⟩
theorem ok_LexerI {f : Addr} {fd : FuncData} (FF : Fun K "__init__" "Lexer.__init__" s_Lexer___init__ f fd) (T : Txt K mg CT CL CE CU aK aS) : FnOk P w K mg base (L2.CX P w) 1 f fd ["self", "text"] (upSp K (spLexerI CL)) :=
  z_fn FF sc_Lexer___init__ (fun ds G Q E h => by obtain ⟨a, dx, t, rfl, _⟩ := h; rfl) fun bas cdv A outer s H E hr ds G Q E0 hE hz => by
    obtain ⟨a, dx, t, rfl, ha, hq⟩ := hz
    refine ⟨_, (zs_cons (z_sfld T.c_Lexer T.n_Lexer_text (z_var 0) (z_var 1)) (zs_cons (z_sfld T.c_Lexer T.n_Lexer_place (z_var 0) z_int) (zs_cons (z_sfld T.c_Lexer T.n_Lexer_line (z_var 0) z_int) (zs_cons (z_sfld T.c_Lexer T.n_Lexer_column (z_var 0) z_int) zs_nil)))), ?_⟩
    simp only [zSeq, zSFld, zVar, zNext, zC, zstart, List.map_cons, List.map_nil, List.getElem?_cons_succ, List.getElem?_cons_zero, List.cons_append, ha]
    refine ⟨trivial, by decide, fun G1 h1 => ?_⟩
    rw [h1.is]
    refine ⟨rfl, by show 1 < 1000; decide, fun G2 h2 => ?_⟩
    rw [h2.is]
    refine ⟨rfl, by show 2 < 1000; decide, fun G3 h3 => ?_⟩
    rw [h3.is]
    refine ⟨rfl, by show 3 < 1000; decide, fun G4 h4 => ?_⟩
    exact hq G4 (((h1.trans h2).trans h3).trans h4)
theorem ok_Here {f : Addr} {fd : FuncData} (FF : Fun K "here" "Lexer.here" s_Lexer_here f fd) (T : Txt K mg CT CL CE CU aK aS) : FnOk P w K mg base (L2.CX P w) 1 f fd ["self"] (upSp K (spHere CL)) :=
  z_fn FF sc_Lexer_here (fun ds G Q E h => by obtain ⟨a, dx, t, p, rfl, _⟩ := h; rfl) fun bas cdv A outer s H E hr ds G Q E0 hE hz => by
    obtain ⟨a, dx, t, p, rfl, ha, hl, hp, hq⟩ := hz
    refine ⟨_, (zs_one (z_ret (z_slice zsl_str (z_fld T.c_Lexer T.n_Lexer_text (z_var 0)) (zo_some (z_fld T.c_Lexer T.n_Lexer_place (z_var 0))) (zo_some (z_op zo_add (z_fld T.c_Lexer T.n_Lexer_place (z_var 0)) z_int))))), ?_⟩
    simp only [zRet, zSl, zFld, zVar, zPart, zOp, zC, dI0, dSlS, zstart, List.map_cons, List.map_nil, List.getElem?_cons_succ, List.getElem?_cons_zero, List.cons_append, ha, lexAt, lx, lk1, lk2, true_and]
    refine ⟨by rw [S_len]; exact hl, ?_⟩
    rw [show ((p : Int) + 1) = ((p + 1 : Nat) : Int) by omega, S_cut t hp (Nat.le_succ p), show p.succ - p = 1 by omega]
    exact hq
end
section
variable {a dx CL : Addr} {t : List Nat} {p : Nat} {ρ : ZSt} {G : Gp}
theorem run_here {Q : DK} {to : DE} (ht : ∀ R, to ρ G R = R (.ref a) G) (ha : G a = some (lexAt CL dx t p)) (hl : t.length ≤ sizeLine) (hp : p ≤ t.length) (hq : Q (.str (S ((t.drop p).take 1))) G) : zMeth CL "here" (spHere CL) X0 to zNil ρ G Q := by
  simp only [zMeth, ht, ha, lexAt, lx, lm1, zNil, true_and]
  exact ⟨a, dx, t, p, rfl, ha, hl, hp, hq⟩
theorem run_step {Q : DK} {to : DE} {x : Nat} (ht : ∀ R, to ρ G R = R (.ref a) G) (ha : G a = some (lexAt CL dx t p)) (hl : t.length ≤ sizeLine) (hx : t[p]? = some x) (hq : ∀ G', At G a (lexAt CL dx t (p + 1)) G' → Q .non G') : zMeth CL "step" (spStep CL) X0 to zNil ρ G Q := by
  simp only [zMeth, ht, ha, lexAt, lx, lm2, zNil, true_and]
  exact ⟨a, dx, t, p, x, rfl, ha, hl, hx, hq⟩
end
section
variable [τ : Tbl] {P : Program} {w : World} {K : PySem.W.Frag} {mg : Str → Option Value} {base : Heap} {CT CL CE CU aK aS : Addr}
theorem ok_Step {f : Addr} {fd : FuncData} (FF : Fun K "step" "Lexer.step" s_Lexer_step f fd) (T : Txt K mg CT CL CE CU aK aS) (D_Lexer_here : Mtd P w K mg base CL "here" 1 ["self"] (spHere CL)) : FnOk P w K mg base (L2.CX P w) 2 f fd ["self"] (upSp K (spStep CL)) :=
  z_fn FF sc_Lexer_step (fun ds G Q E h => by obtain ⟨a, dx, t, p, x, rfl, _⟩ := h; rfl) fun bas cdv A outer s H E hr ds G Q E0 hE hz => by
    obtain ⟨a, dx, t, p, x, rfl, ha, hl, hx, hq⟩ := hz
    refine ⟨_, (zs_cons (z_if (z_tcmp zo_eqF (z_mm0 T.c_Lexer D_Lexer_here hr (by decide) (z_var 0)) z_str) (zs_cons (z_fldaug T.c_Lexer T.n_Lexer_line (z_var 0) z_int zi_add) (zs_cons (z_sfld T.c_Lexer T.n_Lexer_column (z_var 0) z_int) zs_nil)) (zs_one (z_fldaug T.c_Lexer T.n_Lexer_column (z_var 0) z_int zi_add))) (zs_cons (z_fldaug T.c_Lexer T.n_Lexer_place (z_var 0) z_int zi_add) zs_nil)), ?_⟩
    have hp : p < t.length := (List.getElem?_eq_some_iff.mp hx).1
    refine run_here (fun _ => rfl) ha hl (Nat.le_of_lt hp) ?_
    rw [drop_some hx, List.take_succ_cons, List.take_zero]
    simp only [zC, dEqF_s, dEqF_i, lit_nl, S_inj, Bool.false_bne, List.cons.injEq, and_true]
    by_cases h10 : x = 10
    · simp only [h10, decide_true, if_true, zSeq, zFldAug, zVar, zC, zSFld, dI0, zNext, zstart, List.map_cons, List.map_nil, List.getElem?_cons_succ, List.getElem?_cons_zero, List.cons_append, ha, lexAt, lx, lk3, true_and]
      refine ⟨by show 4 < 1000; decide, fun G1 h1 => ?_⟩
      simp only [lp3] at h1
      rw [h1.is]
      refine ⟨rfl, by show 4 < 1000; decide, fun G2 h2 => ?_⟩
      simp only [lp4] at h2
      rw [h2.is]
      simp only [lk2, true_and]
      refine ⟨by show 4 < 1000; decide, fun G3 h3 => ?_⟩
      simp only [lp2] at h3
      refine hq G3 ?_
      have hh := (h1.trans h2).trans h3
      unfold lexAt lx
      rw [posn_succ hx, h10]
      exact hh
    · simp only [h10, decide_false, Bool.false_eq_true, if_false, zSeq, zFldAug, zVar, zC, zSFld, dI0, zNext, zstart, List.map_cons, List.map_nil, List.getElem?_cons_succ, List.getElem?_cons_zero, List.cons_append, ha, lexAt, lx, lk4, true_and]
      refine ⟨by show 4 < 1000; decide, fun G1 h1 => ?_⟩
      simp only [lp4] at h1
      rw [h1.is]
      simp only [lk2, true_and]
      refine ⟨by show 4 < 1000; decide, fun G3 h3 => ?_⟩
      simp only [lp2] at h3
      refine hq G3 ?_
      have hh := h1.trans h3
      unfold lexAt lx
      rw [posn_succ hx]
      unfold one
      rw [if_neg h10]
      exact hh
end
section
variable {t : List Nat} {p x : Nat} {L : List Nat}
theorem at_cases (t : List Nat) (p : Nat) (hp : p ≤ t.length) : (t[p]? = none ∧ t.drop p = [] ∧ (t.drop p).take 1 = []) ∨ ∃ x, t[p]? = some x ∧ t.drop p = x :: t.drop (p + 1) ∧ (t.drop p).take 1 = [x] ∧ p + 1 ≤ t.length := by
  cases h : t[p]? with
  | none => exact .inl ⟨rfl, drop_end h, by rw [drop_end h]; rfl⟩
  | some x =>
    refine .inr ⟨x, rfl, drop_some h, ?_, (List.getElem?_eq_some_iff.mp h).1⟩
    rw [drop_some h, List.take_succ_cons, List.take_zero]
theorem runL_nil : runL L [] = [] := rfl
theorem runL_yes {r : List Nat} (h : x ∈ L) : runL L (x :: r) = x :: runL L r := by
  unfold runL
  rw [List.takeWhile_cons, if_pos (decide_eq_true h)]
theorem runL_no {r : List Nat} (h : ¬ x ∈ L) : runL L (x :: r) = [] := by
  unfold runL
  rw [List.takeWhile_cons, if_neg (by simpa using h)]
theorem runL_take : ∀ r : List Nat, r.take (runL L r).length = runL L r
  | [] => rfl
  | x :: r => by
    by_cases h : x ∈ L
    · rw [runL_yes h, List.length_cons, List.take_succ_cons, runL_take r]
    · rw [runL_no h]
      rfl
theorem runL_le : ∀ r : List Nat, (runL L r).length ≤ r.length := fun r => List.Sublist.length_le (List.takeWhile_sublist _)
theorem skip_step {r : List Nat} (h : x = 32 ∨ x = 10) : skipN false (x :: r) = 1 + skipN false r := if_pos h
theorem skip_hash {r : List Nat} : skipN false (35 :: r) = skipN true (35 :: r) := rfl
theorem skip_in {r : List Nat} (h : ¬ x = 10) : skipN true (x :: r) = 1 + skipN true r := if_neg h
theorem skip_out {r : List Nat} : skipN true (10 :: r) = skipN false (10 :: r) := rfl
theorem skip_no {r : List Nat} (h : ¬ (x = 32 ∨ x = 10 ∨ x = 35)) : skipN false (x :: r) = 0 := by
  have h1 : ¬ (x = 32 ∨ x = 10) := fun z => h (z.elim .inl fun z => .inr (.inl z))
  have h2 : ¬ x = 35 := fun z => h (.inr (.inr z))
  show (if x = 32 ∨ x = 10 then _ else if x = 35 then _ else 0) = 0
  rw [if_neg h1, if_neg h2]
end
section
variable [τ : Tbl] {P : Program} {w : World} {K : PySem.W.Frag} {mg : Str → Option Value} {base : Heap} {CT CL CE CU aK aS : Addr}
theorem ok_Run {f : Addr} {fd : FuncData} (FF : Fun K "run_of" "Lexer.run_of" s_Lexer_run_of f fd) (T : Txt K mg CT CL CE CU aK aS) (D_Lexer_here : Mtd P w K mg base CL "here" 1 ["self"] (spHere CL)) (D_Lexer_step : Mtd P w K mg base CL "step" 2 ["self"] (spStep CL)) : FnOk P w K mg base (L2.CX P w) 3 f fd ["self", "letters"] (upSp K (spRun CL)) :=
  z_fn FF sc_Lexer_run_of (fun ds G Q E h => by obtain ⟨a, dx, t, p, L, rfl, _⟩ := h; rfl) fun bas cdv A outer s H E hr ds G Q E0 hE hz => by
    obtain ⟨a, dx, t, p, L, rfl, ha, hl, hp, hq⟩ := hz
    refine ⟨_, (zs_cons (z_set (i := 2) sc_Lexer_run_of.nd rfl (Or.inl rfl) (z_fld T.c_Lexer T.n_Lexer_place (z_var 0))) (zs_cons (z_while (passes_of (by rfl)) (zw_t (zw_and (z_tcmp zo_neF (z_mm0 T.c_Lexer D_Lexer_here hr (by decide) (z_var 0)) z_str) (zw_and1 (z_tcmp zo_sign (z_mm0 T.c_Lexer D_Lexer_here hr (by decide) (z_var 0)) (z_var 1))))) (zs_one (z_expr (z_mm0 T.c_Lexer D_Lexer_step hr (by decide) (z_var 0))))) (zs_cons (z_ret (z_slice zsl_str (z_fld T.c_Lexer T.n_Lexer_text (z_var 0)) (zo_some (z_var 2)) (zo_some (z_fld T.c_Lexer T.n_Lexer_place (z_var 0))))) zs_nil))), ?_⟩
    simp only [zSeq, zAsg, zName, zFld, zVar, zstart, List.map_cons, List.map_nil, List.getElem?_cons_succ, List.getElem?_cons_zero, List.cons_append, ha, lexAt, lx, lk2, true_and]
    refine ⟨fun m ρ G' => ∃ q, ρ = [some (.ref a), some (.str (S L)), some (.int p)] ∧ At G a (lexAt CL dx t q) G' ∧ p ≤ q ∧ q ≤ t.length ∧ q + (runL L (t.drop q)).length = p + (runL L (t.drop p)).length ∧ m = t.length - q, ⟨_, p, rfl, At.self ha, Nat.le_refl _, hp, rfl, rfl⟩, ?_⟩
    rintro m ρ G1 ⟨q, rfl, h1, hpq, hq1, hsum, rfl⟩
    have fin : runL L (t.drop q) = [] → zRet (zSl dSlS (zFld CL (zVar 0) "text") (zPart (zVar 2)) (zPart (zFld CL (zVar 0) "place"))) { nx := fun _ G' => Q .non G', rt := Q } [some (.ref a), some (.str (S L)), some (.int p)] G1 := fun e0 => by
      rw [e0, List.length_nil, Nat.add_zero] at hsum
      subst hsum
      simp only [zRet, zSl, zFld, zVar, zPart, dSlS, List.getElem?_cons_succ, List.getElem?_cons_zero, h1.is, lexAt, lx, lk1, lk2, true_and]
      refine ⟨by rw [S_len]; exact hl, ?_⟩
      rw [S_cut t hp (by omega), show p + (runL L (t.drop p)).length - p = (runL L (t.drop p)).length by omega, runL_take]
      exact hq G1 h1
    refine run_here (fun _ => rfl) h1.is hl hq1 ?_
    rcases at_cases t q hq1 with ⟨hx, e1, e2⟩ | ⟨x, hx, e1, e2, hlt⟩
    · rw [e2]
      simp only [zC, dEqF_s, dEqF_i, lit_no, S_inj, decide_true, Bool.true_bne, Bool.not_true, Bool.false_eq_true, if_false]
      exact fin (by rw [e1]; rfl)
    · rw [e2]
      simp only [zC, dEqF_s, dEqF_i, lit_no, S_inj, reduceCtorEq, decide_false, Bool.true_bne, Bool.not_false, if_true]
      refine run_here (fun _ => rfl) h1.is hl hq1 ?_
      rw [e2]
      simp only [zVar, List.getElem?_cons_succ, List.getElem?_cons_zero, dSign]
      refine ⟨x, rfl, ?_⟩
      rw [S_cps]
      by_cases hm : x ∈ L
      · simp only [hm, decide_true, Bool.false_bne, if_true, zDrop]
        refine run_step (fun _ => rfl) h1.is hl hx fun G2 h2 => ?_
        refine ⟨_, ?_, q + 1, trivial, h1.trans h2, by omega, hlt, ?_, rfl⟩
        · omega
        · rw [e1, runL_yes hm, List.length_cons] at hsum
          omega
      · simp only [hm, decide_false, Bool.false_bne, Bool.false_eq_true, if_false]
        exact fin (by rw [e1]; exact runL_no hm)
end
end K01

namespace K01
open PySem PySem.Spec PyProof.Rows L2 Z
theorem eqF_str (x y : Str) : eqF (.str x) (.str y) = decide (x = y) := by
  show PyData.eqv (.str x) (.str y) = decide (x = y)
  simp [PyData.eqv, Bool.beq_eq_decide_eq]
section
variable [τ : Tbl] {P : Program} {w : World} {K : PySem.W.Frag} {mg : Str → Option Value} {base : Heap} {CT CL CE CU aK aS : Addr}
theorem ok_Skip {f : Addr} {fd : FuncData} (FF : Fun K "skip_blanks" "Lexer.skip_blanks" s_Lexer_skip_blanks f fd) (T : Txt K mg CT CL CE CU aK aS) (D_Lexer_here : Mtd P w K mg base CL "here" 1 ["self"] (spHere CL)) (D_Lexer_step : Mtd P w K mg base CL "step" 2 ["self"] (spStep CL)) : FnOk P w K mg base (L2.CX P w) 3 f fd ["self"] (upSp K (spSkip CL)) :=
  z_fn FF sc_Lexer_skip_blanks (fun ds G Q E h => by obtain ⟨a, dx, t, p, rfl, _⟩ := h; rfl) fun bas cdv A outer s H E hr ds G Q E0 hE hz => by
    obtain ⟨a, dx, t, p, rfl, ha, hl, hp, hq⟩ := hz
    refine ⟨_, (zs_one (z_while (passes_of (by rfl)) (zw_t (zw_and (z_tcmp zo_neF (z_mm0 T.c_Lexer D_Lexer_here hr (by decide) (z_var 0)) z_str) (zw_and1 (z_tcmp zo_sign (z_mm0 T.c_Lexer D_Lexer_here hr (by decide) (z_var 0)) z_str)))) (zs_one (z_if (z_tcmp zo_eqF (z_mm0 T.c_Lexer D_Lexer_here hr (by decide) (z_var 0)) z_str) (zs_one (z_while (passes_of (by rfl)) (z_tcmp zo_notinF (z_mm0 T.c_Lexer D_Lexer_here hr (by decide) (z_var 0)) (z_tup (za_cons z_str (za_cons z_str za_nil)))) (zs_one (z_expr (z_mm0 T.c_Lexer D_Lexer_step hr (by decide) (z_var 0)))))) (zs_one (z_expr (z_mm0 T.c_Lexer D_Lexer_step hr (by decide) (z_var 0)))))))), ?_⟩
    refine ⟨fun m ρ G' => ∃ q, ρ = [some (.ref a)] ∧ At G a (lexAt CL dx t q) G' ∧ q ≤ t.length ∧ q + skipN false (t.drop q) = p + skipN false (t.drop p) ∧ m = t.length - q, ⟨_, p, rfl, At.self ha, hp, rfl, rfl⟩, ?_⟩
    rintro m ρ G1 ⟨q, rfl, h1, hq1, hsum, rfl⟩
    refine run_here (fun _ => rfl) h1.is hl hq1 ?_
    rcases at_cases t q hq1 with ⟨hx, e1, e2⟩ | ⟨x, hx, e1, e2, hlt⟩
    · rw [e2]
      simp only [zC, dEqF_s, dEqF_i, lit_no, S_inj, decide_true, Bool.true_bne, Bool.not_true, Bool.false_eq_true, if_false]
      rw [e1] at hsum
      have hsum : q = p + skipN false (t.drop p) := hsum
      subst hsum
      exact hq G1 h1
    · rw [e2]
      simp only [zC, dEqF_s, dEqF_i, lit_no, S_inj, reduceCtorEq, decide_false, Bool.true_bne, Bool.not_false, if_true]
      refine run_here (fun _ => rfl) h1.is hl hq1 ?_
      rw [e2]
      simp only [zC, dSign]
      refine ⟨x, rfl, ?_⟩
      rw [lit_blank, S_cps]
      by_cases hm : x ∈ [32, 10, 35]
      · simp only [hm, decide_true, Bool.false_bne, if_true]
        refine run_here (fun _ => rfl) h1.is hl hq1 ?_
        rw [e2]
        simp only [zC, dEqF_s, dEqF_i, lit_hash, S_inj, Bool.false_bne, List.cons.injEq, and_true]
        by_cases h35 : x = 35
        · simp only [h35, decide_true, if_true]
          subst h35
          have hs2 : q + skipN true (t.drop q) = p + skipN false (t.drop p) := by
            rw [e1] at hsum ⊢
            exact hsum
          refine ⟨fun m ρ G' => ∃ r, ρ = [some (.ref a)] ∧ At G a (lexAt CL dx t r) G' ∧ q ≤ r ∧ r ≤ t.length ∧ r + skipN true (t.drop r) = p + skipN false (t.drop p) ∧ (r = q → t[r]? = some 35) ∧ m = t.length - r, ⟨_, q, rfl, h1, Nat.le_refl _, hq1, hs2, fun _ => hx, rfl⟩, ?_⟩
          rintro m ρ G2 ⟨r, rfl, h2, hqr, hr1, hs3, hfirst, rfl⟩
          refine run_here (fun _ => rfl) h2.is hl hr1 ?_
          simp only [zTup, zCons, zNil, zC, dInF, seqD, lit_no, lit_nl]
          refine ⟨by show 2 ≤ sizeLine; decide, rfl, rfl, ?_⟩
          simp only [List.any_cons, List.any_nil, eqF_str, S_inj, if_true, Bool.or_false]
          rcases at_cases t r hr1 with ⟨hy, f1, f2⟩ | ⟨y, hy, f1, f2, hlt2⟩
          · rw [f2]
            simp only [decide_true, Bool.true_or, Bool.not_true, Bool.false_eq_true, if_false]
            refine ⟨_, ?_, r, trivial, h2, hr1, ?_, rfl⟩
            · have : r ≠ q := fun z => by rw [hfirst z] at hy; cases hy
              omega
            · rw [f1] at hs3 ⊢
              exact hs3
          · rw [f2]
            by_cases hn : y = 10
            · subst hn
              simp only [reduceCtorEq, decide_false, decide_true, Bool.or_true, Bool.not_true, Bool.false_eq_true, if_false]
              refine ⟨_, ?_, r, trivial, h2, hr1, ?_, rfl⟩
              · have : r ≠ q := fun z => by
                  have := hfirst z
                  rw [hy] at this
                  cases this
                omega
              · rw [f1] at hs3 ⊢
                exact hs3
            · have hn2 : ¬ (10 = y) := fun z => hn z.symm
              simp only [reduceCtorEq, List.cons.injEq, hn2, and_true, decide_false, Bool.or_false, Bool.not_false, if_true, zDrop]
              refine run_step (fun _ => rfl) h2.is hl hy fun G3 h3 => ?_
              refine ⟨_, ?_, r + 1, trivial, h2.trans h3, by omega, hlt2, ?_, fun z => by omega, rfl⟩
              · omega
              · rw [f1, skip_in hn] at hs3
                omega
        · simp only [h35, decide_false, Bool.false_eq_true, if_false, zDrop]
          refine run_step (fun _ => rfl) h1.is hl hx fun G2 h2 => ?_
          refine ⟨_, ?_, q + 1, trivial, h1.trans h2, hlt, ?_, rfl⟩
          · omega
          · have hc : x = 32 ∨ x = 10 := by
              simp only [List.mem_cons, List.not_mem_nil, or_false] at hm
              omega
            rw [e1, skip_step hc] at hsum
            omega
      · simp only [hm, decide_false, Bool.false_bne, Bool.false_eq_true, if_false]
        have hc : ¬ (x = 32 ∨ x = 10 ∨ x = 35) := fun z => hm (by simpa using z)
        rw [e1, skip_no hc, Nat.add_zero] at hsum
        subst hsum
        exact hq G1 h1
end
end K01

namespace K01
open PySem PySem.Spec PyProof.Rows L2 Z
/-! ### numbers, names, signs at the head of a text -/
def okNum (d : List Nat) : Bool := !(decide (1 < d.length) && decide (d.head? = some 48)) && (decide (d.length ≤ 10) && decide (NumText.digitsVal d ≤ 2147483647))
def tailL : List Nat := lowers ++ capitals ++ digits ++ [95]
def nameWord (x : Nat) (tx : List Nat) : Str := if tx ∈ keyL then S tx else if x ∈ lowers then "name" else "constructor"
def signAt (r : List Nat) : Option (List Nat) := signL.find? fun s => s.isPrefixOf r
def tokR (r : List Nat) : Option (Str × List Nat) := match r with
  | [] => none
  | x :: _ => if x ∈ digits then (if okNum (runL digits r) = true then some ("int", runL digits r) else none)
    else if x ∈ lowers ++ capitals then some (nameWord x (runL tailL r), runL tailL r)
    else (signAt r).map fun s => (S s, s)
theorem digits_all {r : List Nat} : NumText.AllDigits (runL digits r) := fun c hc => by
  have ha : (runL digits r).all (fun x => decide (x ∈ digits)) = true := List.all_takeWhile
  have h : c ∈ digits := of_decide_eq_true (List.all_eq_true.mp ha c hc)
  simp only [digits, List.mem_cons, List.not_mem_nil, or_false] at h
  omega
theorem posn_le (t : List Nat) : ∀ p : Nat, 1 ≤ (posn t p).1 ∧ (posn t p).1 ≤ 1 + p ∧ 1 ≤ (posn t p).2 ∧ (posn t p).2 ≤ 1 + p
  | 0 => ⟨Int.le_refl _, Int.le_refl _, Int.le_refl _, Int.le_refl _⟩
  | p + 1 => by
    have ih := posn_le t p
    cases h : t[p]? with
    | none =>
      have e : posn t (p + 1) = posn t p := by
        unfold posn
        rw [List.take_add_one, h]
        simp
      rw [e]
      omega
    | some x =>
      rw [posn_succ h]
      unfold one
      by_cases hx : x = 10
      · rw [if_pos hx]
        refine ⟨?_, ?_, ?_, ?_⟩ <;> simp only <;> omega
      · rw [if_neg hx]
        refine ⟨?_, ?_, ?_, ?_⟩ <;> simp only <;> omega
/-- a number of a place can be printed -/
theorem fits_place {i : Int} {p : Nat} (h1 : 1 ≤ i) (h2 : i ≤ 1 + p) (hp : p ≤ sizeLine) : i.natAbs.log2 < 1920 ∧ (Str.ofString (toString i)).length ≤ 10 := by
  rw [sizeLine_eq] at hp
  refine ⟨?_, PyProof.Rows.toString_length_le (by omega) (by decide) (by omega)⟩
  refine Nat.lt_of_lt_of_le ((Nat.log2_lt (by omega)).mpr (show i.natAbs < 2 ^ 30 by omega)) (by decide)
theorem str_len_app (a b : Str) : (a ++ b).length = a.length + b.length := by
  show (a.cps ++ b.cps).size = a.cps.size + b.cps.size
  rw [Array.size_append]
theorem run_fmt {l c : Int} {p : Nat} (hl : 1 ≤ l ∧ l ≤ 1 + p) (hc : 1 ≤ c ∧ c ≤ 1 + p) (hp : p ≤ sizeLine) {a b e : Str} (ha : a.length ≤ 100) (hb : b.length ≤ 100) (he : e.length ≤ 100) {i j : Nat} {ρ : ZSt} {G : Gp} (hi : ρ[i]? = some (some (.int l))) (hj : ρ[j]? = some (some (.int c))) {Q : DK} (hq : ∀ x, Q (.str x) G) :
    zJoin [zC (.str a), zFmt (zVar i), zC (.str b), zFmt (zVar j), zC (.str e)] ρ G Q := by
  obtain ⟨l1, l2⟩ := fits_place hl.1 hl.2 hp
  obtain ⟨c1, c2⟩ := fits_place hc.1 hc.2 hp
  have z : (Str.empty : Str).length = 0 := rfl
  have big : 1000 ≤ sizeLine := by decide
  simp only [zJoin, zJs, zC, zFmt, zVar, hi, hj, str_len_app, z]
  exact ⟨by omega, l1, by omega, by omega, c1, by omega, by omega, hq _⟩

/-! ### promises -/
def spNumber (CL CE : Addr) : ZSp := fun ds G Q E => ∃ a dx t p, ds = [.ref a] ∧ G a = some (lexAt CL dx t p) ∧ t.length ≤ sizeLine ∧ p ≤ t.length ∧ runL digits (t.drop p) ≠ [] ∧
  (okNum (runL digits (t.drop p)) = true → ∀ G', At G a (lexAt CL dx t (p + (runL digits (t.drop p)).length)) G' → Q (.str (S (runL digits (t.drop p)))) G') ∧ (okNum (runL digits (t.drop p)) = false → ∀ G', At G a (lexAt CL dx t (p + (runL digits (t.drop p)).length)) G' → E (.ref CE) G')
def spName (CL CT : Addr) : ZSp := fun ds G Q _ => ∃ a dx t p l c x, ds = [.ref a, .int l, .int c] ∧ G a = some (lexAt CL dx t p) ∧ t.length ≤ sizeLine ∧ t[p]? = some x ∧
  ∀ G1 y dy G', At G a (lexAt CL dx t (p + (runL tailL (t.drop p)).length)) G1 → G1 y = none → At G1 y (tkO CT dy (nameWord x (runL tailL (t.drop p))) (S (runL tailL (t.drop p))) l c) G' → Q (.ref y) G'
def spToken (CL CT CE : Addr) : ZSp := fun ds G Q E => ∃ a dx t p, ds = [.ref a] ∧ G a = some (lexAt CL dx t p) ∧ t.length ≤ sizeLine ∧ p < t.length ∧
  (∀ v tx, tokR (t.drop p) = some (v, tx) → ∀ G1 y dy G', At G a (lexAt CL dx t (p + tx.length)) G1 → G1 y = none → At G1 y (tkO CT dy v (S tx) (posn t p).1 (posn t p).2) G' → Q (.ref y) G') ∧ (tokR (t.drop p) = none → ∀ q G', At G a (lexAt CL dx t q) G' → E (.ref CE) G')
section
variable {a dx CL CT : Addr} {t : List Nat} {p : Nat} {ρ : ZSt} {G : Gp}
theorem run_run {Q : DK} {to : DE} {tA : DA} {L : List Nat} (ht : ∀ R, to ρ G R = R (.ref a) G) (hA : ∀ R, tA ρ G R = R [.str (S L)] G) (ha : G a = some (lexAt CL dx t p)) (hl : t.length ≤ sizeLine) (hp : p ≤ t.length)
    (hq : ∀ G', At G a (lexAt CL dx t (p + (runL L (t.drop p)).length)) G' → Q (.str (S (runL L (t.drop p)))) G') : zMeth CL "run_of" (spRun CL) X0 to tA ρ G Q := by
  simp only [zMeth, ht, ha, lexAt, lx, lm4, hA, true_and]
  exact ⟨a, dx, t, p, L, rfl, ha, hl, hp, hq⟩
theorem run_tok {Q : DK} {tA : DA} {v x : Str} {l c : Int} (hA : ∀ R, tA ρ G R = R [.str v, .str x, .int l, .int c] G) (hq : ∀ y dy G', G y = none → At G y (tkO CT dy v x l c) G' → Q (.ref y) G') : zMake CT (spTokenI CT) X0 tA ρ G Q := by
  simp only [zMake, hA]
  intro y dy G2 hy h2
  exact ⟨y, dy, v, x, l, c, rfl, h2.is, fun G' h => ⟨rfl, hq y dy G' hy (h2.trans h)⟩⟩
end
section
variable [τ : Tbl] {P : Program} {w : World} {K : PySem.W.Frag} {mg : Str → Option Value} {base : Heap} {CT CL CE CU aK aS : Addr}
theorem ok_Number {f : Addr} {fd : FuncData} (FF : Fun K "number" "Lexer.number" s_Lexer_number f fd) (T : Txt K mg CT CL CE CU aK aS) (D_Lexer_run_of : Mtd P w K mg base CL "run_of" 3 ["self", "letters"] (spRun CL)) : FnOk P w K mg base (L2.CX P w) 4 f fd ["self"] (upSp K (spNumber CL CE)) :=
  z_fn FF sc_Lexer_number (fun ds G Q E h => by obtain ⟨a, dx, t, p, rfl, _⟩ := h; rfl) fun bas cdv A outer s H E hr ds G Q E0 hE hz => by
    obtain ⟨a, dx, t, p, rfl, ha, hl, hp, hne, hy, hn⟩ := hz
    refine ⟨_, (zs_cons (z_par (i := 1) (j := 2) rfl sc_Lexer_number.nd rfl rfl (by decide) rfl rfl (za_cons (z_fld T.c_Lexer T.n_Lexer_line (z_var 0)) (za_cons (z_fld T.c_Lexer T.n_Lexer_column (z_var 0)) za_nil)) (by rfl)) (zs_cons (z_set (i := 3) sc_Lexer_number.nd rfl (Or.inl rfl) (z_mm T.c_Lexer D_Lexer_run_of hr (by decide) (z_var 0) (za_cons (z_gstr (by rfl) T.g_DIGITS) za_nil))) (zs_cons (z_if (zw_t (zw_and (z_tcmp zo_gt (z_callB zf_len (by rfl) T.z_len (by rfl) (za_cons (z_var 3) za_nil)) z_int) (zw_and1 (z_tcmp zo_eqF (z_ix (z_var 3) z_int) z_str)))) (zs_one (z_raise1 PySem.F.excBase_ValueError T.x_LexError T.g_LexError T.k_LexError (raises_own T.e_LexError T.t_LexError) (by rfl) rfl (takes_of rfl rfl rfl rfl) hE (z_joined (.cons z_str (.cons (z_fmt (z_var 1)) (.cons z_str (.cons (z_fmt (z_var 2)) (.cons z_str .nil)))))))) zs_nil) (zs_cons (z_if (zw_t (zw_or (z_tcmp zo_gt (z_callB zf_len (by rfl) T.z_len (by rfl) (za_cons (z_var 3) za_nil)) (z_gint (by rfl) T.g_LONGEST)) (zw_or1 (z_tcmp zo_gt (z_callTy zf_intS (by rfl) T.z_int (by rfl) (za_cons (z_var 3) za_nil)) (z_gint (by rfl) T.g_GREATEST))))) (zs_one (z_raise1 PySem.F.excBase_ValueError T.x_LexError T.g_LexError T.k_LexError (raises_own T.e_LexError T.t_LexError) (by rfl) rfl (takes_of rfl rfl rfl rfl) hE (z_joined (.cons z_str (.cons (z_fmt (z_var 1)) (.cons z_str (.cons (z_fmt (z_var 2)) (.cons z_str .nil)))))))) zs_nil) (zs_cons (z_ret (z_var 3)) zs_nil))))), ?_⟩
    have bnd := posn_le t p
    have hpl : p ≤ sizeLine := Nat.le_trans hp hl
    simp only [zSeq, zAsg, zName, zPar, zPar3, zIfS, zAnd, zOrT, zNot, zTest, zOp, zCB, zCons, zNil, zVar, zC, zFld, zDrop, zRet, zRetN, zNext, zBreak, zCont, zIf, zTup, zSl, zPart, zNoP, zNeg, zChain, zAndV, zOrV, zNotV, zgTup, zgCons, zgNil, zRaise1, zList, zTupI, zStrI, zRng1, zRng2, zstart, dI0_e, dI_e, dEqF_i, dEqF_s, dEqF_b, dCatS_e, fLen_s, fInt_i, fInt_b, fAbs_i, List.map_cons, List.map_nil, List.getElem?_cons_succ, List.getElem?_cons_zero, List.set_cons_succ, List.set_cons_zero, List.cons_append, List.nil_append, List.length_cons, List.length_nil, Nat.reduceAdd, Nat.reduceSub, Nat.zero_add, List.reduceReplicate, true_and, and_true, ha, lexAt, lx, lk3, lk4]
    refine run_run (fun _ => rfl) (fun _ => rfl) ha hl hp fun G1 h1 => ?_
    generalize hd : runL digits (t.drop p) = d at *
    have hlen : d.length ≤ t.length := by
      rw [← hd]
      exact Nat.le_trans (runL_le _) (by rw [List.length_drop]; omega)
    have hall : NumText.AllDigits d := by
      rw [← hd]
      exact digits_all
    have hdl : (S d).length ≤ sizeLine := by
      rw [S_len]
      omega
    have bad : ∀ (e : Str), e.length ≤ 100 → okNum d = false → ∀ st, st = [some (D.ref a), some (.int (posn t p).1), some (.int (posn t p).2), some (.str (S d))] →
        zJoin [zC (.str "line "), zFmt (zVar 1), zC (.str ", column "), zFmt (zVar 2), zC (.str e)] st G1 (fun _ G' => E0 (.ref CE) G') := fun e he h st hs => by
      subst hs
      exact run_fmt (p := p) ⟨bnd.1, bnd.2.1⟩ ⟨bnd.2.2.1, bnd.2.2.2⟩ hpl (by decide) (by decide) he rfl rfl fun _ => hn h G1 h1
    simp only [zSeq, zAsg, zName, zPar, zPar3, zIfS, zAnd, zOrT, zNot, zTest, zOp, zCB, zCons, zNil, zVar, zC, zFld, zDrop, zRet, zRetN, zNext, zBreak, zCont, zIf, zTup, zSl, zPart, zNoP, zNeg, zChain, zAndV, zOrV, zNotV, zgTup, zgCons, zgNil, zRaise1, zList, zTupI, zStrI, zRng1, zRng2, zstart, dI0_e, dI_e, dEqF_i, dEqF_s, dEqF_b, dCatS_e, fLen_s, fInt_i, fInt_b, fAbs_i, List.map_cons, List.map_nil, List.getElem?_cons_succ, List.getElem?_cons_zero, List.set_cons_succ, List.set_cons_zero, List.cons_append, List.nil_append, List.length_cons, List.length_nil, Nat.reduceAdd, Nat.reduceSub, Nat.zero_add, List.reduceReplicate, true_and, and_true, fLen]
    refine ⟨hdl, ?_⟩
    rw [S_len]
    obtain ⟨y, d', rfl⟩ : ∃ y d', d = y :: d' := by
      cases d with
      | nil => exact absurd rfl hne
      | cons y d' => exact ⟨y, d', rfl⟩
    have hix : atI (S (y :: d')).cps.toList 0 = some y := by
      rw [S_cps]
      exact atI_nat (j := 0) rfl
    have hint : intText? (S (y :: d')) = some ((NumText.digitsVal (y :: d') : Nat) : Int) ∨ 4300 < (y :: d').length := by
      by_cases h : (y :: d').length ≤ 4300
      · refine .inl ?_
        have := intText_digits (x := S (y :: d')) (by rw [S_cps]; exact hall) (by rw [S_cps]; exact hne) (by rw [S_len]; exact h)
        rw [S_cps] at this
        exact this
      · exact .inr (by omega)
    have ok_of : okNum (y :: d') = true ↔ ¬ (1 < (y :: d').length ∧ y = 48) ∧ (y :: d').length ≤ 10 ∧ NumText.digitsVal (y :: d') ≤ 2147483647 := by
      unfold okNum
      simp only [Bool.and_eq_true, Bool.not_eq_true', Bool.and_eq_false_iff, decide_eq_true_eq, decide_eq_false_iff_not, List.head?_cons, Option.some.injEq]
      constructor
      · rintro ⟨h1, h2⟩
        exact ⟨fun z => h1.elim (fun k => k z.1) (fun k => k z.2), h2⟩
      · rintro ⟨h1, h2⟩
        refine ⟨?_, h2⟩
        by_cases k : 1 < (y :: d').length
        · exact .inr fun z => h1 ⟨k, z⟩
        · exact .inl k
    -- the second test
    have two : ¬ (1 < (y :: d').length ∧ y = 48) → ∀ (U V : Prop), (okNum (y :: d') = false → U) → (okNum (y :: d') = true → V) → (y :: d').length ≤ sizeLine ∧ if decide (10 < ((y :: d').length : Int)) = true then (if True then U else V) else fIntS [D.str (S (y :: d'))] G1 fun e G2 => dI0 (fun i j => D.bl (decide (j < i))) e (D.int 2147483647) G2 fun e2 _ => match e2 with
        | .bl b => if b = true then U else V
        | _ => False := fun hz U V hU hV => by
      refine ⟨by omega, ?_⟩
      by_cases hb : 10 < (y :: d').length
      · rw [if_pos (decide_eq_true (by omega)), if_pos True.intro]
        refine hU ?_
        rw [← Bool.not_eq_true, ok_of]
        intro h
        omega
      · rw [if_neg (by simp only [decide_eq_true_eq]; omega)]
        rcases hint with hint | hint
        · refine ⟨by rw [S_len]; omega, _, hint, ?_⟩
          show (if decide _ = true then U else V)
          by_cases hv : 2147483647 < NumText.digitsVal (y :: d')
          · rw [if_pos (decide_eq_true (by omega))]
            refine hU ?_
            rw [← Bool.not_eq_true, ok_of]
            intro h
            omega
          · rw [if_neg (by simp only [decide_eq_true_eq]; omega)]
            exact hV (ok_of.mpr ⟨hz, by omega, by omega⟩)
        · omega
    have last : ¬ (1 < (y :: d').length ∧ y = 48) → _ := fun hz => two hz (zJoin [zC (.str "line "), zFmt (zVar 1), zC (.str ", column "), zFmt (zVar 2), zC (.str ": number is too large")] [some (D.ref a), some (.int (posn t p).1), some (.int (posn t p).2), some (.str (S (y :: d')))] G1 fun _ G' => E0 (.ref CE) G') (Q (.str (S (y :: d'))) G1)
      (fun hb => bad _ (by decide) hb _ rfl) fun hk => hy hk G1 h1
    by_cases h1l : 1 < (y :: d').length
    · rw [if_pos (decide_eq_true (by omega))]
      refine dIx_S (by omega) (by rw [S_cps] at hix; exact hix) ?_
      simp only [dEqF_s]
      by_cases h48 : y = 48
      · rw [if_pos (by subst h48; rfl)]
        refine bad _ (by decide) ?_ _ rfl
        rw [← Bool.not_eq_true, ok_of]
        exact fun h => h.1 ⟨h1l, h48⟩
      · have hne2 : ¬ (S [y] = ("0" : Str)) := fun z => by
          have : S [y] = S [48] := z
          rw [S_inj] at this
          exact h48 (List.cons.inj this).1
        rw [if_neg (by rw [decide_eq_false hne2]; decide)]
        exact last fun z => h48 z.2
    · rw [if_neg (by simp only [decide_eq_true_eq]; omega), if_neg Bool.false_ne_true]
      exact last fun z => h1l z.1
end
end K01

namespace K01
open PySem PySem.Spec PyProof.Rows L2 Z
theorem key_any (tx : List Nat) : ((keyTexts.map D.str).any fun z => eqF z (.str (S tx))) = decide (tx ∈ keyL) := by
  rw [keyT_S, Bool.eq_iff_iff, List.any_eq_true, decide_eq_true_eq]
  constructor
  · rintro ⟨z, hz, h⟩
    obtain ⟨u, hu, rfl⟩ := List.mem_map.mp hz
    obtain ⟨l, hl, rfl⟩ := List.mem_map.mp hu
    rw [eqF_str, decide_eq_true_eq, S_inj] at h
    rw [← h]
    exact hl
  · intro h
    exact ⟨.str (S tx), List.mem_map.mpr ⟨S tx, List.mem_map.mpr ⟨tx, h, rfl⟩, rfl⟩, by rw [eqF_str]; exact decide_eq_true rfl⟩
theorem keyT_fl : (keyTexts.map D.str).all flD = true := rfl
theorem tail_S : S lowers ++ S capitals ++ S digits ++ ("_" : Str) = S tailL := by
  show S lowers ++ S capitals ++ S digits ++ S [95] = S tailL
  rw [S_app, S_app, S_app] <;> rfl
section
variable [τ : Tbl] {P : Program} {w : World} {K : PySem.W.Frag} {mg : Str → Option Value} {base : Heap} {CT CL CE CU aK aS : Addr}
theorem ok_Name {f : Addr} {fd : FuncData} (FF : Fun K "name_token" "Lexer.name_token" s_Lexer_name_token f fd) (T : Txt K mg CT CL CE CU aK aS) (D_Lexer_here : Mtd P w K mg base CL "here" 1 ["self"] (spHere CL)) (D_Lexer_run_of : Mtd P w K mg base CL "run_of" 3 ["self", "letters"] (spRun CL))
    (D_Token___init__ : Ini P w K mg base CT 1 ["self", "word", "text", "line", "column"] (spTokenI CT)) : FnOk P w K mg base (L2.CX P w) 5 f fd ["self", "line", "column"] (upSp K (spName CL CT)) :=
  z_fn FF sc_Lexer_name_token (fun ds G Q E h => by obtain ⟨a, dx, t, p, l, c, x, rfl, _⟩ := h; rfl) fun bas cdv A outer s H E hr ds G Q E0 hE hz => by
    obtain ⟨a, dx, t, p, l, c, x, rfl, ha, hl, hx, hq⟩ := hz
    have hp : p < t.length := (List.getElem?_eq_some_iff.mp hx).1
    refine ⟨_, (zs_cons (z_set (i := 3) sc_Lexer_name_token.nd rfl (Or.inl rfl) (z_mm0 T.c_Lexer D_Lexer_here hr (by decide) (z_var 0))) (zs_cons (z_set (i := 4) sc_Lexer_name_token.nd rfl (Or.inl rfl) (z_mm T.c_Lexer D_Lexer_run_of hr (by decide) (z_var 0) (za_cons (z_op zo_catS (z_op zo_catS (z_op zo_catS (z_gstr (by rfl) T.g_LETTERS) (z_gstr (by rfl) T.g_CAPITALS)) (z_gstr (by rfl) T.g_DIGITS)) z_str) za_nil))) (zs_cons (z_if (z_tcmp zo_inF (z_var 4) (z_gct (by rfl) T.g_KEYWORDS T.q_KEYWORDS (fun _ => reps_strs _))) (zs_one (z_ret (z_new D_Token___init__ hr (by decide) (by rfl) T.g_Token (za_cons (z_var 4) (za_cons (z_var 4) (za_cons (z_var 1) (za_cons (z_var 2) za_nil))))))) zs_nil) (zs_cons (z_ret (z_new D_Token___init__ hr (by decide) (by rfl) T.g_Token (za_cons (z_ifE (z_tcmp zo_sign (z_var 3) (z_gstr (by rfl) T.g_LETTERS)) z_str z_str) (za_cons (z_var 4) (za_cons (z_var 1) (za_cons (z_var 2) za_nil)))))) zs_nil)))), ?_⟩
    refine run_here (fun _ => rfl) ha hl (Nat.le_of_lt hp) ?_
    rw [drop_some hx, List.take_succ_cons, List.take_zero]
    simp only [zSeq, zAsg, zName, zPar, zPar3, zIfS, zAnd, zOrT, zNot, zTest, zOp, zCB, zCons, zNil, zVar, zC, zFld, zDrop, zRet, zRetN, zNext, zBreak, zCont, zIf, zTup, zSl, zPart, zNoP, zNeg, zChain, zAndV, zOrV, zNotV, zgTup, zgCons, zgNil, zRaise1, zList, zTupI, zStrI, zRng1, zRng2, zstart, dI0_e, dI_e, dEqF_i, dEqF_s, dEqF_b, dCatS_e, fLen_s, fInt_i, fInt_b, fAbs_i, List.map_cons, List.map_nil, List.getElem?_cons_succ, List.getElem?_cons_zero, List.set_cons_succ, List.set_cons_zero, List.cons_append, List.nil_append, List.length_cons, List.length_nil, Nat.reduceAdd, Nat.reduceSub, Nat.zero_add, List.reduceReplicate, true_and, and_true]
    have l1 : (S lowers).length = 26 := rfl
    have l2 : (S capitals).length = 26 := rfl
    have l3 : (S digits).length = 10 := rfl
    have l4 : ("_" : Str).length = 1 := rfl
    have big : 1000 ≤ sizeLine := by decide
    refine run_run (L := tailL) (fun _ => rfl) (fun R => ?_) ha hl (Nat.le_of_lt hp) fun G1 h1 => ?_
    · simp only [zSeq, zAsg, zName, zPar, zPar3, zIfS, zAnd, zOrT, zNot, zTest, zOp, zCB, zCons, zNil, zVar, zC, zFld, zDrop, zRet, zRetN, zNext, zBreak, zCont, zIf, zTup, zSl, zPart, zNoP, zNeg, zChain, zAndV, zOrV, zNotV, zgTup, zgCons, zgNil, zRaise1, zList, zTupI, zStrI, zRng1, zRng2, zstart, dI0_e, dI_e, dEqF_i, dEqF_s, dEqF_b, dCatS_e, fLen_s, fInt_i, fInt_b, fAbs_i, List.map_cons, List.map_nil, List.getElem?_cons_succ, List.getElem?_cons_zero, List.set_cons_succ, List.set_cons_zero, List.cons_append, List.nil_append, List.length_cons, List.length_nil, Nat.reduceAdd, Nat.reduceSub, Nat.zero_add, List.reduceReplicate, true_and, and_true]
      refine propext ⟨fun h => ?_, fun h => ⟨by omega, by rw [str_len_app]; omega, by rw [str_len_app, str_len_app]; omega, ?_⟩⟩
      · have := h.2.2.2
        rw [tail_S] at this
        exact this
      · rw [tail_S]
        exact h
    · generalize hd : runL tailL (t.drop p) = d at *
      simp only [zSeq, zAsg, zName, zPar, zPar3, zIfS, zAnd, zOrT, zNot, zTest, zOp, zCB, zCons, zNil, zVar, zC, zFld, zDrop, zRet, zRetN, zNext, zBreak, zCont, zIf, zTup, zSl, zPart, zNoP, zNeg, zChain, zAndV, zOrV, zNotV, zgTup, zgCons, zgNil, zRaise1, zList, zTupI, zStrI, zRng1, zRng2, zstart, dI0_e, dI_e, dEqF_i, dEqF_s, dEqF_b, dCatS_e, fLen_s, fInt_i, fInt_b, fAbs_i, List.map_cons, List.map_nil, List.getElem?_cons_succ, List.getElem?_cons_zero, List.set_cons_succ, List.set_cons_zero, List.cons_append, List.nil_append, List.length_cons, List.length_nil, Nat.reduceAdd, Nat.reduceSub, Nat.zero_add, List.reduceReplicate, true_and, and_true, dInF, seqD]
      refine ⟨rfl, keyT_fl, ?_⟩
      rw [if_neg Bool.false_ne_true, key_any]
      have fin : ∀ (v : Str) (ρ : ZSt), v = nameWord x d → ∀ tA : DA, (∀ R, tA ρ G1 R = R [.str v, .str (S d), .int l, .int c] G1) → zMake CT (spTokenI CT) X0 tA ρ G1 Q := fun v ρ hv tA hA => run_tok hA fun y dy G' hy h => hq G1 y dy G' h1 hy (by rw [← hv]; exact h)
      by_cases hk : d ∈ keyL
      · rw [if_pos (decide_eq_true hk)]
        exact fin (S d) _ (by unfold nameWord; rw [if_pos hk]) _ fun R => rfl
      · rw [if_neg (by simpa using hk)]
        have hs : ∀ (ρ : ZSt) (R : Bool → Gp → Prop), ρ[3]? = some (some (.str (S [x]))) → zTest (zOp (dSign false) (zVar 3) (zC (.str (S lowers)))) ρ G1 R = R (decide (x ∈ lowers)) G1 := fun ρ R h => by
          simp only [zTest, zOp, zVar, zC, h, dSign]
          refine propext ⟨fun ⟨c', e, q⟩ => ?_, fun q => ⟨x, rfl, ?_⟩⟩
          · have e : S [x] = S [c'] := e
            rw [S_inj] at e
            cases e
            rw [S_cps, Bool.false_bne] at q
            exact q
          · rw [S_cps, Bool.false_bne]
            exact q
        by_cases hlow : x ∈ lowers
        · exact fin "name" _ (by unfold nameWord; rw [if_neg hk, if_pos hlow]) _ fun R => by
            simp only [zCons, zNil, zIf]
            rw [hs _ _ rfl, if_pos (decide_eq_true hlow)]
            rfl
        · exact fin "constructor" _ (by unfold nameWord; rw [if_neg hk, if_neg hlow]) _ fun R => by
            simp only [zCons, zNil, zIf]
            rw [hs _ _ rfl, if_neg (by simpa using hlow)]
            rfl
end
end K01

namespace K01
open PySem PySem.Spec PyProof.Rows L2 Z
section
variable {a dx CL CT CE : Addr} {t : List Nat} {p : Nat} {ρ : ZSt} {G : Gp}
theorem run_number {Q : DK} {to : DE} {E0 : XKz} (ht : ∀ R, to ρ G R = R (.ref a) G) (ha : G a = some (lexAt CL dx t p)) (hl : t.length ≤ sizeLine) (hp : p ≤ t.length) (hne : runL digits (t.drop p) ≠ [])
    (hy : okNum (runL digits (t.drop p)) = true → ∀ G', At G a (lexAt CL dx t (p + (runL digits (t.drop p)).length)) G' → Q (.str (S (runL digits (t.drop p)))) G') (hn : okNum (runL digits (t.drop p)) = false → ∀ G', At G a (lexAt CL dx t (p + (runL digits (t.drop p)).length)) G' → E0 (.ref CE) G') : zMeth CL "number" (spNumber CL CE) E0 to zNil ρ G Q := by
  simp only [zMeth, ht, ha, lexAt, lx, lm7, zNil, true_and]
  exact ⟨a, dx, t, p, rfl, ha, hl, hp, hne, hy, hn⟩
theorem run_name {Q : DK} {to : DE} {tA : DA} {l c : Int} {x : Nat} (ht : ∀ R, to ρ G R = R (.ref a) G) (hA : ∀ R, tA ρ G R = R [.int l, .int c] G) (ha : G a = some (lexAt CL dx t p)) (hl : t.length ≤ sizeLine) (hx : t[p]? = some x)
    (hq : ∀ G1 y dy G', At G a (lexAt CL dx t (p + (runL tailL (t.drop p)).length)) G1 → G1 y = none → At G1 y (tkO CT dy (nameWord x (runL tailL (t.drop p))) (S (runL tailL (t.drop p))) l c) G' → Q (.ref y) G') : zMeth CL "name_token" (spName CL CT) X0 to tA ρ G Q := by
  simp only [zMeth, ht, ha, lexAt, lx, lm6, hA, true_and]
  exact ⟨a, dx, t, p, l, c, x, rfl, ha, hl, hx, hq⟩
end
theorem str_ofL (l : List Nat) (s : Str) : decide (s = S l) = decide (s.cps.toList = l) := decide_eq_decide.mpr ⟨fun h => by rw [h, S_cps], fun h => by rw [← h]; exact str_S s⟩
theorem pre_iff {s r : List Nat} : r.take s.length = s ↔ s.isPrefixOf r = true := by
  rw [List.isPrefixOf_iff_prefix, List.prefix_iff_eq_take]
  exact eq_comm
theorem dSign_S {neg : Bool} {x : Nat} {L : List Nat} {G : Gp} {Q : DK} (q : Q (.bl (neg != decide (x ∈ L))) G) : dSign neg (.str (S [x])) (.str (S L)) G Q := ⟨x, rfl, by rw [S_cps]; exact q⟩
theorem sign_get {i : Nat} {d : D} (h : (signTexts.map D.str)[i]? = some d) : ∃ s, signL[i]? = some s ∧ d = .str (S s) := by
  rw [signT_S, List.getElem?_map, List.getElem?_map] at h
  cases e : signL[i]? with
  | none => rw [e] at h; cases h
  | some s =>
    rw [e] at h
    exact ⟨s, rfl, (Option.some.inj h).symm⟩
theorem sign_len {i : Nat} {s : List Nat} (h : signL[i]? = some s) : s.length ≤ 2 := by
  have : ∀ s ∈ signL, s.length ≤ 2 := by decide
  exact this s (List.mem_of_getElem? h)
theorem find_at {α : Type} {f : α → Bool} : ∀ {l : List α} {i : Nat} {x : α}, l[i]? = some x → f x = true → (∀ j y, j < i → l[j]? = some y → f y = false) → l.find? f = some x
  | [], i, x, h, _, _ => by simp at h
  | a :: l, 0, x, h, hx, _ => by
    cases Option.some.inj h
    rw [List.find?_cons_of_pos hx]
  | a :: l, i + 1, x, h, hx, hb => by
    have ha : f a = false := hb 0 a (Nat.succ_pos i) rfl
    rw [List.find?_cons_of_neg (by rw [ha]; decide)]
    exact find_at (l := l) (i := i) h hx fun j y hj e => hb (j + 1) y (Nat.succ_lt_succ hj) e
theorem find_no {α : Type} {f : α → Bool} {l : List α} (h : ∀ j y, j < l.length → l[j]? = some y → f y = false) : l.find? f = none := by
  rw [List.find?_eq_none]
  intro y hy
  obtain ⟨j, hj, e⟩ := List.getElem_of_mem hy
  rw [h j y hj (by rw [List.getElem?_eq_getElem hj, e])]
  decide
section
variable [τ : Tbl] {P : Program} {w : World} {K : PySem.W.Frag} {mg : Str → Option Value} {base : Heap} {CT CL CE CU aK aS : Addr}
theorem ok_Token {f : Addr} {fd : FuncData} (FF : Fun K "token" "Lexer.token" s_Lexer_token f fd) (T : Txt K mg CT CL CE CU aK aS) (D_Lexer_here : Mtd P w K mg base CL "here" 1 ["self"] (spHere CL)) (D_Lexer_step : Mtd P w K mg base CL "step" 2 ["self"] (spStep CL))
    (D_Lexer_number : Mtd P w K mg base CL "number" 4 ["self"] (spNumber CL CE)) (D_Lexer_name_token : Mtd P w K mg base CL "name_token" 5 ["self", "line", "column"] (spName CL CT))
    (D_Token___init__ : Ini P w K mg base CT 1 ["self", "word", "text", "line", "column"] (spTokenI CT)) : FnOk P w K mg base (L2.CX P w) 6 f fd ["self"] (upSp K (spToken CL CT CE)) :=
  z_fn FF sc_Lexer_token (fun ds G Q E h => by obtain ⟨a, dx, t, p, rfl, _⟩ := h; rfl) fun bas cdv A outer s H E hr ds G Q E0 hE hz => by
    obtain ⟨a, dx, t, p, rfl, ha, hl, hp, hy, hn⟩ := hz
    refine ⟨_, (zs_cons (z_par3 (i := 1) (j := 2) (l := 3) rfl sc_Lexer_token.nd rfl rfl rfl (by decide) (by decide) (by decide) rfl rfl rfl (za_cons (z_fld T.c_Lexer T.n_Lexer_line (z_var 0)) (za_cons (z_fld T.c_Lexer T.n_Lexer_column (z_var 0)) (za_cons (z_mm0 T.c_Lexer D_Lexer_here hr (by decide) (z_var 0)) za_nil))) (by rfl)) (zs_cons (z_if (zw_t (zw_and (z_tcmp zo_neF (z_var 3) z_str) (zw_and1 (z_tcmp zo_sign (z_var 3) (z_gstr (by rfl) T.g_DIGITS))))) (zs_one (z_ret (z_new D_Token___init__ hr (by decide) (by rfl) T.g_Token (za_cons z_str (za_cons (z_mc0 T.c_Lexer D_Lexer_number hr (by decide) hE (passes_call (takes_of rfl rfl rfl rfl) fun _ _ _ _ h => h) (z_var 0)) (za_cons (z_var 1) (za_cons (z_var 2) za_nil))))))) zs_nil) (zs_cons (z_if (zw_t (zw_and (z_tcmp zo_neF (z_var 3) z_str) (zw_and1 (z_tcmp zo_sign (z_var 3) (z_op zo_catS (z_gstr (by rfl) T.g_LETTERS) (z_gstr (by rfl) T.g_CAPITALS)))))) (zs_one (z_ret (z_mm T.c_Lexer D_Lexer_name_token hr (by decide) (z_var 0) (za_cons (z_var 1) (za_cons (z_var 2) za_nil))))) zs_nil) (zs_cons (z_for (passes_of (by rfl)) rfl (zi_tup (z_gct (by rfl) T.g_TOKEN_SIGNS T.q_TOKEN_SIGNS (fun _ => reps_strs _))) (zg_name (i := 4) sc_Lexer_token.nd rfl (Or.inl rfl)) (zs_one (z_if (z_tcmp zo_eqF (z_slice zsl_str (z_fld T.c_Lexer T.n_Lexer_text (z_var 0)) (zo_some (z_fld T.c_Lexer T.n_Lexer_place (z_var 0))) (zo_some (z_op zo_add (z_fld T.c_Lexer T.n_Lexer_place (z_var 0)) (z_callB zf_len (by rfl) T.z_len (by rfl) (za_cons (z_var 4) za_nil))))) (z_var 4)) (zs_cons (z_for (passes_of (by rfl)) rfl (zi_rng1 (by rfl) T.z_range (za_cons (z_callB zf_len (by rfl) T.z_len (by rfl) (za_cons (z_var 4) za_nil)) za_nil)) (zg_name (i := 5) sc_Lexer_token.nd rfl (Or.inl rfl)) (zs_one (z_expr (z_mm0 T.c_Lexer D_Lexer_step hr (by decide) (z_var 0))))) (zs_cons (z_ret (z_new D_Token___init__ hr (by decide) (by rfl) T.g_Token (za_cons (z_var 4) (za_cons (z_var 4) (za_cons (z_var 1) (za_cons (z_var 2) za_nil)))))) zs_nil)) zs_nil))) (zs_cons (z_raise1 PySem.F.excBase_ValueError T.x_LexError T.g_LexError T.k_LexError (raises_own T.e_LexError T.t_LexError) (by rfl) rfl (takes_of rfl rfl rfl rfl) hE (z_joined (.cons z_str (.cons (z_fmt (z_var 1)) (.cons z_str (.cons (z_fmt (z_var 2)) (.cons z_str .nil))))))) zs_nil))))), ?_⟩
    obtain ⟨x, hx⟩ : ∃ x, t[p]? = some x := ⟨t[p], List.getElem?_eq_getElem hp⟩
    have bnd := posn_le t p
    have hpl : p ≤ sizeLine := Nat.le_trans (Nat.le_of_lt hp) hl
    have edrop := drop_some hx
    have htok := hy
    simp only [zSeq, zAsg, zName, zPar, zPar3, zIfS, zAnd, zOrT, zNot, zTest, zOp, zCB, zCons, zNil, zVar, zC, zFld, zDrop, zRet, zRetN, zNext, zBreak, zCont, zIf, zTup, zSl, zPart, zNoP, zNeg, zChain, zAndV, zOrV, zNotV, zgTup, zgCons, zgNil, zRaise1, zList, zTupI, zStrI, zRng1, zRng2, zstart, dI0_e, dI_e, dEqF_i, dEqF_s, dEqF_b, dCatS_e, fLen_s, fInt_i, fInt_b, fAbs_i, List.map_cons, List.map_nil, List.getElem?_cons_succ, List.getElem?_cons_zero, List.set_cons_succ, List.set_cons_zero, List.cons_append, List.nil_append, List.length_cons, List.length_nil, Nat.reduceAdd, Nat.reduceSub, Nat.zero_add, List.reduceReplicate, true_and, and_true, ha, lexAt, lx, lk3, lk4]
    refine run_here (fun _ => rfl) ha hl (Nat.le_of_lt hp) ?_
    rw [edrop, List.take_succ_cons, List.take_zero]
    simp only [zSeq, zAsg, zName, zPar, zPar3, zIfS, zAnd, zOrT, zNot, zTest, zOp, zCB, zCons, zNil, zVar, zC, zFld, zDrop, zRet, zRetN, zNext, zBreak, zCont, zIf, zTup, zSl, zPart, zNoP, zNeg, zChain, zAndV, zOrV, zNotV, zgTup, zgCons, zgNil, zRaise1, zList, zTupI, zStrI, zRng1, zRng2, zstart, dI0_e, dI_e, dEqF_i, dEqF_s, dEqF_b, dCatS_e, fLen_s, fInt_i, fInt_b, fAbs_i, List.map_cons, List.map_nil, List.getElem?_cons_succ, List.getElem?_cons_zero, List.set_cons_succ, List.set_cons_zero, List.cons_append, List.nil_append, List.length_cons, List.length_nil, Nat.reduceAdd, Nat.reduceSub, Nat.zero_add, List.reduceReplicate, true_and, and_true]
    have hne0 : ¬ (S [x] = ("" : Str)) := fun z => by
      have z : S [x] = S [] := z
      rw [S_inj] at z
      cases z
    rw [if_pos (by rw [decide_eq_false hne0]; rfl)]
    refine dSign_S ?_
    by_cases hd : x ∈ digits
    · -- a number
      simp only [hd, decide_true, Bool.false_bne, if_true]
      have hr1 : runL digits (t.drop p) ≠ [] := by
        rw [edrop, runL_yes hd]
        simp
      have et : tokR (t.drop p) = if okNum (runL digits (t.drop p)) = true then some (("int" : Str), runL digits (t.drop p)) else none := by
        rw [edrop]
        exact if_pos hd
      simp only [zMake, zCons, zC]
      refine run_number (fun _ => rfl) ha hl (Nat.le_of_lt hp) hr1 (fun hok G1 h1 => ?_) fun hok G1 h1 => hn (by rw [et, hok]; rfl) _ G1 h1
      intro y dy G2 hy2 h2
      refine ⟨y, dy, _, _, _, _, rfl, h2.is, fun G3 h3 => ⟨rfl, ?_⟩⟩
      exact hy _ _ (by rw [et, if_pos hok]) G1 y dy G3 h1 hy2 (h2.trans h3)
    · simp only [hd, decide_false, Bool.false_bne, Bool.false_eq_true, if_false]
      rw [if_pos (by rw [decide_eq_false hne0]; rfl)]
      refine ⟨by show 52 ≤ sizeLine; decide, ?_⟩
      rw [S_app]
      refine dSign_S ?_
      by_cases hn1 : x ∈ lowers ++ capitals
      · -- a name
        simp only [hn1, decide_true, Bool.false_bne, if_true]
        have et : tokR (t.drop p) = some (nameWord x (runL tailL (t.drop p)), runL tailL (t.drop p)) := by
          have e2 := edrop
          generalize t.drop p = r at e2 ⊢
          subst e2
          show (if x ∈ digits then _ else if x ∈ lowers ++ capitals then _ else _) = _
          rw [if_neg hd, if_pos hn1]
        refine run_name (fun _ => rfl) (fun _ => rfl) ha hl hx fun G1 y dy G' h1 hy1 h2 => hy _ _ et G1 y dy G' h1 hy1 h2
      · -- a sign
        simp only [hn1, decide_false, Bool.false_bne, Bool.false_eq_true, if_false]
        have et : tokR (t.drop p) = (signAt (t.drop p)).map fun s => (S s, s) := by
          have e2 := edrop
          generalize t.drop p = r at e2 ⊢
          subst e2
          show (if x ∈ digits then _ else if x ∈ lowers ++ capitals then _ else _) = _
          rw [if_neg hd, if_neg hn1]
        refine ⟨fun i ρ G' => G' = G ∧ (∃ z, ρ = [some (.ref a), some (.int (posn t p).1), some (.int (posn t p).2), some (.str (S [x])), z, none]) ∧ ∀ j s, j < i → signL[j]? = some s → s.isPrefixOf (t.drop p) = false, ⟨rfl, ⟨_, rfl⟩, fun j s hj => absurd hj (Nat.not_lt_zero j)⟩, ?_, ?_⟩
        · rintro i d ρ G' hi ⟨rfl, ⟨z, rfl⟩, hbefore⟩
          refine ⟨True.intro, ?_⟩
          obtain ⟨s, hs, rfl⟩ := sign_get hi
          have hsl := sign_len hs
          simp only [zSeq, zAsg, zName, zPar, zPar3, zIfS, zAnd, zOrT, zNot, zTest, zOp, zCB, zCons, zNil, zVar, zC, zFld, zDrop, zRet, zRetN, zNext, zBreak, zCont, zIf, zTup, zSl, zPart, zNoP, zNeg, zChain, zAndV, zOrV, zNotV, zgTup, zgCons, zgNil, zRaise1, zList, zTupI, zStrI, zRng1, zRng2, zstart, dI0_e, dI_e, dEqF_i, dEqF_s, dEqF_b, dCatS_e, fLen_s, fInt_i, fInt_b, fAbs_i, List.map_cons, List.map_nil, List.getElem?_cons_succ, List.getElem?_cons_zero, List.set_cons_succ, List.set_cons_zero, List.cons_append, List.nil_append, List.length_cons, List.length_nil, Nat.reduceAdd, Nat.reduceSub, Nat.zero_add, List.reduceReplicate, true_and, and_true, ha, lexAt, lx, lk1, lk2, dSlS]
          have hcut : cutS (S t) (some (p : Int)) (some ((p : Int) + (((S s).length : Nat) : Int))) = S ((t.drop p).take s.length) := by
            rw [S_len, show ((p : Int) + (s.length : Int)) = ((p + s.length : Nat) : Int) by omega, S_cut t (Nat.le_of_lt hp) (Nat.le_add_right _ _), Nat.add_sub_cancel_left]
          have big : 1000 ≤ sizeLine := by decide
          refine ⟨by rw [S_len]; omega, by rw [S_len]; exact hl, ?_⟩
          rw [hcut]
          by_cases hpre : s.isPrefixOf (t.drop p) = true
          · rw [if_pos (by rw [pre_iff.mpr hpre]; simp)]
            have etk : tokR (t.drop p) = some (S s, s) := by
              rw [et]
              unfold signAt
              rw [find_at hs hpre hbefore]
              rfl
            have hfit : p + s.length ≤ t.length := by
              have := congrArg List.length (pre_iff.mpr hpre)
              rw [List.length_take, List.length_drop] at this
              omega
            simp only [zFor, zSeq, zAsg, zName, zPar, zPar3, zIfS, zAnd, zOrT, zNot, zTest, zOp, zCB, zCons, zNil, zVar, zC, zFld, zDrop, zRet, zRetN, zNext, zBreak, zCont, zIf, zTup, zSl, zPart, zNoP, zNeg, zChain, zAndV, zOrV, zNotV, zgTup, zgCons, zgNil, zRaise1, zList, zTupI, zStrI, zRng1, zRng2, zstart, dI0_e, dI_e, dEqF_i, dEqF_s, dEqF_b, dCatS_e, fLen_s, fInt_i, fInt_b, fAbs_i, List.map_cons, List.map_nil, List.getElem?_cons_succ, List.getElem?_cons_zero, List.set_cons_succ, List.set_cons_zero, List.cons_append, List.nil_append, List.length_cons, List.length_nil, Nat.reduceAdd, Nat.reduceSub, Nat.zero_add, List.reduceReplicate, true_and, and_true]
            refine ⟨by rw [S_len]; omega, by omega, by rw [S_len]; omega, ?_⟩
            refine ⟨fun k ρ G1 => At G' a (lexAt CL dx t (p + k)) G1 ∧ ∃ z, ρ = [some (.ref a), some (.int (posn t p).1), some (.int (posn t p).2), some (.str (S [x])), some (.str (S s)), z], ⟨At.self ha, _, rfl⟩, ?_, ?_⟩
            · rintro k d ρ G1 hk ⟨h1, z, rfl⟩
              obtain ⟨hkn, rfl⟩ := rngD_get hk
              have hkn : k < s.length := by
                rw [S_len] at hkn
                omega
              obtain ⟨c, hc⟩ : ∃ c, t[p + k]? = some c := ⟨_, List.getElem?_eq_getElem (show p + k < t.length by omega)⟩
              exact run_step (fun _ => rfl) h1.is hl hc fun G2 h2 => ⟨h1.trans h2, _, rfl⟩
            · rintro ρ G1 ⟨h1, z, rfl⟩
              rw [rngD_len, S_len, Int.toNat_natCast] at h1
              exact run_tok (fun _ => rfl) fun y dy G2 hy1 h2 => hy _ _ etk G1 y dy G2 h1 hy1 h2
          · rw [if_neg (by
              rw [Bool.false_bne, decide_eq_true_eq, S_inj]
              exact fun z => hpre (pre_iff.mp z))]
            refine ⟨⟨_, rfl⟩, fun j s' hj e => ?_⟩
            by_cases hji : j = i
            · subst hji
              rw [hs] at e
              cases e
              exact Bool.not_eq_true _ ▸ hpre
            · exact hbefore j s' (by omega) e
        · rintro ρ G' ⟨rfl, ⟨z, rfl⟩, hall⟩
          refine ⟨True.intro, ?_⟩
          have hno : tokR (t.drop p) = none := by
            rw [et]
            unfold signAt
            rw [find_no fun j y hj e => hall j y (by show j < (signTexts.map D.str).length; exact hj) e]
            rfl
          simp only [zSeq, zRaise1]
          exact run_fmt (p := p) ⟨bnd.1, bnd.2.1⟩ ⟨bnd.2.2.1, bnd.2.2.2⟩ hpl (by decide) (by decide) (by decide) rfl rfl fun _ => hn hno p G' (At.self ha)
end
end K01

namespace K01
open PySem PySem.Spec PyProof.Rows L2 Z
/-! ### a text as tokens -/
structure Tk where
  w : Str
  x : List Nat
  l : Int
  c : Int
def tkAt (t : List Nat) (p : Nat) (v : Str) (x : List Nat) : Tk := ⟨v, x, (posn t p).1, (posn t p).2⟩
inductive Lex (t : List Nat) : Nat → Nat → Option (List Tk) → Prop
  | done {p : Nat} : p = t.length → Lex t 0 p (some [tkAt t p "end of text" []])
  | tok {n p : Nat} {v : Str} {x : List Nat} {res : Option (List Tk)} : p < t.length → tokR (t.drop p) = some (v, x) → p + x.length ≤ t.length → p + x.length + skipN false (t.drop (p + x.length)) ≤ t.length →
      Lex t n (p + x.length + skipN false (t.drop (p + x.length))) res → Lex t (n + 1) p (res.map fun r => tkAt t p v x :: r)
  | bad {p : Nat} : p < t.length → tokR (t.drop p) = none → Lex t 0 p none
def Toks (CT : Addr) (G : Gp) (as : List Addr) (ks : List Tk) : Prop := as.length = ks.length ∧ ∀ (i : Nat) (a : Addr) (k : Tk), as[i]? = some a → ks[i]? = some k → ∃ dx, G a = some (tkO CT dx k.w (S k.x) k.l k.c)
theorem Toks.mono {CT : Addr} {G G' : Gp} {as : List Addr} {ks : List Tk} (h : Toks CT G as ks) (e : ∀ b ∈ as, ∀ m, G b = some m → G' b = some m) : Toks CT G' as ks := ⟨h.1, fun i a k h1 h2 => by
  obtain ⟨dx, h3⟩ := h.2 i a k h1 h2
  exact ⟨dx, e a (List.mem_of_getElem? h1) _ h3⟩⟩
theorem Toks.snoc {CT : Addr} {G : Gp} {as : List Addr} {ks : List Tk} {a dx : Addr} {k : Tk} (h : Toks CT G as ks) (e : G a = some (tkO CT dx k.w (S k.x) k.l k.c)) : Toks CT G (as ++ [a]) (ks ++ [k]) := by
  refine ⟨by rw [List.length_append, List.length_append, h.1]; rfl, fun i b j h1 h2 => ?_⟩
  by_cases hi : i < as.length
  · rw [List.getElem?_append_left hi] at h1
    rw [List.getElem?_append_left (by rw [← h.1]; exact hi)] at h2
    exact h.2 i b j h1 h2
  · rw [List.getElem?_append_right (by omega)] at h1
    rw [List.getElem?_append_right (by rw [← h.1]; omega), ← h.1] at h2
    cases hk : i - as.length with
    | zero =>
      rw [hk] at h1 h2
      cases h1
      cases h2
      exact ⟨dx, e⟩
    | succ n =>
      rw [hk] at h1
      cases h1
theorem Toks.there {CT : Addr} {G : Gp} {as : List Addr} {ks : List Tk} (h : Toks CT G as ks) {b : Addr} (hb : b ∈ as) : ∃ m, G b = some m := by
  obtain ⟨i, hi, e⟩ := List.getElem_of_mem hb
  have hi2 : i < ks.length := by
    rw [← h.1]
    exact hi
  obtain ⟨dx, h3⟩ := h.2 i b ks[i] (by rw [List.getElem?_eq_getElem hi, e]) (List.getElem?_eq_getElem hi2)
  exact ⟨_, h3⟩
theorem ext_at {G0 G G' : Gp} {a : Addr} {m : MO} (e : Ext G0 G) (h : At G a m G') (n : G0 a = none) : Ext G0 G' := fun b x hb => by
  have nb : b ≠ a := fun z => by rw [z, n] at hb; cases hb
  rw [h.other b nb]
  exact e b x hb
def spTokenize (CT CE : Addr) : ZSp := fun ds G Q E => ∃ t n res, ds = [.str (S t)] ∧ t.length ≤ sizeLine ∧ n ≤ 1000 ∧ skipN false t ≤ t.length ∧ Lex t n (skipN false t) res ∧
  match res with
  | some ks => ∀ q as G', Ext G G' → G q = none → G' q = some (.lst (as.map .ref)) → Toks CT G' as ks → (∀ a ∈ as, G a = none) → Q (.ref q) G'
  | none => ∀ G', Ext G G' → E (.ref CE) G'
section
variable {a dx CL CT CE : Addr} {t : List Nat} {p : Nat} {ρ : ZSt} {G : Gp}
theorem run_skip {Q : DK} {to : DE} (ht : ∀ R, to ρ G R = R (.ref a) G) (ha : G a = some (lexAt CL dx t p)) (hl : t.length ≤ sizeLine) (hp : p ≤ t.length) (hq : ∀ G', At G a (lexAt CL dx t (p + skipN false (t.drop p))) G' → Q .non G') : zMeth CL "skip_blanks" (spSkip CL) X0 to zNil ρ G Q := by
  simp only [zMeth, ht, ha, lexAt, lx, lm3, zNil, true_and]
  exact ⟨a, dx, t, p, rfl, ha, hl, hp, hq⟩
theorem run_token {Q : DK} {to : DE} {E0 : XKz} (ht : ∀ R, to ρ G R = R (.ref a) G) (ha : G a = some (lexAt CL dx t p)) (hl : t.length ≤ sizeLine) (hp : p < t.length)
    (hy : ∀ v tx, tokR (t.drop p) = some (v, tx) → ∀ G1 y dy G', At G a (lexAt CL dx t (p + tx.length)) G1 → G1 y = none → At G1 y (tkO CT dy v (S tx) (posn t p).1 (posn t p).2) G' → Q (.ref y) G') (hn : tokR (t.drop p) = none → ∀ q G', At G a (lexAt CL dx t q) G' → E0 (.ref CE) G') :
    zMeth CL "token" (spToken CL CT CE) E0 to zNil ρ G Q := by
  simp only [zMeth, ht, ha, lexAt, lx, lm5, zNil, true_and]
  exact ⟨a, dx, t, p, rfl, ha, hl, hp, hy, hn⟩
end
section
variable [τ : Tbl] {P : Program} {w : World} {K : PySem.W.Frag} {mg : Str → Option Value} {base : Heap} {CT CL CE CU aK aS : Addr}
theorem ok_Tokenize {f : Addr} {fd : FuncData} (FF : Fun K "tokenize" "tokenize" s_tokenize f fd) (T : Txt K mg CT CL CE CU aK aS) (D_Lexer___init__ : Ini P w K mg base CL 1 ["self", "text"] (spLexerI CL)) (D_Lexer_here : Mtd P w K mg base CL "here" 1 ["self"] (spHere CL)) (D_Lexer_skip_blanks : Mtd P w K mg base CL "skip_blanks" 3 ["self"] (spSkip CL))
    (D_Lexer_token : Mtd P w K mg base CL "token" 6 ["self"] (spToken CL CT CE)) (D_Token___init__ : Ini P w K mg base CT 1 ["self", "word", "text", "line", "column"] (spTokenI CT)) : FnOk P w K mg base (L2.CX P w) 7 f fd ["text"] (upSp K (spTokenize CT CE)) :=
  z_fn FF sc_tokenize (fun ds G Q E h => by obtain ⟨t, n, res, rfl, _⟩ := h; rfl) fun bas cdv A outer s H E hr ds G Q E0 hE hz => by
    obtain ⟨t, n, res, rfl, hl, hn, hsk, hlex, hq⟩ := hz
    refine ⟨_, (zs_cons (z_set (i := 1) sc_tokenize.nd rfl (Or.inl rfl) (z_new D_Lexer___init__ hr (by decide) (by rfl) T.g_Lexer (za_cons (z_var 0) za_nil))) (zs_cons (z_set (i := 2) sc_tokenize.nd rfl (Or.inl rfl) (z_lst za_nil)) (zs_cons (z_expr (z_mm0 T.c_Lexer D_Lexer_skip_blanks hr (by decide) (z_var 1))) (zs_cons (z_while (passes_of (by rfl)) (z_tcmp zo_neF (z_mm0 T.c_Lexer D_Lexer_here hr (by decide) (z_var 1)) z_str) (zs_cons (z_expr (z_bm PySem.F.plainAttrs_list PySem.F.slot_list_append PySem.F.type_list_append zm_append (z_var 2) (za_cons (z_mc0 T.c_Lexer D_Lexer_token hr (by decide) hE (passes_call (takes_of rfl rfl rfl rfl) fun _ _ _ _ h => h) (z_var 1)) za_nil))) (zs_cons (z_expr (z_mm0 T.c_Lexer D_Lexer_skip_blanks hr (by decide) (z_var 1))) zs_nil))) (zs_cons (z_expr (z_bm PySem.F.plainAttrs_list PySem.F.slot_list_append PySem.F.type_list_append zm_append (z_var 2) (za_cons (z_new D_Token___init__ hr (by decide) (by rfl) T.g_Token (za_cons z_str (za_cons z_str (za_cons (z_fld T.c_Lexer T.n_Lexer_line (z_var 1)) (za_cons (z_fld T.c_Lexer T.n_Lexer_column (z_var 1)) za_nil))))) za_nil))) (zs_cons (z_ret (z_var 2)) zs_nil)))))), ?_⟩
    simp only [zMake, zSeq, zAsg, zName, zPar, zPar3, zIfS, zAnd, zOrT, zNot, zTest, zOp, zCB, zCons, zNil, zVar, zC, zFld, zDrop, zRet, zRetN, zNext, zBreak, zCont, zIf, zTup, zSl, zPart, zNoP, zNeg, zChain, zAndV, zOrV, zNotV, zgTup, zgCons, zgNil, zRaise1, zList, zTupI, zStrI, zRng1, zRng2, zstart, dI0_e, dI_e, dEqF_i, dEqF_s, dEqF_b, dCatS_e, fLen_s, fInt_i, fInt_b, fAbs_i, List.map_cons, List.map_nil, List.getElem?_cons_succ, List.getElem?_cons_zero, List.set_cons_succ, List.set_cons_zero, List.cons_append, List.nil_append, List.length_cons, List.length_nil, Nat.reduceAdd, Nat.reduceSub, Nat.zero_add, List.reduceReplicate, true_and, and_true]
    intro a dx G1 na h1
    refine ⟨a, dx, t, rfl, h1.is, fun G2 h2 => ⟨rfl, ?_⟩⟩
    simp only [zLst, zSeq, zAsg, zName, zPar, zPar3, zIfS, zAnd, zOrT, zNot, zTest, zOp, zCB, zCons, zNil, zVar, zC, zFld, zDrop, zRet, zRetN, zNext, zBreak, zCont, zIf, zTup, zSl, zPart, zNoP, zNeg, zChain, zAndV, zOrV, zNotV, zgTup, zgCons, zgNil, zRaise1, zList, zTupI, zStrI, zRng1, zRng2, zstart, dI0_e, dI_e, dEqF_i, dEqF_s, dEqF_b, dCatS_e, fLen_s, fInt_i, fInt_b, fAbs_i, List.map_cons, List.map_nil, List.getElem?_cons_succ, List.getElem?_cons_zero, List.set_cons_succ, List.set_cons_zero, List.cons_append, List.nil_append, List.length_cons, List.length_nil, Nat.reduceAdd, Nat.reduceSub, Nat.zero_add, List.reduceReplicate, true_and, and_true]
    refine ⟨Nat.zero_le _, fun q G3 nq h3 => ?_⟩
    have h02 : At G a (lexAt CL dx t 0) G2 := h1.trans h2
    have naq : a ≠ q := fun z => by rw [← z, h02.is] at nq; cases nq
    have nq0 : G q = none := by rw [← h02.other q (Ne.symm naq)]; exact nq
    have e3 : Ext G G3 := ext_at (ext_at (Ext.refl G) h02 na) h3 nq0
    have a3 : G3 a = some (lexAt CL dx t 0) := by rw [h3.other a naq]; exact h02.is
    refine run_skip (fun _ => rfl) a3 hl (Nat.zero_le _) fun G4 h4 => ?_
    rw [List.drop_zero, Nat.zero_add] at h4
    refine ⟨fun m ρ G' => ∃ p as ks res', ρ = [some (.str (S t)), some (.ref a), some (.ref q)] ∧ Ext G G' ∧ G' a = some (lexAt CL dx t p) ∧ G' q = some (.lst (as.map .ref)) ∧ Toks CT G' as ks ∧ (∀ b ∈ as, G b = none) ∧ a ∉ as ∧ q ∉ as ∧ p ≤ t.length ∧ Lex t m p res' ∧ res = res'.map (fun r => ks ++ r) ∧ as.length + m ≤ 1000,
      ⟨n, _, [], [], res, rfl, ext_at e3 h4 na, h4.is, by rw [h4.other q (Ne.symm naq)]; exact h3.is, ⟨rfl, fun i b k h => by cases h⟩, fun b hb => (List.not_mem_nil hb).elim, List.not_mem_nil, List.not_mem_nil, hsk, hlex, by cases res <;> rfl, by rw [List.length_nil]; omega⟩, ?_⟩
    rintro m ρ G5 ⟨p, as, ks, res', rfl, e5, a5, q5, tk5, nas, naas, nqas, hp, hL, hres, hm⟩
    refine run_here (fun _ => rfl) a5 hl hp ?_
    simp only [zSeq, zAsg, zName, zPar, zPar3, zIfS, zAnd, zOrT, zNot, zTest, zOp, zCB, zCons, zNil, zVar, zC, zFld, zDrop, zRet, zRetN, zNext, zBreak, zCont, zIf, zTup, zSl, zPart, zNoP, zNeg, zChain, zAndV, zOrV, zNotV, zgTup, zgCons, zgNil, zRaise1, zList, zTupI, zStrI, zRng1, zRng2, zstart, dI0_e, dI_e, dEqF_i, dEqF_s, dEqF_b, dCatS_e, fLen_s, fInt_i, fInt_b, fAbs_i, List.map_cons, List.map_nil, List.getElem?_cons_succ, List.getElem?_cons_zero, List.set_cons_succ, List.set_cons_zero, List.cons_append, List.nil_append, List.length_cons, List.length_nil, Nat.reduceAdd, Nat.reduceSub, Nat.zero_add, List.reduceReplicate, true_and, and_true]
    cases hL with
    | done hpe =>
      have e2 : (t.drop p).take 1 = [] := by rw [List.drop_eq_nil_of_le (by omega)]; rfl
      rw [e2, if_neg (by show ¬ ((true != decide (S [] = S [])) = true); simp)]
      simp only [zBM, zMake, zSeq, zAsg, zName, zPar, zPar3, zIfS, zAnd, zOrT, zNot, zTest, zOp, zCB, zCons, zNil, zVar, zC, zFld, zDrop, zRet, zRetN, zNext, zBreak, zCont, zIf, zTup, zSl, zPart, zNoP, zNeg, zChain, zAndV, zOrV, zNotV, zgTup, zgCons, zgNil, zRaise1, zList, zTupI, zStrI, zRng1, zRng2, zstart, dI0_e, dI_e, dEqF_i, dEqF_s, dEqF_b, dCatS_e, fLen_s, fInt_i, fInt_b, fAbs_i, List.map_cons, List.map_nil, List.getElem?_cons_succ, List.getElem?_cons_zero, List.set_cons_succ, List.set_cons_zero, List.cons_append, List.nil_append, List.length_cons, List.length_nil, Nat.reduceAdd, Nat.reduceSub, Nat.zero_add, List.reduceReplicate, true_and, and_true, tyZ, q5, a5, lexAt, lx, lk3, lk4]
      intro y dy G6 ny h6
      refine ⟨y, dy, _, _, _, _, rfl, h6.is, fun G7 h7 => ⟨rfl, ?_⟩⟩
      have h67 := h6.trans h7
      have nyq : q ≠ y := fun z => by rw [← z, q5] at ny; cases ny
      have q7 : G7 q = some (.lst (as.map .ref)) := by rw [h67.other q nyq]; exact q5
      have big : 2000 ≤ sizeLine := by decide
      simp only [mAppend, q7]
      refine ⟨by rw [List.length_map]; omega, fun G8 h8 => ?_⟩
      subst hres
      have ny0 : G y = none := Ext.back e5 ny
      have nay : y ∉ as := fun z => by
        obtain ⟨m, hm2⟩ := tk5.there z
        rw [hm2] at ny
        cases ny
      refine hq q (as ++ [y]) G8 (ext_at (ext_at e5 h67 ny0) h8 nq0) nq0 (by rw [h8.is, List.map_append]; rfl) ?_ fun b hb => ?_
      · have t7 : Toks CT G7 as ks := tk5.mono fun b hb m e => by rw [h67.other b (fun z => nay (z ▸ hb))]; exact e
        have t8 : Toks CT G8 as ks := t7.mono fun b hb m e => by rw [h8.other b (fun z => nqas (z ▸ hb))]; exact e
        exact t8.snoc (dx := dy) (by rw [h8.other y (Ne.symm nyq)]; exact h67.is)
      · rcases List.mem_append.mp hb with hb | hb
        · exact nas b hb
        · rw [List.mem_singleton.mp hb]
          exact ny0
    | bad hlt htok =>
      obtain ⟨x, hx⟩ : ∃ x, t[p]? = some x := ⟨t[p], List.getElem?_eq_getElem hlt⟩
      have e2 : (t.drop p).take 1 = [x] := by rw [drop_some hx, List.take_succ_cons, List.take_zero]
      rw [e2, if_pos (by
        have : ¬ (S [x] = ("" : Str)) := fun z => by
          have z : S [x] = S [] := z
          rw [S_inj] at z
          cases z
        rw [decide_eq_false this]
        rfl)]
      simp only [zBM, zSeq, zAsg, zName, zPar, zPar3, zIfS, zAnd, zOrT, zNot, zTest, zOp, zCB, zCons, zNil, zVar, zC, zFld, zDrop, zRet, zRetN, zNext, zBreak, zCont, zIf, zTup, zSl, zPart, zNoP, zNeg, zChain, zAndV, zOrV, zNotV, zgTup, zgCons, zgNil, zRaise1, zList, zTupI, zStrI, zRng1, zRng2, zstart, dI0_e, dI_e, dEqF_i, dEqF_s, dEqF_b, dCatS_e, fLen_s, fInt_i, fInt_b, fAbs_i, List.map_cons, List.map_nil, List.getElem?_cons_succ, List.getElem?_cons_zero, List.set_cons_succ, List.set_cons_zero, List.cons_append, List.nil_append, List.length_cons, List.length_nil, Nat.reduceAdd, Nat.reduceSub, Nat.zero_add, List.reduceReplicate, true_and, and_true, tyZ, q5]
      subst hres
      refine run_token (fun _ => rfl) a5 hl hlt (fun v tx e => by rw [htok] at e; cases e) fun _ p2 G6 h6 => hq G6 (ext_at e5 h6 na)
    | tok hlt htok hb1 hb2 hrest =>
      rename_i n v tx rest
      obtain ⟨x, hx⟩ : ∃ x, t[p]? = some x := ⟨t[p], List.getElem?_eq_getElem hlt⟩
      have e2 : (t.drop p).take 1 = [x] := by rw [drop_some hx, List.take_succ_cons, List.take_zero]
      rw [e2, if_pos (by
        have : ¬ (S [x] = ("" : Str)) := fun z => by
          have z : S [x] = S [] := z
          rw [S_inj] at z
          cases z
        rw [decide_eq_false this]
        rfl)]
      simp only [zBM, zSeq, zAsg, zName, zPar, zPar3, zIfS, zAnd, zOrT, zNot, zTest, zOp, zCB, zCons, zNil, zVar, zC, zFld, zDrop, zRet, zRetN, zNext, zBreak, zCont, zIf, zTup, zSl, zPart, zNoP, zNeg, zChain, zAndV, zOrV, zNotV, zgTup, zgCons, zgNil, zRaise1, zList, zTupI, zStrI, zRng1, zRng2, zstart, dI0_e, dI_e, dEqF_i, dEqF_s, dEqF_b, dCatS_e, fLen_s, fInt_i, fInt_b, fAbs_i, List.map_cons, List.map_nil, List.getElem?_cons_succ, List.getElem?_cons_zero, List.set_cons_succ, List.set_cons_zero, List.cons_append, List.nil_append, List.length_cons, List.length_nil, Nat.reduceAdd, Nat.reduceSub, Nat.zero_add, List.reduceReplicate, true_and, and_true, tyZ, q5]
      refine run_token (fun _ => rfl) a5 hl hlt (fun v' tx' e G6 y dy G7 h6 ny h7 => ?_) fun e => by rw [htok] at e; cases e
      rw [htok] at e
      cases e
      have q6 : G6 q = some (.lst (as.map .ref)) := by rw [h6.other q (Ne.symm naq)]; exact q5
      have nyq : q ≠ y := fun z => by rw [← z, q6] at ny; cases ny
      have nya : a ≠ y := fun z => by rw [← z, h6.is] at ny; cases ny
      have q7 : G7 q = some (.lst (as.map .ref)) := by rw [h7.other q nyq]; exact q6
      have big : 2000 ≤ sizeLine := by decide
      simp only [mAppend, q7]
      refine ⟨by rw [List.length_map]; omega, fun G8 h8 => ?_⟩
      have a8 : G8 a = some (lexAt CL dx t (p + tx.length)) := by rw [h8.other a naq, h7.other a nya]; exact h6.is
      refine run_skip (fun _ => rfl) a8 hl hb1 fun G9 h9 => ?_
      have e6 : Ext G G6 := ext_at e5 h6 na
      have ny0 : G y = none := Ext.back e6 ny
      have t6 : Toks CT G6 as ks := tk5.mono fun b hb m e => by rw [h6.other b (fun z => naas (z ▸ hb))]; exact e
      have nay : y ∉ as := fun z => by
        obtain ⟨m, hm2⟩ := t6.there z
        rw [hm2] at ny
        cases ny
      have t7 : Toks CT G7 as ks := t6.mono fun b hb m e => by rw [h7.other b (fun z => nay (z ▸ hb))]; exact e
      have t8 : Toks CT G8 as ks := t7.mono fun b hb m e => by rw [h8.other b (fun z => nqas (z ▸ hb))]; exact e
      have t9 : Toks CT G9 as ks := t8.mono fun b hb m e => by rw [h9.other b (fun z => naas (z ▸ hb))]; exact e
      have y9 : G9 y = some (tkO CT dy v (S tx) (posn t p).1 (posn t p).2) := by rw [h9.other y (Ne.symm nya), h8.other y (Ne.symm nyq)]; exact h7.is
      refine ⟨n, Nat.lt_succ_self n, _, as ++ [y], ks ++ [tkAt t p v tx], rest, ext_at (ext_at (ext_at e6 h7 ny0) h8 nq0) h9 na, h9.is, by rw [h9.other q (Ne.symm naq), h8.is, List.map_append]; rfl, t9.snoc y9, fun b hb => ?_, fun hb => ?_, fun hb => ?_, hb2, hrest, ?_, by rw [List.length_append, List.length_singleton]; omega⟩
      · rcases List.mem_append.mp hb with hb | hb
        · exact nas b hb
        · rw [List.mem_singleton.mp hb]
          exact ny0
      · rcases List.mem_append.mp hb with hb | hb
        · exact naas hb
        · exact nya (List.mem_singleton.mp hb)
      · rcases List.mem_append.mp hb with hb | hb
        · exact nqas hb
        · exact nyq (List.mem_singleton.mp hb)
      · rw [hres]
        cases rest with
        | none => rfl
        | some r =>
          show some (ks ++ (tkAt t p v tx :: r)) = some (ks ++ [tkAt t p v tx] ++ r)
          rw [List.append_assoc]
          rfl
end
end K01

namespace K01
open PySem PySem.Spec PyProof.Rows L2 Z
/-! ### dice -/
def isDice (m : MO) : Prop := ∃ x y f : Int, m = .lst [.int x, .int y, .int f]
structure Rolled (a : Addr) (G G' : Gp) : Prop where
  dice : ∃ m, G' a = some m ∧ isDice m
  other : Exb a G G'
theorem Rolled.trans {a : Addr} {G G1 G2 : Gp} (h : Rolled a G G1) (k : Rolled a G1 G2) : Rolled a G G2 := ⟨k.dice, h.other.trans k.other⟩
theorem Rolled.new {a p : Addr} {G G1 G2 : Gp} {m : MO} (h : Rolled a G G1) (n : G1 p = none) (k : At G1 p m G2) : Rolled a G G2 := by
  obtain ⟨d, e, i⟩ := h.dice
  refine ⟨⟨d, k.ext n _ _ e, i⟩, h.other.trans (k.ext n).exb⟩
theorem Rolled.start {a : Addr} {G : Gp} {m : MO} (h : G a = some m) (i : isDice m) : Rolled a G G := ⟨⟨m, h, i⟩, Exb.refl a G⟩
theorem Rolled.ext {a : Addr} {G G1 G2 : Gp} (h : Rolled a G G1) (k : Ext G1 G2) : Rolled a G G2 := by
  obtain ⟨d, e, i⟩ := h.dice
  exact ⟨⟨d, k _ _ e, i⟩, h.other.trans k.exb⟩
def spDice : ZSp := fun ds G Q _ => ∃ i, ds = [.int i] ∧ ∀ p m G', G p = none → isDice m → At G p m G' → Q (.ref p) G'
def spRoll : ZSp := fun ds G Q _ => ∃ a n m, ds = [.ref a, .int n] ∧ G a = some m ∧ isDice m ∧ 1 ≤ n ∧ n < 1073741824 ∧ ∀ r G', 0 ≤ r → r < n → Rolled a G G' → Q (.int r) G'
theorem run_roll {ρ : ZSt} {G : Gp} {Q : DK} {tA : DA} {a : Addr} {n : Int} {m : MO} (hA : ∀ R, tA ρ G R = R [.ref a, .int n] G) (ha : G a = some m) (hi : isDice m) (h1 : 1 ≤ n) (h2 : n < 1073741824) (hq : ∀ r G', 0 ≤ r → r < n → Rolled a G G' → Q (.int r) G') : zCall spRoll X0 tA ρ G Q := by
  simp only [zCall, hA]
  exact ⟨a, n, m, rfl, ha, hi, h1, h2, hq⟩
def spMoved : ZSp := fun ds G Q _ => ∃ l a b, ds = [.str (S l), .int a, .int b] ∧ Q (.tup [.int (moved (a, b) l).1, .int (moved (a, b) l).2]) G
section
variable [τ : Tbl] {P : Program} {w : World} {K : PySem.W.Frag} {mg : Str → Option Value} {base : Heap} {CT CL CE CU aK aS : Addr}
theorem ok_Dice {f : Addr} {fd : FuncData} (FF : Fun K "_law_dice" "_law_dice" s__law_dice f fd) (T : Txt K mg CT CL CE CU aK aS) : FnOk P w K mg base (L2.CX P w) 1 f fd ["cell"] (upSp K spDice) :=
  z_fn FF sc__law_dice (fun ds G Q E h => by obtain ⟨i, rfl, _⟩ := h; rfl) fun bas cdv A outer s H E hr ds G Q E0 hE hz => by
    obtain ⟨i, rfl, hq⟩ := hz
    refine ⟨_, (zs_cons (z_if (z_tchain zo_lt zo_lt (z_op zo_sub z_int z_int) (z_var 0) z_int) (zs_one (z_ret (z_lst (za_cons (z_callB zf_abs (by rfl) T.z_abs (by rfl) (za_cons (z_var 0) za_nil)) (za_cons z_int (za_cons z_int za_nil)))))) zs_nil) (zs_cons (z_ret (z_lst (za_cons (z_var 0) (za_cons (z_op zo_add z_int (z_op zo_mod (z_callTy zf_int (by rfl) T.z_int (by rfl) (za_cons (z_var 0) za_nil)) z_int)) (za_cons (z_callTy zf_int (by rfl) T.z_int (by rfl) (za_cons (z_cmp zo_ge (z_var 0) (z_op zo_pow z_int z_int)) za_nil)) za_nil))))) zs_nil)), ?_⟩
    have big : 3 ≤ sizeLine := by decide
    have fin : ∀ x y z : Int, ∀ p G2, G p = none → At G p (.lst [.int x, .int y, .int z]) G2 → Q (.ref p) G2 := fun x y z p G2 hp h => hq p _ G2 hp ⟨x, y, z, rfl⟩ h
    simp only [zLst, zSeq, zAsg, zName, zPar, zPar3, zIfS, zAnd, zOrT, zNot, zTest, zOp, zCB, zCons, zNil, zVar, zC, zFld, zDrop, zRet, zRetN, zNext, zBreak, zCont, zIf, zTup, zSl, zPart, zNoP, zNeg, zChain, zAndV, zOrV, zNotV, zgTup, zgCons, zgNil, zRaise1, zList, zTupI, zStrI, zRng1, zRng2, zstart, dI0_e, dI_e, dEqF_i, dEqF_s, dEqF_b, dCatS_e, fLen_s, fInt_i, fInt_b, fAbs_i, List.map_cons, List.map_nil, List.getElem?_cons_succ, List.getElem?_cons_zero, List.set_cons_succ, List.set_cons_zero, List.cons_append, List.nil_append, List.length_cons, List.length_nil, Nat.reduceAdd, Nat.reduceSub, Nat.zero_add, List.reduceReplicate, true_and, and_true]
    by_cases h1 : (0 : Int) - 10 < i
    · rw [if_pos (decide_eq_true h1)]
      by_cases h2 : i < 10
      · rw [if_pos (decide_eq_true h2)]
        exact ⟨big, fin _ _ _⟩
      · rw [if_neg (by simpa using h2)]
        exact ⟨by decide, ⟨by decide, by decide, by decide⟩, big, fin _ _ _⟩
    · rw [if_neg (by simpa using h1), if_neg Bool.false_ne_true]
      exact ⟨by decide, ⟨by decide, by decide, by decide⟩, big, fin _ _ _⟩
theorem ok_Roll {f : Addr} {fd : FuncData} (FF : Fun K "_law_roll" "_law_roll" s__law_roll f fd) (T : Txt K mg CT CL CE CU aK aS) : FnOk P w K mg base (L2.CX P w) 1 f fd ["dice", "many"] (upSp K spRoll) :=
  z_fn FF sc__law_roll (fun ds G Q E h => by obtain ⟨a, n, m, rfl, _⟩ := h; rfl) fun bas cdv A outer s H E hr ds G Q E0 hE hz => by
    obtain ⟨a, n, m, rfl, ha, ⟨x, y, f, rfl⟩, h1, h2, hq⟩ := hz
    refine ⟨_, (zs_cons (z_if (zw_t (zw_or (z_tcmp zo_eqF (z_ix (z_var 0) z_int) z_int) (zw_or1 (zw_t (zw_and (z_tcmp zo_eqF (z_ix (z_var 0) z_int) z_int) (zw_and1 (z_tcmp zo_gt (z_ix (z_var 0) z_int) z_int))))))) (zs_cons (z_set (i := 2) sc__law_roll.nd rfl (Or.inl rfl) (z_op zo_mod (z_callTy zf_int (by rfl) T.z_int (by rfl) (za_cons (z_ix (z_var 0) z_int) za_nil)) (z_var 1))) (zs_cons (z_asg (z_op zo_div (z_ix (z_var 0) z_int) (z_var 1)) (zg_setL (z_var 0) z_int)) (zs_cons (z_ret (z_var 2)) zs_nil))) zs_nil) (zs_cons (z_asg z_int (zg_setL (z_var 0) z_int)) (zs_cons (z_asg (z_op zo_mod (z_callTy zf_int (by rfl) T.z_int (by rfl) (za_cons (z_op zo_add (z_op zo_add (z_op zo_mul (z_ix (z_var 0) z_int) z_int) (z_op zo_mul (z_ix (z_var 0) z_int) z_int)) z_int) za_nil)) z_int) (zg_setL (z_var 0) z_int)) (zs_cons (z_asg (z_op zo_add (z_ix (z_var 0) z_int) z_int) (zg_setL (z_var 0) z_int)) (zs_cons (z_ret (z_op zo_mod (z_callTy zf_int (by rfl) T.z_int (by rfl) (za_cons (z_op zo_div (z_ix (z_var 0) z_int) z_int) za_nil)) (z_var 1))) zs_nil))))), ?_⟩
    have hn0 : n ≠ 0 := by omega
    have fin : ∀ (z : Int) (x y f : Int) G', At G a (.lst [.int x, .int y, .int f]) G' → Q (.int (z.fmod n)) G' := fun z x y f G' h => by
      have e : z.fmod n = z % n := Int.fmod_eq_emod_of_nonneg z (by omega)
      have b1 := Int.emod_nonneg z hn0
      have b2 := Int.emod_lt_of_pos z (show 0 < n by omega)
      exact hq _ G' (by rw [e]; exact b1) (by rw [e]; exact b2) ⟨⟨_, h.is, x, y, f, rfl⟩, h.exb⟩
    have ix : ∀ (l : List D) (j : Nat) (d : D) (G : Gp) (R : DK), G a = some (.lst l) → l[j]? = some d → dIx (.ref a) (.int (j : Int)) G R = R d G := fun l j d G R hG hj => by
      show (match seqD G (.ref a) with | some ds => _ | none => _) = _
      have e : seqD G (.ref a) = some l := by
        unfold seqD
        simp only
        rw [hG]
      rw [e]
      simp only
      rw [atI_nat hj]
    have ix0 := fun (G : Gp) (R : DK) (x y f : Int) (hG : G a = some (.lst [.int x, .int y, .int f])) => ix _ 0 (.int x) G R hG rfl
    have ix1 := fun (G : Gp) (R : DK) (x y f : Int) (hG : G a = some (.lst [.int x, .int y, .int f])) => ix _ 1 (.int y) G R hG rfl
    have ix2 := fun (G : Gp) (R : DK) (x y f : Int) (hG : G a = some (.lst [.int x, .int y, .int f])) => ix _ 2 (.int f) G R hG rfl
    simp only [Int.natCast_zero, Int.natCast_one, show ((2 : Nat) : Int) = 2 from rfl] at ix0 ix1 ix2
    have e0 := fun R => ix0 G R x y f ha
    have e1 := fun R => ix1 G R x y f ha
    have e2 := fun R => ix2 G R x y f ha
    have st : ∀ (G1 : Gp) (j : Nat) (v : D) (l : List D) (ρ : ZSt) (R : ZSt → Gp → Prop), G1 a = some (.lst l) → j < l.length → ρ[0]? = some (some (.ref a)) → (∀ G2, At G1 a (.lst (l.set j v)) G2 → R ρ G2) → zSetL (zVar 0) (zC (.int (j : Int))) v ρ G1 R := fun G1 j v l ρ R hG hj hρ hR => by
      simp only [zSetL, zVar, zC, hρ, hG]
      rw [show ixN l.length (j : Int) = some j by unfold ixN; rw [if_pos (by omega)]; simp [hj]]
      exact hR
    by_cases f2 : f = 2
    · subst f2
      simp only [zSeq, zAsg, zName, zPar, zPar3, zIfS, zAnd, zOrT, zNot, zTest, zOp, zCB, zCons, zNil, zVar, zC, zFld, zDrop, zRet, zRetN, zNext, zBreak, zCont, zIf, zTup, zSl, zPart, zNoP, zNeg, zChain, zAndV, zOrV, zNotV, zgTup, zgCons, zgNil, zRaise1, zList, zTupI, zStrI, zRng1, zRng2, zstart, dI0_e, dI_e, dEqF_i, dEqF_s, dEqF_b, dCatS_e, fLen_s, fInt_i, fInt_b, fAbs_i, List.map_cons, List.map_nil, List.getElem?_cons_succ, List.getElem?_cons_zero, List.set_cons_succ, List.set_cons_zero, List.cons_append, List.nil_append, List.length_cons, List.length_nil, Nat.reduceAdd, Nat.reduceSub, Nat.zero_add, List.reduceReplicate, true_and, and_true, e0, e2, decide_true, Bool.false_bne, if_true]
      refine ⟨hn0, ⟨hn0, by omega⟩, ?_⟩
      refine st G 0 _ _ _ _ ha (by show 0 < 3; decide) rfl fun G1 h1 => ?_
      exact fin x _ y 2 G1 h1
    · by_cases f1 : f = 1
      · subst f1
        by_cases hx : 0 < x
        · have c1 : decide ((1 : Int) = 2) = false := by decide
          simp only [zSeq, zAsg, zName, zPar, zPar3, zIfS, zAnd, zOrT, zNot, zTest, zOp, zCB, zCons, zNil, zVar, zC, zFld, zDrop, zRet, zRetN, zNext, zBreak, zCont, zIf, zTup, zSl, zPart, zNoP, zNeg, zChain, zAndV, zOrV, zNotV, zgTup, zgCons, zgNil, zRaise1, zList, zTupI, zStrI, zRng1, zRng2, zstart, dI0_e, dI_e, dEqF_i, dEqF_s, dEqF_b, dCatS_e, fLen_s, fInt_i, fInt_b, fAbs_i, List.map_cons, List.map_nil, List.getElem?_cons_succ, List.getElem?_cons_zero, List.set_cons_succ, List.set_cons_zero, List.cons_append, List.nil_append, List.length_cons, List.length_nil, Nat.reduceAdd, Nat.reduceSub, Nat.zero_add, List.reduceReplicate, true_and, and_true, e0, e2, c1, hx, decide_true, Bool.false_bne, Bool.false_eq_true, if_true, if_false]
          refine ⟨hn0, ⟨hn0, by omega⟩, ?_⟩
          refine st G 0 _ _ _ _ ha (by show 0 < 3; decide) rfl fun G1 h1 => ?_
          exact fin x _ y 1 G1 h1
        · have c1 : decide ((1 : Int) = 2) = false := by decide
          simp only [zSeq, zAsg, zName, zPar, zPar3, zIfS, zAnd, zOrT, zNot, zTest, zOp, zCB, zCons, zNil, zVar, zC, zFld, zDrop, zRet, zRetN, zNext, zBreak, zCont, zIf, zTup, zSl, zPart, zNoP, zNeg, zChain, zAndV, zOrV, zNotV, zgTup, zgCons, zgNil, zRaise1, zList, zTupI, zStrI, zRng1, zRng2, zstart, dI0_e, dI_e, dEqF_i, dEqF_s, dEqF_b, dCatS_e, fLen_s, fInt_i, fInt_b, fAbs_i, List.map_cons, List.map_nil, List.getElem?_cons_succ, List.getElem?_cons_zero, List.set_cons_succ, List.set_cons_zero, List.cons_append, List.nil_append, List.length_cons, List.length_nil, Nat.reduceAdd, Nat.reduceSub, Nat.zero_add, List.reduceReplicate, true_and, and_true, e0, e2, c1, hx, decide_true, decide_false, Bool.false_bne, Bool.false_eq_true, if_true, if_false]
          refine st G 2 _ _ _ _ ha (by show 2 < 3; decide) rfl fun G1 g1 => ?_
          simp only [zSeq, zAsg, zName, zPar, zPar3, zIfS, zAnd, zOrT, zNot, zTest, zOp, zCB, zCons, zNil, zVar, zC, zFld, zDrop, zRet, zRetN, zNext, zBreak, zCont, zIf, zTup, zSl, zPart, zNoP, zNeg, zChain, zAndV, zOrV, zNotV, zgTup, zgCons, zgNil, zRaise1, zList, zTupI, zStrI, zRng1, zRng2, zstart, dI0_e, dI_e, dEqF_i, dEqF_s, dEqF_b, dCatS_e, fLen_s, fInt_i, fInt_b, fAbs_i, List.map_cons, List.map_nil, List.getElem?_cons_succ, List.getElem?_cons_zero, List.set_cons_succ, List.set_cons_zero, List.cons_append, List.nil_append, List.length_cons, List.length_nil, Nat.reduceAdd, Nat.reduceSub, Nat.zero_add, List.reduceReplicate, true_and, and_true, ix0 G1 _ x y 0 g1.is, ix1 G1 _ x y 0 g1.is]
          refine ⟨.inr (by decide), .inr (by decide), by decide, ?_⟩
          refine st G1 0 _ _ _ _ g1.is (by show 0 < 3; decide) rfl fun G2 g2 => ?_
          have h12 := g1.trans g2
          generalize hz : (x * 48271 + y * 69621 + 11).fmod 2147483647 = z at *
          have i2 : G2 a = some (.lst [.int z, .int y, .int 0]) := g2.is
          simp only [zSeq, zAsg, zName, zPar, zPar3, zIfS, zAnd, zOrT, zNot, zTest, zOp, zCB, zCons, zNil, zVar, zC, zFld, zDrop, zRet, zRetN, zNext, zBreak, zCont, zIf, zTup, zSl, zPart, zNoP, zNeg, zChain, zAndV, zOrV, zNotV, zgTup, zgCons, zgNil, zRaise1, zList, zTupI, zStrI, zRng1, zRng2, zstart, dI0_e, dI_e, dEqF_i, dEqF_s, dEqF_b, dCatS_e, fLen_s, fInt_i, fInt_b, fAbs_i, List.map_cons, List.map_nil, List.getElem?_cons_succ, List.getElem?_cons_zero, List.set_cons_succ, List.set_cons_zero, List.cons_append, List.nil_append, List.length_cons, List.length_nil, Nat.reduceAdd, Nat.reduceSub, Nat.zero_add, List.reduceReplicate, true_and, and_true, ix1 G2 _ z y 0 i2]
          refine st G2 1 _ _ _ _ i2 (by show 1 < 3; decide) rfl fun G3 g3 => ?_
          have i3 : G3 a = some (.lst [.int z, .int (y + 1), .int 0]) := g3.is
          simp only [zSeq, zAsg, zName, zPar, zPar3, zIfS, zAnd, zOrT, zNot, zTest, zOp, zCB, zCons, zNil, zVar, zC, zFld, zDrop, zRet, zRetN, zNext, zBreak, zCont, zIf, zTup, zSl, zPart, zNoP, zNeg, zChain, zAndV, zOrV, zNotV, zgTup, zgCons, zgNil, zRaise1, zList, zTupI, zStrI, zRng1, zRng2, zstart, dI0_e, dI_e, dEqF_i, dEqF_s, dEqF_b, dCatS_e, fLen_s, fInt_i, fInt_b, fAbs_i, List.map_cons, List.map_nil, List.getElem?_cons_succ, List.getElem?_cons_zero, List.set_cons_succ, List.set_cons_zero, List.cons_append, List.nil_append, List.length_cons, List.length_nil, Nat.reduceAdd, Nat.reduceSub, Nat.zero_add, List.reduceReplicate, true_and, and_true, ix0 G3 _ z (y + 1) 0 i3]
          exact ⟨⟨by decide, by decide⟩, hn0, fin _ z (y + 1) 0 G3 (h12.trans g3)⟩
      · have c1 : decide (f = 2) = false := decide_eq_false f2
        have c2 : decide (f = 1) = false := decide_eq_false f1
        simp only [zSeq, zAsg, zName, zPar, zPar3, zIfS, zAnd, zOrT, zNot, zTest, zOp, zCB, zCons, zNil, zVar, zC, zFld, zDrop, zRet, zRetN, zNext, zBreak, zCont, zIf, zTup, zSl, zPart, zNoP, zNeg, zChain, zAndV, zOrV, zNotV, zgTup, zgCons, zgNil, zRaise1, zList, zTupI, zStrI, zRng1, zRng2, zstart, dI0_e, dI_e, dEqF_i, dEqF_s, dEqF_b, dCatS_e, fLen_s, fInt_i, fInt_b, fAbs_i, List.map_cons, List.map_nil, List.getElem?_cons_succ, List.getElem?_cons_zero, List.set_cons_succ, List.set_cons_zero, List.cons_append, List.nil_append, List.length_cons, List.length_nil, Nat.reduceAdd, Nat.reduceSub, Nat.zero_add, List.reduceReplicate, true_and, and_true, e0, e2, c1, c2, Bool.false_bne, Bool.false_eq_true, if_true, if_false]
        refine st G 2 _ _ _ _ ha (by show 2 < 3; decide) rfl fun G1 g1 => ?_
        simp only [zSeq, zAsg, zName, zPar, zPar3, zIfS, zAnd, zOrT, zNot, zTest, zOp, zCB, zCons, zNil, zVar, zC, zFld, zDrop, zRet, zRetN, zNext, zBreak, zCont, zIf, zTup, zSl, zPart, zNoP, zNeg, zChain, zAndV, zOrV, zNotV, zgTup, zgCons, zgNil, zRaise1, zList, zTupI, zStrI, zRng1, zRng2, zstart, dI0_e, dI_e, dEqF_i, dEqF_s, dEqF_b, dCatS_e, fLen_s, fInt_i, fInt_b, fAbs_i, List.map_cons, List.map_nil, List.getElem?_cons_succ, List.getElem?_cons_zero, List.set_cons_succ, List.set_cons_zero, List.cons_append, List.nil_append, List.length_cons, List.length_nil, Nat.reduceAdd, Nat.reduceSub, Nat.zero_add, List.reduceReplicate, true_and, and_true, ix0 G1 _ x y 0 g1.is, ix1 G1 _ x y 0 g1.is]
        refine ⟨.inr (by decide), .inr (by decide), by decide, ?_⟩
        refine st G1 0 _ _ _ _ g1.is (by show 0 < 3; decide) rfl fun G2 g2 => ?_
        have h12 := g1.trans g2
        generalize hz : (x * 48271 + y * 69621 + 11).fmod 2147483647 = z at *
        have i2 : G2 a = some (.lst [.int z, .int y, .int 0]) := g2.is
        simp only [zSeq, zAsg, zName, zPar, zPar3, zIfS, zAnd, zOrT, zNot, zTest, zOp, zCB, zCons, zNil, zVar, zC, zFld, zDrop, zRet, zRetN, zNext, zBreak, zCont, zIf, zTup, zSl, zPart, zNoP, zNeg, zChain, zAndV, zOrV, zNotV, zgTup, zgCons, zgNil, zRaise1, zList, zTupI, zStrI, zRng1, zRng2, zstart, dI0_e, dI_e, dEqF_i, dEqF_s, dEqF_b, dCatS_e, fLen_s, fInt_i, fInt_b, fAbs_i, List.map_cons, List.map_nil, List.getElem?_cons_succ, List.getElem?_cons_zero, List.set_cons_succ, List.set_cons_zero, List.cons_append, List.nil_append, List.length_cons, List.length_nil, Nat.reduceAdd, Nat.reduceSub, Nat.zero_add, List.reduceReplicate, true_and, and_true, ix1 G2 _ z y 0 i2]
        refine st G2 1 _ _ _ _ i2 (by show 1 < 3; decide) rfl fun G3 g3 => ?_
        have i3 : G3 a = some (.lst [.int z, .int (y + 1), .int 0]) := g3.is
        simp only [zSeq, zAsg, zName, zPar, zPar3, zIfS, zAnd, zOrT, zNot, zTest, zOp, zCB, zCons, zNil, zVar, zC, zFld, zDrop, zRet, zRetN, zNext, zBreak, zCont, zIf, zTup, zSl, zPart, zNoP, zNeg, zChain, zAndV, zOrV, zNotV, zgTup, zgCons, zgNil, zRaise1, zList, zTupI, zStrI, zRng1, zRng2, zstart, dI0_e, dI_e, dEqF_i, dEqF_s, dEqF_b, dCatS_e, fLen_s, fInt_i, fInt_b, fAbs_i, List.map_cons, List.map_nil, List.getElem?_cons_succ, List.getElem?_cons_zero, List.set_cons_succ, List.set_cons_zero, List.cons_append, List.nil_append, List.length_cons, List.length_nil, Nat.reduceAdd, Nat.reduceSub, Nat.zero_add, List.reduceReplicate, true_and, and_true, ix0 G3 _ z (y + 1) 0 i3]
        exact ⟨⟨by decide, by decide⟩, hn0, fin _ z (y + 1) 0 G3 (h12.trans g3)⟩
theorem ok_Moved {f : Addr} {fd : FuncData} (FF : Fun K "_law_moved" "_law_moved" s__law_moved f fd) (T : Txt K mg CT CL CE CU aK aS) : FnOk P w K mg base (L2.CX P w) 1 f fd ["text", "line", "column"] (upSp K spMoved) :=
  z_fn FF sc__law_moved (fun ds G Q E h => by obtain ⟨l, a, b, rfl, _⟩ := h; rfl) fun bas cdv A outer s H E hr ds G Q E0 hE hz => by
    obtain ⟨l, a, b, rfl, hq⟩ := hz
    refine ⟨_, (zs_cons (z_for (passes_of (by rfl)) rfl (zi_str (z_var 0)) (zg_name (i := 3) sc__law_moved.nd rfl (Or.inl rfl)) (zs_one (z_asg (z_ifE (z_tcmp zo_eqF (z_var 3) z_str) (z_tup (za_cons (z_op zo_add (z_var 1) z_int) (za_cons z_int za_nil))) (z_tup (za_cons (z_var 1) (za_cons (z_op zo_add (z_var 2) z_int) za_nil)))) (zg_tup rfl (zgs_cons (zg_name (i := 1) sc__law_moved.nd rfl (Or.inl rfl)) (zgs_cons (zg_name (i := 2) sc__law_moved.nd rfl (Or.inl rfl)) zgs_nil)))))) (zs_cons (z_ret (z_tup (za_cons (z_var 1) (za_cons (z_var 2) za_nil)))) zs_nil)), ?_⟩
    simp only [zFor, zSeq, zAsg, zName, zPar, zPar3, zIfS, zAnd, zOrT, zNot, zTest, zOp, zCB, zCons, zNil, zVar, zC, zFld, zDrop, zRet, zRetN, zNext, zBreak, zCont, zIf, zTup, zSl, zPart, zNoP, zNeg, zChain, zAndV, zOrV, zNotV, zgTup, zgCons, zgNil, zRaise1, zList, zTupI, zStrI, zRng1, zRng2, zstart, dI0_e, dI_e, dEqF_i, dEqF_s, dEqF_b, dCatS_e, fLen_s, fInt_i, fInt_b, fAbs_i, List.map_cons, List.map_nil, List.getElem?_cons_succ, List.getElem?_cons_zero, List.set_cons_succ, List.set_cons_zero, List.cons_append, List.nil_append, List.length_cons, List.length_nil, Nat.reduceAdd, Nat.reduceSub, Nat.zero_add, List.reduceReplicate, true_and, and_true]
    refine ⟨fun k ρ G1 => G1 = G ∧ ∃ z, ρ = [some (.str (S l)), some (.int (moved (a, b) (l.take k)).1), some (.int (moved (a, b) (l.take k)).2), z], ⟨rfl, none, rfl⟩, ?_, ?_⟩
    · rintro k d ρ G1 hk ⟨rfl, z, rfl⟩
      obtain ⟨c, hc, rfl⟩ : ∃ c, l[k]? = some c ∧ d = .str (S [c]) := by
        unfold strD at hk
        rw [S_cps, List.getElem?_map] at hk
        cases e : l[k]? with
        | none => rw [e] at hk; cases hk
        | some c =>
          rw [e] at hk
          exact ⟨c, rfl, (Option.some.inj hk).symm⟩
      have step : moved (a, b) (l.take (k + 1)) = one (moved (a, b) (l.take k)) c := by
        unfold moved
        rw [List.take_add_one, hc, List.foldl_append]
        rfl
      by_cases h10 : c = 10
      · subst h10
        simp only [zSeq, zAsg, zName, zPar, zPar3, zIfS, zAnd, zOrT, zNot, zTest, zOp, zCB, zCons, zNil, zVar, zC, zFld, zDrop, zRet, zRetN, zNext, zBreak, zCont, zIf, zTup, zSl, zPart, zNoP, zNeg, zChain, zAndV, zOrV, zNotV, zgTup, zgCons, zgNil, zRaise1, zList, zTupI, zStrI, zRng1, zRng2, zstart, dI0_e, dI_e, dEqF_i, dEqF_s, dEqF_b, dCatS_e, fLen_s, fInt_i, fInt_b, fAbs_i, List.map_cons, List.map_nil, List.getElem?_cons_succ, List.getElem?_cons_zero, List.set_cons_succ, List.set_cons_zero, List.cons_append, List.nil_append, List.length_cons, List.length_nil, Nat.reduceAdd, Nat.reduceSub, Nat.zero_add, List.reduceReplicate, true_and, and_true, lit_nl, S_inj, decide_true, Bool.false_bne, if_true]
        refine ⟨by show 2 ≤ sizeLine; decide, ?_⟩
        rw [step]
        exact ⟨rfl, _, rfl⟩
      · have hne : decide ([c] = [10]) = false := decide_eq_false fun z => h10 (List.cons.inj z).1
        simp only [zSeq, zAsg, zName, zPar, zPar3, zIfS, zAnd, zOrT, zNot, zTest, zOp, zCB, zCons, zNil, zVar, zC, zFld, zDrop, zRet, zRetN, zNext, zBreak, zCont, zIf, zTup, zSl, zPart, zNoP, zNeg, zChain, zAndV, zOrV, zNotV, zgTup, zgCons, zgNil, zRaise1, zList, zTupI, zStrI, zRng1, zRng2, zstart, dI0_e, dI_e, dEqF_i, dEqF_s, dEqF_b, dCatS_e, fLen_s, fInt_i, fInt_b, fAbs_i, List.map_cons, List.map_nil, List.getElem?_cons_succ, List.getElem?_cons_zero, List.set_cons_succ, List.set_cons_zero, List.cons_append, List.nil_append, List.length_cons, List.length_nil, Nat.reduceAdd, Nat.reduceSub, Nat.zero_add, List.reduceReplicate, true_and, and_true, lit_nl, S_inj, hne, Bool.false_bne, Bool.false_eq_true, if_false]
        refine ⟨by show 2 ≤ sizeLine; decide, ?_⟩
        rw [step]
        unfold one
        rw [if_neg h10]
        exact ⟨rfl, _, rfl⟩
    · rintro ρ G1 ⟨rfl, z, rfl⟩
      simp only [zSeq, zAsg, zName, zPar, zPar3, zIfS, zAnd, zOrT, zNot, zTest, zOp, zCB, zCons, zNil, zVar, zC, zFld, zDrop, zRet, zRetN, zNext, zBreak, zCont, zIf, zTup, zSl, zPart, zNoP, zNeg, zChain, zAndV, zOrV, zNotV, zgTup, zgCons, zgNil, zRaise1, zList, zTupI, zStrI, zRng1, zRng2, zstart, dI0_e, dI_e, dEqF_i, dEqF_s, dEqF_b, dCatS_e, fLen_s, fInt_i, fInt_b, fAbs_i, List.map_cons, List.map_nil, List.getElem?_cons_succ, List.getElem?_cons_zero, List.set_cons_succ, List.set_cons_zero, List.cons_append, List.nil_append, List.length_cons, List.length_nil, Nat.reduceAdd, Nat.reduceSub, Nat.zero_add, List.reduceReplicate, true_and, and_true]
      rw [strD_len, show (S l).cps.size = l.length from S_len l, List.take_length]
      exact ⟨by show 2 ≤ sizeLine; decide, hq⟩
end
end K01

namespace K01
open PySem PySem.Spec PyProof.Rows L2 Z
def gapTexts : List Str := [" ", "  ", "\n", " \n ", " # a remark, 1 + $\n", "\n\n", "#\n"]
def gapL : List (List Nat) := gapTexts.map fun s => s.cps.toList
def nameSigns : List Nat := ("aZ_9kends" : Str).cps.toList
def conL : List (List Nat) := [[65], [81], [90], [76, 101, 116]]
inductive GoodTok : Str → List Nat → Prop
  | sign {x : List Nat} : x ∈ signL → GoodTok (S x) x
  | key {x : List Nat} : x ∈ keyL → GoodTok (S x) x
  | int {n : Nat} : n ≤ 2147483647 → GoodTok "int" (TL.numL n)
  | con {c nm : List Nat} : c ∈ conL → (∀ y ∈ nm, y ∈ nameSigns) → nm.length ≤ 5 → GoodTok "constructor" (c ++ nm)
  | name {nm : List Nat} : (∀ y ∈ nm, y ∈ nameSigns) → nm.length ≤ 5 → GoodTok "name" ([120, 122] ++ nm)
def spGap : ZSp := fun ds G Q _ => ∃ a m, ds = [.ref a] ∧ G a = some m ∧ isDice m ∧ ∀ g G', g ∈ gapL → Rolled a G G' → Q (.str (S g)) G'
def spLTok : ZSp := fun ds G Q _ => ∃ a m, ds = [.ref a] ∧ G a = some m ∧ isDice m ∧ ∀ v x G', GoodTok v x → Rolled a G G' → Q (.tup [.str v, .str (S x)]) G'
theorem dIx_list {p : Addr} {l : List D} {j : Nat} {d : D} {G : Gp} {R : DK} (hG : G p = some (.lst l)) (hj : l[j]? = some d) (h : R d G) : dIx (.ref p) (.int (j : Int)) G R := by
  show (match seqD G (.ref p) with | some ds => _ | none => _)
  have e : seqD G (.ref p) = some l := by
    unfold seqD
    simp only
    rw [hG]
  rw [e]
  simp only
  rw [atI_nat hj]
  exact h
section
variable {ρ : ZSt} {G : Gp} {Q : DK} {tA A : DA} {a : Addr} {m : MO} {ds : List D}
theorem pickV {p : Addr} {to : DE} (hA : ∀ G R, tA ρ G R = R [.ref a, .int (ds.length : Int)] G) (ho : ∀ R, to ρ G R = R (.ref p) G) (hp : G p = some (.lst ds)) (hpa : p ≠ a) (ha : G a = some m) (hi : isDice m) (h1 : 1 ≤ ds.length) (h2 : ds.length < 1000000)
    (hq : ∀ (r : Nat) d G', ds[r]? = some d → Rolled a G G' → Q d G') : zOp dIx to (zCall spRoll X0 tA) ρ G Q := by
  simp only [zOp, ho]
  refine run_roll (hA G) ha hi (by omega) (by omega) fun r G1 hr0 hr1 hR => ?_
  obtain ⟨k, rfl⟩ := Int.eq_ofNat_of_zero_le hr0
  have hk : k < ds.length := by omega
  exact dIx_list (hR.other p _ hpa hp) (List.getElem?_eq_getElem hk) (hq k _ G1 (List.getElem?_eq_getElem hk) hR)
theorem pick (hA : ∀ G R, tA ρ G R = R [.ref a, .int (ds.length : Int)] G) (hL : ∀ R, A ρ G R = R ds G) (ha : G a = some m) (hi : isDice m) (h1 : 1 ≤ ds.length) (h2 : ds.length < 1000000)
    (hq : ∀ (r : Nat) d G', ds[r]? = some d → Rolled a G G' → Q d G') : zOp dIx (zLst A) (zCall spRoll X0 tA) ρ G Q := by
  simp only [zOp, zLst, hL]
  have big : 1000000 ≤ sizeLine := by decide
  refine ⟨by omega, fun p G2 np h2' => ?_⟩
  have hpa : p ≠ a := fun z => by rw [z, ha] at np; cases np
  have r0 : Rolled a G G2 := (Rolled.start ha hi).new np h2'
  have := pickV (ρ := ρ) (G := G2) (to := fun _ G R => R (.ref p) G) (Q := Q) hA (fun _ => rfl) h2'.is hpa ((h2'.other a (Ne.symm hpa)).trans ha) hi h1 h2 fun r d G' e hR => hq r d G' e (r0.trans hR)
  exact this
end
section
variable [τ : Tbl] {P : Program} {w : World} {K : PySem.W.Frag} {mg : Str → Option Value} {base : Heap} {CT CL CE CU aK aS : Addr}
theorem ok_Gap {f : Addr} {fd : FuncData} (FF : Fun K "_law_gap" "_law_gap" s__law_gap f fd) (T : Txt K mg CT CL CE CU aK aS) (D__law_roll : Dfn P w K mg base "_law_roll" 1 ["dice", "many"] spRoll) : FnOk P w K mg base (L2.CX P w) 2 f fd ["dice"] (upSp K spGap) :=
  z_fn FF sc__law_gap (fun ds G Q E h => by obtain ⟨a, m, rfl, _⟩ := h; rfl) fun bas cdv A outer s H E hr ds G Q E0 hE hz => by
    obtain ⟨a, m, rfl, ha, hi, hq⟩ := hz
    refine ⟨_, (zs_one (z_ret (z_ix (z_lst (za_cons z_str (za_cons z_str (za_cons z_str (za_cons z_str (za_cons z_str (za_cons z_str (za_cons z_str za_nil)))))))) (z_dc0 D__law_roll hr (by decide) (by rfl) (za_cons (z_var 0) (za_cons z_int za_nil)))))), ?_⟩
    refine pick (a := a) (ds := gapTexts.map D.str) (fun _ _ => rfl) (fun _ => rfl) ha hi (by decide) (by decide) fun r d G' e hR => ?_
    rw [List.getElem?_map] at e
    cases e2 : gapTexts[r]? with
    | none => rw [e2] at e; cases e
    | some g =>
      rw [e2] at e
      cases Option.some.inj e
      rw [str_S g]
      exact hq _ G' (List.mem_map.mpr ⟨g, List.mem_of_getElem? e2, rfl⟩) hR
end
end K01

namespace K01
open PySem PySem.Spec PyProof.Rows L2 Z
theorem mk_lst {ρ : ZSt} {G : Gp} {Q : DK} {A : DA} {ds : List D} (hL : ∀ R, A ρ G R = R ds G) (hs : ds.length ≤ 1000000) (hq : ∀ p G2, G p = none → At G p (.lst ds) G2 → Q (.ref p) G2) : zLst A ρ G Q := by
  simp only [zLst, hL]
  have big : 1000000 ≤ sizeLine := by decide
  exact ⟨by omega, hq⟩
theorem joinL_one : ∀ ys : List Nat, TL.joinL [] (ys.map fun c => [c]) = ys
  | [] => rfl
  | [c] => rfl
  | c :: d :: r => by
    have ih := joinL_one (d :: r)
    show [c] ++ ([] ++ TL.joinL [] ((d :: r).map fun c => [c])) = c :: d :: r
    rw [ih]
    rfl
theorem join_one (ys : List Nat) : Txt.join ("" : Str) (ys.map fun c => S [c]) = S ys := by
  have e : (Txt.join ("" : Str) (ys.map fun c => S [c])).cps.toList = ys := by
    rw [TL.join_eq]
    have := TL.tl_join ("" : Str) (ys.map fun c => S [c])
    rw [List.map_map] at this
    have h2 : (ys.map (TL.tl ∘ fun c => S [c])) = ys.map fun c => [c] := List.map_congr_left fun c _ => S_cps [c]
    rw [h2] at this
    exact this.trans (joinL_one ys)
  rw [str_S (Txt.join ("" : Str) (ys.map fun c => S [c])), e]
theorem sum_one : ∀ ys : List Nat, ((ys.map fun c => S [c]).map (·.length)).sum = ys.length
  | [] => rfl
  | c :: r => by
    rw [List.map_cons, List.map_cons, List.sum_cons, sum_one r, List.length_cons, S_len, List.length_singleton, Nat.add_comm]
theorem num_str (n : Nat) : Str.ofString (toString (n : Int)) = S (TL.numL n) := by
  have := TL.tl_num n
  rw [str_S (Str.ofString (toString (n : Int)))]
  exact congrArg S this
theorem run_var {i : Nat} {d : D} {ρ : ZSt} {G : Gp} {R : DK} (h : ρ[i]? = some (some d)) (q : R d G) : zVar i ρ G R := by
  simp only [zVar, h]
  exact q
theorem s_nx {nx bk ct : ZSt → Gp → Prop} {rt : DK} {ρ : ZSt} {G : Gp} (h : nx ρ G) : zNext ⟨nx, rt, bk, ct⟩ ρ G := h
theorem s_ret0 {te : DE} {Z : ZEnds} {ρ : ZSt} {G : Gp} {R : DK} (e : Z.rt = R) (h : te ρ G R) : zRet te Z ρ G := by
  subst e
  exact h
theorem name_get {j : Nat} {c : Nat} (h : nameSigns[j]? = some c) : c ∈ nameSigns := List.mem_of_getElem? h
section
variable [τ : Tbl] {P : Program} {w : World} {K : PySem.W.Frag} {mg : Str → Option Value} {base : Heap} {CT CL CE CU aK aS : Addr}
theorem ok_LTok {f : Addr} {fd : FuncData} (FF : Fun K "_law_token" "_law_token" s__law_token f fd) (T : Txt K mg CT CL CE CU aK aS) (D__law_roll : Dfn P w K mg base "_law_roll" 1 ["dice", "many"] spRoll) : FnOk P w K mg base (L2.CX P w) 2 f fd ["dice"] (upSp K spLTok) :=
  z_fn FF sc__law_token (fun ds G Q E h => by obtain ⟨a, m, rfl, _⟩ := h; rfl) fun bas cdv A outer s H E hr ds G Q E0 hE hz => by
    obtain ⟨a, m, rfl, ha, hi, hq⟩ := hz
    refine ⟨_, (zs_cons (z_set (i := 1) sc__law_token.nd rfl (Or.inl rfl) (z_lst (za_cons z_str (za_cons z_str (za_cons z_str (za_cons z_str (za_cons z_str (za_cons z_str (za_cons z_str (za_cons z_str (za_cons z_str (za_cons z_str (za_cons z_str (za_cons z_str (za_cons z_str (za_cons z_str (za_cons z_str (za_cons z_str (za_cons z_str (za_cons z_str (za_cons z_str (za_cons z_str (za_cons z_str (za_cons z_str za_nil)))))))))))))))))))))))) (zs_cons (z_set (i := 2) sc__law_token.nd rfl (Or.inl rfl) (z_lst (za_cons z_str (za_cons z_str (za_cons z_str (za_cons z_str (za_cons z_str (za_cons z_str (za_cons z_str (za_cons z_str (za_cons z_str (za_cons z_str (za_cons z_str (za_cons z_str (za_cons z_str (za_cons z_str (za_cons z_str (za_cons z_str (za_cons z_str (za_cons z_str (za_cons z_str (za_cons z_str (za_cons z_str (za_cons z_str (za_cons z_str za_nil))))))))))))))))))))))))) (zs_cons (z_set (i := 3) sc__law_token.nd rfl (Or.inl rfl) (z_dc0 D__law_roll hr (by decide) (by rfl) (za_cons (z_var 0) (za_cons z_int za_nil)))) (zs_cons (z_if (z_tcmp zo_lt (z_var 3) z_int) (zs_cons (z_set (i := 4) sc__law_token.nd rfl (Or.inl rfl) (z_ix (z_var 2) (z_dc0 D__law_roll hr (by decide) (by rfl) (za_cons (z_var 0) (za_cons z_int za_nil))))) (zs_cons (z_ret (z_tup (za_cons (z_var 4) (za_cons (z_var 4) za_nil)))) zs_nil)) zs_nil) (zs_cons (z_if (z_tcmp zo_eqF (z_var 3) z_int) (zs_cons (z_set (i := 4) sc__law_token.nd rfl (Or.inl rfl) (z_ix (z_var 1) (z_dc0 D__law_roll hr (by decide) (by rfl) (za_cons (z_var 0) (za_cons z_int za_nil))))) (zs_cons (z_ret (z_tup (za_cons (z_var 4) (za_cons (z_var 4) za_nil)))) zs_nil)) zs_nil) (zs_cons (z_if (z_tcmp zo_eqF (z_var 3) z_int) (zs_one (z_ret (z_tup (za_cons z_str (za_cons (z_callTy zf_strI (by rfl) T.z_str (by rfl) (za_cons (z_ix (z_lst (za_cons (z_dc0 D__law_roll hr (by decide) (by rfl) (za_cons (z_var 0) (za_cons z_int za_nil))) (za_cons (z_op zo_sub z_int (z_dc0 D__law_roll hr (by decide) (by rfl) (za_cons (z_var 0) (za_cons z_int za_nil)))) (za_cons (z_dc0 D__law_roll hr (by decide) (by rfl) (za_cons (z_var 0) (za_cons z_int za_nil))) za_nil)))) (z_dc0 D__law_roll hr (by decide) (by rfl) (za_cons (z_var 0) (za_cons z_int za_nil)))) za_nil)) za_nil))))) zs_nil) (zs_cons (z_set (i := 6) sc__law_token.nd rfl (Or.inl rfl) (z_bm PySem.F.plainAttrs_str PySem.F.slot_str_join PySem.F.type_str_join zm_join z_str (za_cons (z_lc (own := [("turn", 5)]) rfl sc__law_token.nd (zi_rng1 (by rfl) T.z_range (za_cons (z_dc0 D__law_roll hr (by decide) (by rfl) (za_cons (z_var 0) (za_cons z_int za_nil))) za_nil)) (blkOk_by (by rfl)) (grel_name (by decide)) (fun _ _ _ _ _ => (pg_name (i := 5) sc__law_token.nd rfl (Or.inl rfl))) (fun _ _ _ _ _ => zts_nil) (fun _ _ _ _ _ => (z_ix z_str (z_dc0 D__law_roll hr (by decide) (by rfl) (za_cons (z_var 0) (za_cons z_int za_nil)))))) za_nil))) (zs_cons (z_if (z_tcmp zo_eqF (z_var 3) z_int) (zs_one (z_ret (z_tup (za_cons z_str (za_cons (z_op zo_catS (z_ix (z_lst (za_cons z_str (za_cons z_str (za_cons z_str (za_cons z_str za_nil))))) (z_dc0 D__law_roll hr (by decide) (by rfl) (za_cons (z_var 0) (za_cons z_int za_nil)))) (z_var 6)) za_nil))))) zs_nil) (zs_cons (z_ret (z_tup (za_cons z_str (za_cons (z_op zo_catS z_str (z_var 6)) za_nil)))) zs_nil))))))))), ?_⟩
    refine s_asg (mk_lst (ds := keyTexts.map D.str) (fun R => by simp only [zCons, zNil, zC]; rfl) (by decide) fun p1 G1 n1 h1 => ?_)
    refine s_asg (mk_lst (ds := signTexts.map D.str) (fun R => by simp only [zCons, zNil, zC]; rfl) (by decide) fun p2 G2 n2 h2 => ?_)
    have p1a : p1 ≠ a := fun z => by rw [z, ha] at n1; cases n1
    have a1 : G1 a = some m := (h1.other a (Ne.symm p1a)).trans ha
    have p2a : p2 ≠ a := fun z => by rw [z, a1] at n2; cases n2
    have p12 : p1 ≠ p2 := fun z => by rw [← z, h1.is] at n2; cases n2
    have a2 : G2 a = some m := (h2.other a (Ne.symm p2a)).trans a1
    have r2 : Rolled a G G2 := ((Rolled.start ha hi).new n1 h1).new n2 h2
    refine s_asg (run_roll (fun _ => rfl) a2 hi (by decide) (by decide) fun r G3 hr0 hr1 hR3 => ?_)
    obtain ⟨m3, a3, i3⟩ := hR3.dice
    have r3 : Rolled a G G3 := r2.trans hR3
    have s3 : G3 p2 = some (.lst (signTexts.map D.str)) := hR3.other p2 _ p2a h2.is
    have k3 : G3 p1 = some (.lst (keyTexts.map D.str)) := hR3.other p1 _ p1a ((h2.other p1 p12).trans h1.is)
    refine s_if ?_
    show (if decide (r < 2) = true then _ else _)
    by_cases c1 : r < 2
    · rw [if_pos (decide_eq_true c1)]
      refine s_asg (pickV (a := a) (p := p2) (ds := signTexts.map D.str) (fun _ _ => rfl) (fun _ => rfl) s3 p2a a3 i3 (by decide) (by decide) fun j d G4 e hR4 => ?_)
      obtain ⟨x, hx, rfl⟩ := sign_get e
      refine s_ret ?_
      exact ⟨by show 2 ≤ sizeLine; decide, hq _ _ G4 (.sign (List.mem_of_getElem? hx)) (r3.trans hR4)⟩
    rw [if_neg (by simpa using c1)]
    refine s_nx (s_if ?_)
    show (if (false != decide (r = 2)) = true then _ else _)
    by_cases c2 : r = 2
    · rw [if_pos (by rw [decide_eq_true c2]; rfl)]
      refine s_asg (pickV (a := a) (p := p1) (ds := keyTexts.map D.str) (fun _ _ => rfl) (fun _ => rfl) k3 p1a a3 i3 (by decide) (by decide) fun j d G4 e hR4 => ?_)
      obtain ⟨x, hx, rfl⟩ : ∃ x, keyL[j]? = some x ∧ d = .str (S x) := by
        rw [keyT_S, List.getElem?_map, List.getElem?_map] at e
        cases e2 : keyL[j]? with
        | none => rw [e2] at e; cases e
        | some x =>
          rw [e2] at e
          exact ⟨x, rfl, (Option.some.inj e).symm⟩
      refine s_ret ?_
      exact ⟨by show 2 ≤ sizeLine; decide, hq _ _ G4 (.key (List.mem_of_getElem? hx)) (r3.trans hR4)⟩
    rw [if_neg (by simpa using c2)]
    refine s_nx (s_if ?_)
    show (if (false != decide (r = 3)) = true then _ else _)
    by_cases c3 : r = 3
    · rw [if_pos (by rw [decide_eq_true c3]; rfl)]
      refine s_ret0 (R := Q) rfl ?_
      simp only [zTup, zCons, zNil, zC, zCB]
      have pk : ∀ (Q' : DK), (∀ (v : Nat) G', v ≤ 2147483647 → Rolled a G G' → Q' (.int (v : Int)) G') → zOp dIx (zLst (zCons (zCall spRoll X0 (zCons (zVar 0) (zCons (zC (D.int 12)) zNil))) (zCons (zOp (dI0 fun i j => D.int (i - j)) (zC (D.int 2147483647)) (zCall spRoll X0 (zCons (zVar 0) (zCons (zC (D.int 3)) zNil)))) (zCons (zCall spRoll X0 (zCons (zVar 0) (zCons (zC (D.int 100000)) zNil))) zNil))))
          (zCall spRoll X0 (zCons (zVar 0) (zCons (zC (D.int 3)) zNil))) (((((zstart ["dice", "keywords", "signs", "sort", "word", "turn", "name"] [.ref a]).set 1 (some (.ref p1))).set 2 (some (.ref p2))).set 3 (some (.int r)))) G3 Q' := fun Q' hQ' => by
        simp only [zOp, zLst, zCons, zNil, zC]
        refine run_roll (fun _ => rfl) a3 i3 (by decide) (by decide) fun v1 G4 u0 u1 hR4 => ?_
        obtain ⟨m4, a4, i4⟩ := hR4.dice
        refine run_roll (fun _ => rfl) a4 i4 (by decide) (by decide) fun v2 G5 w0 w1 hR5 => ?_
        obtain ⟨m5, a5, i5⟩ := hR5.dice
        simp only [dI0_e]
        refine run_roll (fun _ => rfl) a5 i5 (by decide) (by decide) fun v3 G6 x0 x1 hR6 => ?_
        obtain ⟨m6, a6, i6⟩ := hR6.dice
        have r6 : Rolled a G G6 := ((r3.trans hR4).trans hR5).trans hR6
        refine ⟨by show 3 ≤ sizeLine; decide, fun q G7 nq h7 => ?_⟩
        have qa : q ≠ a := fun z => by rw [z, a6] at nq; cases nq
        refine run_roll (fun _ => rfl) ((h7.other a (Ne.symm qa)).trans a6) i6 (by decide) (by decide) fun v4 G8 y0 y1 hR8 => ?_
        have q8 := hR8.other q _ qa h7.is
        have r8 : Rolled a G G8 := (r6.new nq h7).trans hR8
        obtain ⟨k, rfl⟩ := Int.eq_ofNat_of_zero_le y0
        have fin : ∀ v : Int, 0 ≤ v → v ≤ 2147483647 → Q' (.int v) G8 := fun v hv0 hv1 => by
          obtain ⟨n, rfl⟩ := Int.eq_ofNat_of_zero_le hv0
          exact hQ' n G8 (by omega) r8
        match k, y1 with
        | 0, _ => exact dIx_list (j := 0) q8 rfl (fin v1 u0 (by omega))
        | 1, _ => exact dIx_list (j := 1) q8 rfl (fin _ (by omega) (by omega))
        | 2, _ => exact dIx_list (j := 2) q8 rfl (fin v3 x0 (by omega))
        | k + 3, h => omega
      refine pk _ fun v G4 hv hR => ?_
      refine ⟨?_, by show 2 ≤ sizeLine; decide, ?_⟩
      · show ((v : Int).natAbs).log2 < 1920
        rw [Int.natAbs_natCast]
        by_cases h0 : v = 0
        · subst h0
          decide
        · exact Nat.lt_of_lt_of_le ((Nat.log2_lt h0).mpr (show v < 2 ^ 32 by omega)) (by decide)
      · show Q (.tup [.str "int", .str (Str.ofString (toString (v : Int)))]) G4
        rw [num_str]
        exact hq _ _ G4 (.int hv) hR
    rw [if_neg (by simpa using c3)]
    refine s_nx ?_
    -- the name
    have nm : ∀ (ρ : ZSt) (Q' : DK), ρ[0]? = some (some (.ref a)) → (∀ ys G', (∀ y ∈ ys, y ∈ nameSigns) → ys.length ≤ 5 → Rolled a G G' → Q' (.str (S ys)) G') → zBM "str" mJoin (zC (D.str (Str.ofString ""))) (zCons (zLc (zRng1 (zCons (zCall spRoll X0 (zCons (zVar 0) (zCons (zC (D.int 6)) zNil))) zNil)) (zName 5) zYes
        (zOp dIx (zC (D.str (Str.ofString "aZ_9kends"))) (zCall spRoll X0 (zCons (zVar 0) (zCons (zC (D.int 9)) zNil)))) [5]) zNil) ρ G3 Q' := fun ρ Q' hρ hQ' => by
      have hA : ∀ (n : Int) (ρ' : ZSt) (G : Gp) (R : List D → Gp → Prop), ρ'[0]? = some (some (.ref a)) → zCons (zVar 0) (zCons (zC (D.int n)) zNil) ρ' G R = R [.ref a, .int n] G := fun n ρ' G R h => by
        simp only [zCons, zVar, zC, zNil, h]
      simp only [zBM, zC, tyZ, true_and]
      show zLc _ _ _ _ _ ρ G3 _
      simp only [zLc, zRng1, zCons, zNil]
      refine run_roll (fun R => hA 6 ρ G3 R hρ) a3 i3 (by decide) (by decide) fun v G4 v0 v1 hR4 => ?_
      refine ⟨by omega, by omega, ?_⟩
      obtain ⟨n, rfl⟩ := Int.eq_ofNat_of_zero_le v0
      refine ⟨fun i acc G' => Rolled a G G' ∧ ∃ ys : List Nat, acc = ys.map (fun c => D.str (S [c])) ∧ ys.length = i ∧ ∀ y ∈ ys, y ∈ nameSigns, ⟨r3.trans hR4, [], rfl, rfl, fun y hy => (List.not_mem_nil hy).elim⟩, ?_, ?_⟩
      · rintro i d acc G5 hi ⟨hR5, ys, rfl, hlen, hys⟩
        obtain ⟨hin, rfl⟩ := rngD_get hi
        obtain ⟨m5, a5, i5⟩ := hR5.dice
        have big : 1000 ≤ sizeLine := by decide
        refine ⟨True.intro, by rw [List.length_map]; omega, ?_⟩
        simp only [zName, zYes, if_true, zOp, zC]
        have hA' : ∀ (n : Int) (ρ' : ZSt) (G : Gp) (R : List D → Gp → Prop), ρ'[0]? = some (some (.ref a)) → zCons (zVar 0) (zCons (fun _ G Q => Q (D.int n) G) zNil) ρ' G R = R [.ref a, .int n] G := fun n ρ' G R h => hA n ρ' G R h
        refine run_roll (fun R => hA' 9 _ G5 R (by show (((zwipe ρ [5]).set 5 _)[0]?) = _; show ((ρ.set 5 none).set 5 _)[0]? = _; rw [List.getElem?_set_ne (by decide), List.getElem?_set_ne (by decide)]; exact hρ)) a5 i5 (by decide) (by decide) fun v2 G6 w0 w1 hR6 => ?_
        obtain ⟨k, rfl⟩ := Int.eq_ofNat_of_zero_le w0
        have hk : k < nameSigns.length := by show k < 9; omega
        have e9 : ("aZ_9kends" : Str) = S nameSigns := str_S _
        rw [e9]
        refine dIx_S (by show 9 ≤ sizeLine; decide) (atI_nat (List.getElem?_eq_getElem hk)) ?_
        refine ⟨hR5.trans hR6, ys ++ [nameSigns[k]], by rw [List.map_append]; rfl, by rw [List.length_append, hlen]; rfl, fun y hy => ?_⟩
        rcases List.mem_append.mp hy with hy | hy
        · exact hys y hy
        · rw [List.mem_singleton.mp hy]
          exact List.getElem_mem hk
      · rintro acc G5 ⟨hR5, ys, rfl, hlen, hys⟩
        refine ⟨True.intro, fun q G6 nq h6 => ?_⟩
        rw [rngD_len] at hlen
        refine ⟨ys.map fun c => S [c], by rw [h6.is, List.map_map]; rfl, ?_, ?_⟩
        · rw [sum_one]
          show ys.length + (ys.map fun c => S [c]).length * 0 ≤ 16777216
          omega
        · rw [join_one]
          exact hQ' ys G6 hys (by omega) (hR5.new nq h6)
    refine s_asg (nm _ _ rfl fun ys G4 hys hlen hR => ?_)
    obtain ⟨m4, a4, i4⟩ := hR.dice
    refine s_if ?_
    show (if (false != decide (r = 4)) = true then _ else _)
    by_cases c4 : r = 4
    · rw [if_pos (by rw [decide_eq_true c4]; rfl)]
      refine s_ret0 (R := Q) rfl ?_
      simp only [zTup, zCons, zNil, zC]
      show zOp dIx (zLst _) _ _ _ _
      refine pick (a := a) (ds := conL.map fun c => D.str (S c)) (fun _ _ => rfl) (fun _ => rfl) a4 i4 (by decide) (by decide) fun j d G5 e hR5 => ?_
      obtain ⟨c, hc, rfl⟩ : ∃ c, conL[j]? = some c ∧ d = .str (S c) := by
        rw [List.getElem?_map] at e
        cases e2 : conL[j]? with
        | none => rw [e2] at e; cases e
        | some x =>
          rw [e2] at e
          exact ⟨x, rfl, (Option.some.inj e).symm⟩
      have hcl : c.length ≤ 3 := by
        have : ∀ c ∈ conL, c.length ≤ 3 := by decide
        exact this c (List.mem_of_getElem? hc)
      have big : 1000 ≤ sizeLine := by decide
      refine run_var (d := .str (S ys)) rfl ?_
      rw [dCatS_e, S_app, S_len, S_len]
      exact ⟨by omega, by show 2 ≤ sizeLine; decide, hq _ _ G5 (.con (List.mem_of_getElem? hc) hys hlen) (hR.trans hR5)⟩
    rw [if_neg (by simpa using c4)]
    refine s_nx (s_ret ?_)
    have big : 1000 ≤ sizeLine := by decide
    have e9 : ("xz" : Str) = S [120, 122] := rfl
    simp only [zTup, zCons, zNil, zC, zOp]
    refine run_var (d := .str (S ys)) rfl ?_
    rw [dCatS_e, e9, S_app, S_len, S_len]
    exact ⟨by show 2 + ys.length ≤ _; omega, by show 2 ≤ sizeLine; decide, hq _ _ G4 (.name hys hlen) hR⟩
end
end K01

namespace K01
open PySem PySem.Spec PyProof.Rows L2 Z
/-! ### names -/
/-- the name that a code object made in is_tail bears -/
def qTail : Str := (envOfC "is_tail" (defScope s_is_tail) 0 0 .none).qual ++ "<genexpr>"
def tailB (l : List Nat) : Bool := l.all fun c => decide (c ∈ tailL)
def nameB (l : List Nat) : Bool := match l with
  | [] => false
  | x :: _ => decide (x ∈ lowers) && (tailB l && !decide (l ∈ keyL))
def consB (l : List Nat) : Bool := match l with
  | [] => false
  | x :: _ => decide (x ∈ capitals) && tailB l
def spTail : ZSp := fun ds G Q _ => ∃ l, ds = [.str (S l)] ∧ Q (.bl (tailB l)) G
def spIsName : ZSp := fun ds G Q _ => ∃ l, ds = [.str (S l)] ∧ l.length ≤ sizeLine ∧ Q (.bl (nameB l)) G
def spIsCons : ZSp := fun ds G Q _ => ∃ l, ds = [.str (S l)] ∧ l.length ≤ sizeLine ∧ Q (.bl (consB l)) G
def spWords (CT : Addr) : ZSp := fun ds G Q _ => ∃ t n ks, ds = [.str (S t)] ∧ t.length ≤ sizeLine ∧ n ≤ 1000 ∧ skipN false t ≤ t.length ∧ Lex t n (skipN false t) (some ks) ∧ ks ≠ [] ∧
  ∀ q G', Ext G G' → G' q = some (.lst (ks.dropLast.map fun k => .str (S k.x))) → Q (.ref q) G'
def isScript (G : Gp) (sD : D) (ns : List Int) : Prop := sD = .cl (ns.map D.int) ∨ ∃ a, sD = .ref a ∧ G a = some (.lst (ns.map D.int))
def spRounds : ZSp := fun ds G Q _ => ∃ (sD : D) (ns : List Int), ds = [sD, .int 1] ∧ isScript G sD ns ∧ ∀ q d m G', Ext G G' → G' q = some (.lst [.ref d]) → G' d = some m → isDice m → q ≠ d → Q (.ref q) G'
theorem add_txt {M : Model} {w : World} {prog : Program} {A : Around} {E : Value → Shared → Prop} {s : Shared} {x y : List Nat} {t u : Tok} {Q : Value → Shared → Prop} (hz : x.length + y.length ≤ 1000) (h : ∀ t' tk, Q (.str (S (x ++ y)) t') { s with toks := tk }) :
    wpAny (model prog w) A (binaryOp .Add (.str (S x) t) (.str (S y) u)) Q E s := by
  refine PyProof.Rows.add_str (fun t' tk => by rw [S_app]; exact h t' tk) ?_
  rw [S_len, S_len]
  exact Nat.le_trans hz (by decide)
theorem elt_tail {X : Cx} {scope : Scope} {CT CL CE CU aK aS : Addr} {p1 p2 p3 p4 p5 p6 p7 p8 p9 : Pos} {j : Nat} (T : Txt X.K X.mg CT CL CE CU aK aS) (hk : scope.kind = .function := by rfl) (hl : scope.names.lookup ("sign" : Str) = some .local := by rfl)
    (g1 : scope.names.lookup ("LETTERS" : Str) = some .globalImplicit := by rfl) (g2 : scope.names.lookup ("CAPITALS" : Str) = some .globalImplicit := by rfl) (g3 : scope.names.lookup ("DIGITS" : Str) = some .globalImplicit := by rfl) :
    EltK X scope "sign" (.Compare (.Name "sign" p1) [.In] [.BinOp (.BinOp (.BinOp (.Name "LETTERS" p2) .Add (.Name "CAPITALS" p3) p4) .Add (.Name "DIGITS" p5) p6) .Add (.Constant (.str "_") j p7) p8] p9) fun c => decide (c ∈ tailL) := by
  intro ce B Ex c t z m hs hg hK hG hn hm
  obtain ⟨t1, m1⟩ := T.g_LETTERS
  obtain ⟨t2, m2⟩ := T.g_CAPITALS
  obtain ⟨t3, m3⟩ := T.g_DIGITS
  have hG' : z.heap.Ns ce.globals X.mg := by rw [hg]; exact hG
  have kd : ce.scope.kind = .function := by rw [hs]; exact hk
  refine wpAny_Compare1 ?_
  refine wpAny_Name (wpAny_loadName_local kd (show ce.scope.names.lookup ("sign" : Str) = some .local by rw [hs]; exact hl) hn hm ?_) (by decide)
  refine wpAny_BinOp (wpAny_BinOp (wpAny_BinOp ?_))
  refine Calls.Name_function_global kd (show ce.scope.names.lookup ("LETTERS" : Str) = some .globalImplicit by rw [hs]; exact g1) (Calls.loadGlobal_global hG' m1 ?_)
  refine Calls.Name_function_global kd (show ce.scope.names.lookup ("CAPITALS" : Str) = some .globalImplicit by rw [hs]; exact g2) (Calls.loadGlobal_global hG' m2 ?_)
  refine add_txt (M := model X.prog X.w) (by decide) fun ta ka => ?_
  refine Calls.Name_function_global kd (show ce.scope.names.lookup ("DIGITS" : Str) = some .globalImplicit by rw [hs]; exact g3) (Calls.loadGlobal_global hG' m3 ?_)
  refine add_txt (M := model X.prog X.w) (by decide) fun tb kb => ?_
  refine Calls.Constant_str ?_
  refine add_txt (M := model X.prog X.w) (x := lowers ++ capitals ++ digits) (y := [95]) (by decide) fun tc kc => ?_
  refine PyProof.Rows.in_str ?_
  refine ⟨?_, GxR.keeps_tok z kc⟩
  exact congrArg Value.bool ((PySem.StrLaws.found_one (S tailL) c).trans (by rw [S_cps]))
section
variable [τ : Tbl] {P : Program} {w : World} {K : PySem.W.Frag} {mg : Str → Option Value} {base : Heap} {CT CL CE CU aK aS : Addr}
theorem ok_Tail {f c PT : Addr} {oc kV doc pm ct : Value} {od an : Option Addr} {osl : Array (Option Value)}
    (lk : K.lookup f = some ⟨oc, od, .func (PySem.W.fnOf "is_tail" "is_tail" (defArgs s_is_tail) (defBody s_is_tail) (defScope s_is_tail) .none kV doc pm an (.ref c) ct), osl⟩) (hcd : PySem.W.codeIn K (.ref c) "is_tail" = true) (T : Txt K mg CT CL CE CU aK aS)
    (TB : GxR.TabB base mg c PT) (hmT : (PT, qTail) ∈ τ.T) (hu : ∀ p ∈ τ.T, p.1 = PT → p.2 = qTail) :
    FnOk P w K mg base (L2.CX P w) 1 f (PySem.W.fnOf "is_tail" "is_tail" (defArgs s_is_tail) (defBody s_is_tail) (defScope s_is_tail) .none kV doc pm an (.ref c) ct) ["text"] (upSp K spTail) :=
  z_fnC lk hcd sc_is_tail (fun ds G Q E h => by obtain ⟨l, rfl, _⟩ := h; rfl) fun bas A outer s H E hr ds G Q E0 hE hz => by
    obtain ⟨l, rfl, hq⟩ := hz
    refine ⟨_, (zs_one (z_ret (z_allS hmT hu hr (by rfl) T.z_all TB rfl ⟨rfl, rfl, by decide +kernel, rfl, rfl, fun y hy e => absurd e (by revert y; decide +kernel)⟩ (z_var 0) (elt_tail T) (fun _ => rfl)))), ?_⟩
    simp only [zRet, zAllS, zVar, zstart, zSeq, zAsg, zName, zPar, zPar3, zIfS, zAnd, zOrT, zNot, zTest, zOp, zCB, zCons, zNil, zVar, zC, zFld, zDrop, zRet, zRetN, zNext, zBreak, zCont, zIf, zTup, zSl, zPart, zNoP, zNeg, zChain, zAndV, zOrV, zNotV, zgTup, zgCons, zgNil, zRaise1, zList, zTupI, zStrI, zRng1, zRng2, zstart, dI0_e, dI_e, dEqF_i, dEqF_s, dEqF_b, dCatS_e, fLen_s, fInt_i, fInt_b, fAbs_i, List.map_cons, List.map_nil, List.getElem?_cons_succ, List.getElem?_cons_zero, List.set_cons_succ, List.set_cons_zero, List.cons_append, List.nil_append, List.length_cons, List.length_nil, Nat.reduceAdd, Nat.reduceSub, Nat.zero_add, List.reduceReplicate, true_and, and_true]
    rw [S_cps]
    exact hq
end
end K01

namespace K01
open PySem PySem.Spec PyProof.Rows L2 Z
theorem run_var' {i : Nat} {d : D} {ρ : ZSt} {G : Gp} {R : DK} (h : ρ[i]? = some (some d)) : zVar i ρ G R = R d G := by
  simp only [zVar, h]
theorem ne_empty {l : List Nat} : decide (S l = ("" : Str)) = l.isEmpty := by
  rw [lit_no]
  cases l with
  | nil => exact decide_eq_true rfl
  | cons x r => exact decide_eq_false fun z => by rw [S_inj] at z; cases z
theorem cut_last (xs : List D) (h : xs ≠ []) : Z.cutD xs none (some (-1)) = xs.dropLast := by
  unfold Z.cutD
  rw [HT.sIx_none]
  have : HT.sIx xs.length xs.length (some (-1)) = xs.length - 1 := by
    show (if (-1 : Int) < 0 then ((-1 : Int) + (xs.length : Int)).toNat else min (-1 : Int).toNat xs.length) = xs.length - 1
    rw [if_pos (by decide)]
    omega
  rw [this, Nat.sub_zero, List.drop_zero, List.dropLast_eq_take]
theorem Lex.len {t : List Nat} {n p : Nat} {res : Option (List Tk)} (h : Lex t n p res) : ∀ ks, res = some ks → ks.length = n + 1 := by
  induction h with
  | done _ => intro ks e; cases e; rfl
  | bad _ _ => intro ks e; cases e
  | tok _ _ _ _ _ ih =>
    intro ks e
    rename_i res _ _ _ _ _
    cases res with
    | none => cases e
    | some r =>
      cases e
      rw [List.length_cons, ih r rfl]
section
variable [τ : Tbl] {P : Program} {w : World} {K : PySem.W.Frag} {mg : Str → Option Value} {base : Heap} {CT CL CE CU aK aS : Addr}
theorem ok_IsName {f : Addr} {fd : FuncData} (FF : Fun K "is_name" "is_name" s_is_name f fd) (T : Txt K mg CT CL CE CU aK aS) (D_is_tail : Dfn P w K mg base "is_tail" 1 ["text"] spTail) : FnOk P w K mg base (L2.CX P w) 2 f fd ["text"] (upSp K spIsName) :=
  z_fn FF sc_is_name (fun ds G Q E h => by obtain ⟨l, rfl, _⟩ := h; rfl) fun bas cdv A outer s H E hr ds G Q E0 hE hz => by
    obtain ⟨l, rfl, hl, hq⟩ := hz
    refine ⟨_, (zs_one (z_ret (z_and (z_cmp zo_neF (z_var 0) z_str) (z_and (z_cmp zo_sign (z_ix (z_var 0) z_int) (z_gstr (by rfl) T.g_LETTERS)) (z_and (z_dc0 D_is_tail hr (by decide) (by rfl) (za_cons (z_var 0) za_nil)) (z_one (z_cmp zo_notinF (z_var 0) (z_gct (by rfl) T.g_KEYWORDS T.q_KEYWORDS (fun _ => reps_strs _))))))))), ?_⟩
    simp only [zRet, zAndV, zOp, zC, zVar, zstart, List.map_cons, List.map_nil, List.cons_append, List.getElem?_cons_zero, dEqF_s, ne_empty]
    cases l with
    | nil =>
      simp only [List.isEmpty_nil, Bool.bne_true, Bool.not_true, Bool.false_eq_true, if_false]
      exact hq
    | cons x r =>
      simp only [List.isEmpty_cons, Bool.bne_false, if_true]
      refine dIx_S (c := x) hl (atI_nat (j := 0) rfl) (dSign_S ?_)
      rw [Bool.false_bne]
      unfold nameB at hq
      simp only at hq
      show (if decide (x ∈ lowers) = true then _ else _)
      by_cases h1 : x ∈ lowers
      · rw [if_pos (decide_eq_true h1)]
        rw [decide_eq_true h1, Bool.true_and] at hq
        refine ⟨x :: r, rfl, ?_⟩
        by_cases h2 : tailB (x :: r) = true
        · rw [h2, Bool.true_and] at hq
          simp only [h2, if_true, dInF, seqD]
          refine ⟨rfl, keyT_fl, ?_⟩
          rw [key_any]
          exact hq
        · rw [Bool.not_eq_true] at h2
          rw [h2, Bool.false_and] at hq
          simp only [h2, Bool.false_eq_true, if_false]
          exact hq
      · rw [if_neg (by simpa using h1)]
        rw [decide_eq_false h1, Bool.false_and] at hq
        exact hq
theorem ok_IsCons {f : Addr} {fd : FuncData} (FF : Fun K "is_constructor" "is_constructor" s_is_constructor f fd) (T : Txt K mg CT CL CE CU aK aS) (D_is_tail : Dfn P w K mg base "is_tail" 1 ["text"] spTail) : FnOk P w K mg base (L2.CX P w) 2 f fd ["text"] (upSp K spIsCons) :=
  z_fn FF sc_is_constructor (fun ds G Q E h => by obtain ⟨l, rfl, _⟩ := h; rfl) fun bas cdv A outer s H E hr ds G Q E0 hE hz => by
    obtain ⟨l, rfl, hl, hq⟩ := hz
    refine ⟨_, (zs_one (z_ret (z_and (z_cmp zo_neF (z_var 0) z_str) (z_and (z_cmp zo_sign (z_ix (z_var 0) z_int) (z_gstr (by rfl) T.g_CAPITALS)) (z_one (z_dc0 D_is_tail hr (by decide) (by rfl) (za_cons (z_var 0) za_nil))))))), ?_⟩
    simp only [zRet, zAndV, zOp, zC, zVar, zstart, List.map_cons, List.map_nil, List.cons_append, List.getElem?_cons_zero, dEqF_s, ne_empty]
    cases l with
    | nil =>
      simp only [List.isEmpty_nil, Bool.bne_true, Bool.not_true, Bool.false_eq_true, if_false]
      exact hq
    | cons x r =>
      simp only [List.isEmpty_cons, Bool.bne_false, if_true]
      refine dIx_S (c := x) hl (atI_nat (j := 0) rfl) (dSign_S ?_)
      rw [Bool.false_bne]
      unfold consB at hq
      simp only at hq
      show (if decide (x ∈ capitals) = true then _ else _)
      by_cases h1 : x ∈ capitals
      · rw [if_pos (decide_eq_true h1)]
        rw [decide_eq_true h1, Bool.true_and] at hq
        exact ⟨x :: r, rfl, hq⟩
      · rw [if_neg (by simpa using h1)]
        rw [decide_eq_false h1, Bool.false_and] at hq
        exact hq
theorem ok_Words {f : Addr} {fd : FuncData} (FF : Fun K "words_of" "words_of" s_words_of f fd) (T : Txt K mg CT CL CE CU aK aS) (D_tokenize : Dfn P w K mg base "tokenize" 7 ["text"] (spTokenize CT CE)) : FnOk P w K mg base (L2.CX P w) 8 f fd ["text"] (upSp K (spWords CT)) :=
  z_fn FF sc_words_of (fun ds G Q E h => by obtain ⟨t, n, ks, rfl, _⟩ := h; rfl) fun bas cdv A outer s H E hr ds G Q E0 hE hz => by
    obtain ⟨t, n, ks, rfl, hl, hn, hsk, hlex, hne, hq⟩ := hz
    refine ⟨_, (zs_one (z_ret (z_lc (own := [("token", 1)]) rfl sc_words_of.nd (zi_list (z_slice zsl_list (z_dc0 D_tokenize hr (by decide) (by rfl) (za_cons (z_var 0) za_nil)) zo_none (zo_some (z_neg z_int)))) (blkOk_by (by rfl)) (grel_name (by decide)) (fun _ _ _ _ _ => (pg_name (i := 1) sc_words_of.nd rfl (Or.inl rfl))) (fun _ _ _ _ _ => zts_nil) (fun _ _ _ _ _ => (z_fld T.c_Token T.n_Token_text (z_var 1)))))), ?_⟩
    show zLc _ _ _ _ _ _ G Q
    simp only [zLc, zList, zSl, zCall, zCons, zVar, zNil, zNoP, zPart, zNeg, zC, zstart, List.map_cons, List.map_nil, List.cons_append, List.getElem?_cons_zero]
    refine ⟨t, n, some ks, rfl, hl, hn, hsk, hlex, fun q as G1 e1 nq hq1 htk hnew => ?_⟩
    simp only [dSlL, hq1]
    intro p G2 np h2
    have hasne : as.map D.ref ≠ [] := fun z => by
      have := congrArg List.length z
      rw [List.length_map, htk.1] at this
      exact hne (List.length_eq_zero_iff.mp this)
    rw [cut_last _ hasne] at h2
    simp only [h2.is]
    have hlen : (as.map D.ref).dropLast.length = ks.length - 1 := by rw [List.length_dropLast, List.length_map, htk.1]
    have klen : ks.length ≤ 1001 := by
      rw [hlex.len ks rfl]
      omega
    refine ⟨fun i acc G' => G' = G2 ∧ acc = (ks.take i).map fun k => D.str (S k.x), ⟨rfl, rfl⟩, ?_, ?_⟩
    · rintro i d acc G' hi ⟨rfl, rfl⟩
      have hi2 : i < ks.length - 1 := by
        have := (List.getElem?_eq_some_iff.mp hi).1
        rw [hlen] at this
        exact this
      have hia : i < as.length := by rw [htk.1]; omega
      have hik : i < ks.length := by omega
      have ed : d = .ref as[i] := by
        rw [List.getElem?_dropLast, if_pos (by rw [List.length_map, htk.1]; exact hi2), List.getElem?_map, List.getElem?_eq_getElem hia] at hi
        exact (Option.some.inj hi).symm
      subst ed
      obtain ⟨dx, hobj⟩ := htk.2 i as[i] ks[i] (List.getElem?_eq_getElem hia) (List.getElem?_eq_getElem hik)
      have pne : as[i] ≠ p := fun z => by rw [← z, hobj] at np; cases np
      have hobj2 : G' as[i] = some (tkO CT dx ks[i].w (S ks[i].x) ks[i].l ks[i].c) := by rw [h2.other _ pne]; exact hobj
      have big : 2000 ≤ sizeLine := by decide
      refine ⟨h2.is, by rw [List.length_map, List.length_take]; omega, ?_⟩
      simp only [zName, zYes, if_true, zFld]
      refine run_var (d := .ref as[i]) rfl ?_
      simp only [hobj2, tkO, tk2, true_and]
      rw [List.take_add_one, List.getElem?_eq_getElem hik, List.map_append]
      rfl
    · rintro acc G' ⟨rfl, rfl⟩
      refine ⟨h2.is, fun q2 G3 nq2 h3 => ?_⟩
      rw [hlen, ← List.dropLast_eq_take] at h3
      exact hq q2 G3 ((e1.trans (h2.ext np)).trans (h3.ext nq2)) h3.is
end
end K01

namespace K01
open PySem PySem.Spec PyProof.Rows L2 Z
theorem cut_one (xs : List D) : Z.cutD xs none (some 1) = xs.take 1 := by
  unfold Z.cutD
  rw [HT.sIx_none, show (1 : Int) = ((1 : Nat) : Int) from rfl, HT.sIx_nat, Nat.sub_zero, List.drop_zero]
  cases xs with
  | nil => rfl
  | cons x r => rw [Nat.min_eq_left (by rw [List.length_cons]; omega)]
section
variable [τ : Tbl] {P : Program} {w : World} {K : PySem.W.Frag} {mg : Str → Option Value} {base : Heap} {CT CL CE CU aK aS : Addr}
theorem ok_Rounds {f : Addr} {fd : FuncData} (FF : Fun K "_law_rounds" "_law_rounds" s__law_rounds f fd) (T : Txt K mg CT CL CE CU aK aS) (D__law_dice : Dfn P w K mg base "_law_dice" 1 ["cell"] spDice) : FnOk P w K mg base (L2.CX P w) 2 f fd ["script", "most"] (upSp K spRounds) :=
  z_fn FF sc__law_rounds (fun ds G Q E h => by obtain ⟨sD, ns, rfl, _⟩ := h; rfl) fun bas cdv A outer s H E hr ds G Q E0 hE hz => by
    obtain ⟨sD, ns, rfl, hs, hq⟩ := hz
    have hsl : ∀ R : DK, (∀ p G', G p = none → At G p (.lst ((ns.map D.int).take 1)) G' → R (.ref p) G') → dSlL sD none (some 1) G R := fun R h => by
      rcases hs with rfl | ⟨a, rfl, ha⟩
      · simp only [dSlL, cut_one]
        exact h
      · simp only [dSlL, ha, cut_one]
        exact h
    refine ⟨_, (zs_cons (z_set (i := 2) sc__law_rounds.nd rfl (Or.inl rfl) (z_slice zsl_list (z_var 0) zo_none (zo_some (z_var 1)))) (zs_cons (z_if (z_tcmp (zo_eq hr.units) (z_var 2) (z_lst za_nil)) (zs_one (z_set (i := 2) sc__law_rounds.nd rfl (Or.inl rfl) (z_lst (za_cons z_int za_nil)))) zs_nil) (zs_cons (z_ret (z_lc (own := [("cell", 3)]) rfl sc__law_rounds.nd (zi_list (z_var 2)) (blkOk_by (by rfl)) (grel_name (by decide)) (fun _ _ _ _ _ => (pg_name (i := 3) sc__law_rounds.nd rfl (Or.inl rfl))) (fun _ _ _ _ _ => zts_nil) (fun _ _ _ _ _ => (z_dc0 D__law_dice hr (by decide) (by rfl) (za_cons (z_var 3) za_nil))))) zs_nil))), ?_⟩
    refine s_asg ?_
    simp only [zSl, zVar, zNoP, zPart, zstart, List.map_cons, List.map_nil, List.cons_append, List.getElem?_cons_zero, List.getElem?_cons_succ]
    refine hsl _ fun p G1 np h1 => ?_
    -- from any list of one int at pc
    have fin : ∀ (pc : Addr) (i : Int) (ρ : ZSt) (G2 : Gp), Ext G G2 → G2 pc = some (.lst [.int i]) → ρ[2]? = some (some (.ref pc)) → ρ.length = 4 →
        zSeq (zRet (zLc (zList (zVar 2)) (zName 3) zYes (zCall spDice X0 (zCons (zVar 3) zNil)) [3])) zNext { nx := fun _ G' => Q .non G', rt := Q } ρ G2 := fun pc i ρ G2 e2 hpc hρ hlen => by
      refine s_ret ?_
      show zLc _ _ _ _ _ ρ G2 Q
      simp only [zLc, zList]
      rw [run_var' hρ]
      simp only [hpc]
      refine ⟨fun k acc G' => Ext G2 G' ∧ (k = 0 → acc = [] ) ∧ (k = 1 → ∃ d m, acc = [.ref d] ∧ G' d = some m ∧ isDice m), ⟨Ext.refl _, fun _ => rfl, fun h => absurd h (by decide)⟩, ?_, ?_⟩
      · rintro k d acc G' hk ⟨e3, h0, _⟩
        have hk0 : k = 0 := by
          have := (List.getElem?_eq_some_iff.mp hk).1
          simp at this
          omega
        subst hk0
        obtain rfl := h0 rfl
        cases Option.some.inj hk
        refine ⟨e3 _ _ hpc, by decide, ?_⟩
        simp only [zName, zYes, if_true, zCall, zCons, zNil]
        refine run_var (d := .int i) (by
          show ((ρ.set 3 none).set 3 (some (.int i)))[3]? = _
          rw [List.getElem?_set_self (by rw [List.length_set, hlen]; decide)]) ?_
        refine ⟨i, rfl, fun q m G4 nq hi h4 => ⟨e3.trans (h4.ext nq), fun h => absurd h (by decide), fun _ => ⟨q, m, rfl, h4.is, hi⟩⟩⟩
      · rintro acc G' ⟨e3, _, h1⟩
        obtain ⟨d, m, rfl, hd, hi⟩ := h1 rfl
        refine ⟨e3 _ _ hpc, fun q G4 nq h4 => ?_⟩
        have ndq : d ≠ q := fun z => by rw [← z, hd] at nq; cases nq
        exact hq q d m G4 ((e2.trans e3).trans (h4.ext nq)) h4.is ((h4.other d ndq).trans hd) hi (Ne.symm ndq)
    refine s_if ?_
    simp only [zTest, zOp]
    refine run_var (d := .ref p) rfl ?_
    refine mk_lst (ds := []) (fun _ => rfl) (by decide) fun q G2 nq h2 => ?_
    have e1 : Ext G G2 := (h1.ext np).trans (h2.ext nq)
    have pq : p ≠ q := fun z => by rw [← z, h1.is] at nq; cases nq
    have p2 : G2 p = some (.lst ((ns.map D.int).take 1)) := (h2.other p pq).trans h1.is
    cases ns with
    | nil =>
      have ep : pdT G2 (.ref p) = some (.list []) := by
        unfold pdT
        simp only
        rw [p2]
        rfl
      have eq : pdT G2 (.ref q) = some (.list []) := by
        unfold pdT
        simp only
        rw [h2.is]
        rfl
      show dEq (.ref p) (.ref q) G2 _
      unfold dEq
      rw [ep, eq]
      refine ⟨rfl, rfl, ?_⟩
      show (if PyData.eqv (.list []) (.list []) = true then _ else _)
      rw [if_pos (by decide)]
      show zLst _ _ G2 _
      refine mk_lst (ds := [.int 0]) (fun _ => rfl) (by decide) fun r G3 nr h3 => ?_
      exact fin r 0 [some sD, some (.int 1), some (.ref r), none] G3 (e1.trans (h3.ext nr)) h3.is rfl rfl
    | cons i r =>
      have ep : pdT G2 (.ref p) = some (.list [.int i]) := by
        unfold pdT
        simp only
        rw [p2]
        rfl
      have eq : pdT G2 (.ref q) = some (.list []) := by
        unfold pdT
        simp only
        rw [h2.is]
        rfl
      show dEq (.ref p) (.ref q) G2 _
      unfold dEq
      rw [ep, eq]
      refine ⟨rfl, rfl, ?_⟩
      show (if PyData.eqv (.list [.int i]) (.list []) = true then _ else _)
      rw [if_neg (by simp [PyData.eqv, PyData.eqvAll])]
      refine s_nx ?_
      exact fin p i _ G2 e1 p2 rfl rfl
end
end K01

namespace K01
open PySem PySem.Spec PyProof.Rows L2 Z
def blankHead (r : List Nat) : Prop := ∃ c q, r = c :: q ∧ (c = 32 ∨ c = 10 ∨ c = 35)
def plainHead (r : List Nat) : Prop := r = [] ∨ ∃ c q, r = c :: q ∧ ¬ (c = 32 ∨ c = 10 ∨ c = 35)
theorem skip_plain {r : List Nat} (h : plainHead r) : skipN false r = 0 := by
  rcases h with rfl | ⟨c, q, rfl, hc⟩
  · rfl
  · exact skip_no hc
theorem signL_is : signL = [[61, 62], [45, 62], [58, 58], [58, 61], [60, 61], [61, 61], [38, 38], [124, 124], [43], [45], [42], [47], [60], [61], [33], [59], [44], [124], [40], [41], [91], [93], [95]] := by rfl
theorem gapL_is : gapL = [[32], [32, 32], [10], [32, 10, 32], [32, 35, 32, 97, 32, 114, 101, 109, 97, 114, 107, 44, 32, 49, 32, 43, 32, 36, 10], [10, 10], [35, 10]] := by rfl
theorem runL_app {L x r : List Nat} (hx : ∀ y ∈ x, y ∈ L) (hr : r = [] ∨ ∃ c q, r = c :: q ∧ ¬ c ∈ L) : runL L (x ++ r) = x := by
  induction x with
  | nil =>
    rcases hr with rfl | ⟨c, q, rfl, hc⟩
    · rfl
    · exact runL_no hc
  | cons a x ih =>
    rw [List.cons_append, runL_yes (hx a List.mem_cons_self), ih fun y hy => hx y (List.mem_cons_of_mem _ hy)]
theorem blank_tail {r : List Nat} (h : blankHead r) : r = [] ∨ ∃ c q, r = c :: q ∧ ¬ c ∈ tailL := by
  obtain ⟨c, q, rfl, hc⟩ := h
  refine .inr ⟨c, q, rfl, ?_⟩
  rcases hc with rfl | rfl | rfl <;> decide
theorem blank_digits {r : List Nat} (h : blankHead r) : r = [] ∨ ∃ c q, r = c :: q ∧ ¬ c ∈ digits := by
  obtain ⟨c, q, rfl, hc⟩ := h
  refine .inr ⟨c, q, rfl, ?_⟩
  rcases hc with rfl | rfl | rfl <;> decide
theorem tok_sign {x r : List Nat} (hx : x ∈ signL) (hr : blankHead r) : tokR (x ++ r) = some (S x, x) := by
  obtain ⟨c, q, rfl, hc⟩ := hr
  rw [signL_is] at hx
  simp only [List.mem_cons, List.not_mem_nil, or_false] at hx
  rcases hc with rfl | rfl | rfl <;> (rcases hx with rfl | rfl | rfl | rfl | rfl | rfl | rfl | rfl | rfl | rfl | rfl | rfl | rfl | rfl | rfl | rfl | rfl | rfl | rfl | rfl | rfl | rfl | rfl <;> rfl)
theorem key_head : ∀ x ∈ keyL, (∀ y ∈ x, y ∈ tailL) ∧ ∃ h q, x = h :: q ∧ h ∈ lowers ∧ ¬ h ∈ digits := by
  intro x hx
  have h1 : ∀ x ∈ keyL, (x.all fun y => decide (y ∈ tailL)) = true ∧ (match x with | [] => false | h :: _ => decide (h ∈ lowers) && !decide (h ∈ digits)) = true := by decide +kernel
  obtain ⟨a, b⟩ := h1 x hx
  refine ⟨fun y hy => of_decide_eq_true (List.all_eq_true.mp a y hy), ?_⟩
  cases x with
  | nil => cases b
  | cons h q =>
    simp only [Bool.and_eq_true, decide_eq_true_eq, Bool.not_eq_true', decide_eq_false_iff_not] at b
    exact ⟨h, q, rfl, b.1, b.2⟩
/-- a row of tail signs that begins with a letter -/
theorem tok_word {x r : List Nat} {h : Nat} {q : List Nat} (e : x = h :: q) (hl : h ∈ lowers ++ capitals) (hd : ¬ h ∈ digits) (ht : ∀ y ∈ x, y ∈ tailL) (hr : blankHead r) : tokR (x ++ r) = some (nameWord h x, x) := by
  have hrun := runL_app ht (blank_tail hr)
  subst e
  rw [List.cons_append] at hrun ⊢
  show (if h ∈ digits then _ else if h ∈ lowers ++ capitals then some (nameWord h (runL tailL (h :: (q ++ r))), runL tailL (h :: (q ++ r))) else _) = _
  rw [if_neg hd, if_pos hl, hrun]
theorem numL_head : ∀ n : Nat, ∃ d q, TL.numL n = d :: q ∧ d ∈ digits ∧ (10 ≤ n → d ≠ 48) := by
  intro n
  induction n using Nat.strongRecOn with
  | _ n ih =>
    by_cases h : n < 10
    · refine ⟨48 + n, [], TL.numL_lt h, ?_, fun h2 => by omega⟩
      have : ∀ n, n < 10 → 48 + n ∈ digits := by decide
      exact this n h
    · obtain ⟨d, q, e, hd, hz⟩ := ih (n / 10) (by omega)
      refine ⟨d, q ++ [48 + n % 10], by rw [TL.numL_step (by omega), e]; rfl, hd, fun _ => ?_⟩
      by_cases h2 : n / 10 < 10
      · rw [TL.numL_lt h2] at e
        have := (List.cons.inj e).1
        omega
      · exact hz (by omega)
theorem numL_dig {n : Nat} : ∀ y ∈ TL.numL n, y ∈ digits := fun y hy => by
  have h := TL.numL_digits n y hy
  have : ∀ y, y < 58 → 48 ≤ y → y ∈ digits := by decide
  exact this y (by omega) h.1
theorem tok_num {n : Nat} {r : List Nat} (hn : n ≤ 2147483647) (hr : blankHead r) : tokR (TL.numL n ++ r) = some (("int" : Str), TL.numL n) := by
  have hrun := runL_app (numL_dig (n := n)) (blank_digits hr)
  have hok : okNum (TL.numL n) = true := by
    obtain ⟨d, q, e, _, hz⟩ := numL_head n
    have hlen : (TL.numL n).length ≤ 10 := TL.numL_len (by decide) (by omega)
    unfold okNum
    rw [TL.numL_val, decide_eq_true hn, decide_eq_true hlen, Bool.and_true, Bool.and_true]
    by_cases h10 : 10 ≤ n
    · have : decide ((TL.numL n).head? = some 48) = false := decide_eq_false fun z => by
        rw [e] at z
        exact hz h10 (Option.some.inj z)
      rw [this, Bool.and_false]
      rfl
    · have : decide (1 < (TL.numL n).length) = false := decide_eq_false (by rw [TL.numL_lt (by omega)]; show ¬ 1 < 1; decide)
      rw [this]
      rfl
  obtain ⟨d, q, e, hd, _⟩ := numL_head n
  rw [e, List.cons_append] at hrun ⊢
  show (if d ∈ digits then (if okNum (runL digits (d :: (q ++ r))) = true then some (("int" : Str), runL digits (d :: (q ++ r))) else none) else _) = _
  rw [if_pos hd, hrun, ← e, if_pos hok]
theorem name_tail : ∀ y ∈ nameSigns, y ∈ tailL := by decide
theorem xz_key : ∀ nm : List Nat, ¬ ([120, 122] ++ nm) ∈ keyL := fun nm h => by
  have h1 : ∀ x ∈ keyL, x.take 2 ≠ [120, 122] := by decide +kernel
  exact h1 _ h rfl
theorem con_key : ∀ c ∈ conL, ∀ nm : List Nat, ¬ (c ++ nm) ∈ keyL := fun c hc nm h => by
  have h1 : ∀ x ∈ keyL, (match x with | [] => true | a :: _ => decide (a ∈ capitals)) = false := by decide +kernel
  have h2 : ∀ c ∈ conL, (match c with | [] => false | a :: _ => decide (a ∈ capitals)) = true := by decide
  have a := h1 _ h
  have b := h2 c hc
  cases c with
  | nil => cases b
  | cons k q =>
    have a : decide (k ∈ capitals) = false := a
    have b : decide (k ∈ capitals) = true := b
    rw [a] at b
    cases b
theorem con_head : ∀ c ∈ conL, (∀ y ∈ c, y ∈ tailL) ∧ ∃ h q, c = h :: q ∧ h ∈ capitals ∧ ¬ h ∈ lowers ∧ ¬ h ∈ digits := by
  intro c hc
  have h1 : ∀ x ∈ conL, (x.all fun y => decide (y ∈ tailL)) = true ∧ (match x with | [] => false | h :: _ => decide (h ∈ capitals) && (!decide (h ∈ lowers) && !decide (h ∈ digits))) = true := by decide
  obtain ⟨a, b⟩ := h1 c hc
  refine ⟨fun y hy => of_decide_eq_true (List.all_eq_true.mp a y hy), ?_⟩
  cases c with
  | nil => cases b
  | cons h q =>
    simp only [Bool.and_eq_true, decide_eq_true_eq, Bool.not_eq_true', decide_eq_false_iff_not] at b
    exact ⟨h, q, rfl, b.1, b.2.1, b.2.2⟩
theorem tok_good {v : Str} {x r : List Nat} (g : GoodTok v x) (hr : blankHead r) : tokR (x ++ r) = some (v, x) := by
  cases g with
  | sign h => exact tok_sign h hr
  | key h =>
    obtain ⟨ht, a, q, e, h1, h2⟩ := key_head x h
    rw [tok_word e (List.mem_append_left _ h1) h2 ht hr]
    unfold nameWord
    rw [if_pos h]
  | int h => exact tok_num h hr
  | con hc hnm hlen =>
    rename_i c nm
    obtain ⟨ht, a, q, e, h1, h2, h3⟩ := con_head c hc
    have hta : ∀ y ∈ c ++ nm, y ∈ tailL := fun y hy => (List.mem_append.mp hy).elim (ht y) fun h => name_tail y (hnm y h)
    rw [tok_word (h := a) (q := q ++ nm) (by rw [e]; rfl) (List.mem_append_right _ h1) h3 hta hr]
    unfold nameWord
    rw [if_neg (con_key c hc nm), if_neg h2]
  | name hnm hlen =>
    rename_i nm
    have two : ∀ y ∈ [120, 122], y ∈ tailL := by decide
    have hta : ∀ y ∈ [120, 122] ++ nm, y ∈ tailL := fun y hy => (List.mem_append.mp hy).elim (two y) fun h => name_tail y (hnm y h)
    rw [tok_word (x := [120, 122] ++ nm) (h := 120) (q := 122 :: nm) rfl (by decide) (by decide) hta hr]
    unfold nameWord
    rw [if_neg (xz_key nm), if_pos (by decide)]
end K01

namespace K01
open PySem PySem.Spec PyProof.Rows L2 Z
theorem gap_head {g r : List Nat} (hg : g ∈ gapL) : blankHead (g ++ r) := by
  rw [gapL_is] at hg
  simp only [List.mem_cons, List.not_mem_nil, or_false] at hg
  rcases hg with rfl | rfl | rfl | rfl | rfl | rfl | rfl <;> exact ⟨_, _, rfl, by decide⟩
theorem gap_skip {g r : List Nat} (hg : g ∈ gapL) (hr : plainHead r) : skipN false (g ++ r) = g.length := by
  have h0 := skip_plain hr
  rw [gapL_is] at hg
  simp only [List.mem_cons, List.not_mem_nil, or_false] at hg
  rcases hg with rfl | rfl | rfl | rfl | rfl | rfl | rfl <;> simp [skipN, h0]
theorem gap_len {g : List Nat} (hg : g ∈ gapL) : g.length ≤ 30 := by
  have : ∀ g ∈ gapL, g.length ≤ 30 := by decide +kernel
  exact this g hg
theorem good_head {v : Str} {x : List Nat} (g : GoodTok v x) : ∃ c q, x = c :: q ∧ ¬ (c = 32 ∨ c = 10 ∨ c = 35) := by
  cases g with
  | sign h =>
    have : ∀ x ∈ signL, (match x with | [] => false | c :: _ => !decide (c = 32 ∨ c = 10 ∨ c = 35)) = true := by decide +kernel
    have := this x h
    cases x with
    | nil => cases this
    | cons c q => exact ⟨c, q, rfl, by simpa using this⟩
  | key h =>
    obtain ⟨_, a, q, e, h1, h2⟩ := key_head x h
    refine ⟨a, q, e, ?_⟩
    have : ∀ a ∈ lowers, ¬ (a = 32 ∨ a = 10 ∨ a = 35) := by decide
    exact this a h1
  | int h =>
    obtain ⟨d, q, e, hd, _⟩ := numL_head _
    refine ⟨d, q, e, ?_⟩
    have : ∀ a ∈ digits, ¬ (a = 32 ∨ a = 10 ∨ a = 35) := by decide
    exact this d hd
  | con hc hnm hlen =>
    rename_i c nm
    obtain ⟨_, a, q, e, h1, _⟩ := con_head c hc
    refine ⟨a, q ++ nm, by rw [e]; rfl, ?_⟩
    have : ∀ a ∈ capitals, ¬ (a = 32 ∨ a = 10 ∨ a = 35) := by decide
    exact this a h1
  | name hnm hlen => exact ⟨120, _, rfl, by decide⟩
theorem good_len {v : Str} {x : List Nat} (g : GoodTok v x) : x.length ≤ 30 := by
  cases g with
  | sign h =>
    have : ∀ x ∈ signL, x.length ≤ 30 := by decide +kernel
    exact this x h
  | key h =>
    have : ∀ x ∈ keyL, x.length ≤ 30 := by decide +kernel
    exact this x h
  | int h => exact Nat.le_trans (TL.numL_len (k := 10) (by decide) (by omega)) (by decide)
  | con hc hnm hlen =>
    have : ∀ x ∈ conL, x.length ≤ 3 := by decide
    have := this _ hc
    rw [List.length_append]
    omega
  | name hnm hlen =>
    rw [List.length_append]
    show 2 + _ ≤ 30
    omega
theorem good_name {v : Str} {x : List Nat} (g : GoodTok v x) : nameB x = decide (v = ("name" : Str)) ∧ consB x = decide (v = ("constructor" : Str)) := by
  cases g with
  | sign h =>
    have : ∀ x ∈ signL, nameB x = decide (S x = ("name" : Str)) ∧ consB x = decide (S x = ("constructor" : Str)) := by decide +kernel
    exact this x h
  | key h =>
    have : ∀ x ∈ keyL, nameB x = decide (S x = ("name" : Str)) ∧ consB x = decide (S x = ("constructor" : Str)) := by decide +kernel
    exact this x h
  | int h =>
    obtain ⟨d, q, e, hd, _⟩ := numL_head _
    rw [e]
    have h1 : ∀ d ∈ digits, ¬ d ∈ lowers ∧ ¬ d ∈ capitals := by decide
    have := h1 d hd
    unfold nameB consB
    simp only
    rw [decide_eq_false this.1, decide_eq_false this.2, Bool.false_and, Bool.false_and]
    exact ⟨by decide +kernel, by decide +kernel⟩
  | con hc hnm hlen =>
    rename_i c nm
    obtain ⟨ht, a, q, e, h1, h2, h3⟩ := con_head c hc
    have hta : tailB (c ++ nm) = true := List.all_eq_true.mpr fun y hy => decide_eq_true ((List.mem_append.mp hy).elim (ht y) fun h => name_tail y (hnm y h))
    rw [e] at hta ⊢
    unfold nameB consB
    simp only [List.cons_append] at hta ⊢
    rw [decide_eq_false h2, decide_eq_true h1, hta, Bool.false_and, Bool.true_and]
    exact ⟨by decide +kernel, by decide +kernel⟩
  | name hnm hlen =>
    rename_i nm
    have two : ∀ y ∈ [120, 122], y ∈ tailL := by decide
    have hta : tailB ([120, 122] ++ nm) = true := List.all_eq_true.mpr fun y hy => decide_eq_true ((List.mem_append.mp hy).elim (two y) fun h => name_tail y (hnm y h))
    have hk := xz_key nm
    unfold nameB consB
    simp only [List.cons_append, List.nil_append] at hta hk ⊢
    rw [hta, decide_eq_false hk]
    exact ⟨by decide +kernel, by decide +kernel⟩

/-! ### a row of drawn tokens -/
structure Row where
  v : Str
  x : List Nat
  g : List Nat
def Row.ok (e : Row) : Prop := GoodTok e.v e.x ∧ e.g ∈ gapL
def txt : List Row → List Nat
  | [] => []
  | e :: r => e.x ++ e.g ++ txt r
def toks (q : Int × Int) : List Row → List Tk
  | [] => []
  | e :: r => ⟨e.v, e.x, q.1, q.2⟩ :: toks (moved q (e.x ++ e.g)) r
theorem moved_app (q : Int × Int) (a b : List Nat) : moved q (a ++ b) = moved (moved q a) b := List.foldl_append ..
theorem txt_snoc (l : List Row) (e : Row) : txt (l ++ [e]) = txt l ++ (e.x ++ e.g) := by
  induction l with
  | nil => simp [txt]
  | cons f r ih => rw [List.cons_append, txt, ih, txt]; simp only [List.append_assoc]
theorem toks_snoc (q : Int × Int) (l : List Row) (e : Row) : toks q (l ++ [e]) = toks q l ++ [⟨e.v, e.x, (moved q (txt l)).1, (moved q (txt l)).2⟩] := by
  induction l generalizing q with
  | nil => rfl
  | cons f r ih => rw [List.cons_append, toks, ih, toks, txt, moved_app q (f.x ++ f.g), List.cons_append]
theorem toks_len (q : Int × Int) (l : List Row) : (toks q l).length = l.length := by
  induction l generalizing q with
  | nil => rfl
  | cons f r ih => rw [toks, List.length_cons, ih, List.length_cons]
theorem txt_len (l : List Row) (h : ∀ e ∈ l, e.ok) : (txt l).length ≤ 60 * l.length := by
  induction l with
  | nil => exact Nat.le_refl 0
  | cons e r ih =>
    have h1 := good_len (h e List.mem_cons_self).1
    have h2 := gap_len (h e List.mem_cons_self).2
    have := ih fun f hf => h f (List.mem_cons_of_mem _ hf)
    rw [txt, List.length_append, List.length_append, List.length_cons]
    omega
theorem txt_head {l : List Row} {tail : List Nat} (h : ∀ e ∈ l, e.ok) (ht : plainHead tail) : plainHead (txt l ++ tail) := by
  cases l with
  | nil => exact ht
  | cons e r =>
    obtain ⟨c, q, e1, hc⟩ := good_head (h e List.mem_cons_self).1
    refine .inr ⟨c, q ++ e.g ++ txt r ++ tail, ?_, hc⟩
    rw [txt, e1]
    simp [List.append_assoc]
theorem posn_pre (pre rest : List Nat) : posn (pre ++ rest) pre.length = moved (1, 1) pre := by
  unfold posn
  rw [List.take_left' rfl]
theorem lex_row : ∀ (l : List Row) (pre tail : List Nat) (n : Nat) (res : Option (List Tk)), (∀ e ∈ l, e.ok) → plainHead tail → Lex (pre ++ (txt l ++ tail)) n (pre.length + (txt l).length) res →
    Lex (pre ++ (txt l ++ tail)) (n + l.length) pre.length (res.map fun r => toks (moved (1, 1) pre) l ++ r)
  | [], pre, tail, n, res, _, _, h => by
    have e : (res.map fun r => toks (moved (1, 1) pre) [] ++ r) = res := by cases res <;> rfl
    rw [e]
    exact h
  | e :: l, pre, tail, n, res, hok, ht, h => by
    have hok2 : ∀ f ∈ l, f.ok := fun f hf => hok f (List.mem_cons_of_mem _ hf)
    have he := hok e List.mem_cons_self
    have hrest := txt_head hok2 ht
    have et : pre ++ (txt (e :: l) ++ tail) = (pre ++ (e.x ++ e.g)) ++ (txt l ++ tail) := by
      rw [txt]
      simp [List.append_assoc]
    have el : pre.length + (txt (e :: l)).length = (pre ++ (e.x ++ e.g)).length + (txt l).length := by
      rw [txt]
      simp only [List.length_append]
      omega
    rw [et, el] at h
    have ih := lex_row l (pre ++ (e.x ++ e.g)) tail n res hok2 ht h
    have d1 : (pre ++ (txt (e :: l) ++ tail)).drop pre.length = e.x ++ (e.g ++ (txt l ++ tail)) := by
      rw [List.drop_left' rfl, txt]
      simp [List.append_assoc]
    have d2 : (pre ++ (txt (e :: l) ++ tail)).drop (pre.length + e.x.length) = e.g ++ (txt l ++ tail) := by
      rw [← List.drop_drop, d1, List.drop_left' rfl]
    have hx : 0 < e.x.length := by
      obtain ⟨c, q, e1, _⟩ := good_head he.1
      rw [e1]
      exact Nat.succ_pos _
    have hlen : (pre ++ (txt (e :: l) ++ tail)).length = pre.length + e.x.length + e.g.length + (txt l).length + tail.length := by
      rw [txt]
      simp only [List.length_append]
      omega
    have hsk := gap_skip he.2 hrest
    have hp : posn (pre ++ (txt (e :: l) ++ tail)) pre.length = moved (1, 1) pre := posn_pre _ _
    have step := Lex.tok (t := pre ++ (txt (e :: l) ++ tail)) (n := n + l.length) (p := pre.length) (v := e.v) (x := e.x) (res := res.map fun r => toks (moved (1, 1) (pre ++ (e.x ++ e.g))) l ++ r)
      (by rw [hlen]; omega) (by rw [d1]; exact tok_good he.1 (gap_head he.2)) (by rw [hlen]; omega) (by rw [d2, hsk, hlen]; omega)
      (by
        rw [d2, hsk, et]
        have : pre.length + e.x.length + e.g.length = (pre ++ (e.x ++ e.g)).length := by
          simp only [List.length_append]
          omega
        rw [this]
        exact ih)
    rw [List.length_cons, ← Nat.add_assoc]
    have eres : ((res.map fun r => toks (moved (1, 1) (pre ++ (e.x ++ e.g))) l ++ r).map fun r => tkAt (pre ++ (txt (e :: l) ++ tail)) pre.length e.v e.x :: r) = res.map fun r => toks (moved (1, 1) pre) (e :: l) ++ r := by
      cases res with
      | none => rfl
      | some r =>
        show some (tkAt _ _ _ _ :: (toks (moved (1, 1) (pre ++ (e.x ++ e.g))) l ++ r)) = some (toks (moved (1, 1) pre) (e :: l) ++ r)
        rw [toks, moved_app]
        unfold tkAt
        rw [hp]
        rfl
    rw [← eres]
    exact step
end K01

namespace K01
open PySem PySem.Spec PyProof.Rows L2 Z
theorem lex_all (l : List Row) (h : ∀ e ∈ l, e.ok) : Lex (txt l) l.length 0 (some (toks (1, 1) l ++ [⟨"end of text", [], (moved (1, 1) (txt l)).1, (moved (1, 1) (txt l)).2⟩])) := by
  have hd : Lex ([] ++ (txt l ++ [])) 0 (([] : List Nat).length + (txt l).length) (some [tkAt ([] ++ (txt l ++ [])) (([] : List Nat).length + (txt l).length) "end of text" []]) := Lex.done (by simp)
  have := lex_row l [] [] 0 _ h (.inl rfl) hd
  simp only [List.nil_append, List.append_nil, List.length_nil, Nat.zero_add, Option.map_some] at this
  have e : posn (txt l) (txt l).length = moved (1, 1) (txt l) := by
    have := posn_pre (txt l) []
    rw [List.append_nil] at this
    exact this
  unfold tkAt at this
  rw [e] at this
  exact this
structure BadT (b : List Nat) : Prop where
  head : plainHead b
  len : b.length ≤ 40
  lex : ∀ pre : List Nat, ∃ n, n ≤ 1 ∧ Lex (pre ++ b) n pre.length none
theorem bad_of {b : List Nat} (h1 : (match b with | [] => false | c :: _ => !decide (c = 32 ∨ c = 10 ∨ c = 35)) = true) (h2 : b.length ≤ 40) (h3 : tokR b = none) : BadT b := by
  cases b with
  | nil => cases h1
  | cons c q =>
    refine ⟨.inr ⟨c, q, rfl, by simpa using h1⟩, h2, fun pre => ⟨0, Nat.zero_le 1, Lex.bad ?_ ?_⟩⟩
    · rw [List.length_append, List.length_cons]
      omega
    · rw [List.drop_left' rfl]
      exact h3
theorem bad_pipe : BadT [124, 38] := by
  refine ⟨.inr ⟨124, [38], rfl, by decide⟩, by decide, fun pre => ⟨1, Nat.le_refl 1, ?_⟩⟩
  have d1 : (pre ++ [124, 38]).drop pre.length = [124, 38] := List.drop_left' rfl
  have d2 : (pre ++ [124, 38]).drop (pre.length + 1) = [38] := by rw [← List.drop_drop, d1]; rfl
  have hl : (pre ++ [124, 38]).length = pre.length + 2 := by rw [List.length_append]; rfl
  have := Lex.tok (t := pre ++ [124, 38]) (n := 0) (p := pre.length) (v := S [124]) (x := [124]) (res := none) (by omega) (by rw [d1]; rfl) (by show pre.length + 1 ≤ _; omega)
    (by show pre.length + 1 + skipN false ((pre ++ [124, 38]).drop (pre.length + 1)) ≤ _; rw [d2]; show pre.length + 1 + 0 ≤ _; omega)
    (by show Lex _ 0 (pre.length + 1 + skipN false ((pre ++ [124, 38]).drop (pre.length + 1))) none; rw [d2]; exact Lex.bad (by show pre.length + 1 + 0 < _; omega) (by show tokR ((pre ++ [124, 38]).drop (pre.length + 1 + 0)) = none; rw [Nat.add_zero, d2]; rfl))
  exact this
theorem bad_zero {r : Nat} (h : r < 10) : BadT (48 :: TL.numL r) := by
  have : ∀ r, r < 10 → tokR [48, 48 + r] = none := by decide +kernel
  rw [TL.numL_lt h]
  exact bad_of (rfl : !decide (48 = 32 ∨ 48 = 10 ∨ 48 = 35) = true) (by show 2 ≤ 40; decide) (this r h)
theorem bad_big {r : Nat} (h : r < 50) : BadT ([50, 49, 52, 55, 52, 56, 51, 54] ++ TL.numL (48 + r)) := by
  have h1 : ∀ r, r < 50 → tokR ([50, 49, 52, 55, 52, 56, 51, 54] ++ [48 + (48 + r) / 10, 48 + (48 + r) % 10]) = none := by decide +kernel
  have e : TL.numL (48 + r) = [48 + (48 + r) / 10, 48 + (48 + r) % 10] := by
    rw [TL.numL_step (by omega), TL.numL_lt (by omega)]
    rfl
  rw [e]
  exact bad_of rfl (by show 10 ≤ 40; decide) (h1 r h)
theorem bad_nines {r : Nat} (h : r < 20) : BadT (List.replicate (11 + r) 57) := by
  have h1 : ∀ r, r < 20 → tokR (List.replicate (11 + r) 57) = none := by decide +kernel
  have h2 : ∀ r, r < 20 → (match List.replicate (11 + r) 57 with | [] => false | c :: _ => !decide (c = 32 ∨ c = 10 ∨ c = 35)) = true := by decide +kernel
  exact bad_of (h2 r h) (by rw [List.length_replicate]; omega) (h1 r h)
theorem mul_nines {r : Nat} (h : r < 20) : Txt.mul ("9" : Str) ((11 + r : Nat) : Int) = S (List.replicate (11 + r) 57) := by
  have h1 : ∀ r, r < 20 → Txt.mul ("9" : Str) ((11 + r : Nat) : Int) = S (List.replicate (11 + r) 57) := by decide +kernel
  exact h1 r h
theorem bad_36 : BadT [36] := bad_of (by decide) (by decide) (by decide +kernel)
theorem bad_38 : BadT [38] := bad_of (by decide) (by decide) (by decide +kernel)
theorem bad_58 : BadT [58] := bad_of (by decide) (by decide) (by decide +kernel)
theorem bad_46 : BadT [46] := bad_of (by decide) (by decide) (by decide +kernel)
theorem bad_64 : BadT [64] := bad_of (by decide) (by decide) (by decide +kernel)
theorem bad_39 : BadT [39] := bad_of (by decide) (by decide) (by decide +kernel)
theorem lex_bad {l : List Row} {b : List Nat} (h : ∀ e ∈ l, e.ok) (hb : BadT b) : ∃ n, n ≤ l.length + 1 ∧ Lex (txt l ++ b) n 0 none := by
  obtain ⟨n, hn, hL⟩ := hb.lex (txt l)
  have := lex_row l [] b n none h hb.head (by simpa using hL)
  exact ⟨n + l.length, by omega, by simpa using this⟩
theorem tail_dollar (l : List Nat) : tailB (l ++ [36]) = false := by
  unfold tailB
  rw [List.all_append]
  have : ([36] : List Nat).all (fun c => decide (c ∈ tailL)) = false := by decide
  rw [this, Bool.and_false]
theorem tok_ab : tokR [97, 98] = some (("name" : Str), [97, 98]) := by decide +kernel
end K01

namespace K01
open PySem PySem.Spec PyProof.Rows L2 Z
theorem strOk_S {x : List Nat} (h : ∀ y ∈ x, y < 1114112) : PyData.strOk (S x) = true := by
  unfold PyData.strOk
  rw [← Array.all_toList, S_cps, List.all_eq_true]
  exact fun y hy => decide_eq_true (h y hy)
theorem tail_small : ∀ y ∈ tailL, y < 1114112 := by decide
theorem good_ok {v : Str} {x : List Nat} (g : GoodTok v x) : PyData.strOk v = true ∧ PyData.strOk (S x) = true := by
  cases g with
  | sign h =>
    have : ∀ x ∈ signL, PyData.strOk (S x) = true := by decide +kernel
    exact ⟨this x h, this x h⟩
  | key h =>
    have : ∀ x ∈ keyL, PyData.strOk (S x) = true := by decide +kernel
    exact ⟨this x h, this x h⟩
  | int h => exact ⟨by decide +kernel, strOk_S fun y hy => by have := TL.numL_digits _ y hy; omega⟩
  | con hc hnm hlen =>
    obtain ⟨ht, _⟩ := con_head _ hc
    exact ⟨by decide +kernel, strOk_S fun y hy => tail_small y ((List.mem_append.mp hy).elim (ht y) fun h => name_tail y (hnm y h))⟩
  | name hnm hlen =>
    have two : ∀ y ∈ [120, 122], y ∈ tailL := by decide
    exact ⟨by decide +kernel, strOk_S fun y hy => tail_small y ((List.mem_append.mp hy).elim (two y) fun h => name_tail y (hnm y h))⟩
def tkD (k : Tk) : D := .tup [.str k.w, .str (S k.x), .int k.l, .int k.c]
def tkP (k : Tk) : PyData := .tuple [.str k.w, .str (S k.x), .int k.l, .int k.c]
def okTk (k : Tk) : Prop := PyData.strOk k.w = true ∧ PyData.strOk (S k.x) = true
theorem pd_tk (k : Tk) : pd (tkD k) = some (tkP k) := rfl
theorem pds_tk : ∀ ks : List Tk, pds (ks.map tkD) = some (ks.map tkP)
  | [] => rfl
  | k :: r => by
    rw [List.map_cons, List.map_cons]
    unfold pds
    rw [pd_tk, pds_tk r]
theorem pds_str : ∀ xs : List Str, pds (xs.map D.str) = some (xs.map PyData.str)
  | [] => rfl
  | x :: r => by
    rw [List.map_cons, List.map_cons]
    unfold pds
    rw [pds_str r]
    rfl
theorem can_tk {k : Tk} (h : okTk k) : (tkP k).canLay0 = true := by
  simp only [tkP, PyData.canLay0, PyData.canLayAll0, h.1, h.2, Bool.and_true]
theorem depth_tk (k : Tk) : (tkP k).depth = 1 := rfl
theorem can_all : ∀ ps : List PyData, (∀ p ∈ ps, p.canLay0 = true) → PyData.canLayAll0 ps = true
  | [], _ => rfl
  | p :: r, h => by
    rw [PyData.canLayAll0, h p List.mem_cons_self, can_all r fun q hq => h q (List.mem_cons_of_mem _ hq)]
    rfl
theorem depth_all : ∀ ps : List PyData, (∀ p ∈ ps, p.depth ≤ 1) → PyData.depthAll ps ≤ 1
  | [], _ => Nat.zero_le 1
  | p :: r, h => by
    rw [PyData.depthAll]
    have h1 := h p List.mem_cons_self
    have h2 := depth_all r fun q hq => h q (List.mem_cons_of_mem _ hq)
    omega
theorem shaped_of {ps : List PyData} (h : ∀ p ∈ ps, p.canLay0 = true ∧ p.depth ≤ 1) : SeqAt.shaped (.list ps) = true := by
  show (PyData.canLay0 (.list ps) && decide (PyData.depth (.list ps) ≤ 64)) = true
  rw [Bool.and_eq_true]
  refine ⟨?_, decide_eq_true ?_⟩
  · rw [PyData.canLay0]
    exact can_all ps fun p hp => (h p hp).1
  · rw [PyData.depth]
    have := depth_all ps fun p hp => (h p hp).2
    omega
theorem eqv_self {ps : List PyData} (h : ∀ p ∈ ps, p.canLay0 = true ∧ p.depth ≤ 1) : PyData.eqv (.list ps) (.list ps) = true :=
  SeqAt.eqv_refl _ (by rw [PyData.canLay0]; exact can_all ps fun p hp => (h p hp).1)
theorem toks_ok {l : List Row} (h : ∀ e ∈ l, e.ok) : ∀ q : Int × Int, ∀ k ∈ toks q l, okTk k ∧ nameB k.x = decide (k.w = ("name" : Str)) ∧ consB k.x = decide (k.w = ("constructor" : Str)) ∧ k.x.length ≤ 30 := by
  induction l with
  | nil => exact fun q k hk => (List.not_mem_nil hk).elim
  | cons e r ih =>
    intro q k hk
    rw [toks] at hk
    rcases List.mem_cons.mp hk with rfl | hk
    · have he := (h e List.mem_cons_self).1
      exact ⟨good_ok he, (good_name he).1, (good_name he).2, good_len he⟩
    · exact ih (fun f hf => h f (List.mem_cons_of_mem _ hf)) _ k hk
/-- two lists at two addresses, alike -/
theorem ne_alike {p q : Addr} {ds : List D} {ps : List PyData} {G : Gp} {Q : DK} (hp : G p = some (.lst ds)) (hq : G q = some (.lst ds)) (hd : pds ds = some ps) (h : ∀ x ∈ ps, x.canLay0 = true ∧ x.depth ≤ 1) (k : Q (.bl false) G) : dNe (.ref p) (.ref q) G Q := by
  have e1 : pdT G (.ref p) = some (.list ps) := by
    unfold pdT
    simp only
    rw [hp]
    show (pds ds).map PyData.list = _
    rw [hd]
    rfl
  have e2 : pdT G (.ref q) = some (.list ps) := by
    unfold pdT
    simp only
    rw [hq]
    show (pds ds).map PyData.list = _
    rw [hd]
    rfl
  unfold dNe
  rw [e1, e2]
  simp only
  rw [eqv_self h]
  exact ⟨shaped_of h, shaped_of h, k⟩
theorem ne_same {k : Tk} (h : okTk k) {G : Gp} {Q : DK} (q : Q (.bl false) G) : dNe (tkD k) (tkD k) G Q := by
  have e : pdT G (tkD k) = some (tkP k) := rfl
  unfold dNe
  rw [e]
  simp only
  rw [SeqAt.eqv_refl _ (can_tk h)]
  have s : SeqAt.shaped (tkP k) = true := by
    show ((tkP k).canLay0 && decide ((tkP k).depth ≤ 64)) = true
    rw [can_tk h, depth_tk]
    rfl
  exact ⟨s, s, q⟩
theorem lc_shown {CT tq : Addr} {ρ : ZSt} {G : Gp} {Q : DK} {as : List Addr} {ks : List Tk} (hv : ρ[10]? = some (some (.ref tq))) (hl : 11 < ρ.length) (htq : G tq = some (.lst (as.map .ref))) (htk : Toks CT G as ks) (hk : ks.length ≤ 1001)
    (hq : ∀ p G', G p = none → At G p (.lst (ks.map tkD)) G' → Q (.ref p) G') : zLc (zList (zVar 10)) (zName 11) zYes (zMeth CT "shown" (spShown CT) X0 (zVar 11) zNil) [11] ρ G Q := by
  simp only [zLc, zList]
  rw [run_var' hv]
  simp only [htq]
  refine ⟨fun i acc G' => G' = G ∧ acc = (ks.take i).map tkD, ⟨rfl, rfl⟩, ?_, ?_⟩
  · rintro i d acc G' hi ⟨rfl, rfl⟩
    have hia : i < as.length := by
      have := (List.getElem?_eq_some_iff.mp hi).1
      rwa [List.length_map] at this
    have hik : i < ks.length := by rw [← htk.1]; exact hia
    rw [List.getElem?_map, List.getElem?_eq_getElem hia] at hi
    cases Option.some.inj hi
    obtain ⟨dx, hobj⟩ := htk.2 i as[i] ks[i] (List.getElem?_eq_getElem hia) (List.getElem?_eq_getElem hik)
    have big : 1000000 ≤ sizeLine := by decide
    refine ⟨htq, by rw [List.length_map, List.length_take]; omega, ?_⟩
    simp only [zName, zYes, if_true, zMeth]
    refine run_var (d := .ref as[i]) (by
      show ((ρ.set 11 none).set 11 _)[11]? = _
      rw [List.getElem?_set_self (by rw [List.length_set]; exact hl)]) ?_
    simp only [hobj, tkO, tm1, zNil, true_and]
    refine ⟨as[i], dx, _, _, _, _, rfl, hobj, ?_⟩
    rw [List.take_add_one, List.getElem?_eq_getElem hik, List.map_append]
    exact ⟨rfl, rfl⟩
  · rintro acc G' ⟨rfl, rfl⟩
    refine ⟨htq, fun p G2 np h2 => ?_⟩
    rw [List.length_map, htk.1, List.take_length] at h2
    exact hq p G2 np h2
theorem lc_rows {u : Addr} {ρ : ZSt} {G : Gp} {Q : DK} {ks : List Tk} (hv : ρ[5]? = some (some (.ref u))) (hl : 12 < ρ.length) (hu : G u = some (.lst (ks.map tkD))) (hk : ks.length ≤ 1001) (hne : 1 ≤ ks.length)
    (hq : ∀ p G', Ext G G' → G' p = some (.lst (ks.dropLast.map fun k => .str (S k.x))) → Q (.ref p) G') :
    zLc (zList (zSl dSlL (zVar 5) zNoP (zPart (zOp (dI0 fun i j => .int (i - j)) (zCB fLen (zCons (zVar 5) zNil)) (zC (.int 1)))))) (zName 12) zYes (zOp dIx (zVar 12) (zC (.int 1))) [12] ρ G Q := by
  have big : 1000000 ≤ sizeLine := by decide
  simp only [zLc, zList, zSl, zNoP, zPart, zOp, zCB, zCons, zNil, zC]
  rw [run_var' hv, run_var' hv]
  have e1 : fLen [.ref u] G = fun Q => Q (.int ((ks.map tkD).length : Nat)) G := by
    funext Q
    simp only [fLen, seqD, hu]
  rw [e1]
  simp only [dI0_e, dSlL, hu]
  intro p G1 np h1
  have up : u ≠ p := fun z => by rw [← z, hu] at np; cases np
  have ec : Z.cutD (ks.map tkD) none (some (((ks.map tkD).length : Int) - 1)) = ks.dropLast.map tkD := by
    unfold Z.cutD
    rw [List.length_map, HT.sIx_none, show ((ks.length : Int) - 1) = ((ks.length - 1 : Nat) : Int) by omega, HT.sIx_nat, Nat.sub_zero, List.drop_zero, Nat.min_eq_left (Nat.sub_le _ _), List.dropLast_eq_take, List.map_take]
  rw [ec] at h1
  simp only [h1.is]
  refine ⟨fun i acc G' => G' = G1 ∧ acc = (ks.dropLast.take i).map fun k => D.str (S k.x), ⟨rfl, rfl⟩, ?_, ?_⟩
  · rintro i d acc G' hi ⟨rfl, rfl⟩
    rw [List.getElem?_map] at hi
    cases e2 : ks.dropLast[i]? with
    | none => rw [e2] at hi; cases hi
    | some k =>
      rw [e2] at hi
      cases Option.some.inj hi
      refine ⟨h1.is, by rw [List.length_map, List.length_take, List.length_dropLast]; omega, ?_⟩
      simp only [zName, zYes, if_true]
      refine run_var (d := tkD k) (by
        show ((ρ.set 12 none).set 12 _)[12]? = _
        rw [List.getElem?_set_self (by rw [List.length_set]; exact hl)]) ?_
      show G' = G' ∧ (List.map (fun k => D.str (S k.x)) (List.take i ks.dropLast) ++ [D.str (S k.x)]) = _
      refine ⟨rfl, ?_⟩
      rw [List.take_add_one, e2, List.map_append]
      rfl
  · rintro acc G' ⟨rfl, rfl⟩
    refine ⟨h1.is, fun q G2 nq h2 => ?_⟩
    rw [List.length_map, List.take_length] at h2
    exact hq q G2 ((h1.ext np).trans (h2.ext nq)) h2.is
theorem end_ok (l c : Int) : okTk ⟨"end of text", [], l, c⟩ ∧ nameB [] = decide (("end of text" : Str) = ("name" : Str)) ∧ consB [] = decide (("end of text" : Str) = ("constructor" : Str)) ∧ ([] : List Nat).length ≤ 30 := by
  have a : PyData.strOk "end of text" = true := by decide +kernel
  have b : PyData.strOk (S []) = true := by decide +kernel
  exact ⟨⟨a, b⟩, by decide +kernel, by decide +kernel, Nat.zero_le 30⟩
theorem eq_same {k : Tk} (h : okTk k) {G : Gp} {Q : DK} (q : Q (.bl true) G) : dEq (tkD k) (tkD k) G Q := by
  have e : pdT G (tkD k) = some (tkP k) := rfl
  unfold dEq
  rw [e]
  simp only
  rw [SeqAt.eqv_refl _ (can_tk h)]
  have s : SeqAt.shaped (tkP k) = true := by
    show ((tkP k).canLay0 && decide ((tkP k).depth ≤ 64)) = true
    rw [can_tk h, depth_tk]
    rfl
  exact ⟨s, s, q⟩
theorem ab_ok : okTk ⟨"name", [97, 98], 1, 1⟩ := by
  have a : PyData.strOk "name" = true := by decide +kernel
  have b : PyData.strOk (S [97, 98]) = true := by decide +kernel
  exact ⟨a, b⟩
theorem five_ok : okTk ⟨"int", [53], 1, 2⟩ := by
  have a : PyData.strOk "int" = true := by decide +kernel
  have b : PyData.strOk (S [53]) = true := by decide +kernel
  exact ⟨a, b⟩
theorem end_checks : tailB [97, 90, 95, 57] = true ∧ tailB [] = true ∧ nameB [] = false ∧ consB [97] = false := by decide +kernel
theorem zTest_op {z : Z2} {ta tb : DE} {ρ : ZSt} {G : Gp} {R : Bool → Gp → Prop} (h : ta ρ G fun d G1 => tb ρ G1 fun e G2 => z d e G2 fun v G3 => match v with
    | .bl b => R b G3
    | _ => False) : zTest (zOp z ta tb) ρ G R := h
theorem zMeth_at {C : Addr} {m : Str} {z : ZSp} {E0 : XKz} {to : DE} {ρ : ZSt} {G : Gp} {Q : DK} (h : to ρ G fun d G1 => match d with
    | .ref a => (match G1 a with
      | some (.obj C' _ fs) => C' = C ∧ fs.lookup m = none ∧ z [.ref a] G1 Q E0
      | _ => False)
    | _ => False) : zMeth C m z E0 to zNil ρ G Q := h
theorem zC_run {d : D} {ρ : ZSt} {G : Gp} {R : DK} (h : R d G) : zC d ρ G R := h
theorem eq_run {i j : Str} {G : Gp} {Q : DK} (q : Q (.bl (decide (i = j))) G) : dEqF false (.str i) (.str j) G Q := by
  rw [dEqF_s, Bool.false_bne]
  exact q
end K01

namespace K01
open PySem PySem.Spec PyProof.Rows L2 Z
theorem s_for {zi : DI} {g : DG} {tb u : DS} {Z : ZEnds} {ρ : ZSt} {G : Gp} (h : zi ρ G fun items live G1 => ∃ P : Nat → ZSt → Gp → Prop, P 0 ρ G1 ∧
    (∀ i d ρ' G', items[i]? = some d → P i ρ' G' → live G' ∧ g d ρ' G' fun ρ2 G2 => tb { nx := P (i + 1), ct := P (i + 1), bk := u Z, rt := Z.rt } ρ2 G2) ∧ ∀ ρ' G', P items.length ρ' G' → live G' ∧ u Z ρ' G') : zSeq (zFor zi g tb) u Z ρ G := h
/-- two names from a pair -/
theorem s_two {te : DE} {u : DS} {Z : ZEnds} {ρ : ZSt} {G : Gp} {i j : Nat} (h : te ρ G fun d G1 => ∃ x y, d = .tup [x, y] ∧ u Z ((ρ.set i (some x)).set j (some y)) G1) (hm : ∀ (Q R : DK), (∀ d G', Q d G' → R d G') → te ρ G Q → te ρ G R) :
    zSeq (zAsg te (zgTup 2 (zgCons (zName i) (zgCons (zName j) zgNil)))) u Z ρ G := by
  refine s_asgG (hm _ _ (fun d G' hd => ?_) h)
  obtain ⟨x, y, rfl, hu⟩ := hd
  exact ⟨rfl, rfl, hu⟩
structure Told (K : PySem.W.Frag) (mg : Str → Option Value) (g : Addr) (oc kV doc pm cdv ct : Value) (od an : Option Addr) (osl : Array (Option Value)) : Prop where
  gm : mg "_law_told" = some (.ref g)
  kp : PySem.W.keepIn K (.ref g) = true
  lk : K.lookup g = some ⟨oc, od, .func (PySem.W.fnOf "_law_told" "_law_told" (defArgs s__law_told) (defBody s__law_told) (defScope s__law_told) .none kV doc pm an cdv ct), osl⟩
  cd : PySem.W.codeIn K cdv "_law_told" = true
  bd : L2.Binds K (PySem.W.fnOf "_law_told" "_law_told" (defArgs s__law_told) (defBody s__law_told) (defScope s__law_told) .none kV doc pm an cdv ct) ["what"] []
def qLam : Str := (envOfC "law" (defScope s_law) 0 0 .none).qual ++ "<lambda>"
def spLaw : ZSp := fun ds G Q _ => ∃ (sD : D) (ns : List Int), ds = [sD] ∧ isScript G sD ns ∧ ∀ G', Q (.bl true) G'
section
variable [τ : Tbl] {P : Program} {w : World} {K : PySem.W.Frag} {mg : Str → Option Value} {base : Heap} {CT CL CE CU aK aS : Addr}
theorem ok_Law {f c PL g : Addr} {oc kV doc pm ct oc2 kV2 doc2 pm2 cdv2 ct2 : Value} {od an od2 an2 : Option Addr} {osl osl2 : Array (Option Value)}
    (lk : K.lookup f = some ⟨oc, od, .func (PySem.W.fnOf "law" "law" (defArgs s_law) (defBody s_law) (defScope s_law) .none kV doc pm an (.ref c) ct), osl⟩) (hcd : PySem.W.codeIn K (.ref c) "law" = true) (T : Txt K mg CT CL CE CU aK aS)
    (TTd : Told K mg g oc2 kV2 doc2 pm2 cdv2 ct2 od2 an2 osl2) (TBL : LamX.TabB base mg c PL) (hmL : (PL, qLam) ∈ τ.T) (huL : ∀ p ∈ τ.T, p.1 = PL → p.2 = qLam)
    (D__law_rounds : Dfn P w K mg base "_law_rounds" 2 ["script", "most"] spRounds) (D__law_roll : Dfn P w K mg base "_law_roll" 1 ["dice", "many"] spRoll) (D__law_token : Dfn P w K mg base "_law_token" 2 ["dice"] spLTok) (D__law_gap : Dfn P w K mg base "_law_gap" 2 ["dice"] spGap)
    (D__law_moved : Dfn P w K mg base "_law_moved" 1 ["text", "line", "column"] spMoved) (D_tokenize : Dfn P w K mg base "tokenize" 7 ["text"] (spTokenize CT CE)) (D_words_of : Dfn P w K mg base "words_of" 8 ["text"] (spWords CT))
    (D_is_name : Dfn P w K mg base "is_name" 2 ["text"] spIsName) (D_is_constructor : Dfn P w K mg base "is_constructor" 2 ["text"] spIsCons) (D_is_tail : Dfn P w K mg base "is_tail" 1 ["text"] spTail)
    (D_Token_shown : Mtd P w K mg base CT "shown" 1 ["self"] (spShown CT)) (D_Token___init__ : Ini P w K mg base CT 1 ["self", "word", "text", "line", "column"] (spTokenI CT)) (D_Lexer___init__ : Ini P w K mg base CL 1 ["self", "text"] (spLexerI CL))
    (D_Lexer_skip_blanks : Mtd P w K mg base CL "skip_blanks" 3 ["self"] (spSkip CL)) (D_Lexer_token : Mtd P w K mg base CL "token" 6 ["self"] (spToken CL CT CE)) :
    FnOk P w K mg base (L2.CX P w) 11 f (PySem.W.fnOf "law" "law" (defArgs s_law) (defBody s_law) (defScope s_law) .none kV doc pm an (.ref c) ct) ["script"] (upSp K spLaw) :=
  z_fnC lk hcd sc_law (fun ds G Q E h => by obtain ⟨sD, ns, rfl, _⟩ := h; rfl) fun bas A outer s H E hr ds G Q E0 hE hz => by
    obtain ⟨sD, ns, rfl, hs, hq⟩ := hz
    refine ⟨_, (zs_cons (z_for (passes_of (by rfl)) rfl (zi_list (z_dc0 D__law_rounds hr (by decide) (by rfl) (za_cons (z_var 0) (za_cons z_int za_nil)))) (zg_name (i := 1) sc_law.nd rfl (Or.inl rfl)) (zs_cons (z_asg (z_tup (za_cons z_str (za_cons z_int (za_cons z_int (za_cons (z_lst za_nil) za_nil))))) (zg_tup rfl (zgs_cons (zg_name (i := 2) sc_law.nd rfl (Or.inr rfl)) (zgs_cons (zg_name (i := 3) sc_law.nd rfl (Or.inl rfl)) (zgs_cons (zg_name (i := 4) sc_law.nd rfl (Or.inl rfl)) (zgs_cons (zg_name (i := 5) sc_law.nd rfl (Or.inl rfl)) zgs_nil)))))) (zs_cons (z_for (passes_of (by rfl)) rfl (zi_rng1 (by rfl) T.z_range (za_cons (z_dc0 D__law_roll hr (by decide) (by rfl) (za_cons (z_var 1) (za_cons z_int za_nil))) za_nil)) (zg_name (i := 6) sc_law.nd rfl (Or.inl rfl)) (zs_cons (z_asg (z_dc0 D__law_token hr (by decide) (by rfl) (za_cons (z_var 1) za_nil)) (zg_tup rfl (zgs_cons (zg_name (i := 7) sc_law.nd rfl (Or.inl rfl)) (zgs_cons (zg_name (i := 8) sc_law.nd rfl (Or.inl rfl)) zgs_nil)))) (zs_cons (z_expr (z_bm PySem.F.plainAttrs_list PySem.F.slot_list_append PySem.F.type_list_append zm_append (z_var 5) (za_cons (z_tup (za_cons (z_var 7) (za_cons (z_var 8) (za_cons (z_var 3) (za_cons (z_var 4) za_nil))))) za_nil))) (zs_cons (z_set (i := 9) sc_law.nd rfl (Or.inl rfl) (z_dc0 D__law_gap hr (by decide) (by rfl) (za_cons (z_var 1) za_nil))) (zs_cons (z_set (i := 2) sc_law.nd rfl (Or.inr rfl) (z_op zo_catS (z_op zo_catS (z_var 2) (z_var 8)) (z_var 9))) (zs_cons (z_asg (z_dc0 D__law_moved hr (by decide) (by rfl) (za_cons (z_op zo_catS (z_var 8) (z_var 9)) (za_cons (z_var 3) (za_cons (z_var 4) za_nil)))) (zg_tup rfl (zgs_cons (zg_name (i := 3) sc_law.nd rfl (Or.inl rfl)) (zgs_cons (zg_name (i := 4) sc_law.nd rfl (Or.inl rfl)) zgs_nil)))) zs_nil)))))) (zs_cons (z_expr (z_bm PySem.F.plainAttrs_list PySem.F.slot_list_append PySem.F.type_list_append zm_append (z_var 5) (za_cons (z_tup (za_cons z_str (za_cons z_str (za_cons (z_var 3) (za_cons (z_var 4) za_nil))))) za_nil))) (zs_cons (z_set (i := 10) sc_law.nd rfl (Or.inl rfl) (z_dc0 D_tokenize hr (by decide) (by rfl) (za_cons (z_var 2) za_nil))) (zs_cons (z_if (zw_t (zw_or (z_tcmp (zo_ne hr.units) (z_lc (own := [("token", 11)]) rfl sc_law.nd (zi_list (z_var 10)) (blkOk_by (by rfl)) (grel_name (by decide)) (fun _ _ _ _ _ => (pg_name (i := 11) sc_law.nd rfl (Or.inl rfl))) (fun _ _ _ _ _ => zts_nil) (fun _ _ _ _ _ => (z_mm0 T.c_Token D_Token_shown hr (by decide) (z_var 11)))) (z_var 5)) (zw_or1 (z_tcmp (zo_ne hr.units) (z_dc0 D_words_of hr (by decide) (by rfl) (za_cons (z_var 2) za_nil)) (z_lc (own := [("row", 12)]) rfl sc_law.nd (zi_list (z_slice zsl_list (z_var 5) zo_none (zo_some (z_op zo_sub (z_callB zf_len (by rfl) T.z_len (by rfl) (za_cons (z_var 5) za_nil)) z_int)))) (blkOk_by (by rfl)) (grel_name (by decide)) (fun _ _ _ _ _ => (pg_name (i := 12) sc_law.nd rfl (Or.inl rfl))) (fun _ _ _ _ _ => zts_nil) (fun _ _ _ _ _ => (z_ix (z_var 12) z_int))))))) (zs_one (z_ret z_bl)) zs_nil) (zs_cons (z_for (passes_of (by rfl)) rfl (zi_list (z_var 10)) (zg_name (i := 11) sc_law.nd rfl (Or.inl rfl)) (zs_cons (z_if (z_tcmp (zo_ne hr.units) (z_tup (za_cons (z_fld T.c_Token T.n_Token_word (z_var 11)) (za_cons (z_fld T.c_Token T.n_Token_text (z_var 11)) (za_cons (z_fld T.c_Token T.n_Token_line (z_var 11)) (za_cons (z_fld T.c_Token T.n_Token_column (z_var 11)) za_nil))))) (z_mm0 T.c_Token D_Token_shown hr (by decide) (z_var 11))) (zs_one (z_ret z_bl)) zs_nil) (zs_cons (z_if (zw_t (zw_or (z_tcmp zo_neF (z_dc0 D_is_name hr (by decide) (by rfl) (za_cons (z_fld T.c_Token T.n_Token_text (z_var 11)) za_nil)) (z_cmp zo_eqF (z_fld T.c_Token T.n_Token_word (z_var 11)) z_str)) (zw_or1 (z_tcmp zo_neF (z_dc0 D_is_constructor hr (by decide) (by rfl) (za_cons (z_fld T.c_Token T.n_Token_text (z_var 11)) za_nil)) (z_cmp zo_eqF (z_fld T.c_Token T.n_Token_word (z_var 11)) z_str))))) (zs_one (z_ret z_bl)) zs_nil) zs_nil))) (zs_cons (z_set (i := 13) sc_law.nd rfl (Or.inr rfl) (z_ix (z_lst (za_cons z_str (za_cons z_str (za_cons z_str (za_cons (z_op zo_catS z_str (z_callTy zf_strI (by rfl) T.z_str (by rfl) (za_cons (z_dc0 D__law_roll hr (by decide) (by rfl) (za_cons (z_var 1) (za_cons z_int za_nil))) za_nil))) (za_cons (z_op zo_catS z_str (z_callTy zf_strI (by rfl) T.z_str (by rfl) (za_cons (z_op zo_add z_int (z_dc0 D__law_roll hr (by decide) (by rfl) (za_cons (z_var 1) (za_cons z_int za_nil)))) za_nil))) (za_cons z_str (za_cons (z_op zo_rep z_str (z_op zo_add z_int (z_dc0 D__law_roll hr (by decide) (by rfl) (za_cons (z_var 1) (za_cons z_int za_nil))))) (za_cons z_str (za_cons z_str (za_cons z_str za_nil))))))))))) (z_dc0 D__law_roll hr (by decide) (by rfl) (za_cons (z_var 1) (za_cons z_int za_nil))))) (zs_cons (z_if (z_tcmp zo_neF (z_told (k := 7) (by rfl) TTd.gm TTd.kp TTd.lk TTd.cd TTd.bd sc__law_told rfl (Or.inl rfl) (.cons rfl T.g_LexError rfl (.cons rfl T.g_TongueError rfl .nil)) (fun _ => rfl) TBL rfl hmL huL (hr.mono (by decide)) (LamX.lamS_by (by rfl)) rfl (fun _ _ _ _ _ => rfl) (fun bas2 A2 outer2 s2 H2 E2 f2 c2 E02 hr2 hE2 => (z_dc D_tokenize hr2 (by decide) (by rfl) hE2 (passes_call (takes_of rfl rfl rfl rfl) fun _ _ _ _ h => h) (za_cons (z_op zo_catS (z_var 2) (z_var 13)) za_nil)))) z_str) (zs_one (z_ret z_bl)) zs_nil) (zs_cons (z_set (i := 14) sc_law.nd rfl (Or.inl rfl) (z_new D_Lexer___init__ hr (by decide) (by rfl) T.g_Lexer (za_cons (z_op zo_catS (z_var 2) z_str) za_nil))) (zs_cons (z_expr (z_mm0 T.c_Lexer D_Lexer_skip_blanks hr (by decide) (z_var 14))) (zs_cons (z_if (zw_t (zw_or (zw_t (zw_and (z_tcmp zo_eqF (z_var 2) z_str) (zw_and1 (z_tcmp (zo_ne hr.units) (z_mm0 T.c_Token D_Token_shown hr (by decide) (z_mc0 T.c_Lexer D_Lexer_token hr (by decide) hE (passes_call (takes_of rfl rfl rfl rfl) fun _ _ _ _ h => h) (z_var 14))) (z_tup (za_cons z_str (za_cons z_str (za_cons z_int (za_cons z_int za_nil))))))))) (zw_or1 (z_val (z_dc0 D_is_tail hr (by decide) (by rfl) (za_cons (z_op zo_catS (z_op zo_catS z_str (z_var 13)) z_str) za_nil)))))) (zs_one (z_ret z_bl)) zs_nil) zs_nil)))))))))))) (zs_cons (z_ret (z_and (z_dc0 D_is_tail hr (by decide) (by rfl) (za_cons z_str za_nil)) (z_and (z_dc0 D_is_tail hr (by decide) (by rfl) (za_cons z_str za_nil)) (z_and (z_notV (z_dc0 D_is_name hr (by decide) (by rfl) (za_cons z_str za_nil))) (z_and (z_notV (z_dc0 D_is_constructor hr (by decide) (by rfl) (za_cons z_str za_nil))) (z_one (z_cmp (zo_eq hr.units) (z_mm0 T.c_Token D_Token_shown hr (by decide) (z_new D_Token___init__ hr (by decide) (by rfl) T.g_Token (za_cons z_str (za_cons z_str (za_cons z_int (za_cons z_int za_nil)))))) (z_tup (za_cons z_str (za_cons z_str (za_cons z_int (za_cons z_int za_nil)))))))))))) zs_nil)), ?_⟩
    have big : 1000000 ≤ sizeLine := by decide
    refine s_for ?_
    show zCall spRounds X0 _ _ G _
    refine ⟨sD, ns, rfl, hs, fun q d m G1 e1 hq1 hd1 hi1 nqd => ?_⟩
    simp only [hq1]
    refine ⟨fun i ρ G' => G' q = some (.lst [.ref d]) ∧ (i = 0 → ρ = zstart ["script", "dice", "text", "line", "column", "due", "turn", "word", "shown", "gap", "told_now", "token", "row", "bad", "lexer"] [sD] ∧ G' = G1), ⟨hq1, fun _ => ⟨rfl, rfl⟩⟩, ?_, ?_⟩
    · rintro i dd ρ G' hi hP
      have hi0 : i = 0 := by
        have := (List.getElem?_eq_some_iff.mp hi).1
        simp at this
        omega
      subst hi0
      obtain ⟨rfl, rfl⟩ := hP.2 rfl
      cases Option.some.inj hi
      refine ⟨hq1, ?_⟩
      refine s_asgG ?_
      simp only [zTup, zCons, zC, zNil]
      refine mk_lst (ds := []) (fun _ => rfl) (by decide) fun u G2 nu h2 => ?_
      refine ⟨by show 4 ≤ sizeLine; decide, rfl, ?_⟩
      simp only [zgCons, zgNil, zName, true_and]
      have ud : u ≠ d := fun z => by rw [z, hd1] at nu; cases nu
      have d2 : G2 d = some m := (h2.other d (Ne.symm ud)).trans hd1
      refine s_for ?_
      simp only [zRng1]
      refine run_roll (fun _ => rfl) d2 hi1 (by decide) (by decide) fun v G3 v0 v1 hR3 => ?_
      obtain ⟨n, rfl⟩ := Int.eq_ofNat_of_zero_le v0
      have u3 : G3 u = some (.lst []) := hR3.other u _ ud h2.is
      have qu : q ≠ u := fun z => by rw [← z, hq1] at nu; cases nu
      have q3 : G3 q = some (.lst [.ref d]) := hR3.other q _ nqd ((h2.other q qu).trans hq1)
      refine ⟨by omega, by omega, ?_⟩
      refine ⟨fun k ρ G' => ∃ row : List Row, row.length = k ∧ (∀ e ∈ row, e.ok) ∧ (∃ z6 z7 z8 z9, ρ = [some sD, some (.ref d), some (.str (S (txt row))), some (.int (moved (1, 1) (txt row)).1), some (.int (moved (1, 1) (txt row)).2), some (.ref u), z6, z7, z8, z9, none, none, none, none, none]) ∧
        (∃ m', G' d = some m' ∧ isDice m') ∧ G' u = some (.lst ((toks (1, 1) row).map tkD)) ∧ G' q = some (.lst [.ref d]), ?_, ?_, ?_⟩
      · refine ⟨[], rfl, fun e he => (List.not_mem_nil he).elim, ⟨none, none, none, none, rfl⟩, ?_, u3, q3⟩
        obtain ⟨m3, d3, i3⟩ := hR3.dice
        exact ⟨m3, d3, i3⟩
      · rintro k dk ρ G4 hk ⟨row, hlen, hok, ⟨z6, z7, z8, z9, rfl⟩, ⟨m4, d4, i4⟩, u4, q4⟩
        obtain ⟨hkn, rfl⟩ := rngD_get hk
        refine ⟨True.intro, ?_⟩
        refine s_asgG ?_
        show zCall spLTok X0 _ _ G4 _
        refine ⟨d, m4, rfl, d4, i4, fun v x G5 hg hR5 => ?_⟩
        refine ⟨rfl, ?_⟩
        simp only [zgCons, zgNil, zName, true_and]
        have u5 := hR5.other u _ ud u4
        refine s_drop ?_
        simp only [zBM]
        refine run_var (d := .ref u) rfl ?_
        refine ⟨by simp only [tyZ, u5], ?_⟩
        simp only [zCons, zTup, zNil]
        refine run_var (d := .str v) rfl ?_
        refine run_var (d := .str (S x)) rfl ?_
        refine run_var (d := .int (moved (1, 1) (txt row)).1) rfl ?_
        refine run_var (d := .int (moved (1, 1) (txt row)).2) rfl ?_
        refine ⟨by show 4 ≤ sizeLine; omega, ?_⟩
        have hv1 : n < 21 := by omega
        have hkn' : k < n := by simpa using hkn
        simp only [mAppend, u5]
        refine ⟨by rw [List.length_map, toks_len]; omega, fun G6 h6 => ?_⟩
        obtain ⟨m5, d5, i5⟩ := hR5.dice
        have d6 : G6 d = some m5 := (h6.other d (Ne.symm ud)).trans d5
        refine s_asg ?_
        show zCall spGap X0 _ _ G6 _
        refine ⟨d, m5, rfl, d6, i5, fun gp G7 hgp hR7 => ?_⟩
        have u7 := hR7.other u _ ud h6.is
        have lx := good_len hg
        have lg := gap_len hgp
        have lt := txt_len row hok
        refine s_asg ?_
        simp only [zOp]
        refine run_var (d := .str (S (txt row))) rfl ?_
        refine run_var (d := .str (S x)) rfl ?_
        rw [dCatS_e, S_app]
        refine ⟨by rw [S_len, S_len]; omega, ?_⟩
        refine run_var (d := .str (S gp)) rfl ?_
        rw [dCatS_e, S_app]
        refine ⟨by rw [S_len, S_len, List.length_append]; omega, ?_⟩
        have hok' : ∀ e ∈ row ++ [⟨v, x, gp⟩], e.ok := fun e he => (List.mem_append.mp he).elim (hok e) fun h => by rw [List.mem_singleton.mp h]; exact ⟨hg, hgp⟩
        show zCall spMoved X0 _ _ G7 _
        simp only [zCall, zCons, zNil, zOp]
        refine run_var (d := .str (S x)) rfl ?_
        refine run_var (d := .str (S gp)) rfl ?_
        rw [dCatS_e, S_app]
        refine ⟨by rw [S_len, S_len]; omega, ?_⟩
        refine run_var (d := .int (moved (1, 1) (txt row)).1) rfl ?_
        refine run_var (d := .int (moved (1, 1) (txt row)).2) rfl ?_
        refine ⟨x ++ gp, _, _, rfl, ?_⟩
        refine ⟨rfl, ?_⟩
        simp only [zgCons, zgNil, zName, true_and]
        refine ⟨row ++ [⟨v, x, gp⟩], by rw [List.length_append, hlen]; rfl, hok', ?_, hR7.dice, ?_, hR7.other q _ nqd ((h6.other q qu).trans (hR5.other q _ nqd q4))⟩
        · have et : txt row ++ x ++ gp = txt (row ++ [⟨v, x, gp⟩]) := by rw [txt_snoc, List.append_assoc]
          have em : moved (1, 1) (txt (row ++ [⟨v, x, gp⟩])) = moved (moved (1, 1) (txt row)) (x ++ gp) := by rw [txt_snoc, moved_app]
          rw [← et] at em ⊢
          rw [em]
          exact ⟨_, _, _, _, rfl⟩
        · rw [toks_snoc, List.map_append]
          exact u7
      · rintro ρ G4 ⟨row, hlen, hok, ⟨z6, z7, z8, z9, rfl⟩, ⟨m4, d4, i4⟩, u4, q4⟩
        refine ⟨True.intro, ?_⟩
        have hrow : row.length < 21 := by rw [hlen, rngD_len]; omega
        have htl := txt_len row hok
        refine s_drop ?_
        simp only [zBM]
        refine run_var (d := .ref u) rfl ?_
        refine ⟨by simp only [tyZ, u4], ?_⟩
        simp only [zCons, zTup, zNil, zC]
        refine run_var (d := .int (moved (1, 1) (txt row)).1) rfl ?_
        refine run_var (d := .int (moved (1, 1) (txt row)).2) rfl ?_
        refine ⟨by show 4 ≤ sizeLine; omega, ?_⟩
        simp only [mAppend, u4]
        refine ⟨by rw [List.length_map, toks_len]; omega, fun G5 h5 => ?_⟩
        generalize hks : toks (1, 1) row ++ [(⟨"end of text", [], (moved (1, 1) (txt row)).1, (moved (1, 1) (txt row)).2⟩ : Tk)] = ks
        have hlex := lex_all row hok
        rw [hks] at hlex
        have u5 : G5 u = some (.lst (ks.map tkD)) := by
          rw [h5.is, ← hks, List.map_append]
          rfl
        have d5 : G5 d = some m4 := (h5.other d (Ne.symm ud)).trans d4
        have q5 : G5 q = some (.lst [.ref d]) := (h5.other q qu).trans q4
        have klen : ks.length = row.length + 1 := by rw [← hks, List.length_append, toks_len]; rfl
        have kok : ∀ k ∈ ks, okTk k ∧ nameB k.x = decide (k.w = ("name" : Str)) ∧ consB k.x = decide (k.w = ("constructor" : Str)) ∧ k.x.length ≤ 30 := fun k hk => by
          rw [← hks] at hk
          rcases List.mem_append.mp hk with hk | hk
          · exact toks_ok hok _ k hk
          · rw [List.mem_singleton.mp hk]
            exact end_ok _ _
        have hsk : skipN false (txt row) = 0 := by
          have := skip_plain (txt_head hok (tail := []) (.inl rfl))
          rwa [List.append_nil] at this
        clear hks
        refine s_asg ?_
        show zCall (spTokenize CT CE) X0 _ _ G5 _
        refine ⟨txt row, row.length, some ks, rfl, by omega, by omega, by omega, by rw [hsk]; exact hlex, fun tq as G6 e6 ntq htq htk hnew => ?_⟩
        have u6 := e6 _ _ u5
        have d6 := e6 _ _ d5
        refine s_if ?_
        simp only [zOrT, zTest, zOp]
        refine lc_shown (CT := CT) (tq := tq) (as := as) (ks := ks) rfl (by show 11 < 15; decide) htq htk (by omega) fun p7 G7 np7 h7 => ?_
        refine run_var (d := .ref u) rfl ?_
        have u7 := h7.ext np7 _ _ u6
        refine ne_alike h7.is u7 (pds_tk ks) (fun x hx => ?_) ?_
        · obtain ⟨k, hk, rfl⟩ := List.mem_map.mp hx
          exact ⟨can_tk (kok k hk).1, Nat.le_refl 1⟩
        simp only [Bool.false_eq_true, if_false]
        show zCall (spWords CT) X0 _ _ G7 _
        refine ⟨txt row, row.length, ks, rfl, by omega, by omega, by omega, by rw [hsk]; exact hlex, fun z => by rw [z] at klen; simp at klen, fun p8 G8 e8 h8 => ?_⟩
        have u8 := e8 _ _ u7
        refine lc_rows (u := u) (ks := ks) rfl (by show 12 < 15; decide) u8 (by omega) (by omega) fun p9 G9 e9 h9 => ?_
        have hst : ∀ ks : List Tk, (ks.map fun k => D.str (S k.x)) = (ks.map fun k => S k.x).map D.str := fun ks => by rw [List.map_map]; rfl
        rw [hst] at h8 h9
        refine ne_alike (e9 _ _ h8) h9 (pds_str _) (fun x hx => ?_) ?_
        · obtain ⟨s, hs, rfl⟩ := List.mem_map.mp hx
          obtain ⟨k, hk, rfl⟩ := List.mem_map.mp hs
          exact ⟨(kok k (List.dropLast_subset _ hk)).1.2, Nat.zero_le 1⟩
        simp only [Bool.false_eq_true, if_false]
        have e69 : Ext G6 G9 := ((h7.ext np7).trans e8).trans e9
        have d9 := e69 _ _ d6
        have tq9 := e69 _ _ htq
        have htk9 : Toks CT G9 as ks := htk.mono fun b hb m e => e69 _ _ e
        refine s_nx (s_for ?_)
        simp only [zList]
        refine run_var (d := .ref tq) rfl ?_
        simp only [tq9]
        refine ⟨fun i ρ G' => G' = G9 ∧ ∃ z11, ρ = [some sD, some (.ref d), some (.str (S (txt row))), some (.int (moved (1, 1) (txt row)).1), some (.int (moved (1, 1) (txt row)).2), some (.ref u), z6, z7, z8, z9, some (.ref tq), z11, none, none, none], ⟨rfl, none, rfl⟩, ?_, ?_⟩
        · rintro i di ρ G' hi ⟨rfl, z11, rfl⟩
          have hia : i < as.length := by
            have := (List.getElem?_eq_some_iff.mp hi).1
            rwa [List.length_map] at this
          have hik : i < ks.length := by rw [← htk.1]; exact hia
          rw [List.getElem?_map, List.getElem?_eq_getElem hia] at hi
          cases Option.some.inj hi
          obtain ⟨dx, hobj⟩ := htk9.2 i as[i] ks[i] (List.getElem?_eq_getElem hia) (List.getElem?_eq_getElem hik)
          obtain ⟨ko, kn, kc, kl⟩ := kok ks[i] (List.getElem_mem hik)
          refine ⟨tq9, ?_⟩
          generalize ks[i] = k at *
          generalize as[i] = b at *
          have fld : ∀ (ρ : ZSt) (f : Str) (x : D) (R : DK), ρ[11]? = some (some (.ref b)) → List.lookup f [(("word" : Str), D.str k.w), ("text", .str (S k.x)), ("line", .int k.l), ("column", .int k.c)] = some x → R x G' → zFld CT (zVar 11) f ρ G' R := fun ρ f x R h hf hR => by
            simp only [zFld]
            refine run_var h ?_
            simp only [hobj, tkO, hf, true_and]
            exact hR
          refine s_if ?_
          simp only [zTest, zOp, zTup, zCons, zNil]
          refine fld _ _ (.str k.w) _ rfl rfl (fld _ _ (.str (S k.x)) _ rfl rfl (fld _ _ (.int k.l) _ rfl rfl (fld _ _ (.int k.c) _ rfl rfl ?_)))
          refine ⟨by show 4 ≤ sizeLine; omega, ?_⟩
          simp only [zMeth]
          refine run_var (d := .ref b) rfl ?_
          simp only [hobj, tkO, tm1, true_and]
          refine ⟨b, dx, _, _, _, _, rfl, hobj, ?_⟩
          refine ne_same ko ?_
          simp only [Bool.false_eq_true, if_false]
          refine s_nx (s_if ?_)
          simp only [zOrT, zTest, zOp, zCall, zCons, zNil, zC]
          refine fld _ _ (.str (S k.x)) _ rfl rfl ⟨k.x, rfl, by omega, ?_⟩
          refine fld _ _ (.str k.w) _ rfl rfl ?_
          rw [dEqF_s, dEqF_b, kn]
          simp only [Bool.false_bne, decide_true, bne_self_eq_false, Bool.false_eq_true, if_false, Bool.true_bne, Bool.not_true]
          refine fld _ _ (.str (S k.x)) _ rfl rfl ⟨k.x, rfl, by omega, ?_⟩
          refine fld _ _ (.str k.w) _ rfl rfl ?_
          rw [dEqF_s, dEqF_b, kc]
          simp only [Bool.false_bne, decide_true, Bool.false_eq_true, if_false, Bool.true_bne, Bool.not_true]
          refine s_nx (s_nx ?_)
          exact ⟨rfl, _, rfl⟩
        · rintro ρ G' ⟨rfl, z11, rfl⟩
          refine ⟨tq9, ?_⟩
          have q9 : G' q = some (.lst [.ref d]) := e69 _ _ (e6 _ _ q5)
          refine s_asg ?_
          simp only [zOp, zLst, zCons, zNil, zC, zCB]
          refine run_roll (fun _ => rfl) d9 i4 (by decide) (by decide) fun r1 Ga a0 a1 hRa => ?_
          obtain ⟨r1, rfl⟩ := Int.eq_ofNat_of_zero_le a0
          obtain ⟨ma, da, ia⟩ := hRa.dice
          have qa := hRa.other q _ nqd q9
          have small : ∀ r : Nat, r < 100 → ((r : Int).natAbs).log2 < 1920 := by
            intro r hr
            rw [Int.natAbs_natCast]
            have : ∀ r, r < 100 → Nat.log2 r < 1920 := by decide +kernel
            exact this r hr
          refine ⟨small r1 (by omega), ?_⟩
          try dsimp only
          rw [show (toString (r1 : Int) : Str) = S (TL.numL r1) from num_str r1, show ("0" : Str) = S [48] from rfl, dCatS_e, S_app]
          refine ⟨by rw [S_len, S_len, TL.numL_lt (by omega)]; show 1 + 1 ≤ sizeLine; omega, ?_⟩
          refine run_roll (fun _ => rfl) da ia (by decide) (by decide) fun r2 Gb b0 b1 hRb => ?_
          obtain ⟨r2, rfl⟩ := Int.eq_ofNat_of_zero_le b0
          obtain ⟨mb, db, ib⟩ := hRb.dice
          have qb := hRb.other q _ nqd qa
          try dsimp only
          rw [dI0_e, show ((48 : Int) + (r2 : Int)) = ((48 + r2 : Nat) : Int) by omega]
          refine ⟨small _ (by omega), ?_⟩
          try dsimp only
          rw [show (toString ((48 + r2 : Nat) : Int) : Str) = S (TL.numL (48 + r2)) from num_str _, show ("21474836" : Str) = S [50, 49, 52, 55, 52, 56, 51, 54] from rfl, dCatS_e, S_app]
          have bb2 := bad_big (r := r2) (by omega)
          have bl2 := bb2.len
          try dsimp only
          rw [List.length_append] at bl2
          refine ⟨by rw [S_len, S_len]; omega, ?_⟩
          refine run_roll (fun _ => rfl) db ib (by decide) (by decide) fun r3 Gc c0 c1 hRc => ?_
          obtain ⟨r3, rfl⟩ := Int.eq_ofNat_of_zero_le c0
          obtain ⟨mc, dc, ic⟩ := hRc.dice
          have qc := hRc.other q _ nqd qb
          try dsimp only
          rw [dI0_e, show ((11 : Int) + (r3 : Int)) = ((11 + r3 : Nat) : Int) by omega]
          refine ⟨⟨by omega, by omega, by decide, by decide⟩, ?_⟩
          try dsimp only
          rw [mul_nines (by omega)]
          refine ⟨by show 10 ≤ sizeLine; omega, fun p10 Gd npd hd => ?_⟩
          have pd10 : p10 ≠ d := fun z => by rw [z, dc] at npd; cases npd
          have dd : Gd d = some mc := (hd.other d (Ne.symm pd10)).trans dc
          have qd : Gd q = some (.lst [.ref d]) := hd.ext npd _ _ qc
          refine run_roll (fun _ => rfl) dd ic (by decide) (by decide) fun r4 Ge e0 e1' hRe => ?_
          obtain ⟨r4, rfl⟩ := Int.eq_ofNat_of_zero_le e0
          have qe := hRe.other q _ nqd qd
          have pe := hRe.other p10 _ pd10 hd.is
          have pickB : ∀ R : DK, (∀ b, BadT b → R (.str (S b)) Ge) → dIx (.ref p10) (.int (r4 : Int)) Ge R := fun R hR => by
            have hr4 : r4 < 10 := by omega
            match r4, hr4 with
            | 0, _ => exact dIx_list pe rfl (hR [36] bad_36)
            | 1, _ => exact dIx_list pe rfl (hR [38] bad_38)
            | 2, _ => exact dIx_list pe rfl (hR [58] bad_58)
            | 3, _ => exact dIx_list pe rfl (hR _ (bad_zero (by omega)))
            | 4, _ => exact dIx_list pe rfl (hR _ bb2)
            | 5, _ => exact dIx_list pe rfl (hR [46] bad_46)
            | 6, _ => exact dIx_list pe rfl (hR _ (bad_nines (by omega)))
            | 7, _ => exact dIx_list pe rfl (hR [124, 38] bad_pipe)
            | 8, _ => exact dIx_list pe rfl (hR [64] bad_64)
            | 9, _ => exact dIx_list pe rfl (hR [39] bad_39)
            | k + 10, h => omega
          refine pickB _ fun b hb => ?_
          have blen := hb.len
          clear pickB
          obtain ⟨nb, hnb, hlexb⟩ := lex_bad hok hb
          have hskb : skipN false (txt row ++ b) = 0 := skip_plain (txt_head hok hb.head)
          refine s_if ?_
          simp only [zTest, zOp, zTold, zCall, zCons, zNil, zC]
          refine run_var (d := .str (S (txt row))) rfl ?_
          refine run_var (d := .str (S b)) rfl ?_
          try dsimp only
          rw [dCatS_e, S_app]
          refine ⟨by rw [S_len, S_len]; omega, ?_⟩
          refine ⟨txt row ++ b, nb, none, rfl, by rw [List.length_append]; omega, by omega, by omega, by rw [hskb]; exact hlexb, fun Gf ef => ⟨true, T.m_LexError, fun _ => ?_, fun h => Bool.noConfusion h⟩⟩
          try dsimp only
          rw [dEqF_s]
          simp only [decide_true, bne_self_eq_false, Bool.false_eq_true, if_false, Bool.true_bne, Bool.not_true]
          have qf := ef _ _ qe
          refine s_nx (s_asg ?_)
          simp only [zMake, zCons, zNil, zOp, zC]
          refine run_var (d := .str (S (txt row))) rfl ?_
          try dsimp only
          rw [show ("ab" : Str) = S [97, 98] from rfl, dCatS_e, S_app]
          refine ⟨by rw [S_len, S_len]; show _ + 2 ≤ _; omega, ?_⟩
          intro la ldx Gg nla hg1
          refine ⟨la, ldx, txt row ++ [97, 98], rfl, hg1.is, fun Gh hh => ⟨rfl, ?_⟩⟩
          have lh := hg1.trans hh
          have qla : q ≠ la := fun z => by rw [← z, qf] at nla; cases nla
          have qh : Gh q = some (.lst [.ref d]) := (lh.other q qla).trans qf
          have habs : skipN false (txt row ++ [97, 98]) = 0 := skip_plain (txt_head hok (.inr ⟨97, [98], rfl, by decide⟩))
          have lenab : (txt row ++ [97, 98]).length ≤ sizeLine := by rw [List.length_append]; show _ + 2 ≤ _; omega
          refine s_drop ?_
          refine run_skip (a := la) (fun R => ?_) lh.is lenab (Nat.zero_le _) fun Gi hi1 => ?_
          · exact run_var' rfl
          try dsimp only
          rw [List.drop_zero, habs, Nat.add_zero] at hi1
          have qi : Gi q = some (.lst [.ref d]) := (hi1.other q qla).trans qh
          have tailF : ∀ (ρ : ZSt) (G' : Gp) (R : Bool → Gp → Prop), ρ[13]? = some (some (.str (S b))) → R false G' → zTest (zCall spTail X0 (zCons (zOp dCatS (zOp dCatS (zC (D.str (Str.ofString "a"))) (zVar 13)) (zC (D.str (Str.ofString "$")))) zNil)) ρ G' R := fun ρ G' R h hR => by
            simp only [zTest, zCall, zCons, zNil, zOp, zC]
            refine run_var h ?_
            try dsimp only
            rw [show ("a" : Str) = S [97] from rfl, dCatS_e, S_app]
            refine ⟨by rw [S_len, S_len]; show 1 + _ ≤ _; omega, ?_⟩
            try dsimp only
            rw [show ("$" : Str) = S [36] from rfl, dCatS_e, S_app]
            refine ⟨by rw [S_len, S_len, List.length_append]; show 1 + _ + 1 ≤ _; omega, ?_⟩
            refine ⟨_, rfl, ?_⟩
            rw [tail_dollar]
            exact hR
          have out : ∀ (ρ : ZSt) (G' : Gp), G' q = some (.lst [.ref d]) → G' q = some (.lst [.ref d]) := fun _ _ h => h
          clear out
          refine s_if ?_
          show zAnd _ _ _ Gi _
          simp only [zAnd]
          refine zTest_op (run_var (d := .str (S (txt row))) rfl ?_)
          refine zC_run (eq_run ?_)
          rw [ne_empty]
          try dsimp only
          cases ht : txt row with
          | nil =>
            simp only [List.isEmpty_nil, if_true]
            rw [ht] at hi1 lenab
            refine zTest_op (zMeth_at ?_)
            refine run_token (a := la) (fun R => run_var' rfl) hi1.is lenab (by show 0 < 2; decide) (fun v tx e Gj y dy Gk hj ny hk => ?_) fun e => ?_
            · have e : tokR [97, 98] = some (v, tx) := e
              rw [tok_ab] at e
              cases e
              have hk1 : Gk y = some (tkO CT dy "name" (S [97, 98]) 1 1) := hk.is
              simp only [hk1, tkO, tm1, zNil, true_and]
              refine ⟨y, dy, _, _, _, _, rfl, hk1, ?_⟩
              simp only [zTup, zCons, zNil, zC]
              refine ⟨by show 4 ≤ sizeLine; omega, ?_⟩
              refine ne_same (k := ⟨"name", [97, 98], 1, 1⟩) ab_ok ?_
              simp only [Bool.false_eq_true, if_false]
              have qj : Gj q = some (.lst [.ref d]) := (hj.other q qla).trans qi
              have qy : q ≠ y := fun z => by rw [← z, qj] at ny; cases ny
              refine tailF _ _ _ rfl ?_
              simp only [Bool.false_eq_true, if_false]
              refine s_nx (s_nx ?_)
              exact ⟨(hk.other q qy).trans qj, fun h => absurd h (by decide)⟩
            · have e : tokR [97, 98] = none := e
              rw [tok_ab] at e
              cases e
          | cons x r =>
            simp only [List.isEmpty_cons, Bool.false_eq_true, if_false]
            refine tailF _ _ _ rfl ?_
            simp only [Bool.false_eq_true, if_false]
            refine s_nx (s_nx ?_)
            exact ⟨qi, fun h => absurd h (by decide)⟩
    · rintro ρ G' hP
      refine ⟨hP.1, ?_⟩
      obtain ⟨t1, t2, t3, t4⟩ := end_checks
      refine s_ret ?_
      simp only [zAndV, zNotV, zCall, zCons, zNil, zC, zOp]
      refine ⟨[97, 90, 95, 57], rfl, ?_⟩
      rw [t1]
      simp only [if_true]
      refine ⟨[], rfl, ?_⟩
      rw [t2]
      simp only [if_true]
      refine ⟨[], rfl, by show 0 ≤ _; omega, ?_⟩
      rw [t3]
      simp only [Bool.not_false, if_true]
      refine ⟨[97], rfl, by show 1 ≤ _; omega, ?_⟩
      rw [t4]
      simp only [Bool.not_false, if_true]
      show zMake CT (spTokenI CT) X0 _ _ G' _
      simp only [zMake]
      intro y dy G2 ny h2
      refine ⟨y, dy, _, _, _, _, rfl, h2.is, fun G3 h3 => ⟨rfl, ?_⟩⟩
      have o3 : G3 y = some (tkO CT dy "int" "5" 1 2) := h3.is
      simp only [o3, tkO, tm1, true_and]
      refine ⟨y, dy, _, _, _, _, rfl, o3, ?_⟩
      simp only [zTup]
      refine ⟨by show 4 ≤ sizeLine; omega, ?_⟩
      exact eq_same (k := ⟨"int", [53], 1, 2⟩) five_ok (hq G3)
end
end K01

namespace K01
open PySem PySem.Spec PyProof.Rows L2 Z

theorem exm_me {K : PySem.W.Frag} {C : Addr} (h1 : PySem.W.subIn K (.ref C) (.type "BaseException") = some true) (h2 : PySem.W.isClsIn K C = true) (h3 : PySem.W.typeIn K (.ref C) = some (.type "type")) (h4 : PySem.W.subIn K (.ref C) (.ref C) = some true) : PySem.W.exmOne K (.ref C) (.ref C) = some true := by
  have a : (PySem.W.subIn K (.ref C) (.type "BaseException") == some true) = true := by rw [h1] <;> rfl
  have b : ((PySem.W.clsIn K C).isSome && PySem.W.typeIn K (.ref C) == some (.type "type")) = true := by
    have : (PySem.W.clsIn K C).isSome = true := h2
    rw [this, h3] <;> rfl
  unfold PySem.W.exmOne PySem.W.kitCls
  simp only [a, b, if_true]
  exact h4
theorem gx_tab {base : Heap} {mg : Str → Option Value} {c P : Addr} (t : LamX.TabB base mg c P) : GxR.TabB base mg c P := ⟨t.code, t.bm, t.gP⟩
theorem law_start {K : PySem.W.Frag} {H : Hp} {a PT PL : Addr} {ns : List Int} (hS : SqL K H a (ns.map V.int)) (h1 : H PT = some (.tbl #[])) (h2 : H PL = some (.tbl #[])) :
    letI τ : Tbl := ⟨[(PT, qTail), (PL, qLam)]⟩
    upSp K spLaw [.ref a] H (fun v _ => v = .bl true) fun _ _ _ => False := by
  letI τ : Tbl := ⟨[(PT, qTail), (PL, qLam)]⟩
  have tb : LamX.Tabs τ.T H := fun p hp => by
    rcases List.mem_cons.mp hp with rfl | hp
    · exact LamX.TabS.nil h1
    · rw [List.mem_singleton.mp hp]
      exact LamX.TabS.nil h2
  have out : ∀ (G : Gp) (sD : D), Sim0 K H G → Rep K H (.ref a) sD → isScript G sD ns → upSp K spLaw [.ref a] H (fun v _ => v = .bl true) fun _ _ _ => False := fun G sD g r hs =>
    ⟨[sD], G, fun d _ => d = .bl true, fun _ _ => False, g, .cons r .nil, ⟨sD, ns, rfl, hs, fun _ => rfl⟩, fun d G' v H' e f g r => by subst e; cases r; rfl, fun c G' dx H' e => e.elim⟩
  have none0 : Sim0 K H (fun _ => none) := ⟨fun b m e => (by cases e), tb, fun p hp => rfl⟩
  rcases hS with (hS | ⟨o, hS⟩) | hS
  · have nt : ∀ p ∈ τ.T, p.1 ≠ a := fun p hp z => by
      obtain ⟨ps, e, _⟩ := tb p hp
      rw [z, hS] at e
      cases e
    refine out (put (fun _ => none) a (.lst (ns.map D.int))) (.ref a) ⟨fun b m e => ?_, tb, fun p hp => by rw [put_ne (nt p hp)]⟩ (.ref a) (.inr ⟨a, rfl, put_same⟩)
    by_cases hb : b = a
    · subst hb
      rw [put_same] at e
      cases e
      exact ⟨_, hS, Reps.ints ns⟩
    · rw [put_ne hb] at e
      cases e
  · exact out _ (.cl (ns.map D.int)) none0 (.cl (.inl ⟨o, hS⟩) (Reps.ints ns)) (.inl rfl)
  · exact out _ (.cl (ns.map D.int)) none0 (.cl (.inr hS) (Reps.ints ns)) (.inl rfl)

theorem all_mk {l : PySem.W.OpenLaw} {q : Program} {w : World} {K : PySem.W.Frag} {h : Heap} {mg : Str → Option Value} {fa : Addr} (X : K.In h) (G : h.Ns mainGlobals mg) (hfa : mg "law" = some (.ref fa))
    (tabs : ∀ (x : Str) (c P : Addr), ((recsOf q).find? fun e => e.name == x).isSome = true → PySem.W.tabIn K x = some (c, P) → PySem.W.CodeHd h c P ∧ h.get? P = some { cls := .none, data := .fields #[] })
    {f0 f1 f2 f3 f4 f5 f6 f7 f8 f9 f10 f11 f12 f13 f14 f15 f16 f17 f18 f19 f20 f21 f22 c14 c22 PT PL CT CL CE CU aK aS : Addr} {od0 an0 od1 an1 od2 an2 od3 an3 od4 an4 od5 an5 od6 an6 od7 an7 od8 an8 od9 an9 od10 an10 od11 an11 od12 an12 od13 an13 od14 an14 od15 an15 od16 an16 od17 an17 od18 an18 od19 an19 od20 an20 od21 an21 od22 an22 odaK odaS : Option Addr} {sl0 sl1 sl2 sl3 sl4 sl5 sl6 sl7 sl8 sl9 sl10 sl11 sl12 sl13 sl14 sl15 sl16 sl17 sl18 sl19 sl20 sl21 sl22 slaK slaS : Array (Option Value)} {oc0 kV0 dc0 pm0 ct0 cd0 oc1 kV1 dc1 pm1 ct1 cd1 oc2 kV2 dc2 pm2 ct2 cd2 oc3 kV3 dc3 pm3 ct3 cd3 oc4 kV4 dc4 pm4 ct4 cd4 oc5 kV5 dc5 pm5 ct5 cd5 oc6 kV6 dc6 pm6 ct6 cd6 oc7 kV7 dc7 pm7 ct7 cd7 oc8 kV8 dc8 pm8 ct8 cd8 oc9 kV9 dc9 pm9 ct9 cd9 oc10 kV10 dc10 pm10 ct10 cd10 oc11 kV11 dc11 pm11 ct11 cd11 oc12 kV12 dc12 pm12 ct12 cd12 oc13 kV13 dc13 pm13 ct13 cd13 oc14 kV14 dc14 pm14 ct14 oc15 kV15 dc15 pm15 ct15 cd15 oc16 kV16 dc16 pm16 ct16 cd16 oc17 kV17 dc17 pm17 ct17 cd17 oc18 kV18 dc18 pm18 ct18 cd18 oc19 kV19 dc19 pm19 ct19 cd19 oc20 kV20 dc20 pm20 ct20 cd20 oc21 kV21 dc21 pm21 ct21 cd21 oc22 kV22 dc22 pm22 ct22 : Value} {naK naS : Nat} {tk0 tk1 tk2 tk3 tk4 tk5 tk6 tk7 tk8 tk9 tk10 tk11 tk12 tk13 tk14 tk15 tk16 tk17 tk18 tk19 tk20 tk21 ts0 ts1 ts2 ts3 ts4 ts5 ts6 ts7 ts8 ts9 ts10 ts11 ts12 ts13 ts14 ts15 ts16 ts17 ts18 ts19 ts20 ts21 ts22 tL1 tL2 tL3 tL4 tL5 : Tok}
    (a0 : PySem.W.findIn K (.ref CT) "__init__" = some (some (.ref f0)))
    (i0 : PySem.W.isFn K (.ref f0) = true)
    (l0 : K.lookup f0 = some ⟨oc0, od0, .func (PySem.W.fnOf "__init__" "Token.__init__" (defArgs s_Token___init__) (defBody s_Token___init__) (defScope s_Token___init__) .none kV0 dc0 pm0 an0 cd0 ct0), sl0⟩)
    (c0_ : PySem.W.codeIn K cd0 "Token.__init__" = true)
    (k0 : PySem.W.keepIn K (.ref f0) = true)
    (a1 : PySem.W.findIn K (.ref CT) "shown" = some (some (.ref f1)))
    (i1 : PySem.W.isFn K (.ref f1) = true)
    (l1 : K.lookup f1 = some ⟨oc1, od1, .func (PySem.W.fnOf "shown" "Token.shown" (defArgs s_Token_shown) (defBody s_Token_shown) (defScope s_Token_shown) .none kV1 dc1 pm1 an1 cd1 ct1), sl1⟩)
    (c1_ : PySem.W.codeIn K cd1 "Token.shown" = true)
    (k1 : PySem.W.keepIn K (.ref f1) = true)
    (a2 : PySem.W.findIn K (.ref CL) "__init__" = some (some (.ref f2)))
    (i2 : PySem.W.isFn K (.ref f2) = true)
    (l2 : K.lookup f2 = some ⟨oc2, od2, .func (PySem.W.fnOf "__init__" "Lexer.__init__" (defArgs s_Lexer___init__) (defBody s_Lexer___init__) (defScope s_Lexer___init__) .none kV2 dc2 pm2 an2 cd2 ct2), sl2⟩)
    (c2_ : PySem.W.codeIn K cd2 "Lexer.__init__" = true)
    (k2 : PySem.W.keepIn K (.ref f2) = true)
    (a3 : PySem.W.findIn K (.ref CL) "here" = some (some (.ref f3)))
    (i3 : PySem.W.isFn K (.ref f3) = true)
    (l3 : K.lookup f3 = some ⟨oc3, od3, .func (PySem.W.fnOf "here" "Lexer.here" (defArgs s_Lexer_here) (defBody s_Lexer_here) (defScope s_Lexer_here) .none kV3 dc3 pm3 an3 cd3 ct3), sl3⟩)
    (c3_ : PySem.W.codeIn K cd3 "Lexer.here" = true)
    (k3 : PySem.W.keepIn K (.ref f3) = true)
    (a4 : PySem.W.findIn K (.ref CL) "step" = some (some (.ref f4)))
    (i4 : PySem.W.isFn K (.ref f4) = true)
    (l4 : K.lookup f4 = some ⟨oc4, od4, .func (PySem.W.fnOf "step" "Lexer.step" (defArgs s_Lexer_step) (defBody s_Lexer_step) (defScope s_Lexer_step) .none kV4 dc4 pm4 an4 cd4 ct4), sl4⟩)
    (c4_ : PySem.W.codeIn K cd4 "Lexer.step" = true)
    (k4 : PySem.W.keepIn K (.ref f4) = true)
    (a5 : PySem.W.findIn K (.ref CL) "skip_blanks" = some (some (.ref f5)))
    (i5 : PySem.W.isFn K (.ref f5) = true)
    (l5 : K.lookup f5 = some ⟨oc5, od5, .func (PySem.W.fnOf "skip_blanks" "Lexer.skip_blanks" (defArgs s_Lexer_skip_blanks) (defBody s_Lexer_skip_blanks) (defScope s_Lexer_skip_blanks) .none kV5 dc5 pm5 an5 cd5 ct5), sl5⟩)
    (c5_ : PySem.W.codeIn K cd5 "Lexer.skip_blanks" = true)
    (k5 : PySem.W.keepIn K (.ref f5) = true)
    (a6 : PySem.W.findIn K (.ref CL) "run_of" = some (some (.ref f6)))
    (i6 : PySem.W.isFn K (.ref f6) = true)
    (l6 : K.lookup f6 = some ⟨oc6, od6, .func (PySem.W.fnOf "run_of" "Lexer.run_of" (defArgs s_Lexer_run_of) (defBody s_Lexer_run_of) (defScope s_Lexer_run_of) .none kV6 dc6 pm6 an6 cd6 ct6), sl6⟩)
    (c6_ : PySem.W.codeIn K cd6 "Lexer.run_of" = true)
    (k6 : PySem.W.keepIn K (.ref f6) = true)
    (a7 : PySem.W.findIn K (.ref CL) "token" = some (some (.ref f7)))
    (i7 : PySem.W.isFn K (.ref f7) = true)
    (l7 : K.lookup f7 = some ⟨oc7, od7, .func (PySem.W.fnOf "token" "Lexer.token" (defArgs s_Lexer_token) (defBody s_Lexer_token) (defScope s_Lexer_token) .none kV7 dc7 pm7 an7 cd7 ct7), sl7⟩)
    (c7_ : PySem.W.codeIn K cd7 "Lexer.token" = true)
    (k7 : PySem.W.keepIn K (.ref f7) = true)
    (a8 : PySem.W.findIn K (.ref CL) "name_token" = some (some (.ref f8)))
    (i8 : PySem.W.isFn K (.ref f8) = true)
    (l8 : K.lookup f8 = some ⟨oc8, od8, .func (PySem.W.fnOf "name_token" "Lexer.name_token" (defArgs s_Lexer_name_token) (defBody s_Lexer_name_token) (defScope s_Lexer_name_token) .none kV8 dc8 pm8 an8 cd8 ct8), sl8⟩)
    (c8_ : PySem.W.codeIn K cd8 "Lexer.name_token" = true)
    (k8 : PySem.W.keepIn K (.ref f8) = true)
    (a9 : PySem.W.findIn K (.ref CL) "number" = some (some (.ref f9)))
    (i9 : PySem.W.isFn K (.ref f9) = true)
    (l9 : K.lookup f9 = some ⟨oc9, od9, .func (PySem.W.fnOf "number" "Lexer.number" (defArgs s_Lexer_number) (defBody s_Lexer_number) (defScope s_Lexer_number) .none kV9 dc9 pm9 an9 cd9 ct9), sl9⟩)
    (c9_ : PySem.W.codeIn K cd9 "Lexer.number" = true)
    (k9 : PySem.W.keepIn K (.ref f9) = true)
    (a10 : PySem.W.nsIn K mainGlobals "tokenize" = some (some (.ref f10)))
    (l10 : K.lookup f10 = some ⟨oc10, od10, .func (PySem.W.fnOf "tokenize" "tokenize" (defArgs s_tokenize) (defBody s_tokenize) (defScope s_tokenize) .none kV10 dc10 pm10 an10 cd10 ct10), sl10⟩)
    (c10_ : PySem.W.codeIn K cd10 "tokenize" = true)
    (k10 : PySem.W.keepIn K (.ref f10) = true)
    (a11 : PySem.W.nsIn K mainGlobals "words_of" = some (some (.ref f11)))
    (l11 : K.lookup f11 = some ⟨oc11, od11, .func (PySem.W.fnOf "words_of" "words_of" (defArgs s_words_of) (defBody s_words_of) (defScope s_words_of) .none kV11 dc11 pm11 an11 cd11 ct11), sl11⟩)
    (c11_ : PySem.W.codeIn K cd11 "words_of" = true)
    (k11 : PySem.W.keepIn K (.ref f11) = true)
    (a12 : PySem.W.nsIn K mainGlobals "is_name" = some (some (.ref f12)))
    (l12 : K.lookup f12 = some ⟨oc12, od12, .func (PySem.W.fnOf "is_name" "is_name" (defArgs s_is_name) (defBody s_is_name) (defScope s_is_name) .none kV12 dc12 pm12 an12 cd12 ct12), sl12⟩)
    (c12_ : PySem.W.codeIn K cd12 "is_name" = true)
    (k12 : PySem.W.keepIn K (.ref f12) = true)
    (a13 : PySem.W.nsIn K mainGlobals "is_constructor" = some (some (.ref f13)))
    (l13 : K.lookup f13 = some ⟨oc13, od13, .func (PySem.W.fnOf "is_constructor" "is_constructor" (defArgs s_is_constructor) (defBody s_is_constructor) (defScope s_is_constructor) .none kV13 dc13 pm13 an13 cd13 ct13), sl13⟩)
    (c13_ : PySem.W.codeIn K cd13 "is_constructor" = true)
    (k13 : PySem.W.keepIn K (.ref f13) = true)
    (a14 : PySem.W.nsIn K mainGlobals "is_tail" = some (some (.ref f14)))
    (l14 : K.lookup f14 = some ⟨oc14, od14, .func (PySem.W.fnOf "is_tail" "is_tail" (defArgs s_is_tail) (defBody s_is_tail) (defScope s_is_tail) .none kV14 dc14 pm14 an14 (.ref c14) ct14), sl14⟩)
    (c14_ : PySem.W.codeIn K (.ref c14) "is_tail" = true)
    (k14 : PySem.W.keepIn K (.ref f14) = true)
    (a15 : PySem.W.nsIn K mainGlobals "_law_dice" = some (some (.ref f15)))
    (l15 : K.lookup f15 = some ⟨oc15, od15, .func (PySem.W.fnOf "_law_dice" "_law_dice" (defArgs s__law_dice) (defBody s__law_dice) (defScope s__law_dice) .none kV15 dc15 pm15 an15 cd15 ct15), sl15⟩)
    (c15_ : PySem.W.codeIn K cd15 "_law_dice" = true)
    (k15 : PySem.W.keepIn K (.ref f15) = true)
    (a16 : PySem.W.nsIn K mainGlobals "_law_roll" = some (some (.ref f16)))
    (l16 : K.lookup f16 = some ⟨oc16, od16, .func (PySem.W.fnOf "_law_roll" "_law_roll" (defArgs s__law_roll) (defBody s__law_roll) (defScope s__law_roll) .none kV16 dc16 pm16 an16 cd16 ct16), sl16⟩)
    (c16_ : PySem.W.codeIn K cd16 "_law_roll" = true)
    (k16 : PySem.W.keepIn K (.ref f16) = true)
    (a17 : PySem.W.nsIn K mainGlobals "_law_rounds" = some (some (.ref f17)))
    (l17 : K.lookup f17 = some ⟨oc17, od17, .func (PySem.W.fnOf "_law_rounds" "_law_rounds" (defArgs s__law_rounds) (defBody s__law_rounds) (defScope s__law_rounds) .none kV17 dc17 pm17 an17 cd17 ct17), sl17⟩)
    (c17_ : PySem.W.codeIn K cd17 "_law_rounds" = true)
    (k17 : PySem.W.keepIn K (.ref f17) = true)
    (a18 : PySem.W.nsIn K mainGlobals "_law_told" = some (some (.ref f18)))
    (l18 : K.lookup f18 = some ⟨oc18, od18, .func (PySem.W.fnOf "_law_told" "_law_told" (defArgs s__law_told) (defBody s__law_told) (defScope s__law_told) .none kV18 dc18 pm18 an18 cd18 ct18), sl18⟩)
    (c18_ : PySem.W.codeIn K cd18 "_law_told" = true)
    (k18 : PySem.W.keepIn K (.ref f18) = true)
    (a19 : PySem.W.nsIn K mainGlobals "_law_token" = some (some (.ref f19)))
    (l19 : K.lookup f19 = some ⟨oc19, od19, .func (PySem.W.fnOf "_law_token" "_law_token" (defArgs s__law_token) (defBody s__law_token) (defScope s__law_token) .none kV19 dc19 pm19 an19 cd19 ct19), sl19⟩)
    (c19_ : PySem.W.codeIn K cd19 "_law_token" = true)
    (k19 : PySem.W.keepIn K (.ref f19) = true)
    (a20 : PySem.W.nsIn K mainGlobals "_law_gap" = some (some (.ref f20)))
    (l20 : K.lookup f20 = some ⟨oc20, od20, .func (PySem.W.fnOf "_law_gap" "_law_gap" (defArgs s__law_gap) (defBody s__law_gap) (defScope s__law_gap) .none kV20 dc20 pm20 an20 cd20 ct20), sl20⟩)
    (c20_ : PySem.W.codeIn K cd20 "_law_gap" = true)
    (k20 : PySem.W.keepIn K (.ref f20) = true)
    (a21 : PySem.W.nsIn K mainGlobals "_law_moved" = some (some (.ref f21)))
    (l21 : K.lookup f21 = some ⟨oc21, od21, .func (PySem.W.fnOf "_law_moved" "_law_moved" (defArgs s__law_moved) (defBody s__law_moved) (defScope s__law_moved) .none kV21 dc21 pm21 an21 cd21 ct21), sl21⟩)
    (c21_ : PySem.W.codeIn K cd21 "_law_moved" = true)
    (k21 : PySem.W.keepIn K (.ref f21) = true)
    (a22 : PySem.W.nsIn K mainGlobals "law" = some (some (.ref f22)))
    (l22 : K.lookup f22 = some ⟨oc22, od22, .func (PySem.W.fnOf "law" "law" (defArgs s_law) (defBody s_law) (defScope s_law) .none kV22 dc22 pm22 an22 (.ref c22) ct22), sl22⟩)
    (c22_ : PySem.W.codeIn K (.ref c22) "law" = true)
    (k22 : PySem.W.keepIn K (.ref f22) = true)
    (gCT : PySem.W.nsIn K mainGlobals "Token" = some (some (.ref CT)))
    (gCL : PySem.W.nsIn K mainGlobals "Lexer" = some (some (.ref CL)))
    (gCE : PySem.W.nsIn K mainGlobals "LexError" = some (some (.ref CE)))
    (gCU : PySem.W.nsIn K mainGlobals "TongueError" = some (some (.ref CU)))
    (pgCT : PySem.W.plainGet K CT Str.empty = true)
    (hdCT : PySem.W.hasDictIn K CT = true)
    (poCT : PySem.W.plainOver K CT = true)
    (saCT : PySem.W.findIn K (.ref CT) "__setattr__" = some (some (.builtin "object.__setattr__")))
    (mkCT : PySem.W.makesIn K CT = true)
    (kcCT : PySem.W.keepIn K (.ref CT) = true)
    (pgCL : PySem.W.plainGet K CL Str.empty = true)
    (hdCL : PySem.W.hasDictIn K CL = true)
    (poCL : PySem.W.plainOver K CL = true)
    (saCL : PySem.W.findIn K (.ref CL) "__setattr__" = some (some (.builtin "object.__setattr__")))
    (mkCL : PySem.W.makesIn K CL = true)
    (kcCL : PySem.W.keepIn K (.ref CL) = true)
    (nCTword : PySem.W.findIn K (.ref CT) "word" = some none)
    (nCTtext : PySem.W.findIn K (.ref CT) "text" = some none)
    (nCTline : PySem.W.findIn K (.ref CT) "line" = some none)
    (nCTcolumn : PySem.W.findIn K (.ref CT) "column" = some none)
    (nCLtext : PySem.W.findIn K (.ref CL) "text" = some none)
    (nCLplace : PySem.W.findIn K (.ref CL) "place" = some none)
    (nCLline : PySem.W.findIn K (.ref CL) "line" = some none)
    (nCLcolumn : PySem.W.findIn K (.ref CL) "column" = some none)
    (xE : PySem.W.excIn K CE [.type "ValueError", .type "Exception", .type "BaseException", .type "object"] "ValueError.__new__" = true)
    (kE : PySem.W.keepIn K (.ref CE) = true)
    (eE : PySem.W.subIn K (.ref CE) (.type "BaseException") = some true)
    (tE : PySem.W.typeIn K (.ref CE) = some (.type "type"))
    (iE : PySem.W.isClsIn K CE = true)
    (sE : PySem.W.subIn K (.ref CE) (.ref CE) = some true)
    (vLETTERS : PySem.W.nsIn K mainGlobals "LETTERS" = some (some (.str "abcdefghijklmnopqrstuvwxyz" tL1)))
    (vCAPITALS : PySem.W.nsIn K mainGlobals "CAPITALS" = some (some (.str "ABCDEFGHIJKLMNOPQRSTUVWXYZ" tL2)))
    (vDIGITS : PySem.W.nsIn K mainGlobals "DIGITS" = some (some (.str "0123456789" tL3)))
    (vLONGEST : PySem.W.nsIn K mainGlobals "LONGEST" = some (some (.int 10 tL4)))
    (vGREATEST : PySem.W.nsIn K mainGlobals "GREATEST" = some (some (.int 2147483647 tL5)))
    (vKEYWORDS : PySem.W.nsIn K mainGlobals "KEYWORDS" = some (some (.ref aK)))
    (vTOKEN_SIGNS : PySem.W.nsIn K mainGlobals "TOKEN_SIGNS" = some (some (.ref aS)))
    (qK : K.lookup aK = some ⟨.type "tuple", odaK, .seq #[.str "and" tk0, .str "case" tk1, .str "data" tk2, .str "else" tk3, .str "end" tk4, .str "false" tk5, .str "fn" tk6, .str "fun" tk7, .str "if" tk8, .str "in" tk9, .str "let" tk10, .str "mod" tk11, .str "not" tk12, .str "of" tk13, .str "print" tk14, .str "raise" tk15, .str "ref" tk16, .str "then" tk17, .str "true" tk18, .str "try" tk19, .str "val" tk20, .str "with" tk21] naK, slaK⟩)
    (qS : K.lookup aS = some ⟨.type "tuple", odaS, .seq #[.str "=>" ts0, .str "->" ts1, .str "::" ts2, .str ":=" ts3, .str "<=" ts4, .str "==" ts5, .str "&&" ts6, .str "||" ts7, .str "+" ts8, .str "-" ts9, .str "*" ts10, .str "/" ts11, .str "<" ts12, .str "=" ts13, .str "!" ts14, .str ";" ts15, .str "," ts16, .str "|" ts17, .str "(" ts18, .str ")" ts19, .str "[" ts20, .str "]" ts21, .str "_" ts22] naS, slaS⟩)
    (z_len : PySem.W.nsIn K mainGlobals "len" = some none)
    (z_range : PySem.W.nsIn K mainGlobals "range" = some none)
    (z_int : PySem.W.nsIn K mainGlobals "int" = some none)
    (z_str : PySem.W.nsIn K mainGlobals "str" = some none)
    (z_all : PySem.W.nsIn K mainGlobals "all" = some none)
    (z_abs : PySem.W.nsIn K mainGlobals "abs" = some none)
    (tabT : PySem.W.tabIn K "is_tail" = some (c14, PT))
    (tabL : PySem.W.tabIn K "law" = some (c22, PL))
    (pT : K.lookup PT = none)
    (pL : K.lookup PL = none)
    (ne : (PT == PL) = false)
    (rT : ((recsOf q).find? fun e => e.name == ("is_tail" : Str)).isSome = true) (rL : ((recsOf q).find? fun e => e.name == ("law" : Str)).isSome = true) : LamX.LawAtS l w K (L2.CX l.prog w) 11 63 "script" mg fa h := by
  have e := hfa.symm.trans (PySem.W.mg_of X G a22)
  cases e
  have T : Txt K mg CT CL CE CU aK aS :=
    { g_Token := PySem.W.mg_of X G gCT, g_Lexer := PySem.W.mg_of X G gCL, g_LexError := PySem.W.mg_of X G gCE, g_TongueError := PySem.W.mg_of X G gCU, c_Token := ⟨pgCT, hdCT, poCT, saCT⟩, c_Lexer := ⟨pgCL, hdCL, poCL, saCL⟩,
      n_Token_word := nCTword, n_Token_text := nCTtext, n_Token_line := nCTline, n_Token_column := nCTcolumn, n_Lexer_text := nCLtext, n_Lexer_place := nCLplace, n_Lexer_line := nCLline, n_Lexer_column := nCLcolumn,
      x_LexError := xE, k_LexError := kE, e_LexError := eE, t_LexError := tE, m_LexError := exm_me eE iE tE sE, g_LETTERS := ⟨tL1, PySem.W.mg_of X G vLETTERS⟩, g_CAPITALS := ⟨tL2, PySem.W.mg_of X G vCAPITALS⟩, g_DIGITS := ⟨tL3, PySem.W.mg_of X G vDIGITS⟩,
      g_LONGEST := ⟨tL4, PySem.W.mg_of X G vLONGEST⟩, g_GREATEST := ⟨tL5, PySem.W.mg_of X G vGREATEST⟩, g_KEYWORDS := PySem.W.mg_of X G vKEYWORDS, g_TOKEN_SIGNS := PySem.W.mg_of X G vTOKEN_SIGNS,
      q_KEYWORDS := ⟨_, _, _, qK, rfl, rfl, by show 22 ≤ sizeLine; decide, .cons ⟨_, rfl⟩ (.cons ⟨_, rfl⟩ (.cons ⟨_, rfl⟩ (.cons ⟨_, rfl⟩ (.cons ⟨_, rfl⟩ (.cons ⟨_, rfl⟩ (.cons ⟨_, rfl⟩ (.cons ⟨_, rfl⟩ (.cons ⟨_, rfl⟩ (.cons ⟨_, rfl⟩ (.cons ⟨_, rfl⟩ (.cons ⟨_, rfl⟩ (.cons ⟨_, rfl⟩ (.cons ⟨_, rfl⟩ (.cons ⟨_, rfl⟩ (.cons ⟨_, rfl⟩ (.cons ⟨_, rfl⟩ (.cons ⟨_, rfl⟩ (.cons ⟨_, rfl⟩ (.cons ⟨_, rfl⟩ (.cons ⟨_, rfl⟩ (.cons ⟨_, rfl⟩ (.nil))))))))))))))))))))))⟩, q_TOKEN_SIGNS := ⟨_, _, _, qS, rfl, rfl, by show 23 ≤ sizeLine; decide, .cons ⟨_, rfl⟩ (.cons ⟨_, rfl⟩ (.cons ⟨_, rfl⟩ (.cons ⟨_, rfl⟩ (.cons ⟨_, rfl⟩ (.cons ⟨_, rfl⟩ (.cons ⟨_, rfl⟩ (.cons ⟨_, rfl⟩ (.cons ⟨_, rfl⟩ (.cons ⟨_, rfl⟩ (.cons ⟨_, rfl⟩ (.cons ⟨_, rfl⟩ (.cons ⟨_, rfl⟩ (.cons ⟨_, rfl⟩ (.cons ⟨_, rfl⟩ (.cons ⟨_, rfl⟩ (.cons ⟨_, rfl⟩ (.cons ⟨_, rfl⟩ (.cons ⟨_, rfl⟩ (.cons ⟨_, rfl⟩ (.cons ⟨_, rfl⟩ (.cons ⟨_, rfl⟩ (.cons ⟨_, rfl⟩ (.nil)))))))))))))))))))))))⟩,
      z_len := PySem.W.mg_none_of X G z_len, z_range := PySem.W.mg_none_of X G z_range, z_int := PySem.W.mg_none_of X G z_int, z_str := PySem.W.mg_none_of X G z_str, z_all := PySem.W.mg_none_of X G z_all, z_abs := PySem.W.mg_none_of X G z_abs }
  have F0 := fun_mk (st := s_Token___init__) l0 c0_ k0
  have b0 := F0.binds (ps := ["self", "word", "text", "line", "column"]) fun _ _ _ _ _ _ us hl => match us, hl with | [_, _, _, _, _], _ => rfl
  have F1 := fun_mk (st := s_Token_shown) l1 c1_ k1
  have b1 := F1.binds (ps := ["self"]) fun _ _ _ _ _ _ us hl => match us, hl with | [_], _ => rfl
  have F2 := fun_mk (st := s_Lexer___init__) l2 c2_ k2
  have b2 := F2.binds (ps := ["self", "text"]) fun _ _ _ _ _ _ us hl => match us, hl with | [_, _], _ => rfl
  have F3 := fun_mk (st := s_Lexer_here) l3 c3_ k3
  have b3 := F3.binds (ps := ["self"]) fun _ _ _ _ _ _ us hl => match us, hl with | [_], _ => rfl
  have F4 := fun_mk (st := s_Lexer_step) l4 c4_ k4
  have b4 := F4.binds (ps := ["self"]) fun _ _ _ _ _ _ us hl => match us, hl with | [_], _ => rfl
  have F5 := fun_mk (st := s_Lexer_skip_blanks) l5 c5_ k5
  have b5 := F5.binds (ps := ["self"]) fun _ _ _ _ _ _ us hl => match us, hl with | [_], _ => rfl
  have F6 := fun_mk (st := s_Lexer_run_of) l6 c6_ k6
  have b6 := F6.binds (ps := ["self", "letters"]) fun _ _ _ _ _ _ us hl => match us, hl with | [_, _], _ => rfl
  have F7 := fun_mk (st := s_Lexer_token) l7 c7_ k7
  have b7 := F7.binds (ps := ["self"]) fun _ _ _ _ _ _ us hl => match us, hl with | [_], _ => rfl
  have F8 := fun_mk (st := s_Lexer_name_token) l8 c8_ k8
  have b8 := F8.binds (ps := ["self", "line", "column"]) fun _ _ _ _ _ _ us hl => match us, hl with | [_, _, _], _ => rfl
  have F9 := fun_mk (st := s_Lexer_number) l9 c9_ k9
  have b9 := F9.binds (ps := ["self"]) fun _ _ _ _ _ _ us hl => match us, hl with | [_], _ => rfl
  have F10 := fun_mk (st := s_tokenize) l10 c10_ k10
  have b10 := F10.binds (ps := ["text"]) fun _ _ _ _ _ _ us hl => match us, hl with | [_], _ => rfl
  have F11 := fun_mk (st := s_words_of) l11 c11_ k11
  have b11 := F11.binds (ps := ["text"]) fun _ _ _ _ _ _ us hl => match us, hl with | [_], _ => rfl
  have F12 := fun_mk (st := s_is_name) l12 c12_ k12
  have b12 := F12.binds (ps := ["text"]) fun _ _ _ _ _ _ us hl => match us, hl with | [_], _ => rfl
  have F13 := fun_mk (st := s_is_constructor) l13 c13_ k13
  have b13 := F13.binds (ps := ["text"]) fun _ _ _ _ _ _ us hl => match us, hl with | [_], _ => rfl
  have F14 := fun_mk (st := s_is_tail) l14 c14_ k14
  have b14 := F14.binds (ps := ["text"]) fun _ _ _ _ _ _ us hl => match us, hl with | [_], _ => rfl
  have F15 := fun_mk (st := s__law_dice) l15 c15_ k15
  have b15 := F15.binds (ps := ["cell"]) fun _ _ _ _ _ _ us hl => match us, hl with | [_], _ => rfl
  have F16 := fun_mk (st := s__law_roll) l16 c16_ k16
  have b16 := F16.binds (ps := ["dice", "many"]) fun _ _ _ _ _ _ us hl => match us, hl with | [_, _], _ => rfl
  have F17 := fun_mk (st := s__law_rounds) l17 c17_ k17
  have b17 := F17.binds (ps := ["script", "most"]) fun _ _ _ _ _ _ us hl => match us, hl with | [_, _], _ => rfl
  have F18 := fun_mk (st := s__law_told) l18 c18_ k18
  have b18 := F18.binds (ps := ["what"]) fun _ _ _ _ _ _ us hl => match us, hl with | [_], _ => rfl
  have F19 := fun_mk (st := s__law_token) l19 c19_ k19
  have b19 := F19.binds (ps := ["dice"]) fun _ _ _ _ _ _ us hl => match us, hl with | [_], _ => rfl
  have F20 := fun_mk (st := s__law_gap) l20 c20_ k20
  have b20 := F20.binds (ps := ["dice"]) fun _ _ _ _ _ _ us hl => match us, hl with | [_], _ => rfl
  have F21 := fun_mk (st := s__law_moved) l21 c21_ k21
  have b21 := F21.binds (ps := ["text", "line", "column"]) fun _ _ _ _ _ _ us hl => match us, hl with | [_, _, _], _ => rfl
  have F22 := fun_mk (st := s_law) l22 c22_ k22
  have b22 := F22.binds (ps := ["script"]) fun _ _ _ _ _ _ us hl => match us, hl with | [_], _ => rfl
  letI τ : Tbl := ⟨[(PT, qTail), (PL, qLam)]⟩
  have npl : PT ≠ PL := fun z => by rw [z] at ne; simp at ne
  obtain ⟨cdT, tbT⟩ := tabs _ _ _ rT tabT
  obtain ⟨cdL, tbL⟩ := tabs _ _ _ rL tabL
  refine ⟨PySem.W.fnOf "law" "law" (defArgs s_law) (defBody s_law) (defScope s_law) .none kV22 dc22 pm22 an22 (.ref c22) ct22, [(c14, PT), (c22, PL)], upSp K spLaw, ?_, ?_, ?_, fun s u => .of_eq rfl, ?_, fun base KB NB TB => ?_⟩
  · intro p hp
    rcases List.mem_cons.mp hp with rfl | hp
    · exact tbT
    · rw [List.mem_singleton.mp hp]
      exact tbL
  · intro p hp
    rcases List.mem_cons.mp hp with rfl | hp
    · exact pT
    · rw [List.mem_singleton.mp hp]
      exact pL
  · intro p hp
    rcases List.mem_cons.mp hp with rfl | hp
    · exact cdT
    · rw [List.mem_singleton.mp hp]
      exact cdL
  · intro H a ns hl hb hH hS
    exact law_start hS (hH (c14, PT) List.mem_cons_self) (hH (c22, PL) (List.mem_cons_of_mem _ List.mem_cons_self))
  · have TB2 := TB (c22, PL) (List.mem_cons_of_mem _ List.mem_cons_self)
    have D_Token___init__ : Ini l.prog w K mg base CT 1 ["self", "word", "text", "line", "column"] (spTokenI CT) := ⟨f0, _, ⟨mkCT, a0, i0, kcCT⟩, b0, ok_TokenI F0 T⟩
    have D_Token_shown : Mtd l.prog w K mg base CT "shown" 1 ["self"] (spShown CT) := ⟨f1, _, ⟨a1, i1, k1⟩, b1, ok_Shown F1 T⟩
    have D_Lexer___init__ : Ini l.prog w K mg base CL 1 ["self", "text"] (spLexerI CL) := ⟨f2, _, ⟨mkCL, a2, i2, kcCL⟩, b2, ok_LexerI F2 T⟩
    have D_Lexer_here : Mtd l.prog w K mg base CL "here" 1 ["self"] (spHere CL) := ⟨f3, _, ⟨a3, i3, k3⟩, b3, ok_Here F3 T⟩
    have D_Lexer_step : Mtd l.prog w K mg base CL "step" 2 ["self"] (spStep CL) := ⟨f4, _, ⟨a4, i4, k4⟩, b4, ok_Step F4 T D_Lexer_here⟩
    have D_Lexer_skip_blanks : Mtd l.prog w K mg base CL "skip_blanks" 3 ["self"] (spSkip CL) := ⟨f5, _, ⟨a5, i5, k5⟩, b5, ok_Skip F5 T D_Lexer_here D_Lexer_step⟩
    have D_Lexer_run_of : Mtd l.prog w K mg base CL "run_of" 3 ["self", "letters"] (spRun CL) := ⟨f6, _, ⟨a6, i6, k6⟩, b6, ok_Run F6 T D_Lexer_here D_Lexer_step⟩
    have D_Lexer_number : Mtd l.prog w K mg base CL "number" 4 ["self"] (spNumber CL CE) := ⟨f9, _, ⟨a9, i9, k9⟩, b9, ok_Number F9 T D_Lexer_run_of⟩
    have D_Lexer_name_token : Mtd l.prog w K mg base CL "name_token" 5 ["self", "line", "column"] (spName CL CT) := ⟨f8, _, ⟨a8, i8, k8⟩, b8, ok_Name F8 T D_Lexer_here D_Lexer_run_of D_Token___init__⟩
    have D_Lexer_token : Mtd l.prog w K mg base CL "token" 6 ["self"] (spToken CL CT CE) := ⟨f7, _, ⟨a7, i7, k7⟩, b7, ok_Token F7 T D_Lexer_here D_Lexer_step D_Lexer_number D_Lexer_name_token D_Token___init__⟩
    have D_tokenize : Dfn l.prog w K mg base "tokenize" 7 ["text"] (spTokenize CT CE) := ⟨f10, _, PySem.W.mg_of X G a10, k10, b10, ok_Tokenize F10 T D_Lexer___init__ D_Lexer_here D_Lexer_skip_blanks D_Lexer_token D_Token___init__⟩
    have D_words_of : Dfn l.prog w K mg base "words_of" 8 ["text"] (spWords CT) := ⟨f11, _, PySem.W.mg_of X G a11, k11, b11, ok_Words F11 T D_tokenize⟩
    have D_is_tail : Dfn l.prog w K mg base "is_tail" 1 ["text"] spTail := ⟨f14, _, PySem.W.mg_of X G a14, k14, b14, ok_Tail l14 c14_ T (gx_tab (TB (c14, PT) List.mem_cons_self)) List.mem_cons_self (fun p hp e => (List.mem_cons.mp hp).elim (fun z => by rw [z]) fun z => absurd (by rw [List.mem_singleton.mp z] at e; exact e.symm) npl)⟩
    have D_is_name : Dfn l.prog w K mg base "is_name" 2 ["text"] (spIsName) := ⟨f12, _, PySem.W.mg_of X G a12, k12, b12, ok_IsName F12 T D_is_tail⟩
    have D_is_constructor : Dfn l.prog w K mg base "is_constructor" 2 ["text"] (spIsCons) := ⟨f13, _, PySem.W.mg_of X G a13, k13, b13, ok_IsCons F13 T D_is_tail⟩
    have D__law_dice : Dfn l.prog w K mg base "_law_dice" 1 ["cell"] (spDice) := ⟨f15, _, PySem.W.mg_of X G a15, k15, b15, ok_Dice F15 T⟩
    have D__law_roll : Dfn l.prog w K mg base "_law_roll" 1 ["dice", "many"] (spRoll) := ⟨f16, _, PySem.W.mg_of X G a16, k16, b16, ok_Roll F16 T⟩
    have D__law_rounds : Dfn l.prog w K mg base "_law_rounds" 2 ["script", "most"] (spRounds) := ⟨f17, _, PySem.W.mg_of X G a17, k17, b17, ok_Rounds F17 T D__law_dice⟩
    have D__law_token : Dfn l.prog w K mg base "_law_token" 2 ["dice"] (spLTok) := ⟨f19, _, PySem.W.mg_of X G a19, k19, b19, ok_LTok F19 T D__law_roll⟩
    have D__law_gap : Dfn l.prog w K mg base "_law_gap" 2 ["dice"] (spGap) := ⟨f20, _, PySem.W.mg_of X G a20, k20, b20, ok_Gap F20 T D__law_roll⟩
    have D__law_moved : Dfn l.prog w K mg base "_law_moved" 1 ["text", "line", "column"] (spMoved) := ⟨f21, _, PySem.W.mg_of X G a21, k21, b21, ok_Moved F21 T⟩
    have TTd : Told K mg f18 oc18 kV18 dc18 pm18 cd18 ct18 od18 an18 sl18 := ⟨PySem.W.mg_of X G a18, k18, l18, c18_, b18⟩
    exact ok_Law l22 c22_ T TTd TB2 (List.mem_cons_of_mem _ List.mem_cons_self) (fun p hp e => (List.mem_cons.mp hp).elim (fun z => absurd (by rw [z] at e; exact e) npl) fun z => by rw [List.mem_singleton.mp z]) D__law_rounds D__law_roll D__law_token D__law_gap D__law_moved D_tokenize D_words_of D_is_name D_is_constructor D_is_tail D_Token_shown D_Token___init__ D_Lexer___init__ D_Lexer_skip_blanks D_Lexer_token
end K01

namespace K01
open PySem PySem.Spec PyProof.Rows L2 Z
theorem cx_no {P : Program} {w : World} {H : Hp} {s : Shared} {e : Value} {s' : Shared} (h : L2.CX P w [] H s (fun _ _ _ => False) e s') : False := by
  obtain ⟨_, _, _, _, _, _, _, _, _, _, _, _, z⟩ := h
  exact z
/-- the end, with what the head tells of the tables of every def -/
theorem walk_all {l : PySem.W.OpenLaw} {n k : Nat} {q : Program} {loose : List Str} {XP : (Str → Option Value) → Heap → Prop} {YP : World → Heap → Prop} {d : DefRec} {K : Params → PySem.W.Frag} {CX : World → CXT} {x : Str}
    (h1 : l.most = some n) (h2 : n ≤ sizeLine) (h3 : d.params.defaults = []) (h4 : Room k callerA) (h5 : ∀ (w : World) (h : Heap), YP w h → (K w.params).In h)
    (h6 : ∀ (w : World) (mg : Str → Option Value) (fa : Addr) (h : Heap), (K w.params).In h → h.Ns mainGlobals mg → mg d.name = some (.ref fa) →
      (∀ (x : Str) (c P : Addr), ((recsOf q).find? fun e => e.name == x).isSome = true → PySem.W.tabIn (K w.params) x = some (c, P) → PySem.W.CodeHd h c P ∧ h.get? P = some { cls := .none, data := .fields #[] }) → LamX.LawAtS l w (K w.params) (CX w) k n x mg fa h)
    (h7 : ∀ (w : World) (H : Hp) (s : Shared) (e : Value) (s' : Shared), CX w [] H s (fun _ _ _ => False) e s' → False) : PySem.W.WalkO q loose XP YP l.row.toRowW d [] (fun f vs => PySem.call f vs) := by
  refine Att.attach_callB h1 h3 fun w z0 z1 mg mb fa o pm cd doc a vs ns GG YY o1 o2 o3 hm obj nts len bits gns => ?_
  have kx := h5 w _ YY
  obtain ⟨fd, cs, sp, a1, a2, a3, a4, a5, a6⟩ := h6 w mg fa _ kx GG.T.g hm fun x c P r t => by
    obtain ⟨e, he⟩ := Option.isSome_iff_exists.mp r
    exact PySem.W.tab_of GG.T kx he t
  exact LamX.law_callTs kx GG.T.g GG.T.b GG.T.builtins GG.T.nolimit gns a1 a2 a3 GG.T.bmain obj nts (Nat.le_trans len h2) h4 a6 a4 (fun H t u => a5 H a ns len bits t u) fun H e s' => h7 w H z1 e s'
end K01
open PySem PySem.W PyProof.Rows
set_option maxRecDepth 100000 in
set_option maxHeartbeats 0 in
theorem PySem.Challenge.cw_tonguestack_k01_texts_to_tokens_holds : PySem.Challenge.rw_tonguestack_k01_texts_to_tokens.Holds := by
  w_on; o_law; k_head; (case hw => w_witness2)
  k_fill
  refine K01.walk_all (l := PySem.Challenge.rw_tonguestack_k01_texts_to_tokens) (n := 63) (k := 11) (x := "script") (CX := fun w => L2.CX PySem.Challenge.rw_tonguestack_k01_texts_to_tokens.prog w) rfl (by decide) rfl ⟨rfl, by decide, by decide⟩ (fun w h Y => by first | exact PySem.W.kIn_of Y | exact PySem.W.km_in_of Y) ?F (fun _ _ _ _ _ h => K01.cx_no h)
  case F =>
    intro w mg fa h KX G hmg tabs
    refine' K01.all_mk KX G hmg tabs ?a0 ?i0 ?l0 ?c0_ ?k0 ?a1 ?i1 ?l1 ?c1_ ?k1 ?a2 ?i2 ?l2 ?c2_ ?k2 ?a3 ?i3 ?l3 ?c3_ ?k3 ?a4 ?i4 ?l4 ?c4_ ?k4 ?a5 ?i5 ?l5 ?c5_ ?k5 ?a6 ?i6 ?l6 ?c6_ ?k6 ?a7 ?i7 ?l7 ?c7_ ?k7 ?a8 ?i8 ?l8 ?c8_ ?k8 ?a9 ?i9 ?l9 ?c9_ ?k9 ?a10 ?l10 ?c10_ ?k10 ?a11 ?l11 ?c11_ ?k11 ?a12 ?l12 ?c12_ ?k12 ?a13 ?l13 ?c13_ ?k13 ?a14 ?l14 ?c14_ ?k14 ?a15 ?l15 ?c15_ ?k15 ?a16 ?l16 ?c16_ ?k16 ?a17 ?l17 ?c17_ ?k17 ?a18 ?l18 ?c18_ ?k18 ?a19 ?l19 ?c19_ ?k19 ?a20 ?l20 ?c20_ ?k20 ?a21 ?l21 ?c21_ ?k21 ?a22 ?l22 ?c22_ ?k22 ?gCT ?gCL ?gCE ?gCU ?pgCT ?hdCT ?poCT ?saCT ?mkCT ?kcCT ?pgCL ?hdCL ?poCL ?saCL ?mkCL ?kcCL ?nCTword ?nCTtext ?nCTline ?nCTcolumn ?nCLtext ?nCLplace ?nCLline ?nCLcolumn ?xE ?kE ?eE ?tE ?iE ?sE ?vLETTERS ?vCAPITALS ?vDIGITS ?vLONGEST ?vGREATEST ?vKEYWORDS ?vTOKEN_SIGNS ?qK ?qS ?z_len ?z_range ?z_int ?z_str ?z_all ?z_abs ?tabT ?tabL ?pT ?pL ?ne ?rT ?rL
    (case gCT => k_is)
    (case gCL => k_is)
    (case gCE => k_is)
    (case gCU => k_is)
    (case a0 => k_is)
    (case i0 => k_is)
    (case l0 => k_is)
    (case c0_ => k_is)
    (case k0 => k_is)
    (case a1 => k_is)
    (case i1 => k_is)
    (case l1 => k_is)
    (case c1_ => k_is)
    (case k1 => k_is)
    (case a2 => k_is)
    (case i2 => k_is)
    (case l2 => k_is)
    (case c2_ => k_is)
    (case k2 => k_is)
    (case a3 => k_is)
    (case i3 => k_is)
    (case l3 => k_is)
    (case c3_ => k_is)
    (case k3 => k_is)
    (case a4 => k_is)
    (case i4 => k_is)
    (case l4 => k_is)
    (case c4_ => k_is)
    (case k4 => k_is)
    (case a5 => k_is)
    (case i5 => k_is)
    (case l5 => k_is)
    (case c5_ => k_is)
    (case k5 => k_is)
    (case a6 => k_is)
    (case i6 => k_is)
    (case l6 => k_is)
    (case c6_ => k_is)
    (case k6 => k_is)
    (case a7 => k_is)
    (case i7 => k_is)
    (case l7 => k_is)
    (case c7_ => k_is)
    (case k7 => k_is)
    (case a8 => k_is)
    (case i8 => k_is)
    (case l8 => k_is)
    (case c8_ => k_is)
    (case k8 => k_is)
    (case a9 => k_is)
    (case i9 => k_is)
    (case l9 => k_is)
    (case c9_ => k_is)
    (case k9 => k_is)
    (case a10 => k_is)
    (case l10 => k_is)
    (case c10_ => k_is)
    (case k10 => k_is)
    (case a11 => k_is)
    (case l11 => k_is)
    (case c11_ => k_is)
    (case k11 => k_is)
    (case a12 => k_is)
    (case l12 => k_is)
    (case c12_ => k_is)
    (case k12 => k_is)
    (case a13 => k_is)
    (case l13 => k_is)
    (case c13_ => k_is)
    (case k13 => k_is)
    (case a14 => k_is)
    (case l14 => k_is)
    (case c14_ => k_is)
    (case k14 => k_is)
    (case a15 => k_is)
    (case l15 => k_is)
    (case c15_ => k_is)
    (case k15 => k_is)
    (case a16 => k_is)
    (case l16 => k_is)
    (case c16_ => k_is)
    (case k16 => k_is)
    (case a17 => k_is)
    (case l17 => k_is)
    (case c17_ => k_is)
    (case k17 => k_is)
    (case a18 => k_is)
    (case l18 => k_is)
    (case c18_ => k_is)
    (case k18 => k_is)
    (case a19 => k_is)
    (case l19 => k_is)
    (case c19_ => k_is)
    (case k19 => k_is)
    (case a20 => k_is)
    (case l20 => k_is)
    (case c20_ => k_is)
    (case k20 => k_is)
    (case a21 => k_is)
    (case l21 => k_is)
    (case c21_ => k_is)
    (case k21 => k_is)
    (case a22 => k_is)
    (case l22 => k_is)
    (case c22_ => k_is)
    (case k22 => k_is)
    (case pgCT => k_is)
    (case hdCT => k_is)
    (case poCT => k_is)
    (case saCT => k_is)
    (case mkCT => k_is)
    (case kcCT => k_is)
    (case pgCL => k_is)
    (case hdCL => k_is)
    (case poCL => k_is)
    (case saCL => k_is)
    (case mkCL => k_is)
    (case kcCL => k_is)
    (case nCTword => k_is)
    (case nCTtext => k_is)
    (case nCTline => k_is)
    (case nCTcolumn => k_is)
    (case nCLtext => k_is)
    (case nCLplace => k_is)
    (case nCLline => k_is)
    (case nCLcolumn => k_is)
    (case xE => k_exc)
    (case kE => k_is)
    (case eE => k_is)
    (case tE => k_is)
    (case iE => k_is)
    (case sE => first | rfl | k_is)
    (case vLETTERS => k_is)
    (case vCAPITALS => k_is)
    (case vDIGITS => k_is)
    (case vLONGEST => k_is)
    (case vGREATEST => k_is)
    (case vKEYWORDS => k_is)
    (case vTOKEN_SIGNS => k_is)
    (case qK => k_is)
    (case qS => k_is)
    (case z_len => k_is)
    (case z_range => k_is)
    (case z_int => k_is)
    (case z_str => k_is)
    (case z_all => k_is)
    (case z_abs => k_is)
    (case tabT => first | rfl | k_is)
    (case tabL => first | rfl | k_is)
    (case pT => first | rfl | k_is)
    (case pL => first | rfl | k_is)
    (case ne => first | rfl | k_is)
    (case rT => first | rfl | decide | kernel_rfl)
    (case rL => first | rfl | decide | kernel_rfl)

