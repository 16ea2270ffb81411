import PyProof.Rows.All
import Wide.All
import OpenK.AllK
import Wide.FinOn
import HandS.Base
import HandS.Call
import HandS.List
import HandS.Deep
import HandS.Star
import HandS.Style
import HandS.Conv
import HandS.SortInts
import HandS.IsInst
import HandS.RaiseMore
import HandS.Flow
import HandS.StrMore
import HandS.TupAny
import HandS.Comp
import HandS.Dict
import HandS.Iter
import HandS.Text
import HandS.Exc
import HandS.Defaults
import HandS.Wide
import HandS.WideBits
import HandS.Words
import HandS.WordsExc
import HandS.CallSlots
import HandS.Zip
import KE.GoesEnum
import KE.DataEq
import HandS.Ends
import HandS.HeadEnd
import HandS.HeadHook1
import HandS.HeadHook2
import KE.KStateDown
import HandS.More
import HandS.Head0
import HandS.Head1
import HandS.Head2
import PySem.Challenge.RW_twocombs_k33_clashes
/-! W1 -/
section
set_option Elab.async false
set_option linter.all false
set_option maxRecDepth 100000
set_option maxHeartbeats 4000000
set_option autoImplicit false
/-! TW, part 1: data, how values stand for data, the state's relation. -/
namespace TW
open PySem PySem.Spec L2
open PyProof.Rows hiding St

/-- data: what the programs reckon with, by value -/
inductive D where
  | non | bl (b : Bool) | int (i : Int) | str (s : Str)
  | tup (l : List D) | lst (l : List D) | dct (l : List (D × D)) | set (l : List D)
  | ref (a : Addr) | ty (n : String)

mutual
/-- no list, no dict within -/
def D.imm : D → Bool
  | .non => true
  | .bl _ => true
  | .int _ => true
  | .str _ => true
  | .tup l => D.imms l
  | .lst _ => false
  | .dct _ => false
  | .set _ => false
  | .ref _ => true
  | .ty _ => true
def D.imms : List D → Bool
  | [] => true
  | d :: r => D.imm d && D.imms r
end

/-- a list that may be read: a shared one, or one of the module -/
def LsAt (K : PySem.W.Frag) (H : Hp) (S : Addr → Prop) (a : Addr) (vs : List V) : Prop :=
  (S a ∧ Rd H a (.lst vs)) ∨
    ∃ (o : Obj) (its : Array Value) (n : Nat), K.lookup a = some o ∧ o.cls = .type "list" ∧ o.dict = none ∧ o.data = .seq its n ∧ its.size ≤ sizeLine ∧ Vals vs its.toList
theorem LsAt.sq {K : PySem.W.Frag} {H : Hp} {S : Addr → Prop} {a : Addr} {vs : List V} (h : LsAt K H S a vs) : SqL K H a vs := by
  rcases h with ⟨_, h⟩ | h
  · exact .inl h
  · exact .inr h

/-- a dict's keys as data -/
def kD : Key → D
  | .inl i => .int i
  | .inr x => .str x

mutual
/-- the value v stands for the datum d over H; its lists and dicts lie in S -/
def Rep (K : PySem.W.Frag) (H : Hp) (S : Addr → Prop) : D → V → Prop
  | .non, v => v = .non
  | .bl b, v => v = .bl b
  | .int i, v => v = .int i
  | .str x, v => v = .str x
  | .tup l, v => ∃ a vs, v = .ref a ∧ SqT K H a vs ∧ Reps K H S l vs
  | .lst l, v => ∃ a vs, v = .ref a ∧ LsAt K H S a vs ∧ Reps K H S l vs
  | .dct l, v => ∃ a, v = .ref a ∧ S a ∧ ((∃ kvs : List (Key × V), H a = some (.dK kvs) ∧ l.map (·.1) = kvs.map (fun p => kD p.1) ∧ RepVs K H S l (kvs.map (·.2))) ∨
      ∃ kvs : List (List Key × V), H a = some (.dT kvs) ∧ l.map (·.1) = kvs.map (fun p => .tup (p.1.map kD)) ∧ RepVs K H S l (kvs.map (·.2)))
  | .set _, _ => False
  | .ref a, v => v = .ref a
  | .ty n, v => v = .ty n
def Reps (K : PySem.W.Frag) (H : Hp) (S : Addr → Prop) : List D → List V → Prop
  | [], vs => vs = []
  | d :: ds, vs => ∃ v r, vs = v :: r ∧ Rep K H S d v ∧ Reps K H S ds r
def RepVs (K : PySem.W.Frag) (H : Hp) (S : Addr → Prop) : List (D × D) → List V → Prop
  | [], vs => vs = []
  | (_, d) :: ds, vs => ∃ v r, vs = v :: r ∧ Rep K H S d v ∧ RepVs K H S ds r
end

section
variable {K : PySem.W.Frag} {H H' : Hp} {S S' : Addr → Prop}
mutual
theorem Rep.mono (hS : ∀ a, S a → S' a) (hL : ∀ a, S a → H' a = H a) (hT : ∀ a vs, SqT K H a vs → SqT K H' a vs) : ∀ (d : D) (v : V), Rep K H S d v → Rep K H' S' d v
  | .non, _, h => h
  | .bl _, _, h => h
  | .int _, _, h => h
  | .str _, _, h => h
  | .tup l, v, h => by
    obtain ⟨a, vs, rfl, ht, hr⟩ := h
    exact ⟨a, vs, rfl, hT a vs ht, Reps.mono hS hL hT l vs hr⟩
  | .lst l, v, h => by
    obtain ⟨a, vs, rfl, ht, hr⟩ := h
    refine ⟨a, vs, rfl, ?_, Reps.mono hS hL hT l vs hr⟩
    rcases ht with ⟨hs, ht⟩ | ht
    · refine .inl ⟨hS a hs, ?_⟩
      rcases ht with ht | ⟨o, ht⟩
      · exact .inl ((hL a hs).trans ht)
      · exact .inr ⟨o, (hL a hs).trans ht⟩
    · exact .inr ht
  | .dct l, v, h => by
    obtain ⟨a, rfl, hs, h⟩ := h
    refine ⟨a, rfl, hS a hs, ?_⟩
    rcases h with ⟨kvs, h1, h2, h3⟩ | ⟨kvs, h1, h2, h3⟩
    · exact .inl ⟨kvs, (hL a hs).trans h1, h2, RepVs.mono hS hL hT l _ h3⟩
    · exact .inr ⟨kvs, (hL a hs).trans h1, h2, RepVs.mono hS hL hT l _ h3⟩
  | .set _, _, h => h.elim
  | .ref _, _, h => h
  | .ty _, _, h => h
theorem Reps.mono (hS : ∀ a, S a → S' a) (hL : ∀ a, S a → H' a = H a) (hT : ∀ a vs, SqT K H a vs → SqT K H' a vs) : ∀ (ds : List D) (vs : List V), Reps K H S ds vs → Reps K H' S' ds vs
  | [], _, h => h
  | d :: ds, _, h => by
    obtain ⟨v, r, rfl, h1, h2⟩ := h
    exact ⟨v, r, rfl, Rep.mono hS hL hT d v h1, Reps.mono hS hL hT ds r h2⟩
theorem RepVs.mono (hS : ∀ a, S a → S' a) (hL : ∀ a, S a → H' a = H a) (hT : ∀ a vs, SqT K H a vs → SqT K H' a vs) : ∀ (ds : List (D × D)) (vs : List V), RepVs K H S ds vs → RepVs K H' S' ds vs
  | [], _, h => h
  | (k, d) :: ds, _, h => by
    obtain ⟨v, r, rfl, h1, h2⟩ := h
    exact ⟨v, r, rfl, Rep.mono hS hL hT d v h1, RepVs.mono hS hL hT ds r h2⟩
end
mutual
theorem Rep.of_imm : ∀ (d : D) (v : V), d.imm = true → Rep K H S d v → Rep K H S' d v
  | .non, _, _, h => h
  | .bl _, _, _, h => h
  | .int _, _, _, h => h
  | .str _, _, _, h => h
  | .tup l, v, q, h => by
    obtain ⟨a, vs, rfl, ht, hr⟩ := h
    exact ⟨a, vs, rfl, ht, Reps.of_imm l vs q hr⟩
  | .lst _, _, q, _ => by cases q
  | .dct _, _, q, _ => by cases q
  | .set _, _, q, _ => by cases q
  | .ref _, _, _, h => h
  | .ty _, _, _, h => h
theorem Reps.of_imm : ∀ (ds : List D) (vs : List V), D.imms ds = true → Reps K H S ds vs → Reps K H S' ds vs
  | [], _, _, h => h
  | d :: ds, _, q, h => by
    obtain ⟨v, r, rfl, h1, h2⟩ := h
    have q' : (d.imm && D.imms ds) = true := q
    obtain ⟨q1, q2⟩ := Bool.and_eq_true_iff.mp q'
    exact ⟨v, r, rfl, Rep.of_imm d v q1 h1, Reps.of_imm ds r q2 h2⟩
end
theorem Reps.length : ∀ {ds : List D} {vs : List V}, Reps K H S ds vs → vs.length = ds.length
  | [], _, h => by rw [show _ = [] from h]; rfl
  | d :: ds, _, h => by
    obtain ⟨v, r, rfl, _, h2⟩ := h
    simp [Reps.length h2]
theorem Reps.append : ∀ {ds es : List D} {vs us : List V}, Reps K H S ds vs → Reps K H S es us → Reps K H S (ds ++ es) (vs ++ us)
  | [], _, _, _, h, h' => by rw [show _ = [] from h]; exact h'
  | d :: ds, es, _, us, h, h' => by
    obtain ⟨v, r, rfl, h1, h2⟩ := h
    exact ⟨v, r ++ us, rfl, h1, Reps.append h2 h'⟩
theorem Reps.get : ∀ {ds : List D} {vs : List V} {i : Nat} {d : D}, Reps K H S ds vs → ds[i]? = some d → ∃ v, vs[i]? = some v ∧ Rep K H S d v
  | [], _, _, _, _, e => by simp at e
  | d :: ds, _, 0, x, h, e => by
    obtain ⟨v, r, rfl, h1, h2⟩ := h
    simp at e; subst e
    exact ⟨v, rfl, h1⟩
  | d :: ds, _, i + 1, x, h, e => by
    obtain ⟨v, r, rfl, h1, h2⟩ := h
    obtain ⟨u, hu, ru⟩ := Reps.get (i := i) (d := x) h2 (by simpa using e)
    exact ⟨u, by simpa using hu, ru⟩
theorem Reps.set : ∀ {ds : List D} {vs : List V} {d : D} {v : V} (i : Nat), Reps K H S ds vs → Rep K H S d v → Reps K H S (ds.set i d) (vs.set i v)
  | [], _, _, _, _, h, _ => by rw [show _ = [] from h]; exact (show ([] : List V) = [] from rfl)
  | _ :: ds, _, d, v, 0, h, q => by
    obtain ⟨u, r, rfl, h1, h2⟩ := h
    exact ⟨v, r, rfl, q, h2⟩
  | e :: ds, _, d, v, i + 1, h, q => by
    obtain ⟨u, r, rfl, h1, h2⟩ := h
    exact ⟨u, r.set i v, rfl, h1, Reps.set i h2 q⟩
theorem Reps.take : ∀ {ds : List D} {vs : List V} (n : Nat), Reps K H S ds vs → Reps K H S (ds.take n) (vs.take n)
  | _, _, 0, _ => (show ([] : List V) = [] from rfl)
  | [], _, _ + 1, h => by rw [show _ = [] from h]; exact (show ([] : List V) = [] from rfl)
  | d :: ds, _, n + 1, h => by
    obtain ⟨v, r, rfl, h1, h2⟩ := h
    exact ⟨v, r.take n, rfl, h1, Reps.take n h2⟩
theorem Reps.drop : ∀ {ds : List D} {vs : List V} (n : Nat), Reps K H S ds vs → Reps K H S (ds.drop n) (vs.drop n)
  | _, _, 0, h => h
  | [], _, _ + 1, h => by rw [show _ = [] from h]; exact (show ([] : List V) = [] from rfl)
  | d :: ds, _, n + 1, h => by
    obtain ⟨v, r, rfl, h1, h2⟩ := h
    exact Reps.drop n h2
theorem Reps.reverse : ∀ {ds : List D} {vs : List V}, Reps K H S ds vs → Reps K H S ds.reverse vs.reverse
  | [], _, h => by rw [show _ = [] from h]; exact (show ([] : List V) = [] from rfl)
  | d :: ds, _, h => by
    obtain ⟨v, r, rfl, h1, h2⟩ := h
    rw [List.reverse_cons, List.reverse_cons]
    exact Reps.append (Reps.reverse h2) ⟨v, [], rfl, h1, rfl⟩
theorem Reps.one {d : D} {v : V} (h : Rep K H S d v) : Reps K H S [d] [v] := ⟨v, [], rfl, h, rfl⟩
theorem Reps.nil : Reps K H S [] [] := (show ([] : List V) = [] from rfl)
theorem Reps.cons {d : D} {v : V} {ds : List D} {vs : List V} (h : Rep K H S d v) (r : Reps K H S ds vs) : Reps K H S (d :: ds) (v :: vs) := ⟨v, vs, rfl, h, r⟩
theorem Reps.ints : ∀ (ns : List Int), Reps K H S (ns.map D.int) (ns.map V.int)
  | [] => Reps.nil
  | n :: ns => Reps.cons rfl (Reps.ints ns)
theorem Reps.strs : ∀ (ns : List Str), Reps K H S (ns.map D.str) (ns.map V.str)
  | [] => Reps.nil
  | n :: ns => Reps.cons rfl (Reps.strs ns)
theorem Reps.ints_inv : ∀ {ns : List Int} {vs : List V}, Reps K H S (ns.map D.int) vs → vs = ns.map V.int
  | [], _, h => h
  | n :: ns, _, h => by
    obtain ⟨v, r, rfl, h1, h2⟩ := h
    rw [Reps.ints_inv h2, show v = V.int n from h1] <;> rfl
end

/-- H' has all that H has -/
def Ext (H H' : Hp) : Prop := ∀ a o, H a = some o → H' a = some o
theorem Ext.refl (H : Hp) : Ext H H := fun _ _ e => e
theorem Ext.trans {H H1 H2 : Hp} (x : Ext H H1) (y : Ext H1 H2) : Ext H H2 := fun a o e => y a o (x a o e)
theorem Ext.upd {H : Hp} {p : Addr} {o : HO} (n : H p = none) : Ext H (upd H p o) := fun a u e => by rw [upd_ne (ne_of_none e n)]; exact e
theorem Ext.sqT {K : PySem.W.Frag} {H H' : Hp} (x : Ext H H') {a : Addr} {vs : List V} (h : SqT K H a vs) : SqT K H' a vs := by
  rcases h with (h | ⟨o, h⟩) | h
  · exact .inl (.inl (x _ _ h))
  · exact .inl (.inr ⟨o, x _ _ h⟩)
  · exact .inr h
theorem Ext.rep {K : PySem.W.Frag} {H H' : Hp} {S S' : Addr → Prop} (x : Ext H H') (hd : ∀ a, S a → H a ≠ none) (hS : ∀ a, S a → S' a) {d : D} {v : V} (h : Rep K H S d v) : Rep K H' S' d v :=
  Rep.mono hS (fun a hs => by
    cases e : H a with
    | none => exact absurd e (hd a hs)
    | some o => exact x a o e) (fun a vs q => x.sqT q) d v h
theorem Ext.reps {K : PySem.W.Frag} {H H' : Hp} {S S' : Addr → Prop} (x : Ext H H') (hd : ∀ a, S a → H a ≠ none) (hS : ∀ a, S a → S' a) {d : List D} {v : List V} (h : Reps K H S d v) : Reps K H' S' d v :=
  Reps.mono hS (fun a hs => by
    cases e : H a with
    | none => exact absurd e (hd a hs)
    | some o => exact x a o e) (fun a vs q => x.sqT q) d v h

/-- a thing of one's own: a list or a dict at p, its items shared -/
def Cel (K : PySem.W.Frag) (H : Hp) (S : Addr → Prop) (p : Addr) : D → Prop
  | .lst l => ∃ vs, H p = some (.lst vs) ∧ Reps K H S l vs
  | .dct l => (∃ kvs : List (Key × V), H p = some (.dK kvs) ∧ l.map (·.1) = kvs.map (fun p => kD p.1) ∧ RepVs K H S l (kvs.map (·.2))) ∨
      ∃ kvs : List (List Key × V), H p = some (.dT kvs) ∧ l.map (·.1) = kvs.map (fun p => .tup (p.1.map kD)) ∧ RepVs K H S l (kvs.map (·.2))
  | _ => False

/-- a local: not bound; shared data; a thing of its own (made here); a thing that the caller lent to be changed -/
inductive Slot where
  | un | sh (d : D) | ow (d : D) | mp (d : D)
abbrev Loc := List Slot

/-- the slot i holds an own thing at p -/
def Own (ρ : Loc) (σ : St) (p : Addr) : Prop := ∃ (i : Nat) (d : D), (ρ[i]? = some (Slot.ow d) ∨ ρ[i]? = some (Slot.mp d)) ∧ σ[i]? = some (some (V.ref p))

/-- how the locals ρ stand in σ and H: H0 the heap at the def's entry -/
structure Rl (K : PySem.W.Frag) (H0 : Hp) (S : Addr → Prop) (ρ : Loc) (σ : St) (H : Hp) : Prop where
  len : ρ.length = σ.length
  sh : ∀ (i : Nat) (d : D), ρ[i]? = some (Slot.sh d) → ∃ v, σ[i]? = some (some v) ∧ Rep K H S d v
  ow : ∀ (i : Nat) (d : D), ρ[i]? = some (Slot.ow d) → ∃ p, σ[i]? = some (some (V.ref p)) ∧ ¬ S p ∧ H0 p = none ∧ Cel K H S p d
  mp : ∀ (i : Nat) (d : D), ρ[i]? = some (Slot.mp d) → ∃ p, σ[i]? = some (some (V.ref p)) ∧ ¬ S p ∧ H0 p ≠ none ∧ Cel K H S p d
  one : ∀ (i j : Nat) (p : Addr), σ[i]? = some (some (V.ref p)) → σ[j]? = some (some (V.ref p)) → (∃ d, ρ[i]? = some (Slot.ow d) ∨ ρ[i]? = some (Slot.mp d)) → (∃ d, ρ[j]? = some (Slot.ow d) ∨ ρ[j]? = some (Slot.mp d)) → i = j
  dom : ∀ a, S a → H a ≠ none
  old : ∀ (a : Addr) (o : HO), H0 a = some o → (∀ (i : Nat) (d : D), ρ[i]? = some (Slot.mp d) → σ[i]? ≠ some (some (V.ref a))) → H a = some o
  ent : ∀ a, H0 a ≠ none → H a ≠ none

/-- from one state to a later one of the same frame -/
structure Stp (H0 : Hp) (σ : St) (S : Addr → Prop) (ρ : Loc) (H : Hp) (S' : Addr → Prop) (ρ' : Loc) (H' : Hp) : Prop where
  sub : ∀ a, S a → S' a
  new : ∀ a, S' a → S a ∨ H a = none ∨ Own ρ σ a
  keep : ∀ a o, H a = some o → ¬ Own ρ σ a → H' a = some o
  dom : ∀ a, H a ≠ none → H' a ≠ none
  own : ∀ a, Own ρ' σ a → Own ρ σ a
theorem Stp.refl {H0 : Hp} {σ : St} {S : Addr → Prop} {ρ : Loc} {H : Hp} : Stp H0 σ S ρ H S ρ H := ⟨fun _ h => h, fun _ h => .inl h, fun _ _ h _ => h, fun _ h => h, fun _ h => h⟩
theorem Stp.trans {H0 : Hp} {σ : St} {S S1 S2 : Addr → Prop} {ρ ρ1 ρ2 : Loc} {H H1 H2 : Hp} (x : Stp H0 σ S ρ H S1 ρ1 H1) (y : Stp H0 σ S1 ρ1 H1 S2 ρ2 H2) : Stp H0 σ S ρ H S2 ρ2 H2 where
  sub := fun a h => y.sub a (x.sub a h)
  new := fun a h => by
    rcases y.new a h with h | h | h
    · exact x.new a h
    · refine .inr (.inl ?_)
      cases e : H a with
      | none => rfl
      | some o => exact absurd h (x.dom a (by rw [e]; intro q; cases q))
    · exact .inr (.inr (x.own a h))
  keep := fun a o h n => y.keep a o (x.keep a o h n) fun q => n (x.own a q)
  dom := fun a h => y.dom a (x.dom a h)
  own := fun a h => x.own a (y.own a h)

section
variable {K : PySem.W.Frag} {H0 H H' : Hp} {S S' : Addr → Prop} {ρ ρ' : Loc} {σ : St}
theorem Cel.there {p : Addr} {d : D} (h : Cel K H S p d) : ∃ o, H p = some o := by
  cases d with
  | lst l => obtain ⟨vs, e, _⟩ := h; exact ⟨_, e⟩
  | dct l => rcases h with ⟨kvs, e, _⟩ | ⟨kvs, e, _⟩ <;> exact ⟨_, e⟩
  | _ => exact h.elim
theorem Cel.notT {p : Addr} {d : D} (h : Cel K H S p d) {vs : List V} (q : Rd H p (.tup vs)) : False := by
  cases d with
  | lst l =>
    obtain ⟨us, e, _⟩ := h
    rcases q with q | ⟨o, q⟩ <;> (rw [e] at q; cases q)
  | dct l =>
    rcases h with ⟨kvs, e, _⟩ | ⟨kvs, e, _⟩ <;> rcases q with q | ⟨o, q⟩ <;> (rw [e] at q; cases q)
  | _ => exact h.elim
theorem Rl.own_cel (R : Rl K H0 S ρ σ H) {p : Addr} (h : Own ρ σ p) : ∃ d, Cel K H S p d ∧ ¬ S p := by
  obtain ⟨i, d, hd | hd, hs⟩ := h
  · obtain ⟨p', e, n, _, c⟩ := R.ow i d hd
    rw [hs] at e; cases e
    exact ⟨d, c, n⟩
  · obtain ⟨p', e, n, _, c⟩ := R.mp i d hd
    rw [hs] at e; cases e
    exact ⟨d, c, n⟩
theorem Rl.sNotOwn (R : Rl K H0 S ρ σ H) {a : Addr} (h : S a) : ¬ Own ρ σ a := fun q => (R.own_cel q).choose_spec.2 h
/-- what a step keeps of shared data -/
theorem Stp.sqT (x : Stp H0 σ S ρ H S' ρ' H') (R : Rl K H0 S ρ σ H) {a : Addr} {vs : List V} (h : SqT K H a vs) : SqT K H' a vs := by
  rcases h with h | h
  · have n : ¬ Own ρ σ a := fun q => by
      obtain ⟨d, c, _⟩ := R.own_cel q
      exact c.notT h
    rcases h with h | ⟨o, h⟩
    · exact .inl (.inl (x.keep _ _ h n))
    · exact .inl (.inr ⟨o, x.keep _ _ h n⟩)
  · exact .inr h
theorem Stp.at (x : Stp H0 σ S ρ H S' ρ' H') (R : Rl K H0 S ρ σ H) {a : Addr} (h : S a) : H' a = H a := by
  cases e : H a with
  | none => exact absurd e (R.dom a h)
  | some o => exact x.keep a o e (R.sNotOwn h)
theorem Stp.rep (x : Stp H0 σ S ρ H S' ρ' H') (R : Rl K H0 S ρ σ H) {d : D} {v : V} (h : Rep K H S d v) : Rep K H' S' d v :=
  Rep.mono x.sub (fun _ q => x.at R q) (fun _ _ q => x.sqT R q) d v h
theorem Stp.reps (x : Stp H0 σ S ρ H S' ρ' H') (R : Rl K H0 S ρ σ H) {d : List D} {v : List V} (h : Reps K H S d v) : Reps K H' S' d v :=
  Reps.mono x.sub (fun _ q => x.at R q) (fun _ _ q => x.sqT R q) d v h
theorem Stp.repVs (x : Stp H0 σ S ρ H S' ρ' H') (R : Rl K H0 S ρ σ H) {d : List (D × D)} {v : List V} (h : RepVs K H S d v) : RepVs K H' S' d v :=
  RepVs.mono x.sub (fun _ q => x.at R q) (fun _ _ q => x.sqT R q) d v h
/-- a temporary thing's content over a step -/
theorem Stp.cel (x : Stp H0 σ S ρ H S' ρ' H') (R : Rl K H0 S ρ σ H) {p : Addr} {d : D} (n : ¬ Own ρ σ p) (h : Cel K H S p d) : Cel K H' S' p d := by
  cases d with
  | lst l => obtain ⟨vs, e, r⟩ := h; exact ⟨vs, x.keep _ _ e n, x.reps R r⟩
  | dct l =>
    rcases h with ⟨kvs, e, h1, h2⟩ | ⟨kvs, e, h1, h2⟩
    · exact .inl ⟨kvs, x.keep _ _ e n, h1, x.repVs R h2⟩
    · exact .inr ⟨kvs, x.keep _ _ e n, h1, x.repVs R h2⟩
  | _ => exact h.elim
end
end TW
end
/-! W2 -/
section
set_option Elab.async false
set_option linter.all false
set_option maxRecDepth 100000
set_option maxHeartbeats 4000000
set_option autoImplicit false
/-! TW, part 2: the small language and what it does, by value. -/
noncomputable section
namespace TW
open PySem PySem.Spec L2
open PyProof.Rows hiding St

/-- built-in functions -/
inductive BI where
  | len | int_ | str_ | abs | max | min | sum | sorted | list_ | tuple_ | repr | all_ | any_ | divmod
  | isi (ts : List String)
  | sset        -- sorted(set(x))
  | lset        -- len(set(x))
  deriving DecidableEq
/-- methods of built-in types that change nothing -/
inductive MI where
  | join | split | zfill | index | get | replace
  deriving DecidableEq
/-- targets -/
inductive Tg where
  | v (i : Nat)
  | t0 (l : List Nat)
  | tp (a : Nat) (l : List Nat)     -- a, (b, c)
  | pp (l1 l2 : List Nat)     -- (a, b), (c, d)
  deriving DecidableEq
mutual
inductive Ex where
  | var (i : Nat)
  | int (i : Int) | str (s : Str) | bl (b : Bool) | non
  | glob (x : Str) (d : Int)
  | bin (o : Operator) (a b : Ex)
  | neg (a : Ex) | not (a : Ex)
  | cmp (o : CmpOp) (a b : Ex)
  | cmp2 (o o' : CmpOp) (a b c : Ex)
  | and (a b : Ex) | or (a b : Ex)
  | ife (c a b : Ex)
  | tup (es : Es) | lst (es : Es) | dct0 (t : Bool)
  | ix (a b : Ex)
  | sl (a : Ex) (bl : Bool) (lo : Ex) (bh : Bool) (hi : Ex)
  | rev (a : Ex)
  | call (f : Nat) (args : Es) (perm : List Nat)
  | bc (b : BI) (args : Es)
  | mth (m : MI) (o : Ex) (args : Es)
  | lrange (a b : Ex)
  | pop (i : Nat) (args : Es)
  | lc (own : List (Str × Nat)) (t : Tg) (it : Itr) (f : Bool) (c : Ex) (elt : Ex)
  | lc2 (own : List (Str × Nat)) (t : Tg) (it : Itr) (f : Bool) (c : Ex) (vs1 : List Nat) (t1 : Tg) (it1 : Itr) (f1 : Bool) (c1 : Ex) (elt : Ex)
inductive Es where
  | nil | cons (star : Bool) (e : Ex) (r : Es)
inductive Itr where
  | seq (e : Ex) | r1 (a : Ex) | r2 (a b : Ex) | r3 (a b c : Ex) | enum (e : Ex) | zip (a b : Ex)
end
mutual
inductive Sm where
  | asg (t : Tg) (own : Bool) (e : Ex)
  | asgp (l : List (Tg × Bool)) (es : Es)      -- x, y = a, b
  | setix (i : Nat) (k : Ex) (e : Ex)
  | aug (i : Nat) (o : Operator) (e : Ex)
  | augix (i : Nat) (k : Ex) (o : Operator) (e : Ex)
  | app (i : Nat) (e : Ex)
  | exp (e : Ex)
  | ifs (c : Ex) (a b : Ss)
  | for_ (t : Tg) (it : Itr) (b : Ss)
  | while_ (c : Ex) (b : Ss)
  | ret (e : Ex) | retN
  | raise
  | brk | cont | pass
inductive Ss where
  | nil | cons (s : Sm) (r : Ss)
end

/-- an exception: its class, its field -/
structure Exn where
  c : Nat
  fld : Option D
inductive Res (α : Type) where
  | ok (a : α) (ρ : Loc) | ex (x : Exn) (ρ : Loc) | no
/-- an operand: shared data; a new thing that nobody else has; a local's own thing, lent -/
inductive Opd where
  | v (d : D) | f (d : D) | b (i : Nat)
inductive FRes where
  | ok (d : D) (m : Option D) | ex (x : Exn) (m : Option D) | no
structure FSig where
  np : Nat
  lent : Option Nat
  fresh : Bool
  run : List D → FRes
abbrev Fns := Nat → FSig

@[simp] def Res.bd {α β : Type} (x : Res α) (f : α → Loc → Res β) : Res β := match x with
  | .ok a ρ => f a ρ
  | .ex x ρ => .ex x ρ
  | .no => .no
@[simp] def Res.of {α : Type} (x : Option α) (ρ : Loc) : Res α := match x with
  | some a => .ok a ρ
  | none => .no
@[simp] def Opd.get (ρ : Loc) : Opd → Option D
  | .v d => some d
  | .f d => some d
  | .b i => match ρ[i]? with
    | some (.ow d) => some d
    | some (.mp d) => some d
    | some (.sh d) => some d
    | _ => none
/-- an operand that goes into data -/
@[simp] def Opd.esc (ρ : Loc) : Opd → Res D
  | .v d => .ok d ρ
  | .f d => .ok d ρ
  | .b i => match ρ[i]? with
    | some (.ow d) => .ok d (ρ.set i (.sh d))
    | some (.sh d) => .ok d ρ
    | _ => .no

/-! ### operations by value -/
mutual
def D.py : D → Option PyData
  | .non => some .none
  | .bl b => some (.bool b)
  | .int i => some (.int i)
  | .str s => some (.str s)
  | .tup l => (D.pys l).map .tuple
  | .lst l => (D.pys l).map .list
  | _ => none
def D.pys : List D → Option (List PyData)
  | [] => some []
  | d :: r => match D.py d, D.pys r with
    | some p, some q => some (p :: q)
    | _, _ => none
end
/-- data that may be compared -/
def shp (d : PyData) : Bool := d.plain && decide (d.depth ≤ 64)
def eqD (d e : D) : Option Bool := match d.py, e.py with
  | some p, some q => if shp p && shp q then some (PyData.eqv p q) else none
  | _, _ => none
def truD : D → Option Bool
  | .non => some false
  | .bl b => some b
  | .int i => some (i != 0)
  | .str s => if s.length ≤ sizeLine then some ((s.length : Int) != 0) else none
  | .tup l => some (!l.isEmpty)
  | .lst l => some (!l.isEmpty)
  | _ => none
/-- ints that may be multiplied, divided by -/
def smallI (i : Int) : Bool := decide (i.natAbs < 2 ^ 8999)
def mulI (i : Int) : Bool := decide (i.natAbs < 2 ^ 1048576)
def okI (i : Int) : Bool := decide (i.natAbs < 4611686018427387904)
theorem okI_eq (i : Int) : okI i = (decide (-(2 ^ 62) < i) && decide (i < 2 ^ 62)) := by
  unfold okI
  by_cases h : i.natAbs < 4611686018427387904
  · rw [decide_eq_true h, decide_eq_true (by omega), decide_eq_true (by omega)]; rfl
  · rw [decide_eq_false h]
    by_cases h1 : -(2 ^ 62) < i
    · rw [decide_eq_true h1, decide_eq_false (by omega)]; rfl
    · rw [decide_eq_false h1]; rfl
def binD (o : Operator) (d e : D) : Option Opd := match o, d, e with
  | .Add, .int i, .int j => some (.v (.int (i + j)))
  | .Sub, .int i, .int j => some (.v (.int (i - j)))
  | .Mult, .int i, .int j => if mulI i && mulI j then some (.v (.int (i * j))) else none
  | .FloorDiv, .int i, .int j => if decide (0 < j) && smallI j then some (.v (.int (i / j))) else none
  | .Mod, .int i, .int j => if 0 < j then some (.v (.int (i % j))) else none
  | .Pow, .int i, .int j => if decide (0 ≤ j) && decide (j ≤ 200) && smallI i then some (.v (.int (i ^ j.toNat))) else none
  | .Add, .str s, .str t => if s.length + t.length ≤ sizeLine then some (.v (.str (s ++ t))) else none
  | .Add, .lst l, .lst m => if l.length + m.length ≤ sizeLine then some (.f (.lst (l ++ m))) else none
  | .Mult, .lst l, .int j => if decide (l.length * j.toNat ≤ sizeLine) && okI j then some (.f (.lst ((List.replicate j.toNat l).flatten))) else none
  | _, _, _ => none
def negD : D → Option D
  | .int i => some (.int (-i))
  | _ => none
def inD (d e : D) : Option Bool := match e with
  | .lst l => match d.py, D.pys l with
    | some p, some ps => if shp p && shp (.list ps) then some (ps.any fun z => PyData.eqv z p) else none
    | _, _ => none
  | _ => none
def inS (d e : D) : Option Bool := match d, e with
  | .str t, .str s => match t.cps.toList with
    | [c] => some (decide (c ∈ s.cps.toList))
    | _ => none
  | _, _ => none
def isND (d e : D) : Option Bool := match e, d with
  | .non, .non => some true
  | .non, _ => some false
  | _, _ => none
def cmpD (o : CmpOp) (d e : D) : Option Bool := match o, d, e with
  | .Lt, .int i, .int j => some (decide (i < j))
  | .LtE, .int i, .int j => some (decide (i ≤ j))
  | .Gt, .int i, .int j => some (decide (j < i))
  | .GtE, .int i, .int j => some (decide (j ≤ i))
  | .Eq, d, e => eqD d e
  | .NotEq, d, e => (eqD d e).map (!·)
  | .In, .str t, .str s => inS (.str t) (.str s)
  | .In, d, e => inD d e
  | .NotIn, d, e => (inD d e).map (!·)
  | .Is, d, e => isND d e
  | .IsNot, d, e => (isND d e).map (!·)
  | _, _, _ => none
def ixD (d e : D) : Option D := match d, e with
  | .lst l, .int i => atI l i
  | .tup l, .int i => atI l i
  | .str s, .int i => if s.length ≤ sizeLine then (atI s.cps.toList i).map fun c => .str ⟨#[c]⟩ else none
  | _, _ => none
/-- a slice's bound -/
def ptD : D → Option (Option Int)
  | .int i => some (some i)
  | _ => none
def cutL {α : Type} (xs : List α) (lo hi : Option Int) : List α := (xs.drop (HT.sIx xs.length 0 lo)).take (HT.sIx xs.length xs.length hi - HT.sIx xs.length 0 lo)
def slD (d : D) (lo hi : Option Int) : Option Opd := match d with
  | .lst l => some (.f (.lst (cutL l lo hi)))
  | .str z => if z.length ≤ sizeLine then some (.v (.str (cutS z lo hi))) else none
  | _ => none
def revD : D → Option Opd
  | .lst l => some (.f (.lst l.reverse))
  | _ => none
def intsD : List D → Option (List Int)
  | [] => some []
  | .int i :: r => (intsD r).map (i :: ·)
  | _ :: _ => none
def blsD : List D → Option (List Bool)
  | [] => some []
  | .bl i :: r => (blsD r).map (i :: ·)
  | _ :: _ => none
def strsD : List D → Option (List Str)
  | [] => some []
  | .str i :: r => (strsD r).map (i :: ·)
  | _ :: _ => none
def maxL : List Int → Option Int
  | [] => none
  | a :: r => some (r.foldl (fun m x => if x > m then x else m) a)
def minL : List Int → Option Int
  | [] => none
  | a :: r => some (r.foldl (fun m x => if x < m then x else m) a)
def isiD (d : D) (t : String) : Bool := match d with
  | .non => false
  | .bl _ => t == "int" || t == "bool"
  | .int _ => t == "int"
  | .str _ => t == "str"
  | .tup _ => t == "tuple"
  | .lst _ => t == "list"
  | .dct _ => t == "dict"
  | .set _ => t == "set"
  | _ => false
def isiOk : D → Bool
  | .ref _ => false
  | .ty _ => false
  | _ => true
/-- the text of a datum -/
def reprD (d : D) : Option Str := match d.py with
  | some p => if p.showable && decide (p.shown.length ≤ sizeLine) && decide (p.depth ≤ 60) then some p.shown else none
  | none => none
def b_len : List D → Option Opd
  | [.lst l] => some (.v (.int l.length))
  | [.tup l] => some (.v (.int l.length))
  | [.str s] => if s.length ≤ sizeLine then some (.v (.int s.length)) else none
  | _ => none
def b_int_ : List D → Option Opd
  | [.int i] => some (.v (.int i))
  | [.bl b] => some (.v (.int (if b then 1 else 0)))
  | _ => none
def b_str_ : List D → Option Opd
  | [.int i] => if i.natAbs.log2 < 1920 then some (.v (.str (toString i))) else none
  | _ => none
def b_abs : List D → Option Opd
  | [.int i] => some (.v (.int (if i < 0 then -i else i)))
  | _ => none
def b_max : List D → Option Opd
  | [.int i, .int j] => some (.v (.int (if j > i then j else i)))
  | [.lst l] => ((intsD l).bind maxL).map fun m => .v (.int m)
  | _ => none
def b_min : List D → Option Opd
  | [.int i, .int j] => some (.v (.int (if j < i then j else i)))
  | [.lst l] => ((intsD l).bind minL).map fun m => .v (.int m)
  | _ => none
def b_sum : List D → Option Opd
  | [.lst l] => (intsD l).map fun ns => .v (.int ns.sum)
  | _ => none
def b_all_ : List D → Option Opd
  | [.lst l] => (blsD l).map fun bs => .v (.bl (bs.all id))
  | _ => none
def b_list_ : List D → Option Opd
  | [.lst l] => some (.f (.lst l))
  | [.tup l] => some (.f (.lst l))
  | _ => none
def b_tuple_ : List D → Option Opd
  | [.lst l] => some (.v (.tup l))
  | [.tup l] => some (.v (.tup l))
  | _ => none
def b_sorted : List D → Option Opd
  | [.lst l] => (intsD l).map fun ns => .f (.lst ((ns.mergeSort (· ≤ ·)).map .int))
  | _ => none
def b_repr : List D → Option Opd
  | [d] => (reprD d).map fun s => .v (.str s)
  | _ => none
def b_isi (ts : List String) : List D → Option Opd
  | [d] => if isiOk d then some (.v (.bl (ts.any (isiD d)))) else none
  | _ => none
def b_divmod : List D → Option Opd
  | [.int i, .int j] => if decide (0 < j) && smallI j && smallI i then some (.v (.tup [.int (i / j), .int (i % j)])) else none
  | _ => none
def b_sset : List D → Option Opd
  | [.lst l] => (intsD l).map fun ns => .f (.lst ((ns.eraseDups.mergeSort (· ≤ ·)).map .int))
  | _ => none
def biD : BI → List D → Option Opd
  | .len => b_len
  | .int_ => b_int_
  | .str_ => b_str_
  | .abs => b_abs
  | .max => b_max
  | .min => b_min
  | .sum => b_sum
  | .all_ => b_all_
  | .list_ => b_list_
  | .tuple_ => b_tuple_
  | .sorted => b_sorted
  | .repr => b_repr
  | .isi ts => b_isi ts
  | .divmod => b_divmod
  | .sset => b_sset
  | .lset => fun _ => none
  | .any_ => fun _ => none
def mtD (m : MI) (o : D) (ds : List D) : Option Opd := match m, o, ds with
  | .join, .str s, [.lst l] => (strsD l).bind fun ss => if (ss.map (·.length)).sum + ss.length * s.length ≤ 16777216 then some (.v (.str (Txt.join s ss))) else none
  | .split, .str s, [.str t] => if decide (t.length = 1) && decide (s.length + 2 ≤ sizeLine) then some (.f (.lst ((Txt.split s t).map .str))) else none
  | _, _, _ => none
def rngD (a : Int) (n : Nat) (c : Int) : List D := (List.range n).map fun (i : Nat) => .int (a + (i : Int) * c)
def lrD (d e : D) : Option Opd := match d, e with
  | .int i, .int j => if okI i && okI j && decide ((j - i).toNat ≤ 2 ^ 24) then some (.f (.lst (rngD i (j - i).toNat 1))) else none
  | _, _ => none
def itD : D → Option (List D)
  | .lst l => some l
  | .tup l => some l
  | .str s => some (s.cps.toList.map fun c => .str ⟨#[c]⟩)
  | _ => none
def enumD : Nat → List D → List D
  | _, [] => []
  | n, d :: r => .tup [.int n, d] :: enumD (n + 1) r
def enD : D → Option (List D)
  | .lst l => some (enumD 0 l)
  | .tup l => some (enumD 0 l)
  | _ => none
def zipD : D → D → Option (List D)
  | .lst l, .lst m => some (List.zipWith (fun d e => .tup [d, e]) l m)
  | .tup l, .tup m => some (List.zipWith (fun d e => .tup [d, e]) l m)
  | _, _ => none
/-! ### targets -/
def setSh (ρ : Loc) (i : Nat) (d : D) : Option Loc := match ρ[i]? with
  | some (.mp _) => none
  | some _ => some (ρ.set i (.sh d))
  | none => none
def setAll : Loc → List Nat → List D → Option Loc
  | ρ, [], [] => some ρ
  | ρ, i :: is, d :: ds => match setSh ρ i d with
    | some ρ' => setAll ρ' is ds
    | none => none
  | _, _, _ => none
def tgD (t : Tg) (d : D) (ρ : Loc) : Option Loc := match t, d with
  | .v i, d => setSh ρ i d
  | .t0 l, .tup ds => setAll ρ l ds
  | .tp a l, .tup [d, .tup ds] => match setSh ρ a d with
    | some ρ' => setAll ρ' l ds
    | none => none
  | .pp l1 l2, .tup [.tup ds, .tup es] => match setAll ρ l1 ds with
    | some ρ' => setAll ρ' l2 es
    | none => none
  | _, _ => none
def storeP : List (Tg × Bool) → List (Bool × D) → Loc → Option Loc
  | [], [], ρ => some ρ
  | (.v i, true) :: l, (true, d) :: ds, ρ => match ρ[i]? with
    | some (.mp _) => none
    | some _ => storeP l ds (ρ.set i (.ow d))
    | none => none
  | (t, false) :: l, (false, d) :: ds, ρ => match tgD t d ρ with
    | some ρ' => storeP l ds ρ'
    | none => none
  | _, _, _ => none
/-! ### calls -/
def getAll (ρ : Loc) : List Opd → Option (List D)
  | [] => some []
  | o :: r => match o.get ρ, getAll ρ r with
    | some d, some ds => some (d :: ds)
    | _, _ => none
def frz (ρ : Loc) : List Opd → Option Loc
  | [] => some ρ
  | .b i :: r => match ρ[i]? with
    | some (.ow d) => frz (ρ.set i (.sh d)) r
    | some (.sh _) => frz ρ r
    | _ => none
  | _ :: r => frz ρ r
def noB : List Opd → Bool
  | [] => true
  | .b _ :: _ => false
  | _ :: r => noB r
def flatD : D → Bool
  | .lst l => D.imms l
  | d => d.imm
def opdOf (fresh : Bool) (d : D) : Opd := if fresh then .f d else .v d
def callD (sg : FSig) (os : List Opd) (ρ : Loc) : Res Opd :=
  if os.length = sg.np then match getAll ρ os with
    | none => .no
    | some ds => match sg.lent with
      | none => match sg.run ds with
        | .ok d _ => if d.imm || (sg.fresh && flatD d) then .ok (opdOf sg.fresh d) ρ else match frz ρ os with
          | some ρ' => .ok (opdOf sg.fresh d) ρ'
          | none => .no
        | .ex x _ => .ex x ρ
        | .no => .no
      | some k => match os[k]?, noB (os.eraseIdx k) with
        | some (.b j), true => match sg.run ds with
          | .ok d (some m) => match ρ[j]? with
            | some (.ow _) => .ok (opdOf sg.fresh d) (ρ.set j (.ow m))
            | some (.mp _) => .ok (opdOf sg.fresh d) (ρ.set j (.mp m))
            | _ => .no
          | _ => .no
        | _, _ => .no
  else .no
def pmut (perm : List Nat) (os : List Opd) : List Opd := match perm with
  | [] => os
  | p => p.filterMap fun j => os[j]?
/-! ### comprehensions -/
def wipeL (ρ : Loc) : List Nat → Loc
  | [] => ρ
  | v :: vs => (wipeL ρ vs).set v .un
/-- the block's own slots as they stood -/
def backL (ρ ρ' : Loc) : List Nat → Loc
  | [] => ρ'
  | v :: vs => (backL ρ ρ' vs).set v (ρ.getD v .un)
/-- nothing of one's own in these slots -/
def clrL (ρ : Loc) (vs : List Nat) : Bool := vs.all fun v => match ρ[v]? with
  | some .un => true
  | some (.sh _) => true
  | _ => false
def lcL (own : List Nat) (t : Tg) (c : Loc → Res Bool) (e : Loc → Res Opd) : List D → List D → Loc → Res (List D)
  | [], acc, ρ => .ok acc ρ
  | d :: ds, acc, ρ => match tgD t d ρ with
    | none => .no
    | some ρ1 => match c ρ1 with
      | .ok true ρ2 => match e ρ2 with
        | .ok x ρ3 => match x.esc ρ3 with
          | .ok y ρ4 => if decide (acc.length < sizeLine) && clrL ρ4 own then lcL own t c e ds (acc ++ [y]) (wipeL ρ4 own) else .no
          | _ => .no
        | _ => .no
      | .ok false ρ2 => if clrL ρ2 own then lcL own t c e ds acc (wipeL ρ2 own) else .no
      | _ => .no
def lc2L (own vs1 : List Nat) (t : Tg) (c : Loc → Res Bool) (it1 : Loc → Res (List D)) (t1 : Tg) (c1 : Loc → Res Bool) (e : Loc → Res Opd) : List D → List D → Loc → Res (List D)
  | [], acc, ρ => .ok acc ρ
  | d :: ds, acc, ρ => match tgD t d ρ with
    | none => .no
    | some ρ1 => match c ρ1 with
      | .ok true ρ2 => match it1 ρ2 with
        | .ok ds1 ρ3 => if clrL ρ3 vs1 then match lcL vs1 t1 c1 e ds1 acc (wipeL ρ3 vs1) with
          | .ok acc' ρ4 => if clrL ρ4 own then lc2L own vs1 t c it1 t1 c1 e ds acc' (wipeL ρ4 own) else .no
          | _ => .no else .no
        | _ => .no
      | .ok false ρ2 => if clrL ρ2 own then lc2L own vs1 t c it1 t1 c1 e ds acc (wipeL ρ2 own) else .no
      | _ => .no
/-! ### statements -/
inductive Fl where
  | nx | rt (o : Opd) | bk | ct
def forL (t : Tg) (b : Loc → Res Fl) : List D → Loc → Res Fl
  | [], ρ => .ok .nx ρ
  | d :: ds, ρ => match tgD t d ρ with
    | none => .no
    | some ρ1 => match b ρ1 with
      | .ok .nx ρ2 => forL t b ds ρ2
      | .ok .ct ρ2 => forL t b ds ρ2
      | .ok .bk ρ2 => .ok .nx ρ2
      | .ok (.rt o) ρ2 => .ok (.rt o) ρ2
      | .ex x ρ2 => .ex x ρ2
      | .no => .no
def wN (c : Loc → Res Bool) (b : Loc → Res Fl) : Nat → Loc → Option (Res Fl)
  | 0, _ => none
  | n + 1, ρ => match c ρ with
    | .ok true ρ1 => match b ρ1 with
      | .ok .nx ρ2 => wN c b n ρ2
      | .ok .ct ρ2 => wN c b n ρ2
      | .ok .bk ρ2 => some (.ok .nx ρ2)
      | .ok (.rt o) ρ2 => some (.ok (.rt o) ρ2)
      | .ex x ρ2 => some (.ex x ρ2)
      | .no => some .no
    | .ok false ρ1 => some (.ok .nx ρ1)
    | .ex x ρ1 => some (.ex x ρ1)
    | .no => some .no
open Classical in
def whL (c : Loc → Res Bool) (b : Loc → Res Fl) (ρ : Loc) : Res Fl := if h : ∃ n r, wN c b n ρ = some r then h.choose_spec.choose else .no
def popD (d : D) (ds : List D) : Option (D × D) := match d, ds with
  | .lst l, [] => match l.getLast? with
    | some x => some (x, .lst l.dropLast)
    | none => none
  | .lst l, [.int i] => if okI i then match ixN l.length i with
    | some j => match l[j]? with
      | some x => some (x, .lst (l.eraseIdx j))
      | none => none
    | none => none else none
  | _, _ => none
def setD (d k e : D) : Option D := match d, k with
  | .lst l, .int i => match ixN l.length i with
    | some j => some (.lst (l.set j e))
    | none => none
  | _, _ => none
def appD (d e : D) : Option D := match d with
  | .lst l => if l.length < sizeLine then some (.lst (l ++ [e])) else none
  | _ => none
def ownD (ρ : Loc) (i : Nat) : Option D := match ρ[i]? with
  | some (.ow d) => some d
  | some (.mp d) => some d
  | _ => none
def ownL (ρ : Loc) (i : Nat) : Bool := match ownD ρ i with
  | some (.lst _) => true
  | _ => false
def setOwn (ρ : Loc) (i : Nat) (d : D) : Loc := match ρ[i]? with
  | some (.ow _) => ρ.set i (.ow d)
  | some (.mp _) => ρ.set i (.mp d)
  | _ => ρ
section
variable (φ : Fns)
mutual
def evO : Ex → Loc → Res Opd
  | .var i, ρ => match ρ[i]? with
    | some (.sh d) => .ok (.v d) ρ
    | some (.ow _) => .ok (.b i) ρ
    | some (.mp _) => .ok (.b i) ρ
    | _ => .no
  | .int i, ρ => .ok (.v (.int i)) ρ
  | .str s, ρ => .ok (.v (.str s)) ρ
  | .bl b, ρ => .ok (.v (.bl b)) ρ
  | .non, ρ => .ok (.v .non) ρ
  | .glob _ i, ρ => .ok (.v (.int i)) ρ
  | .bin o a b, ρ => (evO a ρ).bd fun x ρ1 => (evO b ρ1).bd fun y ρ2 => match x.get ρ2, y.get ρ2 with
    | some d, some e => .of (binD o d e) ρ2
    | _, _ => .no
  | .neg a, ρ => (evO a ρ).bd fun x ρ1 => match x.get ρ1 with
    | some d => .of ((negD d).map .v) ρ1
    | none => .no
  | .not a, ρ => (evO a ρ).bd fun x ρ1 => match (x.get ρ1).bind truD with
    | some t => .ok (.v (.bl !t)) ρ1
    | none => .no
  | .cmp o a b, ρ => (evO a ρ).bd fun x ρ1 => (evO b ρ1).bd fun y ρ2 => match x.get ρ2, y.get ρ2 with
    | some d, some e => .of ((cmpD o d e).map fun t => .v (.bl t)) ρ2
    | _, _ => .no
  | .cmp2 o o' a b c, ρ => (evO a ρ).bd fun x ρ1 => (evO b ρ1).bd fun y ρ2 => match x.get ρ2, y.get ρ2 with
    | some d, some e => match cmpD o d e with
      | some true => (evO c ρ2).bd fun z ρ3 => match y.get ρ3, z.get ρ3 with
        | some e, some f => .of ((cmpD o' e f).map fun t => .v (.bl t)) ρ3
        | _, _ => .no
      | some false => .ok (.v (.bl false)) ρ2
      | none => .no
    | _, _ => .no
  | .and a b, ρ => (evO a ρ).bd fun x ρ1 => match x.get ρ1 with
    | some (.bl true) => evO b ρ1
    | some (.bl false) => .ok (.v (.bl false)) ρ1
    | _ => .no
  | .or a b, ρ => (evO a ρ).bd fun x ρ1 => match x.get ρ1 with
    | some (.bl false) => evO b ρ1
    | some (.bl true) => .ok (.v (.bl true)) ρ1
    | _ => .no
  | .ife c a b, ρ => (evO c ρ).bd fun x ρ1 => match (x.get ρ1).bind truD with
    | some true => evO a ρ1
    | some false => evO b ρ1
    | none => .no
  | .tup es, ρ => (evEs es ρ).bd fun ds ρ1 => if ds.length ≤ sizeLine then .ok (.v (.tup ds)) ρ1 else .no
  | .lst es, ρ => (evEs es ρ).bd fun ds ρ1 => if ds.length ≤ sizeLine then .ok (.f (.lst ds)) ρ1 else .no
  | .dct0 _, ρ => .ok (.f (.dct [])) ρ
  | .ix a b, ρ => (evO a ρ).bd fun x ρ1 => (evO b ρ1).bd fun y ρ2 => match x.get ρ2, y.get ρ2 with
    | some d, some e => .of ((ixD d e).map .v) ρ2
    | _, _ => .no
  | .sl a bl lo bh hi, ρ => (evO a ρ).bd fun x ρ1 => (if bl then (evO lo ρ1).bd fun y ρ' => .of ((y.get ρ').bind ptD) ρ' else .ok none ρ1).bd fun l ρ2 =>
      (if bh then (evO hi ρ2).bd fun y ρ' => .of ((y.get ρ').bind ptD) ρ' else .ok none ρ2).bd fun h ρ3 => match x.get ρ3 with
    | some d => .of (slD d l h) ρ3
    | none => .no
  | .rev a, ρ => (evO a ρ).bd fun x ρ1 => match x.get ρ1 with
    | some d => .of (revD d) ρ1
    | none => .no
  | .call f args perm, ρ => (evAs args ρ).bd fun os ρ1 => callD (φ f) (pmut perm os) ρ1
  | .bc b args, ρ => (evAs args ρ).bd fun os ρ1 => match getAll ρ1 os with
    | some ds => .of (biD b ds) ρ1
    | none => .no
  | .mth m o args, ρ => (evO o ρ).bd fun x ρ1 => match x.get ρ1 with
    | some (.str s) => (evAs args ρ1).bd fun os ρ2 => match getAll ρ2 os with
      | some ds => .of (mtD m (.str s) ds) ρ2
      | none => .no
    | _ => .no
  | .lrange a b, ρ => (evO a ρ).bd fun x ρ1 => (evO b ρ1).bd fun y ρ2 => match x.get ρ2, y.get ρ2 with
    | some d, some e => .of (lrD d e) ρ2
    | _, _ => .no
  | .pop i args, ρ => if ownL ρ i then (evAs args ρ).bd fun os ρ1 => match getAll ρ1 os, ownD ρ1 i with
    | some ds, some d => match popD d ds with
      | some (x, d') => .ok (.v x) (setOwn ρ1 i d')
      | none => .no
    | _, _ => .no else .no
  | .lc own t it f c elt, ρ => (evIt it ρ).bd fun ds ρ1 => if clrL ρ1 (own.map (·.2)) then
      (lcL (own.map (·.2)) t (fun ρ => if f then (evO c ρ).bd fun x ρ1 => .of ((x.get ρ1).bind truD) ρ1 else .ok true ρ) (fun ρ => evO elt ρ) ds [] (wipeL ρ1 (own.map (·.2)))).bd fun l ρ2 =>
        .ok (.f (.lst l)) (backL ρ1 ρ2 (own.map (·.2))) else .no
  | .lc2 own t it f c vs1 t1 it1 f1 c1 elt, ρ => (evIt it ρ).bd fun ds ρ1 => if clrL ρ1 (own.map (·.2)) then
      (lc2L (own.map (·.2)) vs1 t (fun ρ => if f then (evO c ρ).bd fun x ρ1 => .of ((x.get ρ1).bind truD) ρ1 else .ok true ρ) (fun ρ => evIt it1 ρ) t1
        (fun ρ => if f1 then (evO c1 ρ).bd fun x ρ1 => .of ((x.get ρ1).bind truD) ρ1 else .ok true ρ) (fun ρ => evO elt ρ) ds [] (wipeL ρ1 (own.map (·.2)))).bd fun l ρ2 =>
        .ok (.f (.lst l)) (backL ρ1 ρ2 (own.map (·.2))) else .no
def evEs : Es → Loc → Res (List D)
  | .nil, ρ => .ok [] ρ
  | .cons false e r, ρ => (evO e ρ).bd fun x ρ1 => (x.esc ρ1).bd fun d ρ2 => (evEs r ρ2).bd fun ds ρ3 => .ok (d :: ds) ρ3
  | .cons true e r, ρ => (evO e ρ).bd fun x ρ1 => match x.get ρ1 with
    | some (.lst l) => (evEs r ρ1).bd fun ds ρ2 => .ok (l ++ ds) ρ2
    | some (.tup l) => (evEs r ρ1).bd fun ds ρ2 => .ok (l ++ ds) ρ2
    | _ => .no
def evAs : Es → Loc → Res (List Opd)
  | .nil, ρ => .ok [] ρ
  | .cons _ e r, ρ => (evO e ρ).bd fun x ρ1 => (evAs r ρ1).bd fun os ρ2 => .ok (x :: os) ρ2
def evIt : Itr → Loc → Res (List D)
  | .seq e, ρ => (evO e ρ).bd fun x ρ1 => (x.esc ρ1).bd fun d ρ2 => .of (itD d) ρ2
  | .r1 a, ρ => (evO a ρ).bd fun x ρ1 => match x.get ρ1 with
    | some (.int j) => if okI j then .ok (rngD 0 j.toNat 1) ρ1 else .no
    | _ => .no
  | .r2 a b, ρ => (evO a ρ).bd fun x ρ1 => (evO b ρ1).bd fun y ρ2 => match x.get ρ2, y.get ρ2 with
    | some (.int i), some (.int j) => if okI i && okI j then .ok (rngD i (j - i).toNat 1) ρ2 else .no
    | _, _ => .no
  | .r3 a b c, ρ => (evO a ρ).bd fun x ρ1 => (evO b ρ1).bd fun y ρ2 => (evO c ρ2).bd fun z ρ3 => match x.get ρ3, y.get ρ3, z.get ρ3 with
    | some (.int i), some (.int j), some (.int k) => if decide (k ≠ 0) && decide (k.natAbs < 1073741824) && Builtin.Range.small i j k && decide (0 ≤ Builtin.Range.rangeSize i j k) then .ok (rngD i (Builtin.Range.rangeSize i j k).toNat k) ρ3 else .no
    | _, _, _ => .no
  | .enum e, ρ => (evO e ρ).bd fun x ρ1 => (x.esc ρ1).bd fun d ρ2 => .of (enD d) ρ2
  | .zip a b, ρ => (evO a ρ).bd fun x ρ1 => (x.esc ρ1).bd fun d ρ2 => (evO b ρ2).bd fun y ρ3 => (y.esc ρ3).bd fun e ρ4 => .of (zipD d e) ρ4
end
def evPs : List Bool → Es → Loc → Res (List (Bool × D))
  | [], .nil, ρ => .ok [] ρ
  | b :: bs, .cons false e r, ρ => (evO φ e ρ).bd fun x ρ1 => match b, x with
    | true, .f d => (evPs bs r ρ1).bd fun ds ρ2 => .ok ((true, d) :: ds) ρ2
    | true, _ => .no
    | false, x => (x.esc ρ1).bd fun d ρ2 => (evPs bs r ρ2).bd fun ds ρ3 => .ok ((false, d) :: ds) ρ3
  | _, _, _ => .no
def evT (c : Ex) (ρ : Loc) : Res Bool := (evO φ c ρ).bd fun x ρ1 => .of ((x.get ρ1).bind truD) ρ1
mutual
def evS : Sm → Loc → Res Fl
  | .asg t own e, ρ => (evO φ e ρ).bd fun x ρ1 => match own, t, x with
    | true, .v i, .f d => match ρ1[i]? with
      | some (.mp _) => .no
      | some _ => .ok .nx (ρ1.set i (.ow d))
      | none => .no
    | true, _, _ => .no
    | false, t, x => (x.esc ρ1).bd fun d ρ2 => match tgD t d ρ2 with
      | some ρ3 => .ok .nx ρ3
      | none => .no
  | .asgp l es, ρ => (evPs φ (l.map (·.2)) es ρ).bd fun ds ρ1 => match storeP l ds ρ1 with
    | some ρ2 => .ok .nx ρ2
    | none => .no
  | .setix i k e, ρ => (evO φ e ρ).bd fun x ρ1 => (x.esc ρ1).bd fun d ρ2 => if ownL ρ2 i then (evO φ k ρ2).bd fun y ρ3 => match y.get ρ3, ownD ρ3 i with
    | some kd, some c => match setD c kd d with
      | some c' => .ok .nx (setOwn ρ3 i c')
      | none => .no
    | _, _ => .no else .no
  | .aug i o e, ρ => match ρ[i]? with
    | some (.sh d) => (evO φ e ρ).bd fun x ρ1 => match x.get ρ1 with
      | some d' => match binD o d d' with
        | some (.v r) => match setSh ρ1 i r with
          | some ρ2 => .ok .nx ρ2
          | none => .no
        | _ => .no
      | none => .no
    | _ => .no
  | .augix i k o e, ρ => .no
  | .app i e, ρ => if ownL ρ i then (evO φ e ρ).bd fun x ρ1 => (x.esc ρ1).bd fun d ρ2 => match ownD ρ2 i with
    | some c => match appD c d with
      | some c' => .ok .nx (setOwn ρ2 i c')
      | none => .no
    | none => .no else .no
  | .exp e, ρ => (evO φ e ρ).bd fun _ ρ1 => .ok .nx ρ1
  | .ifs c a b, ρ => (evT φ c ρ).bd fun t ρ1 => if t then evSs a ρ1 else evSs b ρ1
  | .for_ t it b, ρ => (evIt φ it ρ).bd fun ds ρ1 => forL t (evSs b) ds ρ1
  | .while_ c b, ρ => whL (evT φ c) (evSs b) ρ
  | .ret e, ρ => (evO φ e ρ).bd fun x ρ1 => .ok (.rt x) ρ1
  | .retN, ρ => .ok (.rt (.v .non)) ρ
  | .raise, _ => .no
  | .brk, ρ => .ok .bk ρ
  | .cont, ρ => .ok .ct ρ
  | .pass, ρ => .ok .nx ρ
def evSs : Ss → Loc → Res Fl
  | .nil, ρ => .ok .nx ρ
  | .cons s r, ρ => (evS s ρ).bd fun fl ρ1 => match fl with
    | .nx => evSs r ρ1
    | fl => .ok fl ρ1
end
/-- a def: how many parameters, slots; which parameter is lent to be changed; is what it hands back a new thing -/
structure Df where
  np : Nat
  ns : Nat
  lent : Option Nat
  fresh : Bool
  body : Ss
def startL (m : Df) (ds : List D) : Loc := ds.mapIdx (fun i d => if m.lent = some i then .mp d else .sh d) ++ List.replicate (m.ns - m.np) .un
def retD (fresh : Bool) (fl : Fl) (ρ : Loc) : Option D := match fl with
  | .nx => if fresh then none else some .non
  | .rt (.v d) => if fresh then none else some d
  | .rt (.f d) => some d
  | .rt (.b i) => match ρ[i]? with
    | some (.ow d) => some d
    | _ => none
  | _ => none
def lentD (lent : Option Nat) (ρ : Loc) : Option (Option D) := match lent with
  | none => some none
  | some k => match ρ[k]? with
    | some (.mp d) => some (some d)
    | _ => none
def runD (m : Df) (ds : List D) : FRes := if ds.length = m.np then match evSs φ m.body (startL m ds) with
    | .ok fl ρ => match retD m.fresh fl ρ, lentD m.lent ρ with
      | some d, some k => .ok d k
      | _, _ => .no
    | .ex x ρ => match lentD m.lent ρ with
      | some k => .ex x k
      | none => .no
    | .no => .no
  else .no
end
/-- the defs by their numbers, so many calls deep -/
def fns (T : List (Nat × Df)) : Nat → Fns
  | 0, f => match T.lookup f with
    | some m => ⟨m.np, m.lent, m.fresh, fun _ => .no⟩
    | none => ⟨0, none, false, fun _ => .no⟩
  | n + 1, f => match T.lookup f with
    | some m => ⟨m.np, m.lent, m.fresh, runD (fns T n) m⟩
    | none => ⟨0, none, false, fun _ => .no⟩
end TW
end
/-! W3 -/
section
set_option Elab.async false
set_option linter.all false
set_option maxRecDepth 100000
set_option maxHeartbeats 4000000
set_option autoImplicit false
/-! TW, part 3: readings in the hand layer's sense; the operations. -/
namespace TW
open PySem PySem.Spec L2
open PyProof.Rows hiding St

/-- an operand's value -/
def OpdRep (K : PySem.W.Frag) (H0 : Hp) (σ : St) (Hb : Hp) (S : Addr → Prop) (ρ : Loc) (H : Hp) (v : V) : Opd → Prop
  | .v d => Rep K H S d v
  | .f d => ∃ p, v = .ref p ∧ ¬ S p ∧ H0 p = none ∧ Hb p = none ∧ ¬ Own ρ σ p ∧ Cel K H S p d
  | .b i => ∃ p, v = .ref p ∧ σ[i]? = some (some (V.ref p))
section
variable {K : PySem.W.Frag} {H0 H H' Hb : Hp} {S S' : Addr → Prop} {ρ ρ' : Loc} {σ : St}
theorem OpdRep.step (R : Rl K H0 S ρ σ H) (x : Stp H0 σ S ρ H S' ρ' H') {v : V} {o : Opd} (h : OpdRep K H0 σ Hb S ρ H v o) : OpdRep K H0 σ Hb S' ρ' H' v o := by
  cases o with
  | v d => exact x.rep R h
  | f d =>
    obtain ⟨p, rfl, h1, h2, hb, h3, h4⟩ := h
    refine ⟨p, rfl, fun q => ?_, h2, hb, fun q => h3 (x.own p q), x.cel R h3 h4⟩
    rcases x.new p q with q | q | q
    · exact h1 q
    · obtain ⟨o, e⟩ := h4.there
      rw [e] at q; cases q
    · exact h3 q
  | b i => exact h
/-- read at the top; what is within is shared -/
def Sha (K : PySem.W.Frag) (H : Hp) (S : Addr → Prop) (d : D) (v : V) : Prop := match d with
  | .lst l => ∃ a vs, v = .ref a ∧ SqL K H a vs ∧ Reps K H S l vs
  | .dct l => ∃ a, v = .ref a ∧ ((∃ kvs : List (Key × V), H a = some (.dK kvs) ∧ l.map (·.1) = kvs.map (fun p => kD p.1) ∧ RepVs K H S l (kvs.map (·.2))) ∨
      ∃ kvs : List (List Key × V), H a = some (.dT kvs) ∧ l.map (·.1) = kvs.map (fun p => .tup (p.1.map kD)) ∧ RepVs K H S l (kvs.map (·.2)))
  | d => Rep K H S d v
theorem Rep.sha {d : D} {v : V} (h : Rep K H S d v) : Sha K H S d v := by
  cases d with
  | lst l => obtain ⟨a, vs, rfl, h1, h2⟩ := h; exact ⟨a, vs, rfl, h1.sq, h2⟩
  | dct l => obtain ⟨a, rfl, _, h⟩ := h; exact ⟨a, rfl, h⟩
  | _ => exact h
theorem Cel.sha {d : D} {p : Addr} (h : Cel K H S p d) : Sha K H S d (.ref p) := by
  cases d with
  | lst l => obtain ⟨vs, h1, h2⟩ := h; exact ⟨p, vs, rfl, SqL.of h1, h2⟩
  | dct l => exact ⟨p, rfl, h⟩
  | _ => exact h.elim
theorem OpdRep.sha (R : Rl K H0 S ρ σ H) {v : V} {o : Opd} {d : D} (h : OpdRep K H0 σ Hb S ρ H v o) (g : o.get ρ = some d) : Sha K H S d v := by
  cases o with
  | v e => cases g; exact Rep.sha h
  | f e => cases g; obtain ⟨p, rfl, _, _, _, _, c⟩ := h; exact c.sha
  | b i =>
    obtain ⟨p, rfl, hp⟩ := h
    unfold Opd.get at g
    cases e : ρ[i]? with
    | none => simp [e] at g
    | some sl =>
      cases sl with
      | un => simp [e] at g
      | sh d' =>
        simp [e] at g; subst g
        obtain ⟨v, h1, h2⟩ := R.sh i _ e
        rw [hp] at h1; cases h1
        exact h2.sha
      | ow d' =>
        simp [e] at g; subst g
        obtain ⟨q, h1, _, _, h2⟩ := R.ow i _ e
        rw [hp] at h1; cases h1
        exact h2.sha
      | mp d' =>
        simp [e] at g; subst g
        obtain ⟨q, h1, _, _, h2⟩ := R.mp i _ e
        rw [hp] at h1; cases h1
        exact h2.sha
end

/-- what stays the same in a def's proof -/
structure Pm where
  K : PySem.W.Frag
  H0 : Hp
  ER : Exn → Value → Option Addr → Hp → Prop
  W : WX

/-- a relation of what comes out: by the heap ahead, the shared things, the locals, the heap behind -/
abbrev RlT (α β : Type) := Hp → (Addr → Prop) → Loc → Hp → β → α → Prop
/-- it asks of the heap ahead only that things are not there -/
def Anti {α β : Type} (R : RlT α β) : Prop := ∀ Hb Hb' S ρ H v a, (∀ p, Hb p ≠ none → Hb' p ≠ none) → R Hb' S ρ H v a → R Hb S ρ H v a
/-- what is wanted behind: for each end that the reckoning has -/
def Aft (P : Pm) {α β : Type} (σ : St) (R : RlT α β) (S : Addr → Prop) (ρ : Loc) (H : Hp) (x : Res α) (Q : β → Hp → Prop) : Prop := match x with
  | .ok a ρ' => ∀ v H' S', Rl P.K P.H0 S' ρ' σ H' → Stp P.H0 σ S ρ H S' ρ' H' → R H S' ρ' H' v a → Q v H'
  | .ex x ρ' => ∀ cls dx H' S', Rl P.K P.H0 S' ρ' σ H' → Stp P.H0 σ S ρ H S' ρ' H' → P.ER x cls dx H' → P.W cls dx σ H'
  | .no => False
/-- a reading by an evaluation -/
def tR (P : Pm) {α β : Type} (R : St → RlT α β) (ev : Loc → Res α) : St → Hp → (β → Hp → Prop) → Prop := fun σ H Q =>
  ∃ S ρ, Rl P.K P.H0 S ρ σ H ∧ Aft P σ (R σ) S ρ H (ev ρ) Q
section
variable {P : Pm} {σ : St} {S S' : Addr → Prop} {ρ ρ' : Loc} {H H' : Hp}
theorem Aft.mono {α β : Type} {R : RlT α β} {x : Res α} {Q Q' : β → Hp → Prop} (h : Aft P σ R S ρ H x Q) (k : ∀ v H', Q v H' → Q' v H') : Aft P σ R S ρ H x Q' := by
  cases x with
  | ok a ρ2 => exact fun v H2 S2 r2 s2 q => k v H2 (h v H2 S2 r2 s2 q)
  | ex x ρ2 => exact h
  | no => exact h
/-- the first part, from a state that has come since -/
theorem Aft.bd {α β γ δ : Type} {R1 : RlT α β} {R2 : RlT γ δ} (an : Anti R1) {x : Res α} {f : α → Loc → Res γ} {Q : δ → Hp → Prop} (st : Stp P.H0 σ S ρ H S' ρ' H') (h : Aft P σ R2 S ρ H (x.bd f) Q) :
    Aft P σ R1 S' ρ' H' x fun v H1 => ∃ S1 ρ1 a, Rl P.K P.H0 S1 ρ1 σ H1 ∧ Stp P.H0 σ S ρ H S1 ρ1 H1 ∧ Stp P.H0 σ S' ρ' H' S1 ρ1 H1 ∧ R1 H S1 ρ1 H1 v a ∧ Aft P σ R2 S ρ H (f a ρ1) Q := by
  cases x with
  | ok a ρ2 => exact fun v H2 S2 r2 s2 q => ⟨S2, ρ2, a, r2, st.trans s2, s2, an _ _ _ _ _ _ _ st.dom q, h⟩
  | ex x ρ2 => exact fun cls dx H2 S2 r2 s2 q => h cls dx H2 S2 r2 (st.trans s2) q
  | no => exact h
theorem Aft.rebase {α β : Type} {R : RlT α β} (an : Anti R) {x : Res α} {Q : β → Hp → Prop} (st : Stp P.H0 σ S ρ H S' ρ' H') (h : Aft P σ R S ρ H x Q) : Aft P σ R S' ρ' H' x Q := by
  cases x with
  | ok a ρ2 => exact fun v H2 S2 r2 s2 q => h v H2 S2 r2 (st.trans s2) (an _ _ _ _ _ _ _ st.dom q)
  | ex x ρ2 => exact fun cls dx H2 S2 r2 s2 q => h cls dx H2 S2 r2 (st.trans s2) q
  | no => exact h
theorem Aft.ret {α β : Type} {R : RlT α β} {a : α} {v : β} {Q : β → Hp → Prop} (R1 : Rl P.K P.H0 S' ρ' σ H') (st : Stp P.H0 σ S ρ H S' ρ' H') (r : R H S' ρ' H' v a) (h : Aft P σ R S ρ H (.ok a ρ') Q) : Q v H' := h v H' S' R1 st r
end
theorem anti_opd {K : PySem.W.Frag} {H0 : Hp} {σ : St} : Anti (fun Hb S ρ H v o => OpdRep K H0 σ Hb S ρ H v o) := fun Hb Hb' S ρ H v o k h => by
  cases o with
  | v d => exact h
  | f d =>
    obtain ⟨p, e, h1, h2, hb, h3, h4⟩ := h
    refine ⟨p, e, h1, h2, ?_, h3, h4⟩
    cases q : Hb p with
    | none => rfl
    | some o => exact absurd hb (k p (by rw [q]; intro z; cases z))
  | b i => exact h

/-- an operation's result, by value -/
def PoV (K : PySem.W.Frag) (H H' : Hp) (S : Addr → Prop) (v : V) : Opd → Prop
  | .v d => Rep K H' S d v
  | .f d => ∃ p, v = .ref p ∧ H p = none ∧ Cel K H' S p d
  | .b _ => False
def PoO (K : PySem.W.Frag) (H : Hp) (S : Addr → Prop) (o : Opd) (Q : VK) : Prop := ∀ v H', Ext H H' → PoV K H H' S v o → Q v H'
section
variable {K : PySem.W.Frag} {H0 H H' : Hp} {S : Addr → Prop} {ρ : Loc} {σ : St}
theorem Rl.own_there (R : Rl K H0 S ρ σ H) {p : Addr} (h : Own ρ σ p) : H p ≠ none := by
  obtain ⟨d, c, _⟩ := R.own_cel h
  obtain ⟨o, e⟩ := c.there
  rw [e]; intro q; cases q
theorem Cel.ext {p : Addr} {d : D} (x : Ext H H') (hd : ∀ a, S a → H a ≠ none) (h : Cel K H S p d) : Cel K H' S p d := by
  cases d with
  | lst l => obtain ⟨vs, h1, h2⟩ := h; exact ⟨vs, x _ _ h1, x.reps hd (fun _ q => q) h2⟩
  | dct l =>
    have hv : ∀ {vs}, RepVs K H S l vs → RepVs K H' S l vs := fun {vs} q => RepVs.mono (fun _ q => q) (fun a hs => by
      cases e : H a with
      | none => exact absurd e (hd a hs)
      | some o => exact x a o e) (fun _ _ q => x.sqT q) l vs q
    rcases h with ⟨kvs, h1, h2, h3⟩ | ⟨kvs, h1, h2, h3⟩
    · exact .inl ⟨kvs, x _ _ h1, h2, hv h3⟩
    · exact .inr ⟨kvs, x _ _ h1, h2, hv h3⟩
  | _ => exact h.elim
theorem Ext.dom (x : Ext H H') {a : Addr} (h : H a ≠ none) : H' a ≠ none := fun q => by
  cases e : H a with
  | none => exact h e
  | some o => rw [x a o e] at q; cases q
theorem Ext.stp (x : Ext H H') : Stp H0 σ S ρ H S ρ H' where
  sub := fun _ h => h
  new := fun _ h => .inl h
  keep := fun a o h _ => x a o h
  dom := fun a h => x.dom h
  own := fun _ h => h
theorem Rl.ext (R : Rl K H0 S ρ σ H) (x : Ext H H') : Rl K H0 S ρ σ H' where
  len := R.len
  sh := fun i d h => by
    obtain ⟨v, h1, h2⟩ := R.sh i d h
    exact ⟨v, h1, x.rep R.dom (fun _ q => q) h2⟩
  ow := fun i d h => by
    obtain ⟨p, h1, h2, h3, h4⟩ := R.ow i d h
    exact ⟨p, h1, h2, h3, h4.ext x R.dom⟩
  mp := fun i d h => by
    obtain ⟨p, h1, h2, h3, h4⟩ := R.mp i d h
    exact ⟨p, h1, h2, h3, h4.ext x R.dom⟩
  one := R.one
  dom := fun a h q => by
    cases e : H a with
    | none => exact R.dom a h e
    | some o => rw [x a o e] at q; cases q
  old := fun a o h n => x a o (R.old a o h n)
  ent := fun a h q => by
    cases e : H a with
    | none => exact R.ent a h e
    | some o => rw [x a o e] at q; cases q
theorem Rl.h0 (R : Rl K H0 S ρ σ H) {a : Addr} (h : H a = none) : H0 a = none := by
  cases e : H0 a with
  | none => rfl
  | some o => exact absurd h (R.ent a (by rw [e]; intro q; cases q))
theorem PoV.opd (R : Rl K H0 S ρ σ H) {Hb : Hp} (hb : ∀ p, Hb p ≠ none → H p ≠ none) (x : Ext H H') {v : V} {o : Opd} (h : PoV K H H' S v o) : OpdRep K H0 σ Hb S ρ H' v o := by
  cases o with
  | v d => exact h
  | f d =>
    obtain ⟨p, rfl, h1, h2⟩ := h
    refine ⟨p, rfl, fun q => R.dom p q h1, R.h0 h1, ?_, fun q => R.own_there q h1, h2⟩
    cases q : Hb p with
    | none => rfl
    | some o => exact absurd h1 (hb p (by rw [q]; intro z; cases z))
  | b i => exact h.elim
end
/-- an operation done: what is wanted behind -/
theorem Aft.op {P : Pm} {σ : St} {S S1 : Addr → Prop} {ρ ρ1 : Loc} {H H1 : Hp} {o : Opd} {Q : VK} (R : Rl P.K P.H0 S1 ρ1 σ H1) (st : Stp P.H0 σ S ρ H S1 ρ1 H1) (h : Aft P σ (OpdRep P.K P.H0 σ) S ρ H (.ok o ρ1) Q) : PoO P.K H1 S1 o Q := fun v H' x q =>
  h v H' S1 (R.ext x) (st.trans x.stp) (q.opd R st.dom x)
end TW
end
/-! W4 -/
section
set_option Elab.async false
set_option linter.all false
set_option maxRecDepth 100000
set_option maxHeartbeats 4000000
set_option autoImplicit false
/-! TW, part 4: the operations, each once. -/
namespace TW
open PySem PySem.Spec L2
open PyProof.Rows hiding St
section
variable {K : PySem.W.Frag} {H H' : Hp} {S : Addr → Prop}
/-! ### values as the library's data -/
mutual
theorem Rep.dp : ∀ (d : D) (p : PyData) (v : V), d.py = some p → Rep K H S d v → Dp K H v p
  | .non, p, v, e, h => by cases e; rw [show v = V.non from h]; exact .non
  | .bl b, p, v, e, h => by cases e; rw [show v = V.bl b from h]; exact .bl b
  | .int i, p, v, e, h => by cases e; rw [show v = V.int i from h]; exact .int i
  | .str x, p, v, e, h => by cases e; rw [show v = V.str x from h]; exact .str x
  | .tup l, p, v, e, h => by
    obtain ⟨a, vs, rfl, h1, h2⟩ := h
    cases q : D.pys l with
    | none => simp [D.py, q] at e
    | some ps =>
      simp [D.py, q] at e
      subst e
      exact .tup h1 (Reps.dp l ps vs q h2)
  | .lst l, p, v, e, h => by
    obtain ⟨a, vs, rfl, h1, h2⟩ := h
    cases q : D.pys l with
    | none => simp [D.py, q] at e
    | some ps =>
      simp [D.py, q] at e
      subst e
      exact .lst h1.sq (Reps.dp l ps vs q h2)
  | .dct _, _, _, e, _ => by simp [D.py] at e
  | .set _, _, _, e, _ => by simp [D.py] at e
  | .ref _, _, _, e, _ => by simp [D.py] at e
  | .ty _, _, _, e, _ => by simp [D.py] at e
theorem Reps.dp : ∀ (l : List D) (ps : List PyData) (vs : List V), D.pys l = some ps → Reps K H S l vs → DpAll K H vs ps
  | [], ps, vs, e, h => by cases e; rw [show vs = [] from h]; exact .nil
  | d :: l, ps, vs, e, h => by
    obtain ⟨v, r, rfl, h1, h2⟩ := h
    cases q1 : D.py d with
    | none => simp [D.pys, q1] at e
    | some p =>
      cases q2 : D.pys l with
      | none => simp [D.pys, q1, q2] at e
      | some qs =>
        simp [D.pys, q1, q2] at e
        subst e
        exact .cons (Rep.dp d p v q1 h1) (Reps.dp l qs r q2 h2)
end
theorem Sha.dp {d : D} {p : PyData} {v : V} (e : d.py = some p) (h : Sha K H S d v) : Dp K H v p := by
  cases d with
  | lst l =>
    obtain ⟨a, vs, rfl, h1, h2⟩ := h
    cases q : D.pys l with
    | none => simp [D.py, q] at e
    | some ps =>
      simp [D.py, q] at e
      subst e
      exact .lst h1 (Reps.dp l ps vs q h2)
  | dct l => simp [D.py] at e
  | _ => exact Rep.dp (S := S) _ p v e h
theorem mulI_lt {i : Int} (h : mulI i = true) : i.natAbs < 2 ^ 1048576 := of_decide_eq_true h
theorem smallI_lt {i : Int} (h : smallI i = true) : i.natAbs < 2 ^ 8999 := of_decide_eq_true h
theorem Reps.flat {l : List D} {vs : List V} : ∀ (n : Nat), Reps K H S l vs → Reps K H S (List.replicate n l).flatten (List.replicate n vs).flatten
  | 0, _ => Reps.nil
  | n + 1, h => by
    rw [List.replicate_succ, List.replicate_succ, List.flatten_cons, List.flatten_cons]
    exact h.append (Reps.flat n h)
/-- the result of a plain operation -/
theorem PoO.val {d : D} {Q : VK} (h : PoO K H S (.v d) Q) {v : V} (r : Rep K H S d v) : Q v H := h v H (Ext.refl H) r
/-- a new list -/
theorem PoO.lst {l : List D} {Q : VK} (h : PoO K H S (.f (.lst l)) Q) (hd : ∀ a, S a → H a ≠ none) {vs : List V} (r : Reps K H S l vs) {p : Addr} (n : H p = none) : Q (.ref p) (upd H p (.lst vs)) :=
  h _ _ (Ext.upd n) ⟨p, rfl, n, vs, upd_same, (Ext.upd n).reps hd (fun _ q => q) r⟩
theorem PoO.tup {l : List D} {Q : VK} (h : PoO K H S (.v (.tup l)) Q) (hd : ∀ a, S a → H a ≠ none) {vs : List V} (r : Reps K H S l vs) {p : Addr} (n : H p = none) : Q (.ref p) (upd H p (.tup vs)) :=
  h _ _ (Ext.upd n) ⟨p, vs, rfl, SqT.of upd_same, (Ext.upd n).reps hd (fun _ q => q) r⟩
end

section
variable {X : Cx}
/-- a two-place operation, by value -/
def rBin (K : PySem.W.Frag) (f : D → D → Option Opd) : R2 := fun x y H Q => ∃ S d e r, (∀ a, S a → H a ≠ none) ∧ Sha K H S d x ∧ Sha K H S e y ∧ f d e = some r ∧ PoO K H S r Q
theorem powR : OpR X (binaryOp .Pow) (rI (fun i j => 0 ≤ j ∧ (Builtin.Int.intBits i : Int) * j ≤ 2 ^ 27) fun i j => .int (i ^ j.toNat)) := opI fun _ _ _ _ _ _ _ hc q => pow_int hc.1 hc.2 q
theorem catR : OpR X (binaryOp .Add) (fun x y H Q => ∃ l b xs zs, x = .ref l ∧ y = .ref b ∧ SqL X.K H l xs ∧ SqL X.K H b zs ∧ xs.length + zs.length ≤ sizeLine ∧ ∀ p, H p = none → Q (.ref p) (upd H p (.lst (xs ++ zs)))) := by
  intro pins s σ H x y v u Q I rx ry h
  obtain ⟨l, b, xs, zs, rfl, rfl, h1, h2, hz, q⟩ := h
  cases rx
  cases ry
  obtain ⟨its, r1, p1, z1⟩ := I.list h1
  obtain ⟨its2, r2, p2, z2⟩ := I.list h2
  obtain ⟨⟨c1, d1, t1, s1⟩, e1, hc1, n1, hd1⟩ := p1.isList
  obtain ⟨⟨c2, d2, t2, s2⟩, e2, hc2, n2, hd2⟩ := p2.isList
  simp only at hc1 hd1 hc2 hd2
  subst hc1 hd1 hc2 hd2
  have len1 := r1.length
  have len2 := r2.length
  have hsz : its.toArray.size + its2.toArray.size ≤ sizeLine := by rw [List.size_toArray, List.size_toArray]; omega
  refine concat_meets ⟨_, e1, rfl⟩ ⟨_, e2, rfl⟩ noFill_list_add seq_list_add PySem.F.slot_list_add PySem.F.entry_list_add (PySem.F.args_list_add_2 _ _) (list_addW l b its.toArray its2.toArray n1 n2 d1 d2 s1 s2 hsz) ⟨e1, e2, ?_⟩
  have ea : its.toArray ++ its2.toArray = (its ++ its2).toArray := by simp
  rw [ea]
  exact ⟨.ref _, _, I.lnew (t' := s.toks) (r1.append r2) (by rw [List.length_append]; exact hz), rfl, q _ I.fresh⟩
theorem vals_flat {xs : List V} {us : List Value} (r : Vals xs us) : ∀ n : Nat, Vals (List.replicate n xs).flatten (List.replicate n us).flatten
  | 0 => .nil
  | n + 1 => by
    rw [List.replicate_succ, List.replicate_succ, List.flatten_cons, List.flatten_cons]
    exact r.append (vals_flat r n)
theorem repR : OpR X (binaryOp .Mult) (fun x y H Q => ∃ l k xs, x = .ref l ∧ y = .int k ∧ SqL X.K H l xs ∧ -(2 ^ 63) ≤ k ∧ k < 2 ^ 63 ∧ xs.length * k.toNat ≤ sizeLine ∧ ∀ p, H p = none → Q (.ref p) (upd H p (.lst (List.replicate k.toNat xs).flatten))) := by
  intro pins s σ H x y v u Q I rx ry h
  obtain ⟨l, k, xs, rfl, rfl, hs, k1, k2, hz, q⟩ := h
  cases rx
  obtain ⟨tk, rfl⟩ := ry
  obtain ⟨its, rv, pl, hz2⟩ := I.list hs
  obtain ⟨⟨c0, d0, t0, s0⟩, e0, hc0, n0, hd0⟩ := pl.isList
  simp only at hc0 hd0
  subst hc0 hd0
  have hlen := rv.length
  have hsz : its.toArray.size * k.toNat ≤ sizeLine := by rw [List.size_toArray, ← hlen]; exact hz
  have e24 : sizeLine = 16777216 := by decide
  have step := lm_list_mul_any l its.toArray n0 d0 s0 k tk (by simp [Builtin.List.listFitsIndex]; omega) (by omega) (by simp [Builtin.List.listTooLong]; omega)
  refine wpAny_binaryOp_repeat_ref (T := "list") (U := "int") (by decide) ⟨_, e0, rfl⟩ (fun s' => typeIs_int s' k tk)
    noFill_list_mul F.fills_int_mul F.slot_int_rmul repeat_list F.slot_int_index.lookup ?_
  refine call_meets F.slot_int_rmul (typeIs_int s k tk) F.entry_int_rmul (F.args_int_rmul_2 _ _)
    (lm_int_rmul_list_any k tk l its.toArray n0 d0 s0) ⟨e0, rfl, ⟨_, e0, rfl⟩, ?_⟩
  refine call_meets F.slot_list_mul ⟨_, e0, rfl⟩ F.entry_list_mul (F.args_list_mul_2 _ _) step ⟨e0, ?_⟩
  rw [listMul_foldl_if]
  have ln : (List.replicate k.toNat xs).flatten.length ≤ sizeLine := by
    rw [lm_len_rep_flat, Nat.mul_comm]; exact hz
  exact ⟨.ref _, _, I.lnew (t' := s.toks) (vals_flat rv k.toNat) ln, rfl, q _ I.fresh⟩
theorem bits_le {i : Int} (h : i.natAbs < 2 ^ 8999) : (Builtin.Int.intBits i : Int) ≤ 8999 := by
  unfold Builtin.Int.intBits
  split
  · decide
  · have := PySem.Flt.log2_lt_of (by decide : 0 < 8999) h
    omega
theorem binR (o : Operator) : OpR X (binaryOp o) (rBin X.K (binD o)) := by
  intro pins s σ H x y v u Q I rx ry h
  obtain ⟨S, d, e, r, hd, sx, sy, hf, po⟩ := h
  unfold binD at hf
  split at hf
  · cases hf; cases (show x = _ from sx); cases (show y = _ from sy)
    exact op_add pins s σ H _ _ v u Q I rx ry ⟨_, _, rfl, rfl, po.val rfl⟩
  · cases hf; cases (show x = _ from sx); cases (show y = _ from sy)
    exact op_sub pins s σ H _ _ v u Q I rx ry ⟨_, _, rfl, rfl, po.val rfl⟩
  · split at hf
    · rename_i hb
      cases hf; cases (show x = _ from sx); cases (show y = _ from sy)
      obtain ⟨b1, b2⟩ := Bool.and_eq_true_iff.mp hb
      exact op_mulX pins s σ H _ _ v u Q I rx ry ⟨_, _, rfl, rfl, mulx_ok (mulI_lt b1) (mulI_lt b2) (by decide), po.val rfl⟩
    · cases hf
  · split at hf
    · rename_i hb
      cases hf; cases (show x = _ from sx); cases (show y = _ from sy)
      obtain ⟨b1, b2⟩ := Bool.and_eq_true_iff.mp hb
      exact op_fdivW pins s σ H _ _ v u Q I rx ry ⟨_, _, rfl, rfl, wide_div (of_decide_eq_true b1) (smallI_lt b2) (by decide) (by decide), po.val rfl⟩
    · cases hf
  · split at hf
    · rename_i hb
      cases hf; cases (show x = _ from sx); cases (show y = _ from sy)
      exact op_mod pins s σ H _ _ v u Q I rx ry ⟨_, _, rfl, rfl, hb, po.val rfl⟩
    · cases hf
  · split at hf
    · rename_i hb
      cases hf; cases (show x = _ from sx); cases (show y = _ from sy)
      obtain ⟨b12, b3⟩ := Bool.and_eq_true_iff.mp hb
      obtain ⟨b1, b2⟩ := Bool.and_eq_true_iff.mp b12
      have b1 := of_decide_eq_true b1
      have b2 := of_decide_eq_true b2
      have b3 := bits_le (smallI_lt b3)
      refine powR pins s σ H _ _ v u Q I rx ry ⟨_, _, rfl, rfl, ⟨b1, ?_⟩, po.val rfl⟩
      refine Int.le_trans (Int.mul_le_mul b3 b2 b1 (by decide)) (by decide)
    · cases hf
  · split at hf
    · rename_i hb
      cases hf; cases (show x = _ from sx); cases (show y = _ from sy)
      exact op_add_str pins s σ H _ _ v u Q I rx ry ⟨_, _, rfl, rfl, hb, po.val rfl⟩
    · cases hf
  · split at hf
    · rename_i hb
      cases hf
      obtain ⟨a, vs, rfl, h1, h2⟩ := sx
      obtain ⟨b, ws, rfl, h3, h4⟩ := sy
      exact catR pins s σ H _ _ v u Q I rx ry ⟨_, _, _, _, rfl, rfl, h1, h3, by rw [h2.length, h4.length]; exact hb, fun p n => po.lst hd (h2.append h4) n⟩
    · cases hf
  · split at hf
    · rename_i hb
      cases hf; cases (show y = _ from sy)
      obtain ⟨a, vs, rfl, h1, h2⟩ := sx
      obtain ⟨b1, b2⟩ := Bool.and_eq_true_iff.mp hb
      have b1 := of_decide_eq_true b1
      rw [okI_eq] at b2
      obtain ⟨b3, b4⟩ := Bool.and_eq_true_iff.mp b2
      have b3 := of_decide_eq_true b3
      have b4 := of_decide_eq_true b4
      exact repR pins s σ H _ _ v u Q I rx ry ⟨_, _, _, rfl, rfl, h1, by omega, by omega, by rw [h2.length]; exact b1, fun p n => po.lst hd (h2.flat _) n⟩
    · cases hf
  · cases hf
/-- comparisons -/
def rCmp (K : PySem.W.Frag) (f : D → D → Option Bool) : R2 := fun x y H Q => ∃ S d e r, (∀ a, S a → H a ≠ none) ∧ Sha K H S d x ∧ Sha K H S e y ∧ f d e = some r ∧ Q (.bl r) H
theorem shp_room {A : Around} {d e : PyData} (h : shp d = true) (hu : A.units + 64 < cLine) : A.units + min d.depth e.depth < cLine := by
  have h2 := of_decide_eq_true (Bool.and_eq_true_iff.mp h).2
  have := Nat.min_le_left d.depth e.depth
  omega
theorem shp_roomIn {A : Around} {d : PyData} {ds : List PyData} (h : shp d = true) (hu : A.units + 65 < cLine) : A.units + 1 + min (PyData.depthAll ds) d.depth < cLine := by
  have h2 := of_decide_eq_true (Bool.and_eq_true_iff.mp h).2
  have := Nat.min_le_right (PyData.depthAll ds) d.depth
  omega
theorem shp_list {ds : List PyData} (h : shp (.list ds) = true) : PyData.plainAll ds = true := by
  have h1 := (Bool.and_eq_true_iff.mp h).1
  rwa [PyData.plain] at h1
def rEqP (K : PySem.W.Frag) : R2 := fun x y H Q => ∃ d e, Dp K H x d ∧ Dp K H y e ∧ shp d = true ∧ shp e = true ∧ Q (.bl (PyData.eqv d e)) H
def rNeP (K : PySem.W.Frag) : R2 := fun x y H Q => ∃ d e, Dp K H x d ∧ Dp K H y e ∧ shp d = true ∧ shp e = true ∧ Q (.bl (!PyData.eqv d e)) H
def rInP (K : PySem.W.Frag) : R2 := fun x y H Q => ∃ d ds, Dp K H x d ∧ Dp K H y (.list ds) ∧ shp d = true ∧ shp (.list ds) = true ∧ Q (.bl (ds.any fun z => PyData.eqv z d)) H
def rNiP (K : PySem.W.Frag) : R2 := fun x y H Q => ∃ d ds, Dp K H x d ∧ Dp K H y (.list ds) ∧ shp d = true ∧ shp (.list ds) = true ∧ Q (.bl (!ds.any fun z => PyData.eqv z d)) H
theorem op_eqP (hu : X.A.units + 64 < cLine) : OpR X (compareOp .Eq) (rEqP X.K) := by
  intro pins s σ H x y v u Q I rx ry h
  obtain ⟨d, e, hd, he, sd, se, q⟩ := h
  obtain ⟨as, r1⟩ := Dp.reads I d x v hd rx
  obtain ⟨bs, r2⟩ := Dp.reads I e y u he ry
  exact PySem.SeqAt.eq_plain r1 r2 (Bool.and_eq_true_iff.mp sd).1 (Bool.and_eq_true_iff.mp se).1 (shp_room sd hu) ⟨.bl _, H, I, rfl, q⟩
theorem op_neP (hu : X.A.units + 64 < cLine) : OpR X (compareOp .NotEq) (rNeP X.K) := by
  intro pins s σ H x y v u Q I rx ry h
  obtain ⟨d, e, hd, he, sd, se, q⟩ := h
  obtain ⟨as, r1⟩ := Dp.reads I d x v hd rx
  obtain ⟨bs, r2⟩ := Dp.reads I e y u he ry
  exact PySem.SeqAt.ne_plain r1 r2 (Bool.and_eq_true_iff.mp sd).1 (Bool.and_eq_true_iff.mp se).1 (shp_room sd hu) ⟨.bl _, H, I, rfl, q⟩
theorem op_inP (hu : X.A.units + 65 < cLine) : OpR X (compareOp .In) (rInP X.K) := by
  intro pins s σ H x y v u Q I rx ry h
  obtain ⟨d, ds, hd, he, sd, se, q⟩ := h
  obtain ⟨as, r1⟩ := Dp.reads I d x v hd rx
  obtain ⟨bs, r2⟩ := Dp.reads I (.list ds) y u he ry
  exact PySem.SeqAt.in_list_data r2 r1 (shp_list se) (Bool.and_eq_true_iff.mp sd).1 (shp_roomIn sd hu) ⟨.bl _, H, I, rfl, q⟩
theorem op_ninP (hu : X.A.units + 65 < cLine) : OpR X (compareOp .NotIn) (rNiP X.K) := by
  intro pins s σ H x y v u Q I rx ry h
  obtain ⟨d, ds, hd, he, sd, se, q⟩ := h
  obtain ⟨as, r1⟩ := Dp.reads I d x v hd rx
  obtain ⟨bs, r2⟩ := Dp.reads I (.list ds) y u he ry
  exact PySem.SeqAt.notIn_list_data r2 r1 (shp_list se) (Bool.and_eq_true_iff.mp sd).1 (shp_roomIn sd hu) ⟨.bl _, H, I, rfl, q⟩
theorem eqR (hu : X.A.units + 64 < cLine) : OpR X (compareOp .Eq) (rCmp X.K eqD) := by
  intro pins s σ H x y v u Q I rx ry h
  obtain ⟨S, d, e, r, hd, sx, sy, hf, q⟩ := h
  unfold eqD at hf
  split at hf
  · rename_i p1 p2 e1 e2
    split at hf
    · rename_i hb
      cases hf
      obtain ⟨b1, b2⟩ := Bool.and_eq_true_iff.mp hb
      exact op_eqP hu pins s σ H _ _ v u Q I rx ry ⟨_, _, sx.dp e1, sy.dp e2, b1, b2, q⟩
    · cases hf
  · cases hf
theorem neR (hu : X.A.units + 64 < cLine) : OpR X (compareOp .NotEq) (rCmp X.K fun d e => (eqD d e).map (!·)) := by
  intro pins s σ H x y v u Q I rx ry h
  obtain ⟨S, d, e, r, hd, sx, sy, hf, q⟩ := h
  have hf : (eqD d e).map (!·) = some r := hf
  cases hE : eqD d e with
  | none => rw [hE] at hf; cases hf
  | some b =>
    rw [hE] at hf; cases hf
    unfold eqD at hE
    split at hE
    · rename_i p1 p2 e1 e2
      split at hE
      · rename_i hb
        cases hE
        obtain ⟨b1, b2⟩ := Bool.and_eq_true_iff.mp hb
        exact op_neP hu pins s σ H _ _ v u Q I rx ry ⟨_, _, sx.dp e1, sy.dp e2, b1, b2, q⟩
      · cases hE
    · cases hE
theorem inR (hu : X.A.units + 65 < cLine) : OpR X (compareOp .In) (rCmp X.K inD) := by
  intro pins s σ H x y v u Q I rx ry h
  obtain ⟨S, d, e, r, hd, sx, sy, hf, q⟩ := h
  unfold inD at hf
  split at hf
  · rename_i l
    split at hf
    · rename_i p ps e1 e2
      split at hf
      · rename_i hb
        cases hf
        obtain ⟨b1, b2⟩ := Bool.and_eq_true_iff.mp hb
        exact op_inP hu pins s σ H _ _ v u Q I rx ry ⟨_, _, sx.dp e1, sy.dp (by simp [D.py, e2]), b1, b2, q⟩
      · cases hf
    · cases hf
  · cases hf
theorem ninR (hu : X.A.units + 65 < cLine) : OpR X (compareOp .NotIn) (rCmp X.K fun d e => (inD d e).map (!·)) := by
  intro pins s σ H x y v u Q I rx ry h
  obtain ⟨S, d, e, r, hd, sx, sy, hf, q⟩ := h
  have hf : (inD d e).map (!·) = some r := hf
  cases hE : inD d e with
  | none => rw [hE] at hf; cases hf
  | some b =>
    rw [hE] at hf; cases hf
    unfold inD at hE
    split at hE
    · rename_i l
      split at hE
      · rename_i p ps e1 e2
        split at hE
        · rename_i hb
          cases hE
          obtain ⟨b1, b2⟩ := Bool.and_eq_true_iff.mp hb
          exact op_ninP hu pins s σ H _ _ v u Q I rx ry ⟨_, _, sx.dp e1, sy.dp (by simp [D.py, e2]), b1, b2, q⟩
        · cases hE
      · cases hE
    · cases hE
theorem Sha.notNon {K : PySem.W.Frag} {H : Hp} {S : Addr → Prop} {d : D} {v : V} (h : Sha K H S d v) : decide (v = .non) = match d with
    | .non => true
    | _ => false := by
  cases d with
  | non => cases (show v = _ from h); rfl
  | bl b => cases (show v = _ from h); rfl
  | int i => cases (show v = _ from h); rfl
  | str x => cases (show v = _ from h); rfl
  | tup l => obtain ⟨a, vs, rfl, _⟩ := h; rfl
  | lst l => obtain ⟨a, vs, rfl, _⟩ := h; rfl
  | dct l => obtain ⟨a, rfl, _⟩ := h; rfl
  | set l => exact (show False from h).elim
  | ref a => cases (show v = _ from h); rfl
  | ty n => cases (show v = _ from h); rfl
theorem cmpR (hu : X.A.units + 65 < cLine) (o : CmpOp) : OpR X (compareOp o) (rCmp X.K (cmpD o)) := by
  have hu' : X.A.units + 64 < cLine := by omega
  intro pins s σ H x y v u Q I rx ry h
  obtain ⟨S, d, e, r, hd, sx, sy, hf, q⟩ := h
  unfold cmpD at hf
  split at hf
  · cases hf; cases (show x = _ from sx); cases (show y = _ from sy)
    exact op_lt pins s σ H _ _ v u Q I rx ry ⟨_, _, rfl, rfl, q⟩
  · cases hf; cases (show x = _ from sx); cases (show y = _ from sy)
    exact op_le pins s σ H _ _ v u Q I rx ry ⟨_, _, rfl, rfl, q⟩
  · cases hf; cases (show x = _ from sx); cases (show y = _ from sy)
    exact op_gt pins s σ H _ _ v u Q I rx ry ⟨_, _, rfl, rfl, q⟩
  · cases hf; cases (show x = _ from sx); cases (show y = _ from sy)
    exact op_ge pins s σ H _ _ v u Q I rx ry ⟨_, _, rfl, rfl, q⟩
  · exact eqR hu' pins s σ H _ _ v u Q I rx ry ⟨S, _, _, r, hd, sx, sy, hf, q⟩
  · exact neR hu' pins s σ H _ _ v u Q I rx ry ⟨S, _, _, r, hd, sx, sy, hf, q⟩
  · rename_i t z
    unfold inS at hf
    simp only at hf
    split at hf
    · rename_i c hc
      cases hf; cases (show x = _ from sx); cases (show y = _ from sy)
      have et : t = ⟨#[c]⟩ := ext_toList hc
      subst et
      exact op_in_sign pins s σ H _ _ v u Q I rx ry ⟨_, _, rfl, rfl, q⟩
    · cases hf
  · exact inR hu pins s σ H _ _ v u Q I rx ry ⟨S, _, _, r, hd, sx, sy, hf, q⟩
  · exact ninR hu pins s σ H _ _ v u Q I rx ry ⟨S, _, _, r, hd, sx, sy, hf, q⟩
  · have hn := sx.notNon
    unfold isND at hf
    split at hf
    · cases hf; cases (show y = _ from sy)
      exact op_isN pins s σ H _ _ v u Q I rx ry ⟨rfl, by rw [hn]; exact q⟩
    · cases hf; cases (show y = _ from sy)
      rename_i hne
      refine op_isN pins s σ H _ _ v u Q I rx ry ⟨rfl, ?_⟩
      rw [hn]
      split
      · exact absurd rfl (hne)
      · exact q
    · cases hf
  · have hn := sx.notNon
    unfold isND at hf
    split at hf
    · simp at hf; subst hf; cases (show y = _ from sy)
      exact op_notN pins s σ H _ _ v u Q I rx ry ⟨rfl, by rw [hn]; exact q⟩
    · simp at hf; subst hf; cases (show y = _ from sy)
      rename_i hne
      refine op_notN pins s σ H _ _ v u Q I rx ry ⟨rfl, ?_⟩
      rw [hn]
      split
      · exact absurd rfl (hne)
      · exact q
    · simp at hf
  · cases hf
end
end TW
end
/-! W5 -/
section
set_option Elab.async false
set_option linter.all false
set_option maxRecDepth 100000
set_option maxHeartbeats 4000000
set_option autoImplicit false
/-! TW, part 5: built-in functions, subscripts, methods. -/
namespace TW
open PySem PySem.Spec L2
open PyProof.Rows hiding St
/-- several values -/
def Shas (K : PySem.W.Frag) (H : Hp) (S : Addr → Prop) : List D → List V → Prop
  | [], vs => vs = []
  | d :: ds, vs => ∃ v r, vs = v :: r ∧ Sha K H S d v ∧ Shas K H S ds r
def rBi (K : PySem.W.Frag) (f : List D → Option Opd) : List V → Hp → VK → Prop := fun vs H Q => ∃ S ds r, (∀ a, S a → H a ≠ none) ∧ Shas K H S ds vs ∧ f ds = some r ∧ PoO K H S r Q
section
variable {K : PySem.W.Frag} {H : Hp} {S : Addr → Prop}
theorem Shas.one {d : D} {vs : List V} (h : Shas K H S [d] vs) : ∃ v, vs = [v] ∧ Sha K H S d v := by
  obtain ⟨v, r, rfl, h1, h2⟩ := h
  exact ⟨v, by rw [show r = [] from h2], h1⟩
theorem Shas.two {d e : D} {vs : List V} (h : Shas K H S [d, e] vs) : ∃ v u, vs = [v, u] ∧ Sha K H S d v ∧ Sha K H S e u := by
  obtain ⟨v, r, rfl, h1, h2⟩ := h
  obtain ⟨u, rfl, h3⟩ := Shas.one h2
  exact ⟨v, u, rfl, h1, h3⟩
theorem intsD_eq : ∀ {l : List D} {ns : List Int}, intsD l = some ns → l = ns.map .int
  | [], _, e => by cases e; rfl
  | .int i :: r, ns, e => by
    cases q : intsD r with
    | none => simp [intsD, q] at e
    | some ms => simp [intsD, q] at e; subst e; rw [intsD_eq q] <;> rfl
  | .non :: _, _, e => by simp [intsD] at e
  | .bl _ :: _, _, e => by simp [intsD] at e
  | .str _ :: _, _, e => by simp [intsD] at e
  | .tup _ :: _, _, e => by simp [intsD] at e
  | .lst _ :: _, _, e => by simp [intsD] at e
  | .dct _ :: _, _, e => by simp [intsD] at e
  | .set _ :: _, _, e => by simp [intsD] at e
  | .ref _ :: _, _, e => by simp [intsD] at e
  | .ty _ :: _, _, e => by simp [intsD] at e
theorem blsD_eq : ∀ {l : List D} {ns : List Bool}, blsD l = some ns → l = ns.map .bl
  | [], _, e => by cases e; rfl
  | .bl i :: r, ns, e => by
    cases q : blsD r with
    | none => simp [blsD, q] at e
    | some ms => simp [blsD, q] at e; subst e; rw [blsD_eq q] <;> rfl
  | .non :: _, _, e => by simp [blsD] at e
  | .int _ :: _, _, e => by simp [blsD] at e
  | .str _ :: _, _, e => by simp [blsD] at e
  | .tup _ :: _, _, e => by simp [blsD] at e
  | .lst _ :: _, _, e => by simp [blsD] at e
  | .dct _ :: _, _, e => by simp [blsD] at e
  | .set _ :: _, _, e => by simp [blsD] at e
  | .ref _ :: _, _, e => by simp [blsD] at e
  | .ty _ :: _, _, e => by simp [blsD] at e
theorem strsD_eq : ∀ {l : List D} {ns : List Str}, strsD l = some ns → l = ns.map .str
  | [], _, e => by cases e; rfl
  | .str i :: r, ns, e => by
    cases q : strsD r with
    | none => simp [strsD, q] at e
    | some ms => simp [strsD, q] at e; subst e; rw [strsD_eq q] <;> rfl
  | .non :: _, _, e => by simp [strsD] at e
  | .int _ :: _, _, e => by simp [strsD] at e
  | .bl _ :: _, _, e => by simp [strsD] at e
  | .tup _ :: _, _, e => by simp [strsD] at e
  | .lst _ :: _, _, e => by simp [strsD] at e
  | .dct _ :: _, _, e => by simp [strsD] at e
  | .set _ :: _, _, e => by simp [strsD] at e
  | .ref _ :: _, _, e => by simp [strsD] at e
  | .ty _ :: _, _, e => by simp [strsD] at e
theorem Reps.bls_inv : ∀ {ns : List Bool} {vs : List V}, Reps K H S (ns.map D.bl) vs → vs = ns.map V.bl
  | [], _, h => h
  | n :: ns, _, h => by
    obtain ⟨v, r, rfl, h1, h2⟩ := h
    rw [Reps.bls_inv h2, show v = V.bl n from h1] <;> rfl
theorem Reps.strs_inv : ∀ {ns : List Str} {vs : List V}, Reps K H S (ns.map D.str) vs → vs = ns.map V.str
  | [], _, h => h
  | n :: ns, _, h => by
    obtain ⟨v, r, rfl, h1, h2⟩ := h
    rw [Reps.strs_inv h2, show v = V.str n from h1] <;> rfl
/-- a list of ints that is read -/
theorem Sha.ints {l : List D} {ns : List Int} {v : V} (e : intsD l = some ns) (h : Sha K H S (.lst l) v) : ∃ a, v = .ref a ∧ SqL K H a (ns.map V.int) := by
  obtain ⟨a, vs, rfl, h1, h2⟩ := h
  rw [intsD_eq e] at h2
  rw [h2.ints_inv] at h1
  exact ⟨a, rfl, h1⟩
theorem maxL_foldl : ∀ (r : List Int) (a : Int), a ≤ r.foldl (fun m x => if x > m then x else m) a ∧ (∀ y ∈ r, y ≤ r.foldl (fun m x => if x > m then x else m) a) ∧ (r.foldl (fun m x => if x > m then x else m) a = a ∨ r.foldl (fun m x => if x > m then x else m) a ∈ r)
  | [], a => ⟨Int.le_refl a, (fun y h => nomatch h), .inl rfl⟩
  | x :: r, a => by
    rw [List.foldl_cons]
    obtain ⟨h1, h2, h3⟩ := maxL_foldl r (if x > a then x else a)
    have hx : x ≤ if x > a then x else a := by split <;> omega
    have ha : a ≤ if x > a then x else a := by split <;> omega
    refine ⟨Int.le_trans ha h1, fun y hy => ?_, ?_⟩
    · rcases List.mem_cons.mp hy with rfl | hy
      · exact Int.le_trans hx h1
      · exact h2 y hy
    · rcases h3 with h3 | h3
      · rw [h3]
        split
        · exact .inr List.mem_cons_self
        · exact .inl rfl
      · exact .inr (List.mem_cons_of_mem _ h3)
theorem minL_foldl : ∀ (r : List Int) (a : Int), r.foldl (fun m x => if x < m then x else m) a ≤ a ∧ (∀ y ∈ r, r.foldl (fun m x => if x < m then x else m) a ≤ y) ∧ (r.foldl (fun m x => if x < m then x else m) a = a ∨ r.foldl (fun m x => if x < m then x else m) a ∈ r)
  | [], a => ⟨Int.le_refl a, (fun y h => nomatch h), .inl rfl⟩
  | x :: r, a => by
    rw [List.foldl_cons]
    obtain ⟨h1, h2, h3⟩ := minL_foldl r (if x < a then x else a)
    have hx : (if x < a then x else a) ≤ x := by split <;> omega
    have ha : (if x < a then x else a) ≤ a := by split <;> omega
    refine ⟨Int.le_trans h1 ha, fun y hy => ?_, ?_⟩
    · rcases List.mem_cons.mp hy with rfl | hy
      · exact Int.le_trans h1 hx
      · exact h2 y hy
    · rcases h3 with h3 | h3
      · rw [h3]
        split
        · exact .inr List.mem_cons_self
        · exact .inl rfl
      · exact .inr (List.mem_cons_of_mem _ h3)
theorem maxL_spec {l : List Int} {m : Int} (h : maxL l = some m) : m ∈ l ∧ ∀ y ∈ l, y ≤ m := by
  cases l with
  | nil => cases h
  | cons a r =>
    cases h
    obtain ⟨h1, h2, h3⟩ := maxL_foldl r a
    refine ⟨?_, fun y hy => ?_⟩
    · rcases h3 with h3 | h3
      · rw [h3]; exact List.mem_cons_self
      · exact List.mem_cons_of_mem _ h3
    · rcases List.mem_cons.mp hy with rfl | hy
      · exact h1
      · exact h2 y hy
theorem minL_spec {l : List Int} {m : Int} (h : minL l = some m) : m ∈ l ∧ ∀ y ∈ l, m ≤ y := by
  cases l with
  | nil => cases h
  | cons a r =>
    cases h
    obtain ⟨h1, h2, h3⟩ := minL_foldl r a
    refine ⟨?_, fun y hy => ?_⟩
    · rcases h3 with h3 | h3
      · rw [h3]; exact List.mem_cons_self
      · exact List.mem_cons_of_mem _ h3
    · rcases List.mem_cons.mp hy with rfl | hy
      · exact h1
      · exact h2 y hy
theorem sorted_one {l m : List Int} (hp : m.Perm l) (hs : m.Pairwise (· ≤ ·)) : m = l.mergeSort (· ≤ ·) := by
  refine List.Perm.eq_of_pairwise (le := (· ≤ ·)) (fun a b _ _ h1 h2 => Int.le_antisymm h1 h2) hs ?_ (hp.trans (List.mergeSort_perm l _).symm)
  have h := List.pairwise_mergeSort (le := fun a b : Int => decide (a ≤ b)) (fun a b c h1 h2 => by simp only [decide_eq_true_eq] at *; omega) (fun a b => by simp only [Bool.or_eq_true, decide_eq_true_eq]; omega) l
  exact h.imp fun h => of_decide_eq_true h
end
section
variable {X : Cx}
theorem lenR : CallR X (.builtin "len") (rBi X.K b_len) := by
  intro pins s σ H xs us Q I rx ⟨S, ds, r, hd, sh, hf, po⟩
  unfold b_len at hf
  split at hf <;> try contradiction
  · obtain ⟨v, rfl, h⟩ := sh.one
    cases hf
    obtain ⟨a, vs, rfl, h1, h2⟩ := h
    refine call_len_seq pins s σ H _ us Q I rx ⟨a, vs, rfl, .inl h1, ?_⟩
    rw [h2.length]; exact po.val rfl
  · obtain ⟨v, rfl, h⟩ := sh.one
    cases hf
    obtain ⟨a, vs, rfl, h1, h2⟩ := h
    refine call_len_seq pins s σ H _ us Q I rx ⟨a, vs, rfl, .inr h1, ?_⟩
    rw [h2.length]; exact po.val rfl
  · obtain ⟨v, rfl, h⟩ := sh.one
    split at hf
    · cases hf
      cases (show v = _ from h)
      exact call_len_str pins s σ H _ us Q I rx ⟨_, rfl, by assumption, po.val rfl⟩
    · cases hf
theorem intR : CallR X (.type "int") (rBi X.K b_int_) := by
  intro pins s σ H xs us Q I rx ⟨S, ds, r, hd, sh, hf, po⟩
  unfold b_int_ at hf
  split at hf <;> try contradiction
  · obtain ⟨v, rfl, h⟩ := sh.one
    cases hf; cases (show v = _ from h)
    exact call_int1 pins s σ H _ us Q I rx (.inl ⟨_, rfl, po.val rfl⟩)
  · obtain ⟨v, rfl, h⟩ := sh.one
    cases hf; cases (show v = _ from h)
    exact call_int1 pins s σ H _ us Q I rx (.inr ⟨_, rfl, po.val rfl⟩)
theorem strR : CallR X (.type "str") (rBi X.K b_str_) := by
  intro pins s σ H xs us Q I rx ⟨S, ds, r, hd, sh, hf, po⟩
  unfold b_str_ at hf
  split at hf <;> try contradiction
  obtain ⟨v, rfl, h⟩ := sh.one
  split at hf
  · cases hf; cases (show v = _ from h)
    exact call_str_int pins s σ H _ us Q I rx ⟨_, rfl, by assumption, po.val rfl⟩
  · cases hf
theorem absR : CallR X (.builtin "abs") (rBi X.K b_abs) := by
  intro pins s σ H xs us Q I rx ⟨S, ds, r, hd, sh, hf, po⟩
  unfold b_abs at hf
  split at hf <;> try contradiction
  obtain ⟨v, rfl, h⟩ := sh.one
  cases hf; cases (show v = _ from h)
  exact call_abs pins s σ H _ us Q I rx ⟨_, rfl, po.val rfl⟩
theorem maxR (hc : X.calm = true) : CallR X (.builtin "max") (rBi X.K b_max) := by
  intro pins s σ H xs us Q I rx ⟨S, ds, r, hd, sh, hf, po⟩
  unfold b_max at hf
  split at hf <;> try contradiction
  · obtain ⟨v, u, rfl, h, h'⟩ := sh.two
    cases hf; cases (show v = _ from h); cases (show u = _ from h')
    exact call_max2 hc pins s σ H _ us Q I rx ⟨_, _, rfl, po.val rfl⟩
  · obtain ⟨v, rfl, h⟩ := sh.one
    rename_i l
    cases e : intsD l with
    | none => simp [e] at hf
    | some ns =>
      cases e2 : maxL ns with
      | none => simp [e, e2] at hf
      | some m =>
        simp [e, e2] at hf; subst hf
        obtain ⟨a, rfl, h1⟩ := h.ints e
        obtain ⟨m1, m2⟩ := maxL_spec e2
        refine cr_max hc pins s σ H _ us Q I rx ⟨a, ns, rfl, h1, List.length_pos_of_mem m1, fun k k1 k2 => ?_⟩
        have e3 : k = m := Int.le_antisymm (m2 k k1) (k2 m m1)
        rw [e3]; exact po.val rfl
theorem minR (hc : X.calm = true) : CallR X (.builtin "min") (rBi X.K b_min) := by
  intro pins s σ H xs us Q I rx ⟨S, ds, r, hd, sh, hf, po⟩
  unfold b_min at hf
  split at hf <;> try contradiction
  · obtain ⟨v, u, rfl, h, h'⟩ := sh.two
    cases hf; cases (show v = _ from h); cases (show u = _ from h')
    exact call_min2 hc pins s σ H _ us Q I rx ⟨_, _, rfl, po.val rfl⟩
  · obtain ⟨v, rfl, h⟩ := sh.one
    rename_i l
    cases e : intsD l with
    | none => simp [e] at hf
    | some ns =>
      cases e2 : minL ns with
      | none => simp [e, e2] at hf
      | some m =>
        simp [e, e2] at hf; subst hf
        obtain ⟨a, rfl, h1⟩ := h.ints e
        obtain ⟨m1, m2⟩ := minL_spec e2
        refine cr_min hc pins s σ H _ us Q I rx ⟨a, ns, rfl, h1, List.length_pos_of_mem m1, fun k k1 k2 => ?_⟩
        have e3 : k = m := Int.le_antisymm (k2 m m1) (m2 k k1)
        rw [e3]; exact po.val rfl
theorem sumR (hc : X.calm = true) : CallR X (.builtin "sum") (rBi X.K b_sum) := by
  intro pins s σ H xs us Q I rx ⟨S, ds, r, hd, sh, hf, po⟩
  unfold b_sum at hf
  split at hf <;> try contradiction
  obtain ⟨v, rfl, h⟩ := sh.one
  rename_i l
  cases e : intsD l with
  | none => simp [e] at hf
  | some ns =>
    simp [e] at hf; subst hf
    obtain ⟨a, rfl, h1⟩ := h.ints e
    exact cr_sum hc pins s σ H _ us Q I rx ⟨a, ns, rfl, h1, po.val rfl⟩
theorem allR (hc : X.calm = true) : CallR X (.builtin "all") (rBi X.K b_all_) := by
  intro pins s σ H xs us Q I rx ⟨S, ds, r, hd, sh, hf, po⟩
  unfold b_all_ at hf
  split at hf <;> try contradiction
  obtain ⟨v, rfl, h⟩ := sh.one
  rename_i l
  cases e : blsD l with
  | none => simp [e] at hf
  | some ns =>
    simp [e] at hf; subst hf
    obtain ⟨a, vs, rfl, h1, h2⟩ := h
    rw [blsD_eq e] at h2
    rw [h2.bls_inv] at h1
    exact cr_all hc pins s σ H _ us Q I rx ⟨a, ns, rfl, h1, po.val (by simp [Rep])⟩
theorem listR : CallR X (.type "list") (rBi X.K b_list_) := by
  intro pins s σ H xs us Q I rx ⟨S, ds, r, hd, sh, hf, po⟩
  unfold b_list_ at hf
  split at hf <;> try contradiction
  · obtain ⟨v, rfl, h⟩ := sh.one
    cases hf
    obtain ⟨a, vs, rfl, h1, h2⟩ := h
    exact call_list_of pins s σ H _ us Q I rx ⟨a, vs, rfl, .inl h1, fun l n => po.lst hd h2 n⟩
  · obtain ⟨v, rfl, h⟩ := sh.one
    cases hf
    obtain ⟨a, vs, rfl, h1, h2⟩ := h
    exact call_list_of pins s σ H _ us Q I rx ⟨a, vs, rfl, .inr h1, fun l n => po.lst hd h2 n⟩
theorem tupleR : CallR X (.type "tuple") (rBi X.K b_tuple_) := by
  intro pins s σ H xs us Q I rx ⟨S, ds, r, hd, sh, hf, po⟩
  unfold b_tuple_ at hf
  split at hf <;> try contradiction
  · obtain ⟨v, rfl, h⟩ := sh.one
    cases hf
    obtain ⟨a, vs, rfl, h1, h2⟩ := h
    exact call_tuple_of pins s σ H _ us Q I rx ⟨a, vs, rfl, .inl ⟨h1, fun l n => po.tup hd h2 n⟩⟩
  · obtain ⟨v, rfl, h⟩ := sh.one
    cases hf
    obtain ⟨a, vs, rfl, h1, h2⟩ := h
    exact call_tuple_of pins s σ H _ us Q I rx ⟨a, vs, rfl, .inr ⟨h1, po.val ⟨a, vs, rfl, h1, h2⟩⟩⟩
theorem sortedR : CallR X (.builtin "sorted") (rBi X.K b_sorted) := by
  intro pins s σ H xs us Q I rx ⟨S, ds, r, hd, sh, hf, po⟩
  unfold b_sorted at hf
  split at hf <;> try contradiction
  obtain ⟨v, rfl, h⟩ := sh.one
  rename_i l
  cases e : intsD l with
  | none => simp [e] at hf
  | some ns =>
    simp only [e, Option.map_some, Option.some.injEq] at hf; subst hf
    obtain ⟨a, rfl, h1⟩ := h.ints e
    refine cr_sortedI pins s σ H _ us Q I rx ⟨a, ns, rfl, h1, fun ns' p hp hs n => ?_⟩
    rw [sorted_one hp hs]
    exact po.lst hd (Reps.ints _) n
mutual
theorem noDict {K : PySem.W.Frag} {H : Hp} : ∀ {ps : List PyData} {vs : List V}, DpAll K H vs ps → PyData.hasDictAll ps = false
  | [], _, _ => rfl
  | p :: ps, _, h => by
    cases h with
    | cons h1 h2 => simp [PyData.hasDictAll, noDict1 h1, noDict h2]
theorem noDict1 {K : PySem.W.Frag} {H : Hp} : ∀ {p : PyData} {v : V}, Dp K H v p → p.hasDict = false
  | .none, _, _ => rfl
  | .bool _, _, _ => rfl
  | .int _, _, _ => rfl
  | .str _, _, _ => rfl
  | .list _, _, h => by cases h with | lst _ h => simp [PyData.hasDict, noDict h]
  | .tuple _, _, h => by cases h with | tup _ h => simp [PyData.hasDict, noDict h]
  | .dict _, _, h => by cases h
end
theorem reprR (hg : X.A.guards = some []) (hu : X.A.units + 64 < cLine) : CallR X (.builtin "repr") (rBi X.K b_repr) := by
  intro pins s σ H xs us Q I rx ⟨S, ds, r, hd, sh, hf, po⟩
  unfold b_repr at hf
  split at hf <;> try contradiction
  rename_i d
  obtain ⟨v, rfl, h⟩ := sh.one
  cases e : reprD d with
  | none => simp [e] at hf
  | some x =>
    simp [e] at hf; subst hf
    unfold reprD at e
    split at e
    · rename_i p hp
      split at e
      · rename_i hb
        cases e
        obtain ⟨b12, b3⟩ := Bool.and_eq_true_iff.mp hb
        obtain ⟨b1, b2⟩ := Bool.and_eq_true_iff.mp b12
        have b2 := of_decide_eq_true b2
        have b3 := of_decide_eq_true b3
        obtain ⟨u, rfl, ru⟩ := vals1 rx
        have hdp := h.dp hp
        obtain ⟨as, hr⟩ := Dp.reads I p v u hdp ru
        have fin : ∀ h' t tk, (∀ b o, s.heap.get? b = some o → h'.get? b = some o) → EP X pins σ Q (.str p.shown t) { s with heap := h', toks := tk } := fun h' t tk hk =>
          ⟨.str p.shown, H, I.kept hk, ⟨t, rfl⟩, po.val rfl⟩
        cases hr with
        | none => exact PySem.P.repr_of_none (fin _ _ _ fun _ _ q => q)
        | bool b =>
          refine PySem.P.repr_of_bool ?_
          have := fin s.heap s.toks (s.toks + 1) fun _ _ q => q
          simpa [PyData.shown, apply_ite] using this
        | int i t =>
          have hz : i.natAbs.log2 < 1920 := by simpa [PyData.showable] using b1
          exact PySem.P.repr_of_int hz (fin _ _ _ fun _ _ q => q)
        | str x t => exact PySem.P.repr_of_str (fin _ _ _ fun _ _ q => q) b2
        | @list a o its n ps as q1 q2 q3 q4 =>
          have nd : (PyData.list ps).hasDict = false := by cases hdp with | lst _ ha => exact noDict ha
          exact repr_of_reads' (.list q1 q2 q3 q4) b1 (PySem.PyData.noDict_hsm nd) hg (by omega) (fun _ _ q => q) (fun h' t tk hk => fin h' t tk hk) b2
        | @tuple a o its n ps as q1 q2 q3 q4 =>
          have nd : (PyData.tuple ps).hasDict = false := by cases hdp with | tup _ ha => exact noDict ha
          exact repr_of_reads' (.tuple q1 q2 q3 q4) b1 (PySem.PyData.noDict_hsm nd) hg (by omega) (fun _ _ q => q) (fun h' t tk hk => fin h' t tk hk) b2
        | dict => cases hdp
      · cases e
    · cases e
theorem divmodR : CallR X (.builtin "divmod") (rBi X.K b_divmod) := by
  intro pins s σ H xs us Q I rx ⟨S, ds, r, hd, sh, hf, po⟩
  unfold b_divmod at hf
  split at hf <;> try contradiction
  split at hf <;> try contradiction
  rename_i i j hb
  cases hf
  obtain ⟨v, u, rfl, h, h'⟩ := sh.two
  cases (show v = _ from h); cases (show u = _ from h')
  obtain ⟨b12, b3⟩ := Bool.and_eq_true_iff.mp hb
  obtain ⟨b1, b2⟩ := Bool.and_eq_true_iff.mp b12
  have b1 := of_decide_eq_true b1
  refine call_divmodW pins s σ H _ us Q I rx ⟨i, j, rfl, ⟨b1, PyProof.noPylong_of_log2 (Nat.lt_of_lt_of_le (PySem.Flt.log2_lt_of (by decide) (smallI_lt b2)) (by decide))⟩, fun p n => po.tup hd (Reps.cons rfl (Reps.cons rfl Reps.nil)) n⟩
/-! ### x[i] -/
def rIx2 (K : PySem.W.Frag) : R2 := fun x y H Q => ∃ S d e r, (∀ a, S a → H a ≠ none) ∧ Sha K H S d x ∧ Sha K H S e y ∧ ixD d e = some r ∧ PoO K H S (.v r) Q
theorem Reps.at {K : PySem.W.Frag} {H : Hp} {S : Addr → Prop} {l : List D} {vs : List V} {i : Int} {d : D} (h : Reps K H S l vs) (e : atI l i = some d) : ∃ v, atI vs i = some v ∧ Rep K H S d v := by
  unfold atI at e ⊢
  rw [h.length]
  cases q : ixN l.length i with
  | none => simp [q] at e
  | some j =>
    simp only [q, Option.bind_some] at e ⊢
    exact h.get e
theorem ixR : IxR X (rIx2 X.K) := by
  intro value slice pins s σ H x y v u Q I rx ry ⟨S, d, e, r, hd, sx, sy, hf, po⟩ hs
  unfold ixD at hf
  split at hf <;> try contradiction
  · obtain ⟨a, vs, rfl, h1, h2⟩ := sx
    cases (show y = _ from sy)
    obtain ⟨z, hz, rz⟩ := h2.at hf
    exact ix_list value slice pins s σ H _ _ v u Q I rx ry ⟨a, vs, _, z, rfl, rfl, h1, hz, po.val rz⟩ hs
  · obtain ⟨a, vs, rfl, h1, h2⟩ := sx
    cases (show y = _ from sy)
    obtain ⟨z, hz, rz⟩ := h2.at hf
    exact ix_tup value slice pins s σ H _ _ v u Q I rx ry ⟨a, vs, _, z, rfl, rfl, h1, hz, po.val rz⟩ hs
  · split at hf <;> try contradiction
    rename_i st i hl
    cases (show x = _ from sx); cases (show y = _ from sy)
    cases e2 : atI st.cps.toList i with
    | none => simp [e2] at hf
    | some c =>
      simp [e2] at hf; subst hf
      exact ix_str value slice pins s σ H _ _ v u Q I rx ry ⟨_, _, c, rfl, rfl, hl, e2, po.val rfl⟩ hs
end
end TW
end
/-! W6 -/
section
set_option Elab.async false
set_option linter.all false
set_option maxRecDepth 100000
set_option maxHeartbeats 4000000
set_option autoImplicit false
/-! TW, part 6: things that go into data; calls. -/
namespace TW
open PySem PySem.Spec L2
open PyProof.Rows hiding St
section
variable {K : PySem.W.Frag} {H0 H H' : Hp} {S S' : Addr → Prop} {ρ ρ' : Loc} {σ : St}
theorem Cel.mono (k : ∀ a, S a → S' a) {p : Addr} {d : D} (h : Cel K H S p d) : Cel K H S' p d := by
  cases d with
  | lst l => obtain ⟨vs, e, r⟩ := h; exact ⟨vs, e, Reps.mono k (fun _ _ => rfl) (fun _ _ q => q) l vs r⟩
  | dct l =>
    rcases h with ⟨kvs, e, h1, h2⟩ | ⟨kvs, e, h1, h2⟩
    · exact .inl ⟨kvs, e, h1, RepVs.mono k (fun _ _ => rfl) (fun _ _ q => q) l _ h2⟩
    · exact .inr ⟨kvs, e, h1, RepVs.mono k (fun _ _ => rfl) (fun _ _ q => q) l _ h2⟩
  | _ => exact h.elim
theorem Rep.wide (k : ∀ a, S a → S' a) {d : D} {v : V} (h : Rep K H S d v) : Rep K H S' d v := Rep.mono k (fun _ _ => rfl) (fun _ _ q => q) d v h
theorem Reps.wide (k : ∀ a, S a → S' a) {d : List D} {v : List V} (h : Reps K H S d v) : Reps K H S' d v := Reps.mono k (fun _ _ => rfl) (fun _ _ q => q) d v h
/-- an own thing as shared data -/
theorem Cel.rep (k : ∀ a, S a → S' a) {p : Addr} {d : D} (hp : S' p) (h : Cel K H S p d) : Rep K H S' d (.ref p) := by
  have h := h.mono k
  cases d with
  | lst l => obtain ⟨vs, e, r⟩ := h; exact ⟨p, vs, rfl, .inl ⟨hp, .of e⟩, r⟩
  | dct l => exact ⟨p, rfl, hp, h⟩
  | _ => exact h.elim
/-- more is shared -/
theorem Rl.grow (R : Rl K H0 S ρ σ H) (k : ∀ a, S a → S' a) (n : ∀ a, S' a → S a ∨ (H a ≠ none ∧ ¬ Own ρ σ a)) : Rl K H0 S' ρ σ H where
  len := R.len
  sh := fun i d h => by
    obtain ⟨v, h1, h2⟩ := R.sh i d h
    exact ⟨v, h1, h2.wide k⟩
  ow := fun i d h => by
    obtain ⟨p, h1, h2, h3, h4⟩ := R.ow i d h
    refine ⟨p, h1, fun q => ?_, h3, h4.mono k⟩
    rcases n p q with q | ⟨_, q⟩
    · exact h2 q
    · exact q ⟨i, d, .inl h, h1⟩
  mp := fun i d h => by
    obtain ⟨p, h1, h2, h3, h4⟩ := R.mp i d h
    refine ⟨p, h1, fun q => ?_, h3, h4.mono k⟩
    rcases n p q with q | ⟨_, q⟩
    · exact h2 q
    · exact q ⟨i, d, .inr h, h1⟩
  one := R.one
  dom := fun a h => by
    rcases n a h with q | ⟨q, _⟩
    · exact R.dom a q
    · exact q
  old := R.old
  ent := R.ent
theorem own_set {i : Nat} {d : D} {a : Addr} (h : Own (ρ.set i (.sh d)) σ a) : Own ρ σ a ∧ ∃ j d', j ≠ i ∧ (ρ[j]? = some (.ow d') ∨ ρ[j]? = some (.mp d')) ∧ σ[j]? = some (some (V.ref a)) := by
  obtain ⟨j, d', hd, hs⟩ := h
  by_cases e : i = j
  · subst e
    rw [List.getElem?_set] at hd
    simp at hd
  · rw [List.getElem?_set_ne e] at hd
    exact ⟨⟨j, d', hd, hs⟩, j, d', fun q => e q.symm, hd, hs⟩
/-- an own thing becomes shared -/
theorem Rl.frz (R : Rl K H0 S ρ σ H) {i : Nat} {d : D} {p : Addr} (hi : ρ[i]? = some (.ow d)) (hp : σ[i]? = some (some (V.ref p))) : Rl K H0 (fun a => S a ∨ a = p) (ρ.set i (.sh d)) σ H := by
  have k : ∀ a, S a → (fun a => S a ∨ a = p) a := fun _ h => .inl h
  obtain ⟨p', hp', hn, h0, hc⟩ := R.ow i d hi
  rw [hp] at hp'; cases hp'
  have il : i < ρ.length := (List.getElem?_eq_some_iff.mp hi).1
  have other : ∀ {j : Nat} {d' : D} {q : Addr}, j ≠ i → (ρ[j]? = some (.ow d') ∨ ρ[j]? = some (.mp d')) → σ[j]? = some (some (V.ref q)) → q ≠ p := fun {j d' q} hj hd hs e => by
    subst e
    exact hj (R.one j i q hs hp ⟨d', hd⟩ ⟨d, .inl hi⟩)
  refine ⟨by rw [List.length_set]; exact R.len, fun j d' h => ?_, fun j d' h => ?_, fun j d' h => ?_, fun j1 j2 q h1 h2 ⟨d1, h3⟩ ⟨d2, h4⟩ => ?_, fun a h => ?_, fun a o h n => ?_, R.ent⟩
  · by_cases e : i = j
    · subst e
      rw [List.getElem?_set_self il] at h; cases h
      exact ⟨.ref p, hp, hc.rep k (.inr rfl)⟩
    · rw [List.getElem?_set_ne e] at h
      obtain ⟨v, h1, h2⟩ := R.sh j d' h
      exact ⟨v, h1, h2.wide k⟩
  · by_cases e : i = j
    · subst e; rw [List.getElem?_set_self il] at h; cases h
    · rw [List.getElem?_set_ne e] at h
      obtain ⟨q, h1, h2, h3, h4⟩ := R.ow j d' h
      exact ⟨q, h1, fun z => z.elim h2 (other (fun z => e z.symm) (.inl h) h1), h3, h4.mono k⟩
  · by_cases e : i = j
    · subst e; rw [List.getElem?_set_self il] at h; cases h
    · rw [List.getElem?_set_ne e] at h
      obtain ⟨q, h1, h2, h3, h4⟩ := R.mp j d' h
      exact ⟨q, h1, fun z => z.elim h2 (other (fun z => e z.symm) (.inr h) h1), h3, h4.mono k⟩
  · have r1 : i ≠ j1 := fun e => by subst e; rw [List.getElem?_set_self il] at h3; rcases h3 with h3 | h3 <;> cases h3
    have r2 : i ≠ j2 := fun e => by subst e; rw [List.getElem?_set_self il] at h4; rcases h4 with h4 | h4 <;> cases h4
    rw [List.getElem?_set_ne r1] at h3
    rw [List.getElem?_set_ne r2] at h4
    exact R.one j1 j2 q h1 h2 ⟨d1, h3⟩ ⟨d2, h4⟩
  · rcases h with h | rfl
    · exact R.dom a h
    · obtain ⟨o, e⟩ := hc.there
      rw [e]; intro z; cases z
  · refine R.old a o h fun j d' hj => ?_
    have r1 : i ≠ j := fun e => by subst e; rw [hi] at hj; cases hj
    exact n j d' (by rw [List.getElem?_set_ne r1]; exact hj)
end
section
variable {P : Pm} {σ : St} {S S1 : Addr → Prop} {ρ ρ1 : Loc} {H H1 : Hp}
/-- an operand goes into data -/
theorem Aft.esc {γ δ : Type} {R2 : RlT γ δ} {o : Opd} {v : V} {f : D → Loc → Res γ} {Q : δ → Hp → Prop} (R : Rl P.K P.H0 S1 ρ1 σ H1) (st : Stp P.H0 σ S ρ H S1 ρ1 H1) (hv : OpdRep P.K P.H0 σ H S1 ρ1 H1 v o)
    (h : Aft P σ R2 S ρ H ((o.esc ρ1).bd f) Q) : ∃ S2 ρ2 d, Rl P.K P.H0 S2 ρ2 σ H1 ∧ Stp P.H0 σ S ρ H S2 ρ2 H1 ∧ (∀ a, S1 a → S2 a) ∧ Rep P.K H1 S2 d v ∧ Aft P σ R2 S ρ H (f d ρ2) Q := by
  cases o with
  | v d => exact ⟨S1, ρ1, d, R, st, fun _ q => q, hv, h⟩
  | f d =>
    obtain ⟨p, rfl, h1, h2, hb, h3, h4⟩ := hv
    have k : ∀ a, S1 a → (fun a => S1 a ∨ a = p) a := fun _ h => .inl h
    obtain ⟨o, eo⟩ := h4.there
    refine ⟨fun a => S1 a ∨ a = p, ρ1, d, R.grow k fun a q => ?_, ⟨fun a q => .inl (st.sub a q), fun a q => ?_, st.keep, st.dom, st.own⟩, k, h4.rep k (.inr rfl), h⟩
    · rcases q with q | rfl
      · exact .inl q
      · exact .inr ⟨(by rw [eo]; intro z; cases z), h3⟩
    · rcases q with q | rfl
      · exact st.new a q
      · exact .inr (.inl hb)
  | b i =>
    obtain ⟨p, rfl, hp⟩ := hv
    unfold Opd.esc at h
    cases e : ρ1[i]? with
    | none => simp [e] at h; exact h.elim
    | some sl =>
      cases sl with
      | un => simp [e] at h; exact h.elim
      | mp d => simp [e] at h; exact h.elim
      | sh d =>
        simp [e] at h
        obtain ⟨v, h1, h2⟩ := R.sh i d e
        rw [hp] at h1; cases h1
        exact ⟨S1, ρ1, d, R, st, fun _ q => q, h2, h⟩
      | ow d =>
        simp [e] at h
        have k : ∀ a, S1 a → (fun a => S1 a ∨ a = p) a := fun _ h => .inl h
        obtain ⟨p', hp', _, _, hc⟩ := R.ow i d e
        rw [hp] at hp'; cases hp'
        refine ⟨fun a => S1 a ∨ a = p, ρ1.set i (.sh d), d, R.frz e hp, ⟨fun a q => .inl (st.sub a q), fun a q => ?_, st.keep, st.dom, fun a q => st.own a (own_set q).1⟩, k, hc.rep k (.inr rfl), h⟩
        rcases q with q | rfl
        · exact st.new a q
        · exact .inr (.inr (st.own _ ⟨i, d, .inl e, hp⟩))
end
/-! ### what a def promises -/
/-- the arguments: shared data, but the one that is lent -/
def ArgR (K : PySem.W.Frag) (H : Hp) (S : Addr → Prop) (lent : Option Nat) (p : Addr) : Nat → List D → List V → Prop
  | _, [], vs => vs = []
  | i, d :: ds, vs => ∃ v r, vs = v :: r ∧ (if lent = some i then v = .ref p ∧ Cel K H S p d else Rep K H S d v) ∧ ArgR K H S lent p (i + 1) ds r
theorem ArgR.length {K : PySem.W.Frag} {H : Hp} {S : Addr → Prop} {lent : Option Nat} {p : Addr} : ∀ {i : Nat} {ds : List D} {vs : List V}, ArgR K H S lent p i ds vs → vs.length = ds.length
  | _, [], _, h => by rw [show _ = [] from h]; rfl
  | i, d :: ds, _, h => by
    obtain ⟨v, r, rfl, _, h2⟩ := h
    simp [ArgR.length h2]
/-- the heap behind a call -/
structure Cst (lent : Option Nat) (p : Addr) (S : Addr → Prop) (H : Hp) (S' : Addr → Prop) (H' : Hp) : Prop where
  sub : ∀ a, S a → S' a
  new : ∀ a, S' a → S a ∨ H a = none
  keep : ∀ a o, H a = some o → (lent = none ∨ a ≠ p) → H' a = some o
  dom : ∀ a, H a ≠ none → H' a ≠ none
  shd : ∀ a, S' a → H' a ≠ none
  lnt : lent ≠ none → ¬ S' p
def spF (K : PySem.W.Frag) (ER : Exn → Value → Option Addr → Hp → Prop) (g : FSig) : Sp := fun vs H Q E => ∃ S p ds, (∀ a, S a → H a ≠ none) ∧ ds.length = g.np ∧ (g.lent ≠ none → ¬ S p ∧ H p ≠ none) ∧ ArgR K H S g.lent p 0 ds vs ∧
  match g.run ds with
  | .ok d m => ∀ v H' S', Cst g.lent p S H S' H' → (if g.fresh = true then ∃ q, v = .ref q ∧ ¬ S' q ∧ H q = none ∧ Cel K H' S' q d else Rep K H' S' d v) → (∀ k d', g.lent = some k → m = some d' → Cel K H' S' p d') → Q v H'
  | .ex x m => ∀ cls dx H' S', Cst g.lent p S H S' H' → ER x cls dx H' → (∀ k d', g.lent = some k → m = some d' → Cel K H' S' p d') → E cls dx H'
  | .no => False
end TW
end
/-! W7 -/
section
set_option Elab.async false
set_option linter.all false
set_option maxRecDepth 100000
set_option maxHeartbeats 4000000
set_option autoImplicit false
/-! TW, part 7: from operands to a call's promise. -/
namespace TW
open PySem PySem.Spec L2
open PyProof.Rows hiding St
/-- several operands -/
def OpdReps (K : PySem.W.Frag) (H0 : Hp) (σ : St) (Hb : Hp) (S : Addr → Prop) (ρ : Loc) (H : Hp) : List V → List Opd → Prop
  | vs, [] => vs = []
  | vs, o :: os => ∃ v r, vs = v :: r ∧ OpdRep K H0 σ Hb S ρ H v o ∧ OpdReps K H0 σ Hb S ρ H r os
/-- the operand is a thing that is nobody's data yet -/
def IsTop (ρ : Loc) : Opd → Prop
  | .v _ => False
  | .f _ => True
  | .b i => ∃ d, ρ[i]? = some (.ow d) ∨ ρ[i]? = some (.mp d)
def TopA (ρ : Loc) : List V → List Opd → Addr → Prop
  | v :: vs, o :: os, a => (v = .ref a ∧ IsTop ρ o) ∨ TopA ρ vs os a
  | _, _, _ => False
section
variable {K : PySem.W.Frag} {H0 H Hb H1 : Hp} {S S1 : Addr → Prop} {ρ ρ1 ρ' : Loc} {σ : St}
theorem OpdReps.length : ∀ {os : List Opd} {vs : List V}, OpdReps K H0 σ Hb S ρ H vs os → vs.length = os.length
  | [], _, h => by rw [show _ = [] from h]; rfl
  | o :: os, _, h => by
    obtain ⟨v, r, rfl, _, h2⟩ := h
    simp [OpdReps.length h2]
theorem OpdReps.step (R : Rl K H0 S ρ σ H) {S' : Addr → Prop} {H' : Hp} (x : Stp H0 σ S ρ H S' ρ' H') : ∀ {os : List Opd} {vs : List V}, OpdReps K H0 σ Hb S ρ H vs os → OpdReps K H0 σ Hb S' ρ' H' vs os
  | [], _, h => h
  | o :: os, _, h => by
    obtain ⟨v, r, rfl, h1, h2⟩ := h
    exact ⟨v, r, rfl, h1.step R x, OpdReps.step R x h2⟩
theorem anti_opds : Anti (fun Hb S ρ H vs os => OpdReps K H0 σ Hb S ρ H vs os) := fun Hb Hb' S ρ H vs os k => by
  induction os generalizing vs with
  | nil => exact fun h => h
  | cons o os ih =>
    rintro ⟨v, r, rfl, h1, h2⟩
    exact ⟨v, r, rfl, anti_opd _ _ _ _ _ _ _ k h1, ih r h2⟩
theorem OpdReps.shas (R : Rl K H0 S ρ σ H) : ∀ {os : List Opd} {vs : List V} {ds : List D}, OpdReps K H0 σ Hb S ρ H vs os → getAll ρ os = some ds → Shas K H S ds vs
  | [], _, ds, h, g => by cases g; exact h
  | o :: os, _, ds, h, g => by
    obtain ⟨v, r, rfl, h1, h2⟩ := h
    unfold getAll at g
    cases e1 : o.get ρ with
    | none => rw [e1] at g; cases g
    | some d =>
      cases e2 : getAll ρ os with
      | none => rw [e1, e2] at g; cases g
      | some ds' =>
        rw [e1, e2] at g; cases g
        exact ⟨v, r, rfl, h1.sha R e1, OpdReps.shas R h2 e2⟩
/-- one operand as shared data, in a larger lot -/
theorem OpdRep.into {Sc : Addr → Prop} (R : Rl K H0 S ρ σ H) {o : Opd} {v : V} {d : D} (h : OpdRep K H0 σ Hb S ρ H v o) (g : o.get ρ = some d) (k : ∀ a, S a → Sc a) (t : ∀ a, v = .ref a → IsTop ρ o → Sc a) : Rep K H Sc d v := by
  cases o with
  | v e => cases g; exact Rep.wide k h
  | f e => cases g; obtain ⟨p, rfl, _, _, _, _, c⟩ := h; exact c.rep k (t p rfl trivial)
  | b i =>
    obtain ⟨p, rfl, hp⟩ := h
    unfold Opd.get at g
    cases e : ρ[i]? with
    | none => simp [e] at g
    | some sl =>
      cases sl with
      | un => simp [e] at g
      | sh d' =>
        simp [e] at g; subst g
        obtain ⟨v, h1, h2⟩ := R.sh i _ e
        rw [hp] at h1; cases h1
        exact h2.wide k
      | ow d' =>
        simp [e] at g; subst g
        obtain ⟨q, h1, _, _, h2⟩ := R.ow i _ e
        rw [hp] at h1; cases h1
        exact h2.rep k (t p rfl ⟨_, .inl e⟩)
      | mp d' =>
        simp [e] at g; subst g
        obtain ⟨q, h1, _, _, h2⟩ := R.mp i _ e
        rw [hp] at h1; cases h1
        exact h2.rep k (t p rfl ⟨_, .inr e⟩)
/-- what a top operand is -/
theorem OpdRep.top (R : Rl K H0 S ρ σ H) {o : Opd} {a : Addr} (h : OpdRep K H0 σ Hb S ρ H (.ref a) o) (t : IsTop ρ o) : H a ≠ none ∧ ¬ S a ∧ ((Hb a = none ∧ ¬ Own ρ σ a) ∨ Own ρ σ a) := by
  cases o with
  | v e => exact t.elim
  | f e =>
    obtain ⟨p, hp, h1, h2, h3, h4, c⟩ := h
    cases hp
    obtain ⟨o, eo⟩ := c.there
    exact ⟨(by rw [eo]; intro z; cases z), h1, .inl ⟨h3, h4⟩⟩
  | b i =>
    obtain ⟨p, hp, hs⟩ := h
    cases hp
    obtain ⟨d, hd⟩ := t
    have ow : Own ρ σ a := ⟨i, d, hd, hs⟩
    obtain ⟨d', c, n⟩ := R.own_cel ow
    obtain ⟨o, eo⟩ := c.there
    exact ⟨(by rw [eo]; intro z; cases z), n, .inr ow⟩
theorem TopA.spec (R : Rl K H0 S ρ σ H) {a : Addr} : ∀ {os : List Opd} {vs : List V}, OpdReps K H0 σ Hb S ρ H vs os → TopA ρ vs os a → H a ≠ none ∧ ¬ S a ∧ ((Hb a = none ∧ ¬ Own ρ σ a) ∨ Own ρ σ a)
  | [], vs, _, t => by cases vs <;> exact t.elim
  | o :: os, _, h, t => by
    obtain ⟨v, r, rfl, h1, h2⟩ := h
    rcases t with ⟨rfl, t⟩ | t
    · exact h1.top R t
    · exact TopA.spec R h2 t
/-- all operands as shared data -/
theorem OpdReps.args {Sc : Addr → Prop} {p : Addr} (R : Rl K H0 S ρ σ H) (k : ∀ a, S a → Sc a) : ∀ {os : List Opd} {vs : List V} {ds : List D} (i : Nat), OpdReps K H0 σ Hb S ρ H vs os → getAll ρ os = some ds → (∀ a, TopA ρ vs os a → Sc a) → ArgR K H Sc none p i ds vs
  | [], _, ds, _, h, g, _ => by cases g; exact h
  | o :: os, _, ds, i, h, g, t => by
    obtain ⟨v, r, rfl, h1, h2⟩ := h
    unfold getAll at g
    cases e1 : o.get ρ with
    | none => rw [e1] at g; cases g
    | some d =>
      cases e2 : getAll ρ os with
      | none => rw [e1, e2] at g; cases g
      | some ds' =>
        rw [e1, e2] at g; cases g
        refine ⟨v, r, rfl, ?_, OpdReps.args R k (i + 1) h2 e2 fun a q => t a (.inr q)⟩
        rw [if_neg (by intro z; cases z)]
        exact h1.into R e1 k fun a ha ht => t a (.inl ⟨ha, ht⟩)
theorem getAll_length : ∀ {os : List Opd} {ds : List D}, getAll ρ os = some ds → ds.length = os.length
  | [], _, g => by cases g; rfl
  | o :: os, ds, g => by
    unfold getAll at g
    cases e1 : o.get ρ with
    | none => rw [e1] at g; cases g
    | some d =>
      cases e2 : getAll ρ os with
      | none => rw [e1, e2] at g; cases g
      | some ds' => rw [e1, e2] at g; cases g; simp [getAll_length e2]
theorem TopA.set_sh {i : Nat} {d : D} {a : Addr} : ∀ {os : List Opd} {vs : List V}, TopA (ρ.set i (.sh d)) vs os a → TopA ρ vs os a
  | [], vs, t => by cases vs <;> exact t.elim
  | o :: os, [], t => t.elim
  | o :: os, v :: vs, t => by
    rcases t with ⟨h, t⟩ | t
    · refine .inl ⟨h, ?_⟩
      cases o with
      | v e => exact t
      | f e => exact t
      | b j =>
        obtain ⟨d', hd⟩ := t
        by_cases e : i = j
        · subst e
          rw [List.getElem?_set] at hd
          simp at hd
        · rw [List.getElem?_set_ne e] at hd
          exact ⟨d', hd⟩
    · exact .inr (TopA.set_sh t)
/-- all that is lent becomes shared -/
theorem frz_ok : ∀ {os : List Opd} {vs : List V} {ρ : Loc} {S : Addr → Prop}, Rl K H0 S ρ σ H → OpdReps K H0 σ Hb S ρ H vs os → frz ρ os = some ρ' →
    ∃ Sc : Addr → Prop, (∀ a, S a → Sc a) ∧ (∀ a, Sc a → S a ∨ TopA ρ vs os a) ∧ (∀ a, TopA ρ vs os a → Sc a) ∧ Rl K H0 Sc ρ' σ H ∧ ∀ a, Own ρ' σ a → Own ρ σ a
  | [], _, ρ, S, R, h, g => by
    cases g
    exact ⟨S, fun _ q => q, fun _ q => .inl q, fun a q => by cases (show _ = [] from h); exact q.elim, R, fun _ q => q⟩
  | .v d :: os, _, ρ, S, R, h, g => by
    obtain ⟨v, r, rfl, h1, h2⟩ := h
    obtain ⟨Sc, k1, k2, k3, k4, k5⟩ := frz_ok R h2 (show frz ρ os = some ρ' from g)
    refine ⟨Sc, k1, fun a q => (k2 a q).imp id .inr, fun a q => ?_, k4, k5⟩
    rcases q with ⟨_, q⟩ | q
    · exact q.elim
    · exact k3 a q
  | .f d :: os, _, ρ, S, R, h, g => by
    obtain ⟨v, r, rfl, h1, h2⟩ := h
    obtain ⟨p, rfl, a1, a2, a3, a4, c⟩ := h1
    obtain ⟨Sc, k1, k2, k3, k4, k5⟩ := frz_ok R h2 (show frz ρ os = some ρ' from g)
    obtain ⟨o, eo⟩ := c.there
    refine ⟨fun a => Sc a ∨ a = p, fun a q => .inl (k1 a q), fun a q => ?_, fun a q => ?_, k4.grow (fun _ q => .inl q) fun a q => ?_, k5⟩
    · rcases q with q | rfl
      · exact (k2 a q).imp id .inr
      · exact .inr (.inl ⟨rfl, trivial⟩)
    · rcases q with ⟨q, _⟩ | q
      · cases q; exact .inr rfl
      · exact .inl (k3 a q)
    · rcases q with q | rfl
      · exact .inl q
      · exact .inr ⟨(by rw [eo]; intro z; cases z), fun z => a4 (k5 _ z)⟩
  | .b i :: os, _, ρ, S, R, h, g => by
    obtain ⟨v, r, rfl, h1, h2⟩ := h
    obtain ⟨p, rfl, hp⟩ := h1
    unfold frz at g
    cases e : ρ[i]? with
    | none => simp [e] at g
    | some sl =>
      cases sl with
      | un => simp [e] at g
      | mp d => simp [e] at g
      | sh d =>
        simp only [e] at g
        obtain ⟨Sc, k1, k2, k3, k4, k5⟩ := frz_ok R h2 g
        refine ⟨Sc, k1, fun a q => (k2 a q).imp id .inr, fun a q => ?_, k4, k5⟩
        rcases q with ⟨_, d', q⟩ | q
        · rw [e] at q; rcases q with q | q <;> cases q
        · exact k3 a q
      | ow d =>
        simp only [e] at g
        have R2 := R.frz e hp
        have x : Stp H0 σ S ρ H (fun a => S a ∨ a = p) (ρ.set i (.sh d)) H := ⟨fun _ q => .inl q, fun a q => by
          rcases q with q | rfl
          · exact .inl q
          · exact .inr (.inr ⟨i, d, .inl e, hp⟩), fun _ _ q _ => q, fun _ q => q, fun a q => (own_set q).1⟩
        obtain ⟨Sc, k1, k2, k3, k4, k5⟩ := frz_ok R2 (h2.step R x) g
        refine ⟨Sc, fun a q => k1 a (.inl q), fun a q => ?_, fun a q => ?_, k4, fun a q => (own_set (k5 a q)).1⟩
        · rcases k2 a q with (q | rfl) | q
          · exact .inl q
          · exact .inr (.inl ⟨rfl, d, .inl e⟩)
          · exact .inr (.inr q.set_sh)
        · rcases q with ⟨q, _⟩ | q
          · cases q; exact k1 _ (.inr rfl)
          · by_cases hap : a = p
            · exact k1 _ (.inr hap)
            · refine k3 a ?_
              exact topA_keep (hp := hp) h2 q hap
where
  topA_keep {os : List Opd} {vs : List V} {i : Nat} {d : D} {a p : Addr} {ρ : Loc} {S : Addr → Prop} {hp : σ[i]? = some (some (V.ref p))} (h : OpdReps K H0 σ Hb S ρ H vs os) (t : TopA ρ vs os a) (n : a ≠ p) : TopA (ρ.set i (.sh d)) vs os a := by
    induction os generalizing vs with
    | nil => cases vs <;> exact t.elim
    | cons o os ih =>
      obtain ⟨v, r, rfl, h1, h2⟩ := h
      rcases t with ⟨hv, t⟩ | t
      · refine .inl ⟨hv, ?_⟩
        cases o with
        | v e => exact t
        | f e => exact t
        | b j =>
          obtain ⟨q, hq, hs⟩ := h1
          rw [hv] at hq; cases hq
          have hij : i ≠ j := fun e => by subst e; rw [hp] at hs; cases hs; exact n rfl
          obtain ⟨d', hd⟩ := t
          exact ⟨d', by rw [List.getElem?_set_ne hij]; exact hd⟩
      · exact .inr (ih h2 t)
end

theorem Reps.of_flat {K : PySem.W.Frag} {H : Hp} {S S' : Addr → Prop} {q : Addr} {d : D} (h : Cel K H S q d) (f : flatD d = true) : Cel K H S' q d := by
  cases d with
  | lst l => obtain ⟨vs, e, r⟩ := h; exact ⟨vs, e, Reps.of_imm l vs f r⟩
  | dct l => cases f
  | _ => exact h.elim
section
variable {P : Pm} {σ : St} {S S1 : Addr → Prop} {ρ ρ1 : Loc} {H H1 : Hp}
theorem Cst.ext {p : Addr} {S S' : Addr → Prop} {H H' : Hp} (c : Cst none p S H S' H') : Ext H H' := fun a o e => c.keep a o e (.inl rfl)
theorem noB_at : ∀ {os : List Opd} {i j : Nat}, noB os = true → os[i]? = some (.b j) → False
  | [], _, _, _, h => by simp at h
  | .v d :: os, 0, _, _, h => by simp at h
  | .f d :: os, 0, _, _, h => by simp at h
  | .b d :: os, _, _, n, _ => by cases n
  | .v d :: os, i + 1, j, n, h => noB_at (os := os) (i := i) n (by simpa using h)
  | .f d :: os, i + 1, j, n, h => noB_at (os := os) (i := i) n (by simpa using h)
/-- the arguments where one is lent -/
theorem OpdReps.argsK {K : PySem.W.Frag} {H0 Hb : Hp} {Sc : Addr → Prop} {p : Addr} {j k : Nat} {dk : D} (R : Rl K H0 S ρ σ H) (hj : ρ[j]? = some (.ow dk) ∨ ρ[j]? = some (.mp dk)) (hp : σ[j]? = some (some (V.ref p))) (kk : ∀ a, S a → Sc a) :
    ∀ {os : List Opd} {vs : List V} {ds : List D} (i : Nat), OpdReps K H0 σ Hb S ρ H vs os → getAll ρ os = some ds → (∀ m o, os[m]? = some o → i + m ≠ k → ∀ n, o ≠ .b n) → (∀ m, i + m = k → os[m]? = some (.b j) ∨ os[m]? = none) →
      (∀ (m : Nat) (a : Addr) (d : D), os[m]? = some (Opd.f d) → vs[m]? = some (V.ref a) → Sc a) → ArgR K H Sc (some k) p i ds vs
  | [], _, ds, _, h, g, _, _, _ => by cases g; exact h
  | o :: os, _, ds, i, h, g, n, b, t => by
    obtain ⟨v, r, rfl, h1, h2⟩ := h
    unfold getAll at g
    cases e1 : o.get ρ with
    | none => rw [e1] at g; cases g
    | some d =>
      cases e2 : getAll ρ os with
      | none => rw [e1, e2] at g; cases g
      | some ds' =>
        rw [e1, e2] at g; cases g
        refine ⟨v, r, rfl, ?_, OpdReps.argsK R hj hp kk (i + 1) h2 e2 (fun m o' q hm => n (m + 1) o' (by simpa using q) (by omega)) (fun m hm => by simpa using b (m + 1) (by omega)) fun m a d q q' => t (m + 1) a d (by simpa using q) (by simpa using q')⟩
        by_cases hi : k = i
        · subst hi
          rw [if_pos rfl]
          have hb := b 0 (by omega)
          simp only [List.getElem?_cons_zero, Option.some.injEq, reduceCtorEq, or_false] at hb
          subst hb
          obtain ⟨q, hq, hs⟩ := h1
          rw [hp] at hs; cases hs
          refine ⟨hq, ?_⟩
          unfold Opd.get at e1
          rcases hj with hj | hj
          · simp [hj] at e1; subst e1
            obtain ⟨p', h3, _, _, c⟩ := R.ow j _ hj
            rw [hp] at h3; cases h3
            exact c.mono kk
          · simp [hj] at e1; subst e1
            obtain ⟨p', h3, _, _, c⟩ := R.mp j _ hj
            rw [hp] at h3; cases h3
            exact c.mono kk
        · rw [if_neg (by intro z; cases z; exact hi rfl)]
          refine h1.into R e1 kk fun a ha ht => ?_
          cases o with
          | v e => exact ht.elim
          | f e => subst ha; exact t 0 a e rfl rfl
          | b m => exact absurd rfl (n 0 _ rfl (by omega) m)
/-- a call by operands keeps what the def promises -/
theorem call_sp (g : FSig) {os : List Opd} {vs : List V} {Q : VK} (R : Rl P.K P.H0 S1 ρ1 σ H1) (st : Stp P.H0 σ S ρ H S1 ρ1 H1) (hv : OpdReps P.K P.H0 σ H S1 ρ1 H1 vs os)
    (h : Aft P σ (OpdRep P.K P.H0 σ) S ρ H (callD g os ρ1) Q) : spF P.K P.ER g vs H1 Q fun cls dx H' => P.W cls dx σ H' := by
  unfold callD at h
  split at h
  · rename_i hnp
    split at h
    · exact h.elim
    · rename_i ds hds
      have hlen : ds.length = g.np := by rw [getAll_length hds]; exact hnp
      have bn : ∀ {q : Addr}, H1 q = none → H q = none := fun {q} e => by
        cases z : H q with
        | none => rfl
        | some o => exact absurd e (st.dom q (by rw [z]; intro w; cases w))
      split at h
      · rename_i hl
        -- nothing is lent: the arguments are all read
        have Sd : ∀ a, (S1 a ∨ TopA ρ1 vs os a) → H1 a ≠ none := fun a q => q.elim (R.dom a) fun q => (TopA.spec R hv q).1
        cases hr : g.run ds with
        | no => simp only [hr] at h; exact h.elim
        | ex x m =>
          simp only [hr] at h
          refine ⟨fun a => S1 a ∨ TopA ρ1 vs os a, 0, ds, Sd, hlen, fun z => absurd hl z, ?_, ?_⟩
          · rw [hl]; exact hv.args R (fun _ q => .inl q) 0 hds fun _ q => .inr q
          · rw [hr]
            intro cls dx H' S' c er _
            rw [hl] at c
            exact h cls dx H' S1 (R.ext c.ext) (st.trans c.ext.stp) er
        | ok d m =>
          simp only [hr] at h
          by_cases hk : (d.imm || (g.fresh && flatD d)) = true
          · rw [if_pos hk] at h
            refine ⟨fun a => S1 a ∨ TopA ρ1 vs os a, 0, ds, Sd, hlen, fun z => absurd hl z, ?_, ?_⟩
            · rw [hl]; exact hv.args R (fun _ q => .inl q) 0 hds fun _ q => .inr q
            · rw [hr]
              intro v H' S' c res _
              rw [hl] at c
              refine h v H' S1 (R.ext c.ext) (st.trans c.ext.stp) ?_
              cases hf : g.fresh with
              | true =>
                rw [hf, if_pos rfl] at res
                obtain ⟨q, rfl, q1, q2, q3⟩ := res
                refine ⟨q, rfl, fun z => R.dom q z q2, R.h0 q2, bn q2, fun z => R.own_there z q2, ?_⟩
                rw [hf, Bool.true_and] at hk
                rcases Bool.or_eq_true_iff.mp hk with hk | hk
                · cases d <;> first | exact (show False from q3).elim | (simp [D.imm] at hk)
                · exact Reps.of_flat q3 hk
              | false =>
                rw [hf] at res hk
                rw [Bool.false_and, Bool.or_false] at hk
                exact Rep.of_imm d v hk res
          · rw [if_neg hk] at h
            cases hz : frz ρ1 os with
            | none => simp only [hz] at h; exact h.elim
            | some ρ' =>
              simp only [hz] at h
              obtain ⟨Sc, k1, k2, k3, R2, k5⟩ := frz_ok R hv hz
              refine ⟨Sc, 0, ds, R2.dom, hlen, fun z => absurd hl z, ?_, ?_⟩
              · rw [hl]; exact hv.args R k1 0 hds k3
              · rw [hr]
                intro v H' S' c res _
                rw [hl] at c
                have Rx := R2.ext c.ext
                have R3 : Rl P.K P.H0 S' ρ' σ H' := Rx.grow c.sub fun a q => by
                  rcases c.new a q with q' | q'
                  · exact .inl q'
                  · exact .inr ⟨c.shd a q, fun z => R2.own_there z q'⟩
                refine h v H' S' R3 ⟨fun a q => c.sub a (k1 a (st.sub a q)), fun a q => ?_, fun a o e n => ?_, fun a q => c.dom a (st.dom a q), fun a q => st.own a (k5 a q)⟩ ?_
                · rcases c.new a q with q' | q'
                  · rcases k2 a q' with q' | q'
                    · exact st.new a q'
                    · rcases (TopA.spec R hv q').2.2 with ⟨z, _⟩ | z
                      · exact .inr (.inl z)
                      · exact .inr (.inr (st.own a z))
                  · exact .inr (.inl (bn q'))
                · exact c.keep a o (st.keep a o e n) (.inl rfl)
                · cases hf : g.fresh with
                  | true =>
                    rw [hf, if_pos rfl] at res
                    obtain ⟨q, rfl, q1, q2, q3⟩ := res
                    exact ⟨q, rfl, q1, R.h0 q2, bn q2, fun z => R2.own_there z q2, q3⟩
                  | false => rw [hf] at res; exact res
      · rename_i k hl
        split at h
        · rename_i j hb hn
          cases hr : g.run ds with
          | no => simp only [hr] at h; exact h.elim
          | ex x m => simp only [hr] at h; exact h.elim
          | ok d m =>
            cases m with
            | none => simp only [hr] at h; exact h.elim
            | some m =>
              simp only [hr] at h
              -- the slot that is lent
              have nb : ∀ m o, os[m]? = some o → 0 + m ≠ k → ∀ n, o ≠ .b n := fun m o q hm n e => by
                subst e
                rw [Nat.zero_add] at hm
                by_cases hlt : m < k
                · exact noB_at (i := m) hn (by rw [List.getElem?_eraseIdx, if_pos hlt]; exact q)
                · exact noB_at (i := m - 1) hn (by rw [List.getElem?_eraseIdx, if_neg (by omega)]; rw [show m - 1 + 1 = m by omega]; exact q)
              have main : ∀ (dk : D) (p : Addr), (ρ1[j]? = some (.ow dk) ∨ ρ1[j]? = some (.mp dk)) → σ[j]? = some (some (V.ref p)) → ∀ (sl : Slot), (sl = .ow m ∧ ρ1[j]? = some (.ow dk)) ∨ (sl = .mp m ∧ ρ1[j]? = some (.mp dk)) →
                  Aft P σ (OpdRep P.K P.H0 σ) S ρ H (.ok (opdOf g.fresh d) (ρ1.set j sl)) Q → spF P.K P.ER g vs H1 Q fun cls dx H' => P.W cls dx σ H' := by
                intro dk p hdk hp sl hsl h
                have owp : Own ρ1 σ p := ⟨j, dk, hdk, hp⟩
                obtain ⟨dx, cx, nS⟩ := R.own_cel owp
                -- the lot: shared things and the new ones among the arguments
                let Sc : Addr → Prop := fun a => S1 a ∨ ∃ (m : Nat) (d : D), os[m]? = some (Opd.f d) ∧ vs[m]? = some (V.ref a)
                have fsp : ∀ (a : Addr) (m : Nat) (d : D), os[m]? = some (Opd.f d) → vs[m]? = some (V.ref a) → H1 a ≠ none ∧ H a = none ∧ ¬ Own ρ1 σ a := fun a m d e1 e2 => by
                  obtain ⟨v, e3, e4⟩ := opds_at hv e1
                  rw [e2] at e3; cases e3
                  obtain ⟨q, hq, _, _, q3, q4, c⟩ := e4
                  cases hq
                  obtain ⟨o, eo⟩ := c.there
                  exact ⟨(by rw [eo]; intro z; cases z), q3, q4⟩
                have nSc : ¬ Sc p := fun q => by
                  rcases q with q | ⟨m, d, e1, e2⟩
                  · exact nS q
                  · exact (fsp p m d e1 e2).2.2 owp
                have Sd : ∀ a, Sc a → H1 a ≠ none := fun a q => by
                  rcases q with q | ⟨m, d, e1, e2⟩
                  · exact R.dom a q
                  · exact (fsp a m d e1 e2).1
                refine ⟨Sc, p, ds, Sd, hlen, fun _ => ⟨nSc, R.own_there owp⟩, ?_, ?_⟩
                · rw [hl]
                  refine hv.argsK R hdk hp (fun _ q => .inl q) 0 hds nb (fun m hm => ?_) fun m a d e1 e2 => .inr ⟨m, d, e1, e2⟩
                  rw [Nat.zero_add] at hm; subst hm
                  exact .inl hb
                · rw [hr]
                  intro v H' S' c res lc
                  rw [hl] at c
                  have lc := lc k m hl rfl
                  have jl : j < ρ1.length := by
                    rcases hdk with q | q <;> exact (List.getElem?_eq_some_iff.mp q).1
                  have nS' : ¬ S' p := c.lnt (by intro z; cases z)
                  have kp : ∀ a o, H1 a = some o → a ≠ p → H' a = some o := fun a o e n => c.keep a o e (.inr n)
                  have sAt : ∀ a, S1 a → H' a = H1 a := fun a q => by
                    cases e : H1 a with
                    | none => exact absurd e (R.dom a q)
                    | some o => exact kp a o e fun z => nS (z ▸ q)
                  have tup : ∀ a us, SqT P.K H1 a us → SqT P.K H' a us := fun a us q => by
                    rcases q with q | q
                    · have n : a ≠ p := fun z => by subst z; exact cx.notT q
                      rcases q with q | ⟨o, q⟩
                      · exact .inl (.inl (kp _ _ q n))
                      · exact .inl (.inr ⟨o, kp _ _ q n⟩)
                    · exact .inr q
                  have rp : ∀ d v, Rep P.K H1 S1 d v → Rep P.K H' S' d v := fun d v q => Rep.mono (fun a q => c.sub a (.inl q)) sAt tup d v q
                  have rps : ∀ d v, Reps P.K H1 S1 d v → Reps P.K H' S' d v := fun d v q => Reps.mono (fun a q => c.sub a (.inl q)) sAt tup d v q
                  have rpv : ∀ d v, RepVs P.K H1 S1 d v → RepVs P.K H' S' d v := fun d v q => RepVs.mono (fun a q => c.sub a (.inl q)) sAt tup d v q
                  have cl : ∀ q d, q ≠ p → Cel P.K H1 S1 q d → Cel P.K H' S' q d := fun q d n x => by
                    cases d with
                    | lst l => obtain ⟨vs, e, r⟩ := x; exact ⟨vs, kp _ _ e n, rps _ _ r⟩
                    | dct l =>
                      rcases x with ⟨kvs, e, h1, h2⟩ | ⟨kvs, e, h1, h2⟩
                      · exact .inl ⟨kvs, kp _ _ e n, h1, rpv _ _ h2⟩
                      · exact .inr ⟨kvs, kp _ _ e n, h1, rpv _ _ h2⟩
                    | _ => exact x.elim
                  have nS2 : ∀ q, Own ρ1 σ q → q ≠ p → ¬ S' q := fun q ow n z => by
                    rcases c.new q z with z | z
                    · rcases z with z | ⟨m, d, e1, e2⟩
                      · exact R.sNotOwn z ow
                      · exact (fsp q m d e1 e2).2.2 ow
                    · exact R.own_there ow z
                  have ownE : ∀ a, Own (ρ1.set j sl) σ a → Own ρ1 σ a := fun a ⟨i, d', hd', hs⟩ => by
                    by_cases e : j = i
                    · subst e
                      exact ⟨j, dk, hdk, hs⟩
                    · rw [List.getElem?_set_ne e] at hd'
                      exact ⟨i, d', hd', hs⟩
                  have one' : ∀ (i : Nat) (d' : D) (q : Addr), j ≠ i → (ρ1[i]? = some (.ow d') ∨ ρ1[i]? = some (.mp d')) → σ[i]? = some (some (V.ref q)) → q ≠ p := fun i d' q e hd hs z => by
                    subst z
                    exact e (R.one j i q hp hs ⟨dk, hdk⟩ ⟨d', hd⟩)
                  have back : ∀ (i : Nat), (∃ (d : D), (ρ1.set j sl)[i]? = some (Slot.ow d) ∨ (ρ1.set j sl)[i]? = some (Slot.mp d)) → ∃ (d : D), ρ1[i]? = some (Slot.ow d) ∨ ρ1[i]? = some (Slot.mp d) := fun i ⟨d', hd'⟩ => by
                    by_cases e : j = i
                    · subst e; exact ⟨dk, hdk⟩
                    · rw [List.getElem?_set_ne e] at hd'; exact ⟨d', hd'⟩
                  have R3 : Rl P.K P.H0 S' (ρ1.set j sl) σ H' := by
                    refine ⟨by rw [List.length_set]; exact R.len, fun i d' e => ?_, fun i d' e => ?_, fun i d' e => ?_, fun i1 i2 q e1 e2 x1 x2 => R.one i1 i2 q e1 e2 (back i1 x1) (back i2 x2), c.shd, fun a o e n => ?_, fun a q => c.dom a (R.ent a q)⟩
                    · have e' : j ≠ i := fun z => by subst z; rw [List.getElem?_set_self jl] at e; rcases hsl with ⟨rfl, _⟩ | ⟨rfl, _⟩ <;> cases e
                      rw [List.getElem?_set_ne e'] at e
                      obtain ⟨v, h1, h2⟩ := R.sh i d' e
                      exact ⟨v, h1, rp _ _ h2⟩
                    · by_cases e' : j = i
                      · subst e'
                        rw [List.getElem?_set_self jl] at e
                        rcases hsl with ⟨rfl, ho⟩ | ⟨rfl, ho⟩
                        · cases e
                          obtain ⟨p', h1, _, h3, _⟩ := R.ow j _ ho
                          rw [hp] at h1; cases h1
                          exact ⟨p, hp, nS', h3, lc⟩
                        · cases e
                      · rw [List.getElem?_set_ne e'] at e
                        obtain ⟨q, h1, h2, h3, h4⟩ := R.ow i d' e
                        have nq := one' i d' q e' (.inl e) h1
                        exact ⟨q, h1, nS2 q ⟨i, d', .inl e, h1⟩ nq, h3, cl q d' nq h4⟩
                    · by_cases e' : j = i
                      · subst e'
                        rw [List.getElem?_set_self jl] at e
                        rcases hsl with ⟨rfl, ho⟩ | ⟨rfl, ho⟩
                        · cases e
                        · cases e
                          obtain ⟨p', h1, _, h3, _⟩ := R.mp j _ ho
                          rw [hp] at h1; cases h1
                          exact ⟨p, hp, nS', h3, lc⟩
                      · rw [List.getElem?_set_ne e'] at e
                        obtain ⟨q, h1, h2, h3, h4⟩ := R.mp i d' e
                        have nq := one' i d' q e' (.inr e) h1
                        exact ⟨q, h1, nS2 q ⟨i, d', .inr e, h1⟩ nq, h3, cl q d' nq h4⟩
                    · have np : a ≠ p := fun z => by
                        subst z
                        rcases hsl with ⟨rfl, ho⟩ | ⟨rfl, ho⟩
                        · obtain ⟨p', h1, _, h3, _⟩ := R.ow j _ ho
                          rw [hp] at h1; cases h1
                          rw [e] at h3; cases h3
                        · exact n j m (List.getElem?_set_self jl) hp
                      refine kp a o (R.old a o e fun i d' hi => ?_) np
                      by_cases e' : j = i
                      · subst e'
                        intro z; rw [hp] at z; cases z; exact np rfl
                      · exact n i d' (by rw [List.getElem?_set_ne e']; exact hi)
                  refine h v H' S' R3 ⟨fun a q => c.sub a (.inl (st.sub a q)), fun a q => ?_, fun a o e n => kp a o (st.keep a o e n) fun z => n (z ▸ st.own p owp), fun a q => c.dom a (st.dom a q), fun a q => st.own a (ownE a q)⟩ ?_
                  · rcases c.new a q with q' | q'
                    · rcases q' with q' | ⟨m, d, e1, e2⟩
                      · exact st.new a q'
                      · exact .inr (.inl (fsp a m d e1 e2).2.1)
                    · exact .inr (.inl (bn q'))
                  · cases hf : g.fresh with
                    | true =>
                      rw [hf, if_pos rfl] at res
                      obtain ⟨q, rfl, q1, q2, q3⟩ := res
                      exact ⟨q, rfl, q1, R.h0 q2, bn q2, fun z => R.own_there (ownE q z) q2, q3⟩
                    | false => rw [hf] at res; exact res
              obtain ⟨v, e3, q, hq, hs⟩ := opds_at hv hb
              cases hs1 : ρ1[j]? with
              | none => simp only [hs1] at h; exact h.elim
              | some s1 =>
                cases s1 with
                | un => simp only [hs1] at h; exact h.elim
                | sh d' => simp only [hs1] at h; exact h.elim
                | ow d' => simp only [hs1] at h; exact main d' q (.inl hs1) hs _ (.inl ⟨rfl, hs1⟩) h
                | mp d' => simp only [hs1] at h; exact main d' q (.inr hs1) hs _ (.inr ⟨rfl, hs1⟩) h
        · exact h.elim
  · exact h.elim
where
  opds_at {K : PySem.W.Frag} {H0 Hb H : Hp} {S : Addr → Prop} {ρ : Loc} : ∀ {os : List Opd} {vs : List V} {i : Nat} {o : Opd}, OpdReps K H0 σ Hb S ρ H vs os → os[i]? = some o → ∃ v, vs[i]? = some v ∧ OpdRep K H0 σ Hb S ρ H v o
  | [], _, _, _, _, e => by simp at e
  | o :: os, _, 0, o', h, e => by
    obtain ⟨v, r, rfl, h1, h2⟩ := h
    simp at e; subst e
    exact ⟨v, rfl, h1⟩
  | o :: os, _, i + 1, o', h, e => by
    obtain ⟨v, r, rfl, h1, h2⟩ := h
    obtain ⟨u, hu, ru⟩ := opds_at (i := i) h2 (by simpa using e)
    exact ⟨u, by simpa using hu, ru⟩
end
end TW
end
/-! W8 -/
section
set_option Elab.async false
set_option linter.all false
set_option maxRecDepth 100000
set_option maxHeartbeats 4000000
set_option autoImplicit false
/-! TW, part 8: calls of defs; the context; the check of a text; expressions. -/
namespace TW
open PySem PySem.Spec L2
open PyProof.Rows hiding St
/-- a def that keeps its promise, called where no text is being written -/
structure Fk (P : Program) (w : World) (K : PySem.W.Frag) (mg : Str → Option Value) (base : Heap) (n : Nat) (a : Addr) (fd : FuncData) (ps : List Str) (sp : Sp) : Prop where
  run : ∀ (A : Around) (outer : List PySem.Env) (s : Shared) (H : Hp) (args : Args) (us : List Value) (vs : List V) (Q : VK) (E : XK), Room n A → A.guards = some [] → Env0 P w K mg base A outer s H → BindsTo s fd args (ps.zip us) → Vals vs us → us.length = ps.length →
    sp vs H Q E → codeAny (model P w) A (.call (.ref a) args) (CR (L2.CX P w) outer P w H s Q E) s
section
variable {X : Cx} {n : Nat} {a : Addr} {fd : FuncData} {ps : List Str} {sp : Sp} {W : WX} {x : Str} {p pos : Pos} {es : List Expr} {t : TA}
theorem PE.weak {e : Expr} {t t' : TE} (h : PE X e t) (k : ∀ σ H Q, t' σ H Q → t σ H Q) : PE X e t' := ⟨fun pins s σ H Q I q => h.run pins s σ H Q I (k σ H Q q)⟩
theorem PT.weak {e : Expr} {t t' : TT} (h : PT X e t) (k : ∀ σ H Q, t' σ H Q → t σ H Q) : PT X e t' := ⟨fun pins s σ H Q I q => h.run pins s σ H Q I (k σ H Q q)⟩
theorem PA.weak {e : List Expr} {t t' : TA} (h : PA X e t) (k : ∀ σ H Q, t' σ H Q → t σ H Q) : PA X e t' := ⟨fun pos pins s σ H Q I q => h.run pos pins s σ H Q I (k σ H Q q)⟩
theorem PI.weak {tg e : Expr} {t t' : TI} (h : PI X tg e t) (k : ∀ σ H Q, t' σ H Q → t σ H Q) : PI X tg e t' := ⟨fun pins s σ H Q I q => h.run pins s σ H Q I (k σ H Q q)⟩
theorem PS.weak {e : Stmt} {t t' : TS} (h : PS X e t) (k : ∀ D σ H, t' D σ H → t D σ H) : PS X e t' := ⟨fun pins s σ H Q I q => h.run pins s σ H Q I (k Q σ H q)⟩
theorem PSs.weak {e : List Stmt} {t t' : TS} (h : PSs X e t) (k : ∀ D σ H, t' D σ H → t D σ H) : PSs X e t' := ⟨fun pins s σ H Q I q => h.run pins s σ H Q I (k Q σ H q)⟩
/-- it runs -/
theorem run_F {pins : List (Addr × Obj)} {σ : L2.St} {H : Hp} {s : Shared} {Q : VK} {us : List Value} {kw : List (Str × Value)} {vs : List V} {us' : List Value} (F : Fk X.prog X.w X.K X.mg X.base n a fd ps sp) (hr : Room n X.A) (hg : X.A.guards = some []) (tk : Takes X W)
    (hb : BindsTo s fd ⟨us, kw⟩ (ps.zip us')) (I : L2.Inv X pins σ H s) (r : Vals vs us') (hl : us'.length = ps.length) (h : sp vs H Q fun cls dx H' => W cls dx σ H') :
    wpAny (model X.prog X.w) X.A (call (.ref a) us kw) (EP X pins σ Q) X.xe s := by
  refine wpAny_call (codeAny_mono (F.run X.A X.stack s H ⟨us, kw⟩ us' vs Q _ hr hg I.env0 hb r hl h) fun out s' hq => ?_)
  cases out with
  | error e => exact tk e s' (XE.of_call I (fun cls d H' q => q) hq)
  | ok fl =>
    cases fl with
    | ret u => exact I.after hq
    | next => exact hq.elim
    | brk => exact hq.elim
    | cont => exact hq.elim
def plainE : Expr → Bool
  | .Starred .. => false
  | _ => true
theorem star_cons {e : Expr} {es : List Expr} {env : PySem.Env} (h : plainE e = true) : starEach (e :: es) env = (false, eval e env) :: starEach es env := by
  cases e <;> first | rfl | cases h
theorem star_none {env : PySem.Env} {pos : Pos} : ∀ {es : List Expr}, es.all plainE = true → (backTo pos (starEach es env)).any (·.1) = false
  | [], _ => rfl
  | e :: es, h => by
    rw [List.all_cons, Bool.and_eq_true] at h
    rw [star_cons h.1]
    show (false || (backTo pos (starEach es env)).any (·.1)) = false
    rw [star_none h.2] <;> rfl
/-- f(e, ..) -/
theorem pe_callF {e : Expr} (F : Fk X.prog X.w X.K X.mg X.base n a fd ps sp) (hr : Room n X.A) (hg : X.A.guards = some []) (tk : Takes X W) (gl : Gl X x) (hm : X.mg x = some (.ref a)) (hk : PySem.W.keepIn X.K (.ref a) = true)
    (hb : ∀ us : List Value, us.length = ps.length → bindArgs fd ⟨us, []⟩ = pure (ps.zip us)) (hd : (x == ("__debug__" : Str)) = false) (hp : (e :: es).all plainE = true) (ha : PA X (e :: es) t) :
    PE X (.Call (.Name x p) (e :: es) [] pos) (fun σ H Q => t σ H fun vs H1 => vs.length = ps.length ∧ sp vs H1 Q fun cls dx H' => W cls dx σ H') := by
  refine ⟨fun pins s σ H Q I h => ?_⟩
  refine wpAny_Call_Name_kw (ld_glob I gl hm ?_ hd)
  rw [List.all_cons, Bool.and_eq_true] at hp
  refine PySem.W.callWith_K (h₀ := X.base) I.ok.mod.kin hk (thn (ha.run pos pins s σ H _ I h) fun us s1 ⟨vs, H1, I1, r, hl, q⟩ => ⟨I1.kIn, ?_⟩) (star_cons hp.1) (star_none hp.2)
  have hl' : us.length = ps.length := by rw [← r.length]; exact hl
  exact run_F F hr hg tk (.of_eq (hb us hl')) I1 r hl' q
/-- f() -/
theorem pe_callF0 (F : Fk X.prog X.w X.K X.mg X.base n a fd ps sp) (hr : Room n X.A) (hg : X.A.guards = some []) (tk : Takes X W) (gl : Gl X x) (hm : X.mg x = some (.ref a)) (hk : PySem.W.keepIn X.K (.ref a) = true)
    (hb : ∀ us : List Value, us.length = ps.length → bindArgs fd ⟨us, []⟩ = pure (ps.zip us)) (hd : (x == ("__debug__" : Str)) = false) :
    PE X (.Call (.Name x p) [] [] pos) (fun σ H Q => 0 = ps.length ∧ sp [] H Q fun cls dx H' => W cls dx σ H') := by
  refine ⟨fun pins s σ H Q I ⟨hl, q⟩ => ?_⟩
  refine wpAny_Call_Name_kw (ld_glob I gl hm ?_ hd)
  exact PySem.W.callWith_K0 I.kIn hk (run_F F hr hg tk (.of_eq (hb [] hl)) I .nil hl q)
end
/-! ### the check of a text against the small language -/
structure Ck where
  nm : Nat → Option (Str × List Str)
  cs : List (Str × Int)
  kw : List (Nat × List Str × List Nat)
def bltNames : List Str := ["len", "int", "str", "abs", "max", "min", "sum", "sorted", "list", "tuple", "repr", "all", "any", "divmod", "isinstance", "range", "enumerate", "zip", "set", "bool", "dict"]
def varB (N : List Str) (sc : Scope) (i : Nat) (x : Str) : Bool := decide (N[i]? = some x) && (!(x == ("__debug__" : Str)) && (!(x == ("__classdict__" : Str)) && match sc.names.lookup x with
  | some .local => true
  | some .cell => true
  | some .free => true
  | _ => false))
def glbB (sc : Scope) (x : Str) : Bool := !(x == ("__debug__" : Str)) && match sc.names.lookup x with
  | some .globalImplicit => true
  | _ => false
def bltB (sc : Scope) (x : Str) (y : Str) : Bool := decide (x = y) && (glbB sc x && (decide (x ∈ bltNames) && !(x == ("__name__" : Str))))
/-- a target -/
def stoB (N : List Str) (st : Str → Bool) (i : Nat) (x : Str) : Bool := decide (N[i]? = some x) && st x
def chkNs (N : List Str) (st : Str → Bool) : List Nat → List Expr → Bool
  | [], [] => true
  | i :: is, .Name x _ :: es => stoB N st i x && chkNs N st is es
  | _, _ => false
def chkT (N : List Str) (st : Str → Bool) : Tg → Expr → Bool
  | .v i, .Name x _ => stoB N st i x
  | .t0 l, .Tuple es _ _ => chkNs N st l es
  | .tp a l, .Tuple [.Name x _, .Tuple es _ _] _ _ => stoB N st a x && chkNs N st l es
  | .pp l l', .Tuple [.Tuple es _ _, .Tuple es' _ _] _ _ => chkNs N st l es && chkNs N st l' es'
  | _, _ => false
def noSlice : Expr → Bool
  | .Slice .. => false
  | _ => true
def tyName : BI → Option Str
  | .int_ => some "int"
  | .str_ => some "str"
  | .list_ => some "list"
  | .tuple_ => some "tuple"
  | _ => none
def fnName : BI → Option Str
  | .len => some "len"
  | .abs => some "abs"
  | .max => some "max"
  | .min => some "min"
  | .sum => some "sum"
  | .sorted => some "sorted"
  | .repr => some "repr"
  | .all_ => some "all"
  | .divmod => some "divmod"
  | _ => none
end TW
end
/-! W9 -/
section
set_option Elab.async false
set_option linter.all false
set_option maxRecDepth 100000
set_option maxHeartbeats 4000000
set_option autoImplicit false
/-! TW, part 9: expressions do what the reckoning says. -/
namespace TW
open PySem PySem.Spec L2
open PyProof.Rows hiding St
/-- where a text runs -/
structure Cn (C : Ck) (φ : Fns) (ER : Exn → Value → Option Addr → Hp → Prop) (n : Nat) (X : Cx) (N : List Str) (sc : Scope) (st : Str → Bool) (W : WX) : Prop where
  hN : X.N = N
  nd : N.Nodup
  hsc : X.env.scope = sc
  calm : X.calm = true
  tk : Takes X W
  room : Room n X.A
  gd : X.A.guards = some []
  sto : ∀ x, st x = true → L2.Loc sc x ∧ (X.fn x = true ∨ sc.names.lookup x = some .local)
  blt : ∀ x, x ∈ bltNames → X.mg x = none
  cst : ∀ x i, C.cs.lookup x = some i → ∃ t, X.mg x = some (.int i t)
  fnc : ∀ f x ps, C.nm f = some (x, ps) → (φ f).np = ps.length ∧ ∃ a fd, X.mg x = some (.ref a) ∧ PySem.W.keepIn X.K (.ref a) = true ∧ (∀ us : List Value, us.length = ps.length → bindArgs fd ⟨us, []⟩ = pure (ps.zip us)) ∧
    (∀ ks perm, (f, ks, perm) ∈ C.kw → ks.length = ps.length ∧ perm ≠ [] ∧ ∀ ws : List Value, ws.length = ps.length → (perm.filterMap fun j => ws[j]?).length = ps.length ∧ bindArgs fd ⟨[], ks.zip ws⟩ = pure (ps.zip (perm.filterMap fun j => ws[j]?))) ∧ Fk X.prog X.w X.K X.mg X.base n a fd ps (spF X.K ER (φ f))
abbrev Pw (X : Cx) (H0 : Hp) (ER : Exn → Value → Option Addr → Hp → Prop) (W : WX) : Pm := ⟨X.K, H0, ER, W⟩
/-- an expression's reading -/
abbrev tO (P : Pm) (φ : Fns) (m : Ex) : TE := tR P (fun σ => OpdRep P.K P.H0 σ) (evO φ m)
abbrev tAs (P : Pm) (φ : Fns) (m : Es) : TA := tR P (fun σ => OpdReps P.K P.H0 σ) (evAs φ m)
abbrev rEs (P : Pm) : RlT (List D) (List V) := fun _ S _ H vs ds => Reps P.K H S ds vs
abbrev tEs (P : Pm) (φ : Fns) (m : Es) : TA := tR P (fun _ => rEs P) (evEs φ m)
theorem anti_es {P : Pm} : Anti (rEs P) := fun _ _ _ _ _ _ _ _ h => h
section
variable {C : Ck} {φ : Fns} {ER : Exn → Value → Option Addr → Hp → Prop} {n : Nat}
section
variable {X : Cx} {N : List Str} {sc : Scope} {st : Str → Bool} {W : WX} {H0 : Hp}
theorem Cn.u65 (c : Cn C φ ER n X N sc st W) : X.A.units + 65 < cLine := by have := c.room.un; omega
theorem Cn.u64 (c : Cn C φ ER n X N sc st W) : X.A.units + 64 < cLine := by have := c.room.un; omega
theorem Cn.gl (c : Cn C φ ER n X N sc st W) {x : Str} (h : glbB sc x = true) : Gl X x ∧ (x == ("__debug__" : Str)) = false := by
  obtain ⟨h1, h2⟩ := Bool.and_eq_true_iff.mp h
  refine ⟨?_, by simpa using h1⟩
  show X.env.scope.names.lookup x = _
  rw [c.hsc]
  split at h2
  · assumption
  · cases h2
theorem Cn.bl (c : Cn C φ ER n X N sc st W) {x y : Str} (h : bltB sc x y = true) : x = y ∧ Gl X x ∧ (x == ("__debug__" : Str)) = false ∧ X.mg x = none ∧ x ≠ "__name__" := by
  obtain ⟨h1, h2⟩ := Bool.and_eq_true_iff.mp h
  obtain ⟨h3, h4⟩ := Bool.and_eq_true_iff.mp h2
  obtain ⟨h5, h6⟩ := Bool.and_eq_true_iff.mp h4
  obtain ⟨g1, g2⟩ := c.gl h3
  exact ⟨of_decide_eq_true h1, g1, g2, c.blt x (of_decide_eq_true h5), by simpa using h6⟩
theorem varR (c : Cn C φ ER n X N sc st W) {i : Nat} {x : Str} {pos : Pos} (h : varB N sc i x = true) : PE X (.Name x pos) (tO (Pw X H0 ER W) φ (.var i)) := by
  obtain ⟨h1, h2⟩ := Bool.and_eq_true_iff.mp h
  obtain ⟨h3, h4⟩ := Bool.and_eq_true_iff.mp h2
  obtain ⟨h5, h6⟩ := Bool.and_eq_true_iff.mp h4
  have hv : Vis X.env.scope x := by
    rw [c.hsc]
    split at h6
    · exact .inl (by assumption)
    · exact .inr (.inl (by assumption))
    · exact .inr (.inr (by assumption))
    · cases h6
  refine PE.weak (pe_var (i := i) (by rw [c.hN]; exact of_decide_eq_true h1) hv (by simpa using h3) (by simpa using h5)) fun σ H Q ⟨S, ρ, R, h⟩ => ?_
  rw [evO] at h
  cases e : ρ[i]? with
  | none => simp only [e] at h; exact h.elim
  | some sl =>
    cases sl with
    | un => simp only [e] at h; exact h.elim
    | sh d =>
      simp only [e] at h
      obtain ⟨v, hv, rv⟩ := R.sh i d e
      exact ⟨v, hv, h v H S R Stp.refl rv⟩
    | ow d =>
      simp only [e] at h
      obtain ⟨p, hv, _⟩ := R.ow i d e
      exact ⟨_, hv, h _ H S R Stp.refl ⟨p, rfl, hv⟩⟩
    | mp d =>
      simp only [e] at h
      obtain ⟨p, hv, _⟩ := R.mp i d e
      exact ⟨_, hv, h _ H S R Stp.refl ⟨p, rfl, hv⟩⟩
/-- a constant -/
theorem constR {e : Expr} {v : V} {d : D} {m : Ex} (h : PE X e (tC v)) (hm : ∀ ρ, evO φ m ρ = .ok (.v d) ρ) (r : ∀ H S, Rep X.K H S d v) : PE X e (tO (Pw X H0 ER W) φ m) :=
  PE.weak h fun σ H Q ⟨S, ρ, R, h⟩ => by
    rw [hm] at h
    exact h v H S R Stp.refl (r H S)
/-- two operands, an operation -/
theorem binOpR {f : D → D → Option Opd} {t : TE} {r : R2} {e : Expr} {ta tb : TE} {g : Loc → Res Opd} {ga gb : Loc → Res Opd} {P : Pm}
    (hta : ta = tR P (fun σ => OpdRep P.K P.H0 σ) ga) (htb : tb = tR P (fun σ => OpdRep P.K P.H0 σ) gb)
    (hr : ∀ S d e o x y H Q, (∀ a, S a → H a ≠ none) → Sha P.K H S d x → Sha P.K H S e y → f d e = some o → PoO P.K H S o Q → r x y H Q)
    (hg : ∀ ρ, g ρ = (ga ρ).bd fun x ρ1 => (gb ρ1).bd fun y ρ2 => match x.get ρ2, y.get ρ2 with
      | some d, some e => .of (f d e) ρ2
      | _, _ => .no) (h : PE X e (tOp r ta tb)) : PE X e (tR P (fun σ => OpdRep P.K P.H0 σ) g) := by
  subst hta htb
  refine PE.weak h fun σ H Q ⟨S, ρ, R, h⟩ => ?_
  rw [hg] at h
  refine ⟨S, ρ, R, (Aft.bd anti_opd Stp.refl h).mono fun v H1 ⟨S1, ρ1, x, R1, st1, _, o1, h1⟩ => ?_⟩
  refine ⟨S1, ρ1, R1, (Aft.bd anti_opd st1 h1).mono fun u H2 ⟨S2, ρ2, y, R2, st2, s12, o2, h2⟩ => ?_⟩
  cases e1 : x.get ρ2 with
  | none => rw [e1] at h2; exact h2.elim
  | some d =>
    cases e2 : y.get ρ2 with
    | none => rw [e1, e2] at h2; exact h2.elim
    | some e =>
      rw [e1, e2] at h2
      have h2 : Aft P σ (OpdRep P.K P.H0 σ) S ρ H (Res.of (f d e) ρ2) Q := h2
      cases e3 : f d e with
      | none => rw [e3] at h2; exact h2.elim
      | some o =>
        rw [e3] at h2
        exact hr S2 d e o v u H2 Q R2.dom ((o1.step R1 s12).sha R2 e1) (o2.sha R2 e2) e3 (Aft.op R2 st2 h2)
/-- one operand, an operation -/
theorem unOpR {e : Expr} {t : TE} {ta : TE} {k : V → Hp → VK → Prop} {ga : Loc → Res Opd} {P : Pm} {σT : Unit}
    {g : Loc → Res Opd} {f : D → Option Opd} (hta : ta = tR P (fun σ => OpdRep P.K P.H0 σ) ga)
    (hr : ∀ S d o x H Q, (∀ a, S a → H a ≠ none) → Sha P.K H S d x → f d = some o → PoO P.K H S o Q → k x H Q)
    (hg : ∀ ρ, g ρ = (ga ρ).bd fun x ρ1 => match x.get ρ1 with
      | some d => .of (f d) ρ1
      | none => .no) (h : PE X e (fun σ H Q => ta σ H fun x H1 => k x H1 Q)) : PE X e (tR P (fun σ => OpdRep P.K P.H0 σ) g) := by
  subst hta
  refine PE.weak h fun σ H Q ⟨S, ρ, R, h⟩ => ?_
  rw [hg] at h
  refine ⟨S, ρ, R, (Aft.bd anti_opd Stp.refl h).mono fun v H1 ⟨S1, ρ1, x, R1, st1, _, o1, h1⟩ => ?_⟩
  cases e1 : x.get ρ1 with
  | none => rw [e1] at h1; exact h1.elim
  | some d =>
    rw [e1] at h1
    have h1 : Aft P σ (OpdRep P.K P.H0 σ) S ρ H (Res.of (f d) ρ1) Q := h1
    cases e3 : f d with
    | none => rw [e3] at h1; exact h1.elim
    | some o =>
      rw [e3] at h1
      exact hr S1 d o v H1 Q R1.dom (o1.sha R1 e1) e3 (Aft.op R1 st1 h1)
/-- a value's truth -/
theorem Sha.tru {K : PySem.W.Frag} {H : Hp} {S : Addr → Prop} {d : D} {x : V} {b : Bool} (h : Sha K H S d x) (e : truD d = some b) : TruV K x H b := by
  cases d with
  | non => cases e; cases (show x = .non from h); exact rfl
  | bl b => cases e; cases (show x = .bl b from h); exact rfl
  | int i => cases e; cases (show x = .int i from h); exact rfl
  | str s =>
    cases (show x = .str s from h)
    unfold truD at e
    simp only at e
    split at e
    · rename_i hz; cases e; exact ⟨hz, rfl⟩
    · cases e
  | tup l =>
    cases e
    obtain ⟨a, vs, rfl, ht, hr⟩ := (show ∃ a vs, x = .ref a ∧ SqT K H a vs ∧ Reps K H S l vs from h)
    refine .inr (.inl ⟨vs, ht, ?_⟩)
    have := hr.length
    cases l <;> cases vs <;> simp_all
  | lst l =>
    cases e
    obtain ⟨a, vs, rfl, ht, hr⟩ := (show ∃ a vs, x = .ref a ∧ SqL K H a vs ∧ Reps K H S l vs from h)
    refine .inl ⟨vs, ht, ?_⟩
    have := hr.length
    cases l <;> cases vs <;> simp_all
  | _ => cases e
/-- a test's reading -/
abbrev rT : RlT Bool Bool := fun _ _ _ _ v t => v = t
theorem anti_t : Anti rT := fun _ _ _ _ _ _ _ _ h => h
abbrev tT (P : Pm) (φ : Fns) (m : Ex) : TT := tR P (fun _ => rT) (evT φ m)
/-- the truth of an expression that is no operator of truth -/
theorem truT {e : Expr} {m : Ex} (h : PE X e (tO (Pw X H0 ER W) φ m)) (he : ∀ whole, isTrue e X.env whole = (do let v ← whole; standAt e.pos; holding [v] (truthy v))) : PT X e (tT (Pw X H0 ER W) φ m) := by
  refine PT.weak (pt_truth h he) fun σ H Q ⟨S, ρ, R, h⟩ => ?_
  refine ⟨S, ρ, R, (Aft.bd anti_opd Stp.refl h).mono fun v H1 ⟨S1, ρ1, x, R1, st1, _, o1, h1⟩ => ?_⟩
  cases e1 : x.get ρ1 with
  | none => rw [e1] at h1; exact h1.elim
  | some d =>
    rw [e1] at h1
    cases e2 : truD d with
    | none => rw [show (some d).bind truD = none from e2] at h1; exact h1.elim
    | some b =>
      rw [show (some d).bind truD = some b from e2] at h1
      exact ⟨b, (o1.sha R1 e1).tru e2, h1 b H1 S1 R1 st1 rfl⟩
/-- a test's first part -/
theorem tT_bd {P : Pm} {γ δ : Type} {R2 : St → RlT γ δ} {g : Loc → Res γ} {m : Ex} {f : Bool → Loc → Res γ} {σ : L2.St} {H : Hp} {Q : δ → Hp → Prop} (hg : ∀ ρ, g ρ = (evT φ m ρ).bd f) (h : tR P R2 g σ H Q)
    (an : ∀ σ, Anti (R2 σ)) : tT P φ m σ H fun c H1 => tR P R2 (f c) σ H1 Q := by
  obtain ⟨S, ρ, R, h⟩ := h
  rw [hg] at h
  refine ⟨S, ρ, R, (Aft.bd anti_t Stp.refl h).mono fun v H1 ⟨S1, ρ1, x, R1, st1, _, o1, h1⟩ => ?_⟩
  cases (show v = x from o1)
  exact ⟨S1, ρ1, R1, h1.rebase (an σ) st1⟩
theorem tR_no {P : Pm} {α β : Type} {R : L2.St → RlT α β} {g : Loc → Res α} {σ : L2.St} {H : Hp} {Q : β → Hp → Prop} {S : Addr → Prop} {ρ : Loc} (h : Aft P σ (R σ) S ρ H (.no : Res α) Q) : False := h
theorem Res.bd_no {α β : Type} (x : Res α) (f : α → Loc → Res β) (h : ∀ a ρ, x = .ok a ρ → f a ρ = .no) (hx : ∀ e ρ, x ≠ .ex e ρ) : x.bd f = .no := by
  cases x with
  | ok a ρ => exact h a ρ rfl
  | ex e ρ => exact absurd rfl (hx e ρ)
  | no => rfl
theorem Res.bd_bd {α β γ : Type} (x : Res α) (f : α → Loc → Res β) (g : β → Loc → Res γ) : (x.bd f).bd g = x.bd fun a ρ => (f a ρ).bd g := by
  cases x <;> rfl
end
end
/-- what the truth of and, or, not is -/
theorem evT_not (φ : Fns) (a : Ex) (ρ : Loc) : evT φ (.not a) ρ = (evT φ a ρ).bd fun c ρ1 => .ok (!c) ρ1 := by
  unfold evT
  rw [evO]
  cases evO φ a ρ with
  | ok x ρ1 =>
    simp only [Res.bd]
    cases (x.get ρ1).bind truD with
    | none => rfl
    | some t => rfl
  | ex e ρ1 => rfl
  | no => rfl
/-- whether it is a bool at all -/
def blO (x : Opd) (ρ : Loc) : Bool := match x.get ρ with
  | some (.bl _) => true
  | _ => false
theorem evT_and (φ : Fns) (a b : Ex) (ρ : Loc) : evT φ (.and a b) ρ = .no ∨ evT φ (.and a b) ρ = (evT φ a ρ).bd fun c ρ1 => if c = true then evT φ b ρ1 else .ok false ρ1 := by
  unfold evT
  rw [evO]
  cases evO φ a ρ with
  | ok x ρ1 =>
    simp only [Res.bd]
    cases hx : x.get ρ1 with
    | none => left; rfl
    | some d =>
      cases d with
      | bl c => right; cases c <;> rfl
      | _ => left; rfl
  | ex e ρ1 => right; rfl
  | no => left; rfl
theorem evT_or (φ : Fns) (a b : Ex) (ρ : Loc) : evT φ (.or a b) ρ = .no ∨ evT φ (.or a b) ρ = (evT φ a ρ).bd fun c ρ1 => if c = true then .ok true ρ1 else evT φ b ρ1 := by
  unfold evT
  rw [evO]
  cases evO φ a ρ with
  | ok x ρ1 =>
    simp only [Res.bd]
    cases hx : x.get ρ1 with
    | none => left; rfl
    | some d =>
      cases d with
      | bl c => right; cases c <;> rfl
      | _ => left; rfl
  | ex e ρ1 => right; rfl
  | no => left; rfl
theorem evT_ife (φ : Fns) (c a b : Ex) (ρ : Loc) : evT φ (.ife c a b) ρ = (evT φ c ρ).bd fun t ρ1 => if t = true then evT φ a ρ1 else evT φ b ρ1 := by
  unfold evT
  rw [evO]
  cases evO φ c ρ with
  | ok x ρ1 =>
    simp only [Res.bd]
    cases (x.get ρ1).bind truD with
    | none => rfl
    | some t => cases t <;> rfl
  | ex e ρ1 => rfl
  | no => rfl
theorem evO_ife (φ : Fns) (c a b : Ex) (ρ : Loc) : evO φ (.ife c a b) ρ = (evT φ c ρ).bd fun t ρ1 => if t = true then evO φ a ρ1 else evO φ b ρ1 := by
  unfold evT
  rw [evO]
  cases evO φ c ρ with
  | ok x ρ1 =>
    simp only [Res.bd]
    cases (x.get ρ1).bind truD with
    | none => rfl
    | some t => cases t <;> rfl
  | ex e ρ1 => rfl
  | no => rfl
theorem evO_not (φ : Fns) (a : Ex) (ρ : Loc) : evO φ (.not a) ρ = (evT φ a ρ).bd fun c ρ1 => .ok (.v (.bl !c)) ρ1 := by
  unfold evT
  rw [evO]
  cases evO φ a ρ with
  | ok x ρ1 =>
    simp only [Res.bd]
    cases (x.get ρ1).bind truD with
    | none => rfl
    | some t => rfl
  | ex e ρ1 => rfl
  | no => rfl
theorem evO_and (φ : Fns) (a b : Ex) (ρ : Loc) : evO φ (.and a b) ρ = (evO φ a ρ).bd fun x ρ1 => match x.get ρ1 with
    | some (.bl true) => evO φ b ρ1
    | some (.bl false) => .ok (.v (.bl false)) ρ1
    | _ => .no := by rw [evO] <;> rfl
theorem evO_or (φ : Fns) (a b : Ex) (ρ : Loc) : evO φ (.or a b) ρ = (evO φ a ρ).bd fun x ρ1 => match x.get ρ1 with
    | some (.bl false) => evO φ b ρ1
    | some (.bl true) => .ok (.v (.bl true)) ρ1
    | _ => .no := by rw [evO] <;> rfl
theorem Sha.bl {K : PySem.W.Frag} {H : Hp} {S : Addr → Prop} {c : Bool} {v : V} (h : Sha K H S (.bl c) v) : v = .bl c := h
section
variable {φ : Fns} {X : Cx} {P : Pm} {a b c e : Expr} {ma mb mc : Ex} {rest : List Expr} {pos : Pos}
theorem andPE (ha : PE X a (tO P φ ma)) (hb : PE X (.BoolOp .And (b :: rest) pos) (tO P φ mb)) : PE X (.BoolOp .And (a :: b :: rest) pos) (tO P φ (.and ma mb)) := by
  refine PE.weak (pe_and ha hb) fun σ H Q ⟨S, ρ, R, h⟩ => ?_
  rw [evO_and] at h
  refine ⟨S, ρ, R, (Aft.bd anti_opd Stp.refl h).mono fun v H1 ⟨S1, ρ1, x, R1, st1, _, o1, h1⟩ => ?_⟩
  split at h1
  · rename_i e1
    exact ⟨true, (o1.sha R1 e1).bl, S1, ρ1, R1, h1.rebase anti_opd st1⟩
  · rename_i e1
    exact ⟨false, (o1.sha R1 e1).bl, h1 (.bl false) H1 S1 R1 st1 rfl⟩
  · exact h1.elim
theorem orPE (ha : PE X a (tO P φ ma)) (hb : PE X (.BoolOp .Or (b :: rest) pos) (tO P φ mb)) : PE X (.BoolOp .Or (a :: b :: rest) pos) (tO P φ (.or ma mb)) := by
  refine PE.weak (pe_or ha hb) fun σ H Q ⟨S, ρ, R, h⟩ => ?_
  rw [evO_or] at h
  refine ⟨S, ρ, R, (Aft.bd anti_opd Stp.refl h).mono fun v H1 ⟨S1, ρ1, x, R1, st1, _, o1, h1⟩ => ?_⟩
  split at h1
  · rename_i e1
    exact ⟨false, (o1.sha R1 e1).bl, S1, ρ1, R1, h1.rebase anti_opd st1⟩
  · rename_i e1
    exact ⟨true, (o1.sha R1 e1).bl, h1 (.bl true) H1 S1 R1 st1 rfl⟩
  · exact h1.elim
theorem andPW (ha : PT X a (tT P φ ma)) (hb : PW X (.BoolOp .And (b :: rest) pos) (tT P φ mb)) : PW X (.BoolOp .And (a :: b :: rest) pos) (tT P φ (.and ma mb)) := by
  refine ⟨fun wh pins s σ H Q I h => (pw_and ha hb).run wh pins s σ H Q I ?_⟩
  obtain ⟨S, ρ, R, h⟩ := h
  rcases evT_and φ ma mb ρ with e | e
  · rw [e] at h; exact h.elim
  rw [e] at h
  refine ⟨S, ρ, R, (Aft.bd anti_t Stp.refl h).mono fun v H1 ⟨S1, ρ1, x, R1, st1, _, o1, h1⟩ => ?_⟩
  cases (show v = x from o1)
  cases v with
  | true => exact ⟨S1, ρ1, R1, h1.rebase anti_t st1⟩
  | false => exact h1 false H1 S1 R1 st1 rfl
theorem orPW (ha : PT X a (tT P φ ma)) (hb : PW X (.BoolOp .Or (b :: rest) pos) (tT P φ mb)) : PW X (.BoolOp .Or (a :: b :: rest) pos) (tT P φ (.or ma mb)) := by
  refine ⟨fun wh pins s σ H Q I h => (pw_or ha hb).run wh pins s σ H Q I ?_⟩
  obtain ⟨S, ρ, R, h⟩ := h
  rcases evT_or φ ma mb ρ with e | e
  · rw [e] at h; exact h.elim
  rw [e] at h
  refine ⟨S, ρ, R, (Aft.bd anti_t Stp.refl h).mono fun v H1 ⟨S1, ρ1, x, R1, st1, _, o1, h1⟩ => ?_⟩
  cases (show v = x from o1)
  cases v with
  | false => exact ⟨S1, ρ1, R1, h1.rebase anti_t st1⟩
  | true => exact h1 true H1 S1 R1 st1 rfl
theorem notPT (ha : PT X a (tT P φ ma)) : PT X (.UnaryOp .Not a pos) (tT P φ (.not ma)) := by
  refine PT.weak (pt_not ha) fun σ H Q ⟨S, ρ, R, h⟩ => ?_
  rw [evT_not] at h
  refine ⟨S, ρ, R, (Aft.bd anti_t Stp.refl h).mono fun v H1 ⟨S1, ρ1, x, R1, st1, _, o1, h1⟩ => ?_⟩
  cases (show v = x from o1)
  exact h1 _ H1 S1 R1 st1 rfl
theorem ifePT (hc : PT X c (tT P φ mc)) (ha : PT X a (tT P φ ma)) (hb : PT X b (tT P φ mb)) : PT X (.IfExp c a b pos) (tT P φ (.ife mc ma mb)) := by
  refine ⟨fun pins s σ H Q I ⟨S, ρ, R, h⟩ => ?_⟩
  rw [evT_ife] at h
  refine isTrue_IfExp (thn (hc.run pins s σ H _ I ⟨S, ρ, R, Aft.bd anti_t Stp.refl h⟩) fun t s1 ⟨H1, I1, S1, ρ1, x, R1, st1, _, o1, h1⟩ => ?_)
  cases (show t = x from o1)
  cases t with
  | true => exact ha.run pins s1 σ H1 Q I1 ⟨S1, ρ1, R1, h1.rebase anti_t st1⟩
  | false => exact hb.run pins s1 σ H1 Q I1 ⟨S1, ρ1, R1, h1.rebase anti_t st1⟩
theorem ifePE (hc : PT X c (tT P φ mc)) (ha : PE X a (tO P φ ma)) (hb : PE X b (tO P φ mb)) : PE X (.IfExp c a b pos) (tO P φ (.ife mc ma mb)) := by
  refine PE.weak (pe_ifExp hc ha hb) fun σ H Q ⟨S, ρ, R, h⟩ => ?_
  rw [evO_ife] at h
  refine ⟨S, ρ, R, (Aft.bd anti_t Stp.refl h).mono fun v H1 ⟨S1, ρ1, x, R1, st1, _, o1, h1⟩ => ?_⟩
  cases (show v = x from o1)
  cases v with
  | true => exact ⟨S1, ρ1, R1, h1.rebase anti_opd st1⟩
  | false => exact ⟨S1, ρ1, R1, h1.rebase anti_opd st1⟩
theorem notPE (hc : PT X a (tT P φ ma)) (wk : PE X a (tO P φ ma)) (hK : P.K = X.K) : PE X (.UnaryOp .Not a pos) (tO P φ (.not ma)) := by
  refine PE.weak (pe_notT wk) fun σ H Q ⟨S, ρ, R, h⟩ => ?_
  rw [evO] at h
  refine ⟨S, ρ, R, (Aft.bd anti_opd Stp.refl h).mono fun v H1 ⟨S1, ρ1, x, R1, st1, _, o1, h1⟩ => ?_⟩
  cases e1 : x.get ρ1 with
  | none => rw [e1] at h1; exact h1.elim
  | some d =>
    rw [e1] at h1
    cases e2 : truD d with
    | none => rw [show (some d).bind truD = none from e2] at h1; exact h1.elim
    | some t =>
      rw [show (some d).bind truD = some t from e2] at h1
      exact ⟨t, hK ▸ (o1.sha R1 e1).tru e2, h1 _ H1 S1 R1 st1 rfl⟩
/-- a comparison, as a value and as a test -/
theorem cmpRd {f : D → D → Option Bool} {ga gb : Loc → Res Opd} {r : R2} (hr : ∀ x y H Q, rCmp P.K f x y H Q → r x y H Q) (σ : L2.St) (H : Hp) (Q : VK)
    (h : tR P (fun σ => OpdRep P.K P.H0 σ) (fun ρ => (ga ρ).bd fun x ρ1 => (gb ρ1).bd fun y ρ2 => match x.get ρ2, y.get ρ2 with
      | some d, some e => .of ((f d e).map fun t => .v (.bl t)) ρ2
      | _, _ => .no) σ H Q) : tOp r (tR P (fun σ => OpdRep P.K P.H0 σ) ga) (tR P (fun σ => OpdRep P.K P.H0 σ) gb) σ H Q := by
  obtain ⟨S, ρ, R, h⟩ := h
  refine ⟨S, ρ, R, (Aft.bd anti_opd Stp.refl h).mono fun v H1 ⟨S1, ρ1, x, R1, st1, _, o1, h1⟩ => ?_⟩
  refine ⟨S1, ρ1, R1, (Aft.bd anti_opd st1 h1).mono fun u H2 ⟨S2, ρ2, y, R2, st2, s12, o2, h2⟩ => ?_⟩
  cases e1 : x.get ρ2 with
  | none => rw [e1] at h2; exact h2.elim
  | some d =>
    cases e2 : y.get ρ2 with
    | none => rw [e1, e2] at h2; exact h2.elim
    | some e =>
      rw [e1, e2] at h2
      have h2 : Aft P σ (OpdRep P.K P.H0 σ) S ρ H (Res.of ((f d e).map fun t => .v (.bl t)) ρ2) Q := h2
      cases e3 : f d e with
      | none => rw [e3] at h2; exact h2.elim
      | some t =>
        rw [e3] at h2
        exact hr v u H2 Q ⟨S2, d, e, t, R2.dom, (o1.step R1 s12).sha R2 e1, o2.sha R2 e2, e3, h2 (.bl t) H2 S2 R2 st2 rfl⟩
end
end TW
end
/-! W10 -/
section
set_option Elab.async false
set_option linter.all false
set_option maxRecDepth 100000
set_option maxHeartbeats 4000000
set_option autoImplicit false
/-! TW, part 10: all expressions. -/
namespace TW
open PySem PySem.Spec L2
open PyProof.Rows hiding St
section
variable {C : Ck} {φ : Fns} {ER : Exn → Value → Option Addr → Hp → Prop} {n : Nat} {X : Cx} {N : List Str} {sc : Scope} {st : Str → Bool} {W : WX} {H0 : Hp}
theorem plainIx {b : Expr} (h : noSlice b = true) : PlainIx b := by
  intro o i
  cases b <;> first | rfl | cases h
/-- a built-in function by its name -/
theorem fnR (c : Cn C φ ER n X N sc st W) {b : BI} {y : Str} (h : fnName b = some y) : ∃ id, bootBuiltins y = some (.builtin id) ∧ CallR X (.builtin id) (rBi X.K (biD b)) := by
  cases b <;> first | cases h | skip
  · exact ⟨_, rfl, lenR⟩
  · exact ⟨_, rfl, absR⟩
  · exact ⟨_, rfl, maxR c.calm⟩
  · exact ⟨_, rfl, minR c.calm⟩
  · exact ⟨_, rfl, sumR c.calm⟩
  · exact ⟨_, rfl, sortedR⟩
  · exact ⟨_, rfl, reprR c.gd c.u64⟩
  · exact ⟨_, rfl, allR c.calm⟩
  · exact ⟨_, rfl, divmodR⟩
theorem tyR {b : BI} {y : Str} (h : tyName b = some y) : ∃ id, bootBuiltins y = some (.type id) ∧ CallR X (.type id) (rBi X.K (biD b)) := by
  cases b <;> first | cases h | skip
  · exact ⟨_, rfl, intR⟩
  · exact ⟨_, rfl, strR⟩
  · exact ⟨_, rfl, listR⟩
  · exact ⟨_, rfl, tupleR⟩
theorem evO_bc (φ : Fns) (b : BI) (args : Es) (ρ : Loc) : evO φ (.bc b args) ρ = (evAs φ args ρ).bd fun os ρ1 => match getAll ρ1 os with
    | some ds => .of (biD b ds) ρ1
    | none => .no := by rw [evO] <;> rfl
theorem bcW {b : BI} {args : Es} {P : Pm} (σ : L2.St) (H : Hp) (Q : VK) (h : tO P φ (.bc b args) σ H Q) : tCB (rBi P.K (biD b)) (tAs P φ args) σ H Q := by
  obtain ⟨S, ρ, R, h⟩ := h
  rw [evO_bc] at h
  refine ⟨S, ρ, R, (Aft.bd anti_opds Stp.refl h).mono fun vs H1 ⟨S1, ρ1, os, R1, st1, _, o1, h1⟩ => ?_⟩
  cases e1 : getAll ρ1 os with
  | none => rw [e1] at h1; exact h1.elim
  | some ds =>
    rw [e1] at h1
    have h1 : Aft P σ (OpdRep P.K P.H0 σ) S ρ H (Res.of (biD b ds) ρ1) Q := h1
    cases e3 : biD b ds with
    | none => rw [e3] at h1; exact h1.elim
    | some o =>
      rw [e3] at h1
      exact ⟨S1, ds, o, R1.dom, o1.shas R1 e1, e3, Aft.op R1 st1 h1⟩
theorem bcPE (c : Cn C φ ER n X N sc st W) {b : BI} {args : Es} {x : Str} {p pos : Pos} {l : List Expr} (h : (match fnName b, tyName b with
    | some y, _ => bltB sc x y
    | none, some y => bltB sc x y
    | _, _ => false) = true) (hl : l ≠ []) (hp : l.all plainE = true) (ha : PA X l (tAs (Pw X H0 ER W) φ args)) : PE X (.Call (.Name x p) l [] pos) (tO (Pw X H0 ER W) φ (.bc b args)) := by
  cases l with
  | nil => exact absurd rfl hl
  | cons e es =>
    rw [List.all_cons, Bool.and_eq_true] at hp
    cases hf : fnName b with
    | some y =>
      simp only [hf] at h
      obtain ⟨rfl, g1, g2, g3, g4⟩ := c.bl h
      obtain ⟨id, hb, hr⟩ := fnR c hf
      exact PE.weak (pe_callB hr g1 g3 hb ha g4 g2 (star_cons hp.1) (star_none hp.2)) bcW
    | none =>
      cases ht : tyName b with
      | some y =>
        simp only [hf, ht] at h
        obtain ⟨rfl, g1, g2, g3, g4⟩ := c.bl h
        obtain ⟨id, hb, hr⟩ := tyR (X := X) ht
        exact PE.weak (pe_callTy hr g1 g3 hb ha g4 g2 (star_cons hp.1) (star_none hp.2)) bcW
      | none => simp only [hf, ht] at h; cases h
theorem tyX {K : PySem.W.Frag} {H : Hp} {S : Addr → Prop} {d : D} {v : V} (h : Sha K H S d v) (k : isiOk d = true) : ∃ a : String, TyX K H v (.type a) ∧ ∀ t ∈ ["int", "bool", "str", "list", "tuple", "dict"], kitB a t = some (isiD d t) := by
  cases d with
  | non => cases (show v = .non from h); exact ⟨_, .base .non, by decide +kernel⟩
  | bl b => cases (show v = .bl b from h); exact ⟨_, .base (.bl b), fun t ht => (show ∀ t ∈ ["int", "bool", "str", "list", "tuple", "dict"], kitB "bool" t = some (t == "int" || t == "bool") by decide +kernel) t ht⟩
  | int b => cases (show v = .int b from h); exact ⟨_, .base (.int b), fun t ht => (show ∀ t ∈ ["int", "bool", "str", "list", "tuple", "dict"], kitB "int" t = some (t == "int") by decide +kernel) t ht⟩
  | str b => cases (show v = .str b from h); exact ⟨_, .base (.str b), fun t ht => (show ∀ t ∈ ["int", "bool", "str", "list", "tuple", "dict"], kitB "str" t = some (t == "str") by decide +kernel) t ht⟩
  | tup l =>
    obtain ⟨a, vs, rfl, h1, _⟩ := (show ∃ a vs, v = .ref a ∧ SqT K H a vs ∧ Reps K H S l vs from h)
    refine ⟨"tuple", ?_, fun t ht => (show ∀ t ∈ ["int", "bool", "str", "list", "tuple", "dict"], kitB "tuple" t = some (t == "tuple") by decide +kernel) t ht⟩
    rcases h1 with (h1 | ⟨o, h1⟩) | ⟨o, its, n, h1, h2, _⟩
    · exact .base (.tup h1)
    · exact .fTuple h1
    · exact .kTuple h1 h2
  | lst l =>
    obtain ⟨a, vs, rfl, h1, _⟩ := (show ∃ a vs, v = .ref a ∧ SqL K H a vs ∧ Reps K H S l vs from h)
    refine ⟨"list", ?_, fun t ht => (show ∀ t ∈ ["int", "bool", "str", "list", "tuple", "dict"], kitB "list" t = some (t == "list") by decide +kernel) t ht⟩
    rcases h1 with (h1 | ⟨o, h1⟩) | ⟨o, its, n, h1, h2, _⟩
    · exact .base (.lst h1)
    · exact .base (.frz h1)
    · exact .kList h1 h2
  | dct l =>
    obtain ⟨a, rfl, h1⟩ := (show ∃ a, v = .ref a ∧ _ from h)
    refine ⟨"dict", ?_, fun t ht => (show ∀ t ∈ ["int", "bool", "str", "list", "tuple", "dict"], kitB "dict" t = some (t == "dict") by decide +kernel) t ht⟩
    rcases h1 with ⟨kvs, h1, _⟩ | ⟨kvs, h1, _⟩
    · exact .base (.dK h1)
    · exact .base (.dT h1)
  | set l => exact (show False from h).elim
  | ref a => cases k
  | ty t => cases k
theorem evO_isi (φ : Fns) (t : String) (a : Ex) (ρ : Loc) : evO φ (.bc (.isi [t]) (.cons false a .nil)) ρ = (evO φ a ρ).bd fun x ρ1 => match x.get ρ1 with
    | some d => .of (b_isi [t] [d]) ρ1
    | none => .no := by
  rw [evO_bc, evAs]
  cases evO φ a ρ with
  | ok x ρ1 =>
    simp only [Res.bd]
    rw [evAs]
    simp only [getAll]
    cases x.get ρ1 <;> rfl
  | ex x ρ1 => rfl
  | no => rfl
/-- isinstance -/
theorem isiPE (c : Cn C φ ER n X N sc st W) {t : String} {a : Ex} {l : Expr} {x y : Str} {p q pos : Pos} (h1 : bltB sc x "isinstance" = true) (h2 : plainE l = true) (h3 : y = Str.ofString t) (h4 : glbB sc y = true) (h5 : t ∈ ["int", "bool", "str", "list", "tuple", "dict"])
    (ha : PE X l (tO (Pw X H0 ER W) φ a)) : PE X (.Call (.Name x p) [l, .Name y q] [] pos) (tO (Pw X H0 ER W) φ (.bc (.isi [t]) (.cons false a .nil))) := by
  obtain ⟨rfl, g1, g2, g3, g4⟩ := c.bl h1
  obtain ⟨k1, k2⟩ := c.gl h4
  subst h3
  have hb : Str.ofString t ∈ bltNames ∧ bootBuiltins (Str.ofString t) = some (.type t) ∧ Str.ofString t ≠ "__name__" := by
    simp only [List.mem_cons, List.not_mem_nil, or_false] at h5
    rcases h5 with rfl | rfl | rfl | rfl | rfl | rfl <;> exact ⟨by decide +kernel, rfl, by decide +kernel⟩
  have hy : PE X (.Name (Str.ofString t) q) (tC (.ty t)) := pe_bltn k1 (c.blt _ hb.1) hb.2.1 rfl hb.2.2 k2
  refine PE.weak (pe_callB call_isi g1 g3 rfl (pa_cons ha (pa_cons hy pa_nil rfl) (star_cons h2)) g4 g2 (star_cons h2) rfl) fun σ H Q ⟨S, ρ, R, h⟩ => ?_
  rw [evO_isi] at h
  refine ⟨S, ρ, R, (Aft.bd anti_opd Stp.refl h).mono fun v H1 ⟨S1, ρ1, x, R1, st1, _, o1, h1⟩ => ?_⟩
  cases e1 : x.get ρ1 with
  | none => rw [e1] at h1; exact h1.elim
  | some d =>
    rw [e1] at h1
    have h1 : Aft (Pw X H0 ER W) σ (OpdRep X.K H0 σ) S ρ H (Res.of (b_isi [t] [d]) ρ1) Q := h1
    unfold b_isi at h1
    simp only at h1
    split at h1
    · rename_i hk
      obtain ⟨a, ty, hh⟩ := tyX (o1.sha R1 e1) hk
      refine ⟨v, .ty t, .type a, .type t, isiD d t, rfl, .ty t, ty, kit_ty (hh t h5), ?_⟩
      have : (List.any [t] (isiD d)) = isiD d t := by simp
      rw [this] at h1
      exact h1 (.bl (isiD d t)) H1 S1 R1 st1 rfl
    · exact h1.elim
/-- a call of a def -/
theorem evO_call (φ : Fns) (f : Nat) (args : Es) (ρ : Loc) : evO φ (.call f args []) ρ = (evAs φ args ρ).bd fun os ρ1 => callD (φ f) os ρ1 := by rw [evO] <;> rfl
theorem callPE (c : Cn C φ ER n X N sc st W) {f : Nat} {args : Es} {x y : Str} {ps : List Str} {p pos : Pos} {l : List Expr} (hf : C.nm f = some (y, ps)) (h1 : x = y) (h2 : glbB sc x = true) (hp : l.all plainE = true)
    (ha : PA X l (tAs (Pw X H0 ER W) φ args)) (hn : l = [] → args = .nil) : PE X (.Call (.Name x p) l [] pos) (tO (Pw X H0 ER W) φ (.call f args [])) := by
  subst h1
  obtain ⟨k1, k2⟩ := c.gl h2
  obtain ⟨hnp, a, fd, g1, g2, g3, _, F⟩ := c.fnc f x ps hf
  have hln : ∀ {S ρ σ H Q os ρ1}, Aft (Pw X H0 ER W) σ (OpdRep X.K H0 σ) S ρ H (callD (φ f) os ρ1) Q → os.length = ps.length := fun {S ρ σ H Q os ρ1} h => by
    unfold callD at h
    split at h
    · rename_i q; rw [q, hnp]
    · exact h.elim
  cases l with
  | nil =>
    cases hn rfl
    refine PE.weak (pe_callF0 F c.room c.gd c.tk k1 g1 g2 g3 k2) fun σ H Q ⟨S, ρ, R, h⟩ => ?_
    rw [evO_call, evAs] at h
    exact ⟨hln (os := []) h, call_sp (φ f) (os := []) (vs := []) R Stp.refl rfl h⟩
  | cons e es =>
    refine PE.weak (pe_callF F c.room c.gd c.tk k1 g1 g2 g3 k2 hp ha) fun σ H Q ⟨S, ρ, R, h⟩ => ?_
    rw [evO_call] at h
    refine ⟨S, ρ, R, (Aft.bd anti_opds Stp.refl h).mono fun vs H1 ⟨S1, ρ1, os, R1, st1, _, o1, h1⟩ => ⟨?_, call_sp (φ f) R1 st1 o1 h1⟩⟩
    rw [o1.length]; exact hln h1
/-! ### arguments, items -/
theorem asNil : PA X [] (tAs (Pw X H0 ER W) φ .nil) := PA.weak pa_nil fun σ H Q ⟨S, ρ, R, h⟩ => by
  rw [evAs] at h
  exact h [] H S R Stp.refl rfl
theorem asCons {b : Bool} {m : Ex} {r : Es} {e : Expr} {es : List Expr} (hp : plainE e = true) (ha : PE X e (tO (Pw X H0 ER W) φ m)) (hr : PA X es (tAs (Pw X H0 ER W) φ r)) : PA X (e :: es) (tAs (Pw X H0 ER W) φ (.cons b m r)) :=
  PA.weak (pa_cons ha hr (star_cons hp)) fun σ H Q ⟨S, ρ, R, h⟩ => by
    rw [evAs] at h
    refine ⟨S, ρ, R, (Aft.bd anti_opd Stp.refl h).mono fun v H1 ⟨S1, ρ1, x, R1, st1, _, o1, h1⟩ => ?_⟩
    refine ⟨S1, ρ1, R1, (Aft.bd anti_opds st1 h1).mono fun vs H2 ⟨S2, ρ2, os, R2, st2, s12, o2, h2⟩ => ?_⟩
    exact h2 (v :: vs) H2 S2 R2 st2 ⟨v, vs, rfl, o1.step R1 s12, o2⟩
theorem esNil : PA X [] (tEs (Pw X H0 ER W) φ .nil) := PA.weak pa_nil fun σ H Q ⟨S, ρ, R, h⟩ => by
  rw [evEs] at h
  exact h [] H S R Stp.refl rfl
theorem esCons {m : Ex} {r : Es} {e : Expr} {es : List Expr} (hp : plainE e = true) (ha : PE X e (tO (Pw X H0 ER W) φ m)) (hr : PA X es (tEs (Pw X H0 ER W) φ r)) : PA X (e :: es) (tEs (Pw X H0 ER W) φ (.cons false m r)) :=
  PA.weak (pa_cons ha hr (star_cons hp)) fun σ H Q ⟨S, ρ, R, h⟩ => by
    rw [evEs] at h
    refine ⟨S, ρ, R, (Aft.bd anti_opd Stp.refl h).mono fun v H1 ⟨S1, ρ1, x, R1, st1, _, o1, h1⟩ => ?_⟩
    obtain ⟨S2, ρ2, d, R2, st2, k2, r2, h2⟩ := Aft.esc R1 st1 o1 h1
    refine ⟨S2, ρ2, R2, (Aft.bd anti_es st2 h2).mono fun vs H3 ⟨S3, ρ3, ds, R3, st3, s23, o3, h3⟩ => ?_⟩
    exact h3 (v :: vs) H3 S3 R3 st3 ⟨v, vs, rfl, s23.rep R2 r2, o3⟩
theorem esStar {m : Ex} {r : Es} {e : Expr} {es : List Expr} {p : Pos} (ha : PE X e (tO (Pw X H0 ER W) φ m)) (hr : PA X es (tEs (Pw X H0 ER W) φ r)) : PA X (.Starred e p :: es) (tEs (Pw X H0 ER W) φ (.cons true m r)) :=
  PA.weak (StX.pa_star ha hr rfl) fun σ H Q ⟨S, ρ, R, h⟩ => by
    rw [evEs] at h
    refine ⟨S, ρ, R, (Aft.bd anti_opd Stp.refl h).mono fun v H1 ⟨S1, ρ1, x, R1, st1, _, o1, h1⟩ => ?_⟩
    split at h1
    · rename_i l e1
      obtain ⟨a, vs, rfl, k1, k2⟩ := (show ∃ a vs, v = .ref a ∧ SqL X.K H1 a vs ∧ Reps X.K H1 S1 l vs from o1.sha R1 e1)
      refine ⟨a, vs, rfl, .inr k1, S1, ρ1, R1, (Aft.bd anti_es st1 h1).mono fun us H3 ⟨S3, ρ3, ds, R3, st3, s13, o3, h3⟩ => ?_⟩
      exact h3 (vs ++ us) H3 S3 R3 st3 ((s13.reps R1 k2).append o3)
    · rename_i l e1
      obtain ⟨a, vs, rfl, k1, k2⟩ := (show ∃ a vs, v = .ref a ∧ SqT X.K H1 a vs ∧ Reps X.K H1 S1 l vs from o1.sha R1 e1)
      refine ⟨a, vs, rfl, .inl k1, S1, ρ1, R1, (Aft.bd anti_es st1 h1).mono fun us H3 ⟨S3, ρ3, ds, R3, st3, s13, o3, h3⟩ => ?_⟩
      exact h3 (vs ++ us) H3 S3 R3 st3 ((s13.reps R1 k2).append o3)
    · exact h1.elim
theorem tupPE {es : Es} {l : List Expr} {k : Nat} {pos : Pos} {kk} (h : PA X l (tEs (Pw X H0 ER W) φ es)) : PE X (.Tuple l kk pos) (tO (Pw X H0 ER W) φ (.tup es)) :=
  PE.weak (pe_tup h) fun σ H Q ⟨S, ρ, R, h⟩ => by
    rw [evO] at h
    refine ⟨S, ρ, R, (Aft.bd anti_es Stp.refl h).mono fun v H1 ⟨S1, ρ1, x, R1, st1, _, o1, h1⟩ => ?_⟩
    split at h1
    · rename_i hz
      exact ⟨by rw [Reps.length o1]; exact hz, fun p hp => (Aft.op R1 st1 h1).tup R1.dom o1 hp⟩
    · exact h1.elim
theorem lstPE {es : Es} {l : List Expr} {pos : Pos} (h : PA X l (tEs (Pw X H0 ER W) φ es)) : PE X (.List l pos) (tO (Pw X H0 ER W) φ (.lst es)) :=
  PE.weak (pe_lst h) fun σ H Q ⟨S, ρ, R, h⟩ => by
    rw [evO] at h
    refine ⟨S, ρ, R, (Aft.bd anti_es Stp.refl h).mono fun v H1 ⟨S1, ρ1, x, R1, st1, _, o1, h1⟩ => ?_⟩
    split at h1
    · rename_i hz
      exact ⟨by rw [Reps.length o1]; exact hz, fun p hp => (Aft.op R1 st1 h1).lst R1.dom o1 hp⟩
    · exact h1.elim
end
end TW
end
/-! W11 -/
section
set_option Elab.async false
set_option linter.all false
set_option maxRecDepth 100000
set_option maxHeartbeats 4000000
set_option autoImplicit false
/-! TW, part 11: enumerate over a tuple. -/
namespace PySem
open Sem (wp)
theorem tw_meets {v : Value} {o : Obj} {H : Heap → Prop} (B : Begins v o H) :
    Meets (Builtin.«enumerate.__new__» ⟨[.type "enumerate", v], []⟩) (fun _ Rq sh => H sh.heap ∧
      Rq (.ok (.ret (.ref (sh.heap.push o).objs.size)))
        { sh with heap := (sh.heap.push o).push ⟨.type "enumerate", none, .fields #[.none, .bool false, .ref sh.heap.objs.size, rawInt 0, .none, .none], #[]⟩ }) := by
  refine .of_wp fun pr wd Ar Rq sh ⟨hv, hq⟩ => ?_
  cases sh with
  | mk hp g d tk os =>
    have subs := sub_enumerate
    have it : ∀ {Ax : Around} {Ex : Value → Shared → Prop} {Qx : Value → Shared → Prop}, Qx (.ref hp.objs.size) ⟨hp.push o, g, d, tk, os⟩ → wpAny (model pr wd) Ax (pyIter v) Qx Ex ⟨hp, g, d, tk, os⟩ :=
      fun z => B.iter pr wd _ _ ⟨hp, g, d, tk, os⟩ _ hv z
    wp_walk using it
    refine wpAny_stack_any fun _ => wpAny_pure ?_
    split
    · rename_i cc _ _ _ _ _
      cases (cc == Value.type "enumerate") <;> (wp_walk using it; exact ⟨_, rfl, hq⟩)
    · wp_walk using it
      exact ⟨_, rfl, hq⟩
end PySem
namespace PySem
section
variable {pr : Program} {wd : World} {Ar : Around} {Ex : Value → Shared → Prop} {sh : Shared}
theorem tw_enum {v : Value} {o : Obj} {H : Heap → Prop} {Qx : Value → Shared → Prop} (B : Begins v o H) (hv : H sh.heap)
    (k : ∀ h', IsEnum h' (sh.heap.objs.size + 1) sh.heap.objs.size 0 .none → h'.get? sh.heap.objs.size = some o → (∀ b u, sh.heap.get? b = some u → h'.get? b = some u) → Qx (.ref (sh.heap.objs.size + 1)) { sh with heap := h' }) :
    wpAny (model pr wd) Ar (call (.type "enumerate") [v]) Qx Ex sh := by
  refine callType_new F.called_enumerate (by decide) (F.typeCall_enumerate_1 _) (F.newCall_enumerate_1 _) (fun ob => F.args_object_init_2 ob _) F.entry_enumerate_new (tw_meets B) ⟨hv, ?_⟩
  have z : (sh.heap.push o).objs.size = sh.heap.objs.size + 1 := Heap.size_push ..
  have e := Heap.get?_push_size (sh.heap.push o) (o := (⟨.type "enumerate", none, .fields #[.none, .bool false, .ref sh.heap.objs.size, rawInt 0, .none, .none], #[]⟩ : Obj)) rfl
  show _ ∧ _
  rw [z] at e ⊢
  exact ⟨⟨_, e, rfl⟩, k _ e (Heap.get?_push_of_some _ (Heap.get?_push_size _ B.free)) fun b u q => Heap.get?_push_of_some _ (Heap.get?_push_of_some _ q)⟩
end
end PySem
namespace TW
open PySem PySem.Spec L2
open PyProof.Rows hiding St
/-- the tuple at a, each item in a new pair -/
def IteT (K : PySem.W.Frag) (a : Addr) : It where
  go := fun i H => ∃ (xs : List V) (x : V), SqT K H a xs ∧ xs[i]? = some x
  yld := fun i H v H' => ∃ T x, v = .ref T ∧ H T = none ∧ H' = upd H T (.tup [.int (i : Nat), x]) ∧ ∀ xs, SqT K H a xs → xs[i]? = some x
  stop := fun i H => ∃ xs : List V, SqT K H a xs ∧ xs.length = i
theorem turn_enumT {P : Program} {w : World} {K : PySem.W.Frag} {es : List Expr} {kk : Nat} {tp : Pos} (a e it : Addr) :
    Turn P w K (.Tuple es kk tp) (IteT K a) [e, it] e (fun i h => (∃ old, IsEnum h e it (i : Nat) old) ∧ h.IsTupleIter it a i ∧ e ≠ it) where
  mem := List.mem_cons_self
  obj := fun i h st b hb => by
    obtain ⟨⟨old, q⟩, ⟨o, q1, _, q2⟩, _⟩ := st
    simp only [List.mem_cons, List.not_mem_nil, or_false] at hb
    rcases hb with rfl | rfl
    · exact ⟨_, q, fun _ z => nomatch z⟩
    · exact ⟨o, q1, fun _ z => by rw [q2] at z; cases z⟩
  keep := fun i h h' st k => by
    obtain ⟨⟨old, q⟩, q1, q2⟩ := st
    exact ⟨⟨old, k e List.mem_cons_self _ q⟩, q1.at fun o z => k it (by simp) o z, q2⟩
  item := by
    intro X hP hw hK hc i pins s σ H E I hf st hg
    subst hP hw hK
    obtain ⟨⟨old, he⟩, hit, hne⟩ := st
    obtain ⟨xs, x, hq, hx⟩ := hg
    obtain ⟨its, rv, p, hz⟩ := I.tuple hq
    obtain ⟨u, hu, ru⟩ := rv.get hx
    have le : e < s.heap.objs.size := Heap.lt_size he
    have li : it < s.heap.objs.size := by obtain ⟨_, q, _⟩ := hit; exact Heap.lt_size q
    have p' : s.heap.IsTuple a its.toArray := p
    obtain ⟨oa, ha, hca, _⟩ := id p'
    have n1 : a ≠ it := fun z => by
      obtain ⟨oi, q1, q2, _⟩ := hit
      rw [← z, ha] at q1; cases q1
      rw [hca] at q2
      injection q2 with q2
      exact absurd q2 (by decide)
    have n2 : a ≠ e := fun z => by
      have q1 : s.heap.get? e = _ := he
      rw [← z, ha] at q1; cases q1
      injection hca with q2
      exact absurd q2 (by decide)
    have D := Draws.tuple (prog := X.prog) (w := X.w) (A := X.A.in1) (I.ok.hd hc) it a n1 its.toArray
    have hlt : i < its.toArray.size := by
      have := List.getElem?_eq_some_iff.mp hu
      obtain ⟨q, _⟩ := this
      simpa using q
    refine wpAny_pyNext_enum_itemD D he ⟨hit, p'⟩ hlt hne (by simp only [List.mem_cons, List.not_mem_nil, or_false, not_or]; exact ⟨hne, fun z => n2 z.symm⟩) fun y h1 tk hy ho st1 hT hsz hk => ?_
    have ey : y = u := by
      have q : its.toArray[i]? = some y := hy
      rw [List.getElem?_toArray, hu] at q; cases q; rfl
    subst ey
    refine ⟨_, rfl, wpAny_letOwnedTupleGo_enum (s := { s with heap := h1, toks := tk + 1 }) ho fun h2 he2 sb => ?_⟩
    have hT2 : h2.get? s.heap.objs.size = some ⟨.type "tuple", none, .seq #[.int i tk, y] 0, #[]⟩ := (sb.2 _ (Nat.ne_of_gt le)).trans hT
    have new : ObjOk X.prog X.w (upd H s.heap.objs.size (.tup [.int (i : Nat), x])) h2 s.heap.objs.size (.tup [.int (i : Nat), x]) :=
      ⟨by show 2 ≤ sizeLine; decide, [.int i tk, y], .cons ⟨_, rfl⟩ (.cons ru .nil), ⟨_, hT2, rfl, _, rfl⟩⟩
    have I1 : Inv X pins σ (upd H s.heap.objs.size (.tup [.int (i : Nat), x])) { s with heap := h2, toks := tk + 1 } :=
      I.turnedNew (ch := [e, it]) (fun b ob hb q => by
        simp only [List.mem_cons, List.not_mem_nil, or_false, not_or] at hb
        exact (sb.2 b hb.1).trans (hk b ob hb.1 hb.2 q)) hf (Nat.le_refl _) new
    refine ⟨.ref s.heap.objs.size, _, I1, rfl, ⟨_, x, rfl, I.hok.fresh (Nat.le_refl _), rfl, fun ys hy' => by rw [I.tuple_inj hy' hq]; exact hx⟩, ⟨⟨y, ?_⟩, st1.1.at fun o q => (sb.2 it hne.symm).trans q, hne⟩, fun b hb => ?_⟩
    · have e1 : ((i + 1 : Nat) : Int) = (i : Int) + 1 := by omega
      rw [e1]; exact he2
    · have lb : b < s.heap.objs.size := by
        simp only [List.mem_cons, List.not_mem_nil, or_false] at hb
        rcases hb with rfl | rfl <;> assumption
      rw [upd_ne (Nat.ne_of_lt lb)]
      exact (hf b hb).1
  done := by
    intro X hP hw hK hc i pins s σ H E I hf st hg
    subst hP hw hK
    obtain ⟨⟨old, he⟩, hit, hne⟩ := st
    obtain ⟨xs, hq, hx⟩ := hg
    obtain ⟨its, rv, p, hz⟩ := I.tuple hq
    obtain ⟨f0, f1, f2, f3, f4, f5⟩ := hf it (by simp)
    have p' : s.heap.IsTuple a its.toArray := p
    obtain ⟨oa, ha, hca, _⟩ := id p'
    have n1 : a ≠ it := fun z => by
      obtain ⟨oi, q1, q2, _⟩ := hit
      rw [← z, ha] at q1; cases q1
      rw [hca] at q2
      injection q2 with q2
      exact absurd q2 (by decide)
    have D := Draws.tuple (prog := X.prog) (w := X.w) (A := X.A.in1) (I.ok.hd hc) it a n1 its.toArray
    have e1 : its.toArray.size = i := by rw [List.size_toArray, ← rv.length]; exact hx
    exact wpAny_pyNext_enum_endD D he (by rw [e1]; exact ⟨hit, p'⟩) fun h' eb => ⟨rfl, I.turned (t' := s.toks) (fun b o hb q => eb b o hb q) f0 f1 f3 f4 f5⟩
  self := fun A i s Q E st h => by
    obtain ⟨⟨_, he⟩, _⟩ := st
    exact wpAny_pyIter_enum he h
def iEnumT (K : PySem.W.Frag) (ta : TA) : TI := fun σ H R => ta σ H fun vs H1 => ∃ a xs, vs = [.ref a] ∧ SqT K H1 a xs ∧ R (IteT K a) H1
theorem pi_enumT {X : Cx} {e : Expr} {ta : TA} {p pos tp : Pos} {es : List Expr} {kk : Nat} (hg : Gl X "enumerate") (hm : X.mg "enumerate" = none) (ha : PA X [e] ta) (hs : starEach [e] X.env = [(false, eval e X.env)]) :
    PI X (.Tuple es kk tp) (.Call (.Name "enumerate" p) [e] [] pos) (iEnumT X.K ta) := by
  refine ⟨fun pins s σ H R I h => ?_⟩
  refine Call_ (ld_blt I hg hm boot_enumerate (PyProof.Rows.callWith_type1 (thn (ha.run pos pins s σ H _ I h) fun us s1 ⟨vs, H1, I1, r1, a, xs, ex, hq, q⟩ => ?_) hs rfl))
  subst ex
  cases r1 with
  | cons r rr =>
    cases rr
    cases r
    obtain ⟨its, rv, p', hz⟩ := I1.tuple hq
    refine tw_enum (begins_tuple a its.toArray) (show s1.heap.IsTuple a its.toArray from p') fun h' he hit hk => wpAny_pyIter_enum he ?_
    have I2 : Inv X pins σ H1 { s1 with heap := h' } := I1.kept (t' := s1.toks) hk
    refine ⟨s1.heap.objs.size + 1, [s1.heap.objs.size + 1, s1.heap.objs.size], _, _, H1, rfl, I2, turn_enumT a (s1.heap.objs.size + 1) s1.heap.objs.size, ⟨⟨.none, he⟩, ⟨_, hit, rfl, rfl⟩, Nat.succ_ne_self _⟩, fun b hb => ?_, q⟩
    simp only [List.mem_cons, List.not_mem_nil, or_false] at hb
    have hle : s1.heap.objs.size ≤ b := by
      rcases hb with rfl | rfl
      · exact Nat.le_succ _
      · exact Nat.le_refl _
    exact ⟨I1.hok.fresh hle, (I1.fpOk hle (I1.hok.fresh hle)).2⟩
end TW
end
/-! W12 -/
section
set_option Elab.async false
set_option linter.all false
set_option maxRecDepth 100000
set_option maxHeartbeats 4000000
set_option autoImplicit false
/-! TW, part 12: what is walked; targets. -/
namespace TW
open PySem PySem.Spec L2
open PyProof.Rows hiding St
/-- the iterator J gives the data ds -/
def IsIt (K : PySem.W.Frag) (H : Hp) (S : Addr → Prop) (J : It) (ds : List D) : Prop := ∀ H', (∀ a, S a → H' a = H a) → (∀ a vs, SqT K H a vs → SqT K H' a vs) →
  (∀ (i : Nat) (d : D), ds[i]? = some d → J.go i H' ∧ ∀ x H2, J.yld i H' x H2 → Ext H' H2 ∧ Rep K H2 S d x) ∧ J.stop ds.length H'
abbrev rI (P : Pm) : RlT (List D) It := fun _ S _ H J ds => IsIt P.K H S J ds
theorem anti_it {P : Pm} : Anti (rI P) := fun _ _ _ _ _ _ _ _ h => h
abbrev tI (P : Pm) (φ : Fns) (m : Itr) : TI := tR P (fun _ => rI P) (evIt φ m)
section
variable {K : PySem.W.Frag} {H H' : Hp} {S : Addr → Prop}
theorem LsAt.at {a : Addr} {vs : List V} (h : LsAt K H S a vs) (k : ∀ a, S a → H' a = H a) : SqL K H' a vs := by
  rcases h with ⟨h1, h2⟩ | h
  · refine .inl ?_
    rcases h2 with h2 | ⟨o, h2⟩
    · exact .inl ((k a h1).trans h2)
    · exact .inr ⟨o, (k a h1).trans h2⟩
  · exact .inr h
theorem Reps.atNat {ds : List D} {vs : List V} (r : Reps K H S ds vs) (k : ∀ a, S a → H' a = H a) (kt : ∀ a vs, SqT K H a vs → SqT K H' a vs) {i : Nat} {d : D} (e : ds[i]? = some d) : ∃ x, vs[i]? = some x ∧ Rep K H' S d x := by
  obtain ⟨x, h1, h2⟩ := r.get e
  exact ⟨x, h1, Rep.mono (fun _ q => q) k kt d x h2⟩
theorem itList {a : Addr} {vs : List V} {ds : List D} (h : LsAt K H S a vs) (r : Reps K H S ds vs) : IsIt K H S (Itl K a) ds := fun H' k kt => by
  have q := h.at k
  refine ⟨fun i d e => ?_, vs, q, by rw [r.length]; exact Nat.le_refl _⟩
  obtain ⟨x, h1, h2⟩ := r.atNat k kt e
  refine ⟨⟨vs, x, q, h1⟩, fun y H2 ⟨e1, e2⟩ => ?_⟩
  subst e1
  have := e2 vs q
  rw [h1] at this; cases this
  exact ⟨Ext.refl _, h2⟩
theorem itTup {a : Addr} {vs : List V} {ds : List D} (h : SqT K H a vs) (r : Reps K H S ds vs) : IsIt K H S (Itt K a) ds := fun H' k kt => by
  have q := kt _ _ h
  refine ⟨fun i d e => ?_, vs, q, by rw [r.length]; exact Nat.le_refl _⟩
  obtain ⟨x, h1, h2⟩ := r.atNat k kt e
  refine ⟨⟨vs, x, q, h1⟩, fun y H2 ⟨e1, e2⟩ => ?_⟩
  subst e1
  have := e2 vs q
  rw [h1] at this; cases this
  exact ⟨Ext.refl _, h2⟩
theorem itStr {x : Str} : IsIt K H S (Its x) (x.cps.toList.map fun c => .str ⟨#[c]⟩) := fun H' k kt => by
  refine ⟨fun i d e => ?_, by show x.cps.size ≤ _; simp⟩
  rw [List.getElem?_map] at e
  cases e0 : x.cps.toList[i]? with
  | none => rw [e0] at e; cases e
  | some c =>
    rw [e0] at e; cases e
    have hi : i < x.cps.size := by
      obtain ⟨q, _⟩ := List.getElem?_eq_some_iff.mp e0
      simpa using q
    refine ⟨hi, fun y H2 ⟨e1, c', e2, e3⟩ => ?_⟩
    subst e1 e3
    have : c' = c := by
      rw [← Array.getElem?_toList] at e2
      rw [e0] at e2; cases e2; rfl
    subst this
    exact ⟨Ext.refl _, rfl⟩
theorem itRng {lo : Int} {m : Nat} : IsIt K H S (L2.Itr lo m) (rngD lo m 1) := fun H' k kt => by
  unfold rngD
  refine ⟨fun i d e => ?_, by show m ≤ _; simp⟩
  rw [List.getElem?_map] at e
  cases e0 : (List.range m)[i]? with
  | none => rw [e0] at e; cases e
  | some j =>
    rw [e0] at e; cases e
    obtain ⟨q, e1⟩ := List.getElem?_eq_some_iff.mp e0
    simp at q e1
    subst e1
    refine ⟨q, fun y H2 ⟨e1, e2⟩ => ?_⟩
    subst e1 e2
    exact ⟨Ext.refl _, by show V.int _ = V.int _; rw [Int.mul_one]⟩
theorem itRngC {lo c : Int} {m : Nat} : IsIt K H S (Itc lo c m) (rngD lo m c) := fun H' k kt => by
  unfold rngD
  refine ⟨fun i d e => ?_, by show m ≤ _; simp⟩
  rw [List.getElem?_map] at e
  cases e0 : (List.range m)[i]? with
  | none => rw [e0] at e; cases e
  | some j =>
    rw [e0] at e; cases e
    obtain ⟨q, e1⟩ := List.getElem?_eq_some_iff.mp e0
    simp at q e1
    subst e1
    refine ⟨q, fun y H2 ⟨e1, e2⟩ => ?_⟩
    subst e1 e2
    exact ⟨Ext.refl _, rfl⟩
theorem enumD_length : ∀ (l : List D) (n : Nat), (enumD n l).length = l.length
  | [], _ => rfl
  | _ :: l, n => congrArg (· + 1) (enumD_length l (n + 1))
theorem enumD_get : ∀ (l : List D) (n i : Nat), (enumD n l)[i]? = l[i]?.map fun d => .tup [.int (n + i : Nat), d]
  | [], _, i => by simp [enumD]
  | d :: l, n, 0 => by simp [enumD]
  | d :: l, n, i + 1 => by
    rw [enumD, List.getElem?_cons_succ, List.getElem?_cons_succ, enumD_get l (n + 1) i]
    rw [show n + 1 + i = n + (i + 1) by omega]
theorem pair_rep {d e : D} {x y : V} {T : Addr} (hd : ∀ a, S a → H a ≠ none) (n : H T = none) (h1 : Rep K H S d x) (h2 : Rep K H S e y) : Rep K (upd H T (.tup [x, y])) S (.tup [d, e]) (.ref T) :=
  ⟨T, [x, y], rfl, SqT.of upd_same, (Ext.upd n).reps hd (fun _ q => q) (Reps.cons h1 (Reps.one h2))⟩
theorem itEnum {a : Addr} {vs : List V} {ds : List D} (hd : ∀ a, S a → H a ≠ none) (h : LsAt K H S a vs) (r : Reps K H S ds vs) : IsIt K H S (Ite K a) (enumD 0 ds) := fun H' k kt => by
  have q := h.at k
  refine ⟨fun i d e => ?_, vs, q, by rw [r.length, enumD_length]; exact Nat.le_refl _⟩
  rw [enumD_get] at e
  cases e0 : ds[i]? with
  | none => rw [e0] at e; cases e
  | some d0 =>
    rw [e0] at e; cases e
    obtain ⟨x, h1, h2⟩ := r.atNat k kt e0
    refine ⟨⟨vs, x, q, h1⟩, fun y H2 ⟨T, x', e1, n, e2, e3⟩ => ?_⟩
    subst e1 e2
    have := e3 vs q
    rw [h1] at this; cases this
    rw [Nat.zero_add]
    exact ⟨Ext.upd n, pair_rep (fun a s => by rw [k a s]; exact hd a s) n rfl h2⟩
theorem itEnumT {a : Addr} {vs : List V} {ds : List D} (hd : ∀ a, S a → H a ≠ none) (h : SqT K H a vs) (r : Reps K H S ds vs) : IsIt K H S (IteT K a) (enumD 0 ds) := fun H' k kt => by
  have q := kt _ _ h
  refine ⟨fun i d e => ?_, vs, q, by rw [r.length, enumD_length]⟩
  rw [enumD_get] at e
  cases e0 : ds[i]? with
  | none => rw [e0] at e; cases e
  | some d0 =>
    rw [e0] at e; cases e
    obtain ⟨x, h1, h2⟩ := r.atNat k kt e0
    refine ⟨⟨vs, x, q, h1⟩, fun y H2 ⟨T, x', e1, n, e2, e3⟩ => ?_⟩
    subst e1 e2
    have := e3 vs q
    rw [h1] at this; cases this
    rw [Nat.zero_add]
    exact ⟨Ext.upd n, pair_rep (fun a s => by rw [k a s]; exact hd a s) n rfl h2⟩
theorem zipGet {l m : List D} {i : Nat} {d : D} (e : (List.zipWith (fun d e => D.tup [d, e]) l m)[i]? = some d) : ∃ x y, l[i]? = some x ∧ m[i]? = some y ∧ d = .tup [x, y] := by
  rw [List.getElem?_zipWith] at e
  cases e0 : l[i]? with
  | none => rw [e0] at e; cases e
  | some x =>
    cases e1 : m[i]? with
    | none => rw [e0, e1] at e; cases e
    | some y => rw [e0, e1] at e; cases e; exact ⟨x, y, rfl, rfl, rfl⟩
theorem itZip {a b : Addr} {vs us : List V} {l m : List D} (hd : ∀ a, S a → H a ≠ none) (h : LsAt K H S a vs) (h' : LsAt K H S b us) (r : Reps K H S l vs) (r' : Reps K H S m us) :
    IsIt K H S (Itz K a b) (List.zipWith (fun d e => .tup [d, e]) l m) := fun H' k kt => by
  have q := h.at k
  have q' := h'.at k
  refine ⟨fun i d e => ?_, vs, us, q, q', by rw [r.length, r'.length, List.length_zipWith]; omega⟩
  obtain ⟨d0, d1, e0, e1, rfl⟩ := zipGet e
  obtain ⟨x, h1, h2⟩ := r.atNat k kt e0
  obtain ⟨y, h3, h4⟩ := r'.atNat k kt e1
  refine ⟨⟨vs, us, x, y, q, q', h1, h3⟩, fun z H2 ⟨T, x', y', e1, n, e2, e3, e4⟩ => ?_⟩
  subst e1 e2
  have t1 := e3 vs q
  have t2 := e4 us q'
  rw [h1] at t1; cases t1
  rw [h3] at t2; cases t2
  exact ⟨Ext.upd n, pair_rep (fun a s => by rw [k a s]; exact hd a s) n h2 h4⟩
theorem itZipT {a b : Addr} {vs us : List V} {l m : List D} (hd : ∀ a, S a → H a ≠ none) (h : SqT K H a vs) (h' : SqT K H b us) (r : Reps K H S l vs) (r' : Reps K H S m us) :
    IsIt K H S (RZ.ItzT K a b) (List.zipWith (fun d e => .tup [d, e]) l m) := fun H' k kt => by
  have q := kt _ _ h
  have q' := kt _ _ h'
  refine ⟨fun i d e => ?_, vs, us, q, q', by rw [r.length, r'.length, List.length_zipWith]; omega⟩
  obtain ⟨d0, d1, e0, e1, rfl⟩ := zipGet e
  obtain ⟨x, h1, h2⟩ := r.atNat k kt e0
  obtain ⟨y, h3, h4⟩ := r'.atNat k kt e1
  refine ⟨⟨vs, us, x, y, q, q', h1, h3⟩, fun z H2 ⟨T, x', y', e1, n, e2, e3, e4⟩ => ?_⟩
  subst e1 e2
  have t1 := e3 vs q
  have t2 := e4 us q'
  rw [h1] at t1; cases t1
  rw [h3] at t2; cases t2
  exact ⟨Ext.upd n, pair_rep (fun a s => by rw [k a s]; exact hd a s) n h2 h4⟩
end
section
variable {φ : Fns} {X : Cx} {H0 : Hp} {ER : Exn → Value → Option Addr → Hp → Prop} {W : WX} {tg e a b c : Expr} {m ma mb mc : Ex}
theorem Rep.lstI {K : PySem.W.Frag} {H : Hp} {S : Addr → Prop} {l : List D} {v : V} (h : Rep K H S (.lst l) v) : ∃ a vs, v = .ref a ∧ LsAt K H S a vs ∧ Reps K H S l vs := h
theorem Rep.tupI {K : PySem.W.Frag} {H : Hp} {S : Addr → Prop} {l : List D} {v : V} (h : Rep K H S (.tup l) v) : ∃ a vs, v = .ref a ∧ SqT K H a vs ∧ Reps K H S l vs := h
theorem PI.of {X : Cx} {tg e : Expr} {P : Pm} {α : Type} {R : L2.St → RlT α It} {ev : Loc → Res α} (h : ∀ σ H Q, tR P R ev σ H Q → ∃ wi, PI X tg e wi ∧ wi σ H Q) : PI X tg e (tR P R ev) :=
  ⟨fun pins s σ H Q I q => by
    obtain ⟨wi, h1, h2⟩ := h σ H Q q
    exact h1.run pins s σ H Q I h2⟩
/-- an operand goes into data, told ahead -/
theorem esc_ok {P : Pm} {σ : L2.St} {S S1 : Addr → Prop} {ρ ρ1 ρ2 : Loc} {H H1 : Hp} {o : Opd} {v : V} {d : D} (R : Rl P.K P.H0 S1 ρ1 σ H1) (st : Stp P.H0 σ S ρ H S1 ρ1 H1) (hv : OpdRep P.K P.H0 σ H S1 ρ1 H1 v o) (e : o.esc ρ1 = .ok d ρ2) :
    ∃ S2, Rl P.K P.H0 S2 ρ2 σ H1 ∧ Stp P.H0 σ S ρ H S2 ρ2 H1 ∧ (∀ a, S1 a → S2 a) ∧ Rep P.K H1 S2 d v := by
  obtain ⟨S2, ρ3, d', R2, st2, k, r2, h2⟩ := Aft.esc (P := P) (f := fun d' ρ' => .ok (d', ρ') ρ') (R2 := fun _ _ _ _ (b : D × Loc) (a : D × Loc) => b = a) (Q := fun b _ => b = (d, ρ2)) R st hv (by
    rw [e]
    exact fun v _ _ _ _ q => q)
  have q := h2 (d', ρ3) H1 S2 R2 st2 rfl
  cases q
  exact ⟨S2, R2, st2, k, r2⟩
theorem esc_ex {o : Opd} {ρ ρ' : Loc} {x : Exn} (e : o.esc ρ = .ex x ρ') : False := by
  unfold Opd.esc at e
  split at e <;> try contradiction
  split at e <;> contradiction
/-- what an operand that goes into data is -/
def escD (φ : Fns) (m : Ex) (ρ : Loc) : Option D := match evO φ m ρ with
  | .ok x ρ1 => match x.esc ρ1 with
    | .ok d _ => some d
    | _ => none
  | _ => none
theorem Aft.escD {P : Pm} {γ δ : Type} {R2 : RlT γ δ} {σ : L2.St} {S S0 : Addr → Prop} {ρ ρ0 : Loc} {H Hb : Hp} {f : D → Loc → Res γ} {Q : δ → Hp → Prop} (s0 : Stp P.H0 σ S0 ρ0 Hb S ρ H) (h : Aft P σ R2 S0 ρ0 Hb ((evO φ m ρ).bd fun x ρ1 => (x.esc ρ1).bd f) Q) :
    Aft P σ (OpdRep P.K P.H0 σ) S ρ H (evO φ m ρ) fun v H1 => ∃ S2 ρ2 d, TW.escD φ m ρ = some d ∧ Rl P.K P.H0 S2 ρ2 σ H1 ∧ Stp P.H0 σ S0 ρ0 Hb S2 ρ2 H1 ∧ Stp P.H0 σ S ρ H S2 ρ2 H1 ∧ Rep P.K H1 S2 d v ∧ Aft P σ R2 S0 ρ0 Hb (f d ρ2) Q := by
  unfold TW.escD
  cases e0 : evO φ m ρ with
  | ok x ρ1 =>
    rw [e0] at h
    intro v H1 S1 R1 st1 o1
    have h1 : Aft P σ R2 S0 ρ0 Hb ((x.esc ρ1).bd f) Q := h
    cases e1 : x.esc ρ1 with
    | ok d ρ2 =>
      rw [e1] at h1
      obtain ⟨S2, R2, st2, _, r2⟩ := esc_ok R1 st1 o1 e1
      exact ⟨S2, ρ2, d, by simp only [e1], R2, s0.trans st2, st2, r2, h1⟩
    | ex e ρ2 => exact (esc_ex e1).elim
    | no => rw [e1] at h1; exact h1.elim
  | ex x ρ1 => rw [e0] at h; exact fun cls dx H2 S2 r2 s2 q => h cls dx H2 S2 r2 (s0.trans s2) q
  | no => rw [e0] at h; exact h.elim
theorem escD_none {P : Pm} {γ δ : Type} {R2 : RlT γ δ} {σ : L2.St} {S : Addr → Prop} {ρ : Loc} {H : Hp} {f : D → Loc → Res γ} {Q : δ → Hp → Prop} (h : Aft P σ R2 S ρ H ((evO φ m ρ).bd fun x ρ1 => (x.esc ρ1).bd f) Q) :
    (∃ d, TW.escD φ m ρ = some d) ∨ ∃ x ρ', evO φ m ρ = .ex x ρ' := by
  unfold TW.escD
  cases e0 : evO φ m ρ with
  | ok x ρ1 =>
    rw [e0] at h
    have h1 : Aft P σ R2 S ρ H ((x.esc ρ1).bd f) Q := h
    cases e1 : x.esc ρ1 with
    | ok d ρ2 => exact .inl ⟨d, by simp only [e1]⟩
    | ex e ρ2 => exact (esc_ex e1).elim
    | no => rw [e1] at h1; exact h1.elim
  | ex x ρ1 => exact .inr ⟨x, ρ1, rfl⟩
  | no => rw [e0] at h; exact h.elim
theorem seqPI (he : PE X e (tO (Pw X H0 ER W) φ m)) : PI X tg e (tI (Pw X H0 ER W) φ (.seq m)) := by
  refine PI.of fun σ H Q ⟨S, ρ, R, h⟩ => ?_
  rw [evIt] at h
  have h' := Aft.escD Stp.refl h
  have lst : (∀ d, TW.escD φ m ρ = some d → ∃ l, d = .lst l) → ∃ wi, PI X tg e wi ∧ wi σ H Q := fun k => ⟨_, pi_list he, S, ρ, R, h'.mono fun v H1 ⟨S2, ρ2, d, e1, R2, st2, _, r2, h2⟩ => by
    obtain ⟨l, rfl⟩ := k d e1
    obtain ⟨a, vs, rfl, k1, k2⟩ := r2.lstI
    exact ⟨a, rfl, ⟨vs, k1.sq⟩, h2 _ H1 S2 R2 st2 (itList k1 k2)⟩⟩
  rcases escD_none h with ⟨d, ed⟩ | ⟨x, ρ', ex⟩
  · cases d with
    | lst l => exact lst fun d q => ⟨l, by rw [ed] at q; cases q; rfl⟩
    | tup l =>
      refine ⟨_, pi_tup he, S, ρ, R, h'.mono fun v H1 ⟨S2, ρ2, d, e1, R2, st2, _, r2, h2⟩ => ?_⟩
      rw [ed] at e1; cases e1
      obtain ⟨a, vs, rfl, k1, k2⟩ := r2.tupI
      exact ⟨a, rfl, ⟨vs, k1⟩, h2 _ H1 S2 R2 st2 (itTup k1 k2)⟩
    | str l =>
      refine ⟨_, pi_str he, S, ρ, R, h'.mono fun v H1 ⟨S2, ρ2, d, e1, R2, st2, _, r2, h2⟩ => ?_⟩
      rw [ed] at e1; cases e1
      exact ⟨l, r2, h2 _ H1 S2 R2 st2 itStr⟩
    | _ =>
      refine ⟨_, pi_list he, S, ρ, R, h'.mono fun v H1 ⟨S2, ρ2, d, e1, R2, st2, _, r2, h2⟩ => ?_⟩
      rw [ed] at e1; cases e1
      exact h2.elim
  · exact lst fun d q => by unfold TW.escD at q; rw [ex] at q; cases q
theorem enumPI (hg : Gl X "enumerate") (hm : X.mg "enumerate" = none) (he : PE X e (tO (Pw X H0 ER W) φ m)) (hp : plainE e = true) {p pos tp : Pos} {es : List Expr} {kk : Nat} : PI X (.Tuple es kk tp) (.Call (.Name "enumerate" p) [e] [] pos) (tI (Pw X H0 ER W) φ (.enum m)) := by
  refine PI.of fun σ H Q ⟨S, ρ, R, h⟩ => ?_
  rw [evIt] at h
  have h' := Aft.escD Stp.refl h
  have ha := pa_cons he pa_nil (star_cons hp)
  have hs := star_cons (es := []) (env := X.env) hp
  have lst : (∀ d, TW.escD φ m ρ = some d → ∃ l, d = .lst l) → ∃ wi, PI X (.Tuple es kk tp) (.Call (.Name "enumerate" p) [e] [] pos) wi ∧ wi σ H Q := fun k => ⟨_, pi_enum hg hm ha hs, S, ρ, R, h'.mono fun v H1 ⟨S2, ρ2, d, e1, R2, st2, _, r2, h2⟩ => by
    obtain ⟨l, rfl⟩ := k d e1
    obtain ⟨a, vs, rfl, k1, k2⟩ := r2.lstI
    exact ⟨a, vs, rfl, k1.sq, h2 _ H1 S2 R2 st2 (itEnum R2.dom k1 k2)⟩⟩
  rcases escD_none h with ⟨d, ed⟩ | ⟨x, ρ', ex⟩
  · cases d with
    | lst l => exact lst fun d q => ⟨l, by rw [ed] at q; cases q; rfl⟩
    | tup l =>
      refine ⟨_, pi_enumT hg hm ha hs, S, ρ, R, h'.mono fun v H1 ⟨S2, ρ2, d, e1, R2, st2, _, r2, h2⟩ => ?_⟩
      rw [ed] at e1; cases e1
      obtain ⟨a, vs, rfl, k1, k2⟩ := r2.tupI
      exact ⟨a, vs, rfl, k1, h2 _ H1 S2 R2 st2 (itEnumT R2.dom k1 k2)⟩
    | _ =>
      refine ⟨_, pi_enum hg hm ha hs, S, ρ, R, h'.mono fun v H1 ⟨S2, ρ2, d, e1, R2, st2, _, r2, h2⟩ => ?_⟩
      rw [ed] at e1; cases e1
      exact h2.elim
  · exact lst fun d q => by unfold TW.escD at q; rw [ex] at q; cases q
/-- zip over lists (over tuples: below) -/
theorem LsAt.stp {K : PySem.W.Frag} {H0 : Hp} {σ : L2.St} {S S' : Addr → Prop} {ρ ρ' : Loc} {H H' : Hp} (x : Stp H0 σ S ρ H S' ρ' H') (R : Rl K H0 S ρ σ H) {a : Addr} {vs : List V} (h : LsAt K H S a vs) : LsAt K H' S' a vs := by
  rcases h with ⟨h1, h2⟩ | h
  · refine .inl ⟨x.sub a h1, ?_⟩
    rcases h2 with h2 | ⟨o, h2⟩
    · exact .inl (x.keep a _ h2 (R.sNotOwn h1))
    · exact .inr ⟨o, x.keep a _ h2 (R.sNotOwn h1)⟩
  · exact .inr h
theorem zipPI (hg : Gl X "zip") (hm : X.mg "zip" = none) (ha : PE X a (tO (Pw X H0 ER W) φ ma)) (hb : PE X b (tO (Pw X H0 ER W) φ mb)) (hp : plainE a = true) (hq : plainE b = true) {p pos tp : Pos} {es : List Expr} {kk : Nat} : PI X (.Tuple es kk tp) (.Call (.Name "zip" p) [a, b] [] pos) (tI (Pw X H0 ER W) φ (.zip ma mb)) := by
  refine PI.weak (RZ.pi_zipA hg hm (pa_cons ha (pa_cons hb pa_nil (star_cons hq)) (star_cons hp)) (star_cons hp) (star_none (es := [b]) (by simp [hq]))) fun σ H Q ⟨S, ρ, R, h⟩ => ?_
  rw [evIt] at h
  refine ⟨S, ρ, R, (Aft.escD Stp.refl h).mono fun v H1 ⟨S1, ρ1, d, _, R1, st1, _, r1, h1⟩ => ?_⟩
  refine ⟨S1, ρ1, R1, (Aft.escD st1 h1).mono fun u H2 ⟨S2, ρ2, d', _, R2, st2, s12, r2, h2⟩ => ?_⟩
  unfold zipD at h2
  split at h2
  · obtain ⟨a, vs, rfl, k1, k2⟩ := r1.lstI
    obtain ⟨a', us, rfl, k3, k4⟩ := r2.lstI
    have k1' := k1.stp s12 R1
    exact ⟨a, a', vs, us, rfl, .inl ⟨k1'.sq, k3.sq, h2 _ H2 S2 R2 st2 (itZip R2.dom k1' k3 (s12.reps R1 k2) k4)⟩⟩
  · obtain ⟨a, vs, rfl, k1, k2⟩ := r1.tupI
    obtain ⟨a', us, rfl, k3, k4⟩ := r2.tupI
    have k1' := s12.sqT R1 k1
    exact ⟨a, a', vs, us, rfl, .inr ⟨k1', k3, h2 _ H2 S2 R2 st2 (itZipT R2.dom k1' k3 (s12.reps R1 k2) k4)⟩⟩
  · exact h2.elim
theorem r1PI (hg : Gl X "range") (hm : X.mg "range" = none) (ha : PE X a (tO (Pw X H0 ER W) φ ma)) (hp : plainE a = true) {p pos : Pos} : PI X tg (.Call (.Name "range" p) [a] [] pos) (tI (Pw X H0 ER W) φ (.r1 ma)) := by
  refine PI.weak (pi_range1 hg hm (pa_cons ha pa_nil (star_cons hp)) (star_cons hp)) fun σ H Q ⟨S, ρ, R, h⟩ => ?_
  rw [evIt] at h
  refine ⟨S, ρ, R, (Aft.bd anti_opd Stp.refl h).mono fun v H1 ⟨S1, ρ1, x, R1, st1, _, o1, h1⟩ => ?_⟩
  split at h1
  · rename_i j e1
    split at h1
    · rename_i hj
      simp only [okI_eq] at hj
      simp only [Bool.and_eq_true, decide_eq_true_eq] at hj
      cases (show v = .int j from o1.sha R1 e1)
      exact ⟨j, rfl, Int.le_of_lt hj.1, hj.2, h1 _ H1 S1 R1 st1 itRng⟩
    · exact h1.elim
  · exact h1.elim
theorem r2PI (hg : Gl X "range") (hm : X.mg "range" = none) (ha : PE X a (tO (Pw X H0 ER W) φ ma)) (hb : PE X b (tO (Pw X H0 ER W) φ mb)) (hp : plainE a = true) (hq : plainE b = true) {p pos : Pos} : PI X tg (.Call (.Name "range" p) [a, b] [] pos) (tI (Pw X H0 ER W) φ (.r2 ma mb)) := by
  refine PI.weak (pi_range2 hg hm (pa_cons ha (pa_cons hb pa_nil (star_cons hq)) (star_cons hp)) ((star_cons hp).trans (by rw [star_cons hq] <;> rfl)) (star_cons hq)) fun σ H Q ⟨S, ρ, R, h⟩ => ?_
  rw [evIt] at h
  refine ⟨S, ρ, R, (Aft.bd anti_opd Stp.refl h).mono fun v H1 ⟨S1, ρ1, x, R1, st1, _, o1, h1⟩ => ?_⟩
  refine ⟨S1, ρ1, R1, (Aft.bd anti_opd st1 h1).mono fun u H2 ⟨S2, ρ2, y, R2, st2, s12, o2, h2⟩ => ?_⟩
  split at h2
  · rename_i i j e1 e2
    split at h2
    · rename_i hj
      simp only [okI_eq] at hj
      simp only [Bool.and_eq_true, decide_eq_true_eq] at hj
      cases (show v = .int i from (o1.step R1 s12).sha R2 e1)
      cases (show u = .int j from o2.sha R2 e2)
      exact ⟨i, j, rfl, ⟨Int.le_of_lt hj.1.1, hj.1.2, Int.le_of_lt hj.2.1, hj.2.2⟩, h2 _ H2 S2 R2 st2 itRng⟩
    · exact h2.elim
  · exact h2.elim
theorem r3PI (hg : Gl X "range") (hm : X.mg "range" = none) (ha : PE X a (tO (Pw X H0 ER W) φ ma)) (hb : PE X b (tO (Pw X H0 ER W) φ mb)) (hc : PE X c (tO (Pw X H0 ER W) φ mc)) (hp : plainE a = true) (hq : plainE b = true) (hr : plainE c = true) {p pos : Pos} :
    PI X tg (.Call (.Name "range" p) [a, b, c] [] pos) (tI (Pw X H0 ER W) φ (.r3 ma mb mc)) := by
  refine PI.weak (pi_range3 hg hm (pa_cons ha (pa_cons hb (pa_cons hc pa_nil (star_cons hr)) (star_cons hq)) (star_cons hp)) (star_cons hp) (star_none (es := [b, c]) (by simp [hq, hr]))) fun σ H Q ⟨S, ρ, R, h⟩ => ?_
  rw [evIt] at h
  refine ⟨S, ρ, R, (Aft.bd anti_opd Stp.refl h).mono fun v H1 ⟨S1, ρ1, x, R1, st1, _, o1, h1⟩ => ?_⟩
  refine ⟨S1, ρ1, R1, (Aft.bd anti_opd st1 h1).mono fun u H2 ⟨S2, ρ2, y, R2, st2, s12, o2, h2⟩ => ?_⟩
  refine ⟨S2, ρ2, R2, (Aft.bd anti_opd st2 h2).mono fun w H3 ⟨S3, ρ3, z, R3, st3, s23, o3, h3⟩ => ?_⟩
  split at h3
  · rename_i i j k e1 e2 e3
    split at h3
    · rename_i hj
      simp only [Bool.and_eq_true, decide_eq_true_eq] at hj
      obtain ⟨⟨⟨h4, h5⟩, h6⟩, h7⟩ := hj
      cases (show v = .int i from ((o1.step R1 s12).step R2 s23).sha R3 e1)
      cases (show u = .int j from (o2.step R2 s23).sha R3 e2)
      cases (show w = .int k from o3.sha R3 e3)
      exact ⟨i, j, k, (Builtin.Range.rangeSize i j k).toNat, rfl, ⟨h4, h5, h6, by omega⟩, h3 _ H3 S3 R3 st3 itRngC⟩
    · exact h3.elim
  · exact h3.elim
end
end TW
end
/-! W13 -/
section
set_option Elab.async false
set_option linter.all false
set_option maxRecDepth 100000
set_option maxHeartbeats 4000000
set_option autoImplicit false
/-! TW, part 13: targets. -/
namespace TW
open PySem PySem.Spec L2
open PyProof.Rows hiding St
/-- the slot holds what the caller lent, at a -/
def Mp (ρ : Loc) (σ : L2.St) (a : Addr) : Prop := ∃ (i : Nat) (d : D), ρ[i]? = some (Slot.mp d) ∧ σ[i]? = some (some (V.ref a))
/-- a store into the slots l -/
structure StT (l : List Nat) (σ : L2.St) (ρ : Loc) (σ' : L2.St) (ρ' : Loc) : Prop where
  len : σ'.length = σ.length
  out : ∀ i, i ∉ l → σ'[i]? = σ[i]?
  own : ∀ a, Own ρ' σ' a → Own ρ σ a
  mp : ∀ a, Mp ρ' σ' a → Mp ρ σ a
theorem StT.refl {l : List Nat} {σ : L2.St} {ρ : Loc} : StT l σ ρ σ ρ := ⟨rfl, fun _ _ => rfl, fun _ h => h, fun _ h => h⟩
theorem StT.trans {l : List Nat} {σ σ1 σ2 : L2.St} {ρ ρ1 ρ2 : Loc} (x : StT l σ ρ σ1 ρ1) (y : StT l σ1 ρ1 σ2 ρ2) : StT l σ ρ σ2 ρ2 :=
  ⟨y.len.trans x.len, fun i h => (y.out i h).trans (x.out i h), fun a h => x.own a (y.own a h), fun a h => x.mp a (y.mp a h)⟩
theorem StT.sub {l l' : List Nat} {σ σ1 : L2.St} {ρ ρ1 : Loc} (x : StT l σ ρ σ1 ρ1) (k : ∀ i ∈ l, i ∈ l') : StT l' σ ρ σ1 ρ1 :=
  ⟨x.len, fun i h => x.out i fun q => h (k i q), x.own, x.mp⟩
section
variable {K : PySem.W.Frag} {H0 H : Hp} {S : Addr → Prop} {ρ ρ' : Loc} {σ : L2.St}
theorem setSh_inv {i : Nat} {d : D} (h : setSh ρ i d = some ρ') : ρ' = ρ.set i (.sh d) ∧ i < ρ.length ∧ ∀ e, ρ[i]? ≠ some (.mp e) := by
  unfold setSh at h
  cases e : ρ[i]? with
  | none => simp [e] at h
  | some sl =>
    obtain ⟨q, _⟩ := List.getElem?_eq_some_iff.mp e
    cases sl with
    | mp d => simp [e] at h
    | un => simp [e] at h; exact ⟨h.symm, q, fun d z => nomatch z⟩
    | sh d => simp [e] at h; exact ⟨h.symm, q, fun d z => nomatch z⟩
    | ow d => simp [e] at h; exact ⟨h.symm, q, fun d z => nomatch z⟩
theorem Rl.setSh (R : Rl K H0 S ρ σ H) {i : Nat} {d : D} {v : V} (hi : setSh ρ i d = some ρ') (r : Rep K H S d v) : Rl K H0 S ρ' (σ.set i (some v)) H ∧ StT [i] σ ρ (σ.set i (some v)) ρ' := by
  obtain ⟨rfl, hl, hn⟩ := setSh_inv hi
  have hls : i < σ.length := by rw [← R.len]; exact hl
  have at' : ∀ {j : Nat} {sl : Slot}, (ρ.set i (.sh d))[j]? = some sl → (∀ e, sl ≠ .sh e) → j ≠ i ∧ ρ[j]? = some sl := fun {j sl} h k => by
    by_cases e : j = i
    · subst e
      rw [List.getElem?_set_self hl] at h
      cases h
      exact absurd rfl (k d)
    · rw [List.getElem?_set_ne (fun q => e q.symm)] at h
      exact ⟨e, h⟩
  have σat : ∀ {j : Nat}, j ≠ i → (σ.set i (some v))[j]? = σ[j]? := fun {j} e => List.getElem?_set_ne (fun q => e q.symm)
  refine ⟨⟨by simp [R.len], fun j e h => ?_, fun j e h => ?_, fun j e h => ?_, fun j k p h1 h2 h3 h4 => ?_, R.dom, fun a o h n => ?_, R.ent⟩, ⟨by simp, fun j hj => σat (by simpa using hj), fun a h => ?_, fun a h => ?_⟩⟩
  · by_cases z : j = i
    · subst z
      rw [List.getElem?_set_self hl] at h
      cases h
      exact ⟨v, by rw [List.getElem?_set_self hls], r⟩
    · rw [List.getElem?_set_ne (fun q => z q.symm)] at h
      rw [σat z]
      exact R.sh j e h
  · obtain ⟨z, h'⟩ := at' h (fun _ q => nomatch q)
    rw [σat z]; exact R.ow j e h'
  · obtain ⟨z, h'⟩ := at' h (fun _ q => nomatch q)
    rw [σat z]; exact R.mp j e h'
  · obtain ⟨d3, h3⟩ := h3
    obtain ⟨d4, h4⟩ := h4
    have q3 : j ≠ i ∧ (ρ[j]? = some (.ow d3) ∨ ρ[j]? = some (.mp d3)) := by
      rcases h3 with h3 | h3
      · obtain ⟨z, h'⟩ := at' h3 (fun _ q => nomatch q); exact ⟨z, .inl h'⟩
      · obtain ⟨z, h'⟩ := at' h3 (fun _ q => nomatch q); exact ⟨z, .inr h'⟩
    have q4 : k ≠ i ∧ (ρ[k]? = some (.ow d4) ∨ ρ[k]? = some (.mp d4)) := by
      rcases h4 with h4 | h4
      · obtain ⟨z, h'⟩ := at' h4 (fun _ q => nomatch q); exact ⟨z, .inl h'⟩
      · obtain ⟨z, h'⟩ := at' h4 (fun _ q => nomatch q); exact ⟨z, .inr h'⟩
    rw [σat q3.1] at h1
    rw [σat q4.1] at h2
    exact R.one j k p h1 h2 ⟨d3, q3.2⟩ ⟨d4, q4.2⟩
  · refine R.old a o h fun j e hj => ?_
    have z : j ≠ i := fun z => hn e (by rw [← z]; exact hj)
    have := n j e (by rw [List.getElem?_set_ne (fun q => z q.symm)]; exact hj)
    rwa [σat z] at this
  · obtain ⟨j, e, h1, h2⟩ := h
    rcases h1 with h1 | h1
    · obtain ⟨z, h'⟩ := at' h1 (fun _ q => nomatch q)
      rw [σat z] at h2; exact ⟨j, e, .inl h', h2⟩
    · obtain ⟨z, h'⟩ := at' h1 (fun _ q => nomatch q)
      rw [σat z] at h2; exact ⟨j, e, .inr h', h2⟩
  · obtain ⟨j, e, h1, h2⟩ := h
    obtain ⟨z, h'⟩ := at' h1 (fun _ q => nomatch q)
    rw [σat z] at h2; exact ⟨j, e, h', h2⟩
end
def Tg.ixs : Tg → List Nat
  | .v i => [i]
  | .t0 l => l
  | .tp a l => a :: l
  | .pp l l' => l ++ l'
/-- a target's reading -/
def gT (K : PySem.W.Frag) (H0 : Hp) (t : Tg) : TG := fun x σ H Q => ∃ S ρ d ρ', Rl K H0 S ρ σ H ∧ Rep K H S d x ∧ tgD t d ρ = some ρ' ∧ ∀ σ', Rl K H0 S ρ' σ' H → StT t.ixs σ ρ σ' ρ' → Q σ' H
def gsT (K : PySem.W.Frag) (H0 : Hp) (l : List Nat) : TGs := fun vs σ H Q => ∃ S ρ ds ρ', Rl K H0 S ρ σ H ∧ Reps K H S ds vs ∧ setAll ρ l ds = some ρ' ∧ ∀ σ', Rl K H0 S ρ' σ' H → StT l σ ρ σ' ρ' → Q σ' H
section
variable {C : Ck} {φ : Fns} {ER : Exn → Value → Option Addr → Hp → Prop} {n : Nat} {X : Cx} {N : List Str} {sc : Scope} {st : Str → Bool} {W : WX} {H0 : Hp}
theorem PG.weak {e : Expr} {t t' : TG} (h : PG X e t) (k : ∀ v σ H Q, t' v σ H Q → t v σ H Q) : PG X e t' := ⟨fun pins s σ H v u Q I r q => h.run pins s σ H v u Q I r (k v σ H Q q)⟩
theorem PGs.weak {e : List Expr} {t t' : TGs} (h : PGs X e t) (k : ∀ v σ H Q, t' v σ H Q → t v σ H Q) : PGs X e t' := ⟨fun pins s σ H v u Q I r q => h.run pins s σ H v u Q I r (k v σ H Q q)⟩
theorem nameG (c : Cn C φ ER n X N sc st W) {i : Nat} {x : Str} {p : Pos} (h : stoB N st i x = true) : PG X (.Name x p) (gName i) := by
  obtain ⟨h1, h2⟩ := Bool.and_eq_true_iff.mp h
  obtain ⟨k1, k2⟩ := c.sto x h2
  have k1' : L2.Loc X.env.scope x := by rw [c.hsc]; exact k1
  exact pg_name (by rw [c.hN]; exact c.nd) (by rw [c.hN]; exact of_decide_eq_true h1) k1' (by rw [c.hsc]; exact k2)
theorem nameG' (c : Cn C φ ER n X N sc st W) {i : Nat} {x : Str} {p : Pos} (h : stoB N st i x = true) : PG X (.Name x p) (gT X.K H0 (.v i)) :=
  PG.weak (nameG c h) fun v σ H Q ⟨S, ρ, d, ρ', R, r, e, k⟩ => by
    obtain ⟨R', T⟩ := R.setSh e r
    exact k _ R' T
theorem namesG (c : Cn C φ ER n X N sc st W) : ∀ {l : List Nat} {es : List Expr}, chkNs N st l es = true → PGs X es (gsT X.K H0 l) ∧ (assignEach es X.env).length = l.length ∧ (assignEach es X.env).findIdx? (·.1) = none
  | [], [], _ => by
    refine ⟨PGs.weak pgs_nil fun vs σ H Q ⟨S, ρ, ds, ρ', R, r, e, k⟩ => ?_, rfl, rfl⟩
    cases ds with
    | nil => cases e; exact ⟨r, k _ R StT.refl⟩
    | cons d ds => cases e
  | i :: l, e :: es, h => by
    cases e with
    | Name x p =>
      obtain ⟨h1, h2⟩ := Bool.and_eq_true_iff.mp (show (stoB N st i x && chkNs N st l es) = true from h)
      obtain ⟨k1, k2, k3⟩ := namesG c h2
      refine ⟨PGs.weak (pgs_cons (nameG c (p := p) h1) k1) fun vs σ H Q ⟨S, ρ, ds, ρ', R, r, e, k⟩ => ?_, ?_, ?_⟩
      · cases ds with
        | nil => cases e
        | cons d ds =>
          obtain ⟨v, rs, rfl, r1, r2⟩ := r
          have e' : (match TW.setSh ρ i d with
            | some ρ' => setAll ρ' l ds
            | none => none) = some ρ' := e
          cases e1 : TW.setSh ρ i d with
          | none => rw [e1] at e'; cases e'
          | some ρ1 =>
            rw [e1] at e'
            obtain ⟨R1, T1⟩ := R.setSh e1 r1
            exact ⟨v, rs, rfl, S, ρ1, ds, ρ', R1, r2, e', fun σ' R' T' => k σ' R' ((T1.sub fun j hj => by simp at hj; simp [hj]).trans (T'.sub fun j hj => List.mem_cons_of_mem _ hj))⟩
      · show (_ :: assignEach es X.env).length = _
        rw [List.length_cons, k2, List.length_cons]
      · show (_ :: assignEach es X.env).findIdx? (·.1) = none
        rw [List.findIdx?_cons]
        show (if false = true then some 0 else _) = none
        rw [if_neg Bool.false_ne_true, k3] <;> rfl
    | _ => exact absurd h Bool.false_ne_true
  | [], _ :: _, h => absurd h Bool.false_ne_true
  | _ :: _, [], h => absurd h Bool.false_ne_true
theorem setAll_len : ∀ {l : List Nat} {ds : List D} {ρ ρ' : Loc}, setAll ρ l ds = some ρ' → ds.length = l.length
  | [], [], _, _, _ => rfl
  | [], _ :: _, _, _, h => by cases h
  | _ :: _, [], _, _, h => by cases h
  | i :: l, d :: ds, ρ, ρ', h => by
    have e' : (match TW.setSh ρ i d with
      | some ρ' => setAll ρ' l ds
      | none => none) = some ρ' := h
    cases e1 : TW.setSh ρ i d with
    | none => rw [e1] at e'; cases e'
    | some ρ1 => rw [e1] at e'; simp [setAll_len e']
theorem tupG (c : Cn C φ ER n X N sc st W) {l : List Nat} {es : List Expr} {k : Nat} {p : Pos} (h : chkNs N st l es = true) : PG X (.Tuple es k p) (gT X.K H0 (.t0 l)) := by
  obtain ⟨k1, k2, k3⟩ := namesG (H0 := H0) c h
  refine PG.weak (pg_tup c.calm k1 k2 k3) fun v σ H Q ⟨S, ρ, d, ρ', R, r, e, q⟩ => ?_
  cases d with
  | tup ds =>
    obtain ⟨a, vs, rfl, r1, r2⟩ := r.tupI
    exact ⟨a, vs, rfl, r1, by rw [r2.length]; exact setAll_len e, S, ρ, ds, ρ', R, r2, e, q⟩
  | _ => cases e
theorem pp_inv {l1 l2 : List Nat} {d : D} {ρ ρ' : Loc} (h : tgD (.pp l1 l2) d ρ = some ρ') : ∃ d1 d2 ρ1, d = .tup [.tup d1, .tup d2] ∧ setAll ρ l1 d1 = some ρ1 ∧ setAll ρ1 l2 d2 = some ρ' := by
  unfold tgD at h
  split at h
  · rename_i q; cases q
  · rename_i q; cases q
  · rename_i q; cases q
  · rename_i q
    cases q
    split at h
    · rename_i ρ1 e1
      exact ⟨_, _, ρ1, rfl, e1, h⟩
    · cases h
  · cases h
theorem gT_of {t : Tg} {e : Expr} (c : Cn C φ ER n X N sc st W) (h : chkT N st t e = true) : PG X e (gT X.K H0 t) := by
  cases t with
  | v i =>
    cases e with
    | Name x p => exact nameG' c h
    | _ => exact absurd h Bool.false_ne_true
  | t0 l =>
    cases e with
    | Tuple es k p => exact tupG c h
    | _ => exact absurd h Bool.false_ne_true
  | tp a l =>
    unfold chkT at h
    split at h
    all_goals first
      | (exact absurd h Bool.false_ne_true)
      | skip
    · cases ‹Tg.tp a l = Tg.v _›
    · cases ‹Tg.tp a l = Tg.t0 _›
    · rename_i a' l' x px es k p k' p' e1
      cases e1
      obtain ⟨h1, h2⟩ := Bool.and_eq_true_iff.mp h
      refine PG.weak (pg_tup c.calm (pgs_cons (nameG c h1) (pgs_cons (tupG (H0 := H0) c h2) pgs_nil))) fun v σ H Q ⟨S, ρ, d, ρ', R, r, e, q⟩ => ?_
      cases d with
      | tup ds =>
        obtain ⟨b, vs, rfl, r1, r2⟩ := r.tupI
        cases ds with
        | nil => cases e
        | cons d1 ds =>
          cases ds with
          | nil => cases e
          | cons d2 ds =>
            cases ds with
            | cons d3 ds => cases d2 <;> cases e
            | nil =>
              cases d2 with
              | tup ms =>
                obtain ⟨v1, rs, rfl, r3, v2, rs', rfl, r4, r5⟩ := r2
                cases (show rs' = [] from r5)
                have e' : (match TW.setSh ρ a d1 with
                  | some ρ' => setAll ρ' l ms
                  | none => none) = some ρ' := e
                cases e1 : TW.setSh ρ a d1 with
                | none => rw [e1] at e'; cases e'
                | some ρ1 =>
                  rw [e1] at e'
                  obtain ⟨R1, T1⟩ := R.setSh e1 r3
                  refine ⟨b, [v1, v2], rfl, r1, rfl, v1, [v2], rfl, v2, [], rfl, S, ρ1, .tup ms, ρ', R1, r4, e', fun σ' R' T' => ⟨rfl, q σ' R' ((T1.sub fun j hj => by simp at hj; simp [Tg.ixs, hj]).trans (T'.sub fun j hj => List.mem_cons_of_mem _ hj))⟩⟩
              | _ => cases e
      | _ => cases e
    · cases ‹Tg.tp a l = Tg.pp _ _›
  | pp l1 l2 =>
    unfold chkT at h
    split at h
    all_goals first
      | (exact absurd h Bool.false_ne_true)
      | skip
    · cases ‹Tg.pp l1 l2 = Tg.v _›
    · cases ‹Tg.pp l1 l2 = Tg.t0 _›
    · cases ‹Tg.pp l1 l2 = Tg.tp _ _›
    · rename_i l1' l2' es1 k1 p1 es2 k2 p2 k p e1
      cases e1
      obtain ⟨h1, h2⟩ := Bool.and_eq_true_iff.mp h
      refine PG.weak (pg_tup c.calm (pgs_cons (tupG (H0 := H0) c h1) (pgs_cons (tupG (H0 := H0) c h2) pgs_nil))) fun v σ H Q ⟨S, ρ, d, ρ', R, r, e, q⟩ => ?_
      obtain ⟨d1, d2, ρ1, rfl, e1, e2⟩ := pp_inv e
      obtain ⟨b, vs, rfl, r1, r2⟩ := r.tupI
      obtain ⟨v1, rs, rfl, r3, v2, rs', rfl, r4, r5⟩ := r2
      cases (show rs' = [] from r5)
      refine ⟨b, [v1, v2], rfl, r1, rfl, v1, [v2], rfl, S, ρ, .tup d1, ρ1, R, r3, e1, fun σ1 R1 T1 => ⟨v2, [], rfl, S, ρ1, .tup d2, ρ', R1, r4, e2, fun σ' R' T' => ⟨rfl, ?_⟩⟩⟩
      exact q σ' R' ((T1.sub fun j hj => List.mem_append_left _ hj).trans (T'.sub fun j hj => List.mem_append_right _ hj))
end
end TW
end
/-! W14 -/
section
set_option Elab.async false
set_option linter.all false
set_option maxRecDepth 100000
set_option maxHeartbeats 4000000
set_option autoImplicit false
/-! TW, part 14: list comprehensions. -/
namespace TW
open PySem PySem.Spec L2
open PyProof.Rows hiding St
/-- a step that may change the locals -/
structure Stq (σ : L2.St) (S : Addr → Prop) (ρ : Loc) (H : Hp) (σ' : L2.St) (S' : Addr → Prop) (ρ' : Loc) (H' : Hp) : Prop where
  sub : ∀ a, S a → S' a
  new : ∀ a, S' a → S a ∨ H a = none ∨ Own ρ σ a
  keep : ∀ a o, H a = some o → ¬ Own ρ σ a → H' a = some o
  dom : ∀ a, H a ≠ none → H' a ≠ none
  own : ∀ a, Own ρ' σ' a → Own ρ σ a
section
variable {σ σ1 σ2 : L2.St} {S S1 S2 : Addr → Prop} {ρ ρ1 ρ2 : Loc} {H H1 H2 H0 : Hp} {K : PySem.W.Frag}
theorem Stq.trans (x : Stq σ S ρ H σ1 S1 ρ1 H1) (y : Stq σ1 S1 ρ1 H1 σ2 S2 ρ2 H2) : Stq σ S ρ H σ2 S2 ρ2 H2 where
  sub := fun a h => y.sub a (x.sub a h)
  new := fun a h => by
    rcases y.new a h with h | h | h
    · exact x.new a h
    · refine .inr (.inl ?_)
      cases e : H a with
      | none => rfl
      | some o => exact absurd h (x.dom a (by rw [e]; intro q; cases q))
    · exact .inr (.inr (x.own a h))
  keep := fun a o h n => y.keep a o (x.keep a o h n) fun q => n (x.own a q)
  dom := fun a h => y.dom a (x.dom a h)
  own := fun a h => x.own a (y.own a h)
theorem Stp.q (x : Stp H0 σ S ρ H S1 ρ1 H1) : Stq σ S ρ H σ S1 ρ1 H1 := ⟨x.sub, x.new, x.keep, x.dom, x.own⟩
theorem Stq.p (x : Stq σ S ρ H σ S1 ρ1 H1) : Stp H0 σ S ρ H S1 ρ1 H1 := ⟨x.sub, x.new, x.keep, x.dom, x.own⟩
theorem Ext.q (x : Ext H H1) : Stq σ S ρ H σ S ρ H1 := ⟨fun _ h => h, fun _ h => .inl h, fun a o h _ => x a o h, fun a h => x.dom h, fun _ h => h⟩
theorem Stq.same (h : ∀ a, Own ρ1 σ1 a → Own ρ σ a) : Stq σ S ρ H σ1 S ρ1 H := ⟨fun _ h => h, fun _ h => .inl h, fun _ _ h _ => h, fun _ h => h, h⟩
theorem Stq.upd {D : Addr} {o : HO} (x : Stq σ S ρ H σ1 S1 ρ1 H1) (n : H D = none) : Stq σ S ρ H σ1 S1 ρ1 (upd H1 D o) where
  sub := x.sub
  new := x.new
  keep := fun a u h q => by
    have e : a ≠ D := fun e => by rw [e, n] at h; cases h
    rw [upd_ne e]; exact x.keep a u h q
  dom := fun a h => by
    have e : a ≠ D := fun e => h (by rw [e, n])
    rw [upd_ne e]; exact x.dom a h
  own := x.own
theorem Stq.sqT (x : Stq σ S ρ H σ1 S1 ρ1 H1) (R : Rl K H0 S ρ σ H) {a : Addr} {vs : List V} (h : SqT K H a vs) : SqT K H1 a vs := by
  rcases h with h | h
  · have no : ¬ Own ρ σ a := fun q => by
      obtain ⟨d, c, _⟩ := R.own_cel q
      exact c.notT h
    rcases h with h | ⟨o, h⟩
    · exact .inl (.inl (x.keep a _ h no))
    · exact .inl (.inr ⟨o, x.keep a _ h no⟩)
  · exact .inr h
theorem Stq.eqS (x : Stq σ S ρ H σ1 S1 ρ1 H1) (R : Rl K H0 S ρ σ H) {a : Addr} (h : S a) : H1 a = H a := by
  cases e : H a with
  | none => exact absurd e (R.dom a h)
  | some o => exact x.keep a o e (R.sNotOwn h)
theorem Stq.rep (x : Stq σ S ρ H σ1 S1 ρ1 H1) (R : Rl K H0 S ρ σ H) {d : D} {v : V} (h : Rep K H S d v) : Rep K H1 S1 d v :=
  Rep.mono x.sub (fun a hs => x.eqS R hs) (fun a vs q => x.sqT R q) d v h
theorem Stq.reps (x : Stq σ S ρ H σ1 S1 ρ1 H1) (R : Rl K H0 S ρ σ H) {d : List D} {v : List V} (h : Reps K H S d v) : Reps K H1 S1 d v :=
  Reps.mono x.sub (fun a hs => x.eqS R hs) (fun a vs q => x.sqT R q) d v h
/-! ### slots wiped and put back -/
theorem wipeL_len : ∀ (vs : List Nat), (wipeL ρ vs).length = ρ.length
  | [] => rfl
  | v :: vs => by unfold wipeL; rw [List.length_set, wipeL_len vs]
theorem wipeL_in : ∀ {vs : List Nat} {i : Nat}, i ∈ vs → i < ρ.length → (wipeL ρ vs)[i]? = some .un
  | v :: vs, i, h, hl => by
    unfold wipeL
    by_cases e : v = i
    · subst e
      rw [List.getElem?_set_self (by rw [wipeL_len]; exact hl)]
    · rw [List.getElem?_set_ne e]
      exact wipeL_in ((List.mem_cons.mp h).resolve_left fun q => e q.symm) hl
theorem wipeL_out : ∀ {vs : List Nat} {i : Nat}, i ∉ vs → (wipeL ρ vs)[i]? = ρ[i]?
  | [], i, _ => rfl
  | v :: vs, i, h => by
    simp only [List.mem_cons, not_or] at h
    unfold wipeL
    rw [List.getElem?_set_ne (fun q => h.1 q.symm)]
    exact wipeL_out h.2
theorem wipe_in : ∀ {vs : List Nat} {i : Nat}, i ∈ vs → i < σ.length → (wipe σ vs)[i]? = some none
  | v :: vs, i, h, hl => by
    unfold wipe
    by_cases e : v = i
    · subst e
      rw [List.getElem?_set_self (by rw [wipe_length]; exact hl)]
    · rw [List.getElem?_set_ne e]
      exact wipe_in ((List.mem_cons.mp h).resolve_left fun q => e q.symm) hl
theorem wipe_out' : ∀ {vs : List Nat} {i : Nat}, i ∉ vs → (wipe σ vs)[i]? = σ[i]?
  | [], i, _ => rfl
  | v :: vs, i, h => by
    simp only [List.mem_cons, not_or] at h
    unfold wipe
    rw [List.getElem?_set_ne (fun q => h.1 q.symm)]
    exact wipe_out' h.2
theorem wipe_eq {vs l : List Nat} (hl : σ1.length = σ.length) (ho : ∀ i, i ∉ l → σ1[i]? = (wipe σ vs)[i]?) (hs : ∀ i ∈ l, i ∈ vs) : wipe σ1 vs = wipe σ vs := by
  apply List.ext_getElem?
  intro i
  by_cases h : i ∈ vs
  · by_cases k : i < σ.length
    · rw [wipe_in h k, wipe_in h (by rw [hl]; exact k)]
    · rw [List.getElem?_eq_none (by rw [wipe_length, hl]; omega), List.getElem?_eq_none (by rw [wipe_length]; omega)]
  · rw [wipe_out' h, ho i fun q => h (hs i q)]
theorem backL_len : ∀ (vs : List Nat), (backL ρ ρ1 vs).length = ρ1.length
  | [] => rfl
  | v :: vs => by unfold backL; rw [List.length_set, backL_len vs]
theorem backL_in : ∀ {vs : List Nat} {i : Nat}, i ∈ vs → i < ρ1.length → (backL ρ ρ1 vs)[i]? = some (ρ.getD i .un)
  | v :: vs, i, h, hl => by
    unfold backL
    by_cases e : v = i
    · subst e
      rw [List.getElem?_set_self (by rw [backL_len]; exact hl)]
    · rw [List.getElem?_set_ne e]
      exact backL_in ((List.mem_cons.mp h).resolve_left fun q => e q.symm) hl
theorem backL_out : ∀ {vs : List Nat} {i : Nat}, i ∉ vs → (backL ρ ρ1 vs)[i]? = ρ1[i]?
  | [], i, _ => rfl
  | v :: vs, i, h => by
    simp only [List.mem_cons, not_or] at h
    unfold backL
    rw [List.getElem?_set_ne (fun q => h.1 q.symm)]
    exact backL_out h.2
theorem clrL_at {vs : List Nat} (h : clrL ρ vs = true) {i : Nat} (hi : i ∈ vs) : ρ[i]? = some .un ∨ ∃ d, ρ[i]? = some (.sh d) := by
  have := List.all_eq_true.mp h i hi
  split at this
  · exact .inl (by assumption)
  · exact .inr ⟨_, by assumption⟩
  · cases this
theorem wipeL_some {vs : List Nat} {i : Nat} {sl : Slot} (h : (wipeL ρ vs)[i]? = some sl) (n : sl ≠ .un) : i ∉ vs ∧ ρ[i]? = some sl := by
  by_cases k : i ∈ vs
  · have hl : i < ρ.length := by
      obtain ⟨q, _⟩ := List.getElem?_eq_some_iff.mp h
      rwa [wipeL_len] at q
    rw [wipeL_in k hl] at h
    cases h
    exact absurd rfl n
  · rw [wipeL_out k] at h
    exact ⟨k, h⟩
theorem own_wipe {vs : List Nat} {a : Addr} (h : Own (wipeL ρ vs) (wipe σ vs) a) : Own ρ σ a := by
  obtain ⟨i, d, h1, h2⟩ := h
  rcases h1 with h1 | h1
  · obtain ⟨k, q⟩ := wipeL_some h1 (fun z => nomatch z)
    rw [wipe_out' k] at h2
    exact ⟨i, d, .inl q, h2⟩
  · obtain ⟨k, q⟩ := wipeL_some h1 (fun z => nomatch z)
    rw [wipe_out' k] at h2
    exact ⟨i, d, .inr q, h2⟩
theorem Rl.wipe (R : Rl K H0 S ρ σ H) {vs : List Nat} (hc : clrL ρ vs = true) : Rl K H0 S (wipeL ρ vs) (L2.wipe σ vs) H where
  len := by rw [wipeL_len, wipe_length]; exact R.len
  sh := fun i d h => by
    obtain ⟨k, q⟩ := wipeL_some h (fun z => nomatch z)
    rw [wipe_out' k]; exact R.sh i d q
  ow := fun i d h => by
    obtain ⟨k, q⟩ := wipeL_some h (fun z => nomatch z)
    rw [wipe_out' k]; exact R.ow i d q
  mp := fun i d h => by
    obtain ⟨k, q⟩ := wipeL_some h (fun z => nomatch z)
    rw [wipe_out' k]; exact R.mp i d q
  one := fun i j p h1 h2 ⟨d3, h3⟩ ⟨d4, h4⟩ => by
    have q3 : i ∉ vs ∧ (ρ[i]? = some (.ow d3) ∨ ρ[i]? = some (.mp d3)) := by
      rcases h3 with h3 | h3
      · obtain ⟨k, q⟩ := wipeL_some h3 (fun z => nomatch z); exact ⟨k, .inl q⟩
      · obtain ⟨k, q⟩ := wipeL_some h3 (fun z => nomatch z); exact ⟨k, .inr q⟩
    have q4 : j ∉ vs ∧ (ρ[j]? = some (.ow d4) ∨ ρ[j]? = some (.mp d4)) := by
      rcases h4 with h4 | h4
      · obtain ⟨k, q⟩ := wipeL_some h4 (fun z => nomatch z); exact ⟨k, .inl q⟩
      · obtain ⟨k, q⟩ := wipeL_some h4 (fun z => nomatch z); exact ⟨k, .inr q⟩
    rw [wipe_out' q3.1] at h1
    rw [wipe_out' q4.1] at h2
    exact R.one i j p h1 h2 ⟨d3, q3.2⟩ ⟨d4, q4.2⟩
  dom := R.dom
  old := fun a o h n => R.old a o h fun i d hi => by
    by_cases k : i ∈ vs
    · rcases clrL_at hc k with q | ⟨e, q⟩ <;> (rw [hi] at q; cases q)
    · have := n i d (by rw [wipeL_out k]; exact hi)
      rwa [wipe_out' k] at this
  ent := R.ent
/-- behind the block: its slots as they were -/
theorem Rl.back {vs : List Nat} (R : Rl K H0 S ρ σ H) (hc : clrL ρ vs = true) (R1 : Rl K H0 S1 ρ1 (L2.wipe σ vs) H1) (x : Stq σ S ρ H (L2.wipe σ vs) S1 ρ1 H1) :
    Rl K H0 S1 (backL ρ ρ1 vs) σ H1 ∧ Stq σ S ρ H σ S1 (backL ρ ρ1 vs) H1 := by
  have lρ : ρ1.length = σ.length := by rw [R1.len, wipe_length]
  have gd : ∀ {i : Nat}, i ∈ vs → ρ.getD i .un = .un ∨ ∃ d, ρ.getD i .un = .sh d ∧ ρ[i]? = some (.sh d) := fun {i} k => by
    rcases clrL_at hc k with q | ⟨d, q⟩
    · left; rw [List.getD_eq_getElem?_getD, q] <;> rfl
    · right; exact ⟨d, by rw [List.getD_eq_getElem?_getD, q] <;> rfl, q⟩
  have at' : ∀ {i : Nat} {sl : Slot}, (backL ρ ρ1 vs)[i]? = some sl → (∃ d, sl = .ow d ∨ sl = .mp d) → i ∉ vs ∧ ρ1[i]? = some sl := fun {i sl} h n => by
    by_cases k : i ∈ vs
    · have hl : i < ρ1.length := by
        obtain ⟨q, _⟩ := List.getElem?_eq_some_iff.mp h
        rwa [backL_len] at q
      rw [backL_in k hl] at h
      cases h
      obtain ⟨d, n⟩ := n
      rcases gd k with q | ⟨e, q, _⟩ <;> (rw [q] at n; rcases n with n | n <;> cases n)
    · rw [backL_out k] at h
      exact ⟨k, h⟩
  have ow : ∀ a, Own (backL ρ ρ1 vs) σ a → Own ρ1 (L2.wipe σ vs) a := fun a ⟨i, d, h1, h2⟩ => by
    rcases h1 with h1 | h1
    · obtain ⟨k, q⟩ := at' h1 ⟨d, .inl rfl⟩
      exact ⟨i, d, .inl q, by rw [wipe_out' k]; exact h2⟩
    · obtain ⟨k, q⟩ := at' h1 ⟨d, .inr rfl⟩
      exact ⟨i, d, .inr q, by rw [wipe_out' k]; exact h2⟩
  refine ⟨⟨by rw [backL_len]; exact lρ, fun i d h => ?_, fun i d h => ?_, fun i d h => ?_, fun i j p h1 h2 ⟨d3, h3⟩ ⟨d4, h4⟩ => ?_, R1.dom, fun a o h n => ?_, R1.ent⟩, ⟨x.sub, x.new, x.keep, x.dom, fun a h => x.own a (ow a h)⟩⟩
  · by_cases k : i ∈ vs
    · have hl : i < ρ1.length := by
        obtain ⟨q, _⟩ := List.getElem?_eq_some_iff.mp h
        rwa [backL_len] at q
      rw [backL_in k hl] at h
      injection h with h
      rcases gd k with q | ⟨e, q, q'⟩
      · rw [q] at h; cases h
      · rw [q] at h; cases h
        obtain ⟨v, k1, k2⟩ := R.sh i d q'
        exact ⟨v, k1, x.rep R k2⟩
    · rw [backL_out k] at h
      have := R1.sh i d h
      rwa [wipe_out' k] at this
  · obtain ⟨k, q⟩ := at' h ⟨d, .inl rfl⟩
    have := R1.ow i d q
    rwa [wipe_out' k] at this
  · obtain ⟨k, q⟩ := at' h ⟨d, .inr rfl⟩
    have := R1.mp i d q
    rwa [wipe_out' k] at this
  · have q3 : i ∉ vs ∧ (ρ1[i]? = some (.ow d3) ∨ ρ1[i]? = some (.mp d3)) := by
      rcases h3 with h3 | h3
      · obtain ⟨k, q⟩ := at' h3 ⟨d3, .inl rfl⟩; exact ⟨k, .inl q⟩
      · obtain ⟨k, q⟩ := at' h3 ⟨d3, .inr rfl⟩; exact ⟨k, .inr q⟩
    have q4 : j ∉ vs ∧ (ρ1[j]? = some (.ow d4) ∨ ρ1[j]? = some (.mp d4)) := by
      rcases h4 with h4 | h4
      · obtain ⟨k, q⟩ := at' h4 ⟨d4, .inl rfl⟩; exact ⟨k, .inl q⟩
      · obtain ⟨k, q⟩ := at' h4 ⟨d4, .inr rfl⟩; exact ⟨k, .inr q⟩
    exact R1.one i j p (by rw [wipe_out' q3.1]; exact h1) (by rw [wipe_out' q4.1]; exact h2) ⟨d3, q3.2⟩ ⟨d4, q4.2⟩
  · refine R1.old a o h fun i d hi => ?_
    by_cases k : i ∈ vs
    · intro z
      by_cases hl : i < σ.length
      · rw [wipe_in k hl] at z; cases z
      · rw [List.getElem?_eq_none (by rw [wipe_length]; omega)] at z; cases z
    · rw [wipe_out' k]
      exact n i d (by rw [backL_out k]; exact hi)
/-- a list outside of all, changed -/
theorem Rl.upd (R : Rl K H0 S ρ σ H) {D : Addr} {vs us : List V} (e : H D = some (.lst vs)) (h0 : H0 D = none) (hS : ¬ S D) (hO : ¬ Own ρ σ D) : Rl K H0 S ρ σ (L2.upd H D (.lst us)) := by
  have nt : ∀ {a ws}, SqT K H a ws → SqT K (L2.upd H D (.lst us)) a ws := fun {a ws} h => by
    rcases h with h | h
    · have : a ≠ D := fun z => by
        subst z
        rcases h with h | ⟨o, h⟩ <;> (rw [e] at h; cases h)
      rcases h with h | ⟨o, h⟩
      · exact .inl (.inl (by rw [upd_ne this]; exact h))
      · exact .inl (.inr ⟨o, by rw [upd_ne this]; exact h⟩)
    · exact .inr h
  have rp : ∀ {d v}, Rep K H S d v → Rep K (L2.upd H D (.lst us)) S d v := fun {d v} h => Rep.mono (fun _ q => q) (fun a hs => upd_ne (show a ≠ D from fun z => hS (z ▸ hs))) (fun _ _ q => nt q) d v h
  have rps : ∀ {d v}, Reps K H S d v → Reps K (L2.upd H D (.lst us)) S d v := fun {d v} h => Reps.mono (fun _ q => q) (fun a hs => upd_ne (show a ≠ D from fun z => hS (z ▸ hs))) (fun _ _ q => nt q) d v h
  have rvs : ∀ {d v}, RepVs K H S d v → RepVs K (L2.upd H D (.lst us)) S d v := fun {d v} h => RepVs.mono (fun _ q => q) (fun a hs => upd_ne (show a ≠ D from fun z => hS (z ▸ hs))) (fun _ _ q => nt q) d v h
  have cl : ∀ {p d}, p ≠ D → Cel K H S p d → Cel K (L2.upd H D (.lst us)) S p d := fun {p d} hp h => by
    cases d with
    | lst l => obtain ⟨ws, h1, h2⟩ := h; exact ⟨ws, by rw [upd_ne hp]; exact h1, rps h2⟩
    | dct l =>
      rcases h with ⟨kvs, h1, h2, h3⟩ | ⟨kvs, h1, h2, h3⟩
      · exact .inl ⟨kvs, by rw [upd_ne hp]; exact h1, h2, rvs h3⟩
      · exact .inr ⟨kvs, by rw [upd_ne hp]; exact h1, h2, rvs h3⟩
    | _ => exact h.elim
  refine ⟨R.len, fun i d h => ?_, fun i d h => ?_, fun i d h => ?_, R.one, fun a h => ?_, fun a o h n => ?_, fun a h => ?_⟩
  · obtain ⟨v, k1, k2⟩ := R.sh i d h; exact ⟨v, k1, rp k2⟩
  · obtain ⟨p, k1, k2, k3, k4⟩ := R.ow i d h
    exact ⟨p, k1, k2, k3, cl (fun z => hO (z ▸ ⟨i, d, .inl h, k1⟩)) k4⟩
  · obtain ⟨p, k1, k2, k3, k4⟩ := R.mp i d h
    exact ⟨p, k1, k2, k3, cl (fun z => hO (z ▸ ⟨i, d, .inr h, k1⟩)) k4⟩
  · rw [upd_ne (show a ≠ D from fun z => hS (z ▸ h))]; exact R.dom a h
  · rw [upd_ne (show a ≠ D from fun z => by rw [z, h0] at h; cases h)]; exact R.old a o h n
  · rw [upd_ne (show a ≠ D from fun z => h (by rw [z, h0]))]; exact R.ent a h
theorem Reps.upd {l : List D} {ws : List V} {D0 : Addr} {vs us : List V} (e : H D0 = some (.lst vs)) (hS : ¬ S D0) (h : Reps K H S l ws) : Reps K (L2.upd H D0 (.lst us)) S l ws :=
  Reps.mono (H := H) (fun _ q => q) (fun a hs => upd_ne (show a ≠ D0 from fun z => hS (z ▸ hs))) (fun a ws h => by
    rcases h with h | h
    · have : a ≠ D0 := fun z => by
        rcases h with h | ⟨o, h⟩
        · have h : H a = _ := h
          rw [z, e] at h; cases h
        · have h : H a = _ := h
          rw [z, e] at h; cases h
      rcases h with h | ⟨o, h⟩
      · exact .inl (.inl ((upd_ne this).trans h))
      · exact .inl (.inr ⟨o, (upd_ne this).trans h⟩)
    · exact .inr h) l ws h
end
end TW
end
/-! W15 -/
section
set_option Elab.async false
set_option linter.all false
set_option maxRecDepth 100000
set_option maxHeartbeats 4000000
set_option autoImplicit false
/-! TW, part 15: list comprehensions, run. -/
namespace TW
open PySem PySem.Spec L2
open PyProof.Rows hiding St
/-- no exception is wanted -/
def WF : WX := fun _ _ _ _ => False
/-- the names that a block stores -/
def stS (scope : Scope) (x : Str) : Bool := match scope.names.lookup x with
  | some .local => true
  | some .cell => true
  | _ => false
def notSet : Expr → Bool
  | .Set .. => false
  | _ => true
theorem folded {e : Expr} {env : PySem.Env} (h : notSet e = true) (x : Value) : foldedSetIterable e env x = pure x := by
  cases e <;> first | rfl | cases h
/-- the tests of a block -/
abbrev tTf (P : Pm) (φ : Fns) (f : Bool) (m : Ex) : TT := tR P (fun _ => rT) (fun ρ => if f = true then evT φ m ρ else .ok true ρ)
section
variable {C : Ck} {φ : Fns} {ER : Exn → Value → Option Addr → Hp → Prop} {n : Nat} {X : Cx} {N : List Str} {sc scope : Scope} {st : Str → Bool} {W : WX} {H0 : Hp}
theorem Cn.blk (c : Cn C φ ER n X N sc st W) {s : Shared} {H : Hp} {Ca : Addr} {cl : List (Str × Addr)} {fp : List Addr} : Cn C φ ER n (X.blk s H scope (compEnvC scope cl Ca X.env) fp) N (relS scope sc) (stS scope) WF where
  hN := c.hN
  nd := c.nd
  hsc := by rw [← c.hsc] <;> rfl
  calm := c.calm
  tk := fun u s' ⟨a, B, sI, pins, σ, H, cls, d, e, I, nb, up, sky, na, os, ag, w⟩ => w
  room := c.room
  gd := c.gd
  sto := fun x h => by
    unfold stS at h
    split at h
    · rename_i e
      have := lookup_relS_keep (sc := sc) (by intro z; cases z) e
      exact ⟨.inl this, .inr this⟩
    · rename_i e
      have := lookup_relS_keep (sc := sc) (by intro z; cases z) e
      refine ⟨.inr this, .inl ?_⟩
      show (scope.names.lookup x == some .cell) = true
      rw [e] <;> rfl
    · cases h
  blt := c.blt
  cst := c.cst
  fnc := c.fnc
theorem PTs.weak {e : List Expr} {t t' : TT} (h : PTs X e t) (k : ∀ σ H Q, t' σ H Q → t σ H Q) : PTs X e t' := ⟨fun pins s σ H Q I q => h.run pins s σ H Q I (k σ H Q q)⟩
theorem ptsNil {P : Pm} {m : Ex} : PTs X [] (tTf P φ false m) := PTs.weak pts_nil fun σ H Q ⟨S, ρ, R, h⟩ => by
  have h : Aft P σ rT S ρ H (.ok true ρ) Q := h
  exact h true H S R Stp.refl rfl
theorem ptsOne {P : Pm} {m : Ex} {e : Expr} (h : PT X e (tT P φ m)) : PTs X [e] (tTf P φ true m) := PTs.weak (pts_one h) fun σ H Q ⟨S, ρ, R, h⟩ => ⟨S, ρ, R, h⟩
theorem evO_lc (φ : Fns) (own : List (Str × Nat)) (t : Tg) (it : Itr) (f : Bool) (mc me : Ex) (ρ : Loc) : evO φ (.lc own t it f mc me) ρ = (evIt φ it ρ).bd fun ds ρ1 => if clrL ρ1 (own.map (·.2)) then
      (lcL (own.map (·.2)) t (fun ρ => if f = true then evT φ mc ρ else .ok true ρ) (evO φ me) ds [] (wipeL ρ1 (own.map (·.2)))).bd fun l ρ2 =>
        .ok (.f (.lst l)) (backL ρ1 ρ2 (own.map (·.2))) else .no := by rw [evO] <;> rfl
theorem drop_at {α : Type} {l : List α} {i : Nat} {d : α} (h : l[i]? = some d) : l.drop i = d :: l.drop (i + 1) := by
  obtain ⟨q, e⟩ := List.getElem?_eq_some_iff.mp h
  rw [List.drop_eq_getElem_cons q, e]
/-- a comprehension's invariant -/
def LcI (K : PySem.W.Frag) (H0 : Hp) (vs : List Nat) (σ : L2.St) (S1 : Addr → Prop) (ρ1 : Loc) (H1 : Hp) (Dl : Addr) (ds : List D) (Z : List D → List D → Loc → Prop) (i m : Nat) (Hh : Hp) : Prop :=
  m = ds.length - i ∧ i ≤ ds.length ∧ ∃ acc avs S2 ρ2, Rl K H0 S2 ρ2 (L2.wipe σ vs) Hh ∧ Stq σ S1 ρ1 H1 (L2.wipe σ vs) S2 ρ2 Hh ∧ Hh Dl = some (.lst avs) ∧ Reps K Hh S2 acc avs ∧ ¬ S2 Dl ∧ ¬ Own ρ2 (L2.wipe σ vs) Dl ∧ Z (ds.drop i) acc ρ2
theorem StT.q {l : List Nat} {σ σ' : L2.St} {ρ ρ' : Loc} {S : Addr → Prop} {H : Hp} (T : StT l σ ρ σ' ρ') : Stq σ S ρ H σ' S ρ' H := Stq.same T.own
theorem Stq.out {σ σ1 : L2.St} {S S1 : Addr → Prop} {ρ ρ1 : Loc} {H H1 : Hp} (x : Stq σ S ρ H σ1 S1 ρ1 H1) {a : Addr} (h1 : ¬ S a) (h2 : H a ≠ none) (h3 : ¬ Own ρ σ a) : ¬ S1 a := fun h => by
  rcases x.new a h with h | h | h
  · exact h1 h
  · exact h2 h
  · exact h3 h
theorem lcW {own : List (Str × Nat)} {t : Tg} {it : Itr} {fl : Bool} {mc me : Ex} (hix : ∀ i ∈ t.ixs, i ∈ own.map (·.2)) (σ : L2.St) (H : Hp) (Q : VK) (h : tO (Pw X H0 ER W) φ (.lc own t it fl mc me) σ H Q) :
    tLc (tI (Pw X H0 ER W) φ it) (gT X.K H0 t) (tTf (Pw X H0 ER WF) φ fl mc) (tO (Pw X H0 ER WF) φ me) (own.map (·.2)) σ H Q := by
  obtain ⟨S, ρ, R, h⟩ := h
  rw [evO_lc] at h
  generalize own.map (·.2) = vs at hix h ⊢
  refine ⟨S, ρ, R, (Aft.bd anti_it Stp.refl h).mono fun J H1 ⟨S1, ρ1, ds, R1, st1, _, it1, h1⟩ => fun Dl hD => ?_⟩
  split at h1
  case isFalse => exact h1.elim
  rename_i hc
  refine ⟨LcI X.K H0 vs σ S1 ρ1 H1 Dl ds (fun rest acc ρ2 => Aft (Pw X H0 ER W) σ (OpdRep X.K H0 σ) S ρ H ((lcL vs t (fun ρ => if fl = true then evT φ mc ρ else .ok true ρ) (evO φ me) rest acc ρ2).bd fun l ρ3 => .ok (.f (.lst l)) (backL ρ1 ρ3 vs)) Q),
    ⟨ds.length, by simp, Nat.zero_le _, [], [], S1, wipeL ρ1 vs, (R1.wipe hc).ext (Ext.upd hD), (Stq.same fun a => own_wipe).trans (Ext.upd hD).q, upd_same, Reps.nil, fun q => R1.dom _ q hD, fun q => R1.own_there (own_wipe q) hD, h1⟩, ?_⟩
  rintro i m Hh ⟨rfl, hle, acc, avs, S2, ρ2, R2, q2, hD2, ra, nS, nO, h2⟩
  obtain ⟨itm, stp⟩ := it1 Hh (fun a q => q2.eqS R1 q) (fun a ws q => q2.sqT R1 q)
  have hDn : Hh Dl ≠ none := by rw [hD2]; intro z; cases z
  by_cases hlt : i = ds.length
  · subst hlt
    left
    refine ⟨stp, ?_⟩
    rw [List.drop_length] at h2
    have h2 : Aft (Pw X H0 ER W) σ (OpdRep X.K H0 σ) S ρ H (.ok (.f (.lst acc)) (backL ρ1 ρ2 vs)) Q := h2
    obtain ⟨R3, q3⟩ := R1.back hc R2 q2
    have hn : H Dl = none := by
      cases e : H Dl with
      | none => rfl
      | some o => exact absurd hD (st1.dom Dl (by rw [e]; intro z; cases z))
    exact h2 (.ref Dl) Hh S2 R3 (st1.trans q3.p) ⟨Dl, rfl, nS, R1.h0 hD, hn, fun q => R1.own_there (q3.own Dl q) hD, avs, hD2, ra⟩
  · right
    have hi' : i < ds.length := by omega
    have hd : ds[i]? = some ds[i] := List.getElem?_eq_getElem hi'
    generalize ds[i] = d at hd
    obtain ⟨go, yl⟩ := itm i d hd
    refine ⟨go, _, fun H' h => ⟨ds.length - (i + 1), by omega, h⟩, fun x H' hy => ?_⟩
    obtain ⟨ex, rd⟩ := yl x H' hy
    rw [drop_at hd] at h2
    rw [lcL] at h2
    cases e1 : tgD t d ρ2 with
    | none => rw [e1] at h2; exact h2.elim
    | some ρ3 =>
      rw [e1] at h2
      refine ⟨S2, ρ2, d, ρ3, R2.ext ex, Rep.wide q2.sub rd, e1, fun σ3 R3 T3 => ?_⟩
      have we : L2.wipe σ3 vs = L2.wipe σ vs := wipe_eq (T3.len.trans (wipe_length ..)) T3.out hix
      refine ⟨we, S2, ρ3, R3, ?_⟩
      have tq0 : Stq (L2.wipe σ vs) S2 ρ2 Hh σ3 S2 ρ3 H' := ex.q.trans T3.q
      simp only at h2
      show Aft (Pw X H0 ER WF) σ3 rT S2 ρ3 H' (if fl = true then evT φ mc ρ3 else .ok true ρ3) _
      generalize (if fl = true then evT φ mc ρ3 else .ok true ρ3) = cr at h2 ⊢
      cases cr with
      | no => exact h2.elim
      | ex e ρ4 => exact h2.elim
      | ok b ρ4 =>
        rintro b' H3 S4 R4 st4 rfl
        have tq1 := tq0.trans st4.q
        cases b' with
        | false =>
          simp only at h2
          rw [if_neg Bool.false_ne_true]
          split at h2
          case isFalse => exact h2.elim
          rename_i hc4
          have R4' := R4.wipe hc4
          have tq := tq1.trans (Stq.same (S := S4) (H := H3) (fun a (q : Own (wipeL ρ4 vs) (L2.wipe σ3 vs) a) => own_wipe q))
          rw [we] at R4' tq
          exact ⟨rfl, by omega, acc, avs, S4, wipeL ρ4 vs, R4', q2.trans tq, tq.keep Dl _ hD2 nO, tq.reps R2 ra, tq.out nS hDn nO, fun q => nO (tq.own Dl q), h2⟩
        | true =>
          simp only at h2
          rw [if_pos rfl]
          refine ⟨S4, ρ4, R4, ?_⟩
          cases e3 : evO φ me ρ4 with
          | no => rw [e3] at h2; exact h2.elim
          | ex e ρ5 => rw [e3] at h2; exact h2.elim
          | ok o ρ5 =>
            rw [e3] at h2
            simp only at h2
            intro v H5 S5 R5 st5 o5
            cases e4 : o.esc ρ5 with
            | no => rw [e4] at h2; exact h2.elim
            | ex e ρ6 => rw [e4] at h2; exact h2.elim
            | ok y ρ6 =>
              rw [e4] at h2
              simp only at h2
              obtain ⟨S6, R6, st6, _, r6⟩ := esc_ok (P := Pw X H0 ER WF) R5 st5 o5 e4
              split at h2
              case isFalse => exact h2.elim
              rename_i hz
              rw [Bool.and_eq_true, decide_eq_true_eq] at hz
              have R6' := R6.wipe hz.2
              have tq := (tq1.trans st6.q).trans (Stq.same (S := S6) (H := H5) (fun a (q : Own (wipeL ρ6 vs) (L2.wipe σ3 vs) a) => own_wipe q))
              rw [we] at R6' tq
              have hD5 := tq.keep Dl _ hD2 nO
              have nS6 := tq.out nS hDn nO
              have nO6 : ¬ Own (wipeL ρ6 vs) (L2.wipe σ vs) Dl := fun q => nO (tq.own Dl q)
              exact ⟨avs, hD5, by rw [ra.length]; exact hz.1, rfl, by omega, acc ++ [y], avs ++ [v], S6, wipeL ρ6 vs, R6'.upd hD5 (R1.h0 hD) nS6 nO6, (q2.trans tq).upd hD, upd_same, Reps.upd hD5 nS6 ((tq.reps R2 ra).append (Reps.one r6)), nS6, nO6, h2⟩
theorem lcPE (c : Cn C φ ER n X N sc st W) {own : List (Str × Nat)} {t : Tg} {it : Itr} {fl : Bool} {mc me : Ex} {elt tg iter : Expr} {ifs : List Expr} {pos : Pos} (hb : blkC N sc scope own = true) (hi : PI X tg iter (tI (Pw X H0 ER W) φ it)) (hns : notSet iter = true)
    (hix : ∀ i ∈ t.ixs, i ∈ own.map (·.2))
    (hg : ∀ (s : Shared) (H : Hp) (Ca : Addr) (cl : List (Str × Addr)) (fp : List Addr), PG (X.blk s H scope (compEnvC scope cl Ca X.env) fp) tg (gT X.K H0 t))
    (ht : ∀ (s : Shared) (H : Hp) (Ca : Addr) (cl : List (Str × Addr)) (fp : List Addr), PTs (X.blk s H scope (compEnvC scope cl Ca X.env) fp) ifs (tTf (Pw X H0 ER WF) φ fl mc))
    (he : ∀ (s : Shared) (H : Hp) (Ca : Addr) (cl : List (Str × Addr)) (fp : List Addr), PE (X.blk s H scope (compEnvC scope cl Ca X.env) fp) elt (tO (Pw X H0 ER WF) φ me)) :
    PE X (.ListComp elt [⟨tg, iter, ifs, 0⟩] scope pos) (tO (Pw X H0 ER W) φ (.lc own t it fl mc me)) :=
  PE.weak (pe_lc c.calm (by rw [c.hN]; exact c.nd) hi (blkOk_by (by rw [c.hN, c.hsc]; exact hb)) hg ht he (folded hns)) (lcW hix)
end
end TW
end
/-! W16 -/
section
set_option Elab.async false
set_option linter.all false
set_option maxRecDepth 100000
set_option maxHeartbeats 4000000
set_option autoImplicit false
/-! TW, part 16: comprehensions with two clauses. -/
namespace TW
open PySem PySem.Spec L2
open PyProof.Rows hiding St
section
variable {C : Ck} {φ : Fns} {ER : Exn → Value → Option Addr → Hp → Prop} {n : Nat} {X : Cx} {N : List Str} {sc scope : Scope} {st : Str → Bool} {W : WX} {H0 : Hp}
theorem lcTurn {K : PySem.W.Frag} {vs : List Nat} {t : Tg} {fl : Bool} {mc me : Ex} {σ : L2.St} {S2 : Addr → Prop} {ρ2 : Loc} {Hh H' : Hp} {Dl : Addr} {acc rest : List D} {avs : List V} {d : D} {x : V} {Nx : Hp → Prop}
    (hix : ∀ i ∈ t.ixs, i ∈ vs) (h0 : H0 Dl = none) (R2 : Rl K H0 S2 ρ2 (L2.wipe σ vs) Hh) (hD2 : Hh Dl = some (.lst avs)) (ra : Reps K Hh S2 acc avs) (nS : ¬ S2 Dl) (nO : ¬ Own ρ2 (L2.wipe σ vs) Dl) (ex : Ext Hh H') (rd : Rep K H' S2 d x)
    (hn : lcL vs t (fun ρ => if fl = true then evT φ mc ρ else .ok true ρ) (evO φ me) (d :: rest) acc ρ2 ≠ .no)
    (k : ∀ acc' avs' S3 ρ3 H3, Rl K H0 S3 ρ3 (L2.wipe σ vs) H3 → H3 Dl = some (.lst avs') → Reps K H3 S3 acc' avs' → ¬ S3 Dl → ¬ Own ρ3 (L2.wipe σ vs) Dl →
      (∀ σb Sb ρb Hb, Stq σb Sb ρb Hb (L2.wipe σ vs) S2 ρ2 Hh → Hb Dl = none → Stq σb Sb ρb Hb (L2.wipe σ vs) S3 ρ3 H3) → (∀ a, S2 a → S3 a) → (∀ a, S2 a → H3 a = Hh a) → (∀ a ws, SqT K Hh a ws → SqT K H3 a ws) →
      lcL vs t (fun ρ => if fl = true then evT φ mc ρ else .ok true ρ) (evO φ me) (d :: rest) acc ρ2 = lcL vs t (fun ρ => if fl = true then evT φ mc ρ else .ok true ρ) (evO φ me) rest acc' ρ3 → Nx H3) :
    gT K H0 t x (L2.wipe σ vs) H' fun σ3 H3 => L2.wipe σ3 vs = L2.wipe σ vs ∧ tTf ⟨K, H0, ER, WF⟩ φ fl mc σ3 H3 fun b H4 =>
      if b = true then tO ⟨K, H0, ER, WF⟩ φ me σ3 H4 fun y H5 => ∃ acc, H5 Dl = some (.lst acc) ∧ acc.length < sizeLine ∧ Nx (L2.upd H5 Dl (.lst (acc ++ [y]))) else Nx H4 := by
  have hDn : Hh Dl ≠ none := by rw [hD2]; intro z; cases z
  rw [lcL] at hn k
  cases e1 : tgD t d ρ2 with
  | none => rw [e1] at hn; exact absurd rfl hn
  | some ρ3 =>
    rw [e1] at hn k
    refine ⟨S2, ρ2, d, ρ3, R2.ext ex, rd, e1, fun σ3 R3 T3 => ?_⟩
    have we : L2.wipe σ3 vs = L2.wipe σ vs := wipe_eq (T3.len.trans (wipe_length ..)) T3.out hix
    refine ⟨we, S2, ρ3, R3, ?_⟩
    have tq0 : Stq (L2.wipe σ vs) S2 ρ2 Hh σ3 S2 ρ3 H' := ex.q.trans T3.q
    simp only at hn k
    show Aft ⟨K, H0, ER, WF⟩ σ3 rT S2 ρ3 H' (if fl = true then evT φ mc ρ3 else .ok true ρ3) _
    revert hn k
    generalize (if fl = true then evT φ mc ρ3 else .ok true ρ3) = cr
    intro k hn
    cases cr with
    | no => exact absurd rfl hn
    | ex e ρ4 => exact absurd rfl hn
    | ok b ρ4 =>
      rintro b' H3 S4 R4 st4 rfl
      have tq1 := tq0.trans st4.q
      cases b' with
      | false =>
        simp only at hn k
        rw [if_neg Bool.false_ne_true]
        by_cases hc4 : clrL ρ4 vs = true
        · rw [if_pos hc4] at k
          have R4' := R4.wipe hc4
          have tq := tq1.trans (Stq.same (S := S4) (H := H3) (fun a (q : Own (wipeL ρ4 vs) (L2.wipe σ3 vs) a) => own_wipe q))
          rw [we] at R4' tq
          exact k acc avs S4 (wipeL ρ4 vs) H3 R4' (tq.keep Dl _ hD2 nO) (tq.reps R2 ra) (tq.out nS hDn nO) (fun q => nO (tq.own Dl q)) (fun σb Sb ρb Hb q _ => q.trans tq) tq.sub (fun a q => tq.eqS R2 q) (fun a ws q => tq.sqT R2 q) rfl
        · rw [if_neg hc4] at hn; exact absurd rfl hn
      | true =>
        simp only at hn k
        rw [if_pos rfl]
        refine ⟨S4, ρ4, R4, ?_⟩
        cases e3 : evO φ me ρ4 with
        | no => rw [e3] at hn; exact absurd rfl hn
        | ex e ρ5 => rw [e3] at hn; exact absurd rfl hn
        | ok o ρ5 =>
          rw [e3] at hn k
          simp only at hn k
          intro v H5 S5 R5 st5 o5
          cases e4 : o.esc ρ5 with
          | no => rw [e4] at hn; exact absurd rfl hn
          | ex e ρ6 => rw [e4] at hn; exact absurd rfl hn
          | ok y ρ6 =>
            rw [e4] at hn k
            simp only at hn k
            obtain ⟨S6, R6, st6, _, r6⟩ := esc_ok (P := ⟨K, H0, ER, WF⟩) R5 st5 o5 e4
            by_cases hz : (decide (acc.length < sizeLine) && clrL ρ6 vs) = true
            · rw [if_pos hz] at k
              rw [Bool.and_eq_true, decide_eq_true_eq] at hz
              have R6' := R6.wipe hz.2
              have tq := (tq1.trans st6.q).trans (Stq.same (S := S6) (H := H5) (fun a (q : Own (wipeL ρ6 vs) (L2.wipe σ3 vs) a) => own_wipe q))
              rw [we] at R6' tq
              have hD5 := tq.keep Dl _ hD2 nO
              have nS6 := tq.out nS hDn nO
              have nO6 : ¬ Own (wipeL ρ6 vs) (L2.wipe σ vs) Dl := fun q => nO (tq.own Dl q)
              refine ⟨avs, hD5, by rw [ra.length]; exact hz.1, ?_⟩
              refine k (acc ++ [y]) (avs ++ [v]) S6 (wipeL ρ6 vs) _ (R6'.upd hD5 h0 nS6 nO6) upd_same (Reps.upd hD5 nS6 ((tq.reps R2 ra).append (Reps.one r6))) nS6 nO6 (fun σb Sb ρb Hb q hb => (q.trans tq).upd hb) tq.sub (fun a q => ?_) (fun a ws q => ?_) rfl
              · rw [upd_ne (show a ≠ Dl from fun z => nS (z ▸ q))]; exact tq.eqS R2 q
              · have q1 := tq.sqT R2 q
                rcases q1 with q1 | q1
                · have hne : a ≠ Dl := fun z => by
                    subst z
                    rcases q1 with q1 | ⟨o, q1⟩ <;> (rw [hD5] at q1; cases q1)
                  rcases q1 with q1 | ⟨o, q1⟩
                  · exact .inl (.inl ((upd_ne hne).trans q1))
                  · exact .inl (.inr ⟨o, (upd_ne hne).trans q1⟩)
                · exact .inr q1
            · rw [if_neg hz] at hn; exact absurd rfl hn
theorem evO_lc2 (φ : Fns) (own : List (Str × Nat)) (t : Tg) (it : Itr) (f : Bool) (mc : Ex) (vs1 : List Nat) (t1 : Tg) (it1 : Itr) (f1 : Bool) (mc1 me : Ex) (ρ : Loc) : evO φ (.lc2 own t it f mc vs1 t1 it1 f1 mc1 me) ρ = (evIt φ it ρ).bd fun ds ρ1 => if clrL ρ1 (own.map (·.2)) then
      (lc2L (own.map (·.2)) vs1 t (fun ρ => if f = true then evT φ mc ρ else .ok true ρ) (evIt φ it1) t1 (fun ρ => if f1 = true then evT φ mc1 ρ else .ok true ρ) (evO φ me) ds [] (wipeL ρ1 (own.map (·.2)))).bd fun l ρ2 =>
        .ok (.f (.lst l)) (backL ρ1 ρ2 (own.map (·.2))) else .no := by rw [evO] <;> rfl
/-- the inner loop's invariant -/
def LcJ (K : PySem.W.Frag) (H0 : Hp) (vs : List Nat) (σ : L2.St) (σb : L2.St) (S1 : Addr → Prop) (ρ1 : Loc) (H1 : Hp) (S5 : Addr → Prop) (H5 : Hp) (Dl : Addr) (ds : List D) (Z : List D → List D → Loc → Prop) (i m : Nat) (Hh : Hp) : Prop :=
  m = ds.length - i ∧ i ≤ ds.length ∧ ∃ acc avs S2 ρ2, Rl K H0 S2 ρ2 (L2.wipe σ vs) Hh ∧ Stq σb S1 ρ1 H1 (L2.wipe σ vs) S2 ρ2 Hh ∧ Hh Dl = some (.lst avs) ∧ Reps K Hh S2 acc avs ∧ ¬ S2 Dl ∧ ¬ Own ρ2 (L2.wipe σ vs) Dl ∧
    (∀ a, S5 a → S2 a) ∧ (∀ a, S5 a → Hh a = H5 a) ∧ (∀ a ws, SqT K H5 a ws → SqT K Hh a ws) ∧ Z (ds.drop i) acc ρ2
theorem wipe_wipe {σ : L2.St} {vs vs1 : List Nat} (h : ∀ i ∈ vs1, i ∈ vs) : L2.wipe (L2.wipe σ vs1) vs = L2.wipe σ vs :=
  wipe_eq (l := vs) (by rw [wipe_length]) (fun i hi => by rw [wipe_out' hi, wipe_out' fun q => hi (h i q)]) fun _ q => q
theorem lc2W {own : List (Str × Nat)} {vs1 : List Nat} {t t1 : Tg} {it it1 : Itr} {fl fl1 : Bool} {mc mc1 me : Ex} (hix : ∀ i ∈ t.ixs, i ∈ own.map (·.2)) (hv : ∀ i ∈ vs1, i ∈ own.map (·.2)) (hix1 : ∀ i ∈ t1.ixs, i ∈ vs1) (σ : L2.St) (H : Hp) (Q : VK)
    (h : tO (Pw X H0 ER W) φ (.lc2 own t it fl mc vs1 t1 it1 fl1 mc1 me) σ H Q) :
    tLc2 (tI (Pw X H0 ER W) φ it) (gT X.K H0 t) (tTf (Pw X H0 ER WF) φ fl mc) (tI (Pw X H0 ER WF) φ it1) (gT X.K H0 t1) (tTf (Pw X H0 ER WF) φ fl1 mc1) (tO (Pw X H0 ER WF) φ me) (own.map (·.2)) vs1 σ H Q := by
  obtain ⟨S, ρ, R, h⟩ := h
  rw [evO_lc2] at h
  generalize own.map (·.2) = vs at hix hv h ⊢
  refine ⟨S, ρ, R, (Aft.bd anti_it Stp.refl h).mono fun J H1 ⟨S1, ρ1, ds, R1, st1, _, it1', h1⟩ => fun Dl hD => ?_⟩
  split at h1
  case isFalse => exact h1.elim
  rename_i hc
  refine ⟨LcI X.K H0 vs σ S1 ρ1 H1 Dl ds (fun rest acc ρ2 => Aft (Pw X H0 ER W) σ (OpdRep X.K H0 σ) S ρ H ((lc2L vs vs1 t (fun ρ => if fl = true then evT φ mc ρ else .ok true ρ) (evIt φ it1) t1 (fun ρ => if fl1 = true then evT φ mc1 ρ else .ok true ρ) (evO φ me) rest acc ρ2).bd fun l ρ3 => .ok (.f (.lst l)) (backL ρ1 ρ3 vs)) Q),
    ⟨ds.length, by simp, Nat.zero_le _, [], [], S1, wipeL ρ1 vs, (R1.wipe hc).ext (Ext.upd hD), (Stq.same fun a => own_wipe).trans (Ext.upd hD).q, upd_same, Reps.nil, fun q => R1.dom _ q hD, fun q => R1.own_there (own_wipe q) hD, h1⟩, ?_⟩
  rintro i m Hh ⟨rfl, hle, acc, avs, S2, ρ2, R2, q2, hD2, ra, nS, nO, h2⟩
  obtain ⟨itm, stp⟩ := it1' Hh (fun a q => q2.eqS R1 q) (fun a ws q => q2.sqT R1 q)
  have hDn : Hh Dl ≠ none := by rw [hD2]; intro z; cases z
  by_cases hlt : i = ds.length
  · subst hlt
    left
    refine ⟨stp, ?_⟩
    rw [List.drop_length] at h2
    have h2 : Aft (Pw X H0 ER W) σ (OpdRep X.K H0 σ) S ρ H (.ok (.f (.lst acc)) (backL ρ1 ρ2 vs)) Q := h2
    obtain ⟨R3, q3⟩ := R1.back hc R2 q2
    have hn : H Dl = none := by
      cases e : H Dl with
      | none => rfl
      | some o => exact absurd hD (st1.dom Dl (by rw [e]; intro z; cases z))
    exact h2 (.ref Dl) Hh S2 R3 (st1.trans q3.p) ⟨Dl, rfl, nS, R1.h0 hD, hn, fun q => R1.own_there (q3.own Dl q) hD, avs, hD2, ra⟩
  · right
    have hi' : i < ds.length := by omega
    have hd : ds[i]? = some ds[i] := List.getElem?_eq_getElem hi'
    generalize ds[i] = d at hd
    obtain ⟨go, yl⟩ := itm i d hd
    refine ⟨go, _, fun H' h => ⟨ds.length - (i + 1), by omega, h⟩, fun x H' hy => ?_⟩
    obtain ⟨ex, rd⟩ := yl x H' hy
    rw [drop_at hd] at h2
    rw [lc2L] at h2
    cases e1 : tgD t d ρ2 with
    | none => rw [e1] at h2; exact h2.elim
    | some ρ3 =>
      rw [e1] at h2
      refine ⟨S2, ρ2, d, ρ3, R2.ext ex, Rep.wide q2.sub rd, e1, fun σ3 R3 T3 => ?_⟩
      have we : L2.wipe σ3 vs = L2.wipe σ vs := wipe_eq (T3.len.trans (wipe_length ..)) T3.out hix
      refine ⟨we, S2, ρ3, R3, ?_⟩
      have tq0 : Stq (L2.wipe σ vs) S2 ρ2 Hh σ3 S2 ρ3 H' := ex.q.trans T3.q
      simp only at h2
      show Aft (Pw X H0 ER WF) σ3 rT S2 ρ3 H' (if fl = true then evT φ mc ρ3 else .ok true ρ3) _
      generalize (if fl = true then evT φ mc ρ3 else .ok true ρ3) = cr at h2 ⊢
      cases cr with
      | no => exact h2.elim
      | ex e ρ4 => exact h2.elim
      | ok b ρ4 =>
        rintro b' H3 S4 R4 st4 rfl
        have tq1 := tq0.trans st4.q
        cases b' with
        | false =>
          simp only at h2
          rw [if_neg Bool.false_ne_true]
          split at h2
          case isFalse => exact h2.elim
          rename_i hc4
          have R4' := R4.wipe hc4
          have tq := tq1.trans (Stq.same (S := S4) (H := H3) (fun a (q : Own (wipeL ρ4 vs) (L2.wipe σ3 vs) a) => own_wipe q))
          rw [we] at R4' tq
          exact ⟨rfl, by omega, acc, avs, S4, wipeL ρ4 vs, R4', q2.trans tq, tq.keep Dl _ hD2 nO, tq.reps R2 ra, tq.out nS hDn nO, fun q => nO (tq.own Dl q), h2⟩
        | true =>
          simp only at h2
          rw [if_pos rfl]
          refine ⟨S4, ρ4, R4, ?_⟩
          cases e3 : evIt φ it1 ρ4 with
          | no => rw [e3] at h2; exact h2.elim
          | ex e ρ5 => rw [e3] at h2; exact h2.elim
          | ok ds1 ρ5 =>
            rw [e3] at h2
            simp only at h2
            intro J1 H5 S5 R5 st5 it5
            split at h2
            case isFalse => exact h2.elim
            rename_i hc5
            have tq2 := tq1.trans st5.q
            have tq3 := tq2.trans (Stq.same (S := S5) (H := H5) (fun a (q : Own (wipeL ρ5 vs1) (L2.wipe σ3 vs1) a) => own_wipe q))
            have hD5 := tq3.keep Dl _ hD2 nO
            have nO5 : ¬ Own (wipeL ρ5 vs1) (L2.wipe σ3 vs1) Dl := fun q => nO (tq3.own Dl q)
            refine ⟨LcJ X.K H0 vs1 σ3 σ S1 ρ1 H1 S5 H5 Dl ds1 (fun rest1 acc1 ρ6 => Aft (Pw X H0 ER W) σ (OpdRep X.K H0 σ) S ρ H ((match lcL vs1 t1 (fun ρ => if fl1 = true then evT φ mc1 ρ else .ok true ρ) (evO φ me) rest1 acc1 ρ6 with
                | .ok acc' ρ4 => if clrL ρ4 vs then lc2L vs vs1 t (fun ρ => if fl = true then evT φ mc ρ else .ok true ρ) (evIt φ it1) t1 (fun ρ => if fl1 = true then evT φ mc1 ρ else .ok true ρ) (evO φ me) (ds.drop (i + 1)) acc' (wipeL ρ4 vs) else .no
                | _ => .no).bd fun l ρ3 => .ok (.f (.lst l)) (backL ρ1 ρ3 vs)) Q),
              ⟨ds1.length, by simp, Nat.zero_le _, acc, avs, S5, wipeL ρ5 vs1, R5.wipe hc5, q2.trans tq3, hD5, tq3.reps R2 ra, tq3.out nS hDn nO, nO5, fun _ q => q, fun _ _ => rfl, fun _ _ q => q, h2⟩, ?_⟩
            rintro j m1 Hj ⟨rfl, hlj, acc1, avs1, S6, ρ6, R6, q6, hD6, ra6, nS6, nO6, kk, kS, kT, h6⟩
            obtain ⟨itm1, stp1⟩ := it5 Hj kS kT
            have hDj : Hj Dl ≠ none := by rw [hD6]; intro z; cases z
            by_cases hlt1 : j = ds1.length
            · subst hlt1
              left
              refine ⟨stp1, ?_⟩
              rw [List.drop_length, lcL] at h6
              simp only at h6
              split at h6
              case isFalse => exact h6.elim
              rename_i hc6
              have R6' := R6.wipe hc6
              have tq6 : Stq (L2.wipe σ3 vs1) S6 ρ6 Hj (L2.wipe (L2.wipe σ3 vs1) vs) S6 (wipeL ρ6 vs) Hj := Stq.same (fun a q => own_wipe q)
              rw [wipe_wipe hv, we] at R6' tq6
              exact ⟨rfl, by omega, acc1, avs1, S6, wipeL ρ6 vs, R6', q6.trans tq6, hD6, ra6, nS6, fun q => nO6 (tq6.own Dl q), h6⟩
            · right
              have hj' : j < ds1.length := by omega
              have hd1 : ds1[j]? = some ds1[j] := List.getElem?_eq_getElem hj'
              generalize ds1[j] = d1 at hd1
              obtain ⟨go1, yl1⟩ := itm1 j d1 hd1
              refine ⟨go1, _, fun H' h => ⟨ds1.length - (j + 1), by omega, h⟩, fun x1 H7 hy1 => ?_⟩
              obtain ⟨ex1, rd1⟩ := yl1 x1 H7 hy1
              rw [drop_at hd1] at h6
              refine lcTurn (acc := acc1) (rest := ds1.drop (j + 1)) (ER := ER) hix1 (R1.h0 hD) R6 hD6 ra6 nS6 nO6 ex1 (Rep.wide kk rd1) (fun z => by rw [z] at h6; exact h6.elim) fun acc' avs' S7 ρ7 H8 R7 hD7 ra7 nS7 nO7 kq sb7 kS7 kT7 e7 => ?_
              rw [e7] at h6
              have q7 := kq σ S1 ρ1 H1 q6 hD
              exact ⟨rfl, by omega, acc', avs', S7, ρ7, R7, q7, hD7, ra7, nS7, nO7, fun a q => sb7 a (kk a q), fun a q => (kS7 a (kk a q)).trans (kS a q), fun a ws q => kT7 a ws (kT a ws q), h6⟩
theorem lc2PE (c : Cn C φ ER n X N sc st W) {own : List (Str × Nat)} {vs1 : List Nat} {t t1 : Tg} {it it1 : Itr} {fl fl1 : Bool} {mc mc1 me : Ex} {elt tg iter tg1 iter1 : Expr} {ifs ifs1 : List Expr} {pos : Pos} (hb : blkC N sc scope own = true)
    (hi : PI X tg iter (tI (Pw X H0 ER W) φ it)) (hns : notSet iter = true) (hns1 : notSet iter1 = true) (hix : ∀ i ∈ t.ixs, i ∈ own.map (·.2)) (hv : ∀ i ∈ vs1, i ∈ own.map (·.2)) (hix1 : ∀ i ∈ t1.ixs, i ∈ vs1)
    (hg : ∀ (s : Shared) (H : Hp) (Ca : Addr) (cl : List (Str × Addr)) (fp : List Addr), PG (X.blk s H scope (compEnvC scope cl Ca X.env) fp) tg (gT X.K H0 t))
    (ht : ∀ (s : Shared) (H : Hp) (Ca : Addr) (cl : List (Str × Addr)) (fp : List Addr), PTs (X.blk s H scope (compEnvC scope cl Ca X.env) fp) ifs (tTf (Pw X H0 ER WF) φ fl mc))
    (hi1 : ∀ (s : Shared) (H : Hp) (Ca : Addr) (cl : List (Str × Addr)) (fp : List Addr), PI (X.blk s H scope (compEnvC scope cl Ca X.env) fp) tg1 iter1 (tI (Pw X H0 ER WF) φ it1))
    (hg1 : ∀ (s : Shared) (H : Hp) (Ca : Addr) (cl : List (Str × Addr)) (fp : List Addr), PG (X.blk s H scope (compEnvC scope cl Ca X.env) fp) tg1 (gT X.K H0 t1))
    (ht1 : ∀ (s : Shared) (H : Hp) (Ca : Addr) (cl : List (Str × Addr)) (fp : List Addr), PTs (X.blk s H scope (compEnvC scope cl Ca X.env) fp) ifs1 (tTf (Pw X H0 ER WF) φ fl1 mc1))
    (he : ∀ (s : Shared) (H : Hp) (Ca : Addr) (cl : List (Str × Addr)) (fp : List Addr), PE (X.blk s H scope (compEnvC scope cl Ca X.env) fp) elt (tO (Pw X H0 ER WF) φ me)) :
    PE X (.ListComp elt [⟨tg, iter, ifs, 0⟩, ⟨tg1, iter1, ifs1, 0⟩] scope pos) (tO (Pw X H0 ER W) φ (.lc2 own t it fl mc vs1 t1 it1 fl1 mc1 me)) :=
  PE.weak (pe_lc2 (vs1 := vs1) c.calm (by rw [c.hN]; exact c.nd) hi (blkOk_by (by rw [c.hN, c.hsc]; exact hb)) hv hg ht hi1 hg1 ht1 he (folded hns) (fun _ => folded hns1)) (lc2W hix hv hix1)
end
end TW
end
/-! W17 -/
section
set_option Elab.async false
set_option linter.all false
set_option maxRecDepth 100000
set_option maxHeartbeats 4000000
set_option autoImplicit false
/-! TW, part 17: slices, methods, keyword calls, changes of own lists. -/
namespace TW
open PySem PySem.Spec L2
open PyProof.Rows hiding St
section
variable {K : PySem.W.Frag} {H0 H : Hp} {S : Addr → Prop} {ρ : Loc} {σ : L2.St}
theorem ownD_inv {i : Nat} {d : D} (h : ownD ρ i = some d) : ρ[i]? = some (.ow d) ∨ ρ[i]? = some (.mp d) := by
  unfold ownD at h
  split at h
  · cases h; exact .inl (by assumption)
  · cases h; exact .inr (by assumption)
  · cases h
theorem Rl.ownAt (R : Rl K H0 S ρ σ H) {i : Nat} {d : D} (h : ownD ρ i = some d) : ∃ p, σ[i]? = some (some (V.ref p)) ∧ ¬ S p ∧ Cel K H S p d ∧ Own ρ σ p := by
  rcases ownD_inv h with h | h
  · obtain ⟨p, h1, h2, h3, h4⟩ := R.ow i d h; exact ⟨p, h1, h2, h4, i, d, .inl h, h1⟩
  · obtain ⟨p, h1, h2, h3, h4⟩ := R.mp i d h; exact ⟨p, h1, h2, h4, i, d, .inr h, h1⟩
/-- an own list, changed -/
theorem Rl.chg (R : Rl K H0 S ρ σ H) {i : Nat} {d : D} {l' : List D} {p : Addr} {us vs : List V} (h : ownD ρ i = some d) (hp : σ[i]? = some (some (V.ref p))) (e : H p = some (.lst us)) (r : Reps K H S l' vs) :
    Rl K H0 S (setOwn ρ i (.lst l')) σ (L2.upd H p (.lst vs)) ∧ Stp H0 σ S ρ H S (setOwn ρ i (.lst l')) (L2.upd H p (.lst vs)) := by
  obtain ⟨p', hp', nS, hc, ow⟩ := R.ownAt h
  rw [hp] at hp'; cases hp'
  have nt : ∀ {a ws}, SqT K H a ws → SqT K (L2.upd H p (.lst vs)) a ws := fun {a ws} h => by
    rcases h with h | h
    · have : a ≠ p := fun z => by
        rcases h with h | ⟨o, h⟩ <;> (rw [z, e] at h; cases h)
      rcases h with h | ⟨o, h⟩
      · exact .inl (.inl ((upd_ne this).trans h))
      · exact .inl (.inr ⟨o, (upd_ne this).trans h⟩)
    · exact .inr h
  have kS : ∀ a, S a → L2.upd H p (.lst vs) a = H a := fun a hs => upd_ne (show a ≠ p from fun z => nS (z ▸ hs))
  have rp : ∀ {d v}, Rep K H S d v → Rep K (L2.upd H p (.lst vs)) S d v := fun {d v} h => Rep.mono (fun _ q => q) kS (fun _ _ q => nt q) d v h
  have rps : ∀ {d v}, Reps K H S d v → Reps K (L2.upd H p (.lst vs)) S d v := fun {d v} h => Reps.mono (fun _ q => q) kS (fun _ _ q => nt q) d v h
  have rvs : ∀ {d v}, RepVs K H S d v → RepVs K (L2.upd H p (.lst vs)) S d v := fun {d v} h => RepVs.mono (fun _ q => q) kS (fun _ _ q => nt q) d v h
  have cl : ∀ {q d}, q ≠ p → Cel K H S q d → Cel K (L2.upd H p (.lst vs)) S q d := fun {q d} hq h => by
    cases d with
    | lst l => obtain ⟨ws, h1, h2⟩ := h; exact ⟨ws, (upd_ne hq).trans h1, rps h2⟩
    | dct l =>
      rcases h with ⟨kvs, h1, h2, h3⟩ | ⟨kvs, h1, h2, h3⟩
      · exact .inl ⟨kvs, (upd_ne hq).trans h1, h2, rvs h3⟩
      · exact .inr ⟨kvs, (upd_ne hq).trans h1, h2, rvs h3⟩
    | _ => exact h.elim
  have cn : Cel K (L2.upd H p (.lst vs)) S p (.lst l') := ⟨vs, upd_same, rps r⟩
  have hl : i < ρ.length := by
    rcases ownD_inv h with h | h <;> exact (List.getElem?_eq_some_iff.mp h).1
  have isO : ∃ d, ρ[i]? = some (.ow d) ∨ ρ[i]? = some (.mp d) := ⟨d, ownD_inv h⟩
  -- the slots behind
  have so : ∀ {j sl}, (setOwn ρ i (.lst l'))[j]? = some sl → (j ≠ i ∧ ρ[j]? = some sl) ∨ (j = i ∧ ((∃ d, ρ[i]? = some (.ow d)) ∧ sl = .ow (.lst l') ∨ (∃ d, ρ[i]? = some (.mp d)) ∧ sl = .mp (.lst l'))) := fun {j sl} q => by
    unfold setOwn at q
    rcases ownD_inv h with h | h
    · simp only [h] at q
      by_cases z : j = i
      · subst z
        rw [List.getElem?_set_self hl] at q
        cases q
        exact .inr ⟨rfl, .inl ⟨⟨_, h⟩, rfl⟩⟩
      · rw [List.getElem?_set_ne fun w => z w.symm] at q
        exact .inl ⟨z, q⟩
    · simp only [h] at q
      by_cases z : j = i
      · subst z
        rw [List.getElem?_set_self hl] at q
        cases q
        exact .inr ⟨rfl, .inr ⟨⟨_, h⟩, rfl⟩⟩
      · rw [List.getElem?_set_ne fun w => z w.symm] at q
        exact .inl ⟨z, q⟩
  have back : ∀ {j : Nat}, (∃ d, (setOwn ρ i (.lst l'))[j]? = some (.ow d) ∨ (setOwn ρ i (.lst l'))[j]? = some (.mp d)) → ∃ d, ρ[j]? = some (.ow d) ∨ ρ[j]? = some (.mp d) := fun {j} ⟨d2, q⟩ => by
    rcases q with q | q
    · rcases so q with ⟨_, q⟩ | ⟨z, q⟩
      · exact ⟨d2, .inl q⟩
      · rw [z]; exact isO
    · rcases so q with ⟨_, q⟩ | ⟨z, q⟩
      · exact ⟨d2, .inr q⟩
      · rw [z]; exact isO
  refine ⟨⟨?_, fun j d2 q => ?_, fun j d2 q => ?_, fun j d2 q => ?_, fun j k a h1 h2 h3 h4 => R.one j k a h1 h2 (back h3) (back h4), fun a q => ?_, fun a o h0 n => ?_, fun a q => ?_⟩, ⟨fun _ q => q, fun _ q => .inl q, fun a o q n => ?_, fun a q => ?_, fun a q => ?_⟩⟩
  · rw [← R.len]; unfold setOwn; split <;> simp
  · rcases so q with ⟨z, q⟩ | ⟨z, ⟨_, q⟩ | ⟨_, q⟩⟩
    · obtain ⟨v, h1, h2⟩ := R.sh j d2 q; exact ⟨v, h1, rp h2⟩
    · cases q
    · cases q
  · rcases so q with ⟨z, q⟩ | ⟨z, ⟨⟨d3, q3⟩, q⟩ | ⟨_, q⟩⟩
    · obtain ⟨p2, h1, h2, h3, h4⟩ := R.ow j d2 q
      exact ⟨p2, h1, h2, h3, cl (fun w => z (R.one j i p (by rw [h1, w]) hp ⟨d2, .inl q⟩ isO)) h4⟩
    · cases q
      subst z
      obtain ⟨p2, h1, h2, h3, _⟩ := R.ow j d3 q3
      rw [hp] at h1; cases h1
      exact ⟨p, hp, h2, h3, cn⟩
    · cases q
  · rcases so q with ⟨z, q⟩ | ⟨z, ⟨_, q⟩ | ⟨⟨d3, q3⟩, q⟩⟩
    · obtain ⟨p2, h1, h2, h3, h4⟩ := R.mp j d2 q
      exact ⟨p2, h1, h2, h3, cl (fun w => z (R.one j i p (by rw [h1, w]) hp ⟨d2, .inr q⟩ isO)) h4⟩
    · cases q
    · cases q
      subst z
      obtain ⟨p2, h1, h2, h3, _⟩ := R.mp j d3 q3
      rw [hp] at h1; cases h1
      exact ⟨p, hp, h2, h3, cn⟩
  · rw [kS a q]; exact R.dom a q
  · have hne : a ≠ p := fun z => by
      subst z
      rcases ownD_inv h with h | h
      · obtain ⟨p2, h1, _, h3, _⟩ := R.ow i d h
        rw [hp] at h1; cases h1
        rw [h0] at h3; cases h3
      · refine n i (.lst l') ?_ hp
        unfold setOwn
        simp only [h]
        rw [List.getElem?_set_self hl]
    rw [upd_ne hne]
    refine R.old a o h0 fun j d2 q z => ?_
    have hj : j ≠ i := fun w => by
      rw [w, hp] at z; cases z; exact hne rfl
    refine n j d2 ?_ z
    unfold setOwn
    split
    · rw [List.getElem?_set_ne fun w => hj w.symm]; exact q
    · rw [List.getElem?_set_ne fun w => hj w.symm]; exact q
    · exact q
  · by_cases z : a = p
    · subst z; rw [upd_same]; intro w; cases w
    · rw [upd_ne z]; exact R.ent a q
  · have : a ≠ p := fun z => n (z ▸ ow)
    rw [upd_ne this]; exact q
  · by_cases z : a = p
    · subst z; rw [upd_same]; intro w; cases w
    · rw [upd_ne z]; exact q
  · obtain ⟨j, d2, q1, q2⟩ := q
    obtain ⟨d3, q3⟩ := back ⟨d2, q1⟩
    exact ⟨j, d3, q3, q2⟩
end
section
variable {C : Ck} {φ : Fns} {ER : Exn → Value → Option Addr → Hp → Prop} {n : Nat} {X : Cx} {N : List Str} {sc scope : Scope} {st : Str → Bool} {W : WX} {H0 : Hp}
/-- slices of lists and texts -/
def rSl (K : PySem.W.Frag) : V → Option Int → Option Int → Hp → VK → Prop := fun x lo hi H Q => ∃ S d o, (∀ a, S a → H a ≠ none) ∧ Sha K H S d x ∧ slD d lo hi = some o ∧ PoO K H S o Q
theorem slR : SlR X (rSl X.K) := by
  intro pins s σ H x v vl vu lo hi sl Q I rx hs pl pu ⟨S, d, o, hd, sx, e, po⟩
  cases d with
  | lst l =>
    cases e
    obtain ⟨a, vs, rfl, h1, h2⟩ := (show ∃ a vs, x = .ref a ∧ SqL X.K H a vs ∧ Reps X.K H S l vs from sx)
    have hl := h2.length
    refine sl_list pins s σ H _ v vl vu lo hi sl Q I rx hs pl pu ⟨a, vs, rfl, h1, fun p hp => po.lst hd ?_ hp⟩
    unfold cutL cutV
    rw [hl]
    exact (h2.drop _).take _
  | str z =>
    cases (show x = .str z from sx)
    have e' : (if z.length ≤ sizeLine then some (Opd.v (.str (cutS z lo hi))) else none) = some o := e
    split at e'
    · rename_i hz
      cases e'
      exact sl_str pins s σ H _ v vl vu lo hi sl Q I rx hs pl pu ⟨z, rfl, hz, po.val rfl⟩
    · cases e'
  | _ => cases e
end
end TW
end
/-! W18 -/
section
set_option Elab.async false
set_option linter.all false
set_option maxRecDepth 100000
set_option maxHeartbeats 4000000
set_option autoImplicit false
/-! TW, part 18: slices, methods, keyword calls, pops: run. -/
namespace TW
open PySem PySem.Spec L2
open PyProof.Rows hiding St
section
variable {C : Ck} {φ : Fns} {ER : Exn → Value → Option Addr → Hp → Prop} {n : Nat} {X : Cx} {N : List Str} {sc scope : Scope} {st : Str → Bool} {W : WX} {H0 : Hp}
theorem PO.weak {e : Option Expr} {t t' : TO} (h : PO X e t) (k : ∀ σ H Q, t' σ H Q → t σ H Q) : PO X e t' := ⟨fun pins s σ H Q I q => h.run pins s σ H Q I (k σ H Q q)⟩
abbrev rPt : RlT (Option Int) (Option Int) := fun _ _ _ _ v t => v = t
theorem anti_pt : Anti rPt := fun _ _ _ _ _ _ _ _ h => h
/-- a slice's part -/
def evPt (φ : Fns) (b : Bool) (m : Ex) (ρ : Loc) : Res (Option Int) := if b then (evO φ m ρ).bd fun y ρ' => .of ((y.get ρ').bind ptD) ρ' else .ok none ρ
abbrev tPt (P : Pm) (φ : Fns) (b : Bool) (m : Ex) : TO := tR P (fun _ => rPt) (evPt φ b m)
theorem ptNone {P : Pm} {m : Ex} : PO X none (tPt P φ false m) := PO.weak po_none fun σ H Q ⟨S, ρ, R, h⟩ => by
  have h : Aft P σ rPt S ρ H (.ok none ρ) Q := h
  exact h none H S R Stp.refl rfl
theorem ptSome {m : Ex} {e : Expr} (he : PE X e (tO (Pw X H0 ER W) φ m)) : PO X (some e) (tPt (Pw X H0 ER W) φ true m) := PO.weak (po_some he) fun σ H Q ⟨S, ρ, R, h⟩ => by
  have h : Aft (Pw X H0 ER W) σ rPt S ρ H ((evO φ m ρ).bd fun y ρ' => .of ((y.get ρ').bind ptD) ρ') Q := h
  refine ⟨S, ρ, R, (Aft.bd anti_opd Stp.refl h).mono fun v H1 ⟨S1, ρ1, x, R1, st1, _, o1, h1⟩ => ?_⟩
  cases e1 : x.get ρ1 with
  | none => rw [e1] at h1; exact h1.elim
  | some d =>
    rw [e1] at h1
    cases d with
    | int i =>
      cases (show v = .int i from o1.sha R1 e1)
      exact ⟨i, rfl, h1 (some i) H1 S1 R1 st1 rfl⟩
    | _ => exact h1.elim
theorem slPE {a lo hi : Ex} {bl bh : Bool} {e : Expr} {elo ehi : Option Expr} {p p2 : Pos} (he : PE X e (tO (Pw X H0 ER W) φ a)) (hl : PO X elo (tPt (Pw X H0 ER W) φ bl lo)) (hh : PO X ehi (tPt (Pw X H0 ER W) φ bh hi)) :
    PE X (.Subscript e (.Slice elo ehi none p2) p) (tO (Pw X H0 ER W) φ (.sl a bl lo bh hi)) := by
  refine PE.weak (pe_slice slR he hl hh) fun σ H Q ⟨S, ρ, R, h⟩ => ?_
  rw [evO] at h
  refine ⟨S, ρ, R, (Aft.bd anti_opd Stp.refl h).mono fun v H1 ⟨S1, ρ1, x, R1, st1, _, o1, h1⟩ => ?_⟩
  refine ⟨S1, ρ1, R1, (Aft.bd (R1 := rPt) anti_pt st1 h1).mono fun l H2 ⟨S2, ρ2, l', R2, st2, s12, e2, h2⟩ => ?_⟩
  refine ⟨S2, ρ2, R2, (Aft.bd (R1 := rPt) anti_pt st2 h2).mono fun u H3 ⟨S3, ρ3, u', R3, st3, s23, e3, h3⟩ => ?_⟩
  cases (show l = l' from e2)
  cases (show u = u' from e3)
  cases e4 : x.get ρ3 with
  | none => rw [e4] at h3; exact h3.elim
  | some d =>
    rw [e4] at h3
    have h3 : Aft (Pw X H0 ER W) σ (OpdRep X.K H0 σ) S ρ H (Res.of (slD d l u) ρ3) Q := h3
    cases e5 : slD d l u with
    | none => rw [e5] at h3; exact h3.elim
    | some o =>
      rw [e5] at h3
      exact ⟨S3, d, o, R3.dom, ((o1.step R1 s12).step R2 s23).sha R3 e4, e5, Aft.op R3 st3 h3⟩
theorem revPE {a : Ex} {e : Expr} {k : Nat} {p1 p2 p3 pos : Pos} (he : PE X e (tO (Pw X H0 ER W) φ a)) : PE X (.Subscript e (.Slice none none (some (.UnaryOp .USub (.Constant (.int 1) k p1) p2)) p3) pos) (tO (Pw X H0 ER W) φ (.rev a)) := by
  refine PE.weak (pe_revL he) fun σ H Q ⟨S, ρ, R, h⟩ => ?_
  rw [evO] at h
  refine ⟨S, ρ, R, (Aft.bd anti_opd Stp.refl h).mono fun v H1 ⟨S1, ρ1, x, R1, st1, _, o1, h1⟩ => ?_⟩
  cases e1 : x.get ρ1 with
  | none => rw [e1] at h1; exact h1.elim
  | some d =>
    rw [e1] at h1
    cases d with
    | lst l =>
      obtain ⟨a, vs, rfl, k1, k2⟩ := (show ∃ a vs, v = .ref a ∧ SqL X.K H1 a vs ∧ Reps X.K H1 S1 l vs from o1.sha R1 e1)
      exact ⟨a, vs, rfl, k1, fun p hp => (Aft.op (o := .f (.lst l.reverse)) R1 st1 h1).lst R1.dom k2.reverse hp⟩
    | _ => exact h1.elim
theorem negPE {a : Ex} {e : Expr} {pos : Pos} (he : PE X e (tO (Pw X H0 ER W) φ a)) : PE X (.UnaryOp .USub e pos) (tO (Pw X H0 ER W) φ (.neg a)) := by
  refine PE.weak (pe_un un_neg he) fun σ H Q ⟨S, ρ, R, h⟩ => ?_
  rw [evO] at h
  refine ⟨S, ρ, R, (Aft.bd anti_opd Stp.refl h).mono fun v H1 ⟨S1, ρ1, x, R1, st1, _, o1, h1⟩ => ?_⟩
  cases e1 : x.get ρ1 with
  | none => rw [e1] at h1; exact h1.elim
  | some d =>
    rw [e1] at h1
    cases d with
    | int i =>
      cases (show v = .int i from o1.sha R1 e1)
      exact ⟨i, rfl, h1 (.int (-i)) H1 S1 R1 st1 rfl⟩
    | _ => exact h1.elim
/-- list(range(..)) -/
theorem rg_reps {K : PySem.W.Frag} {H : Hp} {S : Addr → Prop} (i j : Int) : Reps K H S (rngD i (j - i).toNat 1) (rgV i j) := by
  unfold rngD rgV
  generalize List.range (j - i).toNat = l
  induction l with
  | nil => exact Reps.nil
  | cons m l ih => exact Reps.cons (by show V.int _ = V.int _; rw [Int.mul_one]) ih
theorem evO_lr0 (φ : Fns) (b : Ex) (ρ : Loc) : evO φ (.lrange (.int 0) b) ρ = (evO φ b ρ).bd fun x ρ1 => match x.get ρ1 with
    | some d => .of (lrD (.int 0) d) ρ1
    | none => .no := by
  rw [evO, evO]
  show ((evO φ b ρ).bd fun y ρ2 => _) = _
  cases evO φ b ρ with
  | ok x ρ1 =>
    show (match some (D.int 0), x.get ρ1 with
      | some d, some e => Res.of (lrD d e) ρ1
      | _, _ => .no) = _
    show _ = (match x.get ρ1 with
      | some d => Res.of (lrD (.int 0) d) ρ1
      | none => .no)
    cases x.get ρ1 <;> rfl
  | ex x ρ1 => rfl
  | no => rfl
theorem lr1PE (c : Cn C φ ER n X N sc st W) {b : Ex} {e : Expr} {p q p2 pos : Pos} (h1 : bltB sc "list" "list" = true) (h2 : bltB sc "range" "range" = true) (he : PE X e (tO (Pw X H0 ER W) φ b)) (hp : plainE e = true) :
    PE X (.Call (.Name "list" p) [.Call (.Name "range" q) [e] [] p2] [] pos) (tO (Pw X H0 ER W) φ (.lrange (.int 0) b)) := by
  obtain ⟨_, g1, g2, g3, g4⟩ := c.bl h1
  obtain ⟨_, k1, k2, k3, k4⟩ := c.bl h2
  refine PE.weak (pe_listRg c.calm g1 g3 (prg_1 k1 k3 he (star_cons hp)) rfl) fun σ H Q ⟨S, ρ, R, h⟩ => ?_
  rw [evO_lr0] at h
  refine ⟨S, ρ, R, (Aft.bd anti_opd Stp.refl h).mono fun v H1 ⟨S1, ρ1, x, R1, st1, _, o1, h1⟩ => ?_⟩
  cases e1 : x.get ρ1 with
  | none => rw [e1] at h1; exact h1.elim
  | some d =>
    rw [e1] at h1
    replace h1 : Aft (Pw X H0 ER W) σ (OpdRep X.K H0 σ) S ρ H (Res.of (lrD (.int 0) d) ρ1) Q := h1
    unfold lrD at h1
    split at h1
    · rename_i i j ei
      cases ei
      cases (show v = .int j from o1.sha R1 e1)
      split at h1
      · rename_i hz
        simp only [okI_eq] at hz
        simp only [Bool.and_eq_true, decide_eq_true_eq] at hz
        exact ⟨j, rfl, ⟨Int.le_of_lt hz.1.1.1, hz.1.1.2, Int.le_of_lt hz.1.2.1, hz.1.2.2, hz.2⟩, fun p hp => (Aft.op R1 st1 h1).lst R1.dom (rg_reps 0 j) hp⟩
      · exact h1.elim
    · exact h1.elim
theorem lr2PE (c : Cn C φ ER n X N sc st W) {a b : Ex} {ea e : Expr} {p q p2 pos : Pos} (h1 : bltB sc "list" "list" = true) (h2 : bltB sc "range" "range" = true) (ha : PE X ea (tO (Pw X H0 ER W) φ a)) (he : PE X e (tO (Pw X H0 ER W) φ b)) (hq : plainE ea = true) (hp : plainE e = true) :
    PE X (.Call (.Name "list" p) [.Call (.Name "range" q) [ea, e] [] p2] [] pos) (tO (Pw X H0 ER W) φ (.lrange a b)) := by
  obtain ⟨_, g1, g2, g3, g4⟩ := c.bl h1
  obtain ⟨_, k1, k2, k3, k4⟩ := c.bl h2
  refine PE.weak (pe_listRg c.calm g1 g3 (prg_2 k1 k3 ha he (star_cons hq) (star_cons hp) (star_none (es := [e]) (by simp [hp]))) rfl) fun σ H Q ⟨S, ρ, R, h⟩ => ?_
  rw [evO] at h
  refine ⟨S, ρ, R, (Aft.bd anti_opd Stp.refl h).mono fun v0 H0' ⟨S0, ρ0, x0, R0, st0, _, o0, h0⟩ => ?_⟩
  refine ⟨S0, ρ0, R0, (Aft.bd anti_opd st0 h0).mono fun v H1 ⟨S1, ρ1, x, R1, st1, s01, o1, h1⟩ => ?_⟩
  have o0' := o0.step R0 s01
  cases e0 : x0.get ρ1 with
  | none => rw [e0] at h1; exact h1.elim
  | some d0 =>
    cases e1 : x.get ρ1 with
    | none => rw [e0, e1] at h1; exact h1.elim
    | some d =>
      rw [e0, e1] at h1
      replace h1 : Aft (Pw X H0 ER W) σ (OpdRep X.K H0 σ) S ρ H (Res.of (lrD d0 d) ρ1) Q := h1
      unfold lrD at h1
      split at h1
      · rename_i i j
        cases (show v0 = .int i from o0'.sha R1 e0)
        cases (show v = .int j from o1.sha R1 e1)
        split at h1
        · rename_i hz
          simp only [okI_eq] at hz
          simp only [Bool.and_eq_true, decide_eq_true_eq] at hz
          exact ⟨i, j, rfl, rfl, ⟨Int.le_of_lt hz.1.1.1, hz.1.1.2, Int.le_of_lt hz.1.2.1, hz.1.2.2, hz.2⟩, fun p hp => (Aft.op R1 st1 h1).lst R1.dom (rg_reps i j) hp⟩
        · exact h1.elim
      · exact h1.elim
/-- methods that change nothing -/
def rMt (K : PySem.W.Frag) (m : MI) : V → List V → Hp → VK → Prop := fun x vs H Q => ∃ S d ds o, (∀ a, S a → H a ≠ none) ∧ Sha K H S d x ∧ Shas K H S ds vs ∧ mtD m d ds = some o ∧ PoO K H S o Q
theorem joinR : MtR X "str.join" (rMt X.K .join) := by
  intro pins s σ H x xs v us Q I rx rs ⟨S, d, ds, o, hd, sx, ss, e, po⟩
  unfold mtD at e
  split at e <;> try contradiction
  rename_i s0 l _
  obtain ⟨y, rfl, sy⟩ := ss.one
  cases (show x = .str s0 from sx)
  cases e1 : strsD l with
  | none => rw [e1] at e; cases e
  | some ys =>
    rw [e1] at e
    have e : (if (ys.map (·.length)).sum + ys.length * s0.length ≤ 16777216 then some (Opd.v (.str (Txt.join s0 ys))) else none) = some o := e
    split at e
    · rename_i hz
      cases e
      cases strsD_eq e1
      obtain ⟨p, vs, rfl, k1, k2⟩ := (show ∃ a vs, y = .ref a ∧ SqL X.K H a vs ∧ Reps X.K H S (ys.map .str) vs from sy)
      cases k2.strs_inv
      exact mt_join pins s σ H _ _ v us Q I rx rs ⟨s0, p, ys, rfl, rfl, .inl k1, hz, po.val rfl⟩
    · cases e
theorem splitR : MtR X "str.split" (rMt X.K .split) := by
  intro pins s σ H x xs v us Q I rx rs ⟨S, d, ds, o, hd, sx, ss, e, po⟩
  unfold mtD at e
  split at e <;> try contradiction
  rename_i s0 t _
  obtain ⟨y, rfl, sy⟩ := ss.one
  cases (show x = .str s0 from sx)
  cases (show y = .str t from sy)
  split at e
  · rename_i hz
    simp only [Bool.and_eq_true, decide_eq_true_eq] at hz
    cases e
    refine mt_split pins s σ H _ _ v us Q I rx rs ⟨s0, t, rfl, rfl, by rw [hz.1] <;> rfl, hz.2, ?_⟩
    intro p hp
    exact po.lst hd (Reps.strs _) hp
  · cases e
theorem evO_mth (φ : Fns) (m : MI) (o : Ex) (args : Es) (ρ : Loc) : evO φ (.mth m o args) ρ = (evO φ o ρ).bd fun x ρ1 => match x.get ρ1 with
    | some (.str s) => (evAs φ args ρ1).bd fun os ρ2 => match getAll ρ2 os with
      | some ds => .of (mtD m (.str s) ds) ρ2
      | none => .no
    | _ => .no := by rw [evO] <;> rfl
/-- no call of super(): what a method may be asked of -/
def objOk : Expr → Bool
  | .Call .. => false
  | _ => true
theorem objBase {o : Expr} {nm : Str} {env : PySem.Env} (h : objOk o = true) : attributeBase o nm env (eval o env) = eval o env := by
  cases o <;> first | rfl | cases h
theorem fewOne {e : Expr} {env : PySem.Env} {pos : Pos} (hp : plainE e = true) : ((backTo pos (starEach [e] env)).all (fun x => !x.1) && (backToKw pos (keywordEach [] env)).all (fun x => x.1.isSome)
      && decide (([e] : List Expr).length + ([] : List Keyword).length + (if ([] : List Keyword).isEmpty then 0 else 1) < 30)) = true := by
  rw [star_cons hp] <;> rfl
def mtName : MI → Option Str
  | .join => some "join"
  | .split => some "split"
  | _ => none
theorem mthPE {m : MI} {o : Ex} {args : Es} {eo e : Expr} {nm : Str} {ap pos : Pos} (hm : mtName m = some nm) (ho : PE X eo (tO (Pw X H0 ER W) φ o)) (hob : objOk eo = true) (hp : plainE e = true) (hl : (ap.endLine == pos.line) = true)
    (ha : PA X [e] (tAs (Pw X H0 ER W) φ args)) : PE X (.Call (.Attribute eo nm ap) [e] [] pos) (tO (Pw X H0 ER W) φ (.mth m o args)) := by
  have key : ∀ r : V → List V → Hp → VK → Prop, (∀ x vs H Q, rMt X.K m x vs H Q → r x vs H Q) → ∀ σ H Q, tO (Pw X H0 ER W) φ (.mth m o args) σ H Q → tBM X.K "str" r (tO (Pw X H0 ER W) φ o) (tAs (Pw X H0 ER W) φ args) σ H Q := by
    intro r hr σ H Q ⟨S, ρ, R, h⟩
    rw [evO_mth] at h
    refine ⟨S, ρ, R, (Aft.bd anti_opd Stp.refl h).mono fun v H1 ⟨S1, ρ1, x, R1, st1, _, o1, h1⟩ => ?_⟩
    split at h1
    · rename_i s e1
      cases (show v = .str s from o1.sha R1 e1)
      refine ⟨rfl, S1, ρ1, R1, (Aft.bd anti_opds st1 h1).mono fun vs H2 ⟨S2, ρ2, os, R2, st2, _, o2, h2⟩ => ?_⟩
      cases e2 : getAll ρ2 os with
      | none => rw [e2] at h2; exact h2.elim
      | some ds =>
        rw [e2] at h2
        replace h2 : Aft (Pw X H0 ER W) σ (OpdRep X.K H0 σ) S ρ H (Res.of (mtD m (.str s) ds) ρ2) Q := h2
        cases e3 : mtD m (.str s) ds with
        | none => rw [e3] at h2; exact h2.elim
        | some o =>
          rw [e3] at h2
          exact hr _ _ _ _ ⟨S2, .str s, ds, o, R2.dom, rfl, o2.shas R2 e2, e3, Aft.op R2 st2 h2⟩
    · exact h1.elim
  cases m <;> first | cases hm | skip
  · exact PE.weak (pe_bm F.plainAttrs_str F.slot_str_join F.type_str_join joinR ho ha (objBase hob) (fewOne hp) hl (star_cons hp) rfl) (key _ fun _ _ _ _ q => q)
  · exact PE.weak (pe_bm F.plainAttrs_str F.slot_str_split F.type_str_split splitR ho ha (objBase hob) (fewOne hp) hl (star_cons hp) rfl) (key _ fun _ _ _ _ q => q)
/-- pops from an own list -/
theorem getLast_at {α : Type} {l : List α} {x : α} (h : l.getLast? = some x) : l[l.length - 1]? = some x := by
  rw [← List.getLast?_eq_getElem?]; exact h
theorem Reps.dropLast {K : PySem.W.Frag} {H : Hp} {S : Addr → Prop} {ds : List D} {vs : List V} (h : Reps K H S ds vs) : Reps K H S ds.dropLast vs.dropLast := by
  rw [List.dropLast_eq_take, List.dropLast_eq_take, h.length]
  exact h.take _
theorem Reps.eraseIdx {K : PySem.W.Frag} {H : Hp} {S : Addr → Prop} : ∀ {ds : List D} {vs : List V} (i : Nat), Reps K H S ds vs → Reps K H S (ds.eraseIdx i) (vs.eraseIdx i)
  | [], _, _, h => by rw [show _ = [] from h]; exact (show ([] : List V) = [] from rfl)
  | d :: ds, _, 0, h => by
    obtain ⟨v, r, rfl, h1, h2⟩ := h
    exact h2
  | d :: ds, _, i + 1, h => by
    obtain ⟨v, r, rfl, h1, h2⟩ := h
    exact ⟨v, r.eraseIdx i, rfl, h1, Reps.eraseIdx i h2⟩
theorem ownL_inv {ρ : Loc} {i : Nat} (h : ownL ρ i = true) : ∃ l, ownD ρ i = some (.lst l) := by
  unfold ownL at h
  split at h
  · exact ⟨_, by assumption⟩
  · cases h
theorem pop_ok {K : PySem.W.Frag} {H0 H : Hp} {S : Addr → Prop} {ρ : Loc} {σ : L2.St} {i : Nat} {d x d' : D} {p : Addr} {ds : List D} {vs : List V} {Q : VK} (R : Rl K H0 S ρ σ H) (hd : ownD ρ i = some d) (hp : σ[i]? = some (some (V.ref p))) (sv : Shas K H S ds vs) (e : popD d ds = some (x, d'))
    (k : ∀ v H', Rl K H0 S (setOwn ρ i d') σ H' → Stp H0 σ S ρ H S (setOwn ρ i d') H' → Rep K H' S x v → Q v H') : rPop (.ref p) vs H Q ∨ rPopAt (.ref p) vs H Q := by
  obtain ⟨p', hp', nS, hc, ow⟩ := R.ownAt hd
  rw [hp] at hp'; cases hp'
  unfold popD at e
  split at e
  · rename_i l
    obtain ⟨us, h1, h2⟩ := hc
    cases e1 : l.getLast? with
    | none => rw [e1] at e; cases e
    | some y =>
      rw [e1] at e; cases e
      cases (show vs = [] from sv)
      left
      obtain ⟨v, k1, k2⟩ := h2.get (getLast_at e1)
      obtain ⟨R', st'⟩ := R.chg hd hp h1 h2.dropLast
      refine ⟨p, us, v, rfl, rfl, h1, by rw [h2.length]; exact k1, k v _ R' st' ?_⟩
      exact st'.rep R k2
  · rename_i l z
    obtain ⟨us, h1, h2⟩ := hc
    obtain ⟨w, rfl, sw⟩ := sv.one
    cases (show w = .int z from sw)
    split at e
    · rename_i hz
      simp only [okI_eq] at hz
      simp only [Bool.and_eq_true, decide_eq_true_eq] at hz
      cases e1 : ixN l.length z with
      | none => simp only [e1] at e; cases e
      | some j =>
        simp only [e1] at e
        cases e2 : l[j]? with
        | none => rw [e2] at e; cases e
        | some y =>
          rw [e2] at e; cases e
          right
          obtain ⟨v, k1, k2⟩ := h2.get e2
          obtain ⟨R', st'⟩ := R.chg hd hp h1 (h2.eraseIdx j)
          obtain ⟨q1, q2, q3, q4⟩ := ixN_seq e1
          exact ⟨p, us, z, j, v, rfl, rfl, h1, by omega, by omega, by rw [h2.length]; exact q1, k1, k v _ R' st' (st'.rep R k2)⟩
    · cases e
  · cases e
theorem evO_pop (φ : Fns) (i : Nat) (args : Es) (ρ : Loc) : evO φ (.pop i args) ρ = if ownL ρ i then (evAs φ args ρ).bd fun os ρ1 => match getAll ρ1 os, ownD ρ1 i with
    | some ds, some d => match popD d ds with
      | some (x, d') => .ok (.v x) (setOwn ρ1 i d')
      | none => .no
    | _, _ => .no else .no := by rw [evO] <;> rfl
theorem popW {i : Nat} {args : Es} {P : Pm} (σ : L2.St) (H : Hp) (Q : VK) (h : tO P φ (.pop i args) σ H Q) : ∃ p, σ[i]? = some (some (V.ref p)) ∧ tyV P.K "list" (.ref p) H ∧ tAs P φ args σ H fun vs H1 => rPop (.ref p) vs H1 Q ∨ rPopAt (.ref p) vs H1 Q := by
  obtain ⟨S, ρ, R, h⟩ := h
  rw [evO_pop] at h
  split at h
  · rename_i ho
    obtain ⟨l, hl⟩ := ownL_inv ho
    obtain ⟨p, hp, _, hc, ow⟩ := R.ownAt hl
    obtain ⟨us, h1, h2⟩ := hc
    refine ⟨p, hp, .inl ⟨rfl, us, SqL.of h1⟩, S, ρ, R, (Aft.bd anti_opds Stp.refl h).mono fun vs H1 ⟨S1, ρ1, os, R1, st1, _, o1, h1⟩ => ?_⟩
    cases e1 : getAll ρ1 os with
    | none => rw [e1] at h1; exact h1.elim
    | some ds =>
      cases e2 : ownD ρ1 i with
      | none => rw [e1, e2] at h1; exact h1.elim
      | some d =>
        rw [e1, e2] at h1
        replace h1 : Aft P σ (OpdRep P.K P.H0 σ) S ρ H (match popD d ds with
          | some (x, d') => .ok (.v x) (setOwn ρ1 i d')
          | none => .no) Q := h1
        cases e3 : popD d ds with
        | none => rw [e3] at h1; exact h1.elim
        | some xd =>
          obtain ⟨x, d'⟩ := xd
          rw [e3] at h1
          exact pop_ok R1 e2 hp (o1.shas R1 e1) e3 fun v H' R' st' r' => h1 v H' S1 R' (st1.trans st') r'
  · exact h.elim
theorem popNm (c : Cn C φ ER n X N sc st W) {i : Nat} {x : Str} {px : Pos} (h : varB N sc i x = true) : PE X (.Name x px) (tVar i) := by
  obtain ⟨h1, h2⟩ := Bool.and_eq_true_iff.mp h
  obtain ⟨h3, h4⟩ := Bool.and_eq_true_iff.mp h2
  obtain ⟨h5, h6⟩ := Bool.and_eq_true_iff.mp h4
  have hv : Vis X.env.scope x := by
    rw [c.hsc]
    split at h6
    · exact .inl (by assumption)
    · exact .inr (.inl (by assumption))
    · exact .inr (.inr (by assumption))
    · cases h6
  exact pe_var (by rw [c.hN]; exact of_decide_eq_true h1) hv (by simpa using h3) (by simpa using h5)
theorem pop0PE (c : Cn C φ ER n X N sc st W) {i : Nat} {x : Str} {px ap pos : Pos} (h : varB N sc i x = true) (hl : (ap.endLine == pos.line) = true) : PE X (.Call (.Attribute (.Name x px) "pop" ap) [] [] pos) (tO (Pw X H0 ER W) φ (.pop i .nil)) := by
  refine PE.weak (pe_bm0 F.plainAttrs_list F.slot_list_pop F.type_list_pop (MtR.or mt_pop mt_popAt) (popNm c h) rfl hl) fun σ H Q q => ?_
  obtain ⟨p, hp, ty, S, ρ, R, q⟩ := popW σ H Q q
  rw [evAs] at q
  exact ⟨.ref p, hp, ty, q [] H S R Stp.refl rfl⟩
theorem pop1PE (c : Cn C φ ER n X N sc st W) {i : Nat} {args : Es} {e : Expr} {x : Str} {px ap pos : Pos} (h : varB N sc i x = true) (hl : (ap.endLine == pos.line) = true) (hp : plainE e = true) (ha : PA X [e] (tAs (Pw X H0 ER W) φ args)) :
    PE X (.Call (.Attribute (.Name x px) "pop" ap) [e] [] pos) (tO (Pw X H0 ER W) φ (.pop i args)) := by
  refine PE.weak (pe_bm F.plainAttrs_list F.slot_list_pop F.type_list_pop (MtR.or mt_pop mt_popAt) (popNm c h) ha rfl (fewOne hp) hl (star_cons hp) rfl) fun σ H Q q => ?_
  obtain ⟨p, hp, ty, q⟩ := popW σ H Q q
  exact ⟨.ref p, hp, ty, q⟩
/-- chains of two comparisons -/
theorem evO_cmp2 (φ : Fns) (o o' : CmpOp) (a b c : Ex) (ρ : Loc) : evO φ (.cmp2 o o' a b c) ρ = (evO φ a ρ).bd fun x ρ1 => (evO φ b ρ1).bd fun y ρ2 => match x.get ρ2, y.get ρ2 with
    | some d, some e => match cmpD o d e with
      | some true => (evO φ c ρ2).bd fun z ρ3 => match y.get ρ3, z.get ρ3 with
        | some e, some f => .of ((cmpD o' e f).map fun t => .v (.bl t)) ρ3
        | _, _ => .no
      | some false => .ok (.v (.bl false)) ρ2
      | none => .no
    | _, _ => .no := by rw [evO] <;> rfl
theorem cmp2W {o o' : CmpOp} {a b c : Ex} {P : Pm} (σ : L2.St) (H : Hp) (Q : VK) (h : tO P φ (.cmp2 o o' a b c) σ H Q) : tChain (rCmp P.K (cmpD o)) (rCmp P.K (cmpD o')) (tO P φ a) (tO P φ b) (tO P φ c) σ H Q := by
  obtain ⟨S, ρ, R, h⟩ := h
  rw [evO_cmp2] at h
  refine ⟨S, ρ, R, (Aft.bd anti_opd Stp.refl h).mono fun v H1 ⟨S1, ρ1, x, R1, st1, _, o1, h1⟩ => ?_⟩
  refine ⟨S1, ρ1, R1, (Aft.bd anti_opd st1 h1).mono fun u H2 ⟨S2, ρ2, y, R2, st2, s12, o2, h2⟩ => ?_⟩
  cases e1 : x.get ρ2 with
  | none => rw [e1] at h2; exact h2.elim
  | some d =>
    cases e2 : y.get ρ2 with
    | none => rw [e1, e2] at h2; exact h2.elim
    | some e =>
      rw [e1, e2] at h2
      replace h2 : Aft P σ (OpdRep P.K P.H0 σ) S ρ H (match cmpD o d e with
        | some true => (evO φ c ρ2).bd fun z ρ3 => match y.get ρ3, z.get ρ3 with
          | some e, some f => .of ((cmpD o' e f).map fun t => .v (.bl t)) ρ3
          | _, _ => .no
        | some false => .ok (.v (.bl false)) ρ2
        | none => .no) Q := h2
      cases e3 : cmpD o d e with
      | none => rw [e3] at h2; exact h2.elim
      | some t =>
        rw [e3] at h2
        refine ⟨S2, d, e, t, R2.dom, (o1.step R1 s12).sha R2 e1, o2.sha R2 e2, e3, t, rfl, ?_⟩
        cases t with
        | false =>
          rw [if_neg Bool.false_ne_true]
          exact h2 (.bl false) H2 S2 R2 st2 rfl
        | true =>
          rw [if_pos rfl]
          refine ⟨S2, ρ2, R2, (Aft.bd anti_opd st2 h2).mono fun w H3 ⟨S3, ρ3, z, R3, st3, s23, o3, h3⟩ => ?_⟩
          cases e4 : y.get ρ3 with
          | none => rw [e4] at h3; exact h3.elim
          | some e' =>
            cases e5 : z.get ρ3 with
            | none => rw [e4, e5] at h3; exact h3.elim
            | some f =>
              rw [e4, e5] at h3
              replace h3 : Aft P σ (OpdRep P.K P.H0 σ) S ρ H (Res.of ((cmpD o' e' f).map fun t => .v (.bl t)) ρ3) Q := h3
              cases e6 : cmpD o' e' f with
              | none => rw [e6] at h3; exact h3.elim
              | some t =>
                rw [e6] at h3
                exact ⟨S3, e', f, t, R3.dom, (o2.step R2 s23).sha R3 e4, o3.sha R3 e5, e6, h3 (.bl t) H3 S3 R3 st3 rfl⟩
/-! ### keyword calls -/
theorem evO_callK (φ : Fns) (f : Nat) (args : Es) (perm : List Nat) (ρ : Loc) : evO φ (.call f args perm) ρ = (evAs φ args ρ).bd fun os ρ1 => callD (φ f) (pmut perm os) ρ1 := by rw [evO]
theorem OpdReps.at {K : PySem.W.Frag} {H0 H Hb : Hp} {S : Addr → Prop} {ρ : Loc} {σ : L2.St} : ∀ {os : List Opd} {vs : List V} (j : Nat), OpdReps K H0 σ Hb S ρ H vs os → (os[j]? = none ∧ vs[j]? = none) ∨ ∃ o v, os[j]? = some o ∧ vs[j]? = some v ∧ OpdRep K H0 σ Hb S ρ H v o
  | [], _, j, h => by rw [show _ = [] from h]; simp
  | o :: os, _, 0, h => by
    obtain ⟨v, r, rfl, h1, h2⟩ := h
    exact .inr ⟨o, v, rfl, rfl, h1⟩
  | o :: os, _, j + 1, h => by
    obtain ⟨v, r, rfl, h1, h2⟩ := h
    have := OpdReps.at j h2
    simpa using this
theorem OpdReps.perm {K : PySem.W.Frag} {H0 H Hb : Hp} {S : Addr → Prop} {ρ : Loc} {σ : L2.St} {os : List Opd} {vs : List V} (h : OpdReps K H0 σ Hb S ρ H vs os) : ∀ (perm : List Nat), OpdReps K H0 σ Hb S ρ H (perm.filterMap fun j => vs[j]?) (perm.filterMap fun j => os[j]?)
  | [] => (show ([] : List V) = [] from rfl)
  | j :: p => by
    rw [List.filterMap_cons, List.filterMap_cons]
    rcases h.at j with ⟨h1, h2⟩ | ⟨o, v, h1, h2, h3⟩
    · rw [h1, h2]; exact OpdReps.perm h p
    · rw [h1, h2]; exact ⟨v, _, rfl, h3, OpdReps.perm h p⟩
theorem vals_perm {vs : List V} {us : List Value} (h : Vals vs us) : ∀ (perm : List Nat), Vals (perm.filterMap fun j => vs[j]?) (perm.filterMap fun j => us[j]?)
  | [] => .nil
  | j :: p => by
    rw [List.filterMap_cons, List.filterMap_cons]
    cases e : vs[j]? with
    | some x =>
      obtain ⟨u, h1, h2⟩ := h.get e
      rw [h1]; exact .cons h2 (vals_perm h p)
    | none =>
      have : us[j]? = none := by
        rw [List.getElem?_eq_none_iff] at e ⊢
        rw [← h.length]; exact e
      rw [this]; exact vals_perm h p
end
end TW
end
/-! W19 -/
section
set_option Elab.async false
set_option linter.all false
set_option maxRecDepth 100000
set_option maxHeartbeats 4000000
set_option autoImplicit false
/-! TW, part 19: keyword calls run; the check of expressions; all expressions. -/
namespace TW
open PySem PySem.Spec L2
open PyProof.Rows hiding St
def Es.len : Es → Nat
  | .nil => 0
  | .cons _ _ r => r.len + 1
theorem evAs_len {φ : Fns} : ∀ {args : Es} {ρ ρ' : Loc} {os : List Opd}, evAs φ args ρ = .ok os ρ' → os.length = args.len
  | .nil, ρ, ρ', os, h => by rw [evAs] at h; cases h; rfl
  | .cons b e r, ρ, ρ', os, h => by
    rw [evAs] at h
    cases e1 : evO φ e ρ with
    | ok x ρ1 =>
      rw [e1] at h
      cases e2 : evAs φ r ρ1 with
      | ok ys ρ2 =>
        simp only [Res.bd, e2] at h
        cases h
        simp [evAs_len e2, Es.len]
      | ex x ρ2 => simp only [Res.bd, e2] at h; cases h
      | no => simp only [Res.bd, e2] at h; cases h
    | ex x ρ1 => rw [e1] at h; cases h
    | no => rw [e1] at h; cases h
def kwNs : List Keyword → Option (List Str)
  | [] => some []
  | ⟨some y, _, _⟩ :: r => (kwNs r).map (y :: ·)
  | ⟨none, _, _⟩ :: _ => none
theorem kw_facts {env : PySem.Env} {pos : Pos} : ∀ {kws : List Keyword} {ks : List Str}, kwNs kws = some ks → (backToKw pos (keywordEach kws env)).all (·.1.isSome) = true ∧ (backToKw pos (keywordEach kws env)).filterMap (·.1) = ks ∧ (backToKw pos (keywordEach kws env)).any (·.1.isNone) = false ∧ kws.length = ks.length
  | [], ks, h => by cases h; exact ⟨rfl, rfl, rfl, rfl⟩
  | ⟨none, _, _⟩ :: _, _, h => by cases h
  | ⟨some y, v, p⟩ :: r, ks, h => by
    have h' : (kwNs r).map (y :: ·) = some ks := h
    cases e : kwNs r with
    | none => rw [e] at h'; cases h'
    | some ks' =>
      rw [e] at h'; cases h'
      obtain ⟨h1, h2, h3, h4⟩ := kw_facts (env := env) (pos := pos) e
      refine ⟨?_, ?_, ?_, by simp [h4]⟩
      · show (true && (backToKw pos (keywordEach r env)).all (·.1.isSome)) = true
        rw [h1] <;> rfl
      · show y :: (backToKw pos (keywordEach r env)).filterMap (·.1) = y :: ks'
        rw [h2]
      · show (false || (backToKw pos (keywordEach r env)).any (·.1.isNone)) = false
        rw [h3] <;> rfl
section
variable {P : Pm} {σ : L2.St} {S S' : Addr → Prop} {ρ ρ' : Loc} {H H' : Hp}
theorem Aft.bdE {α β γ δ : Type} {R1 : RlT α β} {R2 : RlT γ δ} (an : Anti R1) {x : Res α} {f : α → Loc → Res γ} {Q : δ → Hp → Prop} (st : Stp P.H0 σ S ρ H S' ρ' H') (h : Aft P σ R2 S ρ H (x.bd f) Q) :
    Aft P σ R1 S' ρ' H' x fun v H1 => ∃ S1 ρ1 a, x = .ok a ρ1 ∧ Rl P.K P.H0 S1 ρ1 σ H1 ∧ Stp P.H0 σ S ρ H S1 ρ1 H1 ∧ Stp P.H0 σ S' ρ' H' S1 ρ1 H1 ∧ R1 H S1 ρ1 H1 v a ∧ Aft P σ R2 S ρ H (f a ρ1) Q := by
  cases x with
  | ok a ρ2 => exact fun v H2 S2 r2 s2 q => ⟨S2, ρ2, a, rfl, r2, st.trans s2, s2, an _ _ _ _ _ _ _ st.dom q, h⟩
  | ex x ρ2 => exact fun cls dx H2 S2 r2 s2 q => h cls dx H2 S2 r2 (st.trans s2) q
  | no => exact h
end
section
variable {C : Ck} {φ : Fns} {ER : Exn → Value → Option Addr → Hp → Prop} {n : Nat} {X : Cx} {N : List Str} {sc scope : Scope} {st : Str → Bool} {W : WX} {H0 : Hp}
theorem PK.weak {e : List Keyword} {t t' : TA} (h : PK X e t) (k : ∀ σ H Q, t' σ H Q → t σ H Q) : PK X e t' := ⟨fun pos pins s σ H Q I q => h.run pos pins s σ H Q I (k σ H Q q)⟩
theorem ksNil : PK X [] (tAs (Pw X H0 ER W) φ .nil) := PK.weak pk_nil fun σ H Q ⟨S, ρ, R, h⟩ => by
  rw [evAs] at h
  exact h [] H S R Stp.refl rfl
theorem ksCons {b : Bool} {m : Ex} {r : Es} {e : Expr} {nm : Option Str} {kp : Pos} {es : List Keyword} (ha : PE X e (tO (Pw X H0 ER W) φ m)) (hr : PK X es (tAs (Pw X H0 ER W) φ r)) : PK X (⟨nm, e, kp⟩ :: es) (tAs (Pw X H0 ER W) φ (.cons b m r)) :=
  PK.weak (pk_cons ha hr) fun σ H Q ⟨S, ρ, R, h⟩ => by
    rw [evAs] at h
    refine ⟨S, ρ, R, (Aft.bd anti_opd Stp.refl h).mono fun v H1 ⟨S1, ρ1, x, R1, st1, _, o1, h1⟩ => ?_⟩
    refine ⟨S1, ρ1, R1, (Aft.bd anti_opds st1 h1).mono fun vs H2 ⟨S2, ρ2, os, R2, st2, s12, o2, h2⟩ => ?_⟩
    exact h2 (v :: vs) H2 S2 R2 st2 ⟨v, vs, rfl, o1.step R1 s12, o2⟩
theorem kwPE (c : Cn C φ ER n X N sc st W) {f : Nat} {args : Es} {x : Str} {ps ks : List Str} {perm : List Nat} {p pos : Pos} {kws : List Keyword} (hf : C.nm f = some (x, ps)) (h2 : glbB sc x = true) (hk : (f, ks, perm) ∈ C.kw) (hn : kwNs kws = some ks) (hl : args.len = kws.length)
    (ha : PK X kws (tAs (Pw X H0 ER W) φ args)) : PE X (.Call (.Name x p) [] kws pos) (tO (Pw X H0 ER W) φ (.call f args perm)) := by
  obtain ⟨k1, k2⟩ := c.gl h2
  obtain ⟨hnp, a, fd, g1, g2, _, g3, F⟩ := c.fnc f x ps hf
  obtain ⟨b1, b2, b3⟩ := g3 ks perm hk
  refine ⟨fun pins s σ H Q I ⟨S, ρ, R, h⟩ => ?_⟩
  obtain ⟨f1, f2, f3, f4⟩ := kw_facts (env := X.env) (pos := pos) hn
  rw [evO_callK] at h
  refine wpAny_Call_Name_kw (ld_glob I k1 g1 ?_ k2)
  refine PySem.W.callWith_KW0 (h₀ := X.base) I.ok.mod.kin g2 f1 (thn (ha.run pos pins s σ H _ I ⟨S, ρ, R, Aft.bdE anti_opds Stp.refl h⟩) fun ws s1 ⟨vs, H1, I1, rv, S1, ρ1, os, eo, R1, st1, _, o1, h1⟩ => ⟨I1.kIn, ?_⟩) (by rw [f3] <;> rfl)
  have hw : ws.length = ps.length := by rw [← rv.length, o1.length, evAs_len eo, hl, f4, b1]
  obtain ⟨q1, q2⟩ := b3 ws hw
  have pe : pmut perm os = perm.filterMap fun j => os[j]? := by
    cases perm with
    | nil => exact absurd rfl b2
    | cons j p => rfl
  rw [pe] at h1
  rw [f2]
  exact run_F F c.room c.gd c.tk (.of_eq q2) I1 (vals_perm rv perm) q1 (call_sp (φ f) R1 st1 (o1.perm perm) h1)
end
/-! ### the check -/
def isNil : Expr → Bool
  | .Constant .none _ _ => true
  | _ => false
def isM1 : Expr → Bool
  | .UnaryOp .USub (.Constant (.int i) _ _) _ => decide (i = 1)
  | _ => false
/-- a call of that name, its arguments -/
def blArgs (x : Str) : Expr → Option (List Expr)
  | .Call (.Name z _) l [] _ => if z = x then some l else none
  | _ => none
theorem blArgs_inv {x : Str} {e : Expr} {l : List Expr} (h : blArgs x e = some l) : ∃ p q, e = .Call (.Name x p) l [] q := by
  unfold blArgs at h
  split at h
  · split at h
    · rename_i e1
      subst e1
      cases h
      exact ⟨_, _, rfl⟩
    · cases h
  · cases h
def isTupE : Expr → Bool
  | .Tuple .. => true
  | _ => false
theorem isTupE_inv {e : Expr} (h : isTupE e = true) : ∃ l k p, e = .Tuple l k p := by
  cases e <;> first | exact ⟨_, _, _, rfl⟩ | cases h
def isI0 : Ex → Bool
  | .int i => decide (i = 0)
  | _ => false
def oneB : List Expr → Bool
  | [] => true
  | [_] => true
  | _ => false
mutual
def chkE (C : Ck) (N : List Str) (sc : Scope) : Ex → Expr → Bool
  | .var i, .Name x _ => varB N sc i x
  | .int i, .Constant (.int j) _ _ => decide (i = j)
  | .str s, .Constant (.str t) _ _ => decide (s = t)
  | .bl b, .Constant (.bool c) _ _ => b == c
  | .non, .Constant .none _ _ => true
  | .glob x i, .Name y _ => decide (x = y) && (glbB sc x && decide (C.cs.lookup x = some i))
  | .bin o a b, .BinOp l o' r _ => decide (o = o') && (chkE C N sc a l && chkE C N sc b r)
  | .neg a, .UnaryOp .USub l _ => chkE C N sc a l
  | .not a, .UnaryOp .Not l _ => chkE C N sc a l
  | .cmp o a b, .Compare l [o'] [r] _ => decide (o = o') && (!behindInMarks o r && (chkE C N sc a l && chkE C N sc b r))
  | .cmp2 o1 o2 a b c, .Compare l [p1, p2] [r1, r2] _ => decide (o1 = p1) && (decide (o2 = p2) && (!lastMarks [o1, o2] [r1, r2] && (chkE C N sc a l && (chkE C N sc b r1 && chkE C N sc c r2))))
  | .and a b, .BoolOp .And [l, r] _ => chkE C N sc a l && chkE C N sc b r
  | .or a b, .BoolOp .Or [l, r] _ => chkE C N sc a l && chkE C N sc b r
  | .and a b, .BoolOp .And (l :: r :: r2 :: rs) pos => chkE C N sc a l && chkE C N sc b (.BoolOp .And (r :: r2 :: rs) pos)
  | .or a b, .BoolOp .Or (l :: r :: r2 :: rs) pos => chkE C N sc a l && chkE C N sc b (.BoolOp .Or (r :: r2 :: rs) pos)
  | .ife c a b, .IfExp t l r _ => chkE C N sc c t && (chkE C N sc a l && chkE C N sc b r)
  | .tup es, .Tuple l _ _ => chkEs C N sc es l
  | .lst es, .List l _ => chkEs C N sc es l
  | .rev a, .Subscript l (.Slice none none (some x) _) _ => isM1 x && chkE C N sc a l
  | .sl a bl lo bh hi, .Subscript l (.Slice elo ehi none _) _ => chkE C N sc a l && ((match bl, elo with
      | false, none => true
      | true, some e => chkE C N sc lo e
      | _, _ => false) && (match bh, ehi with
      | false, none => true
      | true, some e => chkE C N sc hi e
      | _, _ => false))
  | .ix a b, .Subscript l r _ => noSlice r && (chkE C N sc a l && chkE C N sc b r)
  | .call f args perm, .Call (.Name x _) l kws _ => glbB sc x && (match perm, kws with
    | [], [] => (match C.nm f with
      | some (y, _) => decide (x = y)
      | none => false) && (l.all plainE && chkEs C N sc args l)
    | perm, kws => (match C.nm f, kwNs kws with
      | some (y, _), some ks => decide (x = y) && decide ((f, ks, perm) ∈ C.kw)
      | _, _ => false) && (l.isEmpty && chkKs C N sc args kws))
  | .lrange a b, .Call (.Name y _) [l] [] _ => decide (y = "list") && (bltB sc "list" "list" && (bltB sc "range" "range" && (match blArgs "range" l with
    | some [e] => isI0 a && (plainE e && chkE C N sc b e)
    | some [ea, e] => plainE ea && (plainE e && (chkE C N sc a ea && chkE C N sc b e))
    | _ => false)))
  | .bc b args, .Call (.Name x _) l [] _ => (match b, l with
    | .isi [t], [l, .Name y _] => bltB sc x "isinstance" && (plainE l && (decide (y = Str.ofString t) && (glbB sc y && (decide (t ∈ ["int", "bool", "str", "list", "tuple", "dict"]) && chkEs C N sc args [l]))))
    | b, l => (match fnName b, tyName b with
      | some y, _ => bltB sc x y
      | none, some y => bltB sc x y
      | _, _ => false) && (!l.isEmpty && (l.all plainE && chkEs C N sc args l)))
  | .pop i args, .Call (.Attribute (.Name x _) nm ap) l [] pos => decide (nm = "pop") && (varB N sc i x && ((ap.endLine == pos.line) && (oneB l && (l.all plainE && chkEs C N sc args l))))
  | .mth m o args, .Call (.Attribute eo nm ap) l [] pos => decide (mtName m = some nm) && (objOk eo && ((ap.endLine == pos.line) && (chkE C N sc o eo && (decide (l.length = 1) && (l.all plainE && chkEs C N sc args l)))))
  | .lc own t it fl mc me, .ListComp elt [⟨tg, iter, ifs, 0⟩] scope _ => blkC N sc scope own && (decide (∀ i ∈ t.ixs, i ∈ own.map (·.2)) && (notSet iter && (chkT N (stS scope) t tg && (chkI C N sc it tg iter && ((match fl, ifs with
      | false, [] => true
      | true, [e] => chkE C N (relS scope sc) mc e
      | _, _ => false) && chkE C N (relS scope sc) me elt)))))
  | .lc2 own t it fl mc vs1 t1 it1 fl1 mc1 me, .ListComp elt [⟨tg, iter, ifs, 0⟩, ⟨tg1, iter1, ifs1, 0⟩] scope _ => blkC N sc scope own && (decide (∀ i ∈ t.ixs, i ∈ own.map (·.2)) && (decide (∀ i ∈ vs1, i ∈ own.map (·.2)) && (decide (∀ i ∈ t1.ixs, i ∈ vs1) && (notSet iter && (notSet iter1 && (chkT N (stS scope) t tg && (chkT N (stS scope) t1 tg1 &&
      (chkI C N sc it tg iter && (chkI C N (relS scope sc) it1 tg1 iter1 && ((match fl, ifs with
      | false, [] => true
      | true, [e] => chkE C N (relS scope sc) mc e
      | _, _ => false) && ((match fl1, ifs1 with
      | false, [] => true
      | true, [e] => chkE C N (relS scope sc) mc1 e
      | _, _ => false) && chkE C N (relS scope sc) me elt)))))))))))
  | _, _ => false
def chkEs (C : Ck) (N : List Str) (sc : Scope) : Es → List Expr → Bool
  | .nil, [] => true
  | .cons false e r, l :: ls => plainE l && (chkE C N sc e l && chkEs C N sc r ls)
  | .cons true e r, .Starred l _ :: ls => chkE C N sc e l && chkEs C N sc r ls
  | _, _ => false
def chkKs (C : Ck) (N : List Str) (sc : Scope) : Es → List Keyword → Bool
  | .nil, [] => true
  | .cons false e r, ⟨_, l, _⟩ :: ls => chkE C N sc e l && chkKs C N sc r ls
  | _, _ => false
def chkI (C : Ck) (N : List Str) (sc : Scope) : Itr → Expr → Expr → Bool
  | .seq m, _, e => chkE C N sc m e
  | .r1 a, _, e => bltB sc "range" "range" && (match blArgs "range" e with
    | some [e] => plainE e && chkE C N sc a e
    | _ => false)
  | .r2 a b, _, e => bltB sc "range" "range" && (match blArgs "range" e with
    | some [e1, e2] => plainE e1 && (plainE e2 && (chkE C N sc a e1 && chkE C N sc b e2))
    | _ => false)
  | .r3 a b c, _, e => bltB sc "range" "range" && (match blArgs "range" e with
    | some [e1, e2, e3] => plainE e1 && (plainE e2 && (plainE e3 && (chkE C N sc a e1 && (chkE C N sc b e2 && chkE C N sc c e3))))
    | _ => false)
  | .enum m, tg, e => isTupE tg && (bltB sc "enumerate" "enumerate" && (match blArgs "enumerate" e with
    | some [e] => plainE e && chkE C N sc m e
    | _ => false))
  | .zip a b, tg, e => isTupE tg && (bltB sc "zip" "zip" && (match blArgs "zip" e with
    | some [e1, e2] => plainE e1 && (plainE e2 && (chkE C N sc a e1 && chkE C N sc b e2))
    | _ => false))
end
end TW
end
/-! W20 -/
section
set_option Elab.async false
set_option linter.all false
set_option maxRecDepth 100000
set_option maxHeartbeats 4000000
set_option autoImplicit false
/-! TW, part 20: all expressions do what the reckoning says. -/
namespace TW
open PySem PySem.Spec L2
open PyProof.Rows hiding St
section
variable {C : Ck} {φ : Fns} {ER : Exn → Value → Option Addr → Hp → Prop} {n : Nat} {H0 : Hp}
/-- as a value, as a test, as a part of and/or -/
structure T3 (φ : Fns) (ER : Exn → Value → Option Addr → Hp → Prop) (H0 : Hp) (X : Cx) (W : WX) (m : Ex) (e : Expr) : Prop where
  v : PE X e (tO (Pw X H0 ER W) φ m)
  t : PT X e (tT (Pw X H0 ER W) φ m)
  w : ∀ op vs p, e = .BoolOp op vs p → PW X e (tT (Pw X H0 ER W) φ m)
theorem T3.of {X : Cx} {W : WX} {m : Ex} {e : Expr} (h : PE X e (tO (Pw X H0 ER W) φ m)) (he : ∀ whole, isTrue e X.env whole = (do let v ← whole; standAt e.pos; holding [v] (truthy v))) (nb : ∀ op vs p, e ≠ .BoolOp op vs p) : T3 φ ER H0 X W m e :=
  ⟨h, truT h he, fun op vs p q => absurd q (nb op vs p)⟩
/-- a comparison as a test -/
theorem evT_cmp (φ : Fns) (o : CmpOp) (a b : Ex) (ρ : Loc) : evT φ (.cmp o a b) ρ = (evO φ a ρ).bd fun x ρ1 => (evO φ b ρ1).bd fun y ρ2 => match x.get ρ2, y.get ρ2 with
    | some d, some e => .of (cmpD o d e) ρ2
    | _, _ => .no := by
  unfold evT
  rw [evO, Res.bd_bd]
  cases evO φ a ρ with
  | ok x ρ1 =>
    show ((evO φ b ρ1).bd _).bd _ = (evO φ b ρ1).bd _
    rw [Res.bd_bd]
    cases evO φ b ρ1 with
    | ok y ρ2 =>
      show Res.bd (match x.get ρ2, y.get ρ2 with
        | some d, some e => Res.of ((cmpD o d e).map fun t => Opd.v (.bl t)) ρ2
        | _, _ => .no) _ = (match x.get ρ2, y.get ρ2 with
        | some d, some e => Res.of (cmpD o d e) ρ2
        | _, _ => .no)
      cases x.get ρ2 with
      | none => rfl
      | some d =>
        cases y.get ρ2 with
        | none => rfl
        | some e => cases hc : cmpD o d e <;> simp [hc, truD]
    | ex e ρ2 => rfl
    | no => rfl
  | ex e ρ1 => rfl
  | no => rfl
theorem cmpT3 {X : Cx} {N : List Str} {sc : Scope} {st : Str → Bool} {W : WX} (c : Cn C φ ER n X N sc st W) {o : CmpOp} {a b : Ex} {l r : Expr} {pos : Pos} (hm : behindInMarks o r = false) (ha : PE X l (tO (Pw X H0 ER W) φ a)) (hb : PE X r (tO (Pw X H0 ER W) φ b)) :
    T3 φ ER H0 X W (.cmp o a b) (.Compare l [o] [r] pos) := by
  refine ⟨PE.weak (pe_cmpR (cmpR c.u65 o) ha hb hm) fun σ H Q q => cmpRd (P := Pw X H0 ER W) (f := cmpD o) (fun _ _ _ _ q => q) σ H Q ?_, PT.weak (pt_cmpR (cmpR c.u65 o) ha hb hm) fun σ H Q q => ?_, fun _ _ _ q => nomatch q⟩
  · obtain ⟨S, ρ, R, h⟩ := q
    rw [evO] at h
    exact ⟨S, ρ, R, h⟩
  · obtain ⟨S, ρ, R, h⟩ := q
    rw [evT_cmp] at h
    refine ⟨S, ρ, R, (Aft.bd anti_opd Stp.refl h).mono fun v H1 ⟨S1, ρ1, x, R1, st1, _, o1, h1⟩ => ?_⟩
    refine ⟨S1, ρ1, R1, (Aft.bd anti_opd st1 h1).mono fun u H2 ⟨S2, ρ2, y, R2, st2, s12, o2, h2⟩ => ?_⟩
    cases e1 : x.get ρ2 with
    | none => rw [e1] at h2; exact h2.elim
    | some d =>
      cases e2 : y.get ρ2 with
      | none => rw [e1, e2] at h2; exact h2.elim
      | some e =>
        rw [e1, e2] at h2
        replace h2 : Aft (Pw X H0 ER W) σ rT S ρ H (Res.of (cmpD o d e) ρ2) Q := h2
        cases e3 : cmpD o d e with
        | none => rw [e3] at h2; exact h2.elim
        | some t =>
          rw [e3] at h2
          exact ⟨S2, d, e, t, R2.dom, (o1.step R1 s12).sha R2 e1, o2.sha R2 e2, e3, t, rfl, h2 t H2 S2 R2 st2 rfl⟩
theorem evT_cmp2 (φ : Fns) (o o' : CmpOp) (a b c : Ex) (ρ : Loc) : evT φ (.cmp2 o o' a b c) ρ = (evO φ a ρ).bd fun x ρ1 => (evO φ b ρ1).bd fun y ρ2 => match x.get ρ2, y.get ρ2 with
    | some d, some e => match cmpD o d e with
      | some true => (evO φ c ρ2).bd fun z ρ3 => match y.get ρ3, z.get ρ3 with
        | some e, some f => .of (cmpD o' e f) ρ3
        | _, _ => .no
      | some false => .ok false ρ2
      | none => .no
    | _, _ => .no := by
  unfold evT
  rw [evO, Res.bd_bd]
  cases evO φ a ρ with
  | ok x ρ1 =>
    show ((evO φ b ρ1).bd _).bd _ = (evO φ b ρ1).bd _
    rw [Res.bd_bd]
    cases evO φ b ρ1 with
    | ok y ρ2 =>
      simp only [Res.bd]
      cases x.get ρ2 with
      | none => rfl
      | some d =>
        cases y.get ρ2 with
        | none => rfl
        | some e =>
          cases hc : cmpD o d e with
          | none => simp [hc]
          | some t =>
            cases t with
            | false => simp [hc, truD]
            | true =>
              simp only [hc]
              cases evO φ c ρ2 with
              | ok z ρ3 =>
                simp only
                cases y.get ρ3 with
                | none => rfl
                | some e' =>
                  cases z.get ρ3 with
                  | none => rfl
                  | some f => cases hc : cmpD o' e' f <;> simp [hc, truD]
              | ex e ρ3 => rfl
              | no => rfl
    | ex e ρ2 => rfl
    | no => rfl
  | ex e ρ1 => rfl
  | no => rfl
theorem cmp2T3 {X : Cx} {N : List Str} {sc : Scope} {st : Str → Bool} {W : WX} (c : Cn C φ ER n X N sc st W) {o o' : CmpOp} {a b d : Ex} {l r r2 : Expr} {pos : Pos} (hm : lastMarks [o, o'] [r, r2] = false) (ha : PE X l (tO (Pw X H0 ER W) φ a)) (hb : PE X r (tO (Pw X H0 ER W) φ b)) (hd : PE X r2 (tO (Pw X H0 ER W) φ d)) :
    T3 φ ER H0 X W (.cmp2 o o' a b d) (.Compare l [o, o'] [r, r2] pos) := by
  refine ⟨PE.weak (pe_chain (cmpR c.u65 o) (cmpR c.u65 o') ha hb hd hm) cmp2W, PT.weak (pt_chain (cmpR c.u65 o) (cmpR c.u65 o') ha hb hd hm) fun σ H Q ⟨S, ρ, R, h⟩ => ?_, fun _ _ _ q => nomatch q⟩
  rw [evT_cmp2] at h
  refine ⟨S, ρ, R, (Aft.bd anti_opd Stp.refl h).mono fun v H1 ⟨S1, ρ1, x, R1, st1, _, o1, h1⟩ => ?_⟩
  refine ⟨S1, ρ1, R1, (Aft.bd anti_opd st1 h1).mono fun u H2 ⟨S2, ρ2, y, R2, st2, s12, o2, h2⟩ => ?_⟩
  cases e1 : x.get ρ2 with
  | none => rw [e1] at h2; exact h2.elim
  | some d1 =>
    cases e2 : y.get ρ2 with
    | none => rw [e1, e2] at h2; exact h2.elim
    | some e =>
      rw [e1, e2] at h2
      replace h2 : Aft (Pw X H0 ER W) σ rT S ρ H (match cmpD o d1 e with
        | some true => (evO φ d ρ2).bd fun z ρ3 => match y.get ρ3, z.get ρ3 with
          | some e, some f => .of (cmpD o' e f) ρ3
          | _, _ => .no
        | some false => .ok false ρ2
        | none => .no) Q := h2
      cases e3 : cmpD o d1 e with
      | none => rw [e3] at h2; exact h2.elim
      | some t =>
        rw [e3] at h2
        refine ⟨S2, d1, e, t, R2.dom, (o1.step R1 s12).sha R2 e1, o2.sha R2 e2, e3, t, rfl, ?_⟩
        cases t with
        | false =>
          rw [if_neg Bool.false_ne_true]
          exact ⟨false, rfl, h2 false H2 S2 R2 st2 rfl⟩
        | true =>
          rw [if_pos rfl]
          refine ⟨S2, ρ2, R2, (Aft.bd anti_opd st2 h2).mono fun w H3 ⟨S3, ρ3, z, R3, st3, s23, o3, h3⟩ => ?_⟩
          cases e4 : y.get ρ3 with
          | none => rw [e4] at h3; exact h3.elim
          | some e' =>
            cases e5 : z.get ρ3 with
            | none => rw [e4, e5] at h3; exact h3.elim
            | some f =>
              rw [e4, e5] at h3
              replace h3 : Aft (Pw X H0 ER W) σ rT S ρ H (Res.of (cmpD o' e' f) ρ3) Q := h3
              cases e6 : cmpD o' e' f with
              | none => rw [e6] at h3; exact h3.elim
              | some t =>
                rw [e6] at h3
                exact ⟨S3, e', f, t, R3.dom, (o2.step R2 s23).sha R3 e4, o3.sha R3 e5, e6, t, rfl, h3 t H3 S3 R3 st3 rfl⟩
theorem binPE {X : Cx} {N : List Str} {sc : Scope} {st : Str → Bool} {W : WX} {o : Operator} {a b : Ex} {l r : Expr} {pos : Pos} (ha : PE X l (tO (Pw X H0 ER W) φ a)) (hb : PE X r (tO (Pw X H0 ER W) φ b)) : PE X (.BinOp l o r pos) (tO (Pw X H0 ER W) φ (.bin o a b)) :=
  binOpR (P := Pw X H0 ER W) (f := binD o) (r := rBin X.K (binD o)) (t := tOp (rBin X.K (binD o)) (tO (Pw X H0 ER W) φ a) (tO (Pw X H0 ER W) φ b)) rfl rfl (fun S d e o x y H Q hd h1 h2 h3 h4 => ⟨S, d, e, o, hd, h1, h2, h3, h4⟩) (fun ρ => by rw [evO] <;> rfl) (pe_op (binR o) ha hb)
theorem ixPE {X : Cx} {W : WX} {a b : Ex} {l r : Expr} {pos : Pos} (hs : noSlice r = true) (ha : PE X l (tO (Pw X H0 ER W) φ a)) (hb : PE X r (tO (Pw X H0 ER W) φ b)) : PE X (.Subscript l r pos) (tO (Pw X H0 ER W) φ (.ix a b)) :=
  binOpR (P := Pw X H0 ER W) (f := fun d e => (ixD d e).map .v) (r := rIx2 X.K) (t := tOp (rIx2 X.K) (tO (Pw X H0 ER W) φ a) (tO (Pw X H0 ER W) φ b)) rfl rfl (fun S d e o x y H Q hd h1 h2 h3 h4 => by
    cases e1 : ixD d e with
    | none => rw [e1] at h3; cases h3
    | some q => rw [e1] at h3; cases h3; exact ⟨S, d, e, q, hd, h1, h2, e1, h4⟩) (fun ρ => by rw [evO] <;> rfl) (pe_ix ixR ha hb (plainIx hs))
theorem intT3 {X : Cx} {W : WX} {i : Int} {k : Nat} {p : Pos} : T3 φ ER H0 X W (.int i) (.Constant (.int i) k p) := .of (constR pe_int (d := .int i) (fun ρ => by rw [evO]) fun _ _ => rfl) (fun _ => rfl) fun _ _ _ q => nomatch q
theorem strT3 {X : Cx} {W : WX} {i : Str} {k : Nat} {p : Pos} : T3 φ ER H0 X W (.str i) (.Constant (.str i) k p) := .of (constR pe_str (d := .str i) (fun ρ => by rw [evO]) fun _ _ => rfl) (fun _ => rfl) fun _ _ _ q => nomatch q
theorem blT3 {X : Cx} {W : WX} {i : Bool} {k : Nat} {p : Pos} : T3 φ ER H0 X W (.bl i) (.Constant (.bool i) k p) := .of (constR pe_bl (d := .bl i) (fun ρ => by rw [evO]) fun _ _ => rfl) (fun _ => rfl) fun _ _ _ q => nomatch q
theorem nonT3 {X : Cx} {W : WX} {k : Nat} {p : Pos} : T3 φ ER H0 X W .non (.Constant .none k p) := .of (constR pe_non (d := .non) (fun ρ => by rw [evO]) fun _ _ => rfl) (fun _ => rfl) fun _ _ _ q => nomatch q
theorem globT3 {X : Cx} {N : List Str} {sc : Scope} {st : Str → Bool} {W : WX} (c : Cn C φ ER n X N sc st W) {x : Str} {i : Int} {p : Pos} (h1 : glbB sc x = true) (h2 : C.cs.lookup x = some i) : T3 φ ER H0 X W (.glob x i) (.Name x p) := by
  obtain ⟨g1, g2⟩ := c.gl h1
  obtain ⟨t, ht⟩ := c.cst x i h2
  exact .of (constR (pe_glob (v := .int i) g1 ht ⟨t, rfl⟩ g2) (d := .int i) (fun ρ => by rw [evO]) fun _ _ => rfl) (fun _ => rfl) fun _ _ _ q => nomatch q
/-! ### all -/
theorem isM1_inv {x : Expr} (h : isM1 x = true) : ∃ k p1 p2, x = .UnaryOp .USub (.Constant (.int 1) k p1) p2 := by
  unfold isM1 at h
  split at h
  · cases of_decide_eq_true h; exact ⟨_, _, _, rfl⟩
  · cases h
abbrev ba {a b : Bool} : (a && b) = true ↔ a = true ∧ b = true := Bool.and_eq_true_iff
mutual
theorem eE : ∀ (m : Ex) {X : Cx} {N : List Str} {sc : Scope} {st : Str → Bool} {W : WX}, Cn C φ ER n X N sc st W → ∀ (e : Expr), chkE C N sc m e = true → T3 φ ER H0 X W m e
  | .var i, X, N, sc, st, W, c, e, h => by
    cases e with
    | Name x p => exact .of (varR c h) (fun _ => rfl) fun _ _ _ q => nomatch q
    | _ => exact absurd h Bool.false_ne_true
  | .int i, X, N, sc, st, W, c, e, h => by
    cases e with
    | Constant k j p =>
      cases k with
      | int j => cases of_decide_eq_true (show decide (i = j) = true from h); exact intT3
      | _ => exact absurd h Bool.false_ne_true
    | _ => exact absurd h Bool.false_ne_true
  | .str i, X, N, sc, st, W, c, e, h => by
    cases e with
    | Constant k j p =>
      cases k with
      | str j => cases of_decide_eq_true (show decide (i = j) = true from h); exact strT3
      | _ => exact absurd h Bool.false_ne_true
    | _ => exact absurd h Bool.false_ne_true
  | .bl i, X, N, sc, st, W, c, e, h => by
    cases e with
    | Constant k j p =>
      cases k with
      | bool j => cases (show i = j from eq_of_beq h); exact blT3
      | _ => exact absurd h Bool.false_ne_true
    | _ => exact absurd h Bool.false_ne_true
  | .non, X, N, sc, st, W, c, e, h => by
    cases e with
    | Constant k j p =>
      cases k with
      | none => exact nonT3
      | _ => exact absurd h Bool.false_ne_true
    | _ => exact absurd h Bool.false_ne_true
  | .glob x i, X, N, sc, st, W, c, e, h => by
    cases e with
    | Name y p =>
      obtain ⟨h1, h2⟩ := ba.mp (show (decide (x = y) && (glbB sc x && decide (C.cs.lookup x = some i))) = true from h)
      obtain ⟨h2, h3⟩ := ba.mp h2
      cases of_decide_eq_true h1
      exact globT3 c h2 (of_decide_eq_true h3)
    | _ => exact absurd h Bool.false_ne_true
  | .bin o a b, X, N, sc, st, W, c, e, h => by
    cases e with
    | BinOp l o' r p =>
      obtain ⟨h1, h2⟩ := ba.mp (show (decide (o = o') && (chkE C N sc a l && chkE C N sc b r)) = true from h)
      obtain ⟨h2, h3⟩ := ba.mp h2
      cases of_decide_eq_true h1
      exact .of (binPE (N := N) (sc := sc) (st := st) (eE a c l h2).v (eE b c r h3).v) (fun _ => rfl) fun _ _ _ q => nomatch q
    | _ => exact absurd h Bool.false_ne_true
  | .neg a, X, N, sc, st, W, c, e, h => by
    cases e with
    | UnaryOp o l p =>
      cases o with
      | USub => exact .of (negPE (eE a c l h).v) (fun _ => rfl) fun _ _ _ q => nomatch q
      | _ => exact absurd h Bool.false_ne_true
    | _ => exact absurd h Bool.false_ne_true
  | .not a, X, N, sc, st, W, c, e, h => by
    cases e with
    | UnaryOp o l p =>
      cases o with
      | Not =>
        have t := eE a c l h
        exact ⟨notPE t.t t.v rfl, notPT t.t, fun _ _ _ q => nomatch q⟩
      | _ => exact absurd h Bool.false_ne_true
    | _ => exact absurd h Bool.false_ne_true
  | .cmp o a b, X, N, sc, st, W, c, e, h => by
    cases e with
    | Compare l os rs p =>
      match os, rs, h with
      | [o'], [r], h =>
        obtain ⟨h1, h2⟩ := ba.mp (show (decide (o = o') && (!behindInMarks o r && (chkE C N sc a l && chkE C N sc b r))) = true from h)
        obtain ⟨h2, h3⟩ := ba.mp h2
        obtain ⟨h3, h4⟩ := ba.mp h3
        cases of_decide_eq_true h1
        exact cmpT3 c (by simpa using h2) (eE a c l h3).v (eE b c r h4).v
      | [], _, h => exact absurd h Bool.false_ne_true
      | [_], [], h => exact absurd h Bool.false_ne_true
      | [_], _ :: _ :: _, h => exact absurd h Bool.false_ne_true
      | _ :: _ :: _, _, h => exact absurd h Bool.false_ne_true
    | _ => exact absurd h Bool.false_ne_true
  | .cmp2 o o' a b d, X, N, sc, st, W, c, e, h => by
    cases e with
    | Compare l os rs p =>
      match os, rs, h with
      | [p1, p2], [r1, r2], h =>
        obtain ⟨h1, h2⟩ := ba.mp (show (decide (o = p1) && (decide (o' = p2) && (!lastMarks [o, o'] [r1, r2] && (chkE C N sc a l && (chkE C N sc b r1 && chkE C N sc d r2))))) = true from h)
        obtain ⟨h2, h3⟩ := ba.mp h2
        obtain ⟨h3, h4⟩ := ba.mp h3
        obtain ⟨h4, h5⟩ := ba.mp h4
        obtain ⟨h5, h6⟩ := ba.mp h5
        cases of_decide_eq_true h1
        cases of_decide_eq_true h2
        exact cmp2T3 c (by simpa using h3) (eE a c l h4).v (eE b c r1 h5).v (eE d c r2 h6).v
      | [], _, h => exact absurd h Bool.false_ne_true
      | [_], _, h => exact absurd h Bool.false_ne_true
      | [_, _], [], h => exact absurd h Bool.false_ne_true
      | [_, _], [_], h => exact absurd h Bool.false_ne_true
      | [_, _], _ :: _ :: _ :: _, h => exact absurd h Bool.false_ne_true
      | _ :: _ :: _ :: _, _, h => exact absurd h Bool.false_ne_true
    | _ => exact absurd h Bool.false_ne_true
  | .and a b, X, N, sc, st, W, c, e, h => by
    cases e with
    | BoolOp op vs p =>
      cases op with
      | And =>
        match vs, h with
        | [l, r], h =>
          obtain ⟨h1, h2⟩ := ba.mp (show (chkE C N sc a l && chkE C N sc b r) = true from h)
          have ta := eE a c l h1
          have tb := eE b c r h2
          have w := andPW (pos := p) ta.t (pw_and1 tb.t)
          exact ⟨andPE ta.v (pe_one tb.v), w.pt, fun _ _ _ q => by cases q; exact w⟩
        | l :: r :: r2 :: rs, h =>
          obtain ⟨h1, h2⟩ := ba.mp (show (chkE C N sc a l && chkE C N sc b (.BoolOp .And (r :: r2 :: rs) p)) = true from h)
          have ta := eE a c l h1
          have tb := eE b c _ h2
          have w := andPW (pos := p) ta.t (tb.w _ _ _ rfl)
          exact ⟨andPE ta.v tb.v, w.pt, fun _ _ _ q => by cases q; exact w⟩
        | [], h => exact absurd h Bool.false_ne_true
        | [_], h => exact absurd h Bool.false_ne_true
      | _ => exact absurd h Bool.false_ne_true
    | _ => exact absurd h Bool.false_ne_true
  | .or a b, X, N, sc, st, W, c, e, h => by
    cases e with
    | BoolOp op vs p =>
      cases op with
      | Or =>
        match vs, h with
        | [l, r], h =>
          obtain ⟨h1, h2⟩ := ba.mp (show (chkE C N sc a l && chkE C N sc b r) = true from h)
          have ta := eE a c l h1
          have tb := eE b c r h2
          have w := orPW (pos := p) ta.t (pw_or1 tb.t)
          exact ⟨orPE ta.v (pe_one tb.v), w.pt, fun _ _ _ q => by cases q; exact w⟩
        | l :: r :: r2 :: rs, h =>
          obtain ⟨h1, h2⟩ := ba.mp (show (chkE C N sc a l && chkE C N sc b (.BoolOp .Or (r :: r2 :: rs) p)) = true from h)
          have ta := eE a c l h1
          have tb := eE b c _ h2
          have w := orPW (pos := p) ta.t (tb.w _ _ _ rfl)
          exact ⟨orPE ta.v tb.v, w.pt, fun _ _ _ q => by cases q; exact w⟩
        | [], h => exact absurd h Bool.false_ne_true
        | [_], h => exact absurd h Bool.false_ne_true
      | _ => exact absurd h Bool.false_ne_true
    | _ => exact absurd h Bool.false_ne_true
  | .ife t a b, X, N, sc, st, W, c, e, h => by
    cases e with
    | IfExp u l r p =>
      obtain ⟨h1, h2⟩ := ba.mp (show (chkE C N sc t u && (chkE C N sc a l && chkE C N sc b r)) = true from h)
      obtain ⟨h2, h3⟩ := ba.mp h2
      have t1 := eE t c u h1
      have t2 := eE a c l h2
      have t3 := eE b c r h3
      exact ⟨ifePE t1.t t2.v t3.v, ifePT t1.t t2.t t3.t, fun _ _ _ q => nomatch q⟩
    | _ => exact absurd h Bool.false_ne_true
  | .tup es, X, N, sc, st, W, c, e, h => by
    cases e with
    | Tuple l k p => exact .of (tupPE (k := k) (eEs es c l h)) (fun _ => rfl) fun _ _ _ q => nomatch q
    | _ => exact absurd h Bool.false_ne_true
  | .lst es, X, N, sc, st, W, c, e, h => by
    cases e with
    | List l p => exact .of (lstPE (eEs es c l h)) (fun _ => rfl) fun _ _ _ q => nomatch q
    | _ => exact absurd h Bool.false_ne_true
  | .dct0 _, X, N, sc, st, W, c, e, h => by
    cases e <;> exact absurd h Bool.false_ne_true
  | .ix a b, X, N, sc, st, W, c, e, h => by
    cases e with
    | Subscript l r p =>
      obtain ⟨h1, h2⟩ := ba.mp (show (noSlice r && (chkE C N sc a l && chkE C N sc b r)) = true from h)
      obtain ⟨h2, h3⟩ := ba.mp h2
      exact .of (ixPE h1 (eE a c l h2).v (eE b c r h3).v) (fun _ => rfl) fun _ _ _ q => nomatch q
    | _ => exact absurd h Bool.false_ne_true
  | .sl a bl lo bh hi, X, N, sc, st, W, c, e, h => by
    cases e with
    | Subscript l r p =>
      cases r with
      | Slice elo ehi est p2 =>
        cases est with
        | none =>
          obtain ⟨h1, h2⟩ := ba.mp (show (chkE C N sc a l && ((match (generalizing := false) bl, elo with
            | false, none => true
            | true, some e => chkE C N sc lo e
            | _, _ => false) && (match (generalizing := false) bh, ehi with
            | false, none => true
            | true, some e => chkE C N sc hi e
            | _, _ => false))) = true from h)
          obtain ⟨h2, h3⟩ := ba.mp h2
          have k1 : PO X elo (tPt (Pw X H0 ER W) φ bl lo) := by
            cases bl <;> cases elo
            · exact ptNone
            · exact absurd h2 Bool.false_ne_true
            · exact absurd h2 Bool.false_ne_true
            · exact ptSome (eE lo c _ h2).v
          have k2 : PO X ehi (tPt (Pw X H0 ER W) φ bh hi) := by
            cases bh <;> cases ehi
            · exact ptNone
            · exact absurd h3 Bool.false_ne_true
            · exact absurd h3 Bool.false_ne_true
            · exact ptSome (eE hi c _ h3).v
          exact .of (slPE (eE a c l h1).v k1 k2) (fun _ => rfl) fun _ _ _ q => nomatch q
        | some _ => exact absurd h Bool.false_ne_true
      | _ => exact absurd h Bool.false_ne_true
    | _ => exact absurd h Bool.false_ne_true
  | .rev a, X, N, sc, st, W, c, e, h => by
    cases e with
    | Subscript l r p =>
      cases r with
      | Slice elo ehi est p2 =>
        match elo, ehi, est, h with
        | none, none, some x, h =>
          obtain ⟨h1, h2⟩ := ba.mp (show (isM1 x && chkE C N sc a l) = true from h)
          obtain ⟨k, p3, p4, rfl⟩ := isM1_inv h1
          exact .of (revPE (eE a c l h2).v) (fun _ => rfl) fun _ _ _ q => nomatch q
        | some _, _, _, h => exact absurd h Bool.false_ne_true
        | none, some _, _, h => exact absurd h Bool.false_ne_true
        | none, none, none, h => exact absurd h Bool.false_ne_true
      | _ => exact absurd h Bool.false_ne_true
    | _ => exact absurd h Bool.false_ne_true
  | .call f args perm, X, N, sc, st, W, c, e, h => by
    cases e with
    | Call ef l kws p =>
      cases ef with
      | Name x px =>
        obtain ⟨h1, h2⟩ := ba.mp (show (glbB sc x && (match (generalizing := false) perm, kws with
          | [], [] => (match (generalizing := false) C.nm f with
            | some (y, _) => decide (x = y)
            | none => false) && (l.all plainE && chkEs C N sc args l)
          | perm, kws => (match (generalizing := false) C.nm f, kwNs kws with
            | some (y, _), some ks => decide (x = y) && decide ((f, ks, perm) ∈ C.kw)
            | _, _ => false) && (l.isEmpty && chkKs C N sc args kws))) = true from h)
        have kw : ((match (generalizing := false) C.nm f, kwNs kws with
            | some (y, _), some ks => decide (x = y) && decide ((f, ks, perm) ∈ C.kw)
            | _, _ => false) && (l.isEmpty && chkKs C N sc args kws)) = true → T3 φ ER H0 X W (.call f args perm) (.Call (.Name x px) l kws p) := fun h9 => by
          obtain ⟨h7, h8⟩ := ba.mp h9
          obtain ⟨h3, h4⟩ := ba.mp h8
          clear h8 h9 h2 h
          cases l with
          | cons => exact absurd h3 Bool.false_ne_true
          | nil =>
            cases e1 : C.nm f with
            | none => rw [e1] at h7; exact absurd h7 Bool.false_ne_true
            | some yp =>
              cases e2 : kwNs kws with
              | none => rw [e1, e2] at h7; exact absurd h7 Bool.false_ne_true
              | some ks =>
                obtain ⟨y, ps⟩ := yp
                rw [e1, e2] at h7
                obtain ⟨h5, h6⟩ := ba.mp (show (decide (x = y) && decide ((f, ks, perm) ∈ C.kw)) = true from h7)
                cases of_decide_eq_true h5
                obtain ⟨k1, k2⟩ := eKs args c kws h4
                exact .of (kwPE c e1 h1 (of_decide_eq_true h6) e2 k2 k1) (fun _ => rfl) fun _ _ _ q => nomatch q
        match perm, kws, h2, kw with
        | [], [], h2, _ =>
          obtain ⟨h2, h3⟩ := ba.mp h2
          obtain ⟨h3, h4⟩ := ba.mp h3
          cases e1 : C.nm f with
          | none => rw [e1] at h2; exact absurd h2 Bool.false_ne_true
          | some yp =>
            obtain ⟨y, ps⟩ := yp
            rw [e1] at h2
            cases of_decide_eq_true (show decide (x = y) = true from h2)
            refine .of (callPE c e1 rfl h1 h3 (eAs args c l h3 h4) fun q => ?_) (fun _ => rfl) fun _ _ _ q => nomatch q
            subst q
            cases args with
            | nil => rfl
            | cons b => cases b <;> exact absurd h4 Bool.false_ne_true
        | _ :: _, _, h2, kw => exact kw h2
        | [], _ :: _, h2, kw => exact kw h2
      | _ => exact absurd h Bool.false_ne_true
    | _ => exact absurd h Bool.false_ne_true
  | .bc b args, X, N, sc, st, W, c, e, h => by
    cases e with
    | Call ef l kws p =>
      cases ef with
      | Name x px =>
        cases kws with
        | cons => exact absurd h Bool.false_ne_true
        | nil =>
          have gen : ((match (generalizing := false) fnName b, tyName b with
              | some y, _ => bltB sc x y
              | none, some y => bltB sc x y
              | _, _ => false) && (!l.isEmpty && (l.all plainE && chkEs C N sc args l))) = true → T3 φ ER H0 X W (.bc b args) (.Call (.Name x px) l [] p) := fun h9 => by
            obtain ⟨h1, h2⟩ := ba.mp h9
            obtain ⟨h2, h3⟩ := ba.mp h2
            obtain ⟨h3, h4⟩ := ba.mp h3
            exact .of (bcPE c h1 (by intro z; rw [z] at h2; cases h2) h3 (eAs args c l h3 h4)) (fun _ => rfl) fun _ _ _ q => nomatch q
          have isi : ∀ t l' y py, b = .isi [t] → l = [l', .Name y py] → (bltB sc x "isinstance" && (plainE l' && (decide (y = Str.ofString t) && (glbB sc y && (decide (t ∈ ["int", "bool", "str", "list", "tuple", "dict"]) && chkEs C N sc args [l']))))) = true →
              T3 φ ER H0 X W (.bc b args) (.Call (.Name x px) l [] p) := fun t l' y py e1 e2 h9 => by
            subst e1 e2
            obtain ⟨k1, h2⟩ := ba.mp h9
            obtain ⟨k2, h3⟩ := ba.mp h2
            obtain ⟨k3, h4⟩ := ba.mp h3
            obtain ⟨k4, h5⟩ := ba.mp h4
            obtain ⟨k5, k6⟩ := ba.mp h5
            clear h2 h3 h4 h5 h9 h gen
            cases args with
            | nil => exact absurd k6 Bool.false_ne_true
            | cons b0 a0 r0 =>
              cases b0 with
              | true => cases l' <;> first | exact absurd k2 Bool.false_ne_true | exact absurd k6 Bool.false_ne_true
              | false =>
                obtain ⟨k7, h8⟩ := ba.mp (show (plainE l' && (chkE C N sc a0 l' && chkEs C N sc r0 [])) = true from k6)
                obtain ⟨k8, k9⟩ := ba.mp h8
                clear h8 k6
                cases r0 with
                | nil => exact .of (isiPE c k1 k2 (of_decide_eq_true k3) k4 (of_decide_eq_true k5) (eE a0 c l' k8).v) (fun _ => rfl) fun _ _ _ q => nomatch q
                | cons b1 => cases b1 <;> exact absurd k9 Bool.false_ne_true
          replace h : (match (generalizing := false) b, l with
            | .isi [t], [l, .Name y _] => bltB sc x "isinstance" && (plainE l && (decide (y = Str.ofString t) && (glbB sc y && (decide (t ∈ ["int", "bool", "str", "list", "tuple", "dict"]) && chkEs C N sc args [l]))))
            | b, l => (match (generalizing := false) fnName b, tyName b with
              | some y, _ => bltB sc x y
              | none, some y => bltB sc x y
              | _, _ => false) && (!l.isEmpty && (l.all plainE && chkEs C N sc args l))) = true := h
          split at h
          · exact isi _ _ _ _ rfl rfl h
          · exact gen h
      | _ => exact absurd h Bool.false_ne_true
    | _ => exact absurd h Bool.false_ne_true
  | .mth m o args, X, N, sc, st, W, c, e, h => by
    cases e with
    | Call ef l kws p =>
      cases ef with
      | Attribute eo nm ap =>
        cases kws with
        | cons => exact absurd h Bool.false_ne_true
        | nil =>
          obtain ⟨h1, h2⟩ := ba.mp (show (decide (mtName m = some nm) && (objOk eo && ((ap.endLine == p.line) && (chkE C N sc o eo && (decide (l.length = 1) && (l.all plainE && chkEs C N sc args l)))))) = true from h)
          obtain ⟨k2, h3⟩ := ba.mp h2
          obtain ⟨k3, h4⟩ := ba.mp h3
          obtain ⟨k4, h5⟩ := ba.mp h4
          obtain ⟨k5, h6⟩ := ba.mp h5
          obtain ⟨k6, k7⟩ := ba.mp h6
          clear h2 h3 h4 h5 h6 h
          match l, k5, k6, k7 with
          | [e], _, h6, h7 => exact .of (mthPE (of_decide_eq_true h1) (eE o c eo k4).v k2 (by simpa using h6) k3 (eAs args c [e] h6 h7)) (fun _ => rfl) fun _ _ _ q => nomatch q
          | [], h5, _, _ => exact absurd (of_decide_eq_true h5) (by simp)
          | _ :: _ :: _, h5, _, _ => exact absurd (of_decide_eq_true h5) (by simp)
      | _ => exact absurd h Bool.false_ne_true
    | _ => exact absurd h Bool.false_ne_true
  | .lrange a b, X, N, sc, st, W, c, e, h => by
    cases e with
    | Call ef l kws p =>
      cases ef with
      | Name y py =>
        match l, kws, h with
        | [l], [], h =>
          obtain ⟨k1, h2⟩ := ba.mp (show (decide (y = "list") && (bltB sc "list" "list" && (bltB sc "range" "range" && (match (generalizing := false) blArgs "range" l with
            | some [e] => isI0 a && (plainE e && chkE C N sc b e)
            | some [ea, e] => plainE ea && (plainE e && (chkE C N sc a ea && chkE C N sc b e))
            | _ => false)))) = true from h)
          obtain ⟨k3, h4⟩ := ba.mp h2
          obtain ⟨k4, k5⟩ := ba.mp h4
          clear h2 h4 h
          cases of_decide_eq_true k1
          split at k5
          · rename_i e e1
            obtain ⟨p1, p2, rfl⟩ := blArgs_inv e1
            obtain ⟨k6, k7⟩ := ba.mp k5
            obtain ⟨k7, k8⟩ := ba.mp k7
            have e0 : a = .int 0 := by
              cases a <;> first | (cases of_decide_eq_true k6; rfl) | exact absurd k6 Bool.false_ne_true
            subst e0
            exact .of (lr1PE c k3 k4 (eE b c e k8).v k7) (fun _ => rfl) fun _ _ _ q => nomatch q
          · rename_i ea e e1
            obtain ⟨p1, p2, rfl⟩ := blArgs_inv e1
            obtain ⟨k6, k7⟩ := ba.mp k5
            obtain ⟨k7, k8⟩ := ba.mp k7
            obtain ⟨k8, k9⟩ := ba.mp k8
            exact .of (lr2PE c k3 k4 (eE a c ea k8).v (eE b c e k9).v k6 k7) (fun _ => rfl) fun _ _ _ q => nomatch q
          · exact absurd k5 Bool.false_ne_true
        | [], _, h => exact absurd h Bool.false_ne_true
        | _ :: _ :: _, _, h => exact absurd h Bool.false_ne_true
        | [_], _ :: _, h => exact absurd h Bool.false_ne_true
      | _ => exact absurd h Bool.false_ne_true
    | _ => exact absurd h Bool.false_ne_true
  | .pop i args, X, N, sc, st, W, c, e, h => by
    cases e with
    | Call ef l kws p =>
      cases ef with
      | Attribute eo nm ap =>
        cases eo with
        | Name x px =>
          cases kws with
          | cons => exact absurd h Bool.false_ne_true
          | nil =>
            obtain ⟨h1, h2⟩ := ba.mp (show (decide (nm = "pop") && (varB N sc i x && ((ap.endLine == p.line) && (oneB l && (l.all plainE && chkEs C N sc args l))))) = true from h)
            obtain ⟨k2, h3⟩ := ba.mp h2
            obtain ⟨k3, h4⟩ := ba.mp h3
            obtain ⟨k4, h5⟩ := ba.mp h4
            obtain ⟨k5, k6⟩ := ba.mp h5
            clear h2 h3 h4 h5 h
            cases of_decide_eq_true h1
            match l, k4, k5, k6 with
            | [], _, _, h6 =>
              cases args with
              | nil => exact .of (pop0PE c k2 k3) (fun _ => rfl) fun _ _ _ q => nomatch q
              | cons b => cases b <;> exact absurd h6 Bool.false_ne_true
            | [e], _, h5, h6 => exact .of (pop1PE c k2 k3 (by simpa using h5) (eAs args c [e] h5 h6)) (fun _ => rfl) fun _ _ _ q => nomatch q
            | _ :: _ :: _, h4, _, _ => exact absurd h4 Bool.false_ne_true
        | _ => exact absurd h Bool.false_ne_true
      | _ => exact absurd h Bool.false_ne_true
    | _ => exact absurd h Bool.false_ne_true
  | .lc own t it fl mc me, X, N, sc, st, W, c, e, h => by
    cases e with
    | ListComp elt gs scope p =>
      match gs, h with
      | [⟨tg, iter, ifs, 0⟩], h =>
        obtain ⟨h1, h2⟩ := ba.mp (show (blkC N sc scope own && (decide (∀ i ∈ t.ixs, i ∈ own.map (·.2)) && (notSet iter && (chkT N (stS scope) t tg && (chkI C N sc it tg iter && ((match (generalizing := false) fl, ifs with
          | false, [] => true
          | true, [e] => chkE C N (relS scope sc) mc e
          | _, _ => false) && chkE C N (relS scope sc) me elt)))))) = true from h)
        obtain ⟨h2, h3⟩ := ba.mp h2
        obtain ⟨h3, h4⟩ := ba.mp h3
        obtain ⟨h4, h5⟩ := ba.mp h4
        obtain ⟨h5, h6⟩ := ba.mp h5
        obtain ⟨h6, h7⟩ := ba.mp h6
        refine .of (lcPE c h1 (eI it c tg iter h5) h3 (of_decide_eq_true h2) (fun s H Ca cl fp => gT_of c.blk h4) (fun s H Ca cl fp => ?_) fun s H Ca cl fp => (eE me c.blk elt h7).v) (fun _ => rfl) fun _ _ _ q => nomatch q
        match fl, ifs, h6 with
        | false, [], _ => exact ptsNil
        | true, [e], h6 => exact ptsOne (eE mc c.blk e h6).t
        | false, _ :: _, h => exact absurd h Bool.false_ne_true
        | true, [], h => exact absurd h Bool.false_ne_true
        | true, _ :: _ :: _, h => exact absurd h Bool.false_ne_true
      | [], h => exact absurd h Bool.false_ne_true
      | ⟨x1, x2, x3, Nat.succ k⟩ :: x4, h => exact absurd h Bool.false_ne_true
      | ⟨x1, x2, x3, 0⟩ :: x4 :: x5, h => exact absurd h Bool.false_ne_true
    | _ => exact absurd h Bool.false_ne_true
  | .lc2 own t it fl mc vs1 t1 it1 fl1 mc1 me, X, N, sc, st, W, c, e, h => by
    cases e with
    | ListComp elt gs scope p =>
      match gs, h with
      | [⟨tg, iter, ifs, 0⟩, ⟨tg1, iter1, ifs1, 0⟩], h =>
        obtain ⟨h1, h2⟩ := ba.mp (show (blkC N sc scope own && (decide (∀ i ∈ t.ixs, i ∈ own.map (·.2)) && (decide (∀ i ∈ vs1, i ∈ own.map (·.2)) && (decide (∀ i ∈ t1.ixs, i ∈ vs1) && (notSet iter && (notSet iter1 && (chkT N (stS scope) t tg && (chkT N (stS scope) t1 tg1 &&
            (chkI C N sc it tg iter && (chkI C N (relS scope sc) it1 tg1 iter1 && ((match (generalizing := false) fl, ifs with
            | false, [] => true
            | true, [e] => chkE C N (relS scope sc) mc e
            | _, _ => false) && ((match (generalizing := false) fl1, ifs1 with
            | false, [] => true
            | true, [e] => chkE C N (relS scope sc) mc1 e
            | _, _ => false) && chkE C N (relS scope sc) me elt)))))))))))) = true from h)
        obtain ⟨h2, h3⟩ := ba.mp h2
        obtain ⟨h3, h4⟩ := ba.mp h3
        obtain ⟨h4, h5⟩ := ba.mp h4
        obtain ⟨h5, h6⟩ := ba.mp h5
        obtain ⟨h6, h7⟩ := ba.mp h6
        obtain ⟨h7, h8⟩ := ba.mp h7
        obtain ⟨h8, h9⟩ := ba.mp h8
        obtain ⟨h9, h10⟩ := ba.mp h9
        obtain ⟨h10, h11⟩ := ba.mp h10
        obtain ⟨h11, h12⟩ := ba.mp h11
        obtain ⟨h12, h13⟩ := ba.mp h12
        refine .of (lc2PE c h1 (eI it c tg iter h9) h5 h6 (of_decide_eq_true h2) (of_decide_eq_true h3) (of_decide_eq_true h4) (fun s H Ca cl fp => gT_of c.blk h7) (fun s H Ca cl fp => ?_)
          (fun s H Ca cl fp => eI it1 c.blk tg1 iter1 h10) (fun s H Ca cl fp => gT_of c.blk h8) (fun s H Ca cl fp => ?_) fun s H Ca cl fp => (eE me c.blk elt h13).v) (fun _ => rfl) fun _ _ _ q => nomatch q
        · match fl, ifs, h11 with
          | false, [], _ => exact ptsNil
          | true, [e], h6 => exact ptsOne (eE mc c.blk e h6).t
          | false, _ :: _, h => exact absurd h Bool.false_ne_true
          | true, [], h => exact absurd h Bool.false_ne_true
          | true, _ :: _ :: _, h => exact absurd h Bool.false_ne_true
        · match fl1, ifs1, h12 with
          | false, [], _ => exact ptsNil
          | true, [e], h6 => exact ptsOne (eE mc1 c.blk e h6).t
          | false, _ :: _, h => exact absurd h Bool.false_ne_true
          | true, [], h => exact absurd h Bool.false_ne_true
          | true, _ :: _ :: _, h => exact absurd h Bool.false_ne_true
      | [], h => exact absurd h Bool.false_ne_true
      | ⟨x1, x2, x3, Nat.succ k⟩ :: x4, h => exact absurd h Bool.false_ne_true
      | [⟨x1, x2, x3, 0⟩], h => exact absurd h Bool.false_ne_true
      | ⟨x1, x2, x3, 0⟩ :: ⟨x4, x5, x6, Nat.succ k⟩ :: x7, h => exact absurd h Bool.false_ne_true
      | ⟨x1, x2, x3, 0⟩ :: ⟨x4, x5, x6, 0⟩ :: x7 :: x8, h => exact absurd h Bool.false_ne_true
    | _ => exact absurd h Bool.false_ne_true
theorem eEs : ∀ (m : Es) {X : Cx} {N : List Str} {sc : Scope} {st : Str → Bool} {W : WX}, Cn C φ ER n X N sc st W → ∀ (l : List Expr), chkEs C N sc m l = true → PA X l (tEs (Pw X H0 ER W) φ m)
  | .nil, X, N, sc, st, W, c, l, h => by
    cases l with
    | nil => exact esNil
    | cons => exact absurd h Bool.false_ne_true
  | .cons b e r, X, N, sc, st, W, c, l, h => by
    cases l with
    | nil => cases b <;> exact absurd h Bool.false_ne_true
    | cons x l =>
      cases b with
      | false =>
        obtain ⟨h1, h2⟩ := ba.mp (show (plainE x && (chkE C N sc e x && chkEs C N sc r l)) = true from h)
        obtain ⟨h2, h3⟩ := ba.mp h2
        exact esCons h1 (eE e c x h2).v (eEs r c l h3)
      | true =>
        cases x with
        | Starred x p =>
          obtain ⟨h1, h2⟩ := ba.mp (show (chkE C N sc e x && chkEs C N sc r l) = true from h)
          exact esStar (eE e c x h1).v (eEs r c l h2)
        | _ => exact absurd h Bool.false_ne_true
theorem eAs : ∀ (m : Es) {X : Cx} {N : List Str} {sc : Scope} {st : Str → Bool} {W : WX}, Cn C φ ER n X N sc st W → ∀ (l : List Expr), l.all plainE = true → chkEs C N sc m l = true → PA X l (tAs (Pw X H0 ER W) φ m)
  | .nil, X, N, sc, st, W, c, l, hp, h => by
    cases l with
    | nil => exact asNil
    | cons => exact absurd h Bool.false_ne_true
  | .cons b e r, X, N, sc, st, W, c, l, hp, h => by
    cases l with
    | nil => cases b <;> exact absurd h Bool.false_ne_true
    | cons x l =>
      rw [List.all_cons, Bool.and_eq_true] at hp
      cases b with
      | false =>
        obtain ⟨h1, h2⟩ := ba.mp (show (plainE x && (chkE C N sc e x && chkEs C N sc r l)) = true from h)
        obtain ⟨h2, h3⟩ := ba.mp h2
        exact asCons h1 (eE e c x h2).v (eAs r c l hp.2 h3)
      | true =>
        cases x with
        | Starred x p => exact absurd hp.1 Bool.false_ne_true
        | _ => exact absurd h Bool.false_ne_true
theorem eKs : ∀ (m : Es) {X : Cx} {N : List Str} {sc : Scope} {st : Str → Bool} {W : WX}, Cn C φ ER n X N sc st W → ∀ (l : List Keyword), chkKs C N sc m l = true → PK X l (tAs (Pw X H0 ER W) φ m) ∧ m.len = l.length
  | .nil, X, N, sc, st, W, c, l, h => by
    cases l with
    | nil => exact ⟨ksNil, rfl⟩
    | cons => exact absurd h Bool.false_ne_true
  | .cons b e r, X, N, sc, st, W, c, l, h => by
    cases l with
    | nil => cases b <;> exact absurd h Bool.false_ne_true
    | cons x l =>
      cases b with
      | false =>
        cases x with
        | mk nm x p =>
          obtain ⟨h1, h2⟩ := ba.mp (show (chkE C N sc e x && chkKs C N sc r l) = true from h)
          obtain ⟨k1, k2⟩ := eKs r c l h2
          exact ⟨ksCons (eE e c x h1).v k1, by rw [Es.len, k2] <;> rfl⟩
      | true => exact absurd h Bool.false_ne_true
theorem eI : ∀ (m : Itr) {X : Cx} {N : List Str} {sc : Scope} {st : Str → Bool} {W : WX}, Cn C φ ER n X N sc st W → ∀ (tg e : Expr), chkI C N sc m tg e = true → PI X tg e (tI (Pw X H0 ER W) φ m)
  | .seq m, X, N, sc, st, W, c, tg, e, h => seqPI (eE m c e h).v
  | .r1 a, X, N, sc, st, W, c, tg, e, h => by
    obtain ⟨k1, k2⟩ := ba.mp (show (bltB sc "range" "range" && (match (generalizing := false) blArgs "range" e with
      | some [e] => plainE e && chkE C N sc a e
      | _ => false)) = true from h)
    obtain ⟨_, g1, _, g3, _⟩ := c.bl k1
    split at k2
    · rename_i e1 q
      obtain ⟨p1, p2, rfl⟩ := blArgs_inv q
      obtain ⟨k3, k4⟩ := ba.mp k2
      exact r1PI g1 g3 (eE a c e1 k4).v k3
    · exact absurd k2 Bool.false_ne_true
  | .r2 a b, X, N, sc, st, W, c, tg, e, h => by
    obtain ⟨k1, k2⟩ := ba.mp (show (bltB sc "range" "range" && (match (generalizing := false) blArgs "range" e with
      | some [e1, e2] => plainE e1 && (plainE e2 && (chkE C N sc a e1 && chkE C N sc b e2))
      | _ => false)) = true from h)
    obtain ⟨_, g1, _, g3, _⟩ := c.bl k1
    split at k2
    · rename_i e1 e2 q
      obtain ⟨p1, p2, rfl⟩ := blArgs_inv q
      obtain ⟨k3, k4⟩ := ba.mp k2
      obtain ⟨k5, k6⟩ := ba.mp k4
      obtain ⟨k7, k8⟩ := ba.mp k6
      exact r2PI g1 g3 (eE a c e1 k7).v (eE b c e2 k8).v k3 k5
    · exact absurd k2 Bool.false_ne_true
  | .r3 a b d, X, N, sc, st, W, c, tg, e, h => by
    obtain ⟨k1, k2⟩ := ba.mp (show (bltB sc "range" "range" && (match (generalizing := false) blArgs "range" e with
      | some [e1, e2, e3] => plainE e1 && (plainE e2 && (plainE e3 && (chkE C N sc a e1 && (chkE C N sc b e2 && chkE C N sc d e3))))
      | _ => false)) = true from h)
    obtain ⟨_, g1, _, g3, _⟩ := c.bl k1
    split at k2
    · rename_i e1 e2 e3 q
      obtain ⟨p1, p2, rfl⟩ := blArgs_inv q
      obtain ⟨k3, k4⟩ := ba.mp k2
      obtain ⟨k5, k6⟩ := ba.mp k4
      obtain ⟨k7, k8⟩ := ba.mp k6
      obtain ⟨k9, k10⟩ := ba.mp k8
      obtain ⟨k11, k12⟩ := ba.mp k10
      exact r3PI g1 g3 (eE a c e1 k9).v (eE b c e2 k11).v (eE d c e3 k12).v k3 k5 k7
    · exact absurd k2 Bool.false_ne_true
  | .enum a, X, N, sc, st, W, c, tg, e, h => by
    obtain ⟨k0, k1⟩ := ba.mp (show (isTupE tg && (bltB sc "enumerate" "enumerate" && (match (generalizing := false) blArgs "enumerate" e with
      | some [e] => plainE e && chkE C N sc a e
      | _ => false))) = true from h)
    obtain ⟨k1, k2⟩ := ba.mp k1
    obtain ⟨tl, tk, tp, rfl⟩ := isTupE_inv k0
    obtain ⟨_, g1, _, g3, _⟩ := c.bl k1
    split at k2
    · rename_i e1 q
      obtain ⟨p1, p2, rfl⟩ := blArgs_inv q
      obtain ⟨k3, k4⟩ := ba.mp k2
      exact enumPI g1 g3 (eE a c e1 k4).v k3
    · exact absurd k2 Bool.false_ne_true
  | .zip a b, X, N, sc, st, W, c, tg, e, h => by
    obtain ⟨k0, k1⟩ := ba.mp (show (isTupE tg && (bltB sc "zip" "zip" && (match (generalizing := false) blArgs "zip" e with
      | some [e1, e2] => plainE e1 && (plainE e2 && (chkE C N sc a e1 && chkE C N sc b e2))
      | _ => false))) = true from h)
    obtain ⟨k1, k2⟩ := ba.mp k1
    obtain ⟨tl, tk, tp, rfl⟩ := isTupE_inv k0
    obtain ⟨_, g1, _, g3, _⟩ := c.bl k1
    split at k2
    · rename_i e1 e2 q
      obtain ⟨p1, p2, rfl⟩ := blArgs_inv q
      obtain ⟨k3, k4⟩ := ba.mp k2
      obtain ⟨k5, k6⟩ := ba.mp k4
      obtain ⟨k7, k8⟩ := ba.mp k6
      exact zipPI g1 g3 (eE a c e1 k7).v (eE b c e2 k8).v k3 k5
    · exact absurd k2 Bool.false_ne_true
end
end
end TW
end
/-! W21 -/
section
set_option Elab.async false
set_option linter.all false
set_option maxRecDepth 100000
set_option maxHeartbeats 4000000
set_option autoImplicit false
/-! TW, part 21: statements. -/
namespace TW
open PySem PySem.Spec L2
open PyProof.Rows hiding St
/-- a step of statements -/
structure Sg (K : PySem.W.Frag) (H0 : Hp) (S : Addr → Prop) (ρ : Loc) (σ : L2.St) (H : Hp) (S' : Addr → Prop) (ρ' : Loc) (σ' : L2.St) (H' : Hp) : Prop where
  sub : ∀ a, S a → S' a
  new : ∀ a, S' a → S a ∨ H0 a = none ∨ Mp ρ σ a
  mp : ∀ a, Mp ρ' σ' a → Mp ρ σ a
  kS : ∀ a, S a → H' a = H a
  kT : ∀ a vs, SqT K H a vs → SqT K H' a vs
section
variable {K : PySem.W.Frag} {H0 H H1 H2 : Hp} {S S1 S2 : Addr → Prop} {ρ ρ1 ρ2 : Loc} {σ σ1 σ2 : L2.St}
theorem Sg.refl : Sg K H0 S ρ σ H S ρ σ H := ⟨fun _ h => h, fun _ h => .inl h, fun _ h => h, fun _ _ => rfl, fun _ _ h => h⟩
theorem Sg.trans (x : Sg K H0 S ρ σ H S1 ρ1 σ1 H1) (y : Sg K H0 S1 ρ1 σ1 H1 S2 ρ2 σ2 H2) : Sg K H0 S ρ σ H S2 ρ2 σ2 H2 where
  sub := fun a h => y.sub a (x.sub a h)
  new := fun a h => by
    rcases y.new a h with h | h | h
    · exact x.new a h
    · exact .inr (.inl h)
    · exact .inr (.inr (x.mp a h))
  mp := fun a h => x.mp a (y.mp a h)
  kS := fun a h => (y.kS a (x.sub a h)).trans (x.kS a h)
  kT := fun a vs h => y.kT a vs (x.kT a vs h)
theorem Stp.sg (x : Stp H0 σ S ρ H S1 ρ1 H1) (R : Rl K H0 S ρ σ H) (R1 : Rl K H0 S1 ρ1 σ H1) : Sg K H0 S ρ σ H S1 ρ1 σ H1 where
  sub := x.sub
  new := fun a h => by
    rcases x.new a h with h | h | h
    · exact .inl h
    · exact .inr (.inl (R.h0 h))
    · obtain ⟨i, d, h1 | h1, h2⟩ := h
      · obtain ⟨p, k1, _, k3, _⟩ := R.ow i d h1
        rw [h2] at k1; cases k1
        exact .inr (.inl k3)
      · exact .inr (.inr ⟨i, d, h1, h2⟩)
  mp := fun a ⟨i, d, h1, h2⟩ => by
    obtain ⟨p, k1, _, k3, _⟩ := R1.mp i d h1
    rw [h2] at k1; cases k1
    obtain ⟨j, e, q1 | q1, q2⟩ := x.own a ⟨i, d, .inr h1, h2⟩
    · obtain ⟨p, k1, _, k4, _⟩ := R.ow j e q1
      rw [q2] at k1; cases k1
      exact absurd k4 k3
    · exact ⟨j, e, q1, q2⟩
  kS := fun a h => x.q.eqS R h
  kT := fun a vs h => x.sqT R h
theorem StT.sg {l : List Nat} (T : StT l σ ρ σ1 ρ1) : Sg K H0 S ρ σ H S ρ1 σ1 H := ⟨fun _ h => h, fun _ h => .inl h, T.mp, fun _ _ => rfl, fun _ _ h => h⟩
theorem Ext.sg (R : Rl K H0 S ρ σ H) (x : Ext H H1) : Sg K H0 S ρ σ H S ρ σ H1 := ⟨fun _ h => h, fun _ h => .inl h, fun _ h => h, fun a h => x.q.eqS R h, fun _ _ h => x.sqT h⟩
end
/-- what is wanted behind a statement -/
def AfS (P : Pm) (S : Addr → Prop) (ρ : Loc) (σ : L2.St) (H : Hp) (x : Res Fl) (D : Ends) : Prop := match x with
  | .ok .nx ρ' => ∀ σ' H' S', Rl P.K P.H0 S' ρ' σ' H' → Sg P.K P.H0 S ρ σ H S' ρ' σ' H' → D.nx σ' H'
  | .ok .bk ρ' => ∀ σ' H' S', Rl P.K P.H0 S' ρ' σ' H' → Sg P.K P.H0 S ρ σ H S' ρ' σ' H' → D.bk σ' H'
  | .ok .ct ρ' => ∀ σ' H' S', Rl P.K P.H0 S' ρ' σ' H' → Sg P.K P.H0 S ρ σ H S' ρ' σ' H' → D.ct σ' H'
  | .ok (.rt o) ρ' => ∀ v σ' H' S', Rl P.K P.H0 S' ρ' σ' H' → Sg P.K P.H0 S ρ σ H S' ρ' σ' H' → OpdRep P.K P.H0 σ' P.H0 S' ρ' H' v o → D.rt v H'
  | .ex x ρ' => ∀ cls dx σ' H' S', Rl P.K P.H0 S' ρ' σ' H' → Sg P.K P.H0 S ρ σ H S' ρ' σ' H' → P.ER x cls dx H' → P.W cls dx σ' H'
  | .no => False
def tS (P : Pm) (ev : Loc → Res Fl) : TS := fun D σ H => ∃ S ρ, Rl P.K P.H0 S ρ σ H ∧ AfS P S ρ σ H (ev ρ) D
section
variable {P : Pm} {S S1 : Addr → Prop} {ρ ρ1 : Loc} {σ σ1 : L2.St} {H H1 : Hp} {En : Ends}
theorem AfS.rebase {x : Res Fl} (h : AfS P S ρ σ H x En) (g : Sg P.K P.H0 S ρ σ H S1 ρ1 σ1 H1) : AfS P S1 ρ1 σ1 H1 x En := by
  cases x with
  | ok fl ρ2 =>
    cases fl with
    | nx => exact fun σ' H' S' R s => h σ' H' S' R (g.trans s)
    | bk => exact fun σ' H' S' R s => h σ' H' S' R (g.trans s)
    | ct => exact fun σ' H' S' R s => h σ' H' S' R (g.trans s)
    | rt o => exact fun v σ' H' S' R s q => h v σ' H' S' R (g.trans s) q
  | ex x ρ2 => exact fun cls dx σ' H' S' R s q => h cls dx σ' H' S' R (g.trans s) q
  | no => exact h
theorem AfS.bd {α β : Type} {R1 : RlT α β} (an : Anti R1) (R : Rl P.K P.H0 S ρ σ H) {x : Res α} {f : α → Loc → Res Fl} (st : Stp P.H0 σ S ρ H S1 ρ1 H1) (h : AfS P S ρ σ H (x.bd f) En) :
    Aft P σ R1 S1 ρ1 H1 x fun v H2 => ∃ S2 ρ2 a, x = .ok a ρ2 ∧ Rl P.K P.H0 S2 ρ2 σ H2 ∧ Stp P.H0 σ S ρ H S2 ρ2 H2 ∧ Stp P.H0 σ S1 ρ1 H1 S2 ρ2 H2 ∧ R1 H S2 ρ2 H2 v a ∧ AfS P S ρ σ H (f a ρ2) En := by
  cases x with
  | ok a ρ2 => exact fun v H2 S2 r2 s2 q => ⟨S2, ρ2, a, rfl, r2, st.trans s2, s2, an _ _ _ _ _ _ _ st.dom q, h⟩
  | ex x ρ2 => exact fun cls dx H2 S2 r2 s2 q => h cls dx σ H2 S2 r2 ((st.trans s2).sg R r2) q
  | no => exact h
theorem AfS.esc {o : Opd} {v : V} {f : D → Loc → Res Fl} (R1 : Rl P.K P.H0 S1 ρ1 σ H1) (st : Stp P.H0 σ S ρ H S1 ρ1 H1) (hv : OpdRep P.K P.H0 σ H S1 ρ1 H1 v o) (h : AfS P S ρ σ H ((o.esc ρ1).bd f) En) :
    ∃ S2 ρ2 d, Rl P.K P.H0 S2 ρ2 σ H1 ∧ Stp P.H0 σ S ρ H S2 ρ2 H1 ∧ (∀ a, S1 a → S2 a) ∧ Rep P.K H1 S2 d v ∧ AfS P S ρ σ H (f d ρ2) En := by
  cases e : o.esc ρ1 with
  | ok d ρ2 =>
    rw [e] at h
    obtain ⟨S2, R2, st2, k, r2⟩ := esc_ok R1 st hv e
    exact ⟨S2, ρ2, d, R2, st2, k, r2, h⟩
  | ex x ρ2 => exact (esc_ex e).elim
  | no => rw [e] at h; exact h.elim
end
/-- where statements run -/
structure CnS (C : Ck) (φ : Fns) (ER : Exn → Value → Option Addr → Hp → Prop) (n : Nat) (X : Cx) (N : List Str) (sc : Scope) (st : Str → Bool) (W : WX) : Prop extends Cn C φ ER n X N sc st W where
  own : PassesOwn (model X.prog X.w) X.A X.env X.xe
  kind : sc.kind = .function
section
variable {C : Ck} {φ : Fns} {ER : Exn → Value → Option Addr → Hp → Prop} {n : Nat} {X : Cx} {N : List Str} {sc scope : Scope} {st : Str → Bool} {W : WX} {H0 : Hp}
abbrev tE (P : Pm) (φ : Fns) (m : Sm) : TS := tS P (evS φ m)
abbrev tB (P : Pm) (φ : Fns) (m : Ss) : TS := tS P (evSs φ m)
theorem retPS {m : Ex} {e : Expr} {p : Pos} (he : PE X e (tO (Pw X H0 ER W) φ m)) : PS X (.Return (some e) p) (tE (Pw X H0 ER W) φ (.ret m)) :=
  PS.weak (ps_ret he) fun En σ H ⟨S, ρ, R, h⟩ => by
    rw [evS] at h
    refine ⟨S, ρ, R, (AfS.bd anti_opd R Stp.refl h).mono fun v H1 ⟨S1, ρ1, x, _, R1, st1, _, o1, h1⟩ => ?_⟩
    exact h1 v σ H1 S1 R1 (st1.sg R R1) (anti_opd _ _ _ _ _ _ _ R.ent o1)
theorem retNPS {p : Pos} : PS X (.Return none p) (tE (Pw X H0 ER W) φ .retN) :=
  PS.weak ps_retN fun En σ H ⟨S, ρ, R, h⟩ => by
    rw [evS] at h
    exact h .non σ H S R Sg.refl rfl
def notComp : Expr → Bool
  | .ListComp .. => false
  | .SetComp .. => false
  | .DictComp .. => false
  | _ => true
theorem swNone {e : Expr} {l : Nat} {env : PySem.Env} (h : notComp e = true) : swapsWith e none l env = pure false := by
  cases e <;> first | rfl | cases h
theorem expPS {m : Ex} {e : Expr} {p : Pos} (he : PE X e (tO (Pw X H0 ER W) φ m)) (hs : notComp e = true) : PS X (.Expr e p) (tE (Pw X H0 ER W) φ (.exp m)) :=
  PS.weak (ps_expr he (swNone hs)) fun En σ H ⟨S, ρ, R, h⟩ => by
    rw [evS] at h
    refine ⟨S, ρ, R, (AfS.bd anti_opd R Stp.refl h).mono fun v H1 ⟨S1, ρ1, x, _, R1, st1, _, o1, h1⟩ => ?_⟩
    exact h1 σ H1 S1 R1 (st1.sg R R1)
theorem passPS {p : Pos} : PS X (.Pass p) (tE (Pw X H0 ER W) φ .pass) := PS.weak ps_pass fun En σ H ⟨S, ρ, R, h⟩ => by
  rw [evS] at h
  exact h σ H S R Sg.refl
theorem brkPS {p : Pos} : PS X (.Break p) (tE (Pw X H0 ER W) φ .brk) := PS.weak ps_break fun En σ H ⟨S, ρ, R, h⟩ => by
  rw [evS] at h
  exact h σ H S R Sg.refl
theorem contPS {p : Pos} : PS X (.Continue p) (tE (Pw X H0 ER W) φ .cont) := PS.weak ps_continue fun En σ H ⟨S, ρ, R, h⟩ => by
  rw [evS] at h
  exact h σ H S R Sg.refl
theorem ifPS {m : Ex} {a b : Ss} {e : Expr} {sa sb : List Stmt} {p : Pos} (he : PT X e (tT (Pw X H0 ER W) φ m)) (ha : PSs X sa (tB (Pw X H0 ER W) φ a)) (hb : PSs X sb (tB (Pw X H0 ER W) φ b)) : PS X (.If e sa sb p) (tE (Pw X H0 ER W) φ (.ifs m a b)) :=
  PS.weak (ps_if he ha hb) fun En σ H ⟨S, ρ, R, h⟩ => by
    rw [evS] at h
    refine ⟨S, ρ, R, (AfS.bd anti_t R Stp.refl h).mono fun v H1 ⟨S1, ρ1, x, _, R1, st1, _, o1, h1⟩ => ?_⟩
    cases (show v = x from o1)
    cases v with
    | true => rw [if_pos rfl]; exact ⟨S1, ρ1, R1, AfS.rebase h1 (st1.sg R R1)⟩
    | false => rw [if_neg Bool.false_ne_true]; exact ⟨S1, ρ1, R1, AfS.rebase h1 (st1.sg R R1)⟩
theorem nilPS : PSs X [] (tB (Pw X H0 ER W) φ .nil) := PSs.weak pss_nil fun En σ H ⟨S, ρ, R, h⟩ => by
  rw [evSs] at h
  exact h σ H S R Sg.refl
theorem consPS {m : Sm} {r : Ss} {s : Stmt} {ss : List Stmt} (h1 : PS X s (tE (Pw X H0 ER W) φ m)) (h2 : PSs X ss (tB (Pw X H0 ER W) φ r)) : PSs X (s :: ss) (tB (Pw X H0 ER W) φ (.cons m r)) :=
  PSs.weak (pss_cons h1 h2) fun En σ H ⟨S, ρ, R, h⟩ => by
    rw [evSs] at h
    refine ⟨S, ρ, R, ?_⟩
    cases e : evS φ m ρ with
    | ok fl ρ1 =>
      rw [e] at h
      cases fl with
      | nx => exact fun σ' H' S' R' g => ⟨S', ρ1, R', AfS.rebase (show AfS _ S ρ σ H (evSs φ r ρ1) En from h) g⟩
      | bk => exact h
      | ct => exact h
      | rt o => exact h
    | ex x ρ1 => rw [e] at h; exact h
    | no => rw [e] at h; exact h.elim
theorem forPS (c : CnS C φ ER n X N sc st W) {t : Tg} {it : Itr} {b : Ss} {tg iter : Expr} {body : List Stmt} {p : Pos} (hns : notSet iter = true) (hi : PI X tg iter (tI (Pw X H0 ER W) φ it)) (hg : PG X tg (gT X.K H0 t)) (hb : PSs X body (tB (Pw X H0 ER W) φ b)) :
    PS X (.For tg iter body [] p) (tE (Pw X H0 ER W) φ (.for_ t it b)) :=
  PS.weak (ps_for c.own c.calm hi hg hb (folded hns)) fun En σ H ⟨S, ρ, R, h⟩ => by
    rw [evS] at h
    refine ⟨S, ρ, R, (AfS.bd anti_it R Stp.refl h).mono fun J H1 ⟨S1, ρ1, ds, _, R1, st1, _, it1, h1⟩ => ?_⟩
    have h1 := AfS.rebase h1 (st1.sg R R1)
    refine ⟨fun i m σ' Hh => m = ds.length - i ∧ i ≤ ds.length ∧ ∃ S2 ρ2, Rl X.K H0 S2 ρ2 σ' Hh ∧ Sg X.K H0 S1 ρ1 σ H1 S2 ρ2 σ' Hh ∧ AfS (Pw X H0 ER W) S2 ρ2 σ' Hh (forL t (evSs φ b) (ds.drop i) ρ2) En,
      ⟨ds.length, by simp, Nat.zero_le _, S1, ρ1, R1, Sg.refl, h1⟩, ?_⟩
    rintro i m σ' Hh ⟨rfl, hle, S2, ρ2, R2, g2, h2⟩
    obtain ⟨itm, stp⟩ := it1 Hh g2.kS g2.kT
    by_cases hlt : i = ds.length
    · subst hlt
      left
      refine ⟨stp, ?_⟩
      rw [List.drop_length, forL] at h2
      exact h2 σ' Hh S2 R2 Sg.refl
    · right
      have hi' : i < ds.length := by omega
      have hd : ds[i]? = some ds[i] := List.getElem?_eq_getElem hi'
      generalize ds[i] = d at hd
      obtain ⟨go, yl⟩ := itm i d hd
      refine ⟨go, _, fun σ'' H' h => ⟨ds.length - (i + 1), by omega, h⟩, fun x H' hy => ?_⟩
      obtain ⟨ex, rd⟩ := yl x H' hy
      rw [drop_at hd, forL] at h2
      cases e1 : tgD t d ρ2 with
      | none => rw [e1] at h2; exact h2.elim
      | some ρ3 =>
        rw [e1] at h2
        simp only at h2
        refine ⟨S2, ρ2, d, ρ3, R2.ext ex, Rep.wide g2.sub rd, e1, fun σ3 R3 T3 => ⟨S2, ρ3, R3, ?_⟩⟩
        have g3 : Sg X.K H0 S2 ρ2 σ' Hh S2 ρ3 σ3 H' := (Ext.sg R2 ex).trans T3.sg
        cases e2 : evSs φ b ρ3 with
        | no => rw [e2] at h2; exact h2.elim
        | ex e ρ4 => rw [e2] at h2; exact AfS.rebase (x := .ex e ρ4) h2 g3
        | ok fl ρ4 =>
          rw [e2] at h2
          cases fl with
          | nx => exact fun σ4 H4 S4 R4 g4 => ⟨rfl, by omega, S4, ρ4, R4, g2.trans (g3.trans g4), AfS.rebase (show AfS _ S2 ρ2 σ' Hh (forL t (evSs φ b) (ds.drop (i + 1)) ρ4) En from h2) (g3.trans g4)⟩
          | ct => exact fun σ4 H4 S4 R4 g4 => ⟨rfl, by omega, S4, ρ4, R4, g2.trans (g3.trans g4), AfS.rebase (show AfS _ S2 ρ2 σ' Hh (forL t (evSs φ b) (ds.drop (i + 1)) ρ4) En from h2) (g3.trans g4)⟩
          | bk => exact fun σ4 H4 S4 R4 g4 => h2 σ4 H4 S4 R4 (g3.trans g4)
          | rt o => exact fun v σ4 H4 S4 R4 g4 q => h2 v σ4 H4 S4 R4 (g3.trans g4) q
theorem whilePS (c : CnS C φ ER n X N sc st W) {m : Ex} {b : Ss} {e : Expr} {body : List Stmt} {p : Pos} (he : PT X e (tT (Pw X H0 ER W) φ m)) (hb : PSs X body (tB (Pw X H0 ER W) φ b)) : PS X (.While e body [] p) (tE (Pw X H0 ER W) φ (.while_ m b)) :=
  PS.weak (ps_while c.own he hb) fun En σ H ⟨S, ρ, R, h⟩ => by
    rw [evS, whL] at h
    split at h
    case isFalse => exact h.elim
    rename_i hex
    have hr := hex.choose_spec.choose_spec
    refine ⟨fun k σ' Hh => ∃ S2 ρ2 r, Rl X.K H0 S2 ρ2 σ' Hh ∧ wN (evT φ m) (evSs φ b) k ρ2 = some r ∧ AfS (Pw X H0 ER W) S2 ρ2 σ' Hh r En, ⟨hex.choose, S, ρ, _, R, hr, h⟩, ?_⟩
    rintro k σ1 Hh ⟨S2, ρ2, r, R2, hw, h2⟩
    cases k with
    | zero => cases hw
    | succ k =>
      rw [wN] at hw
      refine ⟨S2, ρ2, R2, ?_⟩
      cases e1 : evT φ m ρ2 with
      | no => rw [e1] at hw; cases hw; exact h2.elim
      | ex x ρ3 => rw [e1] at hw; cases hw; exact fun cls dx H3 S3 R3 st3 q => h2 cls dx σ1 H3 S3 R3 (st3.sg R2 R3) q
      | ok t ρ3 =>
        rw [e1] at hw
        rintro t' H3 S3 R3 st3 rfl
        have g3 := st3.sg R2 R3
        cases t' with
        | false =>
          cases hw
          rw [if_neg Bool.false_ne_true]
          exact h2 σ1 H3 S3 R3 g3
        | true =>
          rw [if_pos rfl]
          simp only at hw
          refine ⟨_, fun σ' H' q => ⟨k, Nat.lt_succ_self k, q⟩, S3, ρ3, R3, ?_⟩
          cases e2 : evSs φ b ρ3 with
          | no => rw [e2] at hw; cases hw; exact h2.elim
          | ex x ρ4 => rw [e2] at hw; cases hw; exact AfS.rebase (x := .ex x ρ4) h2 g3
          | ok fl ρ4 =>
            rw [e2] at hw
            cases fl with
            | nx => exact fun σ4 H4 S4 R4 g4 => ⟨S4, ρ4, r, R4, hw, AfS.rebase h2 (g3.trans g4)⟩
            | ct => exact fun σ4 H4 S4 R4 g4 => ⟨S4, ρ4, r, R4, hw, AfS.rebase h2 (g3.trans g4)⟩
            | bk => cases hw; exact fun σ4 H4 S4 R4 g4 => h2 σ4 H4 S4 R4 (g3.trans g4)
            | rt o => cases hw; exact fun v σ4 H4 S4 R4 g4 q => h2 v σ4 H4 S4 R4 (g3.trans g4) q
/-! ### stores -/
theorem Rl.setOw {K : PySem.W.Frag} {H : Hp} {S : Addr → Prop} {ρ : Loc} {σ : L2.St} (R : Rl K H0 S ρ σ H) {i : Nat} {d : D} {p : Addr} (hl : i < ρ.length) (hn : ∀ e, ρ[i]? ≠ some (.mp e)) (nS : ¬ S p) (h0 : H0 p = none) (nO : ¬ Own ρ σ p) (hc : Cel K H S p d) :
    Rl K H0 S (ρ.set i (.ow d)) (σ.set i (some (.ref p))) H ∧ Sg K H0 S ρ σ H S (ρ.set i (.ow d)) (σ.set i (some (.ref p))) H ∧ ∀ a, Own (ρ.set i (.ow d)) (σ.set i (some (.ref p))) a → a = p ∨ Own ρ σ a := by
  have hls : i < σ.length := by rw [← R.len]; exact hl
  have at' : ∀ {j : Nat} {sl : Slot}, (ρ.set i (.ow d))[j]? = some sl → (j = i ∧ sl = .ow d) ∨ (j ≠ i ∧ ρ[j]? = some sl) := fun {j sl} h => by
    by_cases e : j = i
    · subst e
      rw [List.getElem?_set_self hl] at h
      cases h
      exact .inl ⟨rfl, rfl⟩
    · rw [List.getElem?_set_ne (fun q => e q.symm)] at h
      exact .inr ⟨e, h⟩
  have σat : ∀ {j : Nat}, j ≠ i → (σ.set i (some (.ref p)))[j]? = σ[j]? := fun {j} e => List.getElem?_set_ne (fun q => e q.symm)
  have σi : (σ.set i (some (V.ref p)))[i]? = some (some (.ref p)) := List.getElem?_set_self hls
  refine ⟨⟨by simp [R.len], fun j e h => ?_, fun j e h => ?_, fun j e h => ?_, fun j k a h1 h2 ⟨d3, h3⟩ ⟨d4, h4⟩ => ?_, R.dom, fun a o h n => ?_, R.ent⟩, ⟨fun _ h => h, fun _ h => .inl h, fun a ⟨j, e, h1, h2⟩ => ?_, fun _ _ => rfl, fun _ _ h => h⟩, fun a ⟨j, e, h1, h2⟩ => ?_⟩
  · rcases at' h with ⟨_, q⟩ | ⟨z, q⟩
    · cases q
    · rw [σat z]; exact R.sh j e q
  · rcases at' h with ⟨z, q⟩ | ⟨z, q⟩
    · cases q; subst z; exact ⟨p, σi, nS, h0, hc⟩
    · rw [σat z]; exact R.ow j e q
  · rcases at' h with ⟨_, q⟩ | ⟨z, q⟩
    · cases q
    · rw [σat z]; exact R.mp j e q
  · have ownAt : ∀ {j : Nat} {e : D}, ((ρ.set i (.ow d))[j]? = some (.ow e) ∨ (ρ.set i (.ow d))[j]? = some (.mp e)) → j = i ∨ (j ≠ i ∧ (ρ[j]? = some (.ow e) ∨ ρ[j]? = some (.mp e))) := fun {j e} h => by
      rcases h with h | h
      · rcases at' h with ⟨z, _⟩ | ⟨z, q⟩
        · exact .inl z
        · exact .inr ⟨z, .inl q⟩
      · rcases at' h with ⟨z, _⟩ | ⟨z, q⟩
        · exact .inl z
        · exact .inr ⟨z, .inr q⟩
    rcases ownAt h3 with z3 | ⟨z3, q3⟩
    · rcases ownAt h4 with z4 | ⟨z4, q4⟩
      · rw [z3, z4]
      · exfalso
        rw [z3, σi] at h1
        rw [σat z4] at h2
        cases h1
        exact nO ⟨k, d4, q4, h2⟩
    · rcases ownAt h4 with z4 | ⟨z4, q4⟩
      · exfalso
        rw [z4, σi] at h2
        rw [σat z3] at h1
        cases h2
        exact nO ⟨j, d3, q3, h1⟩
      · rw [σat z3] at h1
        rw [σat z4] at h2
        exact R.one j k a h1 h2 ⟨d3, q3⟩ ⟨d4, q4⟩
  · refine R.old a o h fun j e hj => ?_
    have z : j ≠ i := fun z => hn e (by rw [← z]; exact hj)
    have := n j e (by rw [List.getElem?_set_ne (fun q => z q.symm)]; exact hj)
    rwa [σat z] at this
  · rcases at' h1 with ⟨_, q⟩ | ⟨z, q⟩
    · cases q
    · rw [σat z] at h2; exact ⟨j, e, q, h2⟩
  · rcases h1 with h1 | h1
    · rcases at' h1 with ⟨z, q⟩ | ⟨z, q⟩
      · rw [z, σi] at h2; cases h2; exact .inl rfl
      · rw [σat z] at h2; exact .inr ⟨j, e, .inl q, h2⟩
    · rcases at' h1 with ⟨z, q⟩ | ⟨z, q⟩
      · cases q
      · rw [σat z] at h2; exact .inr ⟨j, e, .inr q, h2⟩
/-- behind name = value -/
theorem asgW {t : Tg} {own : Bool} {m : Ex} {i : Nat} (ht : t = .v i) (En : Ends) (σ : L2.St) (H : Hp) (h : tE (Pw X H0 ER W) φ (.asg t own m) En σ H) : tAsg (tO (Pw X H0 ER W) φ m) (gName i) En σ H := by
  subst ht
  obtain ⟨S, ρ, R, h⟩ := h
  rw [evS] at h
  refine ⟨S, ρ, R, (AfS.bd anti_opd R Stp.refl h).mono fun v H1 ⟨S1, ρ1, x, _, R1, st1, _, o1, h1⟩ => ?_⟩
  cases own with
  | false =>
    have h1 : AfS (Pw X H0 ER W) S ρ σ H ((x.esc ρ1).bd fun d ρ2 => match tgD (.v i) d ρ2 with
      | some ρ3 => .ok .nx ρ3
      | none => .no) En := h1
    obtain ⟨S2, ρ2, d, R2, st2, _, r2, h2⟩ := AfS.esc R1 st1 o1 h1
    cases e1 : tgD (.v i) d ρ2 with
    | none => rw [e1] at h2; exact h2.elim
    | some ρ3 =>
      rw [e1] at h2
      obtain ⟨R3, T3⟩ := R2.setSh e1 r2
      exact h2 _ H1 S2 R3 ((st2.sg R R2).trans T3.sg)
  | true =>
    cases x with
    | v d => exact h1.elim
    | b j => exact h1.elim
    | f d =>
      obtain ⟨p, rfl, nS, h0, hb, nO, hc⟩ := o1
      have h1 : AfS (Pw X H0 ER W) S ρ σ H (match ρ1[i]? with
        | some (.mp _) => .no
        | some _ => .ok .nx (ρ1.set i (.ow d))
        | none => .no) En := h1
      cases e1 : ρ1[i]? with
      | none => rw [e1] at h1; exact h1.elim
      | some sl =>
        have hl := (List.getElem?_eq_some_iff.mp e1).1
        have key : (∀ e, ρ1[i]? ≠ some (.mp e)) → AfS (Pw X H0 ER W) S ρ σ H (.ok .nx (ρ1.set i (.ow d))) En → gName i (.ref p) σ H1 En.nx := fun hn h1 => by
          obtain ⟨R2, g2, _⟩ := R1.setOw hl hn nS h0 nO hc
          exact h1 _ H1 S1 R2 ((st1.sg R R1).trans g2)
        rw [e1] at h1
        cases sl with
        | mp e => exact h1.elim
        | un => exact key (fun e z => by rw [e1] at z; cases z) h1
        | sh e => exact key (fun e z => by rw [e1] at z; cases z) h1
        | ow e => exact key (fun e z => by rw [e1] at z; cases z) h1
theorem asgTW {t : Tg} {m : Ex} (En : Ends) (σ : L2.St) (H : Hp) (h : tE (Pw X H0 ER W) φ (.asg t false m) En σ H) : tAsg (tO (Pw X H0 ER W) φ m) (gT X.K H0 t) En σ H := by
  obtain ⟨S, ρ, R, h⟩ := h
  rw [evS] at h
  refine ⟨S, ρ, R, (AfS.bd anti_opd R Stp.refl h).mono fun v H1 ⟨S1, ρ1, x, _, R1, st1, _, o1, h1⟩ => ?_⟩
  have h1 : AfS (Pw X H0 ER W) S ρ σ H ((x.esc ρ1).bd fun d ρ2 => match tgD t d ρ2 with
    | some ρ3 => .ok .nx ρ3
    | none => .no) En := by cases t <;> exact h1
  obtain ⟨S2, ρ2, d, R2, st2, _, r2, h2⟩ := AfS.esc R1 st1 o1 h1
  cases e1 : tgD t d ρ2 with
  | none => rw [e1] at h2; exact h2.elim
  | some ρ3 =>
    rw [e1] at h2
    exact ⟨S2, ρ2, d, ρ3, R2, r2, e1, fun σ' R' T' => h2 σ' H1 S2 R' ((st2.sg R R2).trans T'.sg)⟩
theorem swNot {e t : Expr} {l : Nat} {env : PySem.Env} (h : ∀ x p, t ≠ .Name x p) : swapsWith e (some t) l env = pure false := by
  cases e <;> first
    | rfl
    | (cases t <;> first | rfl | exact absurd rfl (h _ _))
end
end TW
end
/-! W22 -/
section
set_option Elab.async false
set_option linter.all false
set_option maxRecDepth 100000
set_option maxHeartbeats 4000000
set_option autoImplicit false
/-! TW, part 22: stores into own lists; pairs of stores. -/
namespace TW
open PySem PySem.Spec L2
open PyProof.Rows hiding St
section
variable {C : Ck} {φ : Fns} {ER : Exn → Value → Option Addr → Hp → Prop} {n : Nat} {X : Cx} {N : List Str} {sc scope : Scope} {st : Str → Bool} {W : WX} {H0 : Hp}
/-- xs.append(e) -/
theorem appPS (c : CnS C φ ER n X N sc st W) {i : Nat} {m : Ex} {e : Expr} {x : Str} {px ap pos p : Pos} (h : varB N sc i x = true) (hl : (ap.endLine == pos.line) = true) (hp : plainE e = true) (he : PE X e (tO (Pw X H0 ER W) φ m)) :
    PS X (.Expr (.Call (.Attribute (.Name x px) "append" ap) [e] [] pos) p) (tE (Pw X H0 ER W) φ (.app i m)) := by
  refine PS.weak (ps_expr (pe_bm F.plainAttrs_list F.slot_list_append F.type_list_append mt_append (popNm c.toCn h) (pa_cons he pa_nil (star_cons hp)) rfl (fewOne hp) hl (star_cons hp) rfl) rfl) fun En σ H ⟨S, ρ, R, h⟩ => ?_
  rw [evS] at h
  split at h
  case isFalse => exact h.elim
  rename_i ho
  obtain ⟨l, hl⟩ := ownL_inv ho
  obtain ⟨q, hq, _, hc, ow⟩ := R.ownAt hl
  obtain ⟨us, h1, h2⟩ := hc
  refine ⟨.ref q, hq, .inl ⟨rfl, us, SqL.of h1⟩, S, ρ, R, (AfS.bd anti_opd R Stp.refl h).mono fun v H1 ⟨S1, ρ1, x, _, R1, st1, _, o1, h1⟩ => ?_⟩
  obtain ⟨S2, ρ2, d, R2, st2, _, r2, h2⟩ := AfS.esc R1 st1 o1 h1
  cases e2 : ownD ρ2 i with
  | none => rw [e2] at h2; exact h2.elim
  | some cd =>
    rw [e2] at h2
    obtain ⟨q', hq', _, hc, ow⟩ := R2.ownAt e2
    rw [hq] at hq'; cases hq'
    cases cd with
    | lst l =>
      obtain ⟨us, k1, k2⟩ := hc
      replace h2 : AfS (Pw X H0 ER W) S ρ σ H (match (if l.length < sizeLine then some (D.lst (l ++ [d])) else none) with
        | some c' => .ok .nx (setOwn ρ2 i c')
        | none => .no) En := h2
      split at h2
      · rename_i c' ec
        split at ec
        · rename_i hz
          cases ec
          obtain ⟨R3, st3⟩ := R2.chg e2 hq k1 (k2.append (Reps.one r2))
          exact ⟨q, us, v, rfl, rfl, k1, by rw [k2.length]; exact hz, h2 σ _ S2 R3 ((st2.trans st3).sg R R3)⟩
        · cases ec
      · exact h2.elim
    | _ => exact h2.elim
/-- xs[k] = e -/
theorem setixPS (c : CnS C φ ER n X N sc st W) {i : Nat} {mk m : Ex} {ek e : Expr} {x : Str} {px p2 p : Pos} (h : varB N sc i x = true) (hk : PE X ek (tO (Pw X H0 ER W) φ mk)) (he : PE X e (tO (Pw X H0 ER W) φ m))
    (ha : ∀ v, assign (.Subscript (.Name x px) ek p2) X.env v = (do
      let ov ← holding [v] (eval (.Name x px) X.env)
      let iv ← holding [v, ov] (eval ek X.env)
      standAt p2
      holding [v, ov, iv] (setItem ov iv v)
      release [v, ov, iv] [])) : PS X (.Assign [.Subscript (.Name x px) ek p2] e p) (tE (Pw X H0 ER W) φ (.setix i mk m)) := by
  refine PS.weak (ps_asg he (pg_sub (popNm c.toCn h) hk set_list ha) (show swapsWith e (some (.Subscript (.Name x px) ek p2)) p.line X.env = pure false from swNot (fun _ _ q => by cases q)) rfl rfl) fun En σ H ⟨S, ρ, R, h⟩ => ?_
  rw [evS] at h
  refine ⟨S, ρ, R, (AfS.bd anti_opd R Stp.refl h).mono fun v H1 ⟨S1, ρ1, x, _, R1, st1, _, o1, h1⟩ => ?_⟩
  obtain ⟨S2, ρ2, d, R2, st2, _, r2, h2⟩ := AfS.esc R1 st1 o1 h1
  split at h2
  case isFalse => exact h2.elim
  rename_i ho
  obtain ⟨l, hl⟩ := ownL_inv ho
  obtain ⟨q, hq, _, _, _⟩ := R2.ownAt hl
  refine ⟨.ref q, hq, S2, ρ2, R2, (AfS.bd anti_opd R st2 h2).mono fun u H3 ⟨S3, ρ3, y, _, R3, st3, s23, o3, h3⟩ => ?_⟩
  cases e3 : y.get ρ3 with
  | none => rw [e3] at h3; exact h3.elim
  | some kd =>
    cases e4 : ownD ρ3 i with
    | none => rw [e3, e4] at h3; exact h3.elim
    | some cd =>
      rw [e3, e4] at h3
      replace h3 : AfS (Pw X H0 ER W) S ρ σ H (match setD cd kd d with
        | some c' => .ok .nx (setOwn ρ3 i c')
        | none => .no) En := h3
      obtain ⟨q', hq', _, hc, ow⟩ := R3.ownAt e4
      rw [hq] at hq'; cases hq'
      unfold setD at h3
      split at h3
      · rename_i c' ec
        split at ec
        · rename_i l z
          obtain ⟨us, k1, k2⟩ := hc
          cases (show u = .int z from o3.sha R3 e3)
          split at ec
          · rename_i j ej
            cases ec
            have r3 : Rep X.K H3 S3 d v := s23.rep R2 r2
            obtain ⟨R4, st4⟩ := R3.chg e4 hq k1 (k2.set j r3)
            exact ⟨q, us, z, j, rfl, rfl, k1, by rw [k2.length]; exact ej, h3 σ _ S3 R4 ((st3.trans st4).sg R R4)⟩
          · cases ec
        · cases ec
      · exact h3.elim
/-! ### several values, stored -/
/-- an own thing among the values -/
def FrP : List V → List (Bool × D) → Addr → Prop
  | v :: vs, (b, _) :: ds, q => (b = true ∧ v = .ref q) ∨ FrP vs ds q
  | _, _, _ => False
def PsRep (K : PySem.W.Frag) (H0 : Hp) (σ : L2.St) (Hb : Hp) (S : Addr → Prop) (ρ : Loc) (H : Hp) : List V → List (Bool × D) → Prop
  | vs, [] => vs = []
  | vs, (b, d) :: r => ∃ v vr, vs = v :: vr ∧ (if b = true then ∃ p, v = .ref p ∧ ¬ S p ∧ H0 p = none ∧ Hb p = none ∧ H p ≠ none ∧ ¬ Own ρ σ p ∧ Cel K H S p d ∧ ¬ FrP vr r p else Rep K H S d v) ∧ PsRep K H0 σ Hb S ρ H vr r
theorem PsRep.fr {K : PySem.W.Frag} {H Hb : Hp} {S : Addr → Prop} {ρ : Loc} {σ : L2.St} {q : Addr} : ∀ {vs : List V} {ds : List (Bool × D)}, PsRep K H0 σ Hb S ρ H vs ds → FrP vs ds q → Hb q = none
  | [], [], _, h => h.elim
  | _ :: _, [], _, h => h.elim
  | [], _ :: _, _, h => h.elim
  | v :: vs, (b, d) :: ds, hp, h => by
    obtain ⟨v', vr, e, h1, h2⟩ := hp
    cases e
    rcases h with ⟨hb, hv⟩ | h
    · rw [if_pos hb] at h1
      obtain ⟨p, k1, _, _, k4, _⟩ := h1
      rw [hv] at k1; cases k1
      exact k4
    · exact PsRep.fr h2 h
theorem anti_ps {P : Pm} {σ : L2.St} : Anti (fun Hb S ρ H vs ds => PsRep P.K P.H0 σ Hb S ρ H vs ds) := fun Hb Hb' S ρ H vs ds k => by
  induction ds generalizing vs with
  | nil => exact fun h => h
  | cons x ds ih =>
    obtain ⟨b, d⟩ := x
    rintro ⟨v, vr, rfl, h1, h2⟩
    refine ⟨v, vr, rfl, ?_, ih vr h2⟩
    cases b with
    | false => exact h1
    | true =>
      rw [if_pos rfl] at h1 ⊢
      obtain ⟨p, k1, k2, k3, k4, k5⟩ := h1
      refine ⟨p, k1, k2, k3, ?_, k5⟩
      cases q : Hb p with
      | none => rfl
      | some o => exact absurd k4 (k p (by rw [q]; intro z; cases z))
abbrev tPs (P : Pm) (φ : Fns) (bs : List Bool) (m : Es) : TA := tR P (fun σ => fun Hb S ρ H vs ds => PsRep P.K P.H0 σ Hb S ρ H vs ds) (evPs φ bs m)
theorem Cel.stp {K : PySem.W.Frag} {H H' : Hp} {S S' : Addr → Prop} {ρ ρ' : Loc} {σ : L2.St} {p : Addr} {d : D} (x : Stp H0 σ S ρ H S' ρ' H') (R : Rl K H0 S ρ σ H) (nO : ¬ Own ρ σ p) (h : Cel K H S p d) : Cel K H' S' p d := by
  cases d with
  | lst l => obtain ⟨vs, h1, h2⟩ := h; exact ⟨vs, x.keep p _ h1 nO, x.reps R h2⟩
  | dct l =>
    have rv : ∀ {vs}, RepVs K H S l vs → RepVs K H' S' l vs := fun {vs} q => RepVs.mono x.sub (fun a hs => x.q.eqS R hs) (fun a vs q => x.sqT R q) l vs q
    rcases h with ⟨kvs, h1, h2, h3⟩ | ⟨kvs, h1, h2, h3⟩
    · exact .inl ⟨kvs, x.keep p _ h1 nO, h2, rv h3⟩
    · exact .inr ⟨kvs, x.keep p _ h1 nO, h2, rv h3⟩
  | _ => exact h.elim
theorem Aft.bdN {P : Pm} {σ : L2.St} {S S' : Addr → Prop} {ρ ρ' : Loc} {H H' : Hp} {α β γ δ : Type} {R1 : RlT α β} {R2 : RlT γ δ} {x : Res α} {f : α → Loc → Res γ} {Q : δ → Hp → Prop} (st : Stp P.H0 σ S ρ H S' ρ' H') (h : Aft P σ R2 S ρ H (x.bd f) Q) :
    Aft P σ R1 S' ρ' H' x fun v H1 => ∃ S1 ρ1 a, Rl P.K P.H0 S1 ρ1 σ H1 ∧ Stp P.H0 σ S ρ H S1 ρ1 H1 ∧ Stp P.H0 σ S' ρ' H' S1 ρ1 H1 ∧ R1 H' S1 ρ1 H1 v a ∧ Aft P σ R2 S ρ H (f a ρ1) Q := by
  cases x with
  | ok a ρ2 => exact fun v H2 S2 r2 s2 q => ⟨S2, ρ2, a, r2, st.trans s2, s2, q, h⟩
  | ex x ρ2 => exact fun cls dx H2 S2 r2 s2 q => h cls dx H2 S2 r2 (st.trans s2) q
  | no => exact h
theorem psNil {bs : List Bool} : PA X [] (tPs (Pw X H0 ER W) φ bs .nil) := PA.weak pa_nil fun σ H Q ⟨S, ρ, R, h⟩ => by
  cases bs with
  | nil => rw [evPs] at h; exact h [] H S R Stp.refl rfl
  | cons b bs => rw [evPs] at h; exact h.elim; all_goals simp
theorem psCons {b : Bool} {bs : List Bool} {m : Ex} {r : Es} {e : Expr} {es : List Expr} (hp : plainE e = true) (ha : PE X e (tO (Pw X H0 ER W) φ m)) (hr : PA X es (tPs (Pw X H0 ER W) φ bs r)) : PA X (e :: es) (tPs (Pw X H0 ER W) φ (b :: bs) (.cons false m r)) :=
  PA.weak (pa_cons ha hr (star_cons hp)) fun σ H Q ⟨S, ρ, R, h⟩ => by
    rw [evPs] at h
    refine ⟨S, ρ, R, (Aft.bd anti_opd Stp.refl h).mono fun v H1 ⟨S1, ρ1, x, R1, st1, _, o1, h1⟩ => ?_⟩
    cases b with
    | true =>
      cases x with
      | v d => exact h1.elim
      | b j => exact h1.elim
      | f d =>
        obtain ⟨p, rfl, nS, h0, hb, nO, hc⟩ := o1
        refine ⟨S1, ρ1, R1, (Aft.bdN (P := Pw X H0 ER W) st1 h1).mono fun vs H2 ⟨S2, ρ2, ds, R2, st2, s12, o2, h2⟩ => ?_⟩
        obtain ⟨ob, hob⟩ := hc.there
        have hp1 : H1 p ≠ none := by rw [hob]; intro z; cases z
        have nS2 : ¬ S2 p := s12.q.out nS hp1 nO
        exact h2 (.ref p :: vs) H2 S2 R2 st2 ⟨.ref p, vs, rfl, by
          rw [if_pos rfl]
          exact ⟨p, rfl, nS2, h0, hb, s12.dom p hp1, fun q => nO (s12.own p q), hc.stp s12 R1 nO, fun q => hp1 (o2.fr q)⟩, anti_ps (P := Pw X H0 ER W) _ _ _ _ _ _ _ st1.dom o2⟩
    | false =>
      obtain ⟨S2, ρ2, d, R2, st2, k2, r2, h2⟩ := Aft.esc R1 st1 o1 h1
      refine ⟨S2, ρ2, R2, (Aft.bd (P := Pw X H0 ER W) anti_ps st2 h2).mono fun vs H3 ⟨S3, ρ3, ds, R3, st3, s23, o3, h3⟩ => ?_⟩
      exact h3 (v :: vs) H3 S3 R3 st3 ⟨v, vs, rfl, s23.rep R2 r2, o3⟩
/-- one store, and what it leaves of the values behind -/
theorem storeV {K : PySem.W.Frag} {H Hb : Hp} {S : Addr → Prop} {ρ : Loc} {σ : L2.St} {i : Nat} {b : Bool} {d : D} {l : List (Tg × Bool)} {ds : List (Bool × D)} {v : V} {vr : List V} {ρ' : Loc} (R : Rl K H0 S ρ σ H)
    (hv : PsRep K H0 σ Hb S ρ H (v :: vr) ((b, d) :: ds)) (e : storeP ((.v i, b) :: l) ((b, d) :: ds) ρ = some ρ') :
    ∃ ρ1, storeP l ds ρ1 = some ρ' ∧ Rl K H0 S ρ1 (σ.set i (some v)) H ∧ Sg K H0 S ρ σ H S ρ1 (σ.set i (some v)) H ∧ PsRep K H0 (σ.set i (some v)) Hb S ρ1 H vr ds := by
  obtain ⟨v', vr', ev, h1, h2⟩ := hv
  cases ev
  have keep : ∀ {vs : List V} {ds : List (Bool × D)} {ρ1 : Loc} {σ1 : L2.St}, PsRep K H0 σ Hb S ρ H vs ds → (∀ q, FrP vs ds q → ¬ Own ρ σ q → ¬ Own ρ1 σ1 q) → PsRep K H0 σ1 Hb S ρ1 H vs ds := by
    intro vs ds
    induction ds generalizing vs with
    | nil => exact fun h _ => h
    | cons x ds ih =>
      obtain ⟨b, d⟩ := x
      rintro ρ1 σ1 ⟨v, vr, rfl, h1, h2⟩ k
      refine ⟨v, vr, rfl, ?_, ih h2 fun q hq => k q (.inr hq)⟩
      cases b with
      | false => exact h1
      | true =>
        rw [if_pos rfl] at h1 ⊢
        obtain ⟨p, k1, k2, k3, k4, k5, k6, k7⟩ := h1
        exact ⟨p, k1, k2, k3, k4, k5, k p (.inl ⟨rfl, k1⟩) k6, k7⟩
  cases b with
  | true =>
    rw [if_pos rfl] at h1
    obtain ⟨p, rfl, nS, h0, hb, hh, nO, hc, nF⟩ := h1
    have e' : (match ρ[i]? with
      | some (.mp _) => none
      | some _ => storeP l ds (ρ.set i (.ow d))
      | none => none) = some ρ' := e
    cases e1 : ρ[i]? with
    | none => rw [e1] at e'; cases e'
    | some sl =>
      have hl := (List.getElem?_eq_some_iff.mp e1).1
      have key : (∀ e, ρ[i]? ≠ some (.mp e)) → storeP l ds (ρ.set i (.ow d)) = some ρ' → ∃ ρ1, storeP l ds ρ1 = some ρ' ∧ Rl K H0 S ρ1 (σ.set i (some (.ref p))) H ∧ Sg K H0 S ρ σ H S ρ1 (σ.set i (some (.ref p))) H ∧ PsRep K H0 (σ.set i (some (.ref p))) Hb S ρ1 H vr ds := fun hn e2 => by
        obtain ⟨R2, g2, o2⟩ := R.setOw hl hn nS h0 nO hc
        refine ⟨_, e2, R2, g2, keep h2 fun q hq nq oq => ?_⟩
        rcases o2 q oq with rfl | z
        · exact nF hq
        · exact nq z
      rw [e1] at e'
      cases sl with
      | mp e => cases e'
      | un => exact key (fun e z => by rw [e1] at z; cases z) e'
      | sh e => exact key (fun e z => by rw [e1] at z; cases z) e'
      | ow e => exact key (fun e z => by rw [e1] at z; cases z) e'
  | false =>
    have e' : (match setSh ρ i d with
      | some ρ' => storeP l ds ρ'
      | none => none) = some ρ' := e
    cases e1 : setSh ρ i d with
    | none => rw [e1] at e'; cases e'
    | some ρ1 =>
      rw [e1] at e'
      obtain ⟨R1, T1⟩ := R.setSh e1 h1
      exact ⟨ρ1, e', R1, T1.sg, keep h2 fun q _ nq oq => nq (T1.own q oq)⟩
theorem store_nil {ρ ρ' : Loc} {ds : List (Bool × D)} (e : storeP [] ds ρ = some ρ') : ds = [] ∧ ρ' = ρ := by
  cases ds with
  | nil => cases e; exact ⟨rfl, rfl⟩
  | cons => cases e
theorem store_cons {i : Nat} {b : Bool} {l : List (Tg × Bool)} {ρ ρ' : Loc} {ds : List (Bool × D)} (e : storeP ((.v i, b) :: l) ds ρ = some ρ') : ∃ d r, ds = (b, d) :: r := by
  cases ds with
  | nil => cases b <;> cases e
  | cons x r =>
    obtain ⟨b', d⟩ := x
    cases b <;> cases b' <;> first | exact ⟨d, r, rfl⟩ | cases e
/-- x, y = a, b -/
theorem par2W {i j : Nat} {bi bj : Bool} {es : Es} (En : Ends) (σ : L2.St) (H : Hp) (h : tE (Pw X H0 ER W) φ (.asgp [(.v i, bi), (.v j, bj)] es) En σ H) : (tPs (Pw X H0 ER W) φ [bi, bj] es) σ H fun vs H1 => ∃ v w, vs = [v, w] ∧ En.nx ((σ.set i (some v)).set j (some w)) H1 := by
  obtain ⟨S, ρ, R, h⟩ := h
  rw [evS] at h
  refine ⟨S, ρ, R, (AfS.bd (P := Pw X H0 ER W) anti_ps R Stp.refl h).mono fun vs H1 ⟨S1, ρ1, ds, _, R1, st1, _, o1, h1⟩ => ?_⟩
  cases e : storeP [(.v i, bi), (.v j, bj)] ds ρ1 with
  | none => rw [e] at h1; exact h1.elim
  | some ρ2 =>
    rw [e] at h1
    obtain ⟨d, r, rfl⟩ := store_cons e
    obtain ⟨v, vr, rfl, _⟩ := id o1
    obtain ⟨ρ3, e3, R3, g3, o3⟩ := storeV R1 o1 e
    obtain ⟨d', r', rfl⟩ := store_cons e3
    obtain ⟨w, vr', rfl, _⟩ := id o3
    obtain ⟨ρ4, e4, R4, g4, o4⟩ := storeV R3 o3 e3
    obtain ⟨rfl, rfl⟩ := store_nil e4
    cases (show vr' = [] from o4)
    exact ⟨v, w, rfl, h1 _ H1 S1 R4 (((st1.sg R R1).trans g3).trans g4)⟩
theorem par3W {i j k : Nat} {bi bj bk : Bool} {es : Es} (En : Ends) (σ : L2.St) (H : Hp) (h : tE (Pw X H0 ER W) φ (.asgp [(.v i, bi), (.v j, bj), (.v k, bk)] es) En σ H) : (tPs (Pw X H0 ER W) φ [bi, bj, bk] es) σ H fun vs H1 => ∃ v w u, vs = [v, w, u] ∧ En.nx (((σ.set i (some v)).set j (some w)).set k (some u)) H1 := by
  obtain ⟨S, ρ, R, h⟩ := h
  rw [evS] at h
  refine ⟨S, ρ, R, (AfS.bd (P := Pw X H0 ER W) anti_ps R Stp.refl h).mono fun vs H1 ⟨S1, ρ1, ds, _, R1, st1, _, o1, h1⟩ => ?_⟩
  cases e : storeP [(.v i, bi), (.v j, bj), (.v k, bk)] ds ρ1 with
  | none => rw [e] at h1; exact h1.elim
  | some ρ2 =>
    rw [e] at h1
    obtain ⟨d, r, rfl⟩ := store_cons e
    obtain ⟨v, vr, rfl, _⟩ := id o1
    obtain ⟨ρ3, e3, R3, g3, o3⟩ := storeV R1 o1 e
    obtain ⟨d', r', rfl⟩ := store_cons e3
    obtain ⟨w, vr', rfl, _⟩ := id o3
    obtain ⟨ρ4, e4, R4, g4, o4⟩ := storeV R3 o3 e3
    obtain ⟨d5, r5, rfl⟩ := store_cons e4
    obtain ⟨u, vr5, rfl, _⟩ := id o4
    obtain ⟨ρ5, e5, R5, g5, o5⟩ := storeV R4 o4 e4
    obtain ⟨rfl, rfl⟩ := store_nil e5
    cases (show vr5 = [] from o5)
    exact ⟨v, w, u, rfl, h1 _ H1 S1 R5 ((((st1.sg R R1).trans g3).trans g4).trans g5)⟩
/-! ### stores one after another, the tuple made -/
theorem PsRep.keep {K : PySem.W.Frag} {H Hb : Hp} {S : Addr → Prop} {ρ ρ1 : Loc} {σ σ1 : L2.St} : ∀ {vs : List V} {ds : List (Bool × D)}, PsRep K H0 σ Hb S ρ H vs ds → (∀ q, ¬ Own ρ σ q → ¬ Own ρ1 σ1 q) → PsRep K H0 σ1 Hb S ρ1 H vs ds
  | _, [], h, _ => h
  | _, (b, d) :: ds, ⟨v, vr, e, h1, h2⟩, k => by
    refine ⟨v, vr, e, ?_, PsRep.keep h2 k⟩
    cases b with
    | false => exact h1
    | true =>
      rw [if_pos rfl] at h1 ⊢
      obtain ⟨p, k1, k2, k3, k4, k5, k6, k7⟩ := h1
      exact ⟨p, k1, k2, k3, k4, k5, k p k6, k7⟩
def chkTs (N : List Str) (st : Str → Bool) : List (Tg × Bool) → List Expr → Bool
  | [], [] => true
  | (.v i, _) :: l, .Name x _ :: es => stoB N st i x && chkTs N st l es
  | (.t0 m, false) :: l, .Tuple ts k p :: es => chkNs N st m ts && chkTs N st l es
  | _, _ => false
def gPs (K : PySem.W.Frag) (H0 : Hp) (l : List (Tg × Bool)) : TGs := fun vs σ H Q => ∃ S ρ ds ρ' Hb, Rl K H0 S ρ σ H ∧ PsRep K H0 σ Hb S ρ H vs ds ∧ storeP l ds ρ = some ρ' ∧ ∀ σ', Rl K H0 S ρ' σ' H → Sg K H0 S ρ σ H S ρ' σ' H → Q σ' H
theorem storesG (c : Cn C φ ER n X N sc st W) : ∀ {l : List (Tg × Bool)} {es : List Expr}, chkTs N st l es = true → PGs X es (gPs X.K H0 l) ∧ (assignEach es X.env).length = l.length ∧ (assignEach es X.env).findIdx? (·.1) = none
  | [], [], _ => by
    refine ⟨PGs.weak pgs_nil fun vs σ H Q ⟨S, ρ, ds, ρ', Hb, R, r, e, k⟩ => ?_, rfl, rfl⟩
    obtain ⟨rfl, rfl⟩ := store_nil e
    exact ⟨r, k _ R Sg.refl⟩
  | [], _ :: _, h => absurd h Bool.false_ne_true
  | (.v i, _) :: _, [], h => absurd h Bool.false_ne_true
  | (.t0 _, false) :: _, [], h => absurd h Bool.false_ne_true
  | (.t0 _, true) :: _, es, h => by cases es <;> exact absurd h Bool.false_ne_true
  | (.tp _ _, _) :: _, es, h => by cases es <;> exact absurd h Bool.false_ne_true
  | (.pp _ _, _) :: _, es, h => by cases es <;> exact absurd h Bool.false_ne_true
  | (.v i, b) :: l, e :: es, h => by
    cases e with
    | Name x px =>
      obtain ⟨h1, h2⟩ := Bool.and_eq_true_iff.mp (show (stoB N st i x && chkTs N st l es) = true from h)
      obtain ⟨k1, k2, k3⟩ := storesG c h2
      refine ⟨PGs.weak (pgs_cons (nameG c (p := px) h1) k1) fun vs σ H Q ⟨S, ρ, ds, ρ', Hb, R, r, e, k⟩ => ?_, ?_, ?_⟩
      · obtain ⟨d, dr, rfl⟩ := store_cons e
        obtain ⟨v, vr, rfl, _⟩ := id r
        obtain ⟨ρ1, e1, R1, g1, o1⟩ := storeV R r e
        exact ⟨v, vr, rfl, S, ρ1, dr, ρ', Hb, R1, o1, e1, fun σ' R' g' => k σ' R' (g1.trans g')⟩
      · show (_ :: assignEach es X.env).length = _
        rw [List.length_cons, k2, List.length_cons]
      · show (_ :: assignEach es X.env).findIdx? (·.1) = none
        rw [List.findIdx?_cons]
        show (if false = true then some 0 else _) = none
        rw [if_neg Bool.false_ne_true, k3] <;> rfl
    | _ => exact absurd h Bool.false_ne_true
  | (.t0 m, false) :: l, e :: es, h => by
    cases e with
    | Tuple ts tk tp =>
      obtain ⟨h1, h2⟩ := Bool.and_eq_true_iff.mp (show (chkNs N st m ts && chkTs N st l es) = true from h)
      obtain ⟨k1, k2, k3⟩ := storesG c h2
      refine ⟨PGs.weak (pgs_cons (tupG (H0 := H0) (k := tk) (p := tp) c h1) k1) fun vs σ H Q ⟨S, ρ, ds, ρ', Hb, R, r, e, k⟩ => ?_, ?_, ?_⟩
      · cases ds with
        | nil => cases e
        | cons x dr =>
          obtain ⟨b', d⟩ := x
          cases b' with
          | true => cases e
          | false =>
            obtain ⟨v, vr, rfl, r1, r2⟩ := r
            have e' : (match tgD (.t0 m) d ρ with
              | some ρ' => storeP l dr ρ'
              | none => none) = some ρ' := e
            cases e1 : tgD (.t0 m) d ρ with
            | none => rw [e1] at e'; cases e'
            | some ρ1 =>
              rw [e1] at e'
              exact ⟨v, vr, rfl, S, ρ, d, ρ1, R, r1, e1, fun σ1 R1 T1 => ⟨S, ρ1, dr, ρ', Hb, R1, r2.keep fun q nq oq => nq (T1.own q oq), e', fun σ' R' g' => k σ' R' (T1.sg.trans g')⟩⟩
      · show (_ :: assignEach es X.env).length = _
        rw [List.length_cons, k2, List.length_cons]
      · show (_ :: assignEach es X.env).findIdx? (·.1) = none
        rw [List.findIdx?_cons]
        show (if false = true then some 0 else _) = none
        rw [if_neg Bool.false_ne_true, k3] <;> rfl
    | _ => exact absurd h Bool.false_ne_true
theorem psq_len {K : PySem.W.Frag} {H Hb : Hp} {S : Addr → Prop} {ρ : Loc} {σ : L2.St} : ∀ {vs : List V} {ds : List (Bool × D)}, PsRep K H0 σ Hb S ρ H vs ds → vs.length = ds.length
  | _, [], h => by rw [show _ = [] from h]; rfl
  | _, _ :: _, ⟨v, vr, rfl, _, h2⟩ => congrArg (· + 1) (psq_len h2)
theorem storeP_len : ∀ {l : List (Tg × Bool)} {ds : List (Bool × D)} {ρ ρ' : Loc}, storeP l ds ρ = some ρ' → ds.length = l.length
  | [], ds, ρ, ρ', h => by rw [(store_nil h).1] <;> rfl
  | (t, b) :: l, [], ρ, ρ', h => by cases t <;> cases b <;> cases h
  | (t, b) :: l, (b', d) :: ds, ρ, ρ', h => by
    have sh : b = b' ∧ ∃ ρ1, storeP l ds ρ1 = some ρ' := by
      cases b with
      | true =>
        cases b' with
        | false => cases t <;> cases h
        | true =>
          cases t with
          | v i =>
            have e' : (match ρ[i]? with
              | some (.mp _) => none
              | some _ => storeP l ds (ρ.set i (.ow d))
              | none => none) = some ρ' := h
            split at e'
            · cases e'
            · exact ⟨rfl, _, e'⟩
            · cases e'
          | _ => cases h
      | false =>
        cases b' with
        | true => cases t <;> cases h
        | false =>
          have e' : (match tgD t d ρ with
            | some ρ' => storeP l ds ρ'
            | none => none) = some ρ' := by cases t <;> exact h
          split at e'
          · exact ⟨rfl, _, e'⟩
          · cases e'
    obtain ⟨_, ρ1, e⟩ := sh
    simp [storeP_len e]
theorem PsRep.ext {K : PySem.W.Frag} {H H' Hb : Hp} {S : Addr → Prop} {ρ : Loc} {σ : L2.St} : ∀ {vs : List V} {ds : List (Bool × D)}, PsRep K H0 σ Hb S ρ H vs ds → Ext H H' → (∀ a, S a → H a ≠ none) → PsRep K H0 σ Hb S ρ H' vs ds
  | _, [], h, _, _ => h
  | _, (b, d) :: ds, ⟨v, vr, e, h1, h2⟩, x, hd => by
    refine ⟨v, vr, e, ?_, PsRep.ext h2 x hd⟩
    cases b with
    | false => exact x.rep hd (fun _ q => q) h1
    | true =>
      rw [if_pos rfl] at h1 ⊢
      obtain ⟨p, k1, k2, k3, k4, k5, k6, k7, k8⟩ := h1
      exact ⟨p, k1, k2, k3, k4, x.dom k5, k6, k7.ext x hd, k8⟩
theorem tupAsgPS (c : CnS C φ ER n X N sc st W) {l : List (Tg × Bool)} {es : Es} {ts vs : List Expr} {k k2 : Nat} {p1 p2 p : Pos} (hts : chkTs N st l ts = true) (hz : l.length ≤ 16) (ha : PA X vs (tPs (Pw X H0 ER W) φ (l.map (·.2)) es))
    (hw : swappedStores [.Tuple ts k p1] (.Tuple vs k2 p2) X.env = pure none) : PS X (.Assign [.Tuple ts k p1] (.Tuple vs k2 p2) p) (tE (Pw X H0 ER W) φ (.asgp l es)) := by
  obtain ⟨k1, k2', k3⟩ := storesG (H0 := H0) c.toCn hts
  refine PS.weak (ps_asg (pe_tup ha) (pg_tup c.calm k1 k2' k3) rfl hw rfl) fun En σ H ⟨S, ρ, R, h⟩ => ?_
  rw [evS] at h
  refine ⟨S, ρ, R, (AfS.bd (P := Pw X H0 ER W) anti_ps R Stp.refl h).mono fun vs H1 ⟨S1, ρ1, ds, _, R1, st1, _, o1, h1⟩ => ?_⟩
  cases e : storeP l ds ρ1 with
  | none => rw [e] at h1; exact h1.elim
  | some ρ2 =>
    rw [e] at h1
    have hl := psq_len o1
    have hl2 := storeP_len e
    refine ⟨by rw [hl, hl2, sizeLine_eq]; omega, fun q hq => ⟨q, vs, rfl, SqT.of upd_same, by rw [hl, hl2], ?_⟩⟩
    exact ⟨S1, ρ1, ds, ρ2, H, R1.ext (Ext.upd hq), o1.ext (Ext.upd hq) R1.dom, e, fun σ' R' g' => h1 σ' _ S1 R' (((st1.sg R R1).trans (Ext.sg R1 (Ext.upd hq))).trans g')⟩
theorem swap2PS (c : CnS C φ ER n X N sc st W) {i j : Nat} {bi bj : Bool} {es : Es} {x y : Str} {a b : Expr} {px py p1 p2 p : Pos} {k k2 : Nat} (hi : stoB N st i x = true) (hj : stoB N st j y = true) (hij : i ≠ j) (hx : sc.names.lookup x = some .local) (hy : sc.names.lookup y = some .local)
    (ha : PA X [a, b] (tPs (Pw X H0 ER W) φ [bi, bj] es)) (hw : swappedStores [.Tuple [.Name x px, .Name y py] k p1] (.Tuple [a, b] k2 p2) X.env = pure (some [x, y])) :
    PS X (.Assign [.Tuple [.Name x px, .Name y py] k p1] (.Tuple [a, b] k2 p2) p) (tE (Pw X H0 ER W) φ (.asgp [(.v i, bi), (.v j, bj)] es)) := by
  have h1 := of_decide_eq_true (Bool.and_eq_true_iff.mp hi).1
  have h2 := of_decide_eq_true (Bool.and_eq_true_iff.mp hj).1
  exact PS.weak (ps_par c.calm (by rw [c.hN]; exact c.nd) (by rw [c.hN]; exact h1) (by rw [c.hN]; exact h2) hij (by rw [c.hsc]; exact hx) (by rw [c.hsc]; exact hy) ha hw rfl) par2W
/-- three plain local names -/
theorem ps_par3 {i j l : Nat} {x y z : Str} {a b e : Expr} {ta : TA} {px py pz p1 p2 p : Pos} {k k2 : Nat} (hc : X.calm = true) (hN : X.N.Nodup) (hi : X.N[i]? = some x) (hj : X.N[j]? = some y) (hl : X.N[l]? = some z) (hij : i ≠ j) (hil : i ≠ l) (hjl : j ≠ l)
    (hx : X.env.scope.names.lookup x = some .local) (hy : X.env.scope.names.lookup y = some .local) (hz : X.env.scope.names.lookup z = some .local) (ha : PA X [a, b, e] ta)
    (hw : swappedStores [.Tuple [.Name x px, .Name y py, .Name z pz] k p1] (.Tuple [a, b, e] k2 p2) X.env = pure (some [x, y, z])) :
    PS X (.Assign [.Tuple [.Name x px, .Name y py, .Name z pz] k p1] (.Tuple [a, b, e] k2 p2) p) (fun En σ H => ta σ H fun vs H1 => ∃ v w u, vs = [v, w, u] ∧ En.nx (((σ.set i (some v)).set j (some w)).set l (some u)) H1) := by
  refine ⟨fun pins s σ H En I h => ?_⟩
  rw [exec_Assign_arm]
  refine wpAny_bind (wpAny_standAt ?_)
  rw [show swapsWithSole [Expr.Tuple [.Name x px, .Name y py, .Name z pz] k p1] (.Tuple [a, b, e] k2 p2) p.line X.env = pure false from rfl]
  refine wpAny_bind (wpAny_pure ?_)
  rw [if_neg (by decide)]
  refine wpAny_bind (Tuple_ (thn (ha.run _ pins s σ H _ I h) fun us s1 ⟨vs, H1, I1, r1, v, w, u, e1, q1⟩ => ?_))
  subst e1
  obtain ⟨u1, ur, rfl, rv, r2⟩ : ∃ u1 ur, us = u1 :: ur ∧ RelV v u1 ∧ Vals [w, u] ur := by
    cases r1 with
    | cons p q => exact ⟨_, _, rfl, p, q⟩
  obtain ⟨u2, u3, rfl, rw2, ru⟩ := r2.two
  refine wpAny_newObj_type ?_ (by show 3 ≤ sizeLine; decide)
  have I2 : Inv X pins σ H1 { s1 with heap := s1.heap.push ⟨.type "tuple", none, .seq [u1, u2, u3].toArray 0, #[]⟩ } := I1.kept (t' := s1.toks) fun b o q => Heap.get?_push_of_some _ q
  rw [hw]
  refine wpAny_bind (wpAny_pure ?_)
  show wpAny (model X.prog X.w) X.A (do rule "assign.swapped-stores"; let items ← unpackItems (.ref s1.heap.objs.size) 3 none; assignInOrder [fun v => bindName X.env z v, fun v => bindName X.env y v, fun v => bindName X.env x v] items.reverse; pure Flow.next) _ _ _
  refine wpAny_bind (wpAny_rule (wpAny_bind (unpackItems_tuple (items := #[u1, u2, u3]) (I.ok.hd hc) (IsTup.new s1.heap _) fun h' hx' => ?_)))
  have I3 := I2.kept (h' := h') (t' := s1.toks) fun b o q => hx' b o (Nat.ne_of_lt (Heap.lt_size q)) q
  show wpAny _ _ (assignInOrder [fun v => bindName X.env z v, fun v => bindName X.env y v, fun v => bindName X.env x v] [u3, u2, u1] >>= fun _ => pure Flow.next) _ _ _
  refine wpAny_bind (assignInOrder_cons (wpAny_bindName (store_ok I3 hN hl (.inl hz) ru (fun s2 I4 => ?_) (.inr hz))))
  refine assignInOrder_cons (wpAny_bindName (store_ok I4 hN hj (.inl hy) rw2 (fun s3 I5 => ?_) (.inr hy)))
  refine assignInOrder_cons (wpAny_bindName (store_ok I5 hN hi (.inl hx) rv (fun s4 I6 => assignInOrder_nil (wpAny_pure ?_)) (.inr hx)))
  have es : ((σ.set l (some u)).set j (some w)).set i (some v) = ((σ.set i (some v)).set j (some w)).set l (some u) := by
    rw [List.set_comm _ _ (Ne.symm hjl), List.set_comm _ _ (Ne.symm hil), List.set_comm _ _ (Ne.symm hij)]
  rw [es] at I6
  exact ⟨_, H1, I6, q1⟩
theorem swap3PS (c : CnS C φ ER n X N sc st W) {i j l : Nat} {bi bj bl : Bool} {es : Es} {x y z : Str} {a b e : Expr} {px py pz p1 p2 p : Pos} {k k2 : Nat} (hi : stoB N st i x = true) (hj : stoB N st j y = true) (hl : stoB N st l z = true) (hij : i ≠ j) (hil : i ≠ l) (hjl : j ≠ l)
    (hx : sc.names.lookup x = some .local) (hy : sc.names.lookup y = some .local) (hz : sc.names.lookup z = some .local)
    (ha : PA X [a, b, e] (tPs (Pw X H0 ER W) φ [bi, bj, bl] es)) (hw : swappedStores [.Tuple [.Name x px, .Name y py, .Name z pz] k p1] (.Tuple [a, b, e] k2 p2) X.env = pure (some [x, y, z])) :
    PS X (.Assign [.Tuple [.Name x px, .Name y py, .Name z pz] k p1] (.Tuple [a, b, e] k2 p2) p) (tE (Pw X H0 ER W) φ (.asgp [(.v i, bi), (.v j, bj), (.v l, bl)] es)) := by
  have h1 := of_decide_eq_true (Bool.and_eq_true_iff.mp hi).1
  have h2 := of_decide_eq_true (Bool.and_eq_true_iff.mp hj).1
  have h3 := of_decide_eq_true (Bool.and_eq_true_iff.mp hl).1
  exact PS.weak (ps_par3 c.calm (by rw [c.hN]; exact c.nd) (by rw [c.hN]; exact h1) (by rw [c.hN]; exact h2) (by rw [c.hN]; exact h3) hij hil hjl (by rw [c.hsc]; exact hx) (by rw [c.hsc]; exact hy) (by rw [c.hsc]; exact hz) ha hw) par3W
/-! ### which way the stores go -/
def starE : Expr → Bool
  | .Starred .. => true
  | _ => false
def swp (sc : Scope) (ts vs : List Expr) : Option (Option (List Str)) :=
  if (!(ts.length == 2 || ts.length == 3) || vs.length != ts.length) = true then some none
  else if (vs.any starE) = true then some none
  else
    let names := ts.filterMap fun
      | .Name id pos => if (sc.names.lookup id == some .local && pos.line == (ts.head?.map (·.pos.line)).getD 0) = true then some id else none
      | _ => none
    if (names.length != ts.length || names.eraseDups.length != names.length) = true then some none
    else if (vs.all (foldedForSure 8)) = true then some none
    else if (vs.all (constantsAlone 8)) = true then none
    else some (some names)
theorem swp_eq {ts vs : List Expr} {k k2 : Nat} {p1 p2 : Pos} {env : PySem.Env} {r : Option (List Str)} (hk : env.scope.kind = .function) (h : swp env.scope ts vs = some r) : swappedStores [.Tuple ts k p1] (.Tuple vs k2 p2) env = pure r := by
  have hb : env.blockKind = .function := by unfold Env.blockKind; rw [hk] <;> rfl
  have f0 : (ScopeKind.function != ScopeKind.function) = false := rfl
  unfold swp at h
  unfold swappedStores
  simp only [hb, f0, Bool.or_false]
  split at h
  · rename_i h1
    cases h
    rw [if_pos h1]
  · rename_i h1
    rw [if_neg h1]
    split at h
    · rename_i h2
      cases h
      exact if_pos h2
    · rename_i h2
      refine (if_neg h2).trans ?_
      simp only at h
      split at h
      · rename_i h3
        cases h
        exact if_pos h3
      · rename_i h3
        refine (if_neg h3).trans ?_
        split at h
        · rename_i h4
          cases h
          exact if_pos h4
        · rename_i h4
          refine (if_neg h4).trans ?_
          split at h
          · cases h
          · rename_i h5
            cases h
            exact (if_neg h5).trans rfl
end
end TW
end
/-! W23 -/
section
set_option Elab.async false
set_option linter.all false
set_option maxRecDepth 100000
set_option maxHeartbeats 4000000
set_option autoImplicit false
/-! TW, part 23: the check of statements; all statements. -/
namespace TW
open PySem PySem.Spec L2
open PyProof.Rows hiding St
/-- whether a comprehension is stored as it ends -/
def swB (sc : Scope) (x : Str) (px : Pos) : Expr → Bool
  | .ListComp _ _ scope vp => (sc.names.lookup x == some .local) && (px.line == vp.line) && !(scope.names.any fun (n, k) => n == x && (k == .local || k == .cell))
  | _ => false
def isComp : Expr → Bool
  | .SetComp .. => true
  | .DictComp .. => true
  | _ => false
theorem swB_eq {v : Expr} {x : Str} {px : Pos} {l : Nat} {env : PySem.Env} (hk : env.scope.kind = .function) (hn : isComp v = false) : swapsWith v (some (.Name x px)) l env = pure (swB env.scope x px v) := by
  have hb : env.blockKind = .function := by unfold Env.blockKind; rw [hk] <;> rfl
  cases v with
  | ListComp e g s p =>
    unfold swapsWith
    simp only [hb]
    rfl
  | SetComp => cases hn
  | DictComp => cases hn
  | _ => rfl
def isLc : Ex → Bool
  | .lc .. => true
  | .lc2 .. => true
  | _ => false
def notName : Expr → Bool
  | .Name .. => false
  | .Starred .. => false
  | _ => true
def tupTg : List Expr → Option (List Expr)
  | [.Tuple ts _ _] => some ts
  | _ => none
def tupV : Expr → Option (List Expr)
  | .Tuple vs _ _ => some vs
  | _ => none
theorem tupV_inv {e : Expr} {l : List Expr} (h : tupV e = some l) : ∃ k p, e = .Tuple l k p := by
  unfold tupV at h
  split at h
  · cases h; exact ⟨_, _, rfl⟩
  · cases h
theorem tupTg_inv {e : List Expr} {l : List Expr} (h : tupTg e = some l) : ∃ k p, e = [.Tuple l k p] := by
  unfold tupTg at h
  split at h
  · cases h; exact ⟨_, _, rfl⟩
  · cases h
def lcl (sc : Scope) (x : Str) : Bool := decide (sc.names.lookup x = some .local)
/-- stores that go all at once -/
def chkPar (N : List Str) (sc : Scope) (st : Str → Bool) : List (Tg × Bool) → List Expr → Option (Option (List Str)) → Bool
  | l, ts, some none => chkTs N st l ts && decide (l.length ≤ 16)
  | [(.v i, _), (.v j, _)], [.Name x _, .Name y _], some (some r) => decide (r = [x, y]) && (decide (i ≠ j) && (stoB N st i x && (stoB N st j y && (lcl sc x && lcl sc y))))
  | [(.v i, _), (.v j, _), (.v l, _)], [.Name x _, .Name y _, .Name z _], some (some r) => decide (r = [x, y, z]) && (decide (i ≠ j) && (decide (i ≠ l) && (decide (j ≠ l) && (stoB N st i x && (stoB N st j y && (stoB N st l z && (lcl sc x && (lcl sc y && lcl sc z))))))))
  | _, _, _ => false
def subTg : List Expr → Option (Str × Expr)
  | [.Subscript (.Name x _) ek _] => some (x, ek)
  | _ => none
theorem subTg_inv {l : List Expr} {x : Str} {ek : Expr} (h : subTg l = some (x, ek)) : ∃ px p, l = [.Subscript (.Name x px) ek p] := by
  unfold subTg at h
  split at h
  · cases h; exact ⟨_, _, rfl⟩
  · cases h
def appTg : Expr → Option (Str × Expr)
  | .Call (.Attribute (.Name x _) nm ap) [v] [] pos => if nm = "append" ∧ (ap.endLine == pos.line) = true then some (x, v) else none
  | _ => none
theorem appTg_inv {e v : Expr} {x : Str} (h : appTg e = some (x, v)) : ∃ px ap pos, e = .Call (.Attribute (.Name x px) "append" ap) [v] [] pos ∧ (ap.endLine == pos.line) = true := by
  unfold appTg at h
  split at h
  · split at h
    · rename_i q
      obtain ⟨rfl, q⟩ := q
      cases h; exact ⟨_, _, _, rfl, q⟩
    · cases h
  · cases h
mutual
def chkS (C : Ck) (N : List Str) (sc : Scope) (st : Str → Bool) : Sm → Stmt → Bool
  | .asg t own e, .Assign [tg] v _ => (match t, tg with
    | .v i, .Name x px => stoB N st i x && (chkE C N sc e v && (!isComp v && (!swB sc x px v || isLc e)))
    | t, tg => notName tg && (!own && (chkT N st t tg && (chkE C N sc e v && !isTupE v))))
  | .asgp l es, .Assign tgs v _ => (match tupTg tgs, tupV v with
    | some ts, some vs => chkPar N sc st l ts (swp sc ts vs) && (decide (vs.length = ts.length) && (vs.all plainE && chkEs C N sc es vs))
    | _, _ => false)
  | .setix i k e, .Assign tgs v _ => (match subTg tgs with
    | some (x, ek) => varB N sc i x && (noSlice ek && (chkE C N sc k ek && chkE C N sc e v))
    | none => false)
  | .app i e, .Expr v _ => (match appTg v with
    | some (x, v) => varB N sc i x && (plainE v && chkE C N sc e v)
    | none => false)
  | .exp e, .Expr v _ => notComp v && chkE C N sc e v
  | .ifs c a b, .If t sa sb _ => chkE C N sc c t && (chkSs C N sc st a sa && chkSs C N sc st b sb)
  | .for_ t it b, .For tg iter body [] _ => notSet iter && (chkI C N sc it tg iter && (chkT N st t tg && chkSs C N sc st b body))
  | .while_ c b, .While t body [] _ => chkE C N sc c t && chkSs C N sc st b body
  | .ret e, .Return (some v) _ => chkE C N sc e v
  | .retN, .Return none _ => true
  | .raise, _ => true
  | .brk, .Break _ => true
  | .cont, .Continue _ => true
  | .pass, .Pass _ => true
  | _, _ => false
def chkSs (C : Ck) (N : List Str) (sc : Scope) (st : Str → Bool) : Ss → List Stmt → Bool
  | .nil, [] => true
  | .cons m r, s :: ss => chkS C N sc st m s && chkSs C N sc st r ss
  | _, _ => false
end
section
variable {C : Ck} {φ : Fns} {ER : Exn → Value → Option Addr → Hp → Prop} {n : Nat} {X : Cx} {N : List Str} {sc scope : Scope} {st : Str → Bool} {W : WX} {H0 : Hp}
theorem ePs (c : Cn C φ ER n X N sc st W) : ∀ (m : Es) (bs : List Bool) (l : List Expr), l.all plainE = true → chkEs C N sc m l = true → PA X l (tPs (Pw X H0 ER W) φ bs m)
  | .nil, bs, l, hp, h => by
    cases l with
    | nil => exact psNil
    | cons => exact absurd h Bool.false_ne_true
  | .cons b e r, bs, l, hp, h => by
    cases bs with
    | nil =>
      refine PA.weak (eAs (H0 := H0) (.cons b e r) c l hp h) fun σ H Q ⟨S, ρ, R, h⟩ => ?_
      have h : Aft (Pw X H0 ER W) σ (fun Hb S ρ H vs ds => PsRep X.K H0 σ Hb S ρ H vs ds) S ρ H (.no : Res (List (Bool × D))) Q := by
        unfold evPs at h; exact h
      exact h.elim
    | cons b' bs =>
      cases l with
      | nil => cases b <;> exact absurd h Bool.false_ne_true
      | cons x l =>
        rw [List.all_cons, Bool.and_eq_true] at hp
        cases b with
        | false =>
          obtain ⟨h1, h2⟩ := ba.mp (show (plainE x && (chkE C N sc e x && chkEs C N sc r l)) = true from h)
          obtain ⟨h2, h3⟩ := ba.mp h2
          exact psCons h1 (eE e c x h2).v (ePs c r bs l hp.2 h3)
        | true =>
          cases x with
          | Starred x p => exact absurd hp.1 Bool.false_ne_true
          | _ => exact absurd h Bool.false_ne_true
theorem neverPS {s : Stmt} : PS X s (tE (Pw X H0 ER W) φ .raise) := PS.weak ps_never fun En σ H ⟨S, ρ, R, h⟩ => by
  rw [evS] at h
  exact h
/-- name = [..], stored as the comprehension ends -/
theorem setLcPS (c : CnS C φ ER n X N sc st W) {m : Ex} {own : Bool} {i : Nat} {x : Str} {px p : Pos} {v : Expr} (hs : stoB N st i x = true) (hm : isLc m = true) (h : chkE C N sc m v = true) (hsw : swB sc x px v = true) : PS X (.Assign [.Name x px] v p) (tE (Pw X H0 ER W) φ (.asg (.v i) own m)) := by
  obtain ⟨h1, h2⟩ := Bool.and_eq_true_iff.mp hs
  have hN : X.N.Nodup := by rw [c.hN]; exact c.nd
  have hy : X.N[i]? = some x := by rw [c.hN]; exact of_decide_eq_true h1
  have hk : X.env.scope.kind = .function := by rw [c.hsc]; exact c.kind
  cases v with
  | ListComp elt gs scope vp =>
    have hl : sc.names.lookup x = some .local := by
      unfold swB at hsw
      rw [Bool.and_eq_true, Bool.and_eq_true] at hsw
      exact eq_of_beq hsw.1.1
    have hl' : X.env.scope.names.lookup x = some .local := by rw [c.hsc]; exact hl
    have hsw' : swapsWith (.ListComp elt gs scope vp) (some (.Name x px)) p.line X.env = pure true := by
      rw [swB_eq hk rfl, c.hsc, hsw]
    cases m with
    | lc own' t it fl mc me =>
      match gs, h, hsw' with
      | [⟨tg, iter, ifs, 0⟩], h, hsw' =>
        obtain ⟨k1, h2⟩ := ba.mp (show (blkC N sc scope own' && (decide (∀ i ∈ t.ixs, i ∈ own'.map (·.2)) && (notSet iter && (chkT N (stS scope) t tg && (chkI C N sc it tg iter && ((match (generalizing := false) fl, ifs with
          | false, [] => true
          | true, [e] => chkE C N (relS scope sc) mc e
          | _, _ => false) && chkE C N (relS scope sc) me elt)))))) = true from h)
        obtain ⟨k2, h3⟩ := ba.mp h2
        obtain ⟨k3, h4⟩ := ba.mp h3
        obtain ⟨k4, h5⟩ := ba.mp h4
        obtain ⟨k5, h6⟩ := ba.mp h5
        obtain ⟨k6, k7⟩ := ba.mp h6
        refine PS.weak (ps_setLc (te := tO (Pw X H0 ER WF) φ me) (g := gT X.K H0 t) c.calm hN hy hl' hsw' (eI (H0 := H0) it c.toCn tg iter k5) (blkOk_by (by rw [c.hN, c.hsc]; exact k1)) (fun s H Ca cl fp => gT_of (H0 := H0) c.toCn.blk k4) (tt := tTf (Pw X H0 ER WF) φ fl mc) (fun s H Ca cl fp => ?_) (fun s H Ca cl fp => (eE (H0 := H0) me c.toCn.blk elt k7).v) (folded k3)) fun En σ H q => ?_
        · match fl, ifs, k6 with
          | false, [], _ => exact ptsNil
          | true, [e], h6 => exact ptsOne (eE mc c.toCn.blk e h6).t
          | false, _ :: _, h => exact absurd h Bool.false_ne_true
          | true, [], h => exact absurd h Bool.false_ne_true
          | true, _ :: _ :: _, h => exact absurd h Bool.false_ne_true
        · exact lcW (of_decide_eq_true k2) σ H _ (asgW rfl En σ H q)
      | [], h, _ => exact absurd h Bool.false_ne_true
      | ⟨x1, x2, x3, Nat.succ k⟩ :: x4, h, _ => exact absurd h Bool.false_ne_true
      | ⟨x1, x2, x3, 0⟩ :: x4 :: x5, h, _ => exact absurd h Bool.false_ne_true
    | lc2 own' t it fl mc vs1 t1 it1 fl1 mc1 me =>
      match gs, h, hsw' with
      | [⟨tg, iter, ifs, 0⟩, ⟨tg1, iter1, ifs1, 0⟩], h, hsw' =>
        obtain ⟨h1, h2⟩ := ba.mp (show (blkC N sc scope own' && (decide (∀ i ∈ t.ixs, i ∈ own'.map (·.2)) && (decide (∀ i ∈ vs1, i ∈ own'.map (·.2)) && (decide (∀ i ∈ t1.ixs, i ∈ vs1) && (notSet iter && (notSet iter1 && (chkT N (stS scope) t tg && (chkT N (stS scope) t1 tg1 &&
            (chkI C N sc it tg iter && (chkI C N (relS scope sc) it1 tg1 iter1 && ((match (generalizing := false) fl, ifs with
            | false, [] => true
            | true, [e] => chkE C N (relS scope sc) mc e
            | _, _ => false) && ((match (generalizing := false) fl1, ifs1 with
            | false, [] => true
            | true, [e] => chkE C N (relS scope sc) mc1 e
            | _, _ => false) && chkE C N (relS scope sc) me elt)))))))))))) = true from h)
        obtain ⟨h2, h3⟩ := ba.mp h2
        obtain ⟨h3, h4⟩ := ba.mp h3
        obtain ⟨h4, h5⟩ := ba.mp h4
        obtain ⟨h5, h6⟩ := ba.mp h5
        obtain ⟨h6, h7⟩ := ba.mp h6
        obtain ⟨h7, h8⟩ := ba.mp h7
        obtain ⟨h8, h9⟩ := ba.mp h8
        obtain ⟨h9, h10⟩ := ba.mp h9
        obtain ⟨h10, h11⟩ := ba.mp h10
        obtain ⟨h11, h12⟩ := ba.mp h11
        obtain ⟨h12, h13⟩ := ba.mp h12
        refine PS.weak (ps_setLc2 (te := tO (Pw X H0 ER WF) φ me) (g := gT X.K H0 t) (g1 := gT X.K H0 t1) (wi1 := tI (Pw X H0 ER WF) φ it1) c.calm hN hy hl' hsw' (eI (H0 := H0) it c.toCn tg iter h9) (blkOk_by (by rw [c.hN, c.hsc]; exact h1)) (of_decide_eq_true h3) (fun s H Ca cl fp => gT_of (H0 := H0) c.toCn.blk h7) (tt := tTf (Pw X H0 ER WF) φ fl mc) (fun s H Ca cl fp => ?_)
          (fun s H Ca cl fp => eI (H0 := H0) it1 c.toCn.blk tg1 iter1 h10) (fun s H Ca cl fp => gT_of (H0 := H0) c.toCn.blk h8) (tt1 := tTf (Pw X H0 ER WF) φ fl1 mc1) (fun s H Ca cl fp => ?_) (fun s H Ca cl fp => (eE (H0 := H0) me c.toCn.blk elt h13).v) (folded h5) (fun _ => folded h6)) fun En σ H q => ?_
        · match fl, ifs, h11 with
          | false, [], _ => exact ptsNil
          | true, [e], h6 => exact ptsOne (eE mc c.toCn.blk e h6).t
          | false, _ :: _, h => exact absurd h Bool.false_ne_true
          | true, [], h => exact absurd h Bool.false_ne_true
          | true, _ :: _ :: _, h => exact absurd h Bool.false_ne_true
        · match fl1, ifs1, h12 with
          | false, [], _ => exact ptsNil
          | true, [e], h6 => exact ptsOne (eE mc1 c.toCn.blk e h6).t
          | false, _ :: _, h => exact absurd h Bool.false_ne_true
          | true, [], h => exact absurd h Bool.false_ne_true
          | true, _ :: _ :: _, h => exact absurd h Bool.false_ne_true
        · exact lc2W (of_decide_eq_true h2) (of_decide_eq_true h3) (of_decide_eq_true h4) σ H _ (asgW rfl En σ H q)
      | [], h, _ => exact absurd h Bool.false_ne_true
      | ⟨x1, x2, x3, Nat.succ k⟩ :: x4, h, _ => exact absurd h Bool.false_ne_true
      | [⟨x1, x2, x3, 0⟩], h, _ => exact absurd h Bool.false_ne_true
      | ⟨x1, x2, x3, 0⟩ :: ⟨x4, x5, x6, Nat.succ k⟩ :: x7, h, _ => exact absurd h Bool.false_ne_true
      | ⟨x1, x2, x3, 0⟩ :: ⟨x4, x5, x6, 0⟩ :: x7 :: x8, h, _ => exact absurd h Bool.false_ne_true
    | _ => cases hm
  | _ => cases hsw
mutual
theorem sS : ∀ (m : Sm) {X : Cx} {N : List Str} {sc : Scope} {st : Str → Bool} {W : WX}, CnS C φ ER n X N sc st W → ∀ (s : Stmt), chkS C N sc st m s = true → PS X s (tE (Pw X H0 ER W) φ m)
  | .asg t own e, X, N, sc, st, W, c, s, h => by
    cases s with
    | Assign tgs v p =>
      match tgs, h with
      | [], h => exact absurd h Bool.false_ne_true
      | _ :: _ :: _, h => exact absurd h Bool.false_ne_true
      | [tg], h =>
        have oth : (notName tg && (!own && (chkT N st t tg && (chkE C N sc e v && !isTupE v)))) = true → PS X (.Assign [tg] v p) (tE (Pw X H0 ER W) φ (.asg t own e)) := fun h => by
          obtain ⟨k1, h2⟩ := ba.mp h
          obtain ⟨k2, h3⟩ := ba.mp h2
          obtain ⟨k3, h4⟩ := ba.mp h3
          obtain ⟨k4, k5⟩ := ba.mp h4
          have ho : own = false := by simpa using k2
          subst ho
          have hn : ∀ x p, tg ≠ .Name x p := fun x p q => by rw [q] at k1; cases k1
          have hst : ∀ x p, tg ≠ .Starred x p := fun x p q => by rw [q] at k1; cases k1
          have hw : swappedStores [tg] v X.env = pure none := by
            cases v with
            | Tuple => cases k5
            | _ => cases tg <;> rfl
          have h1 : (assignEach [tg] X.env).map (·.2) = [assign tg X.env] := by cases tg <;> first | rfl | exact absurd rfl (hst _ _)
          exact PS.weak (ps_asg (eE (H0 := H0) e c.toCn v k4).v (gT_of (H0 := H0) c.toCn k3) (swNot hn) hw h1) asgTW
        cases tg with
        | Name x px =>
          cases t with
          | v i =>
            obtain ⟨k1, h2⟩ := ba.mp (show (stoB N st i x && (chkE C N sc e v && (!isComp v && (!swB sc x px v || isLc e)))) = true from h)
            obtain ⟨k2, h3⟩ := ba.mp h2
            obtain ⟨k3, k4⟩ := ba.mp h3
            obtain ⟨q1, q2⟩ := ba.mp k1
            obtain ⟨q3, q4⟩ := c.sto x q2
            have hk : X.env.scope.kind = .function := by rw [c.hsc]; exact c.kind
            have hnc : isComp v = false := by simpa using k3
            cases hsw : swB sc x px v with
            | false =>
              refine PS.weak (ps_set (by rw [c.hN]; exact c.nd) (by rw [c.hN]; exact of_decide_eq_true q1) (by rw [c.hsc]; exact q3) (eE (H0 := H0) e c.toCn v k2).v (by rw [swB_eq hk hnc, c.hsc, hsw]) (by rw [c.hsc]; exact q4)) (asgW rfl)
            | true =>
              rw [hsw] at k4
              exact setLcPS c k1 k4 k2 hsw
          | _ => exact absurd h Bool.false_ne_true
        | _ => cases t <;> exact oth h
    | _ => exact absurd h Bool.false_ne_true
  | .asgp l es, X, N, sc, st, W, c, s, h => by
    cases s with
    | Assign tgs v p =>
      replace h : (match (generalizing := false) tupTg tgs, tupV v with
        | some ts, some vs => chkPar N sc st l ts (swp sc ts vs) && (decide (vs.length = ts.length) && (vs.all plainE && chkEs C N sc es vs))
        | _, _ => false) = true := h
      split at h
      · rename_i ts vs et ev
        obtain ⟨k1, p1, rfl⟩ := tupTg_inv et
        obtain ⟨k2, p2, rfl⟩ := tupV_inv ev
        obtain ⟨h1, h2⟩ := ba.mp h
        obtain ⟨hlen, h2⟩ := ba.mp h2
        obtain ⟨h3, h4⟩ := ba.mp h2
        replace hlen := of_decide_eq_true hlen
        have hk : X.env.scope.kind = .function := by rw [c.hsc]; exact c.kind
        have ha : ∀ bs, PA X vs (tPs (Pw X H0 ER W) φ bs es) := fun bs => ePs c.toCn es bs vs h3 h4
        have hw : ∀ {r}, swp sc ts vs = some r → swappedStores [.Tuple ts k1 p1] (.Tuple vs k2 p2) X.env = pure r := fun {r} q => swp_eq hk (by rw [c.hsc]; exact q)
        unfold chkPar at h1
        split at h1
        · rename_i e1
          obtain ⟨q1, q2⟩ := ba.mp h1
          exact tupAsgPS c q1 (of_decide_eq_true q2) (ha _) (hw e1)
        · rename_i i bi j bj x px y py r e1
          obtain ⟨q1, h2⟩ := ba.mp h1
          obtain ⟨q2, h3⟩ := ba.mp h2
          obtain ⟨q3, h4⟩ := ba.mp h3
          obtain ⟨q4, h5⟩ := ba.mp h4
          obtain ⟨q5, q6⟩ := ba.mp h5
          have er := of_decide_eq_true q1
          subst er
          have hw' := hw e1
          match vs, ha, hw', hlen with
          | [a, b], ha, hw', _ => exact swap2PS c q3 q4 (of_decide_eq_true q2) (of_decide_eq_true q5) (of_decide_eq_true q6) (ha _) hw'
          | [], _, _, hl => exact absurd hl (by simp)
          | [_], _, _, hl => exact absurd hl (by simp)
          | _ :: _ :: _ :: _, _, _, hl => exact absurd hl (by simp)
        · rename_i i bi j bj l' bl x px y py z pz r e1
          obtain ⟨q1, h2⟩ := ba.mp h1
          obtain ⟨q2, h3⟩ := ba.mp h2
          obtain ⟨q3, h4⟩ := ba.mp h3
          obtain ⟨q4, h5⟩ := ba.mp h4
          obtain ⟨q5, h6⟩ := ba.mp h5
          obtain ⟨q6, h7⟩ := ba.mp h6
          obtain ⟨q7, h8⟩ := ba.mp h7
          obtain ⟨q8, h9⟩ := ba.mp h8
          obtain ⟨q9, q10⟩ := ba.mp h9
          have er := of_decide_eq_true q1
          subst er
          have hw' := hw e1
          match vs, ha, hw', hlen with
          | [a, b, d], ha, hw', _ => exact swap3PS c q5 q6 q7 (of_decide_eq_true q2) (of_decide_eq_true q3) (of_decide_eq_true q4) (of_decide_eq_true q8) (of_decide_eq_true q9) (of_decide_eq_true q10) (ha _) hw'
          | [], _, _, hl => exact absurd hl (by simp)
          | [_], _, _, hl => exact absurd hl (by simp)
          | [_, _], _, _, hl => exact absurd hl (by simp)
          | _ :: _ :: _ :: _ :: _, _, _, hl => exact absurd hl (by simp)
        · exact absurd h1 Bool.false_ne_true
      · exact absurd h Bool.false_ne_true
    | _ => exact absurd h Bool.false_ne_true
  | .setix i k e, X, N, sc, st, W, c, s, h => by
    cases s with
    | Assign tgs v p =>
      replace h : (match (generalizing := false) subTg tgs with
        | some (x, ek) => varB N sc i x && (noSlice ek && (chkE C N sc k ek && chkE C N sc e v))
        | none => false) = true := h
      split at h
      · rename_i x ek et
        obtain ⟨px, p2, rfl⟩ := subTg_inv et
        obtain ⟨k1, h2⟩ := ba.mp h
        obtain ⟨k2, h3⟩ := ba.mp h2
        obtain ⟨k3, k4⟩ := ba.mp h3
        exact setixPS c k1 (eE k c.toCn ek k3).v (eE e c.toCn v k4).v (fun _ => by cases ek <;> first | rfl | cases k2)
      · exact absurd h Bool.false_ne_true
    | _ => exact absurd h Bool.false_ne_true
  | .aug .., X, N, sc, st, W, c, s, h => by cases s <;> exact absurd h Bool.false_ne_true
  | .augix .., X, N, sc, st, W, c, s, h => by cases s <;> exact absurd h Bool.false_ne_true
  | .app i e, X, N, sc, st, W, c, s, h => by
    cases s with
    | Expr v p =>
      replace h : (match (generalizing := false) appTg v with
        | some (x, v) => varB N sc i x && (plainE v && chkE C N sc e v)
        | none => false) = true := h
      split at h
      · rename_i x v' et
        obtain ⟨px, ap, pos, rfl, hl⟩ := appTg_inv et
        obtain ⟨k1, h2⟩ := ba.mp h
        obtain ⟨k2, k3⟩ := ba.mp h2
        exact appPS c k1 hl k2 (eE e c.toCn v' k3).v
      · exact absurd h Bool.false_ne_true
    | _ => exact absurd h Bool.false_ne_true
  | .exp e, X, N, sc, st, W, c, s, h => by
    cases s with
    | Expr v p =>
      obtain ⟨h1, h2⟩ := ba.mp (show (notComp v && chkE C N sc e v) = true from h)
      exact expPS (eE e c.toCn v h2).v h1
    | _ => exact absurd h Bool.false_ne_true
  | .ifs t a b, X, N, sc, st, W, c, s, h => by
    cases s with
    | If e sa sb p =>
      obtain ⟨h1, h2⟩ := ba.mp (show (chkE C N sc t e && (chkSs C N sc st a sa && chkSs C N sc st b sb)) = true from h)
      obtain ⟨h2, h3⟩ := ba.mp h2
      exact ifPS (eE t c.toCn e h1).t (sSs a c sa h2) (sSs b c sb h3)
    | _ => exact absurd h Bool.false_ne_true
  | .for_ t it b, X, N, sc, st, W, c, s, h => by
    cases s with
    | For tg iter body els p =>
      cases els with
      | cons => exact absurd h Bool.false_ne_true
      | nil =>
        obtain ⟨h1, h2⟩ := ba.mp (show (notSet iter && (chkI C N sc it tg iter && (chkT N st t tg && chkSs C N sc st b body))) = true from h)
        obtain ⟨h2, h3⟩ := ba.mp h2
        obtain ⟨h3, h4⟩ := ba.mp h3
        exact forPS c h1 (eI it c.toCn tg iter h2) (gT_of c.toCn h3) (sSs b c body h4)
    | _ => exact absurd h Bool.false_ne_true
  | .while_ t b, X, N, sc, st, W, c, s, h => by
    cases s with
    | While e body els p =>
      cases els with
      | cons => exact absurd h Bool.false_ne_true
      | nil =>
        obtain ⟨h1, h2⟩ := ba.mp (show (chkE C N sc t e && chkSs C N sc st b body) = true from h)
        exact whilePS c (eE t c.toCn e h1).t (sSs b c body h2)
    | _ => exact absurd h Bool.false_ne_true
  | .ret e, X, N, sc, st, W, c, s, h => by
    cases s with
    | Return v p =>
      cases v with
      | none => exact absurd h Bool.false_ne_true
      | some v => exact retPS (eE e c.toCn v h).v
    | _ => exact absurd h Bool.false_ne_true
  | .retN, X, N, sc, st, W, c, s, h => by
    cases s with
    | Return v p =>
      cases v with
      | none => exact retNPS
      | some v => exact absurd h Bool.false_ne_true
    | _ => exact absurd h Bool.false_ne_true
  | .raise, X, N, sc, st, W, c, s, h => neverPS
  | .brk, X, N, sc, st, W, c, s, h => by
    cases s with
    | Break p => exact brkPS
    | _ => exact absurd h Bool.false_ne_true
  | .cont, X, N, sc, st, W, c, s, h => by
    cases s with
    | Continue p => exact contPS
    | _ => exact absurd h Bool.false_ne_true
  | .pass, X, N, sc, st, W, c, s, h => by
    cases s with
    | Pass p => exact passPS
    | _ => exact absurd h Bool.false_ne_true
theorem sSs : ∀ (m : Ss) {X : Cx} {N : List Str} {sc : Scope} {st : Str → Bool} {W : WX}, CnS C φ ER n X N sc st W → ∀ (l : List Stmt), chkSs C N sc st m l = true → PSs X l (tB (Pw X H0 ER W) φ m)
  | .nil, X, N, sc, st, W, c, l, h => by
    cases l with
    | nil => exact nilPS
    | cons => exact absurd h Bool.false_ne_true
  | .cons m r, X, N, sc, st, W, c, l, h => by
    cases l with
    | nil => exact absurd h Bool.false_ne_true
    | cons s ss =>
      obtain ⟨h1, h2⟩ := ba.mp (show (chkS C N sc st m s && chkSs C N sc st r ss) = true from h)
      exact consPS (sS m c s h1) (sSs r c ss h2)
end
end
end TW
end
/-! W24 -/
section
set_option Elab.async false
set_option linter.all false
set_option maxRecDepth 100000
set_option maxHeartbeats 4000000
set_option autoImplicit false
/-! TW, part 24: a def keeps its promise. -/
namespace TW
open PySem PySem.Spec L2
open PyProof.Rows hiding St
theorem ArgR.at {K : PySem.W.Frag} {H : Hp} {S : Addr → Prop} {lent : Option Nat} {p : Addr} : ∀ {ds : List D} {vs : List V} {i0 i : Nat} {d : D}, ArgR K H S lent p i0 ds vs → ds[i]? = some d →
    ∃ v, vs[i]? = some v ∧ if lent = some (i0 + i) then v = .ref p ∧ Cel K H S p d else Rep K H S d v
  | [], _, _, _, _, _, e => by simp at e
  | d :: ds, _, i0, 0, x, ⟨v, r, rfl, h1, h2⟩, e => by
    simp at e; subst e
    exact ⟨v, rfl, h1⟩
  | d :: ds, _, i0, i + 1, x, ⟨v, r, rfl, h1, h2⟩, e => by
    obtain ⟨u, k1, k2⟩ := ArgR.at (i := i) h2 (by simpa using e)
    refine ⟨u, by simpa using k1, ?_⟩
    rw [show i0 + (i + 1) = i0 + 1 + i by omega]; exact k2
section
variable {K : PySem.W.Frag} {H : Hp} {S : Addr → Prop} {p : Addr} {m : Df} {ds : List D} {vs : List V} {N : List Str}
theorem startL_at (i : Nat) : (startL m ds)[i]? = match ds[i]? with
    | some d => some (if m.lent = some i then .mp d else .sh d)
    | none => if i < ds.length + (m.ns - m.np) then some .un else none := by
  unfold startL
  rw [List.getElem?_append]
  simp only [List.length_mapIdx]
  by_cases h : i < ds.length
  · rw [if_pos h, List.getElem?_mapIdx, List.getElem?_eq_getElem h] <;> rfl
  · rw [if_neg h, List.getElem?_replicate, List.getElem?_eq_none (by omega)]
    simp only
    by_cases k : i < ds.length + (m.ns - m.np)
    · rw [if_pos k, if_pos (by omega)]
    · rw [if_neg k, if_neg (by omega)]
theorem start_at (h : vs.length ≤ N.length) (i : Nat) (v : V) (e : vs[i]? = some v) : (L2.start N vs)[i]? = some (some v) := by
  unfold L2.start
  have hl := (List.getElem?_eq_some_iff.mp e).1
  rw [List.getElem?_append_left (by simpa using hl), List.getElem?_map, e] <;> rfl
theorem start_sh {i : Nat} {sl : Slot} (h : (startL m ds)[i]? = some sl) (n : sl ≠ .un) : ∃ d, ds[i]? = some d ∧ sl = (if m.lent = some i then .mp d else .sh d) := by
  rw [startL_at] at h
  cases e : ds[i]? with
  | none =>
    rw [e] at h
    simp only at h
    split at h
    · cases h; exact absurd rfl n
    · cases h
  | some d => rw [e] at h; cases h; exact ⟨d, rfl, rfl⟩
theorem startRl (hd : ∀ a, S a → H a ≠ none) (hl : m.lent ≠ none → ¬ S p ∧ H p ≠ none) (ha : ArgR K H S m.lent p 0 ds vs) (h1 : ds.length = m.np) (h2 : m.np ≤ m.ns) (h3 : m.ns = N.length) : Rl K H S (startL m ds) (L2.start N vs) H := by
  have hv : vs.length = ds.length := ha.length
  have hvN : vs.length ≤ N.length := by omega
  refine ⟨?_, fun i d h => ?_, fun i d h => ?_, fun i d h => ?_, fun i j q a1 a2 b1 b2 => ?_, hd, fun a o h _ => h, fun a h => h⟩
  · unfold startL L2.start
    simp only [List.length_append, List.length_mapIdx, List.length_replicate, List.length_map]
    omega
  · obtain ⟨d', e1, e2⟩ := start_sh h (fun z => nomatch z)
    obtain ⟨v, k1, k2⟩ := ha.at e1
    rw [Nat.zero_add] at k2
    split at e2
    · cases e2
    · rename_i hn
      cases e2
      rw [if_neg hn] at k2
      exact ⟨v, start_at hvN i v k1, k2⟩
  · obtain ⟨d', e1, e2⟩ := start_sh h (fun z => nomatch z)
    split at e2 <;> cases e2
  · obtain ⟨d', e1, e2⟩ := start_sh h (fun z => nomatch z)
    obtain ⟨v, k1, k2⟩ := ha.at e1
    rw [Nat.zero_add] at k2
    split at e2
    · rename_i hn
      cases e2
      rw [if_pos hn] at k2
      obtain ⟨rfl, k2⟩ := k2
      obtain ⟨n1, n2⟩ := hl (by rw [hn]; intro z; cases z)
      exact ⟨p, start_at hvN i _ k1, n1, n2, k2⟩
    · cases e2
  · have ix : ∀ {i : Nat}, (∃ d, (startL m ds)[i]? = some (.ow d) ∨ (startL m ds)[i]? = some (.mp d)) → m.lent = some i := fun {i} ⟨d, h⟩ => by
      rcases h with h | h
      · obtain ⟨d', e1, e2⟩ := start_sh h (fun z => nomatch z)
        split at e2 <;> cases e2
      · obtain ⟨d', e1, e2⟩ := start_sh h (fun z => nomatch z)
        split at e2
        · assumption
        · cases e2
    have q1 := ix b1
    have q2 := ix b2
    rw [q1] at q2; cases q2; rfl
theorem startMp (hl : vs.length ≤ N.length) (ha : ArgR K H S m.lent p 0 ds vs) {a : Addr} (h : Mp (startL m ds) (L2.start N vs) a) : a = p ∧ m.lent ≠ none := by
  obtain ⟨i, d, h1, h2⟩ := h
  obtain ⟨d', e1, e2⟩ := start_sh h1 (fun z => nomatch z)
  obtain ⟨v, k1, k2⟩ := ha.at e1
  rw [Nat.zero_add] at k2
  split at e2
  · rename_i hn
    rw [if_pos hn] at k2
    obtain ⟨rfl, _⟩ := k2
    rw [start_at hl i _ k1] at h2
    cases h2
    exact ⟨rfl, by rw [hn]; intro z; cases z⟩
  · cases e2
/-- the heap behind a def's body -/
theorem endCst {S' : Addr → Prop} {ρ' : Loc} {σ' : L2.St} {H' : Hp} {k : Option D} (hl : vs.length ≤ N.length) (ha : ArgR K H S m.lent p 0 ds vs) (R' : Rl K H S' ρ' σ' H') (g : Sg K H S (startL m ds) (L2.start N vs) H S' ρ' σ' H') (e : lentD m.lent ρ' = some k) :
    Cst m.lent p S H S' H' ∧ ∀ j d', m.lent = some j → k = some d' → Cel K H' S' p d' := by
  have lk : ∀ j, m.lent = some j → ∃ d', k = some d' ∧ ¬ S' p ∧ Cel K H' S' p d' := fun j hj => by
    unfold lentD at e
    rw [hj] at e
    simp only at e
    split at e
    · rename_i d' hd
      cases e
      obtain ⟨q, k1, k2, k3, k4⟩ := R'.mp j d' hd
      obtain ⟨rfl, _⟩ := startMp hl ha (g.mp q ⟨j, d', hd, k1⟩)
      exact ⟨d', rfl, k2, k4⟩
    · cases e
  have np : m.lent ≠ none → ¬ S' p := fun h => by
    cases q : m.lent with
    | none => exact absurd q h
    | some j => obtain ⟨_, _, h2, _⟩ := lk j q; exact h2
  refine ⟨⟨g.sub, fun a h => ?_, fun a o h hn => ?_, R'.ent, R'.dom, np⟩, fun j d' hj hk => ?_⟩
  · rcases g.new a h with q | q | q
    · exact .inl q
    · exact .inr q
    · obtain ⟨rfl, q2⟩ := startMp hl ha q
      exact absurd h (np q2)
  · refine R'.old a o h fun i d hi hs => ?_
    obtain ⟨q1, q2⟩ := startMp hl ha (g.mp a ⟨i, d, hi, hs⟩)
    rcases hn with hn | hn
    · exact q2 hn
    · exact hn q1
  · obtain ⟨d2, h1, _, h3⟩ := lk j hj
    rw [hk] at h1; cases h1
    exact h3
theorem Cst.more {lent : Option Nat} {S' : Addr → Prop} {H' : Hp} {q : Addr} (c : Cst lent p S H S' H') (h0 : H q = none) (hq : H' q ≠ none) (hp : lent ≠ none → H p ≠ none) : Cst lent p S H (fun a => S' a ∨ a = q) H' where
  sub := fun a h => .inl (c.sub a h)
  new := fun a h => by
    rcases h with h | rfl
    · exact c.new a h
    · exact .inr h0
  keep := c.keep
  dom := c.dom
  shd := fun a h => by
    rcases h with h | rfl
    · exact c.shd a h
    · exact hq
  lnt := fun hl h => by
    rcases h with h | rfl
    · exact c.lnt hl h
    · exact hp hl h0
end
section
variable {P : Program} {w : World} {K : PySem.W.Frag} {mg : Str → Option Value} {base : Heap} {C : Ck} {φ : Fns} {ER : Exn → Value → Option Addr → Hp → Prop} {n : Nat}
/-- what a module gives its defs -/
structure Md (P : Program) (w : World) (K : PySem.W.Frag) (mg : Str → Option Value) (base : Heap) (C : Ck) (φ : Fns) (ER : Exn → Value → Option Addr → Hp → Prop) (n : Nat) : Prop where
  blt : ∀ x, x ∈ bltNames → mg x = none
  cst : ∀ x i, C.cs.lookup x = some i → ∃ t, mg x = some (.int i t)
  fnc : ∀ f x ps, C.nm f = some (x, ps) → (φ f).np = ps.length ∧ ∃ a fd, mg x = some (.ref a) ∧ PySem.W.keepIn K (.ref a) = true ∧ (∀ us : List Value, us.length = ps.length → bindArgs fd ⟨us, []⟩ = pure (ps.zip us)) ∧
    (∀ ks perm, (f, ks, perm) ∈ C.kw → ks.length = ps.length ∧ perm ≠ [] ∧ ∀ ws : List Value, ws.length = ps.length → (perm.filterMap fun j => ws[j]?).length = ps.length ∧ bindArgs fd ⟨[], ks.zip ws⟩ = pure (ps.zip (perm.filterMap fun j => ws[j]?))) ∧
    Fk P w K mg base n a fd ps (spF K ER (φ f))
theorem bodyOk (M : Md P w K mg base C φ ER n) {N ps : List Str} {m : Df} {body : List Stmt} {qual : Str} {scope : Scope} {f : Addr} {cdv : Value} (S0 : FnScope N ps scope) (hc : chkSs C N scope (stS scope) m.body body = true) (h1 : m.np = ps.length) (h2 : m.np ≤ m.ns) (h3 : m.ns = N.length)
    {A : Around} {outer : List PySem.Env} {s : Shared} {H : Hp} {vs : List V} {Q : VK} {E : XK} (hr : Room n (A.deeper (envOfC qual scope s.heap.objs.size f cdv))) (hg : A.guards = some []) (hsp : spF K ER ⟨m.np, m.lent, m.fresh, runD φ m⟩ vs H Q E) :
    ∃ t, PSs (cxOf (L2.CX P w) P w K mg base N qual scope f cdv A outer s H E) body t ∧ t { nx := fun _ H' => Q .non H', rt := Q } (L2.start N vs) H := by
  obtain ⟨S, p, ds, hd, hlen, hl, ha, hrun⟩ := hsp
  have c : CnS C φ ER n (cxOf (L2.CX P w) P w K mg base N qual scope f cdv A outer s H E) N scope (stS scope) (fun cls d _ H => E cls d H) := {
    hN := rfl
    nd := S0.nd
    hsc := rfl
    calm := rfl
    tk := takes_of rfl rfl rfl rfl
    room := hr
    gd := hg
    sto := fun x h => by
      refine ⟨?_, .inl rfl⟩
      unfold stS at h
      split at h
      · exact .inl (by assumption)
      · exact .inr (by assumption)
      · cases h
    blt := M.blt
    cst := M.cst
    fnc := M.fnc
    own := passes_of rfl
    kind := S0.kind }
  refine ⟨_, sSs (H0 := H) m.body c body hc, ?_⟩
  have hlen : ds.length = m.np := hlen
  have hv : vs.length = ds.length := ha.length
  have hvN : vs.length ≤ N.length := by omega
  have R0 := startRl (N := N) hd hl ha hlen h2 h3
  refine ⟨S, startL m ds, R0, ?_⟩
  have hrun : (match runD φ m ds with
    | .ok d m' => ∀ v H' S', Cst m.lent p S H S' H' → (if m.fresh = true then ∃ q, v = .ref q ∧ ¬ S' q ∧ H q = none ∧ Cel K H' S' q d else Rep K H' S' d v) → (∀ k d', m.lent = some k → m' = some d' → Cel K H' S' p d') → Q v H'
    | .ex x m' => ∀ cls dx H' S', Cst m.lent p S H S' H' → ER x cls dx H' → (∀ k d', m.lent = some k → m' = some d' → Cel K H' S' p d') → E cls dx H'
    | .no => False) := hrun
  unfold runD at hrun
  rw [if_pos hlen] at hrun
  cases er : evSs φ m.body (startL m ds) with
  | no => rw [er] at hrun; exact hrun.elim
  | ex x ρ' =>
    rw [er] at hrun
    simp only at hrun
    intro cls dx σ' H' S' R' g hER
    cases e1 : lentD m.lent ρ' with
    | none => rw [e1] at hrun; exact hrun.elim
    | some k =>
      rw [e1] at hrun
      obtain ⟨q1, q2⟩ := endCst hvN ha R' g e1
      exact hrun cls dx H' S' q1 hER q2
  | ok fl ρ' =>
    rw [er] at hrun
    simp only at hrun
    cases e2 : retD m.fresh fl ρ' with
    | none => rw [e2] at hrun; exact hrun.elim
    | some d =>
      cases e1 : lentD m.lent ρ' with
      | none => rw [e2, e1] at hrun; exact hrun.elim
      | some k =>
        rw [e2, e1] at hrun
        have hrun : ∀ v H' S', Cst m.lent p S H S' H' → (if m.fresh = true then ∃ q, v = .ref q ∧ ¬ S' q ∧ H q = none ∧ Cel K H' S' q d else Rep K H' S' d v) → (∀ j d', m.lent = some j → k = some d' → Cel K H' S' p d') → Q v H' := hrun
        -- a thing of its own is handed back
        have out : ∀ {v : V} {q : Addr} {H' : Hp} {S' : Addr → Prop}, v = .ref q → ¬ S' q → H q = none → Cel K H' S' q d → Cst m.lent p S H S' H' → (∀ j d', m.lent = some j → k = some d' → Cel K H' S' p d') → Q v H' := fun {v q H' S'} ev n1 n2 hc q1 q2 => by
          obtain ⟨ob, hob⟩ := hc.there
          by_cases hf : m.fresh = true
          · exact hrun v H' S' q1 (by rw [if_pos hf]; exact ⟨q, ev, n1, n2, hc⟩) q2
          · refine hrun v H' (fun a => S' a ∨ a = q) (q1.more n2 (by rw [hob]; intro z; cases z) fun hl' => (hl hl').2) ?_ fun j d' hj hk => (q2 j d' hj hk).mono fun _ z => .inl z
            rw [if_neg hf, ev]
            exact hc.rep (fun _ z => .inl z) (.inr rfl)
        cases fl with
        | nx =>
          intro σ' H' S' R' g
          obtain ⟨q1, q2⟩ := endCst hvN ha R' g e1
          unfold retD at e2
          simp only at e2
          split at e2
          · cases e2
          · rename_i hf
            cases e2
            exact hrun .non H' S' q1 (by rw [if_neg hf]; exact rfl) q2
        | bk => cases e2
        | ct => cases e2
        | rt o =>
          intro v σ' H' S' R' g ho
          obtain ⟨q1, q2⟩ := endCst hvN ha R' g e1
          cases o with
          | v d0 =>
            unfold retD at e2
            simp only at e2
            split at e2
            · cases e2
            · rename_i hf
              cases e2
              exact hrun v H' S' q1 (by rw [if_neg hf]; exact ho) q2
          | f d0 =>
            cases e2
            obtain ⟨q, ev, n1, n2, _, _, hc⟩ := ho
            exact out ev n1 n2 hc q1 q2
          | b i =>
            unfold retD at e2
            simp only at e2
            split at e2
            · rename_i d0 hi
              cases e2
              obtain ⟨q, ev, hs⟩ := ho
              obtain ⟨q', k1, k2, k3, k4⟩ := R'.ow i d hi
              rw [hs] at k1; cases k1
              exact out ev k2 k3 k4 q1 q2
            · cases e2
end
end TW
end
/-! W25 -/
section
set_option Elab.async false
set_option linter.all false
set_option maxRecDepth 100000
set_option maxHeartbeats 4000000
set_option autoImplicit false
/-! TW, part 25: the table of defs. -/
namespace TW
open PySem PySem.Spec L2
open PyProof.Rows hiding St
section
variable {P : Program} {w : World} {K : PySem.W.Frag} {mg : Str → Option Value} {base : Heap} {C : Ck} {φ : Fns} {ER : Exn → Value → Option Addr → Hp → Prop} {n : Nat}
/-- a function object whose text was checked -/
theorem fkOf {nm qu : Str} {pa : Arguments} {body : List Stmt} {scope : Scope} {f : Addr} {fd : FuncData} {dvs : List V} {kws : List (Str × V)} {N ps : List Str} {m : Df} (Fd : FunD K nm qu pa body scope dvs kws f fd) (S0 : FnScope N ps scope)
    (M : Md P w K mg base C φ ER n) (hc : chkSs C N scope (stS scope) m.body body = true) (h1 : m.np = ps.length) (h2 : m.np ≤ m.ns) (h3 : m.ns = N.length) : Fk P w K mg base (n + 1) f fd ps (spF K ER ⟨m.np, m.lent, m.fresh, runD φ m⟩) := by
  obtain ⟨oc, od, dV, kV, doc, pm, an, cdv, ct, osl, rfl, at_, hcd, _, _⟩ := Fd.ex
  constructor
  intro A outer s H args us vs Q E room hg env bt rv hlen hsp
  have kin : K.In s.heap := env.mod.kin.keeps fun _ _ e => (env.bs _ _ e).1
  have nol : s.heap.NoLimit := env.mod.nolimit.keeps fun _ _ e => (env.bs _ _ e).1
  have hv : vs.length = ps.length := rv.length.trans hlen
  have kinds : ∀ z ∈ ps.zip us, scope.names.lookup z.1 = some .local ∨ (scope.names.lookup z.1 = some .cell ∧ ((cellsFrom (s.heap.objs.size + 1) scope.names []).lookup z.1).isSome = true) := by
    rintro ⟨y, v⟩ hz
    cases S0.par y (List.of_mem_zip hz).1 with
    | inl q => exact .inl q
    | inr q => exact .inr ⟨q, PySem.W.cellsFrom_some _ _ _ (.inl q)⟩
  refine codeAny_call_function room.depth (kin _ _ at_) rfl S0.co S0.gen rfl
    (PySem.W.codeRec_of kin hcd) (bt _ _ _ _ (wpAny_newFunctionEnv_cells S0.kind kinds fun ev hev s1 x => ?_))
  subst hev
  refine ⟨nol.keeps x.toInCall.keep, codeAny_func ?_⟩
  obtain ⟨t, ht, hq⟩ := bodyOk (f := f) (qual := qu) (cdv := cdv) (outer := outer) M S0 hc h1 h2 h3 (room.deeper _) hg hsp
  have I := inv_start (K := K) (mg := mg) (N := N) (qual := qu) (f := f) (cd := cdv) (CX := L2.CX P w) (E := E) S0 room.hd env hv rv x
  have fin : ∀ {σ' : L2.St} {H' : Hp} {v : V} {u : Value} {s' : Shared}, Inv (cxOf (L2.CX P w) P w K mg base N qu scope f cdv A outer s H E) [] σ' H' s' → RelV v u → Q v H' → CE outer P w H s Q u s' := by
    intro σ' H' v u s' J r q
    exact ⟨v, H', J.os, J.bare, J.base, J.hok, r, q⟩
  refine wpAny_mono (ht.run [] s1 (L2.start N vs) H _ I hq) (fun fl s' hs => ?_) (fun _ _ hs => hs)
  match fl, hs with
  | .ret u, ⟨v, σ', H', J, r, q⟩ => exact fin J r q
  | .next, ⟨σ', H', J, q⟩ => exact fin (v := .non) (u := Value.none) J rfl q
  | .brk, ⟨_, _, _, q⟩ => exact q.elim
  | .cont, ⟨_, _, _, q⟩ => exact q.elim
/-- the table of the module's defs, checked -/
structure Tb (K : PySem.W.Frag) (mg : Str → Option Value) (C : Ck) (T : List (Nat × Df)) : Prop where
  blt : ∀ x, x ∈ bltNames → mg x = none
  cst : ∀ x i, C.cs.lookup x = some i → ∃ t, mg x = some (.int i t)
  fnc : ∀ f x ps, C.nm f = some (x, ps) → ∃ (m : Df) (a : Addr) (fd : FuncData) (nm qu : Str) (pa : Arguments) (body : List Stmt) (scope : Scope) (dvs : List V) (kws : List (Str × V)) (N : List Str),
    T.lookup f = some m ∧ m.np = ps.length ∧ m.np ≤ m.ns ∧ m.ns = N.length ∧ FunD K nm qu pa body scope dvs kws a fd ∧ FnScope N ps scope ∧ chkSs C N scope (stS scope) m.body body = true ∧ mg x = some (.ref a) ∧
    (∀ us : List Value, us.length = ps.length → bindArgs fd ⟨us, []⟩ = pure (ps.zip us)) ∧
    (∀ ks perm, (f, ks, perm) ∈ C.kw → ks.length = ps.length ∧ perm ≠ [] ∧ ∀ ws : List Value, ws.length = ps.length → (perm.filterMap fun j => ws[j]?).length = ps.length ∧ bindArgs fd ⟨[], ks.zip ws⟩ = pure (ps.zip (perm.filterMap fun j => ws[j]?)))
theorem Tb.md {T : List (Nat × Df)} (B : Tb K mg C T) : ∀ n, Md P w K mg base C (fns T n) ER n
  | 0 => ⟨B.blt, B.cst, fun f x ps h => by
    obtain ⟨m, a, fd, nm, qu, pa, body, scope, dvs, kws, N, e1, e2, e3, e4, Fd, S0, hc, hm, hb, hk⟩ := B.fnc f x ps h
    have e : fns T 0 f = ⟨m.np, m.lent, m.fresh, fun _ => .no⟩ := by rw [fns, e1]
    rw [e]
    refine ⟨e2, a, fd, hm, Fd.kp, hb, hk, ⟨fun A outer s H args us vs Q E room hg env bt rv hlen hsp => ?_⟩⟩
    obtain ⟨S, p, ds, _, _, _, _, q⟩ := hsp
    exact q.elim⟩
  | n + 1 => ⟨B.blt, B.cst, fun f x ps h => by
    obtain ⟨m, a, fd, nm, qu, pa, body, scope, dvs, kws, N, e1, e2, e3, e4, Fd, S0, hc, hm, hb, hk⟩ := B.fnc f x ps h
    have e : fns T (n + 1) f = ⟨m.np, m.lent, m.fresh, runD (fns T n) m⟩ := by rw [fns, e1]
    rw [e]
    exact ⟨e2, a, fd, hm, Fd.kp, hb, hk, fkOf Fd S0 (Tb.md B n) hc e2 e3 e4⟩⟩
end
end TW
end
/-! W26 -/
section
set_option Elab.async false
set_option linter.all false
set_option maxRecDepth 100000
set_option maxHeartbeats 4000000
set_option autoImplicit false
/-! TW, part 26: a law's end. -/
namespace TW
open PySem PySem.Spec L2
open PyProof.Rows hiding St
/-- what the law's own reckoning promises -/
theorem lawSp {K : PySem.W.Frag} {ER : Exn → Value → Option Addr → Hp → Prop} {g : FSig} {H : Hp} {a : Addr} {ns : List Int} (h1 : g.np = 1) (h2 : g.lent = none) (h3 : g.fresh = false) (hr : ∃ m, g.run [.lst (ns.map .int)] = .ok (.bl true) m) (hS : SqL K H a (ns.map V.int)) :
    spF K ER g [.ref a] H (fun v _ => v = .bl true) fun _ _ _ => False := by
  obtain ⟨m, hr⟩ := hr
  refine ⟨fun b => H b ≠ none, 0, [.lst (ns.map .int)], fun _ q => q, h1.symm, fun q => absurd h2 q, ⟨.ref a, [], rfl, ?_, rfl⟩, ?_⟩
  · rw [h2, if_neg (by intro z; cases z)]
    refine ⟨a, ns.map V.int, rfl, ?_, Reps.ints ns⟩
    rcases hS with h | h
    · refine .inl ⟨?_, h⟩
      rcases h with h | ⟨o, h⟩ <;> (show H a ≠ none; rw [h]; intro z; cases z)
    · exact .inr h
  · rw [hr]
    intro v H' S' _ hv _
    rw [h3, if_neg Bool.false_ne_true] at hv
    exact hv
/-- the law's def is called on the script -/
theorem twCall {P : Program} {w : World} {K : PySem.W.Frag} {mg mb : Str → Option Value} {k : Nat} {fa a : Addr} {fd : FuncData} {x : Str} {sp : Sp} {t : Shared} {us : List Value} {ns : List Int} (kin : K.In t.heap) (gl : t.heap.Ns mainGlobals mg) (bl : t.heap.Ns builtinsNs mb)
    (bb : ∀ x : Str, x ≠ "__name__" → mb x = bootBuiltins x) (lim : t.heap.NoLimit) (ge : t.gens = #[]) (at_ : t.heap.get? a = some { cls := .type "list", data := .seq us.toArray }) (ia : IntsAre us ns) (hz : ns.length ≤ sizeLine) (room : Room k callerA)
    (F : ∀ base : Heap, K.In base → Fk P w K mg base k fa fd [x] sp) (bnd : ∀ u : Value, bindArgs fd ⟨[u], []⟩ = pure [(x, u)]) (hsp : ∀ H : Hp, SqL K H a (ns.map V.int) → sp [.ref a] H (fun v _ => v = .bl true) fun _ _ _ => False)
    (nx : ∀ H e s', L2.CX P w [] H t (fun _ _ _ => False) e s' → False) :
    codeAny (model P w) callerA (.call (.ref fa) ⟨[.ref a], []⟩) (fun r s' => r = .ok (.ret (.bool true)) ∧ OldK t.heap s'.heap ∧ s'.os = t.os ∧ AllBare s'.gens) t := by
  have vi := vals_ints ia
  have go : ∀ H : Hp, (∀ b u, H b = some u → b = a ∧ ∃ o xs, u = .frz o (.lst xs)) → SqL K H a (ns.map V.int) → HOk P w H t.heap → (H a ≠ none → K.lookup a = none) →
      codeAny (model P w) callerA (.call (.ref fa) ⟨[.ref a], []⟩) (fun r s' => r = .ok (.ret (.bool true)) ∧ OldK t.heap s'.heap ∧ s'.os = t.os ∧ AllBare s'.gens) t := by
    intro H only sq hok hK
    have atA : ∀ b, H b ≠ none → b = a := fun b q => by
      cases e : H b with
      | none => exact absurd e q
      | some u => exact (only b u e).1
    have dictN : ∀ b m, t.heap.Ns b m → (hidT t.heap H).Ns b m := by
      rintro b m ⟨o, es, ep, e, d, r⟩
      refine ⟨o, es, ep, hidT_get e ?_, d, r⟩
      cases q : H b with
      | none => rfl
      | some u =>
        obtain ⟨rfl, _⟩ := only b u q
        rw [at_] at e
        cases e
        exact absurd (show Data.seq us.toArray _ = Data.dict es ep from d) (fun z => nomatch z)
    have inB : K.In (hidT t.heap H) := by
      intro b o e
      refine hidT_get (kin b o e) ?_
      cases q : H b with
      | none => rfl
      | some u =>
        obtain ⟨rfl, _⟩ := only b u q
        have := hK (by rw [q]; intro z; cases z)
        rw [this] at e
        cases e
    obtain ⟨mc, l1, l2⟩ := lim
    have md : Mod K mg (hidT t.heap H) := ⟨inB, dictN _ _ gl, ⟨mb, dictN _ _ bl, bb⟩, ⟨mc, dictN _ _ l1, l2⟩⟩
    have env : Env0 P w K mg (hidT t.heap H) callerA [] t H := ⟨rfl, md, fun _ _ q => of_hidT q, Nat.le_of_eq (hidT_size _ _), trivial, (fun _ q => nomatch q), hok, .of_eq ge⟩
    have run := (F _ inB).run callerA [] t H ⟨[.ref a], []⟩ [.ref a] [.ref a] _ _ room rfl env (.of_eq (bnd (.ref a))) (.cons rfl .nil) rfl (hsp H sq)
    refine codeAny_mono run fun r s' h => ?_
    match r, h with
    | .error e, h => exact (nx H e s' h).elim
    | .ok .next, h => exact (show False from h).elim
    | .ok .brk, h => exact (show False from h).elim
    | .ok .cont, h => exact (show False from h).elim
    | .ok (.ret u), ⟨v, H', os, bare, un, hok', rv, hv⟩ =>
      cases (show v = .bl true from hv)
      cases (show u = Value.bool true from rv)
      refine ⟨rfl, OldK.of_keep fun b o e => ?_, os, bare⟩
      cases q : H b with
      | none => exact un.keep b o e q (fun z => nomatch z) (fun z => nomatch z)
      | some u =>
        obtain ⟨_, ob, xs, rfl⟩ := only b u q
        obtain ⟨h1, _⟩ := hok b _ q
        obtain ⟨h2, _⟩ := hok' b _ (un.frzs b ob _ q)
        rw [e] at h1
        cases h1
        exact h2
  cases lk : K.lookup a with
  | none =>
    let H : Hp := fun b => if b = a then some (.frz { cls := .type "list", data := .seq us.toArray } (.lst (ns.map V.int))) else none
    have Ha : H a = some (.frz { cls := .type "list", data := .seq us.toArray } (.lst (ns.map V.int))) := if_pos rfl
    have on : ∀ b u, H b = some u → b = a ∧ u = .frz { cls := .type "list", data := .seq us.toArray } (.lst (ns.map V.int)) := fun b u q => by
      by_cases z : b = a
      · subst z; rw [Ha] at q; cases q; exact ⟨rfl, rfl⟩
      · rw [show H b = none from if_neg z] at q; cases q
    refine go H (fun b u q => ⟨(on b u q).1, _, _, (on b u q).2⟩) (.inl (.inr ⟨_, Ha⟩)) (fun b u q => ?_) fun _ => lk
    obtain ⟨rfl, rfl⟩ := on b u q
    exact ⟨at_, by rw [List.length_map]; exact hz, us, _, vi, at_⟩
  | some o =>
    have e := kin a o lk
    rw [at_] at e
    cases e
    have hl := ia.length
    exact go (fun _ => none) (fun _ _ q => nomatch q) (.inr ⟨_, us.toArray, _, lk, rfl, rfl, rfl, by rw [List.size_toArray, hl]; exact hz, by simpa using vi⟩) (fun _ _ q => nomatch (show (none : Option HO) = some _ from q)) fun q => absurd rfl q
/-- a law, from its own reckoning -/
theorem twWalk {l : PySem.W.OpenLaw} {n k : Nat} {q : Program} {loose : List Str} {XP : (Str → Option Value) → Heap → Prop} {YP : World → Heap → Prop} {d : DefRec} {x : Str} (hn : l.most = some n) (hn2 : n ≤ sizeLine) (hdf : d.params.defaults = []) (room : Room k callerA)
    (F : ∀ (w : World) (mg : Str → Option Value) (fa : Addr) (h : Heap), YP w h → h.Ns mainGlobals mg → mg d.name = some (.ref fa) → ∃ (K : PySem.W.Frag) (fd : FuncData) (sp : Sp), K.In h ∧ (∀ u : Value, bindArgs fd ⟨[u], []⟩ = pure [(x, u)]) ∧
      (∀ (H : Hp) (a : Addr) (ns : List Int), ns.length ≤ n → SqL K H a (ns.map V.int) → sp [.ref a] H (fun v _ => v = .bl true) fun _ _ _ => False) ∧ ∀ base : Heap, K.In base → Fk l.prog w K mg base k fa fd [x] sp)
    (nx : ∀ (w : World) (H : Hp) (s : Shared) (e : Value) (s' : Shared), L2.CX l.prog w [] H s (fun _ _ _ => False) e s' → False) : PySem.W.WalkO q loose XP YP l.row.toRowW d [] (fun f vs => PySem.call f vs) := by
  refine Att.attach_call hn hdf fun w s₀ t mg mb fa o pm cd doc a us ns G Y ho hd hcd hmg at_ ia hlen ge => ?_
  obtain ⟨K, fd, sp, kin, bnd, hsp, hF⟩ := F w mg fa _ Y G.T.g hmg
  exact twCall kin G.T.g G.T.b G.T.builtins G.T.nolimit ge at_ ia (Nat.le_trans hlen hn2) room hF bnd (fun H sq => hsp H a ns hlen sq) (fun H e s' => nx w H t e s')
end TW
end
/-! W27 -/
section
set_option Elab.async false
set_option linter.all false
set_option maxRecDepth 100000
set_option maxHeartbeats 4000000
set_option autoImplicit false
/-! TW, part 27: the table from the head's facts. -/
namespace TW
open PySem PySem.Spec L2
open PyProof.Rows hiding St
def fsB (N ps : List Str) (sc : Scope) : Bool := (match sc.kind with
  | .function => true
  | _ => false) && (!sc.isCoroutine && (!sc.isGenerator && (decide N.Nodup && (decide (N.take ps.length = ps) && (ps.all (fun x => match sc.names.lookup x with
  | some .local => true
  | some .cell => true
  | _ => false) && sc.names.all fun y => match y.2 with
  | .free => false
  | _ => true)))))
theorem fsB_ok {N ps : List Str} {sc : Scope} (h : fsB N ps sc = true) : FnScope N ps sc := by
  obtain ⟨h1, h⟩ := ba.mp h
  obtain ⟨h2, h⟩ := ba.mp h
  obtain ⟨h3, h⟩ := ba.mp h
  obtain ⟨h4, h⟩ := ba.mp h
  obtain ⟨h5, h⟩ := ba.mp h
  obtain ⟨h6, h7⟩ := ba.mp h
  refine ⟨?_, by simpa using h2, by simpa using h3, of_decide_eq_true h4, of_decide_eq_true h5, fun x hx => ?_, fun y hy => ?_⟩
  · split at h1
    · assumption
    · cases h1
  · have := List.all_eq_true.mp h6 x hx
    split at this
    · exact .inl (by assumption)
    · exact .inr (by assumption)
    · cases this
  · have := List.all_eq_true.mp h7 y hy
    intro z
    rw [z] at this
    cases this
section
variable {K : PySem.W.Frag} {mg : Str → Option Value} {C : Ck} {T : List (Nat × Df)}
/-- what the table asks of one def -/
def Good (K : PySem.W.Frag) (mg : Str → Option Value) (C : Ck) (T : List (Nat × Df)) (f : Nat) (x : Str) (ps : List Str) : Prop :=
  ∃ (m : Df) (a : Addr) (fd : FuncData) (nm qu : Str) (pa : Arguments) (body : List Stmt) (scope : Scope) (dvs : List V) (kws : List (Str × V)) (N : List Str),
    T.lookup f = some m ∧ m.np = ps.length ∧ m.np ≤ m.ns ∧ m.ns = N.length ∧ FunD K nm qu pa body scope dvs kws a fd ∧ FnScope N ps scope ∧ chkSs C N scope (stS scope) m.body body = true ∧ mg x = some (.ref a) ∧
    (∀ us : List Value, us.length = ps.length → bindArgs fd ⟨us, []⟩ = pure (ps.zip us)) ∧
    (∀ ks perm, (f, ks, perm) ∈ C.kw → ks.length = ps.length ∧ perm ≠ [] ∧ ∀ ws : List Value, ws.length = ps.length → (perm.filterMap fun j => ws[j]?).length = ps.length ∧ bindArgs fd ⟨[], ks.zip ws⟩ = pure (ps.zip (perm.filterMap fun j => ws[j]?)))
theorem goodOf {f : Nat} {x : Str} {ps N : List Str} {m : Df} {nm qu : Str} {pa : Arguments} {body : List Stmt} {scope : Scope} {dvs : List V} {kws : List (Str × V)} {a : Addr} (hT : T.lookup f = some m) (hn : (decide (m.np = ps.length) && (decide (m.np ≤ m.ns) && decide (m.ns = N.length))) = true)
    (Fd : ∃ fd, FunD K nm qu pa body scope dvs kws a fd) (S0 : fsB N ps scope = true) (hc : chkSs C N scope (stS scope) m.body body = true) (hm : mg x = some (.ref a))
    (hd : dvs = []) (hb : ∀ (kV doc pm : Value) (an : Option Addr) (cdv ct : Value) (us : List Value), us.length = ps.length → bindArgs (PySem.W.fnOf nm qu pa body scope .none kV doc pm an cdv ct) ⟨us, []⟩ = pure (ps.zip us))
    (hk : ∀ e ∈ C.kw, e.1 = f → e.2.1.length = ps.length ∧ e.2.2 ≠ [] ∧ ∀ (kV doc pm : Value) (an : Option Addr) (cdv ct : Value) (ws : List Value), ws.length = ps.length → (e.2.2.filterMap fun j => ws[j]?).length = ps.length ∧
      bindArgs (PySem.W.fnOf nm qu pa body scope .none kV doc pm an cdv ct) ⟨[], e.2.1.zip ws⟩ = pure (ps.zip (e.2.2.filterMap fun j => ws[j]?))) : Good K mg C T f x ps := by
  obtain ⟨fd, Fd⟩ := Fd
  obtain ⟨h1, h2⟩ := ba.mp hn
  obtain ⟨h2, h3⟩ := ba.mp h2
  obtain ⟨oc, od, dV, kV, doc, pm, an, cdv, ct, osl, e, _, _, hdf, _⟩ := id Fd.ex
  have ed : dV = .none := by
    rcases hdf with ⟨_, q⟩ | ⟨q, _⟩
    · exact q
    · exact absurd hd q
  subst ed
  refine ⟨m, a, fd, nm, qu, pa, body, scope, dvs, kws, N, hT, of_decide_eq_true h1, of_decide_eq_true h2, of_decide_eq_true h3, Fd, fsB_ok S0, hc, hm, fun us hl => ?_, fun ks perm hmem => ?_⟩
  · rw [e]; exact hb _ _ _ _ _ _ us hl
  · obtain ⟨q1, q2, q3⟩ := hk _ hmem rfl
    refine ⟨q1, q2, fun ws hl => ?_⟩
    rw [e]; exact q3 _ _ _ _ _ _ ws hl
theorem mem_lk {α : Type} : ∀ {l : List (Nat × α)} {n : Nat} {v : α}, l.lookup n = some v → (n, v) ∈ l
  | [], _, _, h => by cases h
  | (k, u) :: r, n, v, h => by
    rw [List.lookup_cons] at h
    cases e : n == k with
    | true => rw [e] at h; cases h; rw [show n = k by simpa using e]; exact List.mem_cons_self
    | false => rw [e] at h; exact List.mem_cons_of_mem _ (mem_lk h)
theorem tbOf {nmL : List (Nat × Str × List Str)} {cs : List (Str × Int)} {kw : List (Nat × List Str × List Nat)} (hb : ∀ x ∈ bltNames, mg x = none) (hc : ∀ e ∈ cs, ∃ t, mg e.1 = some (.int e.2 t)) (hg : ∀ e ∈ nmL, Good K mg ⟨fun f => nmL.lookup f, cs, kw⟩ T e.1 e.2.1 e.2.2) :
    Tb K mg ⟨fun f => nmL.lookup f, cs, kw⟩ T where
  blt := hb
  cst := fun x i h => hc (x, i) (PySem.mem_of_lookup h)
  fnc := fun f x ps h => hg (f, x, ps) (mem_lk h)
theorem factMem {fa : List He.Fa} {fn : List He.DefD} (c : He.SaysD fa fn K) {f : He.Fa} (h : f ∈ fa) : f.ok K = true := by
  have c1 := (He.ba (show ((fa.all fun f => f.ok K) && fn.all fun d => d.ok K) = true from congrArg (fun z : He.AlD => z.1) c)).1
  exact List.all_eq_true.mp c1 f h
end
end TW
end
/-! P0 -/
section
set_option Elab.async false
set_option linter.all false
set_option maxRecDepth 100000
set_option maxHeartbeats 4000000
set_option autoImplicit false
/-! TW, plain part 0: the small language's reckoning as equations without bound names, for simp. -/
namespace TW.P
open PySem PySem.Spec L2
open PyProof.Rows hiding St
noncomputable section
/-! ### parts -/
def kGet : Option Slot → Option D
  | some (.ow d) => some d
  | some (.mp d) => some d
  | some (.sh d) => some d
  | _ => none
theorem get_v (ρ : Loc) (d : D) : (Opd.v d).get ρ = some d := (rfl)
theorem get_f (ρ : Loc) (d : D) : (Opd.f d).get ρ = some d := (rfl)
theorem get_b (ρ : Loc) (i : Nat) : (Opd.b i).get ρ = kGet ρ[i]? := by
  show (match ρ[i]? with
    | some (.ow d) => some d
    | some (.mp d) => some d
    | some (.sh d) => some d
    | _ => none) = _
  unfold kGet; rfl
theorem kGet_ow (d : D) : kGet (some (.ow d)) = some d := (rfl)
theorem kGet_mp (d : D) : kGet (some (.mp d)) = some d := (rfl)
theorem kGet_sh (d : D) : kGet (some (.sh d)) = some d := (rfl)
def kEsc (i : Nat) (ρ : Loc) : Option Slot → Res D
  | some (.ow d) => .ok d (ρ.set i (.sh d))
  | some (.sh d) => .ok d ρ
  | _ => .no
theorem esc_v (ρ : Loc) (d : D) : (Opd.v d).esc ρ = .ok d ρ := (rfl)
theorem esc_f (ρ : Loc) (d : D) : (Opd.f d).esc ρ = .ok d ρ := (rfl)
theorem esc_b (ρ : Loc) (i : Nat) : (Opd.b i).esc ρ = kEsc i ρ ρ[i]? := by
  show (match ρ[i]? with
    | some (.ow d) => Res.ok d (ρ.set i (.sh d))
    | some (.sh d) => .ok d ρ
    | _ => .no) = _
  unfold kEsc; rfl
theorem kEsc_ow (i : Nat) (ρ : Loc) (d : D) : kEsc i ρ (some (.ow d)) = .ok d (ρ.set i (.sh d)) := (rfl)
theorem kEsc_sh (i : Nat) (ρ : Loc) (d : D) : kEsc i ρ (some (.sh d)) = .ok d ρ := (rfl)
def kOp2 {α : Type} (f : D → D → Option α) : Option D → Option D → Loc → Res α
  | some d, some e, ρ => .of (f d e) ρ
  | _, _, _ => .no
theorem kOp2_ss {α : Type} (f : D → D → Option α) (d e : D) (ρ : Loc) : kOp2 f (some d) (some e) ρ = .of (f d e) ρ := (rfl)
def kOp1 {α : Type} (f : D → Option α) : Option D → Loc → Res α
  | some d, ρ => .of (f d) ρ
  | _, _ => .no
theorem kOp1_s {α : Type} (f : D → Option α) (d : D) (ρ : Loc) : kOp1 f (some d) ρ = .of (f d) ρ := (rfl)
theorem of_s {α : Type} (a : α) (ρ : Loc) : Res.of (some a) ρ = .ok a ρ := (rfl)
theorem of_n {α : Type} (ρ : Loc) : (Res.of none ρ : Res α) = .no := (rfl)
theorem bd_ok {α β : Type} (a : α) (ρ : Loc) (f : α → Loc → Res β) : (Res.ok a ρ).bd f = f a ρ := (rfl)
theorem bd_no {α β : Type} (f : α → Loc → Res β) : (Res.no : Res α).bd f = .no := (rfl)
theorem bd_ex {α β : Type} (x : Exn) (ρ : Loc) (f : α → Loc → Res β) : (Res.ex x ρ : Res α).bd f = .ex x ρ := (rfl)
def cmpB (o : CmpOp) (d e : D) : Option Opd := (cmpD o d e).map fun t => .v (.bl t)
def negB (d : D) : Option Opd := (negD d).map .v
def ixB (d e : D) : Option Opd := (ixD d e).map .v
section
variable (φ : Fns)
theorem ev_int (i : Int) (ρ : Loc) : evO φ (.int i) ρ = .ok (.v (.int i)) ρ := by rw [evO]
theorem ev_str (i : Str) (ρ : Loc) : evO φ (.str i) ρ = .ok (.v (.str i)) ρ := by rw [evO]
theorem ev_bl (i : Bool) (ρ : Loc) : evO φ (.bl i) ρ = .ok (.v (.bl i)) ρ := by rw [evO]
theorem ev_non (ρ : Loc) : evO φ .non ρ = .ok (.v .non) ρ := by rw [evO]
theorem ev_glob (x : Str) (i : Int) (ρ : Loc) : evO φ (.glob x i) ρ = .ok (.v (.int i)) ρ := by rw [evO]
def kVar (i : Nat) (ρ : Loc) : Option Slot → Res Opd
  | some (.sh d) => .ok (.v d) ρ
  | some (.ow _) => .ok (.b i) ρ
  | some (.mp _) => .ok (.b i) ρ
  | _ => .no
theorem ev_var (i : Nat) (ρ : Loc) : evO φ (.var i) ρ = kVar i ρ ρ[i]? := by rw [evO]; unfold kVar; rfl
theorem kVar_sh (i : Nat) (ρ : Loc) (d : D) : kVar i ρ (some (.sh d)) = .ok (.v d) ρ := (rfl)
theorem kVar_ow (i : Nat) (ρ : Loc) (d : D) : kVar i ρ (some (.ow d)) = .ok (.b i) ρ := (rfl)
theorem kVar_mp (i : Nat) (ρ : Loc) (d : D) : kVar i ρ (some (.mp d)) = .ok (.b i) ρ := (rfl)
def kBinR (o : Operator) (x y : Opd) (ρ : Loc) : Res Opd := kOp2 (binD o) (x.get ρ) (y.get ρ) ρ
def kBinL (o : Operator) (b : Ex) (x : Opd) (ρ : Loc) : Res Opd := (evO φ b ρ).bd (kBinR o x)
theorem kBinR_a (o : Operator) (x y : Opd) (ρ : Loc) : kBinR o x y ρ = kOp2 (binD o) (x.get ρ) (y.get ρ) ρ := (rfl)
theorem kBinL_a (o : Operator) (b : Ex) (x : Opd) (ρ : Loc) : kBinL φ o b x ρ = (evO φ b ρ).bd (kBinR o x) := (rfl)
theorem ev_bin (o : Operator) (a b : Ex) (ρ : Loc) : evO φ (.bin o a b) ρ = (evO φ a ρ).bd (kBinL φ o b) := by
  rw [evO]; unfold kBinL kBinR; congr 1; funext x ρ1; congr 1; funext y ρ2
  cases x.get ρ2 <;> cases y.get ρ2 <;> rfl
def kNeg (x : Opd) (ρ : Loc) : Res Opd := kOp1 negB (x.get ρ) ρ
theorem kNeg_a (x : Opd) (ρ : Loc) : kNeg x ρ = kOp1 negB (x.get ρ) ρ := (rfl)
theorem ev_neg (a : Ex) (ρ : Loc) : evO φ (.neg a) ρ = (evO φ a ρ).bd kNeg := by
  rw [evO]; congr 1; funext x ρ1; unfold kNeg; cases x.get ρ1 <;> rfl
def kTru (o : Option D) (ρ : Loc) : Res Bool := .of (o.bind truD) ρ
def kNotR (t : Bool) (ρ : Loc) : Res Opd := .ok (.v (.bl !t)) ρ
theorem kNotR_a (t : Bool) (ρ : Loc) : kNotR t ρ = .ok (.v (.bl !t)) ρ := (rfl)
theorem kTru_s (d : D) (ρ : Loc) : kTru (some d) ρ = .of (truD d) ρ := (rfl)
def kNot (x : Opd) (ρ : Loc) : Res Opd := (kTru (x.get ρ) ρ).bd kNotR
theorem kNot_a (x : Opd) (ρ : Loc) : kNot x ρ = (kTru (x.get ρ) ρ).bd kNotR := (rfl)
theorem ev_not (a : Ex) (ρ : Loc) : evO φ (.not a) ρ = (evO φ a ρ).bd kNot := by
  rw [evO]; congr 1; funext x ρ1; unfold kNot kTru
  cases (x.get ρ1).bind truD <;> rfl
def kCmpR (o : CmpOp) (x y : Opd) (ρ : Loc) : Res Opd := kOp2 (cmpB o) (x.get ρ) (y.get ρ) ρ
def kCmpL (o : CmpOp) (b : Ex) (x : Opd) (ρ : Loc) : Res Opd := (evO φ b ρ).bd (kCmpR o x)
theorem kCmpR_a (o : CmpOp) (x y : Opd) (ρ : Loc) : kCmpR o x y ρ = kOp2 (cmpB o) (x.get ρ) (y.get ρ) ρ := (rfl)
theorem kCmpL_a (o : CmpOp) (b : Ex) (x : Opd) (ρ : Loc) : kCmpL φ o b x ρ = (evO φ b ρ).bd (kCmpR o x) := (rfl)
theorem ev_cmp (o : CmpOp) (a b : Ex) (ρ : Loc) : evO φ (.cmp o a b) ρ = (evO φ a ρ).bd (kCmpL φ o b) := by
  rw [evO]; unfold kCmpL kCmpR; congr 1; funext x ρ1; congr 1; funext y ρ2
  cases x.get ρ2 <;> cases y.get ρ2 <;> rfl
def kC2c (o' : CmpOp) (y z : Opd) (ρ : Loc) : Res Opd := kOp2 (cmpB o') (y.get ρ) (z.get ρ) ρ
theorem kC2c_a (o' : CmpOp) (y z : Opd) (ρ : Loc) : kC2c o' y z ρ = kOp2 (cmpB o') (y.get ρ) (z.get ρ) ρ := (rfl)
/-- both sides without effect: one test of both -/
def kAndR : Bool → Res Opd → Loc → Res Opd
  | true, r, _ => r
  | false, _, ρ => .ok (.v (.bl false)) ρ
theorem kAndR_t (r : Res Opd) (ρ : Loc) : kAndR true r ρ = r := (rfl)
theorem kAndR_f (r : Res Opd) (ρ : Loc) : kAndR false r ρ = .ok (.v (.bl false)) ρ := (rfl)
theorem kAndR_ok (t u : Bool) (ρ : Loc) : kAndR t (.ok (.v (.bl u)) ρ) ρ = .ok (.v (.bl (t && u))) ρ := by cases t <;> rfl
def kOrR : Bool → Res Opd → Loc → Res Opd
  | false, r, _ => r
  | true, _, ρ => .ok (.v (.bl true)) ρ
theorem kOrR_f (r : Res Opd) (ρ : Loc) : kOrR false r ρ = r := (rfl)
theorem kOrR_t (r : Res Opd) (ρ : Loc) : kOrR true r ρ = .ok (.v (.bl true)) ρ := (rfl)
theorem kOrR_ok (t u : Bool) (ρ : Loc) : kOrR t (.ok (.v (.bl u)) ρ) ρ = .ok (.v (.bl (t || u))) ρ := by cases t <;> rfl
def kC2t (o' : CmpOp) (c : Ex) (y : Opd) (t : Bool) (ρ : Loc) : Res Opd := kAndR t ((evO φ c ρ).bd (kC2c o' y)) ρ
theorem kC2t_a (o' : CmpOp) (c : Ex) (y : Opd) (t : Bool) (ρ : Loc) : kC2t φ o' c y t ρ = kAndR t ((evO φ c ρ).bd (kC2c o' y)) ρ := (rfl)
def kC2R (o o' : CmpOp) (c : Ex) (x y : Opd) (ρ : Loc) : Res Opd := (kOp2 (cmpD o) (x.get ρ) (y.get ρ) ρ).bd (kC2t φ o' c y)
theorem kC2R_a (o o' : CmpOp) (c : Ex) (x y : Opd) (ρ : Loc) : kC2R φ o o' c x y ρ = (kOp2 (cmpD o) (x.get ρ) (y.get ρ) ρ).bd (kC2t φ o' c y) := (rfl)
def kC2L (o o' : CmpOp) (b c : Ex) (x : Opd) (ρ : Loc) : Res Opd := (evO φ b ρ).bd (kC2R φ o o' c x)
theorem kC2L_a (o o' : CmpOp) (b c : Ex) (x : Opd) (ρ : Loc) : kC2L φ o o' b c x ρ = (evO φ b ρ).bd (kC2R φ o o' c x) := (rfl)
theorem ev_cmp2 (o o' : CmpOp) (a b c : Ex) (ρ : Loc) : evO φ (.cmp2 o o' a b c) ρ = (evO φ a ρ).bd (kC2L φ o o' b c) := by
  rw [evO]; unfold kC2L kC2R; congr 1; funext x ρ1; congr 1; funext y ρ2
  cases x.get ρ2 with
  | none => cases y.get ρ2 <;> rfl
  | some d => cases hy : y.get ρ2 with
    | none => rfl
    | some e =>
      show (match cmpD o d e with
        | some true => _
        | some false => _
        | none => _) = (Res.of (cmpD o d e) ρ2).bd (kC2t φ o' c y)
      cases cmpD o d e with
      | none => rfl
      | some t => cases t with
        | false => rfl
        | true =>
          show (evO φ c ρ2).bd _ = (evO φ c ρ2).bd (kC2c o' y)
          congr 1; funext z ρ3
          unfold kC2c
          cases y.get ρ3 <;> cases z.get ρ3 <;> rfl
def kAnd (b : Ex) (x : Opd) (ρ : Loc) : Res Opd := match x.get ρ with
  | some (.bl t) => kAndR t (evO φ b ρ) ρ
  | _ => .no
theorem kAnd_a (b : Ex) (t : Bool) (ρ : Loc) : kAnd φ b (.v (.bl t)) ρ = kAndR t (evO φ b ρ) ρ := (rfl)
theorem ev_and (a b : Ex) (ρ : Loc) : evO φ (.and a b) ρ = (evO φ a ρ).bd (kAnd φ b) := by
  rw [evO]; congr 1; funext x ρ1; unfold kAnd
  cases x.get ρ1 with
  | none => rfl
  | some d => cases d with
    | bl t => cases t <;> rfl
    | _ => rfl
def kOr (b : Ex) (x : Opd) (ρ : Loc) : Res Opd := match x.get ρ with
  | some (.bl t) => kOrR t (evO φ b ρ) ρ
  | _ => .no
theorem kOr_a (b : Ex) (t : Bool) (ρ : Loc) : kOr φ b (.v (.bl t)) ρ = kOrR t (evO φ b ρ) ρ := (rfl)
theorem ev_or (a b : Ex) (ρ : Loc) : evO φ (.or a b) ρ = (evO φ a ρ).bd (kOr φ b) := by
  rw [evO]; congr 1; funext x ρ1; unfold kOr
  cases x.get ρ1 with
  | none => rfl
  | some d => cases d with
    | bl t => cases t <;> rfl
    | _ => rfl
def kSel : Bool → Res Opd → Res Opd → Res Opd
  | true, a, _ => a
  | false, _, b => b
theorem kSel_t (a b : Res Opd) : kSel true a b = a := (rfl)
theorem kSel_f (a b : Res Opd) : kSel false a b = b := (rfl)
theorem kSel_int (t : Bool) (i j : Int) (ρ : Loc) : kSel t (.ok (.v (.int i)) ρ) (.ok (.v (.int j)) ρ) = .ok (.v (.int (if t = true then i else j))) ρ := by cases t <;> rfl
theorem kSel_same (t : Bool) (a : Res Opd) : kSel t a a = a := by cases t <;> rfl
def kIfeT (a b : Ex) (t : Bool) (ρ : Loc) : Res Opd := kSel t (evO φ a ρ) (evO φ b ρ)
theorem kIfeT_a (a b : Ex) (t : Bool) (ρ : Loc) : kIfeT φ a b t ρ = kSel t (evO φ a ρ) (evO φ b ρ) := (rfl)
def kIfe (a b : Ex) (x : Opd) (ρ : Loc) : Res Opd := (kTru (x.get ρ) ρ).bd (kIfeT φ a b)
theorem kIfe_a (a b : Ex) (x : Opd) (ρ : Loc) : kIfe φ a b x ρ = (kTru (x.get ρ) ρ).bd (kIfeT φ a b) := (rfl)
theorem ev_ife (c a b : Ex) (ρ : Loc) : evO φ (.ife c a b) ρ = (evO φ c ρ).bd (kIfe φ a b) := by
  rw [evO]; congr 1; funext x ρ1; unfold kIfe kTru
  cases (x.get ρ1).bind truD with
  | none => rfl
  | some t => cases t <;> rfl
def kTup (ds : List D) (ρ : Loc) : Res Opd := if ds.length ≤ sizeLine then .ok (.v (.tup ds)) ρ else .no
def kLst (ds : List D) (ρ : Loc) : Res Opd := if ds.length ≤ sizeLine then .ok (.f (.lst ds)) ρ else .no
theorem kTup_a (ds : List D) (ρ : Loc) : kTup ds ρ = if ds.length ≤ sizeLine then .ok (.v (.tup ds)) ρ else .no := (rfl)
theorem kLst_a (ds : List D) (ρ : Loc) : kLst ds ρ = if ds.length ≤ sizeLine then .ok (.f (.lst ds)) ρ else .no := (rfl)
theorem ev_tup (es : Es) (ρ : Loc) : evO φ (.tup es) ρ = (evEs φ es ρ).bd kTup := by rw [evO]; rfl
theorem ev_lst (es : Es) (ρ : Loc) : evO φ (.lst es) ρ = (evEs φ es ρ).bd kLst := by rw [evO]; rfl
def kIxR (x y : Opd) (ρ : Loc) : Res Opd := kOp2 ixB (x.get ρ) (y.get ρ) ρ
def kIxL (b : Ex) (x : Opd) (ρ : Loc) : Res Opd := (evO φ b ρ).bd (kIxR x)
theorem kIxR_a (x y : Opd) (ρ : Loc) : kIxR x y ρ = kOp2 ixB (x.get ρ) (y.get ρ) ρ := (rfl)
theorem kIxL_a (b : Ex) (x : Opd) (ρ : Loc) : kIxL φ b x ρ = (evO φ b ρ).bd (kIxR x) := (rfl)
theorem ev_ix (a b : Ex) (ρ : Loc) : evO φ (.ix a b) ρ = (evO φ a ρ).bd (kIxL φ b) := by
  rw [evO]; unfold kIxL kIxR; congr 1; funext x ρ1; congr 1; funext y ρ2
  cases x.get ρ2 <;> cases y.get ρ2 <;> rfl
def kPt (y : Opd) (ρ : Loc) : Res (Option Int) := kOp1 ptD (y.get ρ) ρ
theorem kPt_a (y : Opd) (ρ : Loc) : kPt y ρ = kOp1 ptD (y.get ρ) ρ := (rfl)
def kBound (b : Bool) (e : Ex) (ρ : Loc) : Res (Option Int) := match b with
  | true => (evO φ e ρ).bd kPt
  | false => .ok none ρ
theorem kBound_t (e : Ex) (ρ : Loc) : kBound φ true e ρ = (evO φ e ρ).bd kPt := (rfl)
theorem kBound_f (e : Ex) (ρ : Loc) : kBound φ false e ρ = .ok none ρ := (rfl)
def kSlD (l h : Option Int) (d : D) : Option Opd := slD d l h
def kSlH (x : Opd) (l : Option Int) (h : Option Int) (ρ : Loc) : Res Opd := kOp1 (kSlD l h) (x.get ρ) ρ
theorem kSlH_a (x : Opd) (l h : Option Int) (ρ : Loc) : kSlH x l h ρ = kOp1 (kSlD l h) (x.get ρ) ρ := (rfl)
def kSlL (bh : Bool) (hi : Ex) (x : Opd) (l : Option Int) (ρ : Loc) : Res Opd := (kBound φ bh hi ρ).bd (kSlH x l)
theorem kSlL_a (bh : Bool) (hi : Ex) (x : Opd) (l : Option Int) (ρ : Loc) : kSlL φ bh hi x l ρ = (kBound φ bh hi ρ).bd (kSlH x l) := (rfl)
def kSl (bl : Bool) (lo : Ex) (bh : Bool) (hi : Ex) (x : Opd) (ρ : Loc) : Res Opd := (kBound φ bl lo ρ).bd (kSlL φ bh hi x)
theorem kSl_a (bl : Bool) (lo : Ex) (bh : Bool) (hi : Ex) (x : Opd) (ρ : Loc) : kSl φ bl lo bh hi x ρ = (kBound φ bl lo ρ).bd (kSlL φ bh hi x) := (rfl)
theorem ptB (y : Opd) (ρ : Loc) : Res.of ((y.get ρ).bind ptD) ρ = kPt y ρ := by unfold kPt; cases y.get ρ <;> rfl
theorem ev_sl (a : Ex) (bl : Bool) (lo : Ex) (bh : Bool) (hi : Ex) (ρ : Loc) : evO φ (.sl a bl lo bh hi) ρ = (evO φ a ρ).bd (kSl φ bl lo bh hi) := by
  rw [evO]; congr 1; funext x ρ1; unfold kSl
  have e1 : (if bl = true then (evO φ lo ρ1).bd fun y ρ' => Res.of ((y.get ρ').bind ptD) ρ' else .ok none ρ1) = kBound φ bl lo ρ1 := by
    cases bl with
    | false => rfl
    | true =>
      show (evO φ lo ρ1).bd _ = (evO φ lo ρ1).bd _
      congr 1; funext y ρ'; exact ptB y ρ'
  rw [e1]; congr 1; funext l ρ2; unfold kSlL
  have e2 : (if bh = true then (evO φ hi ρ2).bd fun y ρ' => Res.of ((y.get ρ').bind ptD) ρ' else .ok none ρ2) = kBound φ bh hi ρ2 := by
    cases bh with
    | false => rfl
    | true =>
      show (evO φ hi ρ2).bd _ = (evO φ hi ρ2).bd _
      congr 1; funext y ρ'; exact ptB y ρ'
  rw [e2]; congr 1; funext h ρ3; unfold kSlH
  cases x.get ρ3 <;> rfl
def kRev (x : Opd) (ρ : Loc) : Res Opd := kOp1 revD (x.get ρ) ρ
theorem kRev_a (x : Opd) (ρ : Loc) : kRev x ρ = kOp1 revD (x.get ρ) ρ := (rfl)
theorem ev_rev (a : Ex) (ρ : Loc) : evO φ (.rev a) ρ = (evO φ a ρ).bd kRev := by
  rw [evO]; congr 1; funext x ρ1; unfold kRev; cases x.get ρ1 <;> rfl
def kCall (f : Nat) (perm : List Nat) (os : List Opd) (ρ : Loc) : Res Opd := callD (φ f) (pmut perm os) ρ
theorem kCall_a (f : Nat) (perm : List Nat) (os : List Opd) (ρ : Loc) : kCall φ f perm os ρ = callD (φ f) (pmut perm os) ρ := (rfl)
theorem pmut_n (os : List Opd) : pmut [] os = os := (rfl)
theorem ev_call (f : Nat) (args : Es) (perm : List Nat) (ρ : Loc) : evO φ (.call f args perm) ρ = (evAs φ args ρ).bd (kCall φ f perm) := by rw [evO]; rfl
def kBi (b : BI) (os : List Opd) (ρ : Loc) : Res Opd := .of ((getAll ρ os).bind (biD b)) ρ
theorem kBi_a (b : BI) (os : List Opd) (ρ : Loc) : kBi b os ρ = .of ((getAll ρ os).bind (biD b)) ρ := (rfl)
theorem ev_bc (b : BI) (args : Es) (ρ : Loc) : evO φ (.bc b args) ρ = (evAs φ args ρ).bd (kBi b) := by
  rw [evO]; congr 1; funext os ρ1; unfold kBi; cases getAll ρ1 os <;> rfl
def kMtR (m : MI) (s : Str) (os : List Opd) (ρ : Loc) : Res Opd := .of ((getAll ρ os).bind (mtD m (.str s))) ρ
theorem kMtR_a (m : MI) (s : Str) (os : List Opd) (ρ : Loc) : kMtR m s os ρ = .of ((getAll ρ os).bind (mtD m (.str s))) ρ := (rfl)
def kMt (m : MI) (args : Es) (x : Opd) (ρ : Loc) : Res Opd := match x.get ρ with
  | some (.str s) => (evAs φ args ρ).bd (kMtR m s)
  | _ => .no
theorem kMt_a (m : MI) (args : Es) (s : Str) (ρ : Loc) : kMt φ m args (.v (.str s)) ρ = (evAs φ args ρ).bd (kMtR m s) := (rfl)
theorem ev_mth (m : MI) (o : Ex) (args : Es) (ρ : Loc) : evO φ (.mth m o args) ρ = (evO φ o ρ).bd (kMt φ m args) := by
  rw [evO]; congr 1; funext x ρ1; unfold kMt
  cases x.get ρ1 with
  | none => rfl
  | some d => cases d with
    | str s =>
      show (evAs φ args ρ1).bd _ = (evAs φ args ρ1).bd _
      congr 1; funext os ρ2; unfold kMtR; cases getAll ρ2 os <;> rfl
    | _ => rfl
def kLrR (x y : Opd) (ρ : Loc) : Res Opd := kOp2 lrD (x.get ρ) (y.get ρ) ρ
def kLrL (b : Ex) (x : Opd) (ρ : Loc) : Res Opd := (evO φ b ρ).bd (kLrR x)
theorem kLrR_a (x y : Opd) (ρ : Loc) : kLrR x y ρ = kOp2 lrD (x.get ρ) (y.get ρ) ρ := (rfl)
theorem kLrL_a (b : Ex) (x : Opd) (ρ : Loc) : kLrL φ b x ρ = (evO φ b ρ).bd (kLrR x) := (rfl)
theorem ev_lrange (a b : Ex) (ρ : Loc) : evO φ (.lrange a b) ρ = (evO φ a ρ).bd (kLrL φ b) := by
  rw [evO]; unfold kLrL kLrR; congr 1; funext x ρ1; congr 1; funext y ρ2
  cases x.get ρ2 <;> cases y.get ρ2 <;> rfl
/-- a pop: what is popped, what is left -/
def kPopR (i : Nat) (ρ : Loc) : Option (D × D) → Res Opd
  | some (x, d') => .ok (.v x) (setOwn ρ i d')
  | none => .no
theorem kPopR_s (i : Nat) (ρ : Loc) (x d' : D) : kPopR i ρ (some (x, d')) = .ok (.v x) (setOwn ρ i d') := (rfl)
def kPop (i : Nat) (os : List Opd) (ρ : Loc) : Res Opd := kPopR i ρ ((getAll ρ os).bind fun ds => (ownD ρ i).bind fun d => popD d ds)
theorem kPop_a (i : Nat) (os : List Opd) (ρ : Loc) : kPop i os ρ = kPopR i ρ ((getAll ρ os).bind fun ds => (ownD ρ i).bind fun d => popD d ds) := (rfl)
theorem ev_pop (i : Nat) (args : Es) (ρ : Loc) (h : ownL ρ i = true) : evO φ (.pop i args) ρ = (evAs φ args ρ).bd (kPop i) := by
  rw [evO, if_pos h]; congr 1; funext os ρ1; unfold kPop
  cases getAll ρ1 os with
  | none => rfl
  | some ds => cases ownD ρ1 i with
    | none => rfl
    | some d =>
      show (match popD d ds with
        | some (x, d') => _
        | none => _) = kPopR i ρ1 (popD d ds)
      cases popD d ds <;> rfl
/-- the test of a comprehension -/
def lcC (f : Bool) (c : Ex) (ρ : Loc) : Res Bool := if f then (evO φ c ρ).bd fun x ρ1 => .of ((x.get ρ1).bind truD) ρ1 else .ok true ρ
def kBack (own : List Nat) (ρ1 : Loc) (l : List D) (ρ2 : Loc) : Res Opd := .ok (.f (.lst l)) (backL ρ1 ρ2 own)
theorem kBack_a (own : List Nat) (ρ1 : Loc) (l : List D) (ρ2 : Loc) : kBack own ρ1 l ρ2 = .ok (.f (.lst l)) (backL ρ1 ρ2 own) := (rfl)
def kLc (own : List Nat) (t : Tg) (f : Bool) (c elt : Ex) (ds : List D) (ρ1 : Loc) : Res Opd := if clrL ρ1 own then (lcL own t (lcC φ f c) (evO φ elt) ds [] (wipeL ρ1 own)).bd (kBack own ρ1) else .no
theorem ev_lc (own : List (Str × Nat)) (t : Tg) (it : Itr) (f : Bool) (c elt : Ex) (ρ : Loc) : evO φ (.lc own t it f c elt) ρ = (evIt φ it ρ).bd (kLc φ (own.map (·.2)) t f c elt) := by rw [evO]; rfl
def kLc2 (own vs1 : List Nat) (t : Tg) (f : Bool) (c : Ex) (t1 : Tg) (it1 : Itr) (f1 : Bool) (c1 elt : Ex) (ds : List D) (ρ1 : Loc) : Res Opd := if clrL ρ1 own then (lc2L own vs1 t (lcC φ f c) (evIt φ it1) t1 (lcC φ f1 c1) (evO φ elt) ds [] (wipeL ρ1 own)).bd (kBack own ρ1) else .no
theorem ev_lc2 (own : List (Str × Nat)) (t : Tg) (it : Itr) (f : Bool) (c : Ex) (vs1 : List Nat) (t1 : Tg) (it1 : Itr) (f1 : Bool) (c1 elt : Ex) (ρ : Loc) : evO φ (.lc2 own t it f c vs1 t1 it1 f1 c1 elt) ρ = (evIt φ it ρ).bd (kLc2 φ (own.map (·.2)) vs1 t f c t1 it1 f1 c1 elt) := by rw [evO]; rfl
/-! lists of expressions -/
def kEsT (d : D) (ds : List D) (ρ : Loc) : Res (List D) := .ok (d :: ds) ρ
theorem kEsT_a (d : D) (ds : List D) (ρ : Loc) : kEsT d ds ρ = .ok (d :: ds) ρ := (rfl)
def kEsD (r : Es) (d : D) (ρ : Loc) : Res (List D) := (evEs φ r ρ).bd (kEsT d)
theorem kEsD_a (r : Es) (d : D) (ρ : Loc) : kEsD φ r d ρ = (evEs φ r ρ).bd (kEsT d) := (rfl)
def kEs (r : Es) (x : Opd) (ρ : Loc) : Res (List D) := (x.esc ρ).bd (kEsD φ r)
theorem kEs_a (r : Es) (x : Opd) (ρ : Loc) : kEs φ r x ρ = (x.esc ρ).bd (kEsD φ r) := (rfl)
theorem es_n (ρ : Loc) : evEs φ .nil ρ = .ok [] ρ := by rw [evEs]
theorem es_c (e : Ex) (r : Es) (ρ : Loc) : evEs φ (.cons false e r) ρ = (evO φ e ρ).bd (kEs φ r) := by rw [evEs]; rfl
def kEsA (l ds : List D) (ρ : Loc) : Res (List D) := .ok (l ++ ds) ρ
theorem kEsA_a (l ds : List D) (ρ : Loc) : kEsA l ds ρ = .ok (l ++ ds) ρ := (rfl)
def kEsS1 (r : Es) : Option D → Loc → Res (List D)
  | some (.lst l), ρ => (evEs φ r ρ).bd (kEsA l)
  | some (.tup l), ρ => (evEs φ r ρ).bd (kEsA l)
  | _, _ => .no
theorem kEsS1_l (r : Es) (l : List D) (ρ : Loc) : kEsS1 φ r (some (.lst l)) ρ = (evEs φ r ρ).bd (kEsA l) := (rfl)
theorem kEsS1_t (r : Es) (l : List D) (ρ : Loc) : kEsS1 φ r (some (.tup l)) ρ = (evEs φ r ρ).bd (kEsA l) := (rfl)
def kEsS (r : Es) (x : Opd) (ρ : Loc) : Res (List D) := kEsS1 φ r (x.get ρ) ρ
theorem kEsS_a (r : Es) (x : Opd) (ρ : Loc) : kEsS φ r x ρ = kEsS1 φ r (x.get ρ) ρ := (rfl)
theorem es_s (e : Ex) (r : Es) (ρ : Loc) : evEs φ (.cons true e r) ρ = (evO φ e ρ).bd (kEsS φ r) := by
  rw [evEs]; congr 1; funext x ρ1; unfold kEsS
  cases x.get ρ1 with
  | none => rfl
  | some d => cases d <;> rfl
def kAsT (x : Opd) (os : List Opd) (ρ : Loc) : Res (List Opd) := .ok (x :: os) ρ
theorem kAsT_a (x : Opd) (os : List Opd) (ρ : Loc) : kAsT x os ρ = .ok (x :: os) ρ := (rfl)
def kAs (r : Es) (x : Opd) (ρ : Loc) : Res (List Opd) := (evAs φ r ρ).bd (kAsT x)
theorem kAs_a (r : Es) (x : Opd) (ρ : Loc) : kAs φ r x ρ = (evAs φ r ρ).bd (kAsT x) := (rfl)
theorem as_n (ρ : Loc) : evAs φ .nil ρ = .ok [] ρ := by rw [evAs]
theorem as_c (b : Bool) (e : Ex) (r : Es) (ρ : Loc) : evAs φ (.cons b e r) ρ = (evO φ e ρ).bd (kAs φ r) := by rw [evAs]; rfl
/-! what is walked -/
def kItD (f : D → Option (List D)) (d : D) (ρ : Loc) : Res (List D) := .of (f d) ρ
theorem kItD_a (f : D → Option (List D)) (d : D) (ρ : Loc) : kItD f d ρ = .of (f d) ρ := (rfl)
def kIt (f : D → Option (List D)) (x : Opd) (ρ : Loc) : Res (List D) := (x.esc ρ).bd (kItD f)
theorem kIt_a (f : D → Option (List D)) (x : Opd) (ρ : Loc) : kIt f x ρ = (x.esc ρ).bd (kItD f) := (rfl)
theorem it_seq (e : Ex) (ρ : Loc) : evIt φ (.seq e) ρ = (evO φ e ρ).bd (kIt itD) := by rw [evIt]; rfl
theorem it_enum (e : Ex) (ρ : Loc) : evIt φ (.enum e) ρ = (evO φ e ρ).bd (kIt enD) := by rw [evIt]; rfl
def kZpE (d : D) (e : D) (ρ : Loc) : Res (List D) := .of (zipD d e) ρ
theorem kZpE_a (d e : D) (ρ : Loc) : kZpE d e ρ = .of (zipD d e) ρ := (rfl)
def kZpY (d : D) (y : Opd) (ρ : Loc) : Res (List D) := (y.esc ρ).bd (kZpE d)
theorem kZpY_a (d : D) (y : Opd) (ρ : Loc) : kZpY d y ρ = (y.esc ρ).bd (kZpE d) := (rfl)
def kZpD (b : Ex) (d : D) (ρ : Loc) : Res (List D) := (evO φ b ρ).bd (kZpY d)
theorem kZpD_a (b : Ex) (d : D) (ρ : Loc) : kZpD φ b d ρ = (evO φ b ρ).bd (kZpY d) := (rfl)
def kZp (b : Ex) (x : Opd) (ρ : Loc) : Res (List D) := (x.esc ρ).bd (kZpD φ b)
theorem kZp_a (b : Ex) (x : Opd) (ρ : Loc) : kZp φ b x ρ = (x.esc ρ).bd (kZpD φ b) := (rfl)
theorem it_zip (a b : Ex) (ρ : Loc) : evIt φ (.zip a b) ρ = (evO φ a ρ).bd (kZp φ b) := by rw [evIt]; rfl
def r1D : D → Option (List D)
  | .int j => if okI j then some (rngD 0 j.toNat 1) else none
  | _ => none
theorem r1D_a (j : Int) : r1D (.int j) = if okI j then some (rngD 0 j.toNat 1) else none := (rfl)
def kR1 (x : Opd) (ρ : Loc) : Res (List D) := kOp1 r1D (x.get ρ) ρ
theorem kR1_a (x : Opd) (ρ : Loc) : kR1 x ρ = kOp1 r1D (x.get ρ) ρ := (rfl)
theorem it_r1 (a : Ex) (ρ : Loc) : evIt φ (.r1 a) ρ = (evO φ a ρ).bd kR1 := by
  rw [evIt]; congr 1; funext x ρ1; unfold kR1
  cases x.get ρ1 with
  | none => rfl
  | some d => cases d with
    | int j =>
      show (if okI j = true then _ else _) = Res.of (if okI j = true then _ else _) ρ1
      cases okI j <;> rfl
    | _ => rfl
def r2D : D → D → Option (List D)
  | .int i, .int j => if okI i && okI j then some (rngD i (j - i).toNat 1) else none
  | _, _ => none
theorem r2D_a (i j : Int) : r2D (.int i) (.int j) = if okI i && okI j then some (rngD i (j - i).toNat 1) else none := (rfl)
def kR2R (x y : Opd) (ρ : Loc) : Res (List D) := kOp2 r2D (x.get ρ) (y.get ρ) ρ
def kR2L (b : Ex) (x : Opd) (ρ : Loc) : Res (List D) := (evO φ b ρ).bd (kR2R x)
theorem kR2R_a (x y : Opd) (ρ : Loc) : kR2R x y ρ = kOp2 r2D (x.get ρ) (y.get ρ) ρ := (rfl)
theorem kR2L_a (b : Ex) (x : Opd) (ρ : Loc) : kR2L φ b x ρ = (evO φ b ρ).bd (kR2R x) := (rfl)
theorem it_r2 (a b : Ex) (ρ : Loc) : evIt φ (.r2 a b) ρ = (evO φ a ρ).bd (kR2L φ b) := by
  rw [evIt]; unfold kR2L kR2R; congr 1; funext x ρ1; congr 1; funext y ρ2
  cases x.get ρ2 with
  | none => cases y.get ρ2 <;> rfl
  | some d => cases d with
    | int i => cases y.get ρ2 with
      | none => rfl
      | some e => cases e with
        | int j =>
          show (if (okI i && okI j) = true then _ else _) = Res.of (if (okI i && okI j) = true then _ else _) ρ2
          cases (okI i && okI j) <;> rfl
        | _ => rfl
    | _ => cases y.get ρ2 <;> rfl
def r3D (d e f : D) : Option (List D) := match d, e, f with
  | .int i, .int j, .int k => if decide (k ≠ 0) && decide (k.natAbs < 1073741824) && Builtin.Range.small i j k && decide (0 ≤ Builtin.Range.rangeSize i j k) then some (rngD i (Builtin.Range.rangeSize i j k).toNat k) else none
  | _, _, _ => none
def kOp3 {α : Type} (f : D → D → D → Option α) : Option D → Option D → Option D → Loc → Res α
  | some d, some e, some g, ρ => .of (f d e g) ρ
  | _, _, _, _ => .no
theorem kOp3_s {α : Type} (f : D → D → D → Option α) (d e g : D) (ρ : Loc) : kOp3 f (some d) (some e) (some g) ρ = .of (f d e g) ρ := (rfl)
def kR3C (x y z : Opd) (ρ : Loc) : Res (List D) := kOp3 r3D (x.get ρ) (y.get ρ) (z.get ρ) ρ
def kR3R (c : Ex) (x y : Opd) (ρ : Loc) : Res (List D) := (evO φ c ρ).bd (kR3C x y)
def kR3L (b c : Ex) (x : Opd) (ρ : Loc) : Res (List D) := (evO φ b ρ).bd (kR3R φ c x)
theorem kR3C_a (x y z : Opd) (ρ : Loc) : kR3C x y z ρ = kOp3 r3D (x.get ρ) (y.get ρ) (z.get ρ) ρ := (rfl)
theorem kR3R_a (c : Ex) (x y : Opd) (ρ : Loc) : kR3R φ c x y ρ = (evO φ c ρ).bd (kR3C x y) := (rfl)
theorem kR3L_a (b c : Ex) (x : Opd) (ρ : Loc) : kR3L φ b c x ρ = (evO φ b ρ).bd (kR3R φ c x) := (rfl)
theorem it_r3 (a b c : Ex) (ρ : Loc) : evIt φ (.r3 a b c) ρ = (evO φ a ρ).bd (kR3L φ b c) := by
  rw [evIt]; unfold kR3L kR3R kR3C; congr 1; funext x ρ1; congr 1; funext y ρ2; congr 1; funext z ρ3
  cases x.get ρ3 with
  | none => cases y.get ρ3 <;> cases z.get ρ3 <;> rfl
  | some d => cases y.get ρ3 with
    | none => cases d <;> cases z.get ρ3 <;> rfl
    | some e => cases z.get ρ3 with
      | none => cases d <;> cases e <;> rfl
      | some f =>
        cases d with
        | int i => cases e with
          | int j => cases f with
            | int k =>
              show (if (decide (k ≠ 0) && decide (k.natAbs < 1073741824) && Builtin.Range.small i j k && decide (0 ≤ Builtin.Range.rangeSize i j k)) = true then _ else _) = Res.of (if (decide (k ≠ 0) && decide (k.natAbs < 1073741824) && Builtin.Range.small i j k && decide (0 ≤ Builtin.Range.rangeSize i j k)) = true then _ else _) ρ3
              cases (decide (k ≠ 0) && decide (k.natAbs < 1073741824) && Builtin.Range.small i j k && decide (0 ≤ Builtin.Range.rangeSize i j k)) <;> rfl
            | _ => rfl
          | _ => cases f <;> rfl
        | _ => cases e <;> cases f <;> rfl
/-! ### statements -/
def kT (x : Opd) (ρ : Loc) : Res Bool := kTru (x.get ρ) ρ
theorem kT_a (x : Opd) (ρ : Loc) : kT x ρ = kTru (x.get ρ) ρ := (rfl)
theorem t_eq (c : Ex) (ρ : Loc) : evT φ c ρ = (evO φ c ρ).bd kT := (rfl)
theorem lcC_t (c : Ex) (ρ : Loc) : lcC φ true c ρ = (evO φ c ρ).bd kT := (rfl)
theorem lcC_f (c : Ex) (ρ : Loc) : lcC φ false c ρ = .ok true ρ := (rfl)
def kSs (r : Ss) : Fl → Loc → Res Fl
  | .nx, ρ => evSs φ r ρ
  | fl, ρ => .ok fl ρ
theorem kSs_nx (r : Ss) (ρ : Loc) : kSs φ r .nx ρ = evSs φ r ρ := (rfl)
theorem kSs_rt (r : Ss) (o : Opd) (ρ : Loc) : kSs φ r (.rt o) ρ = .ok (.rt o) ρ := (rfl)
theorem kSs_bk (r : Ss) (ρ : Loc) : kSs φ r .bk ρ = .ok .bk ρ := (rfl)
theorem kSs_ct (r : Ss) (ρ : Loc) : kSs φ r .ct ρ = .ok .ct ρ := (rfl)
theorem ss_n (ρ : Loc) : evSs φ .nil ρ = .ok .nx ρ := by rw [evSs]
theorem ss_c (s : Sm) (r : Ss) (ρ : Loc) : evSs φ (.cons s r) ρ = (evS φ s ρ).bd (kSs φ r) := by
  rw [evSs]; congr 1; funext fl ρ1; cases fl <;> rfl
def kOw (i : Nat) (d : D) (ρ : Loc) : Option Slot → Res Fl
  | some (.mp _) => .no
  | some _ => .ok .nx (ρ.set i (.ow d))
  | none => .no
theorem kOw_un (i : Nat) (d : D) (ρ : Loc) : kOw i d ρ (some .un) = .ok .nx (ρ.set i (.ow d)) := (rfl)
theorem kOw_sh (i : Nat) (d : D) (ρ : Loc) (e : D) : kOw i d ρ (some (.sh e)) = .ok .nx (ρ.set i (.ow d)) := (rfl)
theorem kOw_ow (i : Nat) (d : D) (ρ : Loc) (e : D) : kOw i d ρ (some (.ow e)) = .ok .nx (ρ.set i (.ow d)) := (rfl)
def kTgR : Option Loc → Res Fl
  | some ρ => .ok .nx ρ
  | none => .no
theorem kTgR_s (ρ : Loc) : kTgR (some ρ) = .ok .nx ρ := (rfl)
def kTg (t : Tg) (d : D) (ρ : Loc) : Res Fl := kTgR (tgD t d ρ)
theorem kTg_a (t : Tg) (d : D) (ρ : Loc) : kTg t d ρ = kTgR (tgD t d ρ) := (rfl)
def kAsgO (i : Nat) : Opd → Loc → Res Fl
  | .f d, ρ => kOw i d ρ ρ[i]?
  | _, _ => .no
theorem kAsgO_a (i : Nat) (d : D) (ρ : Loc) : kAsgO i (.f d) ρ = kOw i d ρ ρ[i]? := (rfl)
def kAsg (t : Tg) (x : Opd) (ρ : Loc) : Res Fl := (x.esc ρ).bd (kTg t)
theorem kAsg_a (t : Tg) (x : Opd) (ρ : Loc) : kAsg t x ρ = (x.esc ρ).bd (kTg t) := (rfl)
theorem s_asgO (i : Nat) (e : Ex) (ρ : Loc) : evS φ (.asg (.v i) true e) ρ = (evO φ e ρ).bd (kAsgO i) := by
  rw [evS]; congr 1; funext x ρ1
  cases x with
  | f d =>
    show (match ρ1[i]? with
      | some (.mp _) => _
      | some _ => _
      | none => _) = kOw i d ρ1 ρ1[i]?
    cases ρ1[i]? with
    | none => rfl
    | some s => cases s <;> rfl
  | _ => rfl
theorem s_asg (t : Tg) (e : Ex) (ρ : Loc) : evS φ (.asg t false e) ρ = (evO φ e ρ).bd (kAsg t) := by
  rw [evS]; rfl
def kStP (l : List (Tg × Bool)) (ds : List (Bool × D)) (ρ : Loc) : Res Fl := kTgR (storeP l ds ρ)
theorem kStP_a (l : List (Tg × Bool)) (ds : List (Bool × D)) (ρ : Loc) : kStP l ds ρ = kTgR (storeP l ds ρ) := (rfl)
theorem s_asgp (l : List (Tg × Bool)) (es : Es) (ρ : Loc) : evS φ (.asgp l es) ρ = (evPs φ (l.map (·.2)) es ρ).bd (kStP l) := by
  rw [evS]; rfl
def kPsT (b : Bool) (d : D) (ds : List (Bool × D)) (ρ : Loc) : Res (List (Bool × D)) := .ok ((b, d) :: ds) ρ
theorem kPsT_a (b : Bool) (d : D) (ds : List (Bool × D)) (ρ : Loc) : kPsT b d ds ρ = .ok ((b, d) :: ds) ρ := (rfl)
def kPsD (bs : List Bool) (r : Es) (d : D) (ρ : Loc) : Res (List (Bool × D)) := (evPs φ bs r ρ).bd (kPsT false d)
theorem kPsD_a (bs : List Bool) (r : Es) (d : D) (ρ : Loc) : kPsD φ bs r d ρ = (evPs φ bs r ρ).bd (kPsT false d) := (rfl)
def kPs (bs : List Bool) (r : Es) (x : Opd) (ρ : Loc) : Res (List (Bool × D)) := (x.esc ρ).bd (kPsD φ bs r)
theorem kPs_a (bs : List Bool) (r : Es) (x : Opd) (ρ : Loc) : kPs φ bs r x ρ = (x.esc ρ).bd (kPsD φ bs r) := (rfl)
def kPsO (bs : List Bool) (r : Es) : Opd → Loc → Res (List (Bool × D))
  | .f d, ρ => (evPs φ bs r ρ).bd (kPsT true d)
  | _, _ => .no
theorem kPsO_a (bs : List Bool) (r : Es) (d : D) (ρ : Loc) : kPsO φ bs r (.f d) ρ = (evPs φ bs r ρ).bd (kPsT true d) := (rfl)
theorem ps_n (ρ : Loc) : evPs φ [] .nil ρ = .ok [] ρ := by rw [evPs]
theorem ps_f (bs : List Bool) (e : Ex) (r : Es) (ρ : Loc) : evPs φ (false :: bs) (.cons false e r) ρ = (evO φ e ρ).bd (kPs φ bs r) := by
  rw [evPs]; rfl
theorem ps_t (bs : List Bool) (e : Ex) (r : Es) (ρ : Loc) : evPs φ (true :: bs) (.cons false e r) ρ = (evO φ e ρ).bd (kPsO φ bs r) := by
  rw [evPs]; congr 1; funext x ρ1; unfold kPsO kPsT; cases x <;> rfl
def kSet3 (i : Nat) (ρ : Loc) : Option D → Res Fl
  | some c' => .ok .nx (setOwn ρ i c')
  | none => .no
theorem kSet3_s (i : Nat) (ρ : Loc) (c : D) : kSet3 i ρ (some c) = .ok .nx (setOwn ρ i c) := (rfl)
def kSet2 (i : Nat) (d : D) (y : Opd) (ρ : Loc) : Res Fl := kSet3 i ρ ((y.get ρ).bind fun kd => (ownD ρ i).bind fun c => setD c kd d)
theorem kSet2_a (i : Nat) (d : D) (y : Opd) (ρ : Loc) : kSet2 i d y ρ = kSet3 i ρ ((y.get ρ).bind fun kd => (ownD ρ i).bind fun c => setD c kd d) := (rfl)
def kSet1 (i : Nat) (k : Ex) (d : D) (ρ : Loc) : Res Fl := if ownL ρ i = true then (evO φ k ρ).bd (kSet2 i d) else .no
theorem kSet1_a (i : Nat) (k : Ex) (d : D) (ρ : Loc) : kSet1 φ i k d ρ = if ownL ρ i = true then (evO φ k ρ).bd (kSet2 i d) else .no := (rfl)
def kSet (i : Nat) (k : Ex) (x : Opd) (ρ : Loc) : Res Fl := (x.esc ρ).bd (kSet1 φ i k)
theorem kSet_a (i : Nat) (k : Ex) (x : Opd) (ρ : Loc) : kSet φ i k x ρ = (x.esc ρ).bd (kSet1 φ i k) := (rfl)
theorem s_setix (i : Nat) (k e : Ex) (ρ : Loc) : evS φ (.setix i k e) ρ = (evO φ e ρ).bd (kSet φ i k) := by
  rw [evS]; congr 1; funext x ρ1
  show (x.esc ρ1).bd _ = (x.esc ρ1).bd _
  congr 1; funext d ρ2; unfold kSet1
  congr 1
  show (evO φ k ρ2).bd _ = (evO φ k ρ2).bd _
  congr 1; funext y ρ3; unfold kSet2
  cases y.get ρ3 with
  | none => rfl
  | some kd => cases ownD ρ3 i with
    | none => rfl
    | some c =>
      show (match setD c kd d with
        | some c' => _
        | none => _) = kSet3 i ρ3 (setD c kd d)
      cases setD c kd d <;> rfl
def kAug3 (i : Nat) (ρ : Loc) : Option Opd → Res Fl
  | some (.v r) => kTgR (setSh ρ i r)
  | _ => .no
theorem kAug3_s (i : Nat) (ρ : Loc) (r : D) : kAug3 i ρ (some (.v r)) = kTgR (setSh ρ i r) := (rfl)
def kAug2 (i : Nat) (o : Operator) (d : D) (x : Opd) (ρ : Loc) : Res Fl := kAug3 i ρ ((x.get ρ).bind fun d' => binD o d d')
theorem kAug2_a (i : Nat) (o : Operator) (d : D) (x : Opd) (ρ : Loc) : kAug2 i o d x ρ = kAug3 i ρ ((x.get ρ).bind fun d' => binD o d d') := (rfl)
def kAug (i : Nat) (o : Operator) (e : Ex) (ρ : Loc) : Option Slot → Res Fl
  | some (.sh d) => (evO φ e ρ).bd (kAug2 i o d)
  | _ => .no
theorem kAug_s (i : Nat) (o : Operator) (e : Ex) (ρ : Loc) (d : D) : kAug φ i o e ρ (some (.sh d)) = (evO φ e ρ).bd (kAug2 i o d) := (rfl)
theorem s_aug (i : Nat) (o : Operator) (e : Ex) (ρ : Loc) : evS φ (.aug i o e) ρ = kAug φ i o e ρ ρ[i]? := by
  rw [evS]
  cases ρ[i]? with
  | none => rfl
  | some s => cases s with
    | sh d =>
      show (evO φ e ρ).bd _ = (evO φ e ρ).bd _
      congr 1; funext x ρ1; unfold kAug2
      cases x.get ρ1 with
      | none => rfl
      | some d' =>
        show (match binD o d d' with
          | some (.v r) => _
          | _ => _) = kAug3 i ρ1 (binD o d d')
        cases binD o d d' with
        | none => rfl
        | some r => cases r with
          | v r =>
            show (match setSh ρ1 i r with
              | some ρ2 => Res.ok Fl.nx ρ2
              | none => .no) = kTgR (setSh ρ1 i r)
            cases setSh ρ1 i r <;> rfl
          | _ => rfl
    | _ => rfl
def kApp1 (i : Nat) (d : D) (ρ : Loc) : Res Fl := kSet3 i ρ ((ownD ρ i).bind fun c => appD c d)
theorem kApp1_a (i : Nat) (d : D) (ρ : Loc) : kApp1 i d ρ = kSet3 i ρ ((ownD ρ i).bind fun c => appD c d) := (rfl)
def kApp (i : Nat) (x : Opd) (ρ : Loc) : Res Fl := (x.esc ρ).bd (kApp1 i)
theorem kApp_a (i : Nat) (x : Opd) (ρ : Loc) : kApp i x ρ = (x.esc ρ).bd (kApp1 i) := (rfl)
theorem s_app (i : Nat) (e : Ex) (ρ : Loc) : evS φ (.app i e) ρ = if ownL ρ i = true then (evO φ e ρ).bd (kApp i) else .no := by
  rw [evS]; congr 1
  show (evO φ e ρ).bd _ = (evO φ e ρ).bd _
  congr 1; funext x ρ1
  show (x.esc ρ1).bd _ = (x.esc ρ1).bd _
  congr 1; funext d ρ2; unfold kApp1
  cases ownD ρ2 i with
  | none => rfl
  | some c =>
    show (match appD c d with
      | some c' => _
      | none => _) = kSet3 i ρ2 (appD c d)
    cases appD c d <;> rfl
def kExp (x : Opd) (ρ : Loc) : Res Fl := .ok .nx ρ
theorem kExp_a (x : Opd) (ρ : Loc) : kExp x ρ = .ok .nx ρ := (rfl)
theorem s_exp (e : Ex) (ρ : Loc) : evS φ (.exp e) ρ = (evO φ e ρ).bd kExp := by rw [evS]; rfl
def kIf (a b : Ss) : Bool → Loc → Res Fl
  | true, ρ => evSs φ a ρ
  | false, ρ => evSs φ b ρ
theorem kIf_t (a b : Ss) (ρ : Loc) : kIf φ a b true ρ = evSs φ a ρ := (rfl)
theorem kIf_f (a b : Ss) (ρ : Loc) : kIf φ a b false ρ = evSs φ b ρ := (rfl)
theorem s_ifs (c : Ex) (a b : Ss) (ρ : Loc) : evS φ (.ifs c a b) ρ = (evT φ c ρ).bd (kIf φ a b) := by
  rw [evS]; congr 1; funext t ρ1; cases t <;> rfl
def kFor (t : Tg) (b : Ss) (ds : List D) (ρ : Loc) : Res Fl := forL t (evSs φ b) ds ρ
theorem kFor_a (t : Tg) (b : Ss) (ds : List D) (ρ : Loc) : kFor φ t b ds ρ = forL t (evSs φ b) ds ρ := (rfl)
theorem s_for (t : Tg) (it : Itr) (b : Ss) (ρ : Loc) : evS φ (.for_ t it b) ρ = (evIt φ it ρ).bd (kFor φ t b) := by rw [evS]; rfl
theorem s_while (c : Ex) (b : Ss) (ρ : Loc) : evS φ (.while_ c b) ρ = whL (evT φ c) (evSs φ b) ρ := by rw [evS]
def kRet (x : Opd) (ρ : Loc) : Res Fl := .ok (.rt x) ρ
theorem kRet_a (x : Opd) (ρ : Loc) : kRet x ρ = .ok (.rt x) ρ := (rfl)
theorem s_retE (e : Ex) (ρ : Loc) : evS φ (.ret e) ρ = (evO φ e ρ).bd kRet := by rw [evS]; rfl
theorem s_retN (ρ : Loc) : evS φ .retN ρ = .ok (.rt (.v .non)) ρ := by rw [evS]
theorem s_brk (ρ : Loc) : evS φ .brk ρ = .ok .bk ρ := by rw [evS]
theorem s_cont (ρ : Loc) : evS φ .cont ρ = .ok .ct ρ := by rw [evS]
theorem s_pass (ρ : Loc) : evS φ .pass ρ = .ok .nx ρ := by rw [evS]
end
end
end TW.P
end
/-! P1 -/
section
set_option Elab.async false
set_option linter.all false
set_option maxRecDepth 100000
set_option maxHeartbeats 4000000
set_option autoImplicit false
/-! TW, plain part 1: operations, calls, loops; the set of equations. -/
namespace TW.P
open PySem PySem.Spec L2
open PyProof.Rows hiding St
noncomputable section
/-! ### operations -/
theorem bin_add (i j : Int) : binD .Add (.int i) (.int j) = some (.v (.int (i + j))) := (rfl)
theorem bin_sub (i j : Int) : binD .Sub (.int i) (.int j) = some (.v (.int (i - j))) := (rfl)
theorem bin_mod (i j : Int) : binD .Mod (.int i) (.int j) = if 0 < j then some (.v (.int (i % j))) else none := (rfl)
theorem bin_mul (i j : Int) : binD .Mult (.int i) (.int j) = if mulI i && mulI j then some (.v (.int (i * j))) else none := (rfl)
theorem bin_div (i j : Int) : binD .FloorDiv (.int i) (.int j) = if decide (0 < j) && smallI j then some (.v (.int (i / j))) else none := (rfl)
theorem bin_pow (i j : Int) : binD .Pow (.int i) (.int j) = if decide (0 ≤ j) && decide (j ≤ 200) && smallI i then some (.v (.int (i ^ j.toNat))) else none := (rfl)
theorem bin_addS (s t : Str) : binD .Add (.str s) (.str t) = if s.length + t.length ≤ sizeLine then some (.v (.str (s ++ t))) else none := (rfl)
theorem bin_addL (l m : List D) : binD .Add (.lst l) (.lst m) = if l.length + m.length ≤ sizeLine then some (.f (.lst (l ++ m))) else none := (rfl)
theorem bin_mulL (l : List D) (j : Int) : binD .Mult (.lst l) (.int j) = if decide (l.length * j.toNat ≤ sizeLine) && okI j then some (.f (.lst ((List.replicate j.toNat l).flatten))) else none := (rfl)
theorem cmp_lt (i j : Int) : cmpD .Lt (.int i) (.int j) = some (decide (i < j)) := (rfl)
theorem cmp_le (i j : Int) : cmpD .LtE (.int i) (.int j) = some (decide (i ≤ j)) := (rfl)
theorem cmp_gt (i j : Int) : cmpD .Gt (.int i) (.int j) = some (decide (j < i)) := (rfl)
theorem cmp_ge (i j : Int) : cmpD .GtE (.int i) (.int j) = some (decide (j ≤ i)) := (rfl)
theorem cmp_eq (d e : D) : cmpD .Eq d e = eqD d e := by cases d <;> cases e <;> rfl
theorem cmp_ne (d e : D) : cmpD .NotEq d e = (eqD d e).map (!·) := by cases d <;> cases e <;> rfl
theorem cmp_in (i : Int) (l : List D) : cmpD .In (.int i) (.lst l) = inD (.int i) (.lst l) := (rfl)
theorem cmp_ni (i : Int) (l : List D) : cmpD .NotIn (.int i) (.lst l) = (inD (.int i) (.lst l)).map (!·) := (rfl)
theorem cmp_is (d e : D) : cmpD .Is d e = isND d e := by cases d <;> cases e <;> rfl
theorem cmp_isn (d e : D) : cmpD .IsNot d e = (isND d e).map (!·) := by cases d <;> cases e <;> rfl
theorem cmpB_a (o : CmpOp) (d e : D) : cmpB o d e = (cmpD o d e).map fun t => .v (.bl t) := (rfl)
theorem isN_n : isND .non .non = some true := (rfl)
theorem isN_i (i : Int) : isND (.int i) .non = some false := (rfl)
theorem isN_t (l : List D) : isND (.tup l) .non = some false := (rfl)
theorem isN_l (l : List D) : isND (.lst l) .non = some false := (rfl)
theorem omap_s {α β : Type} (f : α → β) (a : α) : (some a).map f = some (f a) := (rfl)
theorem obind_s {α β : Type} (f : α → Option β) (a : α) : (some a).bind f = f a := (rfl)
theorem obind_n {α β : Type} (f : α → Option β) : (none : Option α).bind f = none := (rfl)
theorem negB_i (i : Int) : negB (.int i) = some (.v (.int (-i))) := (rfl)
theorem tru_b (b : Bool) : truD (.bl b) = some b := (rfl)
theorem tru_i (i : Int) : truD (.int i) = some (i != 0) := (rfl)
theorem ixB_a (d e : D) : ixB d e = (ixD d e).map .v := (rfl)
theorem ix_l (l : List D) (i : Int) : ixD (.lst l) (.int i) = atI l i := (rfl)
theorem ix_t (l : List D) (i : Int) : ixD (.tup l) (.int i) = atI l i := (rfl)
theorem atI_nat {α : Type} {l : List α} {i : Int} (h0 : 0 ≤ i) (h1 : i < l.length) : atI l i = l[i.toNat]? := by
  unfold atI ixN
  rw [if_pos h0, if_pos h1]; rfl
theorem atI_0 {α : Type} (a : α) (l : List α) : atI (a :: l) 0 = some a := by
  rw [atI_nat (by decide) (by simp)]; rfl
theorem atI_1 {α : Type} (a b : α) (l : List α) : atI (a :: b :: l) 1 = some b := by
  rw [atI_nat (by decide) (by simp; omega)]; rfl
theorem atI_2 {α : Type} (a b c : α) (l : List α) : atI (a :: b :: c :: l) 2 = some c := by
  rw [atI_nat (by decide) (by simp; omega)]; rfl
theorem atI_3 {α : Type} (a b c d : α) (l : List α) : atI (a :: b :: c :: d :: l) 3 = some d := by
  rw [atI_nat (by decide) (by simp; omega)]; rfl
theorem atI_last {α : Type} {l : List α} (h : l ≠ []) : atI l (-1) = some (l.getLast h) := by
  have hl : 0 < l.length := List.length_pos_iff.mpr h
  unfold atI ixN
  rw [if_neg (by decide), if_pos (by omega)]
  show l[(-1 + (l.length : Int)).toNat]? = _
  rw [show (-1 + (l.length : Int)).toNat = l.length - 1 by omega, ← List.getLast?_eq_getElem?, List.getLast?_eq_some_getLast h]
theorem bi_len (l : List D) : biD .len [.lst l] = some (.v (.int l.length)) := (rfl)
theorem bi_lenT (l : List D) : biD .len [.tup l] = some (.v (.int l.length)) := (rfl)
theorem bi_int (i : Int) : biD .int_ [.int i] = some (.v (.int i)) := (rfl)
theorem bi_intB (b : Bool) : biD .int_ [.bl b] = some (.v (.int (if b then 1 else 0))) := (rfl)
theorem bi_abs (i : Int) : biD .abs [.int i] = some (.v (.int (if i < 0 then -i else i))) := (rfl)
theorem bi_max (i j : Int) : biD .max [.int i, .int j] = some (.v (.int (if j > i then j else i))) := (rfl)
theorem bi_min (i j : Int) : biD .min [.int i, .int j] = some (.v (.int (if j < i then j else i))) := (rfl)
theorem bi_list (l : List D) : biD .list_ [.lst l] = some (.f (.lst l)) := (rfl)
theorem bi_repr (d : D) : biD .repr [d] = (reprD d).map fun s => .v (.str s) := (rfl)
theorem bi_isi (ts : List String) (d : D) : biD (.isi ts) [d] = if isiOk d then some (.v (.bl (ts.any (isiD d)))) else none := (rfl)
theorem pt_i (i : Int) : ptD (.int i) = some (some i) := (rfl)
theorem slD_l (l : List D) (lo hi : Option Int) : kSlD lo hi (.lst l) = some (.f (.lst (cutL l lo hi))) := (rfl)
theorem rev_l (l : List D) : revD (.lst l) = some (.f (.lst l.reverse)) := (rfl)
theorem itD_l (l : List D) : itD (.lst l) = some l := (rfl)
theorem itD_t (l : List D) : itD (.tup l) = some l := (rfl)
theorem enD_l (l : List D) : enD (.lst l) = some (enumD 0 l) := (rfl)
theorem enD_t (l : List D) : enD (.tup l) = some (enumD 0 l) := (rfl)
theorem zipD_l (l m : List D) : zipD (.lst l) (.lst m) = some (List.zipWith (fun d e => .tup [d, e]) l m) := (rfl)
theorem lrD_i (i j : Int) : lrD (.int i) (.int j) = if okI i && okI j && decide ((j - i).toNat ≤ 2 ^ 24) then some (.f (.lst (rngD i (j - i).toNat 1))) else none := (rfl)
theorem getAll_n (ρ : Loc) : getAll ρ [] = some [] := (rfl)
def kGetC : Option D → Option (List D) → Option (List D)
  | some d, some ds => some (d :: ds)
  | _, _ => none
theorem kGetC_s (d : D) (ds : List D) : kGetC (some d) (some ds) = some (d :: ds) := (rfl)
theorem getAll_c (ρ : Loc) (o : Opd) (r : List Opd) : getAll ρ (o :: r) = kGetC (o.get ρ) (getAll ρ r) := by
  rw [getAll]; cases o.get ρ <;> cases getAll ρ r <;> rfl
/-! ### targets -/
def kSh (ρ : Loc) (i : Nat) (d : D) : Option Slot → Option Loc
  | some (.mp _) => none
  | some _ => some (ρ.set i (.sh d))
  | none => none
theorem setSh_a (ρ : Loc) (i : Nat) (d : D) : setSh ρ i d = kSh ρ i d ρ[i]? := by
  unfold setSh
  cases ρ[i]? with
  | none => rfl
  | some s => cases s <;> rfl
theorem kSh_un (ρ : Loc) (i : Nat) (d : D) : kSh ρ i d (some .un) = some (ρ.set i (.sh d)) := (rfl)
theorem kSh_sh (ρ : Loc) (i : Nat) (d e : D) : kSh ρ i d (some (.sh e)) = some (ρ.set i (.sh d)) := (rfl)
theorem kSh_ow (ρ : Loc) (i : Nat) (d e : D) : kSh ρ i d (some (.ow e)) = some (ρ.set i (.sh d)) := (rfl)
theorem setAll_n (ρ : Loc) : setAll ρ [] [] = some ρ := (rfl)
theorem setAll_c (ρ : Loc) (i : Nat) (is : List Nat) (d : D) (ds : List D) : setAll ρ (i :: is) (d :: ds) = (setSh ρ i d).bind fun r => setAll r is ds := by
  rw [setAll]; cases setSh ρ i d <;> rfl
theorem tgD_v (i : Nat) (d : D) (ρ : Loc) : tgD (.v i) d ρ = setSh ρ i d := by cases d <;> rfl
theorem tgD_t0 (l : List Nat) (ds : List D) (ρ : Loc) : tgD (.t0 l) (.tup ds) ρ = setAll ρ l ds := (rfl)
theorem tgD_tp (a : Nat) (l : List Nat) (d : D) (ds : List D) (ρ : Loc) : tgD (.tp a l) (.tup [d, .tup ds]) ρ = (setSh ρ a d).bind fun r => setAll r l ds := by
  show (match setSh ρ a d with
    | some ρ' => setAll ρ' l ds
    | none => none) = _
  cases setSh ρ a d <;> rfl
theorem tgD_pp (l1 l2 : List Nat) (ds es : List D) (ρ : Loc) : tgD (.pp l1 l2) (.tup [.tup ds, .tup es]) ρ = (setAll ρ l1 ds).bind fun r => setAll r l2 es := by
  show (match setAll ρ l1 ds with
    | some ρ' => setAll ρ' l2 es
    | none => none) = _
  cases setAll ρ l1 ds <;> rfl
theorem st_n (ρ : Loc) : storeP [] [] ρ = some ρ := (rfl)
def kStO (l : List (Tg × Bool)) (ds : List (Bool × D)) (ρ : Loc) (i : Nat) (d : D) : Option Slot → Option Loc
  | some (.mp _) => none
  | some _ => storeP l ds (ρ.set i (.ow d))
  | none => none
theorem kStO_un (l : List (Tg × Bool)) (ds : List (Bool × D)) (ρ : Loc) (i : Nat) (d : D) : kStO l ds ρ i d (some .un) = storeP l ds (ρ.set i (.ow d)) := (rfl)
theorem kStO_sh (l : List (Tg × Bool)) (ds : List (Bool × D)) (ρ : Loc) (i : Nat) (d e : D) : kStO l ds ρ i d (some (.sh e)) = storeP l ds (ρ.set i (.ow d)) := (rfl)
theorem kStO_ow (l : List (Tg × Bool)) (ds : List (Bool × D)) (ρ : Loc) (i : Nat) (d e : D) : kStO l ds ρ i d (some (.ow e)) = storeP l ds (ρ.set i (.ow d)) := (rfl)
theorem st_o (i : Nat) (l : List (Tg × Bool)) (d : D) (ds : List (Bool × D)) (ρ : Loc) : storeP ((.v i, true) :: l) ((true, d) :: ds) ρ = kStO l ds ρ i d ρ[i]? := by
  rw [storeP]
  cases ρ[i]? with
  | none => rfl
  | some s => cases s <;> rfl
theorem st_s (t : Tg) (l : List (Tg × Bool)) (d : D) (ds : List (Bool × D)) (ρ : Loc) : storeP ((t, false) :: l) ((false, d) :: ds) ρ = (tgD t d ρ).bind fun r => storeP l ds r := by
  rw [storeP]; cases tgD t d ρ <;> rfl
/-! ### own lists -/
def kOwn : Option Slot → Option D
  | some (.ow d) => some d
  | some (.mp d) => some d
  | _ => none
theorem ownD_a (ρ : Loc) (i : Nat) : ownD ρ i = kOwn ρ[i]? := by
  unfold ownD kOwn; rfl
theorem kOwn_ow (d : D) : kOwn (some (.ow d)) = some d := (rfl)
theorem kOwn_mp (d : D) : kOwn (some (.mp d)) = some d := (rfl)
def kOwnL : Option D → Bool
  | some (.lst _) => true
  | _ => false
theorem ownL_a (ρ : Loc) (i : Nat) : ownL ρ i = kOwnL (ownD ρ i) := by unfold ownL kOwnL; rfl
theorem kOwnL_l (l : List D) : kOwnL (some (.lst l)) = true := (rfl)
def kSetO (ρ : Loc) (i : Nat) (d : D) : Option Slot → Loc
  | some (.ow _) => ρ.set i (.ow d)
  | some (.mp _) => ρ.set i (.mp d)
  | _ => ρ
theorem setOwn_a (ρ : Loc) (i : Nat) (d : D) : setOwn ρ i d = kSetO ρ i d ρ[i]? := by unfold setOwn kSetO; rfl
theorem kSetO_ow (ρ : Loc) (i : Nat) (d e : D) : kSetO ρ i d (some (.ow e)) = ρ.set i (.ow d) := (rfl)
theorem kSetO_mp (ρ : Loc) (i : Nat) (d e : D) : kSetO ρ i d (some (.mp e)) = ρ.set i (.mp d) := (rfl)
theorem app_l (l : List D) (e : D) : appD (.lst l) e = if l.length < sizeLine then some (.lst (l ++ [e])) else none := (rfl)
def kSetD (l : List D) (e : D) : Option Nat → Option D
  | some j => some (.lst (l.set j e))
  | none => none
theorem setD_l (l : List D) (i : Int) (e : D) : setD (.lst l) (.int i) e = kSetD l e (ixN l.length i) := by
  show (match ixN l.length i with
    | some j => some (D.lst (l.set j e))
    | none => none) = _
  cases ixN l.length i <;> rfl
theorem kSetD_s (l : List D) (e : D) (j : Nat) : kSetD l e (some j) = some (.lst (l.set j e)) := (rfl)
theorem ixN_nat {n : Nat} {i : Int} (h0 : 0 ≤ i) (h1 : i < n) : ixN n i = some i.toNat := by unfold ixN; rw [if_pos h0, if_pos h1]
/-! ### calls -/
def kCallF (b fr : Bool) (d : D) (fz : Option Loc) (ρ : Loc) : Res Opd := match b, fz with
  | true, _ => .ok (opdOf fr d) ρ
  | false, some ρ' => .ok (opdOf fr d) ρ'
  | false, none => .no
theorem kCallF_t (fr : Bool) (d : D) (fz : Option Loc) (ρ : Loc) : kCallF true fr d fz ρ = .ok (opdOf fr d) ρ := (rfl)
theorem kCallF_f (fr : Bool) (d : D) (ρ' ρ : Loc) : kCallF false fr d (some ρ') ρ = .ok (opdOf fr d) ρ' := (rfl)
def kCallN (fr : Bool) (os : List Opd) (r : FRes) (ρ : Loc) : Res Opd := match r with
  | .ok d _ => kCallF (d.imm || (fr && flatD d)) fr d (frz ρ os) ρ
  | .ex x _ => .ex x ρ
  | .no => .no
theorem kCallN_ok (fr : Bool) (os : List Opd) (d : D) (m : Option D) (ρ : Loc) : kCallN fr os (.ok d m) ρ = kCallF (d.imm || (fr && flatD d)) fr d (frz ρ os) ρ := (rfl)
def kCallK (fr : Bool) (d m : D) (j : Nat) (ρ : Loc) : Option Slot → Res Opd
  | some (.ow _) => .ok (opdOf fr d) (ρ.set j (.ow m))
  | some (.mp _) => .ok (opdOf fr d) (ρ.set j (.mp m))
  | _ => .no
theorem kCallK_ow (fr : Bool) (d m e : D) (j : Nat) (ρ : Loc) : kCallK fr d m j ρ (some (.ow e)) = .ok (opdOf fr d) (ρ.set j (.ow m)) := (rfl)
theorem kCallK_mp (fr : Bool) (d m e : D) (j : Nat) (ρ : Loc) : kCallK fr d m j ρ (some (.mp e)) = .ok (opdOf fr d) (ρ.set j (.mp m)) := (rfl)
def kCallL (fr : Bool) (ok : Option Opd) (nb : Bool) (r : FRes) (ρ : Loc) : Res Opd := match ok, nb, r with
  | some (.b j), true, .ok d (some m) => kCallK fr d m j ρ ρ[j]?
  | _, _, _ => .no
theorem kCallL_ok (fr : Bool) (j : Nat) (d m : D) (ρ : Loc) : kCallL fr (some (.b j)) true (.ok d (some m)) ρ = kCallK fr d m j ρ ρ[j]? := (rfl)
def kCall1 (lent : Option Nat) (fr : Bool) (os : List Opd) (r : FRes) (ρ : Loc) : Res Opd := match lent with
  | none => kCallN fr os r ρ
  | some k => kCallL fr os[k]? (noB (os.eraseIdx k)) r ρ
theorem kCall1_n (fr : Bool) (os : List Opd) (r : FRes) (ρ : Loc) : kCall1 none fr os r ρ = kCallN fr os r ρ := (rfl)
theorem kCall1_s (k : Nat) (fr : Bool) (os : List Opd) (r : FRes) (ρ : Loc) : kCall1 (some k) fr os r ρ = kCallL fr os[k]? (noB (os.eraseIdx k)) r ρ := (rfl)
def kCall2 (lent : Option Nat) (fr : Bool) (os : List Opd) (φ : Fns) (f : Nat) : Option (List D) → Loc → Res Opd
  | some ds, ρ => kCall1 lent fr os ((φ f).run ds) ρ
  | none, _ => .no
theorem kCall2_s (lent : Option Nat) (fr : Bool) (os : List Opd) (φ : Fns) (f : Nat) (ds : List D) (ρ : Loc) : kCall2 lent fr os φ f (some ds) ρ = kCall1 lent fr os ((φ f).run ds) ρ := (rfl)
theorem noB_n : noB [] = true := (rfl)
theorem noB_v (d : D) (r : List Opd) : noB (.v d :: r) = noB r := (rfl)
theorem noB_f (d : D) (r : List Opd) : noB (.f d :: r) = noB r := (rfl)
theorem frz_n (ρ : Loc) : frz ρ [] = some ρ := (rfl)
theorem frz_v (ρ : Loc) (d : D) (r : List Opd) : frz ρ (.v d :: r) = frz ρ r := (rfl)
theorem frz_f (ρ : Loc) (d : D) (r : List Opd) : frz ρ (.f d :: r) = frz ρ r := (rfl)
def kFrz (ρ : Loc) (i : Nat) (r : List Opd) : Option Slot → Option Loc
  | some (.ow d) => frz (ρ.set i (.sh d)) r
  | some (.sh _) => frz ρ r
  | _ => none
theorem frz_b (ρ : Loc) (i : Nat) (r : List Opd) : frz ρ (.b i :: r) = kFrz ρ i r ρ[i]? := by
  rw [frz]
  cases ρ[i]? with
  | none => rfl
  | some s => cases s <;> rfl
theorem kFrz_ow (ρ : Loc) (i : Nat) (r : List Opd) (d : D) : kFrz ρ i r (some (.ow d)) = frz (ρ.set i (.sh d)) r := (rfl)
theorem kFrz_sh (ρ : Loc) (i : Nat) (r : List Opd) (d : D) : kFrz ρ i r (some (.sh d)) = frz ρ r := (rfl)
theorem opdOf_t (d : D) : opdOf true d = .f d := (rfl)
theorem opdOf_f (d : D) : opdOf false d = .v d := (rfl)
theorem flat_l (l : List D) : flatD (D.lst l) = D.imms l := (rfl)
theorem flat_t (l : List D) : flatD (.tup l) = D.imms l := by show (D.tup l).imm = _; rw [D.imm]
theorem imm_i (i : Int) : (D.int i).imm = true := (rfl)
theorem imm_b (i : Bool) : (D.bl i).imm = true := (rfl)
theorem imm_s (i : Str) : (D.str i).imm = true := (rfl)
theorem imm_n : D.non.imm = true := (rfl)
theorem imm_t (l : List D) : (D.tup l).imm = D.imms l := by rw [D.imm]
theorem imm_l (l : List D) : (D.lst l).imm = false := by rw [D.imm]
theorem imms_n : D.imms [] = true := by rw [D.imms]
theorem imms_c (d : D) (r : List D) : D.imms (d :: r) = (d.imm && D.imms r) := by rw [D.imms]
theorem imms_ints : ∀ l : List Int, D.imms (l.map .int) = true
  | [] => imms_n
  | i :: r => by rw [List.map_cons, imms_c, imms_ints r]; rfl
theorem imms_map {α : Type} (f : α → D) (hf : ∀ a, (f a).imm = true) : ∀ l : List α, D.imms (l.map f) = true
  | [] => imms_n
  | i :: r => by rw [List.map_cons, imms_c, hf, imms_map f hf r]; rfl
/-- what is told of a def by its number -/
class Sg (T : List (Nat × Df)) (k : Nat) (np : outParam Nat) (lent : outParam (Option Nat)) (fresh : outParam Bool) : Prop where
  h : ∀ n, (fns T n k).np = np ∧ (fns T n k).lent = lent ∧ (fns T n k).fresh = fresh
theorem fns_np {T : List (Nat × Df)} {k : Nat} {m : Df} (h : T.lookup k = some m) (n : Nat) : (fns T n k).np = m.np ∧ (fns T n k).lent = m.lent ∧ (fns T n k).fresh = m.fresh := by
  cases n with
  | zero => rw [fns, h]; exact ⟨rfl, rfl, rfl⟩
  | succ n => rw [fns, h]; exact ⟨rfl, rfl, rfl⟩
theorem fns_run {T : List (Nat × Df)} {k : Nat} {m : Df} (h : T.lookup k = some m) (n : Nat) (ds : List D) : (fns T (n + 1) k).run ds = runD (fns T n) m ds := by rw [fns, h]
theorem call_eq {T : List (Nat × Df)} {k np : Nat} {lent : Option Nat} {fresh : Bool} [s : Sg T k np lent fresh] (n : Nat) (os : List Opd) (ρ : Loc) : callD (fns T n k) os ρ = if os.length = np then kCall2 lent fresh os (fns T n) k (getAll ρ os) ρ else .no := by
  obtain ⟨h1, h2, h3⟩ := s.h n
  unfold callD
  rw [h1]
  by_cases hn : os.length = np
  · rw [if_pos hn, if_pos hn]
    cases getAll ρ os with
    | none => rfl
    | some ds =>
      simp only []
      rw [h2, h3]
      cases lent with
      | none =>
        rw [kCall2, kCall1]
        simp only []
        cases (fns T n k).run ds with
        | ok d m =>
          show (if (d.imm || (fresh && flatD d)) = true then _ else _) = kCallF (d.imm || (fresh && flatD d)) fresh d (frz ρ os) ρ
          cases (d.imm || (fresh && flatD d)) with
          | true => rfl
          | false => cases frz ρ os <;> rfl
        | ex x m => rfl
        | no => rfl
      | some j =>
        rw [kCall2, kCall1]
        simp only []
        unfold kCallL
        cases os[j]? with
        | none => rfl
        | some o =>
          cases o with
          | b i =>
            cases noB (os.eraseIdx j) with
            | false => rfl
            | true =>
              cases (fns T n k).run ds with
              | ok d m =>
                cases m with
                | none => rfl
                | some m =>
                  simp only []
                  cases ρ[i]? with
                  | none => rfl
                  | some s => cases s <;> rfl
              | ex x m => rfl
              | no => rfl
          | _ => rfl
  · rw [if_neg hn, if_neg hn]
/-! ### a def's run -/
def kRet2 : Option D → Option (Option D) → FRes
  | some d, some k => .ok d k
  | _, _ => .no
theorem kRet2_s (d : D) (k : Option D) : kRet2 (some d) (some k) = .ok d k := (rfl)
def kRun (fr : Bool) (lent : Option Nat) (r : Res Fl) : FRes := match r with
  | .ok fl ρ => kRet2 (retD fr fl ρ) (lentD lent ρ)
  | .ex x ρ => match lentD lent ρ with
    | some k => .ex x k
    | none => .no
  | .no => .no
theorem kRun_ok (fr : Bool) (lent : Option Nat) (fl : Fl) (ρ : Loc) : kRun fr lent (.ok fl ρ) = kRet2 (retD fr fl ρ) (lentD lent ρ) := (rfl)
theorem run_eq (φ : Fns) (m : Df) (ds : List D) (h : ds.length = m.np) : runD φ m ds = kRun m.fresh m.lent (evSs φ m.body (startL m ds)) := by
  unfold runD
  rw [if_pos h]
  cases evSs φ m.body (startL m ds) with
  | ok fl ρ =>
    show (match retD m.fresh fl ρ, lentD m.lent ρ with
      | some d, some k => FRes.ok d k
      | _, _ => .no) = kRet2 (retD m.fresh fl ρ) (lentD m.lent ρ)
    cases retD m.fresh fl ρ <;> cases lentD m.lent ρ <;> rfl
  | ex x ρ => rfl
  | no => rfl
theorem ret_v (d : D) (ρ : Loc) : retD false (.rt (.v d)) ρ = some d := (rfl)
theorem ret_f (fr : Bool) (d : D) (ρ : Loc) : retD fr (.rt (.f d)) ρ = some d := (rfl)
theorem ret_nx (ρ : Loc) : retD false .nx ρ = some .non := (rfl)
def kRetB : Option Slot → Option D
  | some (.ow d) => some d
  | _ => none
theorem kRetB_ow (d : D) : kRetB (some (.ow d)) = some d := (rfl)
theorem ret_b (fr : Bool) (i : Nat) (ρ : Loc) : retD fr (.rt (.b i)) ρ = kRetB ρ[i]? := by unfold retD kRetB; rfl
theorem lent_n (ρ : Loc) : lentD none ρ = some none := (rfl)
def kLent : Option Slot → Option (Option D)
  | some (.mp d) => some (some d)
  | _ => none
theorem kLent_mp (d : D) : kLent (some (.mp d)) = some (some d) := (rfl)
theorem lent_s (k : Nat) (ρ : Loc) : lentD (some k) ρ = kLent ρ[k]? := by unfold lentD kLent; rfl
/-! ### loops -/
theorem for_n (t : Tg) (b : Loc → Res Fl) (ρ : Loc) : forL t b [] ρ = .ok .nx ρ := (rfl)
/-- a loop without return: what holds behind the part taken -/
theorem for_inv {α : Type} {t : Tg} {b : Loc → Res Fl} (f : α → D) (I : List α → Loc → Prop) : ∀ (xs pre : List α) (ρ : Loc), I pre ρ →
    (∀ p x s ρ, pre ++ xs = p ++ x :: s → I p ρ → ∃ ρ1, tgD t (f x) ρ = some ρ1 ∧ ∃ ρ2, (b ρ1 = .ok .nx ρ2 ∨ b ρ1 = .ok .ct ρ2) ∧ I (p ++ [x]) ρ2) →
    ∃ ρ', forL t b (xs.map f) ρ = .ok .nx ρ' ∧ I (pre ++ xs) ρ'
  | [], pre, ρ, h0, _ => ⟨ρ, rfl, by rw [List.append_nil]; exact h0⟩
  | x :: xs, pre, ρ, h0, h => by
    obtain ⟨ρ1, e1, ρ2, e2, h2⟩ := h pre x xs ρ rfl h0
    obtain ⟨ρ', e, h'⟩ := for_inv f I xs (pre ++ [x]) ρ2 h2 (fun p y s ρ e => h p y s ρ (by rw [← e]; simp))
    refine ⟨ρ', ?_, by simpa using h'⟩
    rw [List.map_cons, forL, e1]
    rcases e2 with e2 | e2 <;> (simp only [e2]; exact e)
/-- a loop that may return -/
theorem for_ret {α : Type} {t : Tg} {b : Loc → Res Fl} (f : α → D) (I : List α → Loc → Prop) (R : Opd → Loc → Prop) : ∀ (xs pre : List α) (ρ : Loc), I pre ρ →
    (∀ p x s ρ, pre ++ xs = p ++ x :: s → I p ρ → ∃ ρ1, tgD t (f x) ρ = some ρ1 ∧ ∃ fl ρ2, b ρ1 = .ok fl ρ2 ∧ ((fl = .nx ∨ fl = .ct) ∧ I (p ++ [x]) ρ2 ∨ ∃ o, fl = .rt o ∧ R o ρ2)) →
    ∃ fl ρ', forL t b (xs.map f) ρ = .ok fl ρ' ∧ (fl = .nx ∧ I (pre ++ xs) ρ' ∨ ∃ o, fl = .rt o ∧ R o ρ')
  | [], pre, ρ, h0, _ => ⟨.nx, ρ, rfl, .inl ⟨rfl, by rw [List.append_nil]; exact h0⟩⟩
  | x :: xs, pre, ρ, h0, h => by
    obtain ⟨ρ1, e1, fl, ρ2, e2, h2⟩ := h pre x xs ρ rfl h0
    rcases h2 with ⟨hfl, h2⟩ | ⟨o, rfl, h2⟩
    · obtain ⟨fl', ρ', e, h'⟩ := for_ret f I R xs (pre ++ [x]) ρ2 h2 (fun p y s ρ e => h p y s ρ (by rw [← e]; simp))
      refine ⟨fl', ρ', ?_, by simpa using h'⟩
      rw [List.map_cons, forL, e1]
      rcases hfl with rfl | rfl <;> (simp only [e2]; exact e)
    · refine ⟨.rt o, ρ2, ?_, .inr ⟨o, rfl, h2⟩⟩
      rw [List.map_cons, forL, e1]
      simp only [e2]
theorem wN_succ {c : Loc → Res Bool} {b : Loc → Res Fl} : ∀ (n : Nat) (ρ : Loc) (r : Res Fl), wN c b n ρ = some r → wN c b (n + 1) ρ = some r
  | 0, _, _, h => by cases h
  | n + 1, ρ, r, h => by
    rw [wN] at h ⊢
    cases hc : c ρ with
    | ok t ρ1 =>
      rw [hc] at h
      cases t with
      | true =>
        simp only [] at h ⊢
        cases hb : b ρ1 with
        | ok fl ρ2 =>
          rw [hb] at h
          cases fl with
          | nx => exact wN_succ n ρ2 r h
          | ct => exact wN_succ n ρ2 r h
          | _ => exact h
        | _ => rw [hb] at h; exact h
      | false => exact h
    | _ => rw [hc] at h; exact h
theorem wN_le {c : Loc → Res Bool} {b : Loc → Res Fl} {n m : Nat} (hm : n ≤ m) {ρ : Loc} {r : Res Fl} (h : wN c b n ρ = some r) : wN c b m ρ = some r := by
  induction hm with
  | refl => exact h
  | step _ ih => exact wN_succ _ _ _ ih
theorem whL_of {c : Loc → Res Bool} {b : Loc → Res Fl} {n : Nat} {ρ : Loc} {r : Res Fl} (h : wN c b n ρ = some r) : whL c b ρ = r := by
  have hx : ∃ n r, wN c b n ρ = some r := ⟨n, r, h⟩
  unfold whL
  rw [dif_pos hx]
  have hs := hx.choose_spec.choose_spec
  rcases Nat.le_total n hx.choose with hl | hl
  · have := wN_le hl h
    rw [hs] at this; exact Option.some.inj this
  · have := wN_le hl hs
    rw [h] at this; exact (Option.some.inj this).symm
/-- a while whose body does not return: a measure falls -/
theorem wh_inv {c : Loc → Res Bool} {b : Loc → Res Fl} (I P : Loc → Prop) (μ : Loc → Nat) (hs : ∀ ρ, I ρ → ∃ t ρ1, c ρ = .ok t ρ1 ∧ (t = false → P ρ1) ∧ (t = true → ∃ ρ2, b ρ1 = .ok .nx ρ2 ∧ I ρ2 ∧ μ ρ2 < μ ρ)) :
    ∀ ρ, I ρ → ∃ ρ', whL c b ρ = .ok .nx ρ' ∧ P ρ' := by
  have key : ∀ (k : Nat) (ρ : Loc), μ ρ ≤ k → I ρ → ∃ ρ', wN c b (k + 1) ρ = some (.ok .nx ρ') ∧ P ρ' := by
    intro k
    induction k with
    | zero =>
      intro ρ hk hi
      obtain ⟨t, ρ1, e, hf, ht⟩ := hs ρ hi
      cases t with
      | false => exact ⟨ρ1, by rw [wN, e], hf rfl⟩
      | true =>
        obtain ⟨ρ2, _, _, hlt⟩ := ht rfl
        omega
    | succ k ih =>
      intro ρ hk hi
      obtain ⟨t, ρ1, e, hf, ht⟩ := hs ρ hi
      cases t with
      | false => exact ⟨ρ1, by rw [wN, e], hf rfl⟩
      | true =>
        obtain ⟨ρ2, eb, hi2, hlt⟩ := ht rfl
        obtain ⟨ρ', e', hp⟩ := ih ρ2 (by omega) hi2
        refine ⟨ρ', ?_, hp⟩
        rw [wN, e]
        simp only [eb]
        exact e'
  intro ρ hi
  obtain ⟨ρ', e, hp⟩ := key (μ ρ) ρ (Nat.le_refl _) hi
  exact ⟨ρ', whL_of e, hp⟩
/-! ### comprehensions -/
/-- a comprehension whose parts leave the locals as they were -/
theorem lc_map {α : Type} {φ : Fns} {own : List Nat} {t : Tg} {f : Bool} {c elt : Ex} {ρ : Loc} (en : α → D) (p : α → Bool) (q : α → D) (h0 : clrL ρ own = true) (xs : List α) (hz : xs.length ≤ sizeLine)
    (h : ∀ x ∈ xs, ∃ ρd, tgD t (en x) (wipeL ρ own) = some ρd ∧ lcC φ f c ρd = .ok (p x) ρd ∧ clrL ρd own = true ∧ wipeL ρd own = wipeL ρ own ∧ (p x = true → ∃ o, evO φ elt ρd = .ok o ρd ∧ o.esc ρd = .ok (q x) ρd)) :
    kLc φ own t f c elt (xs.map en) ρ = .ok (.f (.lst ((xs.filter p).map q))) (backL ρ (wipeL ρ own) own) := by
  unfold kLc
  rw [if_pos h0]
  have key : ∀ (ys : List α) (acc : List D), (∀ x ∈ ys, x ∈ xs) → acc.length + ys.length ≤ sizeLine → lcL own t (lcC φ f c) (evO φ elt) (ys.map en) acc (wipeL ρ own) = .ok (acc ++ (ys.filter p).map q) (wipeL ρ own) := by
    intro ys
    induction ys with
    | nil => intro acc _ _; rw [List.map_nil, lcL]; simp
    | cons y ys ih =>
      intro acc hm hl
      obtain ⟨ρd, h1, h2, h3, h4, h5⟩ := h y (hm y List.mem_cons_self)
      rw [List.map_cons, lcL, h1]
      simp only [h2]
      rw [List.length_cons] at hl
      cases hp : p y with
      | false =>
        simp only [h3, if_true, h4]
        rw [ih acc (fun x hx => hm x (List.mem_cons_of_mem _ hx)) (by omega), List.filter_cons, hp]; simp
      | true =>
        obtain ⟨o, e1, e2⟩ := h5 hp
        have hlt : decide (acc.length < sizeLine) = true := decide_eq_true (by omega)
        simp only [e1, e2, hlt, h3, Bool.and_self, if_true, h4]
        rw [ih (acc ++ [q y]) (fun x hx => hm x (List.mem_cons_of_mem _ hx)) (by simp; omega), List.filter_cons, hp]; simp
  rw [key xs [] (fun _ h => h) (by simpa using hz)]; rfl
end
end TW.P
end
/-! Trees -/
section
set_option Elab.async false
set_option linter.all false
set_option maxRecDepth 100000
set_option autoImplicit false
namespace TW.P
open PySem PySem.Spec L2
open PyProof.Rows hiding St
def b_is_integer : Ss := (.cons (.ret (.and (.bc (.isi ["int"]) (.cons false (.var 0) .nil)) (.not (.bc (.isi ["bool"]) (.cons false (.var 0) .nil))))) .nil)
def m_is_integer : Df := ⟨1, 1, none, false, b_is_integer⟩
def N_m_is_integer : List Str := ["value"]
def p_m_is_integer : List Str := ["value"]
class H_is_integer (T : List (Nat × Df)) : Prop where
  h_is_integer : T.lookup 6 = some m_is_integer
instance {T : List (Nat × Df)} [h : H_is_integer T] : Sg T 6 1 (none) false := ⟨fun n => fns_np h.h_is_integer n⟩
theorem v_is_integer {T : List (Nat × Df)} [h : H_is_integer T] (n : Nat) (a0 : D) : (fns T (n + 1) 6).run [a0] = kRun false (none) (evSs (fns T n) b_is_integer [.sh a0]) := by rw [fns_run h.h_is_integer, run_eq _ _ _ rfl]; rfl
def b_is_at_least : Ss := (.cons (.ret (.and (.call 6 (.cons false (.var 0) .nil) []) (.cmp .GtE (.var 0) (.var 1)))) .nil)
def m_is_at_least : Df := ⟨2, 2, none, false, b_is_at_least⟩
def N_m_is_at_least : List Str := ["value", "least"]
def p_m_is_at_least : List Str := ["value", "least"]
class H_is_at_least (T : List (Nat × Df)) : Prop extends H_is_integer T where
  h_is_at_least : T.lookup 7 = some m_is_at_least
instance {T : List (Nat × Df)} [h : H_is_at_least T] : Sg T 7 2 (none) false := ⟨fun n => fns_np h.h_is_at_least n⟩
theorem v_is_at_least {T : List (Nat × Df)} [h : H_is_at_least T] (n : Nat) (a0 a1 : D) : (fns T (n + 1) 7).run [a0, a1] = kRun false (none) (evSs (fns T n) b_is_at_least [.sh a0, .sh a1]) := by rw [fns_run h.h_is_at_least, run_eq _ _ _ rfl]; rfl
def e_comb_fault_1 : Ex := (.cmp .Lt (.var 4) (.var 5))
def e_comb_fault_2 : Ex := (.call 7 (.cons false (.var 3) (.cons false (.int 0) .nil)) [])
def b_comb_fault : Ss := (.cons (.ifs (.or (.not (.bc (.isi ["tuple"]) (.cons false (.var 0) .nil))) (.cmp .NotEq (.bc .len (.cons false (.var 0) .nil)) (.int 2))) (.cons (.ret (.tup (.cons false .non .nil))) .nil) .nil) (.cons (.asg (.t0 [1, 2]) false (.var 0)) (.cons (.ifs (.or (.not (.call 7 (.cons false (.var 1) (.cons false (.int 1) .nil)) [])) (.cmp .Gt (.var 1) (.glob "MOST_PITCH" 24))) (.cons (.ret (.tup (.cons false (.int 0) .nil))) .nil) .nil) (.cons (.ifs (.or (.not (.bc (.isi ["list"]) (.cons false (.var 2) .nil))) (.or (.cmp .Eq (.var 2) (.lst .nil)) (.not (.bc .all_ (.cons false (.lc [("tooth", 3)] (.v 3) (.seq (.var 2)) false .non e_comb_fault_2) .nil))))) (.cons (.ret (.tup (.cons false (.int 1) .nil))) .nil) .nil) (.cons (.ret (.ife (.and (.cmp .Lt (.ix (.var 2) (.neg (.int 1))) (.var 1)) (.bc .all_ (.cons false (.lc [("one", 4), ("two", 5)] (.t0 [4, 5]) (.zip (.var 2) (.sl (.var 2) true (.int 1) false .non)) false .non e_comb_fault_1) .nil))) (.tup .nil) (.tup (.cons false (.int 1) .nil)))) .nil)))))
def m_comb_fault : Df := ⟨1, 6, none, false, b_comb_fault⟩
def N_m_comb_fault : List Str := ["value", "pitch", "teeth", "tooth", "one", "two"]
def p_m_comb_fault : List Str := ["value"]
class H_comb_fault (T : List (Nat × Df)) : Prop extends H_is_at_least T where
  h_comb_fault : T.lookup 8 = some m_comb_fault
instance {T : List (Nat × Df)} [h : H_comb_fault T] : Sg T 8 1 (none) false := ⟨fun n => fns_np h.h_comb_fault n⟩
theorem v_comb_fault {T : List (Nat × Df)} [h : H_comb_fault T] (n : Nat) (a0 : D) : (fns T (n + 1) 8).run [a0] = kRun false (none) (evSs (fns T n) b_comb_fault [.sh a0, .un, .un, .un, .un, .un]) := by rw [fns_run h.h_comb_fault, run_eq _ _ _ rfl]; rfl
def l_device_fault_1 : Ss := (.cons (.ifs (.cmp .NotEq (.call 8 (.cons false (.var 2) .nil) []) (.tup .nil)) (.cons (.ret (.tup (.cons false (.var 1) .nil))) .nil) .nil) .nil)
def b_device_fault : Ss := (.cons (.ifs (.or (.not (.bc (.isi ["tuple"]) (.cons false (.var 0) .nil))) (.cmp .NotEq (.bc .len (.cons false (.var 0) .nil)) (.int 2))) (.cons (.ret (.tup (.cons false .non .nil))) .nil) .nil) (.cons (.for_ (.t0 [1, 2]) (.enum (.var 0)) l_device_fault_1) (.cons (.ret (.tup .nil)) .nil)))
def m_device_fault : Df := ⟨1, 3, none, false, b_device_fault⟩
def N_m_device_fault : List Str := ["value", "index", "item"]
def p_m_device_fault : List Str := ["value"]
class H_device_fault (T : List (Nat × Df)) : Prop extends H_comb_fault T where
  h_device_fault : T.lookup 9 = some m_device_fault
instance {T : List (Nat × Df)} [h : H_device_fault T] : Sg T 9 1 (none) false := ⟨fun n => fns_np h.h_device_fault n⟩
theorem v_device_fault {T : List (Nat × Df)} [h : H_device_fault T] (n : Nat) (a0 : D) : (fns T (n + 1) 9).run [a0] = kRun false (none) (evSs (fns T n) b_device_fault [.sh a0, .un, .un]) := by rw [fns_run h.h_device_fault, run_eq _ _ _ rfl]; rfl
def c_below_at_1 : Ex := (.cmp .LtE (.var 6) (.var 2))
def e_below_at_1 : Ex := (.var 6)
def b_below_at : Ss := (.cons (.asg (.t0 [4, 5]) false (.var 0)) (.cons (.asg (.v 2) false (.bin .Mod (.var 1) (.var 4))) (.cons (.asg (.v 3) false (.lc [("tooth", 6)] (.v 6) (.seq (.var 5)) true c_below_at_1 e_below_at_1)) (.cons (.ret (.bin .Add (.bin .Sub (.var 1) (.var 2)) (.ife (.cmp .NotEq (.var 3) (.lst .nil)) (.ix (.var 3) (.neg (.int 1))) (.bin .Sub (.ix (.var 5) (.neg (.int 1))) (.var 4))))) .nil))))
def m_below_at : Df := ⟨2, 7, none, false, b_below_at⟩
def N_m_below_at : List Str := ["comb", "number", "rest", "under", "pitch", "teeth", "tooth"]
def p_m_below_at : List Str := ["comb", "number"]
class H_below_at (T : List (Nat × Df)) : Prop where
  h_below_at : T.lookup 24 = some m_below_at
instance {T : List (Nat × Df)} [h : H_below_at T] : Sg T 24 2 (none) false := ⟨fun n => fns_np h.h_below_at n⟩
theorem v_below_at {T : List (Nat × Df)} [h : H_below_at T] (n : Nat) (a0 a1 : D) : (fns T (n + 1) 24).run [a0, a1] = kRun false (none) (evSs (fns T n) b_below_at [.sh a0, .sh a1, .un, .un, .un, .un, .un]) := by rw [fns_run h.h_below_at, run_eq _ _ _ rfl]; rfl
def b_moved_by : Ss := (.cons (.asg (.t0 [4, 5]) false (.var 0)) (.cons (.ifs (.cmp .Gt (.var 3) (.int 0)) (.cons (.asg (.v 6) false (.bin .Sub (.var 1) (.var 2))) (.cons (.ret (.tup (.cons false (.bin .Add (.bin .Add (.bc .max (.cons false (.bin .Sub (.var 6) (.var 3)) (.cons false (.call 24 (.cons false (.var 5) (.cons false (.var 6) .nil)) []) .nil))) (.var 2)) (.var 3)) (.cons false (.bin .Add (.var 2) (.var 3)) .nil)))) .nil)) .nil) (.cons (.ret (.tup (.cons false (.bc .max (.cons false (.bin .Add (.var 1) (.var 3)) (.cons false (.call 24 (.cons false (.var 4) (.cons false (.var 1) .nil)) []) .nil))) (.cons false (.bin .Add (.var 2) (.var 3)) .nil)))) .nil)))
def m_moved_by : Df := ⟨4, 7, none, false, b_moved_by⟩
def N_m_moved_by : List Str := ["device", "height", "hand", "move", "ground", "grip", "lift"]
def p_m_moved_by : List Str := ["device", "height", "hand", "move"]
class H_moved_by (T : List (Nat × Df)) : Prop extends H_below_at T where
  h_moved_by : T.lookup 48 = some m_moved_by
instance {T : List (Nat × Df)} [h : H_moved_by T] : Sg T 48 4 (none) false := ⟨fun n => fns_np h.h_moved_by n⟩
theorem v_moved_by {T : List (Nat × Df)} [h : H_moved_by T] (n : Nat) (a0 a1 a2 a3 : D) : (fns T (n + 1) 48).run [a0, a1, a2, a3] = kRun false (none) (evSs (fns T n) b_moved_by [.sh a0, .sh a1, .sh a2, .sh a3, .un, .un, .un]) := by rw [fns_run h.h_moved_by, run_eq _ _ _ rfl]; rfl
def b_is_move : Ss := (.cons (.ret (.and (.call 6 (.cons false (.var 0) .nil) []) (.cmp .NotEq (.var 0) (.int 0)))) .nil)
def m_is_move : Df := ⟨1, 1, none, false, b_is_move⟩
def N_m_is_move : List Str := ["value"]
def p_m_is_move : List Str := ["value"]
class H_is_move (T : List (Nat × Df)) : Prop extends H_is_integer T where
  h_is_move : T.lookup 49 = some m_is_move
instance {T : List (Nat × Df)} [h : H_is_move T] : Sg T 49 1 (none) false := ⟨fun n => fns_np h.h_is_move n⟩
theorem v_is_move {T : List (Nat × Df)} [h : H_is_move T] (n : Nat) (a0 : D) : (fns T (n + 1) 49).run [a0] = kRun false (none) (evSs (fns T n) b_is_move [.sh a0]) := by rw [fns_run h.h_is_move, run_eq _ _ _ rfl]; rfl
def b_require_device : Ss := (.cons (.asg (.v 1) false (.call 9 (.cons false (.var 0) .nil) [])) (.cons (.ifs (.cmp .NotEq (.var 1) (.tup .nil)) (.cons .raise .nil) .nil) .nil))
def m_require_device : Df := ⟨1, 2, none, false, b_require_device⟩
def N_m_require_device : List Str := ["device", "fault"]
def p_m_require_device : List Str := ["device"]
class H_require_device (T : List (Nat × Df)) : Prop extends H_device_fault T where
  h_require_device : T.lookup 52 = some m_require_device
instance {T : List (Nat × Df)} [h : H_require_device T] : Sg T 52 1 (none) false := ⟨fun n => fns_np h.h_require_device n⟩
theorem v_require_device {T : List (Nat × Df)} [h : H_require_device T] (n : Nat) (a0 : D) : (fns T (n + 1) 52).run [a0] = kRun false (none) (evSs (fns T n) b_require_device [.sh a0, .un]) := by rw [fns_run h.h_require_device, run_eq _ _ _ rfl]; rfl
def w__law_below_v0_1 : Ex := (.cmp .NotIn (.bin .Mod (.bc .int_ (.cons false (.var 1) .nil)) (.ix (.var 0) (.int 0))) (.ix (.var 0) (.int 1)))
def l__law_below_v0_1 : Ss := (.cons (.asg (.v 1) false (.bin .Sub (.var 1) (.int 1))) .nil)
def b__law_below_v0 : Ss := (.cons (.while_ w__law_below_v0_1 l__law_below_v0_1) (.cons (.ret (.var 1)) .nil))
def m__law_below_v0 : Df := ⟨2, 2, none, false, b__law_below_v0⟩
def N_m__law_below_v0 : List Str := ["comb", "number"]
def p_m__law_below_v0 : List Str := ["comb", "number"]
class H__law_below_v0 (T : List (Nat × Df)) : Prop where
  h__law_below_v0 : T.lookup 65 = some m__law_below_v0
instance {T : List (Nat × Df)} [h : H__law_below_v0 T] : Sg T 65 2 (none) false := ⟨fun n => fns_np h.h__law_below_v0 n⟩
theorem v__law_below_v0 {T : List (Nat × Df)} [h : H__law_below_v0 T] (n : Nat) (a0 a1 : D) : (fns T (n + 1) 65).run [a0, a1] = kRun false (none) (evSs (fns T n) b__law_below_v0 [.sh a0, .sh a1]) := by rw [fns_run h.h__law_below_v0, run_eq _ _ _ rfl]; rfl
def b__law_tank : Ss := (.cons (.asg (.v 2) false (.ife (.cmp .Lt (.var 1) (.bc .len (.cons false (.var 0) .nil))) (.ix (.var 0) (.var 1)) (.int 0))) (.cons (.ret (.lst (.cons false (.bc .max (.cons false (.int 0) (.cons false (.bin .Sub (.bc .abs (.cons false (.var 2) .nil)) (.bin .Pow (.int 10) (.int 18))) .nil))) (.cons false (.bin .Add (.bin .Mod (.bc .int_ (.cons false (.var 2) .nil)) (.int 1000000000000000003)) (.bin .Mult (.int 104729) (.bin .Add (.var 1) (.int 1)))) (.cons false (.int 0) .nil))))) .nil))
def m__law_tank : Df := ⟨2, 3, none, true, b__law_tank⟩
def N_m__law_tank : List Str := ["script", "at", "cell"]
def p_m__law_tank : List Str := ["script", "at"]
class H__law_tank (T : List (Nat × Df)) : Prop where
  h__law_tank : T.lookup 161 = some m__law_tank
instance {T : List (Nat × Df)} [h : H__law_tank T] : Sg T 161 2 (none) true := ⟨fun n => fns_np h.h__law_tank n⟩
theorem v__law_tank {T : List (Nat × Df)} [h : H__law_tank T] (n : Nat) (a0 a1 : D) : (fns T (n + 1) 161).run [a0, a1] = kRun true (none) (evSs (fns T n) b__law_tank [.sh a0, .sh a1, .un]) := by rw [fns_run h.h__law_tank, run_eq _ _ _ rfl]; rfl
def b__law_tap : Ss := (.cons (.ifs (.cmp .Gt (.ix (.var 0) (.int 0)) (.int 0)) (.cons (.asg (.v 3) false (.bin .Mod (.bc .int_ (.cons false (.ix (.var 0) (.int 0)) .nil)) (.var 1))) (.cons (.setix 0 (.int 0) (.bin .FloorDiv (.ix (.var 0) (.int 0)) (.var 1))) (.cons (.ret (.var 3)) .nil))) .nil) (.cons (.setix 0 (.int 2) (.bin .Add (.ix (.var 0) (.int 2)) (.int 1))) (.cons (.asg (.v 2) false (.bin .Mod (.bc .int_ (.cons false (.bin .Pow (.bin .Add (.ix (.var 0) (.int 1)) (.bin .Mult (.int 350377) (.ix (.var 0) (.int 2)))) (.int 3)) .nil)) (.int 170141183460469231731687303715884105727))) (.cons (.asg (.v 2) false (.bin .Mod (.bc .int_ (.cons false (.bin .Pow (.bin .Add (.var 2) (.bin .Mult (.int 27644437) (.ix (.var 0) (.int 2)))) (.int 3)) .nil)) (.bin .Add (.bin .Pow (.int 10) (.int 46)) (.int 9)))) (.cons (.ret (.bin .Mod (.bc .int_ (.cons false (.bin .FloorDiv (.var 2) (.int 524288)) .nil)) (.var 1))) .nil)))))
def m__law_tap : Df := ⟨2, 4, some 0, false, b__law_tap⟩
def N_m__law_tap : List Str := ["tank", "many", "mixed", "drawn"]
def p_m__law_tap : List Str := ["tank", "many"]
class H__law_tap (T : List (Nat × Df)) : Prop where
  h__law_tap : T.lookup 162 = some m__law_tap
instance {T : List (Nat × Df)} [h : H__law_tap T] : Sg T 162 2 (some 0) false := ⟨fun n => fns_np h.h__law_tap n⟩
theorem v__law_tap {T : List (Nat × Df)} [h : H__law_tap T] (n : Nat) (a0 a1 : D) : (fns T (n + 1) 162).run [a0, a1] = kRun false (some 0) (evSs (fns T n) b__law_tap [.mp a0, .sh a1, .un, .un]) := by rw [fns_run h.h__law_tap, run_eq _ _ _ rfl]; rfl
def l__law_drawn_comb_1 : Ss := (.cons (.ifs (.or (.cmp .Eq (.var 4) (.int 0)) (.and (.cmp .Gt (.var 4) (.int 1)) (.cmp .Eq (.call 162 (.cons false (.var 0) (.cons false (.bin .Add (.var 4) (.int 1)) .nil)) []) (.int 0)))) (.cons (.app 5 (.var 3)) .nil) .nil) .nil)
def b__law_drawn_comb : Ss := (.cons (.asg (.v 2) false (.ix (.lst (.cons false (.bin .Add (.int 1) (.call 162 (.cons false (.var 0) (.cons false (.var 1) .nil)) [])) (.cons false (.var 1) .nil))) (.bc .int_ (.cons false (.cmp .Eq (.call 162 (.cons false (.var 0) (.cons false (.int 4) .nil)) []) (.int 0)) .nil)))) (.cons (.asgp [((.v 4), false), ((.v 5), true)] (.cons false (.call 162 (.cons false (.var 0) (.cons false (.int 4) .nil)) []) (.cons false (.lst .nil) .nil))) (.cons (.for_ (.v 3) (.r1 (.var 2)) l__law_drawn_comb_1) (.cons (.ret (.tup (.cons false (.var 2) (.cons false (.ife (.cmp .NotEq (.var 5) (.lst .nil)) (.var 5) (.lst (.cons false (.call 162 (.cons false (.var 0) (.cons false (.var 2) .nil)) []) .nil))) .nil)))) .nil))))
def m__law_drawn_comb : Df := ⟨2, 6, some 0, false, b__law_drawn_comb⟩
def N_m__law_drawn_comb : List Str := ["tank", "most", "size", "spot", "kind", "rows"]
def p_m__law_drawn_comb : List Str := ["tank", "most"]
class H__law_drawn_comb (T : List (Nat × Df)) : Prop extends H__law_tap T where
  h__law_drawn_comb : T.lookup 163 = some m__law_drawn_comb
instance {T : List (Nat × Df)} [h : H__law_drawn_comb T] : Sg T 163 2 (some 0) false := ⟨fun n => fns_np h.h__law_drawn_comb n⟩
theorem v__law_drawn_comb {T : List (Nat × Df)} [h : H__law_drawn_comb T] (n : Nat) (a0 a1 : D) : (fns T (n + 1) 163).run [a0, a1] = kRun false (some 0) (evSs (fns T n) b__law_drawn_comb [.mp a0, .sh a1, .un, .un, .un, .un]) := by rw [fns_run h.h__law_drawn_comb, run_eq _ _ _ rfl]; rfl
def b__law_drawn_rig : Ss := (.cons (.asg (.v 2) false (.call 163 (.cons false (.var 0) (.cons false (.var 1) .nil)) [])) (.cons (.ret (.tup (.cons false (.var 2) (.cons false (.ife (.cmp .Eq (.call 162 (.cons false (.var 0) (.cons false (.int 9) .nil)) []) (.int 0)) (.tup (.cons false (.ix (.var 2) (.int 0)) (.cons false (.bc .list_ (.cons false (.ix (.var 2) (.int 1)) .nil)) .nil))) (.call 163 (.cons false (.var 0) (.cons false (.var 1) .nil)) [])) .nil)))) .nil))
def m__law_drawn_rig : Df := ⟨2, 3, some 0, false, b__law_drawn_rig⟩
def N_m__law_drawn_rig : List Str := ["tank", "most", "one"]
def p_m__law_drawn_rig : List Str := ["tank", "most"]
class H__law_drawn_rig (T : List (Nat × Df)) : Prop extends H__law_tap T, H__law_drawn_comb T where
  h__law_drawn_rig : T.lookup 164 = some m__law_drawn_rig
instance {T : List (Nat × Df)} [h : H__law_drawn_rig T] : Sg T 164 2 (some 0) false := ⟨fun n => fns_np h.h__law_drawn_rig n⟩
theorem v__law_drawn_rig {T : List (Nat × Df)} [h : H__law_drawn_rig T] (n : Nat) (a0 a1 : D) : (fns T (n + 1) 164).run [a0, a1] = kRun false (some 0) (evSs (fns T n) b__law_drawn_rig [.mp a0, .sh a1, .un]) := by rw [fns_run h.h__law_drawn_rig, run_eq _ _ _ rfl]; rfl
def b__law_step_v0 : Ss := (.cons (.ifs (.cmp .Gt (.var 3) (.int 0)) (.cons (.asg (.v 4) false (.bin .Sub (.var 1) (.var 2))) (.cons (.ret (.tup (.cons false (.bin .Add (.bin .Add (.bc .max (.cons false (.bin .Sub (.var 4) (.var 3)) (.cons false (.call 65 (.cons false (.ix (.var 0) (.int 1)) (.cons false (.var 4) .nil)) []) .nil))) (.var 2)) (.var 3)) (.cons false (.bin .Add (.var 2) (.var 3)) .nil)))) .nil)) .nil) (.cons (.ret (.tup (.cons false (.bc .max (.cons false (.bin .Add (.var 1) (.var 3)) (.cons false (.call 65 (.cons false (.ix (.var 0) (.int 0)) (.cons false (.var 1) .nil)) []) .nil))) (.cons false (.bin .Add (.var 2) (.var 3)) .nil)))) .nil))
def m__law_step_v0 : Df := ⟨4, 5, none, false, b__law_step_v0⟩
def N_m__law_step_v0 : List Str := ["rig", "here", "palm", "by", "lift"]
def p_m__law_step_v0 : List Str := ["rig", "here", "palm", "by"]
class H__law_step_v0 (T : List (Nat × Df)) : Prop extends H__law_below_v0 T where
  h__law_step_v0 : T.lookup 165 = some m__law_step_v0
instance {T : List (Nat × Df)} [h : H__law_step_v0 T] : Sg T 165 4 (none) false := ⟨fun n => fns_np h.h__law_step_v0 n⟩
theorem v__law_step_v0 {T : List (Nat × Df)} [h : H__law_step_v0 T] (n : Nat) (a0 a1 a2 a3 : D) : (fns T (n + 1) 165).run [a0, a1, a2, a3] = kRun false (none) (evSs (fns T n) b__law_step_v0 [.sh a0, .sh a1, .sh a2, .sh a3, .un]) := by rw [fns_run h.h__law_step_v0, run_eq _ _ _ rfl]; rfl
def b_rise_of : Ss := (.cons (.ret (.bin .Sub (.ix (.call 48 (.cons false (.var 0) (.cons false (.var 1) (.cons false (.var 2) (.cons false (.var 3) .nil)))) []) (.int 0)) (.var 1))) .nil)
def m_rise_of : Df := ⟨4, 4, none, false, b_rise_of⟩
def N_m_rise_of : List Str := ["device", "height", "hand", "move"]
def p_m_rise_of : List Str := ["device", "height", "hand", "move"]
class H_rise_of (T : List (Nat × Df)) : Prop extends H_moved_by T where
  h_rise_of : T.lookup 290 = some m_rise_of
instance {T : List (Nat × Df)} [h : H_rise_of T] : Sg T 290 4 (none) false := ⟨fun n => fns_np h.h_rise_of n⟩
theorem v_rise_of {T : List (Nat × Df)} [h : H_rise_of T] (n : Nat) (a0 a1 a2 a3 : D) : (fns T (n + 1) 290).run [a0, a1, a2, a3] = kRun false (none) (evSs (fns T n) b_rise_of [.sh a0, .sh a1, .sh a2, .sh a3]) := by rw [fns_run h.h_rise_of, run_eq _ _ _ rfl]; rfl
def l_require_looks_1 : Ss := (.cons (.ifs (.or (.not (.bc (.isi ["tuple"]) (.cons false (.var 2) .nil))) (.or (.cmp .NotEq (.bc .len (.cons false (.var 2) .nil)) (.int 2)) (.or (.not (.call 49 (.cons false (.ix (.var 2) (.int 0)) .nil) [])) (.not (.call 6 (.cons false (.ix (.var 2) (.int 1)) .nil) []))))) (.cons .raise .nil) .nil) .nil)
def b_require_looks : Ss := (.cons (.ifs (.or (.not (.bc (.isi ["list"]) (.cons false (.var 0) .nil))) (.cmp .Gt (.bc .len (.cons false (.var 0) .nil)) (.glob "MOST_LOOKS" 12))) (.cons .raise .nil) .nil) (.cons (.for_ (.t0 [1, 2]) (.enum (.var 0)) l_require_looks_1) .nil))
def m_require_looks : Df := ⟨1, 3, none, false, b_require_looks⟩
def N_m_require_looks : List Str := ["looks", "index", "look"]
def p_m_require_looks : List Str := ["looks"]
class H_require_looks (T : List (Nat × Df)) : Prop extends H_is_integer T, H_is_move T where
  h_require_looks : T.lookup 291 = some m_require_looks
instance {T : List (Nat × Df)} [h : H_require_looks T] : Sg T 291 1 (none) false := ⟨fun n => fns_np h.h_require_looks n⟩
theorem v_require_looks {T : List (Nat × Df)} [h : H_require_looks T] (n : Nat) (a0 : D) : (fns T (n + 1) 291).run [a0] = kRun false (none) (evSs (fns T n) b_require_looks [.sh a0, .un, .un]) := by rw [fns_run h.h_require_looks, run_eq _ _ _ rfl]; rfl
def i_all_starts_1 : Itr := (.r1 (.var 3))
def c_all_starts_1 : Ex := (.or (.cmp .In (.var 5) (.var 2)) (.cmp .In (.var 6) (.var 4)))
def e_all_starts_1 : Ex := (.tup (.cons false (.var 5) (.cons false (.var 6) .nil)))
def b_all_starts : Ss := (.cons (.asg (.pp [1, 2] [3, 4]) false (.var 0)) (.cons (.ret (.lc2 [("ground", 5), ("grip", 6)] (.v 5) (.r1 (.var 1)) false .non [6] (.v 6) i_all_starts_1 true c_all_starts_1 e_all_starts_1)) .nil))
def m_all_starts : Df := ⟨1, 7, none, true, b_all_starts⟩
def N_m_all_starts : List Str := ["device", "pitch", "teeth", "other", "grips", "ground", "grip"]
def p_m_all_starts : List Str := ["device"]
class H_all_starts (T : List (Nat × Df)) : Prop where
  h_all_starts : T.lookup 292 = some m_all_starts
instance {T : List (Nat × Df)} [h : H_all_starts T] : Sg T 292 1 (none) true := ⟨fun n => fns_np h.h_all_starts n⟩
theorem v_all_starts {T : List (Nat × Df)} [h : H_all_starts T] (n : Nat) (a0 : D) : (fns T (n + 1) 292).run [a0] = kRun true (none) (evSs (fns T n) b_all_starts [.sh a0, .un, .un, .un, .un, .un, .un]) := by rw [fns_run h.h_all_starts, run_eq _ _ _ rfl]; rfl
def l_seen_place_1 : Ss := (.cons (.ifs (.cmp .NotEq (.call 290 (.cons false (.var 0) (.cons false (.var 3) (.cons false (.var 4) (.cons false (.var 5) .nil)))) []) (.var 6)) (.cons (.ret .non) .nil) .nil) (.cons (.asg (.t0 [3, 4]) false (.call 48 (.cons false (.var 0) (.cons false (.var 3) (.cons false (.var 4) (.cons false (.var 5) .nil)))) [])) .nil))
def b_seen_place : Ss := (.cons (.asgp [((.v 3), false), ((.v 4), false)] (.cons false (.ix (.var 1) (.int 0)) (.cons false (.bin .Sub (.ix (.var 1) (.int 0)) (.ix (.var 1) (.int 1))) .nil))) (.cons (.for_ (.t0 [5, 6]) (.seq (.var 2)) l_seen_place_1) (.cons (.ret (.tup (.cons false (.var 3) (.cons false (.var 4) .nil)))) .nil)))
def m_seen_place : Df := ⟨3, 7, none, false, b_seen_place⟩
def N_m_seen_place : List Str := ["device", "start", "looks", "height", "hand", "move", "rise"]
def p_m_seen_place : List Str := ["device", "start", "looks"]
class H_seen_place (T : List (Nat × Df)) : Prop extends H_moved_by T, H_rise_of T where
  h_seen_place : T.lookup 293 = some m_seen_place
instance {T : List (Nat × Df)} [h : H_seen_place T] : Sg T 293 3 (none) false := ⟨fun n => fns_np h.h_seen_place n⟩
theorem v_seen_place {T : List (Nat × Df)} [h : H_seen_place T] (n : Nat) (a0 a1 a2 : D) : (fns T (n + 1) 293).run [a0, a1, a2] = kRun false (none) (evSs (fns T n) b_seen_place [.sh a0, .sh a1, .sh a2, .un, .un, .un, .un]) := by rw [fns_run h.h_seen_place, run_eq _ _ _ rfl]; rfl
def c_fits_of_1 : Ex := (.cmp .IsNot (.call 293 (.cons false (.var 0) (.cons false (.var 2) (.cons false (.var 1) .nil))) []) .non)
def e_fits_of_1 : Ex := (.var 2)
def b_fits_of : Ss := (.cons (.ret (.lc [("start", 2)] (.v 2) (.seq (.call 292 (.cons false (.var 0) .nil) [])) true c_fits_of_1 e_fits_of_1)) .nil)
def m_fits_of : Df := ⟨2, 3, none, true, b_fits_of⟩
def N_m_fits_of : List Str := ["device", "looks", "start"]
def p_m_fits_of : List Str := ["device", "looks"]
class H_fits_of (T : List (Nat × Df)) : Prop extends H_all_starts T, H_seen_place T where
  h_fits_of : T.lookup 294 = some m_fits_of
instance {T : List (Nat × Df)} [h : H_fits_of T] : Sg T 294 2 (none) true := ⟨fun n => fns_np h.h_fits_of n⟩
theorem v_fits_of {T : List (Nat × Df)} [h : H_fits_of T] (n : Nat) (a0 a1 : D) : (fns T (n + 1) 294).run [a0, a1] = kRun true (none) (evSs (fns T n) b_fits_of [.sh a0, .sh a1, .un]) := by rw [fns_run h.h_fits_of, run_eq _ _ _ rfl]; rfl
def b_require_told : Ss := (.cons (.exp (.call 52 (.cons false (.var 0) .nil) [])) (.cons (.exp (.call 291 (.cons false (.var 1) .nil) [])) .nil))
def m_require_told : Df := ⟨2, 2, none, false, b_require_told⟩
def N_m_require_told : List Str := ["device", "looks"]
def p_m_require_told : List Str := ["device", "looks"]
class H_require_told (T : List (Nat × Df)) : Prop extends H_require_device T, H_require_looks T where
  h_require_told : T.lookup 295 = some m_require_told
instance {T : List (Nat × Df)} [h : H_require_told T] : Sg T 295 2 (none) false := ⟨fun n => fns_np h.h_require_told n⟩
theorem v_require_told {T : List (Nat × Df)} [h : H_require_told T] (n : Nat) (a0 a1 : D) : (fns T (n + 1) 295).run [a0, a1] = kRun false (none) (evSs (fns T n) b_require_told [.sh a0, .sh a1]) := by rw [fns_run h.h_require_told, run_eq _ _ _ rfl]; rfl
def b_fitting_starts : Ss := (.cons (.exp (.call 295 (.cons false (.var 0) (.cons false (.var 1) .nil)) [])) (.cons (.ret (.call 294 (.cons false (.var 0) (.cons false (.var 1) .nil)) [])) .nil))
def m_fitting_starts : Df := ⟨2, 2, none, true, b_fitting_starts⟩
def N_m_fitting_starts : List Str := ["device", "looks"]
def p_m_fitting_starts : List Str := ["device", "looks"]
class H_fitting_starts (T : List (Nat × Df)) : Prop extends H_fits_of T, H_require_told T where
  h_fitting_starts : T.lookup 296 = some m_fitting_starts
instance {T : List (Nat × Df)} [h : H_fitting_starts T] : Sg T 296 2 (none) true := ⟨fun n => fns_np h.h_fitting_starts n⟩
theorem v_fitting_starts {T : List (Nat × Df)} [h : H_fitting_starts T] (n : Nat) (a0 a1 : D) : (fns T (n + 1) 296).run [a0, a1] = kRun true (none) (evSs (fns T n) b_fitting_starts [.sh a0, .sh a1]) := by rw [fns_run h.h_fitting_starts, run_eq _ _ _ rfl]; rfl
def c__law_starts_1 : Ex := (.or (.cmp .In (.var 2) (.var 4)) (.cmp .In (.var 7) (.var 6)))
def e__law_starts_1 : Ex := (.tup (.cons false (.var 2) (.cons false (.var 7) .nil)))
def l__law_starts_1 : Ss := (.cons (.asg (.v 1) false (.bin .Add (.var 1) (.lc [("two", 7)] (.v 7) (.r1 (.var 5)) true c__law_starts_1 e__law_starts_1))) .nil)
def b__law_starts : Ss := (.cons (.asg (.pp [3, 4] [5, 6]) false (.var 0)) (.cons (.asg (.v 1) false (.lst .nil)) (.cons (.for_ (.v 2) (.r1 (.var 3)) l__law_starts_1) (.cons (.ret (.var 1)) .nil))))
def m__law_starts : Df := ⟨1, 8, none, false, b__law_starts⟩
def N_m__law_starts : List Str := ["rig", "found", "one", "size", "rows", "more", "others", "two"]
def p_m__law_starts : List Str := ["rig"]
class H__law_starts (T : List (Nat × Df)) : Prop where
  h__law_starts : T.lookup 297 = some m__law_starts
instance {T : List (Nat × Df)} [h : H__law_starts T] : Sg T 297 1 (none) false := ⟨fun n => fns_np h.h__law_starts n⟩
theorem v__law_starts {T : List (Nat × Df)} [h : H__law_starts T] (n : Nat) (a0 : D) : (fns T (n + 1) 297).run [a0] = kRun false (none) (evSs (fns T n) b__law_starts [.sh a0, .un, .un, .un, .un, .un, .un, .un]) := by rw [fns_run h.h__law_starts, run_eq _ _ _ rfl]; rfl
def l__law_seen_1 : Ss := (.cons (.asg (.v 7) false (.call 165 (.cons false (.var 0) (.cons false (.var 3) (.cons false (.var 4) (.cons false (.var 5) .nil)))) [])) (.cons (.ifs (.cmp .NotEq (.bin .Sub (.ix (.var 7) (.int 0)) (.var 3)) (.var 6)) (.cons (.ret .non) .nil) .nil) (.cons (.asg (.t0 [3, 4]) false (.var 7)) .nil)))
def b__law_seen : Ss := (.cons (.asgp [((.v 3), false), ((.v 4), false)] (.cons false (.bin .Add (.ix (.var 1) (.int 0)) (.bin .Mult (.int 7) (.ix (.ix (.var 0) (.int 0)) (.int 0)))) (.cons false (.bin .Sub (.bin .Add (.ix (.var 1) (.int 0)) (.bin .Mult (.int 7) (.ix (.ix (.var 0) (.int 0)) (.int 0)))) (.ix (.var 1) (.int 1))) .nil))) (.cons (.for_ (.t0 [5, 6]) (.seq (.var 2)) l__law_seen_1) (.cons (.ret (.tup (.cons false (.var 3) (.cons false (.var 4) .nil)))) .nil)))
def m__law_seen : Df := ⟨3, 8, none, false, b__law_seen⟩
def N_m__law_seen : List Str := ["rig", "begin", "notes", "here", "palm", "by", "rise", "later"]
def p_m__law_seen : List Str := ["rig", "begin", "notes"]
class H__law_seen (T : List (Nat × Df)) : Prop extends H__law_step_v0 T where
  h__law_seen : T.lookup 298 = some m__law_seen
instance {T : List (Nat × Df)} [h : H__law_seen T] : Sg T 298 3 (none) false := ⟨fun n => fns_np h.h__law_seen n⟩
theorem v__law_seen {T : List (Nat × Df)} [h : H__law_seen T] (n : Nat) (a0 a1 a2 : D) : (fns T (n + 1) 298).run [a0, a1, a2] = kRun false (none) (evSs (fns T n) b__law_seen [.sh a0, .sh a1, .sh a2, .un, .un, .un, .un, .un]) := by rw [fns_run h.h__law_seen, run_eq _ _ _ rfl]; rfl
def l__law_drawn_notes_1 : Ss := (.cons (.asg (.v 10) false (.bin .Mult (.bin .Add (.int 1) (.call 162 (.cons false (.var 0) (.cons false (.ix (.lst (.cons false (.int 3) (.cons false (.int 30) (.cons false (.var 3) .nil)))) (.call 162 (.cons false (.var 0) (.cons false (.int 3) .nil)) [])) .nil)) [])) (.ix (.lst (.cons false (.int 1) (.cons false (.neg (.int 1)) .nil))) (.call 162 (.cons false (.var 0) (.cons false (.int 2) .nil)) [])))) (.cons (.asg (.v 11) false (.call 165 (.cons false (.var 1) (.cons false (.var 8) (.cons false (.var 9) (.cons false (.var 10) .nil)))) [])) (.cons (.app 7 (.tup (.cons false (.var 10) (.cons false (.bin .Sub (.ix (.var 11) (.int 0)) (.var 8)) .nil)))) (.cons (.asg (.t0 [8, 9]) false (.var 11)) .nil))))
def b__law_drawn_notes : Ss := (.cons (.asgp [((.v 6), false), ((.v 7), true)] (.cons false (.call 297 (.cons false (.var 1) .nil) []) (.cons false (.lst .nil) .nil))) (.cons (.asg (.v 4) false (.ix (.var 6) (.call 162 (.cons false (.var 0) (.cons false (.bc .len (.cons false (.var 6) .nil)) .nil)) []))) (.cons (.asgp [((.v 8), false), ((.v 9), false)] (.cons false (.ix (.var 4) (.int 0)) (.cons false (.bin .Sub (.ix (.var 4) (.int 0)) (.ix (.var 4) (.int 1))) .nil))) (.cons (.for_ (.v 5) (.r1 (.var 2)) l__law_drawn_notes_1) (.cons (.ifs (.and (.cmp .NotEq (.var 7) (.lst .nil)) (.cmp .Eq (.call 162 (.cons false (.var 0) (.cons false (.int 3) .nil)) []) (.int 0))) (.cons (.asg (.v 12) false (.call 162 (.cons false (.var 0) (.cons false (.bc .len (.cons false (.var 7) .nil)) .nil)) [])) (.cons (.setix 7 (.var 12) (.tup (.cons false (.ix (.ix (.var 7) (.var 12)) (.int 0)) (.cons false (.bin .Add (.ix (.ix (.var 7) (.var 12)) (.int 1)) (.ix (.lst (.cons false (.int 1) (.cons false (.neg (.int 1)) (.cons false (.int 7) .nil)))) (.call 162 (.cons false (.var 0) (.cons false (.int 3) .nil)) []))) .nil)))) .nil)) .nil) (.cons (.ret (.var 7)) .nil))))))
def m__law_drawn_notes : Df := ⟨4, 13, some 0, true, b__law_drawn_notes⟩
def N_m__law_drawn_notes : List Str := ["tank", "rig", "count", "far", "begin", "turn", "begins", "found", "here", "palm", "by", "later", "spot"]
def p_m__law_drawn_notes : List Str := ["tank", "rig", "count", "far"]
class H__law_drawn_notes (T : List (Nat × Df)) : Prop extends H__law_tap T, H__law_step_v0 T, H__law_starts T where
  h__law_drawn_notes : T.lookup 299 = some m__law_drawn_notes
instance {T : List (Nat × Df)} [h : H__law_drawn_notes T] : Sg T 299 4 (some 0) true := ⟨fun n => fns_np h.h__law_drawn_notes n⟩
theorem v__law_drawn_notes {T : List (Nat × Df)} [h : H__law_drawn_notes T] (n : Nat) (a0 a1 a2 a3 : D) : (fns T (n + 1) 299).run [a0, a1, a2, a3] = kRun true (some 0) (evSs (fns T n) b__law_drawn_notes [.mp a0, .sh a1, .sh a2, .sh a3, .un, .un, .un, .un, .un, .un, .un, .un, .un]) := by rw [fns_run h.h__law_drawn_notes, run_eq _ _ _ rfl]; rfl
def c__law_right_v19_1 : Ex := (.cmp .IsNot (.call 298 (.cons false (.var 1) (.cons false (.var 6) (.cons false (.var 2) .nil))) []) .non)
def e__law_right_v19_1 : Ex := (.var 6)
def b__law_right_v19 : Ss := (.cons (.asg (.v 3) false (.bc .repr (.cons false (.lst (.cons false (.var 1) (.cons false (.var 2) .nil))) .nil))) (.cons (.asg (.v 4) false (.bc .repr (.cons false (.lc [("begin", 6)] (.v 6) (.seq (.call 297 (.cons false (.var 1) .nil) [])) true c__law_right_v19_1 e__law_right_v19_1) .nil))) (.cons (.asg (.v 5) true (.call 296 (.cons false (.var 2) (.cons false (.var 1) .nil)) [1, 0])) (.cons (.ifs (.cmp .NotEq (.bc .repr (.cons false (.var 5) .nil)) (.var 4)) (.cons (.ret (.bl false)) .nil) .nil) (.cons (.app 5 .non) (.cons (.ret (.and (.cmp .Eq (.bc .repr (.cons false (.call 296 (.cons false (.var 1) (.cons false (.var 2) .nil)) []) .nil)) (.var 4)) (.cmp .Eq (.bc .repr (.cons false (.lst (.cons false (.var 1) (.cons false (.var 2) .nil))) .nil)) (.var 3)))) .nil))))))
def m__law_right_v19 : Df := ⟨3, 7, none, false, b__law_right_v19⟩
def N_m__law_right_v19 : List Str := ["tank", "rig", "notes", "kept", "due", "found", "begin"]
def p_m__law_right_v19 : List Str := ["tank", "rig", "notes"]
class H__law_right_v19 (T : List (Nat × Df)) : Prop extends H_fitting_starts T, H__law_starts T, H__law_seen T where
  h__law_right_v19 : T.lookup 300 = some m__law_right_v19
instance {T : List (Nat × Df)} [h : H__law_right_v19 T] : Sg T 300 3 (none) false := ⟨fun n => fns_np h.h__law_right_v19 n⟩
theorem v__law_right_v19 {T : List (Nat × Df)} [h : H__law_right_v19 T] (n : Nat) (a0 a1 a2 : D) : (fns T (n + 1) 300).run [a0, a1, a2] = kRun false (none) (evSs (fns T n) b__law_right_v19 [.sh a0, .sh a1, .sh a2, .un, .un, .un, .un]) := by rw [fns_run h.h__law_right_v19, run_eq _ _ _ rfl]; rfl
def e_law_v32_1 : Ex := (.call 296 (.cons false (.var 2) (.cons false (.var 6) .nil)) [])
def l_law_v32_1 : Ss := (.cons (.asg (.v 2) false (.call 164 (.cons false (.var 4) (.cons false (.ix (.lst (.cons false (.int 9) (.cons false (.ix (.lst (.cons false (.int 24) (.cons false (.int 12) .nil))) (.bc .min (.cons false (.var 1) (.cons false (.int 1) .nil)))) (.cons false (.int 5) .nil)))) (.bin .Mod (.bc .int_ (.cons false (.var 5) .nil)) (.int 3))) .nil)) [])) (.cons (.asg (.v 6) false (.call 299 (.cons false (.var 4) (.cons false (.var 2) (.cons false (.ix (.lst (.cons false (.call 162 (.cons false (.var 4) (.cons false (.int 5) .nil)) []) (.cons false (.int 12) (.cons false (.int 1) .nil)))) (.call 162 (.cons false (.var 4) (.cons false (.int 3) .nil)) [])) (.cons false (.bin .Pow (.int 10) (.int 39)) .nil)))) [])) (.cons (.ifs (.not (.call 300 (.cons false (.var 4) (.cons false (.var 2) (.cons false (.var 6) .nil))) [])) (.cons (.ret (.bl false)) .nil) .nil) .nil)))
def l_law_v32_2 : Ss := (.cons (.asg (.v 4) true (.call 161 (.cons false (.var 0) (.cons false (.var 1) .nil)) [])) (.cons (.for_ (.v 5) (.r1 (.int 6)) l_law_v32_1) .nil))
def b_law_v32 : Ss := (.cons (.for_ (.v 1) (.r1 (.bc .max (.cons false (.int 1) (.cons false (.bc .min (.cons false (.int 3) (.cons false (.bc .len (.cons false (.var 0) .nil)) .nil))) .nil)))) l_law_v32_2) (.cons (.asg (.v 2) false (.tup (.cons false (.tup (.cons false (.int 3) (.cons false (.lst (.cons false (.int 0) .nil)) .nil))) (.cons false (.tup (.cons false (.int 5) (.cons false (.lst (.cons false (.int 0) .nil)) .nil))) .nil)))) (.cons (.asg (.v 3) false (.lc [("notes", 6)] (.v 6) (.seq (.tup (.cons false (.lst .nil) (.cons false (.lst (.cons false (.tup (.cons false (.int 4) (.cons false (.int 1) .nil))) .nil)) (.cons false (.lst (.cons false (.tup (.cons false (.neg (.int 2)) (.cons false (.neg (.int 1)) .nil))) .nil)) (.cons false (.lst (.cons false (.tup (.cons false (.int 4) (.cons false (.int 5) .nil))) .nil)) .nil)))))) false .non e_law_v32_1)) (.cons (.ret (.cmp .Eq (.var 3) (.lst (.cons false (.lst (.cons false (.tup (.cons false (.int 0) (.cons false (.int 0) .nil))) (.cons false (.tup (.cons false (.int 0) (.cons false (.int 1) .nil))) (.cons false (.tup (.cons false (.int 0) (.cons false (.int 2) .nil))) (.cons false (.tup (.cons false (.int 0) (.cons false (.int 3) .nil))) (.cons false (.tup (.cons false (.int 0) (.cons false (.int 4) .nil))) (.cons false (.tup (.cons false (.int 1) (.cons false (.int 0) .nil))) (.cons false (.tup (.cons false (.int 2) (.cons false (.int 0) .nil))) .nil)))))))) (.cons false (.lst (.cons false (.tup (.cons false (.int 0) (.cons false (.int 3) .nil))) .nil)) (.cons false (.lst (.cons false (.tup (.cons false (.int 1) (.cons false (.int 0) .nil))) .nil)) (.cons false (.lst .nil) .nil))))))) .nil))))
def m_law_v32 : Df := ⟨1, 7, none, false, b_law_v32⟩
def N_m_law_v32 : List Str := ["script", "at", "rig", "told", "tank", "turn", "notes"]
def p_m_law_v32 : List Str := ["script"]
class H_law_v32 (T : List (Nat × Df)) : Prop extends H__law_tank T, H__law_tap T, H__law_drawn_rig T, H_fitting_starts T, H__law_drawn_notes T, H__law_right_v19 T where
  h_law_v32 : T.lookup 301 = some m_law_v32
instance {T : List (Nat × Df)} [h : H_law_v32 T] : Sg T 301 1 (none) false := ⟨fun n => fns_np h.h_law_v32 n⟩
theorem v_law_v32 {T : List (Nat × Df)} [h : H_law_v32 T] (n : Nat) (a0 : D) : (fns T (n + 1) 301).run [a0] = kRun false (none) (evSs (fns T n) b_law_v32 [.sh a0, .un, .un, .un, .un, .un, .un]) := by rw [fns_run h.h_law_v32, run_eq _ _ _ rfl]; rfl
def l_clash_index_1 : Ss := (.cons (.ifs (.cmp .Eq (.call 294 (.cons false (.var 0) (.cons false (.sl (.var 1) false .non true (.bin .Add (.var 2) (.int 1))) .nil)) []) (.lst .nil)) (.cons (.ret (.var 2)) .nil) .nil) .nil)
def b_clash_index : Ss := (.cons (.exp (.call 295 (.cons false (.var 0) (.cons false (.var 1) .nil)) [])) (.cons (.for_ (.v 2) (.r1 (.bc .len (.cons false (.var 1) .nil))) l_clash_index_1) (.cons (.ret .non) .nil)))
def m_clash_index : Df := ⟨2, 3, none, false, b_clash_index⟩
def N_m_clash_index : List Str := ["device", "looks", "index"]
def p_m_clash_index : List Str := ["device", "looks"]
class H_clash_index (T : List (Nat × Df)) : Prop extends H_fits_of T, H_require_told T where
  h_clash_index : T.lookup 302 = some m_clash_index
instance {T : List (Nat × Df)} [h : H_clash_index T] : Sg T 302 2 (none) false := ⟨fun n => fns_np h.h_clash_index n⟩
theorem v_clash_index {T : List (Nat × Df)} [h : H_clash_index T] (n : Nat) (a0 a1 : D) : (fns T (n + 1) 302).run [a0, a1] = kRun false (none) (evSs (fns T n) b_clash_index [.sh a0, .sh a1, .un]) := by rw [fns_run h.h_clash_index, run_eq _ _ _ rfl]; rfl
def l__law_due_v4_1 : Ss := (.cons (.asg (.v 10) false (.call 165 (.cons false (.var 0) (.cons false (.var 8) (.cons false (.var 9) (.cons false (.var 6) .nil)))) [])) (.cons (.ifs (.cmp .Eq (.bin .Sub (.ix (.var 10) (.int 0)) (.var 8)) (.var 7)) (.cons (.app 4 (.var 10)) .nil) .nil) .nil))
def l__law_due_v4_2 : Ss := (.cons (.asg (.v 4) true (.lst .nil)) (.cons (.for_ (.t0 [8, 9]) (.seq (.var 2)) l__law_due_v4_1) (.cons (.asg (.v 2) false (.var 4)) (.cons (.ifs (.cmp .Eq (.var 2) (.lst .nil)) (.cons (.ret (.var 3)) .nil) .nil) .nil))))
def e__law_due_v4_1 : Ex := (.call 298 (.cons false (.var 0) (.cons false (.var 5) (.cons false (.lst .nil) .nil))) [])
def b__law_due_v4 : Ss := (.cons (.asg (.v 2) false (.lc [("begin", 5)] (.v 5) (.seq (.call 297 (.cons false (.var 0) .nil) [])) false .non e__law_due_v4_1)) (.cons (.for_ (.tp 3 [6, 7]) (.enum (.var 1)) l__law_due_v4_2) (.cons (.ret .non) .nil)))
def m__law_due_v4 : Df := ⟨2, 11, none, false, b__law_due_v4⟩
def N_m__law_due_v4 : List Str := ["rig", "notes", "places_here", "spot", "later", "begin", "by", "rise", "here", "palm", "one"]
def p_m__law_due_v4 : List Str := ["rig", "notes"]
class H__law_due_v4 (T : List (Nat × Df)) : Prop extends H__law_step_v0 T, H__law_starts T, H__law_seen T where
  h__law_due_v4 : T.lookup 303 = some m__law_due_v4
instance {T : List (Nat × Df)} [h : H__law_due_v4 T] : Sg T 303 2 (none) false := ⟨fun n => fns_np h.h__law_due_v4 n⟩
theorem v__law_due_v4 {T : List (Nat × Df)} [h : H__law_due_v4 T] (n : Nat) (a0 a1 : D) : (fns T (n + 1) 303).run [a0, a1] = kRun false (none) (evSs (fns T n) b__law_due_v4 [.sh a0, .sh a1, .un, .un, .un, .un, .un, .un, .un, .un, .un]) := by rw [fns_run h.h__law_due_v4, run_eq _ _ _ rfl]; rfl
def b__law_right_v20 : Ss := (.cons (.asg (.v 3) false (.bc .repr (.cons false (.lst (.cons false (.var 1) (.cons false (.var 2) .nil))) .nil))) (.cons (.ifs (.and (.cmp .NotEq (.var 2) (.lst .nil)) (.cmp .Eq (.call 162 (.cons false (.var 0) (.cons false (.int 3) .nil)) []) (.int 0))) (.cons (.asg (.v 5) false (.call 162 (.cons false (.var 0) (.cons false (.bc .len (.cons false (.var 2) .nil)) .nil)) [])) (.cons (.asg (.v 6) false (.ix (.lst (.cons false (.bin .Add (.ix (.ix (.var 2) (.var 5)) (.int 0)) (.int 1)) (.cons false (.bin .Sub (.int 0) (.ix (.ix (.var 2) (.var 5)) (.int 0))) (.cons false (.call 162 (.cons false (.var 0) (.cons false (.int 9) .nil)) []) (.cons false (.bin .Pow (.int 10) (.int 39)) .nil))))) (.call 162 (.cons false (.var 0) (.cons false (.int 4) .nil)) []))) (.cons (.asg (.v 2) false (.bin .Add (.bin .Add (.sl (.var 2) false .non true (.var 5)) (.lst (.cons false (.tup (.cons false (.ix (.ix (.var 2) (.var 5)) (.int 0)) (.cons false (.var 6) .nil))) .nil))) (.sl (.var 2) true (.bin .Add (.var 5) (.int 1)) false .non))) (.cons (.asg (.v 3) false (.bc .repr (.cons false (.lst (.cons false (.var 1) (.cons false (.var 2) .nil))) .nil))) .nil)))) .nil) (.cons (.asg (.v 4) false (.bc .repr (.cons false (.call 303 (.cons false (.var 1) (.cons false (.var 2) .nil)) []) .nil))) (.cons (.ifs (.or (.cmp .NotEq (.bc .repr (.cons false (.call 302 (.cons false (.var 2) (.cons false (.var 1) .nil)) [1, 0]) .nil)) (.var 4)) (.cmp .NotEq (.bc .repr (.cons false (.call 302 (.cons false (.var 1) (.cons false (.var 2) .nil)) []) .nil)) (.var 4))) (.cons (.ret (.bl false)) .nil) .nil) (.cons (.ret (.cmp .Eq (.bc .repr (.cons false (.lst (.cons false (.var 1) (.cons false (.var 2) .nil))) .nil)) (.var 3))) .nil)))))
def m__law_right_v20 : Df := ⟨3, 7, some 0, false, b__law_right_v20⟩
def N_m__law_right_v20 : List Str := ["tank", "rig", "notes", "kept", "due", "spot", "bad"]
def p_m__law_right_v20 : List Str := ["tank", "rig", "notes"]
class H__law_right_v20 (T : List (Nat × Df)) : Prop extends H__law_tap T, H_clash_index T, H__law_due_v4 T where
  h__law_right_v20 : T.lookup 304 = some m__law_right_v20
instance {T : List (Nat × Df)} [h : H__law_right_v20 T] : Sg T 304 3 (some 0) false := ⟨fun n => fns_np h.h__law_right_v20 n⟩
theorem v__law_right_v20 {T : List (Nat × Df)} [h : H__law_right_v20 T] (n : Nat) (a0 a1 a2 : D) : (fns T (n + 1) 304).run [a0, a1, a2] = kRun false (some 0) (evSs (fns T n) b__law_right_v20 [.mp a0, .sh a1, .sh a2, .un, .un, .un, .un]) := by rw [fns_run h.h__law_right_v20, run_eq _ _ _ rfl]; rfl
def e_law_v33_1 : Ex := (.call 302 (.cons false (.var 2) (.cons false (.var 6) .nil)) [])
def l_law_v33_1 : Ss := (.cons (.asg (.v 2) false (.call 164 (.cons false (.var 4) (.cons false (.ix (.lst (.cons false (.int 9) (.cons false (.ix (.lst (.cons false (.int 24) (.cons false (.int 16) .nil))) (.bc .min (.cons false (.var 1) (.cons false (.int 1) .nil)))) (.cons false (.int 5) .nil)))) (.bin .Mod (.bc .int_ (.cons false (.var 5) .nil)) (.int 3))) .nil)) [])) (.cons (.asg (.v 6) false (.call 299 (.cons false (.var 4) (.cons false (.var 2) (.cons false (.ix (.lst (.cons false (.call 162 (.cons false (.var 4) (.cons false (.int 5) .nil)) []) (.cons false (.int 12) (.cons false (.int 6) .nil)))) (.call 162 (.cons false (.var 4) (.cons false (.int 3) .nil)) [])) (.cons false (.bin .Pow (.int 10) (.int 39)) .nil)))) [])) (.cons (.ifs (.not (.call 304 (.cons false (.var 4) (.cons false (.var 2) (.cons false (.var 6) .nil))) [])) (.cons (.ret (.bl false)) .nil) .nil) .nil)))
def l_law_v33_2 : Ss := (.cons (.asg (.v 4) true (.call 161 (.cons false (.var 0) (.cons false (.var 1) .nil)) [])) (.cons (.for_ (.v 5) (.r1 (.int 5)) l_law_v33_1) .nil))
def b_law_v33 : Ss := (.cons (.for_ (.v 1) (.r1 (.bc .max (.cons false (.int 1) (.cons false (.bc .min (.cons false (.int 3) (.cons false (.bc .len (.cons false (.var 0) .nil)) .nil))) .nil)))) l_law_v33_2) (.cons (.asg (.v 2) false (.tup (.cons false (.tup (.cons false (.int 3) (.cons false (.lst (.cons false (.int 0) .nil)) .nil))) (.cons false (.tup (.cons false (.int 5) (.cons false (.lst (.cons false (.int 0) .nil)) .nil))) .nil)))) (.cons (.asg (.v 3) false (.lst (.cons false (.lst .nil) (.cons false (.lst (.cons false (.tup (.cons false (.int 4) (.cons false (.int 1) .nil))) .nil)) (.cons false (.lst (.cons false (.tup (.cons false (.int 4) (.cons false (.int 1) .nil))) (.cons false (.tup (.cons false (.neg (.int 4)) (.cons false (.neg (.int 2)) .nil))) .nil))) (.cons false (.lst (.cons false (.tup (.cons false (.int 4) (.cons false (.int 5) .nil))) (.cons false (.tup (.cons false (.int 1) (.cons false (.int 0) .nil))) .nil))) .nil)))))) (.cons (.ret (.cmp .Eq (.lc [("notes", 6)] (.v 6) (.seq (.var 3)) false .non e_law_v33_1) (.lst (.cons false .non (.cons false .non (.cons false (.int 1) (.cons false (.int 0) .nil))))))) .nil))))
def m_law_v33 : Df := ⟨1, 7, none, false, b_law_v33⟩
def N_m_law_v33 : List Str := ["script", "at", "rig", "rows", "tank", "turn", "notes"]
def p_m_law_v33 : List Str := ["script"]
class H_law_v33 (T : List (Nat × Df)) : Prop extends H__law_tank T, H__law_tap T, H__law_drawn_rig T, H__law_drawn_notes T, H_clash_index T, H__law_right_v20 T where
  h_law_v33 : T.lookup 305 = some m_law_v33
instance {T : List (Nat × Df)} [h : H_law_v33 T] : Sg T 305 1 (none) false := ⟨fun n => fns_np h.h_law_v33 n⟩
theorem v_law_v33 {T : List (Nat × Df)} [h : H_law_v33 T] (n : Nat) (a0 : D) : (fns T (n + 1) 305).run [a0] = kRun false (none) (evSs (fns T n) b_law_v33 [.sh a0, .un, .un, .un, .un, .un, .un]) := by rw [fns_run h.h_law_v33, run_eq _ _ _ rfl]; rfl
end TW.P
end
/-! P2 -/
section
set_option Elab.async false
set_option linter.all false
set_option maxRecDepth 100000
set_option maxHeartbeats 4000000
set_option autoImplicit false
set_option exponentiation.threshold 100000
/-! TW, plain part 2: typed data, equality, texts of data. -/
namespace TW.P
open PySem PySem.Spec L2
open PyProof.Rows hiding St
theorem le_sz {n : Nat} (h : n ≤ 100000) : n ≤ sizeLine := by rw [sizeLine_eq]; omega
theorem lt_sz {n : Nat} (h : n ≤ 100000) : n < sizeLine := by rw [sizeLine_eq]; omega
theorem le_sz0 : (0 ≤ sizeLine) = True := eq_true (le_sz (by decide))
theorem le_sz1 : (1 ≤ sizeLine) = True := eq_true (le_sz (by decide))
theorem le_sz2 : (2 ≤ sizeLine) = True := eq_true (le_sz (by decide))
theorem le_sz3 : (3 ≤ sizeLine) = True := eq_true (le_sz (by decide))
theorem le_sz4 : (4 ≤ sizeLine) = True := eq_true (le_sz (by decide))
theorem le_sz5 : (5 ≤ sizeLine) = True := eq_true (le_sz (by decide))
theorem le_sz6 : (6 ≤ sizeLine) = True := eq_true (le_sz (by decide))
theorem le_sz7 : (7 ≤ sizeLine) = True := eq_true (le_sz (by decide))
theorem le_sz8 : (8 ≤ sizeLine) = True := eq_true (le_sz (by decide))
theorem nc0 : ((0 : Nat) : Int) = 0 := (rfl)
theorem nc1 : ((1 : Nat) : Int) = 1 := (rfl)
theorem drop1_map {α β : Type} (f : α → β) (l : List α) : (l.map f).drop 1 = (l.drop 1).map f := by rw [List.map_drop]
theorem ixN_10 : ixN 1 0 = some 0 := (rfl)
theorem ixN_20 : ixN 2 0 = some 0 := (rfl)
theorem ixN_21 : ixN 2 1 = some 1 := (rfl)
theorem ixN_30 : ixN 3 0 = some 0 := (rfl)
theorem ixN_31 : ixN 3 1 = some 1 := (rfl)
theorem ixN_32 : ixN 3 2 = some 2 := (rfl)
theorem wipeL_n (ρ : Loc) : wipeL ρ [] = ρ := (rfl)
theorem wipeL_c (ρ : Loc) (v : Nat) (vs : List Nat) : wipeL ρ (v :: vs) = (wipeL ρ vs).set v .un := (rfl)
theorem backL_n (ρ ρ' : Loc) : backL ρ ρ' [] = ρ' := (rfl)
theorem backL_c (ρ ρ' : Loc) (v : Nat) (vs : List Nat) : backL ρ ρ' (v :: vs) = (backL ρ ρ' vs).set v (ρ.getD v .un) := (rfl)
theorem clrL_n (ρ : Loc) : clrL ρ [] = true := (rfl)
def kClr : Option Slot → Bool
  | some .un => true
  | some (.sh _) => true
  | _ => false
theorem kClr_un : kClr (some .un) = true := (rfl)
theorem kClr_sh (d : D) : kClr (some (.sh d)) = true := (rfl)
theorem clrL_c (ρ : Loc) (v : Nat) (vs : List Nat) : clrL ρ (v :: vs) = (kClr ρ[v]? && clrL ρ vs) := by
  unfold clrL kClr; rfl
mutual
/-- how many parts -/
def nd : PyData → Nat
  | .none | .bool _ | .int _ => 1
  | .str x => x.cps.size + 1
  | .list xs | .tuple xs => ndAll xs + 1
  | .dict kvs => ndKv kvs + 1
def ndAll : List PyData → Nat
  | [] => 0
  | x :: xs => nd x + 1 + ndAll xs
def ndKv : List (PyData × PyData) → Nat
  | [] => 0
  | (k, v) :: r => nd k + nd v + 2 + ndKv r
end
mutual
theorem nd_le (B : Nat) (hB : 8 ≤ B) : ∀ d : PyData, d.leavesShort B = true → d.shown.length ≤ (B + 4) * nd d
  | .none, _ => by
    have e : (PyData.shown .none).length = 4 := rfl
    rw [nd]; omega
  | .bool b, _ => by
    have e : (PyData.shown (.bool b)).length ≤ 5 := by cases b <;> decide
    rw [nd]; omega
  | .int i, h => by
    have e : (PyData.shown (.int i)).length ≤ B := by simpa only [PyData.leavesShort, decide_eq_true_eq] using h
    rw [nd]; omega
  | .str x, h => by
    have hx : ∀ c ∈ x.cps.toList, c < 16 ^ 8 := by simpa only [PyData.leavesShort, List.all_eq_true, decide_eq_true_eq] using h
    have e := StrLaws.reprText_len x hx
    have e2 : x.length = x.cps.size := rfl
    have e3 : (B + 4) * (x.cps.size + 1) = B * x.cps.size + 4 * x.cps.size + B + 4 := by rw [Nat.mul_add, Nat.add_mul]; omega
    have e4 : 8 * x.cps.size ≤ B * x.cps.size := Nat.mul_le_mul_right _ hB
    simp only [PyData.shown, nd]
    omega
  | .list xs, h => by
    have h1 := ndAll_le B hB xs (by simpa only [PyData.leavesShort] using h)
    have h2 := listText_len_le (PyData.shownAll xs)
    have h3 := PyData.shownAll_length xs
    simp only [PyData.shown, nd]
    rw [Nat.mul_add]
    omega
  | .tuple xs, h => by
    have h1 := ndAll_le B hB xs (by simpa only [PyData.leavesShort] using h)
    have h2 := tupleText_len_le (PyData.shownAll xs)
    have h3 := PyData.shownAll_length xs
    simp only [PyData.shown, nd]
    rw [Nat.mul_add]
    omega
  | .dict kvs, h => by
    have h1 := ndKv_le B hB kvs (by simpa only [PyData.leavesShort] using h)
    have h2 := dictText_len_le (PyData.shownKv kvs)
    have h3 := PyData.shownKv_length kvs
    simp only [PyData.shown, nd]
    rw [Nat.mul_add]
    omega
theorem ndAll_le (B : Nat) (hB : 8 ≤ B) : ∀ xs : List PyData, PyData.leavesShortAll B xs = true → ((PyData.shownAll xs).map (·.length)).sum + 2 * xs.length ≤ (B + 4) * ndAll xs
  | [], _ => by simp only [PyData.shownAll, ndAll, List.map_nil, List.sum_nil, List.length_nil]; omega
  | x :: xs, h => by
    have h' : x.leavesShort B = true ∧ PyData.leavesShortAll B xs = true := by simpa only [PyData.leavesShortAll, Bool.and_eq_true] using h
    have h1 := nd_le B hB x h'.1
    have h2 := ndAll_le B hB xs h'.2
    have e : (B + 4) * (nd x + 1 + ndAll xs) = (B + 4) * nd x + (B + 4) + (B + 4) * ndAll xs := by
      rw [Nat.mul_add, Nat.mul_add, Nat.mul_one]
    simp only [PyData.shownAll, ndAll, List.map_cons, List.sum_cons, List.length_cons]
    omega
theorem ndKv_le (B : Nat) (hB : 8 ≤ B) : ∀ kvs : List (PyData × PyData), PyData.leavesShortKv B kvs = true → ((PyData.shownKv kvs).map (·.length)).sum + 2 * kvs.length ≤ (B + 4) * ndKv kvs
  | [], _ => by simp only [PyData.shownKv, ndKv, List.map_nil, List.sum_nil, List.length_nil]; omega
  | (k, v) :: r, h => by
    have h' : (k.leavesShort B = true ∧ v.leavesShort B = true) ∧ PyData.leavesShortKv B r = true := by simpa only [PyData.leavesShortKv, Bool.and_eq_true] using h
    have h1 := nd_le B hB k h'.1.1
    have h2 := nd_le B hB v h'.1.2
    have h3 := ndKv_le B hB r h'.2
    have e : (B + 4) * (nd k + nd v + 2 + ndKv r) = (B + 4) * nd k + (B + 4) * nd v + (B + 4) * 2 + (B + 4) * ndKv r := by
      rw [Nat.mul_add, Nat.mul_add, Nat.mul_add]
    have e2 : (k.shown ++ ": " ++ v.shown).length = k.shown.length + 2 + v.shown.length := by
      rw [strLen_append, strLen_append]; rfl
    simp only [PyData.shownKv, ndKv, List.map_cons, List.sum_cons, List.length_cons]
    omega
end
/-! ### typed data -/
class Code (α : Type) where
  en : α → D
  py : α → PyData
  dp : Nat
  sm : α → Prop
  sz : α → Nat
  hpy : ∀ a, (en a).py = some (py a)
  hlay : ∀ a, (py a).plain = true
  hdp : ∀ a, (py a).depth ≤ dp
  heq : ∀ a b, PyData.eqv (py a) (py b) = true ↔ a = b
  hsm : ∀ a, sm a → (py a).showable = true ∧ (py a).leavesShort 1921 = true
  hsz : ∀ a, nd (py a) ≤ sz a
open Code (en)
theorem int_short {i : Int} (h : i.natAbs.log2 < 1920) : (PyData.int i).leavesShort 1921 = true := by
  rw [PyData.leavesShort]
  exact decide_eq_true (int_text_len_1921 h)
instance : Code Int where
  en i := .int i
  py i := .int i
  dp := 0
  sm i := i.natAbs.log2 < 1920
  sz _ := 1
  hpy _ := rfl
  hlay _ := by rw [PyData.plain]
  hdp _ := by rw [PyData.depth]; exact Nat.le_refl _
  heq a b := by rw [PyData.eqv]; simp
  hsm a h := ⟨by rw [PyData.showable]; exact decide_eq_true h, int_short h⟩
  hsz a := by rw [nd]; omega
instance : Code (Option Int) where
  en | none => .non
     | some i => .int i
  py | none => .none
     | some i => .int i
  dp := 0
  sm | none => True
     | some i => i.natAbs.log2 < 1920
  sz _ := 1
  hpy a := by cases a <;> rfl
  hlay a := by cases a <;> rw [PyData.plain]
  hdp a := by cases a <;> (simp only []; rw [PyData.depth]; exact Nat.le_refl _)
  heq a b := by cases a <;> cases b <;> simp [PyData.eqv]
  hsm a h := by
    cases a with
    | none => exact ⟨by simp [PyData.showable], by simp [PyData.leavesShort]⟩
    | some i => exact ⟨by simp only [PyData.showable]; exact decide_eq_true h, int_short h⟩
  hsz a := by cases a <;> (simp only []; rw [nd]; omega)
section
variable {α β : Type} [Code α] [Code β]
theorem pys_map : ∀ l : List α, D.pys (l.map en) = some (l.map Code.py)
  | [] => by rw [List.map_nil, D.pys]; rfl
  | a :: l => by
    rw [List.map_cons, D.pys, Code.hpy, pys_map l]; rfl
theorem lay_map : ∀ l : List α, PyData.plainAll (l.map Code.py) = true
  | [] => by rw [List.map_nil, PyData.plainAll]
  | a :: l => by rw [List.map_cons, PyData.plainAll, Code.hlay, lay_map l]; rfl
theorem dep_map : ∀ l : List α, PyData.depthAll (l.map Code.py) ≤ Code.dp α
  | [] => by rw [List.map_nil, PyData.depthAll]; exact Nat.zero_le _
  | a :: l => by
    rw [List.map_cons, PyData.depthAll]
    exact Nat.max_le.mpr ⟨Code.hdp a, dep_map l⟩
theorem eqv_map : ∀ l m : List α, PyData.eqvAll (l.map Code.py) (m.map Code.py) = true ↔ l = m
  | [], [] => by simp [PyData.eqvAll]
  | [], _ :: _ => by simp [PyData.eqvAll]
  | _ :: _, [] => by simp [PyData.eqvAll]
  | a :: l, b :: m => by
    rw [List.map_cons, List.map_cons, PyData.eqvAll, Bool.and_eq_true, Code.heq, eqv_map l m]
    simp
theorem sm_map : ∀ l : List α, (∀ a ∈ l, Code.sm a) → PyData.showableAll (l.map Code.py) = true ∧ PyData.leavesShortAll 1921 (l.map Code.py) = true
  | [], _ => ⟨by rw [List.map_nil, PyData.showableAll], by rw [List.map_nil, PyData.leavesShortAll]⟩
  | a :: l, h => by
    obtain ⟨h1, h2⟩ := Code.hsm a (h a List.mem_cons_self)
    obtain ⟨h3, h4⟩ := sm_map l fun b hb => h b (List.mem_cons_of_mem _ hb)
    exact ⟨by rw [List.map_cons, PyData.showableAll, h1, h3]; rfl, by rw [List.map_cons, PyData.leavesShortAll, h2, h4]; rfl⟩
theorem wt_map : ∀ l : List α, ndAll (l.map Code.py) ≤ (l.map fun a => Code.sz a + 1).sum
  | [] => by rw [List.map_nil, ndAll]; exact Nat.zero_le _
  | a :: l => by
    have h1 := Code.hsz a
    have h2 := wt_map l
    rw [List.map_cons, ndAll, List.map_cons, List.sum_cons]
    omega
instance : Code (List α) where
  en l := .lst (l.map en)
  py l := .list (l.map Code.py)
  dp := Code.dp α + 1
  sm l := ∀ a ∈ l, Code.sm a
  sz l := (l.map fun a => Code.sz a + 1).sum + 1
  hpy l := by
    show (D.pys (l.map en)).map PyData.list = _
    rw [pys_map]; rfl
  hlay l := by rw [PyData.plain, lay_map]
  hdp l := by
    rw [PyData.depth]
    have := dep_map l
    omega
  heq l m := by rw [PyData.eqv, eqv_map]
  hsm l h := by
    obtain ⟨h1, h2⟩ := sm_map l h
    exact ⟨by rw [PyData.showable, h1], by rw [PyData.leavesShort, h2]⟩
  hsz l := by
    have := wt_map l
    rw [nd]; omega
instance : Code (α × β) where
  en p := .tup [en p.1, en p.2]
  py p := .tuple [Code.py p.1, Code.py p.2]
  dp := max (Code.dp α) (Code.dp β) + 1
  sm p := Code.sm p.1 ∧ Code.sm p.2
  sz p := Code.sz p.1 + Code.sz p.2 + 3
  hpy p := by
    show (D.pys [en p.1, en p.2]).map PyData.tuple = _
    rw [D.pys, D.pys, D.pys, Code.hpy, Code.hpy]; rfl
  hlay p := by rw [PyData.plain, PyData.plainAll, PyData.plainAll, PyData.plainAll, Code.hlay, Code.hlay]; rfl
  hdp p := by
    rw [PyData.depth, PyData.depthAll, PyData.depthAll, PyData.depthAll]
    have h1 := Code.hdp p.1
    have h2 := Code.hdp p.2
    omega
  heq p q := by
    rw [PyData.eqv, PyData.eqvAll, PyData.eqvAll, PyData.eqvAll, Bool.and_eq_true, Bool.and_eq_true, Code.heq, Code.heq]
    constructor
    · rintro ⟨h1, h2, _⟩
      exact Prod.ext h1 h2
    · rintro rfl
      exact ⟨rfl, rfl, rfl⟩
  hsm p h := by
    obtain ⟨h1, h2⟩ := Code.hsm p.1 h.1
    obtain ⟨h3, h4⟩ := Code.hsm p.2 h.2
    exact ⟨by rw [PyData.showable, PyData.showableAll, PyData.showableAll, PyData.showableAll, h1, h3]; rfl, by rw [PyData.leavesShort, PyData.leavesShortAll, PyData.leavesShortAll, PyData.leavesShortAll, h2, h4]; rfl⟩
  hsz p := by
    rw [nd, ndAll, ndAll, ndAll]
    have h1 := Code.hsz p.1
    have h2 := Code.hsz p.2
    omega
theorem shp_py (h : Code.dp α ≤ 64) (a : α) : shp (Code.py a) = true := by
  unfold shp
  rw [Code.hlay]
  exact Bool.and_eq_true_iff.mpr ⟨rfl, decide_eq_true (Nat.le_trans (Code.hdp a) h)⟩
theorem eqD_en [DecidableEq α] (h : Code.dp α ≤ 64) (a b : α) : eqD (en a) (en b) = some (decide (a = b)) := by
  unfold eqD
  rw [Code.hpy, Code.hpy]
  simp only [shp_py h, Bool.and_self, if_true]
  congr 1
  by_cases e : a = b
  · rw [(Code.heq a b).mpr e, decide_eq_true e]
  · cases hx : PyData.eqv (Code.py a) (Code.py b) with
    | true => exact absurd ((Code.heq a b).mp hx) e
    | false => rw [decide_eq_false e]
theorem any_map [DecidableEq α] (a : α) : ∀ l : List α, ((l.map Code.py).any fun z => PyData.eqv z (Code.py a)) = decide (a ∈ l)
  | [] => by simp
  | b :: l => by
    rw [List.map_cons, List.any_cons, any_map a l]
    by_cases e : b = a
    · rw [(Code.heq b a).mpr e]; subst e; simp
    · have e' : ¬ a = b := fun q => e q.symm
      cases hx : PyData.eqv (Code.py b) (Code.py a) with
      | true => exact absurd ((Code.heq b a).mp hx) e
      | false => simp [e']
theorem inD_en [DecidableEq α] (h : Code.dp α ≤ 63) (a : α) (l : List α) : inD (en a) (.lst (l.map en)) = some (decide (a ∈ l)) := by
  have hs : shp (.list (l.map Code.py)) = true := shp_py (α := List α) (by show Code.dp α + 1 ≤ 64; omega) l
  unfold inD
  simp only [Code.hpy, pys_map, shp_py (Nat.le_succ_of_le h) a, hs, Bool.and_self, if_true, any_map]
end
theorem eqD_int (i j : Int) : eqD (.int i) (.int j) = some (decide (i = j)) := eqD_en (α := Int) (by decide) i j
theorem eqD_ints (l m : List Int) : eqD (.lst (l.map .int)) (.lst (m.map .int)) = some (decide (l = m)) := eqD_en (α := List Int) (by decide) l m
theorem inD_ints (i : Int) (l : List Int) : inD (.int i) (.lst (l.map .int)) = some (decide (i ∈ l)) := inD_en (α := Int) (by decide) i l
theorem shp_any {p : PyData} (h1 : p.plain = true) (h2 : p.depth ≤ 64) : shp p = true := by
  unfold shp; rw [h1]; exact decide_eq_true h2
theorem pys_len : ∀ (l : List D) (ps : List PyData), D.pys l = some ps → ps.length = l.length
  | [], ps, h => by rw [D.pys] at h; cases h; rfl
  | d :: l, ps, h => by
    rw [D.pys] at h
    cases h1 : d.py with
    | none => rw [h1] at h; cases h
    | some p =>
      cases h2 : D.pys l with
      | none => rw [h1, h2] at h; cases h
      | some qs => rw [h1, h2] at h; cases h; rw [List.length_cons, List.length_cons, pys_len l qs h2]
/-- is a list empty -/
theorem eqD_nil {l : List D} {ps : List PyData} (h : D.pys l = some ps) (hp : PyData.plainAll ps = true) (hd : PyData.depthAll ps ≤ 63) : eqD (.lst l) (.lst []) = some (decide (l = [])) := by
  have h1 : (D.lst l).py = some (.list ps) := by
    show (D.pys l).map PyData.list = _
    rw [h]; rfl
  have h2 : (D.lst []).py = some (.list []) := by
    show (D.pys []).map PyData.list = _
    rw [D.pys]; rfl
  have s1 : shp (.list ps) = true := shp_any (by rw [PyData.plain]; exact hp) (by rw [PyData.depth]; omega)
  have s2 : shp (.list []) = true := shp_any (by rw [PyData.plain, PyData.plainAll]) (by rw [PyData.depth, PyData.depthAll]; omega)
  unfold eqD
  rw [h1, h2]
  simp only [s1, s2, Bool.and_self, if_true]
  congr 1
  rw [PyData.eqv]
  cases ps with
  | nil =>
    have := pys_len l [] h
    have e : l = [] := List.eq_nil_of_length_eq_zero (by simpa using this.symm)
    subst e; simp [PyData.eqvAll]
  | cons p ps =>
    have := pys_len l _ h
    have e : l ≠ [] := by intro z; subst z; cases this
    simp [PyData.eqvAll, e]
theorem eqD_nilE {α : Type} [Code α] (h : Code.dp α ≤ 63) (l : List α) : eqD (.lst (l.map en)) (.lst []) = some (decide (l = [])) := by
  rw [eqD_nil (pys_map l) (lay_map l) (Nat.le_trans (dep_map l) h)]
  cases l <;> rfl
theorem eqD_nilI (l : List Int) : eqD (.lst (l.map .int)) (.lst []) = some (decide (l = [])) := eqD_ints l []
theorem eqD_nil0 : eqD (.lst []) (.lst []) = some true := eqD_ints [] []
theorem eqD_nilC (d : D) (l : List D) : True := trivial
theorem eqD_str (s t : Str) : eqD (.str s) (.str t) = some (decide (s = t)) := by
  have sh : ∀ s : Str, shp (.str s) = true := fun s => shp_any (by rw [PyData.plain]) (by rw [PyData.depth]; omega)
  unfold eqD
  show (if (shp (.str s) && shp (.str t)) = true then some (PyData.eqv (.str s) (.str t)) else none) = _
  rw [sh, sh]
  simp only [Bool.and_self, if_true, PyData.eqv]
  by_cases h : s = t <;> simp [h]
/-! ### texts of data -/
/-- data with a text -/
def Sho (d : D) (w k : Nat) : Prop := ∃ p, d.py = some p ∧ p.showable = true ∧ p.leavesShort 1921 = true ∧ nd p ≤ w ∧ p.depth ≤ k
theorem Sho.mono {d : D} {w k w' k' : Nat} (h : Sho d w k) (hw : w ≤ w') (hk : k ≤ k') : Sho d w' k' := by
  obtain ⟨p, h1, h2, h3, h4, h5⟩ := h
  exact ⟨p, h1, h2, h3, by omega, by omega⟩
theorem Sho.en {α : Type} [Code α] (a : α) (h : Code.sm a) : Sho (en a) (Code.sz a) (Code.dp α) := ⟨_, Code.hpy a, (Code.hsm a h).1, (Code.hsm a h).2, Code.hsz a, Code.hdp a⟩
theorem Sho.pys {w k : Nat} : ∀ (l : List D), (∀ d ∈ l, Sho d w k) → ∃ ps, D.pys l = some ps ∧ PyData.showableAll ps = true ∧ PyData.leavesShortAll 1921 ps = true ∧ ndAll ps ≤ l.length * (w + 1) ∧ PyData.depthAll ps ≤ k
  | [], _ => ⟨[], by rw [D.pys], by rw [PyData.showableAll], by rw [PyData.leavesShortAll], by rw [ndAll]; exact Nat.zero_le _, by rw [PyData.depthAll]; exact Nat.zero_le _⟩
  | d :: l, h => by
    obtain ⟨p, h1, h2, h3, h4, h5⟩ := h d List.mem_cons_self
    obtain ⟨ps, g1, g2, g3, g4, g5⟩ := Sho.pys l fun e he => h e (List.mem_cons_of_mem _ he)
    refine ⟨p :: ps, by rw [D.pys, h1, g1], by rw [PyData.showableAll, h2, g2]; rfl, by rw [PyData.leavesShortAll, h3, g3]; rfl, ?_, by rw [PyData.depthAll]; exact Nat.max_le.mpr ⟨h5, g5⟩⟩
    rw [ndAll, List.length_cons, Nat.succ_mul]
    omega
theorem Sho.lst {w k : Nat} {l : List D} (h : ∀ d ∈ l, Sho d w k) : Sho (.lst l) (l.length * (w + 1) + 1) (k + 1) := by
  obtain ⟨ps, g1, g2, g3, g4, g5⟩ := Sho.pys l h
  refine ⟨.list ps, by show (D.pys l).map PyData.list = _; rw [g1]; rfl, by rw [PyData.showable, g2], by rw [PyData.leavesShort, g3], by rw [nd]; omega, by rw [PyData.depth]; omega⟩
theorem Sho.tup {w k : Nat} {l : List D} (h : ∀ d ∈ l, Sho d w k) : Sho (.tup l) (l.length * (w + 1) + 1) (k + 1) := by
  obtain ⟨ps, g1, g2, g3, g4, g5⟩ := Sho.pys l h
  refine ⟨.tuple ps, by show (D.pys l).map PyData.tuple = _; rw [g1]; rfl, by rw [PyData.showable, g2], by rw [PyData.leavesShort, g3], by rw [nd]; omega, by rw [PyData.depth]; omega⟩
theorem Sho.int {i : Int} (h : i.natAbs.log2 < 1920) : Sho (.int i) 1 0 := Sho.en (α := Int) i h
theorem Sho.non : Sho .non 1 0 := Sho.en (α := Option Int) none trivial
theorem Sho.bl (b : Bool) : Sho (.bl b) 1 0 := ⟨.bool b, rfl, by rw [PyData.showable], by rw [PyData.leavesShort], by rw [nd]; omega, by rw [PyData.depth]; omega⟩
theorem repr_sho {d : D} {w k : Nat} (h : Sho d w k) (hw : w ≤ 8000) (hk : k ≤ 60) : ∃ s, reprD d = some s := by
  obtain ⟨p, h1, h2, h3, h4, h5⟩ := h
  refine ⟨p.shown, ?_⟩
  have hl := nd_le 1921 (by decide) p h3
  have hm : (1921 + 4) * nd p ≤ (1921 + 4) * 8000 := Nat.mul_le_mul (Nat.le_refl _) (by omega)
  have hz : p.shown.length ≤ sizeLine := by rw [sizeLine_eq]; omega
  unfold reprD
  simp only [h1, h2, hz, show p.depth ≤ 60 by omega, decide_true, Bool.and_self, if_true]
theorem log_of {i : Int} {k : Nat} (hk : k < 1920 := by decide) (h : i.natAbs < 2 ^ (k + 1)) : i.natAbs.log2 < 1920 := by
  by_cases h0 : i.natAbs = 0
  · rw [h0]; decide
  · have := (Nat.log2_lt h0).mpr h
    omega
theorem sm_int {i : Int} (h1 : -(10 ^ 200) ≤ i) (h2 : i ≤ 10 ^ 200) : i.natAbs.log2 < 1920 := by
  refine log_of (k := 1000) (by decide) ?_
  have h : i.natAbs ≤ 10 ^ 200 := by omega
  exact Nat.lt_of_le_of_lt h (by decide +kernel)
theorem en_pair {α β : Type} [Code α] [Code β] (p : α × β) : en p = .tup [en p.1, en p.2] := (rfl)
theorem en_lst {α : Type} [Code α] (l : List α) : en l = .lst (l.map en) := (rfl)
theorem en_int (i : Int) : (en i : D) = .int i := (rfl)
theorem en_intf : (en : Int → D) = D.int := (rfl)
theorem isi_tt (l : List D) : biD (.isi ["tuple"]) [.tup l] = some (.v (.bl true)) := (rfl)
theorem isi_ll (l : List D) : biD (.isi ["list"]) [.lst l] = some (.v (.bl true)) := (rfl)
theorem isi_ii (i : Int) : biD (.isi ["int"]) [.int i] = some (.v (.bl true)) := (rfl)
theorem isi_bi (i : Int) : biD (.isi ["bool"]) [.int i] = some (.v (.bl false)) := (rfl)
theorem blsD_map {α : Type} (f : α → Bool) : ∀ l : List α, blsD (l.map fun x => .bl (f x)) = some (l.map f)
  | [] => rfl
  | a :: l => by
    show (blsD (l.map fun x => .bl (f x))).map (f a :: ·) = _
    rw [blsD_map f l]; rfl
theorem bi_all {α : Type} (f : α → Bool) (l : List α) : biD .all_ [.lst (l.map fun x => .bl (f x))] = some (.v (.bl (l.all f))) := by
  show (blsD (l.map fun x => .bl (f x))).map (fun bs => Opd.v (.bl (bs.all id))) = _
  rw [blsD_map]
  show some (Opd.v (.bl ((l.map f).all id))) = _
  rw [List.all_map]; rfl
theorem cut_from {α : Type} (l : List α) (n : Nat) : cutL l (some (n : Int)) none = l.drop n := by
  unfold cutL
  rw [HT.sIx_nat, HT.sIx_none]
  by_cases h : n ≤ l.length
  · rw [Nat.min_eq_left h]
    rw [List.take_of_length_le (by simp)]
  · rw [Nat.min_eq_right (by omega), List.drop_of_length_le (Nat.le_refl _), List.drop_of_length_le (by omega), List.take_nil]
theorem cut_1 {α : Type} (l : List α) : cutL l (some 1) none = l.drop 1 := cut_from l 1
theorem cut_to {α : Type} (l : List α) (n : Nat) : cutL l none (some (n : Int)) = l.take n := by
  unfold cutL
  rw [HT.sIx_nat, HT.sIx_none, Nat.sub_zero, List.drop_zero]
  by_cases h : n ≤ l.length
  · rw [Nat.min_eq_left h]
  · rw [Nat.min_eq_right (by omega), List.take_of_length_le (by omega), List.take_of_length_le (by omega)]
theorem zip_ints (l m : List Int) : List.zipWith (fun d e => D.tup [d, e]) (l.map .int) (m.map .int) = (l.zip m).map fun p => .tup [.int p.1, .int p.2] := by
  rw [List.zipWith_map, List.zip_eq_zipWith, List.map_zipWith]
def upto (n : Nat) : List Int := (List.range n).map fun (i : Nat) => (i : Int)
theorem rng_01 (n : Nat) : rngD 0 n 1 = (upto n).map .int := by
  unfold rngD upto
  rw [List.map_map]
  apply List.map_congr_left
  intro i _
  show D.int (0 + (i : Int) * 1) = D.int i
  congr 1; omega
theorem mem_upto {n : Nat} {x : Int} : x ∈ upto n ↔ 0 ≤ x ∧ x < n := by
  unfold upto
  rw [List.mem_map]
  constructor
  · rintro ⟨i, hi, rfl⟩
    have := List.mem_range.mp hi
    omega
  · rintro ⟨h0, h1⟩
    exact ⟨x.toNat, List.mem_range.mpr (by omega), by omega⟩
theorem len_upto (n : Nat) : (upto n).length = n := by simp [upto]
theorem okI_of {i : Int} (h0 : -(10 ^ 18) ≤ i) (h1 : i ≤ 10 ^ 18) : okI i = true := by
  rw [okI_eq, decide_eq_true (by omega), decide_eq_true (by omega)]; rfl
theorem enum_en {α : Type} (f : α → D) : ∀ (l : List α) (n : Nat), enumD n (l.map f) = (l.zipIdx n).map fun p => .tup [.int p.2, f p.1]
  | [], _ => rfl
  | a :: l, n => by rw [List.map_cons, enumD, enum_en f l (n + 1), List.zipIdx_cons, List.map_cons]
/-- free to be bound -/
def Fr (s : Slot) : Prop := s = .un ∨ ∃ d, s = .sh d
theorem Fr.un : Fr .un := .inl rfl
theorem Fr.sh (d : D) : Fr (.sh d) := .inr ⟨d, rfl⟩
theorem kSh_fr {s : Slot} (h : Fr s) (ρ : Loc) (i : Nat) (d : D) : kSh ρ i d (some s) = some (ρ.set i (.sh d)) := by
  rcases h with rfl | ⟨e, rfl⟩ <;> rfl
theorem kClr_fr {s : Slot} (h : Fr s) : kClr (some s) = true := by
  rcases h with rfl | ⟨e, rfl⟩ <;> rfl
theorem kOw_fr {s : Slot} (h : Fr s) (i : Nat) (d : D) (ρ : Loc) : kOw i d ρ (some s) = .ok .nx (ρ.set i (.ow d)) := by
  rcases h with rfl | ⟨e, rfl⟩ <;> rfl
/-- a comprehension without a test -/
theorem lc_mapN {α : Type} {φ : Fns} {own : List Nat} {t : Tg} {c elt : Ex} {ρ : Loc} (en : α → D) (q : α → D) (h0 : clrL ρ own = true) (xs : List α) (hz : xs.length ≤ sizeLine)
    (h : ∀ x ∈ xs, ∃ ρd, tgD t (en x) (wipeL ρ own) = some ρd ∧ clrL ρd own = true ∧ wipeL ρd own = wipeL ρ own ∧ ∃ o, evO φ elt ρd = .ok o ρd ∧ o.esc ρd = .ok (q x) ρd) :
    kLc φ own t false c elt (xs.map en) ρ = .ok (.f (.lst (xs.map q))) (backL ρ (wipeL ρ own) own) := by
  rw [lc_map en (fun _ => true) q h0 xs hz fun x hx => ?_]
  · congr 4
    rw [List.filter_eq_self]; intro _ _; rfl
  · obtain ⟨ρd, h1, h2, h3, h4⟩ := h x hx
    exact ⟨ρd, h1, rfl, h2, h3, fun _ => h4⟩
/-- two clauses, the first without a test -/
theorem lc2_map {α β : Type} {φ : Fns} {own vs1 : List Nat} {t t1 : Tg} {it1 : Itr} {f1 : Bool} {c c1 elt : Ex} {ρ : Loc} (en1 : α → D) (en2 : β → D) (ys : α → List β) (p : α → β → Bool) (q : α → β → D) (ρ1 : α → Loc)
    (h0 : clrL ρ own = true) (xs : List α) (M : Nat) (hM : ∀ x ∈ xs, (ys x).length ≤ M) (hz : xs.length * M ≤ sizeLine)
    (h : ∀ x ∈ xs, tgD t (en1 x) (wipeL ρ own) = some (ρ1 x) ∧ evIt φ it1 (ρ1 x) = .ok ((ys x).map en2) (ρ1 x) ∧ clrL (ρ1 x) vs1 = true ∧ clrL (wipeL (ρ1 x) vs1) own = true ∧ wipeL (wipeL (ρ1 x) vs1) own = wipeL ρ own)
    (h' : ∀ x ∈ xs, ∀ y ∈ ys x, ∃ ρ2, tgD t1 (en2 y) (wipeL (ρ1 x) vs1) = some ρ2 ∧ lcC φ f1 c1 ρ2 = .ok (p x y) ρ2 ∧ clrL ρ2 vs1 = true ∧ wipeL ρ2 vs1 = wipeL (ρ1 x) vs1 ∧ (p x y = true → ∃ o, evO φ elt ρ2 = .ok o ρ2 ∧ o.esc ρ2 = .ok (q x y) ρ2)) :
    kLc2 φ own vs1 t false c t1 it1 f1 c1 elt (xs.map en1) ρ = .ok (.f (.lst (xs.flatMap fun x => ((ys x).filter (p x)).map (q x)))) (backL ρ (wipeL ρ own) own) := by
  have inner : ∀ (x : α), x ∈ xs → ∀ (zs : List β) (acc : List D), (∀ y ∈ zs, y ∈ ys x) → acc.length + zs.length ≤ sizeLine → lcL vs1 t1 (lcC φ f1 c1) (evO φ elt) (zs.map en2) acc (wipeL (ρ1 x) vs1) = .ok (acc ++ (zs.filter (p x)).map (q x)) (wipeL (ρ1 x) vs1) := by
    intro x hx zs
    induction zs with
    | nil => intro acc _ _; rw [List.map_nil, lcL]; simp
    | cons y zs ih =>
      intro acc hm hl
      obtain ⟨ρ2, h1, h2, h3, h4, h5⟩ := h' x hx y (hm y List.mem_cons_self)
      rw [List.map_cons, lcL, h1]
      simp only [h2]
      rw [List.length_cons] at hl
      cases hp : p x y with
      | false =>
        simp only [h3, if_true, h4]
        rw [ih acc (fun z hz => hm z (List.mem_cons_of_mem _ hz)) (by omega), List.filter_cons, hp]; simp
      | true =>
        obtain ⟨o, e1, e2⟩ := h5 hp
        have hlt : decide (acc.length < sizeLine) = true := decide_eq_true (by omega)
        simp only [e1, e2, hlt, h3, Bool.and_self, if_true, h4]
        rw [ih (acc ++ [q x y]) (fun z hz => hm z (List.mem_cons_of_mem _ hz)) (by simp; omega), List.filter_cons, hp]; simp
  have outer : ∀ (us : List α) (acc : List D), (∀ x ∈ us, x ∈ xs) → acc.length + us.length * M ≤ sizeLine → lc2L own vs1 t (lcC φ false c) (evIt φ it1) t1 (lcC φ f1 c1) (evO φ elt) (us.map en1) acc (wipeL ρ own) = .ok (acc ++ us.flatMap fun x => ((ys x).filter (p x)).map (q x)) (wipeL ρ own) := by
    intro us
    induction us with
    | nil => intro acc _ _; rw [List.map_nil, lc2L]; simp
    | cons x us ih =>
      intro acc hm hl
      have hx := hm x List.mem_cons_self
      obtain ⟨h1, h2, h3, h4, h5⟩ := h x hx
      have hy := hM x hx
      rw [List.length_cons, Nat.succ_mul] at hl
      rw [List.map_cons, lc2L, h1]
      simp only [lcC_f, h2, h3, if_true]
      rw [inner x hx (ys x) acc (fun _ h => h) (by omega)]
      simp only [h4, h5, if_true]
      have hf : (((ys x).filter (p x)).map (q x)).length ≤ (ys x).length := by rw [List.length_map]; exact List.length_filter_le _ _
      rw [ih _ (fun z hz => hm z (List.mem_cons_of_mem _ hz)) (by rw [List.length_append]; omega)]
      simp
  unfold kLc2
  rw [if_pos h0, outer xs [] (fun _ h => h) (by simpa using hz)]; rfl
end TW.P
end
/-! P3 -/
section
set_option Elab.async false
set_option linter.all false
set_option maxRecDepth 100000
set_option maxHeartbeats 4000000
set_option autoImplicit false
/-! TW, plain part 3: combs, moves. -/
namespace TW.P
open PySem PySem.Spec L2
open PyProof.Rows hiding St
open Code (en)
local macro_rules | `(tactic| walk_at "tw") => `(tactic| simp only [get_v, get_f, get_b, kGet_ow, kGet_mp, kGet_sh, esc_v, esc_f, esc_b, kEsc_ow, kEsc_sh, kOp2_ss, kOp1_s, of_s, of_n, bd_ok, bd_no, bd_ex, ev_int, ev_str, ev_bl, ev_non, ev_glob, ev_var, kVar_sh, kVar_ow, kVar_mp, kBinR_a, kBinL_a, ev_bin, kNeg_a, ev_neg, kNotR_a, kTru_s, kNot_a, ev_not, kCmpR_a, kCmpL_a, ev_cmp, kC2c_a, kAndR_t, kAndR_f, kAndR_ok, kOrR_f, kOrR_t, kOrR_ok, kC2t_a, kC2R_a, kC2L_a, ev_cmp2, kAnd_a, ev_and, kOr_a, ev_or, kSel_t, kSel_f, kSel_int, kSel_same, kIfeT_a, kIfe_a, ev_ife, kTup_a, kLst_a, ev_tup, ev_lst, kIxR_a, kIxL_a, ev_ix, kPt_a, kBound_t, kBound_f, kSlH_a, kSlL_a, kSl_a, ev_sl, kRev_a, ev_rev, kCall_a, pmut_n, ev_call, kBi_a, ev_bc, kMtR_a, kMt_a, ev_mth, kLrR_a, kLrL_a, ev_lrange, kPopR_s, kPop_a, kBack_a, kEsT_a, kEsD_a, kEs_a, es_n, es_c, kEsA_a, kEsS1_l, kEsS1_t, kEsS_a, es_s, kAsT_a, kAs_a, as_n, as_c, kItD_a, kIt_a, it_seq, it_enum, kZpE_a, kZpY_a, kZpD_a, kZp_a, it_zip, r1D_a, kR1_a, it_r1, r2D_a, kR2R_a, kR2L_a, it_r2, kOp3_s, kR3C_a, kR3R_a, kR3L_a, it_r3, kT_a, t_eq, lcC_t, lcC_f, kSs_nx, kSs_rt, kSs_bk, kSs_ct, ss_n, ss_c, kOw_un, kOw_sh, kOw_ow, kTgR_s, kTg_a, kAsgO_a, kAsg_a, s_asgO, s_asg, kStP_a, s_asgp, kPsT_a, kPsD_a, kPs_a, kPsO_a, ps_n, ps_f, ps_t, kSet3_s, kSet2_a, kSet1_a, kSet_a, s_setix, kAug3_s, kAug2_a, kAug_s, s_aug, kApp1_a, kApp_a, s_app, kExp_a, s_exp, kIf_t, kIf_f, s_ifs, kFor_a, s_for, s_while, kRet_a, s_retE, s_retN, s_brk, s_cont, s_pass, bin_add, bin_sub, bin_mod, bin_mul, bin_div, bin_pow, bin_addS, bin_addL, bin_mulL, cmp_lt, cmp_le, cmp_gt, cmp_ge, cmp_eq, cmp_ne, cmp_in, cmp_ni, cmp_is, cmp_isn, cmpB_a, isN_n, isN_i, isN_t, isN_l, omap_s, obind_s, obind_n, negB_i, tru_b, tru_i, ixB_a, ix_l, ix_t, atI_0, atI_1, atI_2, atI_3, bi_len, bi_lenT, bi_int, bi_intB, bi_abs, bi_max, bi_min, bi_list, bi_repr, pt_i, slD_l, rev_l, itD_l, itD_t, enD_l, enD_t, zipD_l, lrD_i, getAll_n, kGetC_s, getAll_c, setSh_a, kSh_un, kSh_sh, kSh_ow, setAll_n, setAll_c, tgD_v, tgD_t0, tgD_tp, tgD_pp, st_n, kStO_un, kStO_sh, kStO_ow, st_o, st_s, ownD_a, kOwn_ow, kOwn_mp, ownL_a, kOwnL_l, setOwn_a, kSetO_ow, kSetO_mp, app_l, setD_l, kSetD_s, kCallF_t, kCallF_f, kCallN_ok, kCallK_ow, kCallK_mp, kCallL_ok, kCall1_n, kCall1_s, kCall2_s, noB_n, noB_v, noB_f, frz_n, frz_v, frz_f, frz_b, kFrz_ow, kFrz_sh, opdOf_t, opdOf_f, flat_l, flat_t, imm_i, imm_b, imm_s, imm_n, imm_t, imm_l, imms_n, imms_c, imms_ints, call_eq, kRet2_s, kRun_ok, ret_v, ret_f, ret_nx, kRetB_ow, ret_b, lent_n, kLent_mp, lent_s, for_n, ev_lc, ev_lc2, List.getElem?_cons_zero, List.getElem?_cons_succ, List.set_cons_zero, List.set_cons_succ, List.length_cons, List.length_nil, List.map_cons, List.map_nil, List.length_map, List.nil_append, List.cons_append, List.eraseIdx_cons_zero, List.eraseIdx_cons_succ, ite_true, ite_false, if_true, if_false, Bool.and_true, Bool.true_and, Bool.and_false, Bool.false_and, Bool.or_true, Bool.true_or, Bool.or_false, Bool.false_or, Bool.not_true, Bool.not_false, decide_true, decide_false, decide_eq_true_eq, Bool.and_eq_true, and_true, true_and, Bool.and_self, Bool.decide_eq_true, reduceIte, Nat.reduceAdd, Nat.reduceLeDiff, Nat.reduceLT, Nat.reduceEqDiff, Int.reduceLT, Int.reduceLE, Int.reduceNeg, Int.reduceToNat, Int.reduceEq, Bool.false_eq_true, eq_self, Nat.zero_add, Int.reduceAdd, Int.reduceSub, Int.reduceMul, Int.reducePow, le_sz0, le_sz1, le_sz2, le_sz3, le_sz4, le_sz5, le_sz6, Int.reduceGT, Int.reduceGE, Bool.cond_true, cond_false, wipeL_n, wipeL_c, backL_n, backL_c, clrL_n, clrL_c, kClr_un, kClr_sh, le_sz7, le_sz8, List.getD_cons_zero, List.getD_cons_succ, eqD_int, eqD_ints, inD_ints, eqD_nilI, eqD_nil0, eqD_str, isi_tt, isi_ll, isi_ii, isi_bi, bi_all, cut_1, rng_01, zip_ints, Int.cast_ofNat_Int, nc0, nc1, drop1_map, ixN_10, ixN_20, ixN_21, ixN_30, ixN_31, ixN_32])
local macro_rules | `(tactic| wide_line with ⟨$as,*⟩) => `(tactic| simp only [get_v, get_f, get_b, kGet_ow, kGet_mp, kGet_sh, esc_v, esc_f, esc_b, kEsc_ow, kEsc_sh, kOp2_ss, kOp1_s, of_s, of_n, bd_ok, bd_no, bd_ex, ev_int, ev_str, ev_bl, ev_non, ev_glob, ev_var, kVar_sh, kVar_ow, kVar_mp, kBinR_a, kBinL_a, ev_bin, kNeg_a, ev_neg, kNotR_a, kTru_s, kNot_a, ev_not, kCmpR_a, kCmpL_a, ev_cmp, kC2c_a, kAndR_t, kAndR_f, kAndR_ok, kOrR_f, kOrR_t, kOrR_ok, kC2t_a, kC2R_a, kC2L_a, ev_cmp2, kAnd_a, ev_and, kOr_a, ev_or, kSel_t, kSel_f, kSel_int, kSel_same, kIfeT_a, kIfe_a, ev_ife, kTup_a, kLst_a, ev_tup, ev_lst, kIxR_a, kIxL_a, ev_ix, kPt_a, kBound_t, kBound_f, kSlH_a, kSlL_a, kSl_a, ev_sl, kRev_a, ev_rev, kCall_a, pmut_n, ev_call, kBi_a, ev_bc, kMtR_a, kMt_a, ev_mth, kLrR_a, kLrL_a, ev_lrange, kPopR_s, kPop_a, kBack_a, kEsT_a, kEsD_a, kEs_a, es_n, es_c, kEsA_a, kEsS1_l, kEsS1_t, kEsS_a, es_s, kAsT_a, kAs_a, as_n, as_c, kItD_a, kIt_a, it_seq, it_enum, kZpE_a, kZpY_a, kZpD_a, kZp_a, it_zip, r1D_a, kR1_a, it_r1, r2D_a, kR2R_a, kR2L_a, it_r2, kOp3_s, kR3C_a, kR3R_a, kR3L_a, it_r3, kT_a, t_eq, lcC_t, lcC_f, kSs_nx, kSs_rt, kSs_bk, kSs_ct, ss_n, ss_c, kOw_un, kOw_sh, kOw_ow, kTgR_s, kTg_a, kAsgO_a, kAsg_a, s_asgO, s_asg, kStP_a, s_asgp, kPsT_a, kPsD_a, kPs_a, kPsO_a, ps_n, ps_f, ps_t, kSet3_s, kSet2_a, kSet1_a, kSet_a, s_setix, kAug3_s, kAug2_a, kAug_s, s_aug, kApp1_a, kApp_a, s_app, kExp_a, s_exp, kIf_t, kIf_f, s_ifs, kFor_a, s_for, s_while, kRet_a, s_retE, s_retN, s_brk, s_cont, s_pass, bin_add, bin_sub, bin_mod, bin_mul, bin_div, bin_pow, bin_addS, bin_addL, bin_mulL, cmp_lt, cmp_le, cmp_gt, cmp_ge, cmp_eq, cmp_ne, cmp_in, cmp_ni, cmp_is, cmp_isn, cmpB_a, isN_n, isN_i, isN_t, isN_l, omap_s, obind_s, obind_n, negB_i, tru_b, tru_i, ixB_a, ix_l, ix_t, atI_0, atI_1, atI_2, atI_3, bi_len, bi_lenT, bi_int, bi_intB, bi_abs, bi_max, bi_min, bi_list, bi_repr, pt_i, slD_l, rev_l, itD_l, itD_t, enD_l, enD_t, zipD_l, lrD_i, getAll_n, kGetC_s, getAll_c, setSh_a, kSh_un, kSh_sh, kSh_ow, setAll_n, setAll_c, tgD_v, tgD_t0, tgD_tp, tgD_pp, st_n, kStO_un, kStO_sh, kStO_ow, st_o, st_s, ownD_a, kOwn_ow, kOwn_mp, ownL_a, kOwnL_l, setOwn_a, kSetO_ow, kSetO_mp, app_l, setD_l, kSetD_s, kCallF_t, kCallF_f, kCallN_ok, kCallK_ow, kCallK_mp, kCallL_ok, kCall1_n, kCall1_s, kCall2_s, noB_n, noB_v, noB_f, frz_n, frz_v, frz_f, frz_b, kFrz_ow, kFrz_sh, opdOf_t, opdOf_f, flat_l, flat_t, imm_i, imm_b, imm_s, imm_n, imm_t, imm_l, imms_n, imms_c, imms_ints, call_eq, kRet2_s, kRun_ok, ret_v, ret_f, ret_nx, kRetB_ow, ret_b, lent_n, kLent_mp, lent_s, for_n, ev_lc, ev_lc2, List.getElem?_cons_zero, List.getElem?_cons_succ, List.set_cons_zero, List.set_cons_succ, List.length_cons, List.length_nil, List.map_cons, List.map_nil, List.length_map, List.nil_append, List.cons_append, List.eraseIdx_cons_zero, List.eraseIdx_cons_succ, ite_true, ite_false, if_true, if_false, Bool.and_true, Bool.true_and, Bool.and_false, Bool.false_and, Bool.or_true, Bool.true_or, Bool.or_false, Bool.false_or, Bool.not_true, Bool.not_false, decide_true, decide_false, decide_eq_true_eq, Bool.and_eq_true, and_true, true_and, Bool.and_self, Bool.decide_eq_true, reduceIte, Nat.reduceAdd, Nat.reduceLeDiff, Nat.reduceLT, Nat.reduceEqDiff, Int.reduceLT, Int.reduceLE, Int.reduceNeg, Int.reduceToNat, Int.reduceEq, Bool.false_eq_true, eq_self, Nat.zero_add, Int.reduceAdd, Int.reduceSub, Int.reduceMul, Int.reducePow, le_sz0, le_sz1, le_sz2, le_sz3, le_sz4, le_sz5, le_sz6, Int.reduceGT, Int.reduceGE, Bool.cond_true, cond_false, wipeL_n, wipeL_c, backL_n, backL_c, clrL_n, clrL_c, kClr_un, kClr_sh, le_sz7, le_sz8, List.getD_cons_zero, List.getD_cons_succ, eqD_int, eqD_ints, inD_ints, eqD_nilI, eqD_nil0, eqD_str, isi_tt, isi_ll, isi_ii, isi_bi, bi_all, cut_1, rng_01, zip_ints, Int.cast_ofNat_Int, nc0, nc1, drop1_map, ixN_10, ixN_20, ixN_21, ixN_30, ixN_31, ixN_32, $[$as:term],*])
/-! ### combs -/
abbrev Cm := Int × List Int
abbrev Dv := Cm × Cm
structure Cb (c : Cm) : Prop where
  p1 : 1 ≤ c.1
  p24 : c.1 ≤ 24
  ne : c.2 ≠ []
  asc : c.2.Pairwise (· < ·)
  lo : ∀ t ∈ c.2, 0 ≤ t
  hi : ∀ t ∈ c.2, t < c.1
structure DvOk (d : Dv) : Prop where
  g : Cb d.1
  c : Cb d.2
def lastI (l : List Int) : Int := l.getLastD 0
theorem last_mem {l : List Int} (h : l ≠ []) : lastI l ∈ l := by
  unfold lastI
  rw [List.getLastD_eq_getLast?, List.getLast?_eq_some_getLast h]
  exact List.getLast_mem h
theorem last_max : ∀ {l : List Int}, l.Pairwise (· < ·) → ∀ t ∈ l, t ≤ lastI l
  | [], _, t, h => by cases h
  | [a], _, t, h => by
    rw [List.mem_singleton] at h; subst h; exact Int.le_refl _
  | a :: b :: l, hp, t, h => by
    have e : lastI (a :: b :: l) = lastI (b :: l) := rfl
    rw [e]
    rcases List.mem_cons.mp h with rfl | h
    · have h1 := (List.pairwise_cons.mp hp).1 (lastI (b :: l)) (last_mem (by simp))
      omega
    · exact last_max (List.pairwise_cons.mp hp).2 t h
theorem atI_lastI {l : List Int} (h : l ≠ []) : atI (l.map D.int) (-1) = some (.int (lastI l)) := by
  have h' : l.map D.int ≠ [] := by simpa using h
  rw [atI_last h', List.getLast_map]
  unfold lastI
  rw [List.getLastD_eq_getLast?, List.getLast?_eq_some_getLast h]; rfl
def under (ts : List Int) (r : Int) : List Int := ts.filter fun t => decide (t ≤ r)
def below (c : Cm) (x : Int) : Int := x - x % c.1 + if under c.2 (x % c.1) = [] then lastI c.2 - c.1 else lastI (under c.2 (x % c.1))
theorem Cb.len {c : Cm} (h : Cb c) : c.2.length ≤ 24 := by
  have key : ∀ (l : List Int) (lo hi : Int), l.Pairwise (· < ·) → (∀ t ∈ l, lo ≤ t) → (∀ t ∈ l, t < hi) → lo ≤ hi → (l.length : Int) ≤ hi - lo := by
    intro l
    induction l with
    | nil => intro lo hi _ _ _ h; simp; omega
    | cons a l ih =>
      intro lo hi hp h1 h2 h3
      have ha := h1 a List.mem_cons_self
      have hb := h2 a List.mem_cons_self
      have := ih (a + 1) hi (List.pairwise_cons.mp hp).2 (fun t ht => (List.pairwise_cons.mp hp).1 t ht) (fun t ht => h2 t (List.mem_cons_of_mem _ ht)) (by omega)
      rw [List.length_cons]; omega
  have := key c.2 0 c.1 h.asc h.lo h.hi (by have := h.p1; omega)
  have := h.p24
  omega
theorem Cb.pos {c : Cm} (h : Cb c) : 0 < c.1 := by have := h.p1; omega
/-- the greatest catch that is not greater -/
structure IsBelow (c : Cm) (x y : Int) : Prop where
  le : y ≤ x
  at_ : y % c.1 ∈ c.2
  top : ∀ z, z ≤ x → z % c.1 ∈ c.2 → z ≤ y
theorem IsBelow.uniq {c : Cm} {x y z : Int} (h : IsBelow c x y) (h' : IsBelow c x z) : y = z := by
  have h1 := h.top z h'.le h'.at_
  have h2 := h'.top y h.le h.at_
  omega
theorem below_is {c : Cm} (h : Cb c) (x : Int) : IsBelow c x (below c x) ∧ x - below c x < c.1 := by
  have hp := h.pos
  have hr0 := Int.emod_nonneg x (by omega : c.1 ≠ 0)
  have hr1 := Int.emod_lt_of_pos x hp
  have hx := Int.emod_add_mul_ediv x c.1
  have hmod : ∀ q t : Int, 0 ≤ t → t < c.1 → (c.1 * q + t) % c.1 = t := fun q t h0 h1 => by
    rw [Int.mul_add_emod_self_left]; exact Int.emod_eq_of_lt h0 h1
  have hz : ∀ z, z % c.1 ∈ c.2 → ∃ q t, z = c.1 * q + t ∧ t ∈ c.2 := fun z hz => ⟨z / c.1, z % c.1, by have := Int.emod_add_mul_ediv z c.1; omega, hz⟩
  unfold below
  by_cases hu : under c.2 (x % c.1) = []
  · rw [if_pos hu]
    have ho : ∀ t ∈ c.2, x % c.1 < t := fun t ht => by
      by_cases hc : t ≤ x % c.1
      · have : t ∈ under c.2 (x % c.1) := List.mem_filter.mpr ⟨ht, decide_eq_true hc⟩
        rw [hu] at this; cases this
      · omega
    have hl := last_mem h.ne
    have hl0 := h.lo _ hl
    have hl1 := h.hi _ hl
    have hlr := ho _ hl
    have e : x - x % c.1 + (lastI c.2 - c.1) = c.1 * (x / c.1 - 1) + lastI c.2 := by rw [Int.mul_sub]; omega
    refine ⟨⟨by omega, by rw [e, hmod _ _ hl0 hl1]; exact hl, fun z hzx hzm => ?_⟩, by omega⟩
    obtain ⟨q, t, rfl, ht⟩ := hz z hzm
    have ht0 := h.lo t ht
    have ht1 := h.hi t ht
    have htl := last_max h.asc t ht
    have htr := ho t ht
    rw [e]
    have hq : q ≤ x / c.1 - 1 := by
      by_cases hq : q ≤ x / c.1 - 1
      · exact hq
      · exfalso
        have : c.1 * (x / c.1) ≤ c.1 * q := Int.mul_le_mul_of_nonneg_left (by omega) (by omega)
        omega
    have : c.1 * q ≤ c.1 * (x / c.1 - 1) := Int.mul_le_mul_of_nonneg_left hq (by omega)
    omega
  · rw [if_neg hu]
    have hl := last_mem hu
    obtain ⟨hl2, hl3⟩ := List.mem_filter.mp hl
    have hl3 := of_decide_eq_true hl3
    have hl0 := h.lo _ hl2
    have hl1 := h.hi _ hl2
    have e : x - x % c.1 + lastI (under c.2 (x % c.1)) = c.1 * (x / c.1) + lastI (under c.2 (x % c.1)) := by omega
    refine ⟨⟨by omega, by rw [e, hmod _ _ hl0 hl1]; exact hl2, fun z hzx hzm => ?_⟩, by omega⟩
    obtain ⟨q, t, rfl, ht⟩ := hz z hzm
    have ht0 := h.lo t ht
    have ht1 := h.hi t ht
    rw [e]
    have hq : q ≤ x / c.1 := by
      by_cases hq : q ≤ x / c.1
      · exact hq
      · exfalso
        have : c.1 * (x / c.1 + 1) ≤ c.1 * q := Int.mul_le_mul_of_nonneg_left (by omega) (by omega)
        rw [Int.mul_add] at this
        omega
    by_cases hq2 : q = x / c.1
    · subst hq2
      have : t ∈ under c.2 (x % c.1) := List.mem_filter.mpr ⟨ht, decide_eq_true (by omega)⟩
      have : t ≤ lastI (under c.2 (x % c.1)) := last_max (h.asc.sublist List.filter_sublist) t this
      omega
    · have : c.1 * q ≤ c.1 * (x / c.1 - 1) := Int.mul_le_mul_of_nonneg_left (by omega) (by omega)
      rw [Int.mul_sub] at this
      omega
theorem below_le {c : Cm} (h : Cb c) (x : Int) : below c x ≤ x ∧ x - below c x < c.1 := ⟨(below_is h x).1.le, (below_is h x).2⟩
theorem below_shift (c : Cm) (x k : Int) : below c (x + c.1 * k) = below c x + c.1 * k := by
  unfold below
  rw [Int.add_mul_emod_self_left]
  omega
/-! ### one move -/
def mx (i j : Int) : Int := if j > i then j else i
theorem mx_eq (i j : Int) : mx i j = max i j := by unfold mx; split <;> omega
def mvd (d : Dv) (h k m : Int) : Int × Int := if 0 < m then (mx (h - k - m) (below d.2 (h - k)) + k + m, k + m) else (mx (h + m) (below d.1 h), k + m)
theorem mvd_snd (d : Dv) (h k m : Int) : (mvd d h k m).2 = k + m := by unfold mvd; split <;> rfl
theorem en_dv (d : Dv) : en d = .tup [en d.1, en d.2] := (rfl)
theorem en_cm (c : Cm) : en c = .tup [.int c.1, .lst (c.2.map .int)] := (rfl)
theorem en_ii (p : Int × Int) : en p = .tup [.int p.1, .int p.2] := (rfl)
section
variable {T : List (Nat × Df)}
theorem r_below_at [H_below_at T] (n : Nat) (c : Cm) (x : Int) (h : Cb c) : (fns T (n + 1) 24).run [en c, .int x] = .ok (.int (below c x)) none := by
  obtain ⟨p, ts⟩ := c
  have hp : 0 < p := h.pos
  have hn : ts ≠ [] := h.ne
  rw [v_below_at, b_below_at]
  wide_line with ⟨hp, en_pair, en_lst, en_int, en_intf⟩
  rw [lc_map D.int (fun t => decide (t ≤ x % p)) D.int rfl ts (le_sz (by have := h.len; simp only at this; omega)) (fun t _ => by
    refine ⟨_, rfl, ?_⟩
    refine ⟨by rw [c_below_at_1]; walk_at "tw", rfl, rfl, fun _ => ?_⟩
    rw [e_below_at_1]; exact ⟨_, rfl, rfl⟩)]
  unfold below
  rw [show (List.filter (fun t => decide (t ≤ x % p)) ts) = under ts (x % p) from rfl]
  by_cases hu : under ts (x % p) = []
  · wide_line with ⟨hu, atI_lastI hn⟩
  · wide_line with ⟨hu, atI_lastI hu⟩
/-- both moves -/
theorem r_moved_by [H_moved_by T] (n : Nat) (d : Dv) (h k m : Int) (hd : DvOk d) : (fns T (n + 2) 48).run [en d, .int h, .int k, .int m] = .ok (en (mvd d h k m)) none := by
  rw [v_moved_by, b_moved_by]
  unfold mvd mx
  by_cases hm : 0 < m
  · wide_line with ⟨hm, en_dv, en_ii, r_below_at (T := T) n d.2 (h - k) hd.c⟩
  · wide_line with ⟨hm, en_dv, en_ii, r_below_at (T := T) n d.1 h hd.g⟩
theorem r_rise_of [H_rise_of T] (n : Nat) (d : Dv) (h k m : Int) (hd : DvOk d) : (fns T (n + 3) 290).run [en d, .int h, .int k, .int m] = .ok (.int ((mvd d h k m).1 - h)) none := by
  rw [v_rise_of, b_rise_of]
  wide_line with ⟨en_ii, r_moved_by (T := T) n d h k m hd⟩
/-! ### kinds of values -/
theorem isiOk_int (i : Int) : isiOk (.int i) = true := (rfl)
theorem r_is_integer [H_is_integer T] (n : Nat) (i : Int) : (fns T (n + 1) 6).run [.int i] = .ok (.bl true) none := by
  rw [v_is_integer, b_is_integer]
  walk_at "tw"

theorem r_is_at_least [H_is_at_least T] (n : Nat) (i l : Int) : (fns T (n + 2) 7).run [.int i, .int l] = .ok (.bl (decide (l ≤ i))) none := by
  rw [v_is_at_least, b_is_at_least]
  wide_line with ⟨r_is_integer (T := T) n i⟩
theorem r_is_move [H_is_move T] (n : Nat) (i : Int) : (fns T (n + 2) 49).run [.int i] = .ok (.bl (!decide (i = 0))) none := by
  rw [v_is_move, b_is_move]
  wide_line with ⟨r_is_integer (T := T) n i⟩
end
end TW.P
end
/-! P4 -/
section
set_option Elab.async false
set_option linter.all false
set_option maxRecDepth 100000
set_option maxHeartbeats 4000000
set_option autoImplicit false
/-! TW, plain part 4: devices judged, looks told back. -/
namespace TW.P
open PySem PySem.Spec L2
open PyProof.Rows hiding St
open Code (en)
local macro_rules | `(tactic| walk_at "tw") => `(tactic| simp only [get_v, get_f, get_b, kGet_ow, kGet_mp, kGet_sh, esc_v, esc_f, esc_b, kEsc_ow, kEsc_sh, kOp2_ss, kOp1_s, of_s, of_n, bd_ok, bd_no, bd_ex, ev_int, ev_str, ev_bl, ev_non, ev_glob, ev_var, kVar_sh, kVar_ow, kVar_mp, kBinR_a, kBinL_a, ev_bin, kNeg_a, ev_neg, kNotR_a, kTru_s, kNot_a, ev_not, kCmpR_a, kCmpL_a, ev_cmp, kC2c_a, kAndR_t, kAndR_f, kAndR_ok, kOrR_f, kOrR_t, kOrR_ok, kC2t_a, kC2R_a, kC2L_a, ev_cmp2, kAnd_a, ev_and, kOr_a, ev_or, kSel_t, kSel_f, kSel_int, kSel_same, kIfeT_a, kIfe_a, ev_ife, kTup_a, kLst_a, ev_tup, ev_lst, kIxR_a, kIxL_a, ev_ix, kPt_a, kBound_t, kBound_f, kSlH_a, kSlL_a, kSl_a, ev_sl, kRev_a, ev_rev, kCall_a, pmut_n, ev_call, kBi_a, ev_bc, kMtR_a, kMt_a, ev_mth, kLrR_a, kLrL_a, ev_lrange, kPopR_s, kPop_a, kBack_a, kEsT_a, kEsD_a, kEs_a, es_n, es_c, kEsA_a, kEsS1_l, kEsS1_t, kEsS_a, es_s, kAsT_a, kAs_a, as_n, as_c, kItD_a, kIt_a, it_seq, it_enum, kZpE_a, kZpY_a, kZpD_a, kZp_a, it_zip, r1D_a, kR1_a, it_r1, r2D_a, kR2R_a, kR2L_a, it_r2, kOp3_s, kR3C_a, kR3R_a, kR3L_a, it_r3, kT_a, t_eq, lcC_t, lcC_f, kSs_nx, kSs_rt, kSs_bk, kSs_ct, ss_n, ss_c, kOw_un, kOw_sh, kOw_ow, kTgR_s, kTg_a, kAsgO_a, kAsg_a, s_asgO, s_asg, kStP_a, s_asgp, kPsT_a, kPsD_a, kPs_a, kPsO_a, ps_n, ps_f, ps_t, kSet3_s, kSet2_a, kSet1_a, kSet_a, s_setix, kAug3_s, kAug2_a, kAug_s, s_aug, kApp1_a, kApp_a, s_app, kExp_a, s_exp, kIf_t, kIf_f, s_ifs, kFor_a, s_for, s_while, kRet_a, s_retE, s_retN, s_brk, s_cont, s_pass, bin_add, bin_sub, bin_mod, bin_mul, bin_div, bin_pow, bin_addS, bin_addL, bin_mulL, cmp_lt, cmp_le, cmp_gt, cmp_ge, cmp_eq, cmp_ne, cmp_in, cmp_ni, cmp_is, cmp_isn, cmpB_a, isN_n, isN_i, isN_t, isN_l, omap_s, obind_s, obind_n, negB_i, tru_b, tru_i, ixB_a, ix_l, ix_t, atI_0, atI_1, atI_2, atI_3, bi_len, bi_lenT, bi_int, bi_intB, bi_abs, bi_max, bi_min, bi_list, bi_repr, pt_i, slD_l, rev_l, itD_l, itD_t, enD_l, enD_t, zipD_l, lrD_i, getAll_n, kGetC_s, getAll_c, setSh_a, kSh_un, kSh_sh, kSh_ow, setAll_n, setAll_c, tgD_v, tgD_t0, tgD_tp, tgD_pp, st_n, kStO_un, kStO_sh, kStO_ow, st_o, st_s, ownD_a, kOwn_ow, kOwn_mp, ownL_a, kOwnL_l, setOwn_a, kSetO_ow, kSetO_mp, app_l, setD_l, kSetD_s, kCallF_t, kCallF_f, kCallN_ok, kCallK_ow, kCallK_mp, kCallL_ok, kCall1_n, kCall1_s, kCall2_s, noB_n, noB_v, noB_f, frz_n, frz_v, frz_f, frz_b, kFrz_ow, kFrz_sh, opdOf_t, opdOf_f, flat_l, flat_t, imm_i, imm_b, imm_s, imm_n, imm_t, imm_l, imms_n, imms_c, imms_ints, call_eq, kRet2_s, kRun_ok, ret_v, ret_f, ret_nx, kRetB_ow, ret_b, lent_n, kLent_mp, lent_s, for_n, ev_lc, ev_lc2, List.getElem?_cons_zero, List.getElem?_cons_succ, List.set_cons_zero, List.set_cons_succ, List.length_cons, List.length_nil, List.map_cons, List.map_nil, List.length_map, List.nil_append, List.cons_append, List.eraseIdx_cons_zero, List.eraseIdx_cons_succ, ite_true, ite_false, if_true, if_false, Bool.and_true, Bool.true_and, Bool.and_false, Bool.false_and, Bool.or_true, Bool.true_or, Bool.or_false, Bool.false_or, Bool.not_true, Bool.not_false, decide_true, decide_false, decide_eq_true_eq, Bool.and_eq_true, and_true, true_and, Bool.and_self, Bool.decide_eq_true, reduceIte, Nat.reduceAdd, Nat.reduceLeDiff, Nat.reduceLT, Nat.reduceEqDiff, Int.reduceLT, Int.reduceLE, Int.reduceNeg, Int.reduceToNat, Int.reduceEq, Bool.false_eq_true, eq_self, Nat.zero_add, Int.reduceAdd, Int.reduceSub, Int.reduceMul, Int.reducePow, le_sz0, le_sz1, le_sz2, le_sz3, le_sz4, le_sz5, le_sz6, Int.reduceGT, Int.reduceGE, Bool.cond_true, cond_false, wipeL_n, wipeL_c, backL_n, backL_c, clrL_n, clrL_c, kClr_un, kClr_sh, le_sz7, le_sz8, List.getD_cons_zero, List.getD_cons_succ, eqD_int, eqD_ints, inD_ints, eqD_nilI, eqD_nil0, eqD_str, isi_tt, isi_ll, isi_ii, isi_bi, bi_all, cut_1, rng_01, zip_ints, Int.cast_ofNat_Int, nc0, nc1, drop1_map, ixN_10, ixN_20, ixN_21, ixN_30, ixN_31, ixN_32])
local macro_rules | `(tactic| wide_line with ⟨$as,*⟩) => `(tactic| simp only [get_v, get_f, get_b, kGet_ow, kGet_mp, kGet_sh, esc_v, esc_f, esc_b, kEsc_ow, kEsc_sh, kOp2_ss, kOp1_s, of_s, of_n, bd_ok, bd_no, bd_ex, ev_int, ev_str, ev_bl, ev_non, ev_glob, ev_var, kVar_sh, kVar_ow, kVar_mp, kBinR_a, kBinL_a, ev_bin, kNeg_a, ev_neg, kNotR_a, kTru_s, kNot_a, ev_not, kCmpR_a, kCmpL_a, ev_cmp, kC2c_a, kAndR_t, kAndR_f, kAndR_ok, kOrR_f, kOrR_t, kOrR_ok, kC2t_a, kC2R_a, kC2L_a, ev_cmp2, kAnd_a, ev_and, kOr_a, ev_or, kSel_t, kSel_f, kSel_int, kSel_same, kIfeT_a, kIfe_a, ev_ife, kTup_a, kLst_a, ev_tup, ev_lst, kIxR_a, kIxL_a, ev_ix, kPt_a, kBound_t, kBound_f, kSlH_a, kSlL_a, kSl_a, ev_sl, kRev_a, ev_rev, kCall_a, pmut_n, ev_call, kBi_a, ev_bc, kMtR_a, kMt_a, ev_mth, kLrR_a, kLrL_a, ev_lrange, kPopR_s, kPop_a, kBack_a, kEsT_a, kEsD_a, kEs_a, es_n, es_c, kEsA_a, kEsS1_l, kEsS1_t, kEsS_a, es_s, kAsT_a, kAs_a, as_n, as_c, kItD_a, kIt_a, it_seq, it_enum, kZpE_a, kZpY_a, kZpD_a, kZp_a, it_zip, r1D_a, kR1_a, it_r1, r2D_a, kR2R_a, kR2L_a, it_r2, kOp3_s, kR3C_a, kR3R_a, kR3L_a, it_r3, kT_a, t_eq, lcC_t, lcC_f, kSs_nx, kSs_rt, kSs_bk, kSs_ct, ss_n, ss_c, kOw_un, kOw_sh, kOw_ow, kTgR_s, kTg_a, kAsgO_a, kAsg_a, s_asgO, s_asg, kStP_a, s_asgp, kPsT_a, kPsD_a, kPs_a, kPsO_a, ps_n, ps_f, ps_t, kSet3_s, kSet2_a, kSet1_a, kSet_a, s_setix, kAug3_s, kAug2_a, kAug_s, s_aug, kApp1_a, kApp_a, s_app, kExp_a, s_exp, kIf_t, kIf_f, s_ifs, kFor_a, s_for, s_while, kRet_a, s_retE, s_retN, s_brk, s_cont, s_pass, bin_add, bin_sub, bin_mod, bin_mul, bin_div, bin_pow, bin_addS, bin_addL, bin_mulL, cmp_lt, cmp_le, cmp_gt, cmp_ge, cmp_eq, cmp_ne, cmp_in, cmp_ni, cmp_is, cmp_isn, cmpB_a, isN_n, isN_i, isN_t, isN_l, omap_s, obind_s, obind_n, negB_i, tru_b, tru_i, ixB_a, ix_l, ix_t, atI_0, atI_1, atI_2, atI_3, bi_len, bi_lenT, bi_int, bi_intB, bi_abs, bi_max, bi_min, bi_list, bi_repr, pt_i, slD_l, rev_l, itD_l, itD_t, enD_l, enD_t, zipD_l, lrD_i, getAll_n, kGetC_s, getAll_c, setSh_a, kSh_un, kSh_sh, kSh_ow, setAll_n, setAll_c, tgD_v, tgD_t0, tgD_tp, tgD_pp, st_n, kStO_un, kStO_sh, kStO_ow, st_o, st_s, ownD_a, kOwn_ow, kOwn_mp, ownL_a, kOwnL_l, setOwn_a, kSetO_ow, kSetO_mp, app_l, setD_l, kSetD_s, kCallF_t, kCallF_f, kCallN_ok, kCallK_ow, kCallK_mp, kCallL_ok, kCall1_n, kCall1_s, kCall2_s, noB_n, noB_v, noB_f, frz_n, frz_v, frz_f, frz_b, kFrz_ow, kFrz_sh, opdOf_t, opdOf_f, flat_l, flat_t, imm_i, imm_b, imm_s, imm_n, imm_t, imm_l, imms_n, imms_c, imms_ints, call_eq, kRet2_s, kRun_ok, ret_v, ret_f, ret_nx, kRetB_ow, ret_b, lent_n, kLent_mp, lent_s, for_n, ev_lc, ev_lc2, List.getElem?_cons_zero, List.getElem?_cons_succ, List.set_cons_zero, List.set_cons_succ, List.length_cons, List.length_nil, List.map_cons, List.map_nil, List.length_map, List.nil_append, List.cons_append, List.eraseIdx_cons_zero, List.eraseIdx_cons_succ, ite_true, ite_false, if_true, if_false, Bool.and_true, Bool.true_and, Bool.and_false, Bool.false_and, Bool.or_true, Bool.true_or, Bool.or_false, Bool.false_or, Bool.not_true, Bool.not_false, decide_true, decide_false, decide_eq_true_eq, Bool.and_eq_true, and_true, true_and, Bool.and_self, Bool.decide_eq_true, reduceIte, Nat.reduceAdd, Nat.reduceLeDiff, Nat.reduceLT, Nat.reduceEqDiff, Int.reduceLT, Int.reduceLE, Int.reduceNeg, Int.reduceToNat, Int.reduceEq, Bool.false_eq_true, eq_self, Nat.zero_add, Int.reduceAdd, Int.reduceSub, Int.reduceMul, Int.reducePow, le_sz0, le_sz1, le_sz2, le_sz3, le_sz4, le_sz5, le_sz6, Int.reduceGT, Int.reduceGE, Bool.cond_true, cond_false, wipeL_n, wipeL_c, backL_n, backL_c, clrL_n, clrL_c, kClr_un, kClr_sh, le_sz7, le_sz8, List.getD_cons_zero, List.getD_cons_succ, eqD_int, eqD_ints, inD_ints, eqD_nilI, eqD_nil0, eqD_str, isi_tt, isi_ll, isi_ii, isi_bi, bi_all, cut_1, rng_01, zip_ints, Int.cast_ofNat_Int, nc0, nc1, drop1_map, ixN_10, ixN_20, ixN_21, ixN_30, ixN_31, ixN_32, $[$as:term],*])
theorem Cb.steps {c : Cm} (h : Cb c) : ((c.2.zip (c.2.drop 1)).all fun p => decide (p.1 < p.2)) = true := by
  have key : ∀ l : List Int, l.Pairwise (· < ·) → ((l.zip (l.drop 1)).all fun p => decide (p.1 < p.2)) = true := by
    intro l
    induction l with
    | nil => intro _; rfl
    | cons a l ih =>
      intro hp
      cases l with
      | nil => rfl
      | cons b l =>
        have h1 := (List.pairwise_cons.mp hp).1 b List.mem_cons_self
        have h2 := ih (List.pairwise_cons.mp hp).2
        show (decide (a < b) && (((b :: l).zip ((b :: l).drop 1)).all fun p => decide (p.1 < p.2))) = true
        rw [h2, decide_eq_true h1]; rfl
  exact key c.2 h.asc
theorem and_tt {a b : Bool} (h1 : a = true) (h2 : b = true) : (a && b) = true := by rw [h1, h2]; rfl
section
variable {T : List (Nat × Df)}
theorem r_comb_fault [H_comb_fault T] (n : Nat) (c : Cm) (h : Cb c) : (fns T (n + 3) 8).run [en c] = .ok (.tup []) none := by
  rw [v_comb_fault, b_comb_fault]
  have h1 := h.p1
  have h2 : ¬ (24 < c.1) := by have := h.p24; omega
  have hn := h.ne
  have hz : c.2.length ≤ sizeLine := le_sz (by have := h.len; omega)
  wide_line with ⟨en_cm, r_is_at_least (T := T) n c.1 1, h1, h2, hn⟩
  rw [lc_mapN D.int (fun t => .bl (decide (0 ≤ t))) rfl c.2 hz (fun t _ => by
    refine ⟨_, rfl, rfl, rfl, ?_⟩
    refine ⟨.v (.bl (decide (0 ≤ t))), ?_, rfl⟩
    rw [e_comb_fault_2]
    wide_line with ⟨r_is_at_least (T := T) n t 0⟩)]
  have h3 : (c.2.all fun t => decide (0 ≤ t)) = true := by
    rw [List.all_eq_true]; intro t ht; exact decide_eq_true (h.lo t ht)
  have h4 : lastI c.2 < c.1 := h.hi _ (last_mem hn)
  wide_line with ⟨h3, atI_lastI hn, h4⟩
  rw [lc_mapN (fun p : Int × Int => .tup [.int p.1, .int p.2]) (fun p => .bl (decide (p.1 < p.2))) rfl (c.2.zip (c.2.drop 1)) (Nat.le_trans (by rw [List.length_zip]; exact Nat.min_le_left _ _) hz) (fun p _ => by
    refine ⟨_, rfl, rfl, rfl, ?_⟩
    refine ⟨.v (.bl (decide (p.1 < p.2))), ?_, rfl⟩
    rw [e_comb_fault_1]
    walk_at "tw")]
  wide_line with ⟨h.steps⟩
theorem eqD_t0 : eqD (.tup []) (.tup []) = some true := by
  have h : (D.tup []).py = some (.tuple []) := by
    show (D.pys []).map PyData.tuple = _
    rw [D.pys]; rfl
  have s : shp (.tuple []) = true := shp_any (by rw [PyData.plain, PyData.plainAll]) (by rw [PyData.depth, PyData.depthAll]; omega)
  unfold eqD
  rw [h]
  simp only [s, Bool.and_self, if_true, PyData.eqv, PyData.eqvAll]
theorem r_device_fault [H_device_fault T] (n : Nat) (d : Dv) (h : DvOk d) : (fns T (n + 4) 9).run [en d] = .ok (.tup []) none := by
  rw [v_device_fault, b_device_fault]
  wide_line with ⟨en_dv⟩
  simp only [enumD, forL, l_device_fault_1]
  wide_line with ⟨r_comb_fault (T := T) n d.1 h.g, r_comb_fault (T := T) n d.2 h.c, eqD_t0⟩
theorem r_require_device [H_require_device T] (n : Nat) (d : Dv) (h : DvOk d) : (fns T (n + 5) 52).run [en d] = .ok .non none := by
  rw [v_require_device, b_require_device]
  wide_line with ⟨r_device_fault (T := T) n d h, eqD_t0⟩
end
end TW.P
end
/-! P5 -/
section
set_option Elab.async false
set_option linter.all false
set_option maxRecDepth 100000
set_option maxHeartbeats 4000000
set_option autoImplicit false
/-! TW, plain part 5: starts and looks. -/
namespace TW.P
open PySem PySem.Spec L2
open PyProof.Rows hiding St
open Code (en)
local macro_rules | `(tactic| walk_at "tw") => `(tactic| simp only [get_v, get_f, get_b, kGet_ow, kGet_mp, kGet_sh, esc_v, esc_f, esc_b, kEsc_ow, kEsc_sh, kOp2_ss, kOp1_s, of_s, of_n, bd_ok, bd_no, bd_ex, ev_int, ev_str, ev_bl, ev_non, ev_glob, ev_var, kVar_sh, kVar_ow, kVar_mp, kBinR_a, kBinL_a, ev_bin, kNeg_a, ev_neg, kNotR_a, kTru_s, kNot_a, ev_not, kCmpR_a, kCmpL_a, ev_cmp, kC2c_a, kAndR_t, kAndR_f, kAndR_ok, kOrR_f, kOrR_t, kOrR_ok, kC2t_a, kC2R_a, kC2L_a, ev_cmp2, kAnd_a, ev_and, kOr_a, ev_or, kSel_t, kSel_f, kSel_int, kSel_same, kIfeT_a, kIfe_a, ev_ife, kTup_a, kLst_a, ev_tup, ev_lst, kIxR_a, kIxL_a, ev_ix, kPt_a, kBound_t, kBound_f, kSlH_a, kSlL_a, kSl_a, ev_sl, kRev_a, ev_rev, kCall_a, pmut_n, ev_call, kBi_a, ev_bc, kMtR_a, kMt_a, ev_mth, kLrR_a, kLrL_a, ev_lrange, kPopR_s, kPop_a, kBack_a, kEsT_a, kEsD_a, kEs_a, es_n, es_c, kEsA_a, kEsS1_l, kEsS1_t, kEsS_a, es_s, kAsT_a, kAs_a, as_n, as_c, kItD_a, kIt_a, it_seq, it_enum, kZpE_a, kZpY_a, kZpD_a, kZp_a, it_zip, r1D_a, kR1_a, it_r1, r2D_a, kR2R_a, kR2L_a, it_r2, kOp3_s, kR3C_a, kR3R_a, kR3L_a, it_r3, kT_a, t_eq, lcC_t, lcC_f, kSs_nx, kSs_rt, kSs_bk, kSs_ct, ss_n, ss_c, kOw_un, kOw_sh, kOw_ow, kTgR_s, kTg_a, kAsgO_a, kAsg_a, s_asgO, s_asg, kStP_a, s_asgp, kPsT_a, kPsD_a, kPs_a, kPsO_a, ps_n, ps_f, ps_t, kSet3_s, kSet2_a, kSet1_a, kSet_a, s_setix, kAug3_s, kAug2_a, kAug_s, s_aug, kApp1_a, kApp_a, s_app, kExp_a, s_exp, kIf_t, kIf_f, s_ifs, kFor_a, s_for, s_while, kRet_a, s_retE, s_retN, s_brk, s_cont, s_pass, bin_add, bin_sub, bin_mod, bin_mul, bin_div, bin_pow, bin_addS, bin_addL, bin_mulL, cmp_lt, cmp_le, cmp_gt, cmp_ge, cmp_eq, cmp_ne, cmp_in, cmp_ni, cmp_is, cmp_isn, cmpB_a, isN_n, isN_i, isN_t, isN_l, omap_s, obind_s, obind_n, negB_i, tru_b, tru_i, ixB_a, ix_l, ix_t, atI_0, atI_1, atI_2, atI_3, bi_len, bi_lenT, bi_int, bi_intB, bi_abs, bi_max, bi_min, bi_list, bi_repr, pt_i, slD_l, rev_l, itD_l, itD_t, enD_l, enD_t, zipD_l, lrD_i, getAll_n, kGetC_s, getAll_c, setSh_a, kSh_un, kSh_sh, kSh_ow, setAll_n, setAll_c, tgD_v, tgD_t0, tgD_tp, tgD_pp, st_n, kStO_un, kStO_sh, kStO_ow, st_o, st_s, ownD_a, kOwn_ow, kOwn_mp, ownL_a, kOwnL_l, setOwn_a, kSetO_ow, kSetO_mp, app_l, setD_l, kSetD_s, kCallF_t, kCallF_f, kCallN_ok, kCallK_ow, kCallK_mp, kCallL_ok, kCall1_n, kCall1_s, kCall2_s, noB_n, noB_v, noB_f, frz_n, frz_v, frz_f, frz_b, kFrz_ow, kFrz_sh, opdOf_t, opdOf_f, flat_l, flat_t, imm_i, imm_b, imm_s, imm_n, imm_t, imm_l, imms_n, imms_c, imms_ints, call_eq, kRet2_s, kRun_ok, ret_v, ret_f, ret_nx, kRetB_ow, ret_b, lent_n, kLent_mp, lent_s, for_n, ev_lc, ev_lc2, List.getElem?_cons_zero, List.getElem?_cons_succ, List.set_cons_zero, List.set_cons_succ, List.length_cons, List.length_nil, List.map_cons, List.map_nil, List.length_map, List.nil_append, List.cons_append, List.eraseIdx_cons_zero, List.eraseIdx_cons_succ, ite_true, ite_false, if_true, if_false, Bool.and_true, Bool.true_and, Bool.and_false, Bool.false_and, Bool.or_true, Bool.true_or, Bool.or_false, Bool.false_or, Bool.not_true, Bool.not_false, decide_true, decide_false, decide_eq_true_eq, Bool.and_eq_true, and_true, true_and, Bool.and_self, Bool.decide_eq_true, reduceIte, Nat.reduceAdd, Nat.reduceLeDiff, Nat.reduceLT, Nat.reduceEqDiff, Int.reduceLT, Int.reduceLE, Int.reduceNeg, Int.reduceToNat, Int.reduceEq, Bool.false_eq_true, eq_self, Nat.zero_add, Int.reduceAdd, Int.reduceSub, Int.reduceMul, Int.reducePow, le_sz0, le_sz1, le_sz2, le_sz3, le_sz4, le_sz5, le_sz6, Int.reduceGT, Int.reduceGE, Bool.cond_true, cond_false, wipeL_n, wipeL_c, backL_n, backL_c, clrL_n, clrL_c, kClr_un, kClr_sh, le_sz7, le_sz8, List.getD_cons_zero, List.getD_cons_succ, eqD_int, eqD_ints, inD_ints, eqD_nilI, eqD_nil0, eqD_str, isi_tt, isi_ll, isi_ii, isi_bi, bi_all, cut_1, rng_01, zip_ints, Int.cast_ofNat_Int, nc0, nc1, drop1_map, ixN_10, ixN_20, ixN_21, ixN_30, ixN_31, ixN_32])
local macro_rules | `(tactic| wide_line with ⟨$as,*⟩) => `(tactic| simp only [get_v, get_f, get_b, kGet_ow, kGet_mp, kGet_sh, esc_v, esc_f, esc_b, kEsc_ow, kEsc_sh, kOp2_ss, kOp1_s, of_s, of_n, bd_ok, bd_no, bd_ex, ev_int, ev_str, ev_bl, ev_non, ev_glob, ev_var, kVar_sh, kVar_ow, kVar_mp, kBinR_a, kBinL_a, ev_bin, kNeg_a, ev_neg, kNotR_a, kTru_s, kNot_a, ev_not, kCmpR_a, kCmpL_a, ev_cmp, kC2c_a, kAndR_t, kAndR_f, kAndR_ok, kOrR_f, kOrR_t, kOrR_ok, kC2t_a, kC2R_a, kC2L_a, ev_cmp2, kAnd_a, ev_and, kOr_a, ev_or, kSel_t, kSel_f, kSel_int, kSel_same, kIfeT_a, kIfe_a, ev_ife, kTup_a, kLst_a, ev_tup, ev_lst, kIxR_a, kIxL_a, ev_ix, kPt_a, kBound_t, kBound_f, kSlH_a, kSlL_a, kSl_a, ev_sl, kRev_a, ev_rev, kCall_a, pmut_n, ev_call, kBi_a, ev_bc, kMtR_a, kMt_a, ev_mth, kLrR_a, kLrL_a, ev_lrange, kPopR_s, kPop_a, kBack_a, kEsT_a, kEsD_a, kEs_a, es_n, es_c, kEsA_a, kEsS1_l, kEsS1_t, kEsS_a, es_s, kAsT_a, kAs_a, as_n, as_c, kItD_a, kIt_a, it_seq, it_enum, kZpE_a, kZpY_a, kZpD_a, kZp_a, it_zip, r1D_a, kR1_a, it_r1, r2D_a, kR2R_a, kR2L_a, it_r2, kOp3_s, kR3C_a, kR3R_a, kR3L_a, it_r3, kT_a, t_eq, lcC_t, lcC_f, kSs_nx, kSs_rt, kSs_bk, kSs_ct, ss_n, ss_c, kOw_un, kOw_sh, kOw_ow, kTgR_s, kTg_a, kAsgO_a, kAsg_a, s_asgO, s_asg, kStP_a, s_asgp, kPsT_a, kPsD_a, kPs_a, kPsO_a, ps_n, ps_f, ps_t, kSet3_s, kSet2_a, kSet1_a, kSet_a, s_setix, kAug3_s, kAug2_a, kAug_s, s_aug, kApp1_a, kApp_a, s_app, kExp_a, s_exp, kIf_t, kIf_f, s_ifs, kFor_a, s_for, s_while, kRet_a, s_retE, s_retN, s_brk, s_cont, s_pass, bin_add, bin_sub, bin_mod, bin_mul, bin_div, bin_pow, bin_addS, bin_addL, bin_mulL, cmp_lt, cmp_le, cmp_gt, cmp_ge, cmp_eq, cmp_ne, cmp_in, cmp_ni, cmp_is, cmp_isn, cmpB_a, isN_n, isN_i, isN_t, isN_l, omap_s, obind_s, obind_n, negB_i, tru_b, tru_i, ixB_a, ix_l, ix_t, atI_0, atI_1, atI_2, atI_3, bi_len, bi_lenT, bi_int, bi_intB, bi_abs, bi_max, bi_min, bi_list, bi_repr, pt_i, slD_l, rev_l, itD_l, itD_t, enD_l, enD_t, zipD_l, lrD_i, getAll_n, kGetC_s, getAll_c, setSh_a, kSh_un, kSh_sh, kSh_ow, setAll_n, setAll_c, tgD_v, tgD_t0, tgD_tp, tgD_pp, st_n, kStO_un, kStO_sh, kStO_ow, st_o, st_s, ownD_a, kOwn_ow, kOwn_mp, ownL_a, kOwnL_l, setOwn_a, kSetO_ow, kSetO_mp, app_l, setD_l, kSetD_s, kCallF_t, kCallF_f, kCallN_ok, kCallK_ow, kCallK_mp, kCallL_ok, kCall1_n, kCall1_s, kCall2_s, noB_n, noB_v, noB_f, frz_n, frz_v, frz_f, frz_b, kFrz_ow, kFrz_sh, opdOf_t, opdOf_f, flat_l, flat_t, imm_i, imm_b, imm_s, imm_n, imm_t, imm_l, imms_n, imms_c, imms_ints, call_eq, kRet2_s, kRun_ok, ret_v, ret_f, ret_nx, kRetB_ow, ret_b, lent_n, kLent_mp, lent_s, for_n, ev_lc, ev_lc2, List.getElem?_cons_zero, List.getElem?_cons_succ, List.set_cons_zero, List.set_cons_succ, List.length_cons, List.length_nil, List.map_cons, List.map_nil, List.length_map, List.nil_append, List.cons_append, List.eraseIdx_cons_zero, List.eraseIdx_cons_succ, ite_true, ite_false, if_true, if_false, Bool.and_true, Bool.true_and, Bool.and_false, Bool.false_and, Bool.or_true, Bool.true_or, Bool.or_false, Bool.false_or, Bool.not_true, Bool.not_false, decide_true, decide_false, decide_eq_true_eq, Bool.and_eq_true, and_true, true_and, Bool.and_self, Bool.decide_eq_true, reduceIte, Nat.reduceAdd, Nat.reduceLeDiff, Nat.reduceLT, Nat.reduceEqDiff, Int.reduceLT, Int.reduceLE, Int.reduceNeg, Int.reduceToNat, Int.reduceEq, Bool.false_eq_true, eq_self, Nat.zero_add, Int.reduceAdd, Int.reduceSub, Int.reduceMul, Int.reducePow, le_sz0, le_sz1, le_sz2, le_sz3, le_sz4, le_sz5, le_sz6, Int.reduceGT, Int.reduceGE, Bool.cond_true, cond_false, wipeL_n, wipeL_c, backL_n, backL_c, clrL_n, clrL_c, kClr_un, kClr_sh, le_sz7, le_sz8, List.getD_cons_zero, List.getD_cons_succ, eqD_int, eqD_ints, inD_ints, eqD_nilI, eqD_nil0, eqD_str, isi_tt, isi_ll, isi_ii, isi_bi, bi_all, cut_1, rng_01, zip_ints, Int.cast_ofNat_Int, nc0, nc1, drop1_map, ixN_10, ixN_20, ixN_21, ixN_30, ixN_31, ixN_32, $[$as:term],*])
structure LkOk (l : List (Int × Int)) : Prop where
  len : l.length ≤ 12
  ne : ∀ x ∈ l, x.1 ≠ 0
theorem en_llk (l : List (Int × Int)) : en l = .lst (l.map en) := rfl
theorem imms_ii (l : List (Int × Int)) : D.imms (l.map en) = true := imms_map en (fun _ => rfl) l
section
variable {T : List (Nat × Df)}
theorem r_require_looks [H_require_looks T] (n : Nat) (l : List (Int × Int)) (h : LkOk l) : (fns T (n + 3) 291).run [en l] = .ok .non none := by
  rw [v_require_looks, b_require_looks]
  have h1 : ¬ ((12 : Int) < (l.length : Int)) := by have := h.len; omega
  wide_line with ⟨en_llk, h1, enum_en⟩
  obtain ⟨ρ', e, a, b, rfl, _, _⟩ := for_inv (t := .t0 [1, 2]) (b := evSs (fns T (n + 2)) l_require_looks_1) (fun p : (Int × Int) × Nat => .tup [.int p.2, en p.1]) (fun _ ρ => ∃ a b, ρ = [.sh (.lst (l.map en)), a, b] ∧ Fr a ∧ Fr b) l.zipIdx [] [.sh (.lst (l.map en)), .un, .un] ⟨_, _, rfl, Fr.un, Fr.un⟩ (fun p x s ρ hx ⟨a, b, hρ, ha, hb⟩ => by
    subst hρ
    have hm : x.1 ∈ l := by
      have : x ∈ l.zipIdx := by rw [← List.nil_append l.zipIdx, hx]; simp
      exact List.fst_mem_of_mem_zipIdx this
    have h2 := h.ne x.1 hm
    refine ⟨_, by wide_line with ⟨kSh_fr ha, kSh_fr hb⟩; rfl, ?_⟩
    refine ⟨?r, .inl ?h, ?i⟩
    case h =>
      rw [l_require_looks_1]
      wide_line with ⟨en_ii, r_is_move (T := T) n x.1.1, r_is_integer (T := T) (n + 1) x.1.2, h2⟩
      rfl
    case i => exact ⟨_, _, rfl, Fr.sh _, Fr.sh _⟩)
  wide_line with ⟨e⟩
theorem r_require_told [H_require_told T] (n : Nat) (d : Dv) (h : DvOk d) (l : List (Int × Int)) (hl : LkOk l) : (fns T (n + 6) 295).run [en d, en l] = .ok .non none := by
  rw [v_require_told, b_require_told]
  wide_line with ⟨r_require_device (T := T) n d h, r_require_looks (T := T) (n + 2) l hl⟩
/-- all starts -/
def startsL (d : Dv) : List (Int × Int) := (upto d.1.1.toNat).flatMap fun g => ((upto d.2.1.toNat).filter fun c => decide (g ∈ d.1.2) || decide (c ∈ d.2.2)).map fun c => (g, c)
theorem r_all_starts [H_all_starts T] (n : Nat) (d : Dv) (h : DvOk d) : (fns T (n + 1) 292).run [en d] = .ok (en (startsL d)) none := by
  rw [v_all_starts, b_all_starts]
  have h1 : okI d.1.1 = true := okI_of (by have := h.g.p1; omega) (by have := h.g.p24; omega)
  have h2 : okI d.2.1 = true := okI_of (by have := h.c.p1; omega) (by have := h.c.p24; omega)
  wide_line with ⟨en_dv, en_cm, h1⟩
  have g24 := h.g.p24
  have c24 := h.c.p24
  rw [lc2_map (φ := fns T n) D.int D.int (fun _ => upto d.2.1.toNat) (fun g c => decide (g ∈ d.1.2) || decide (c ∈ d.2.2)) (fun g c => .tup [.int g, .int c])
    (fun g => [Slot.sh (D.tup [D.tup [D.int d.1.1, D.lst (d.1.2.map D.int)], D.tup [D.int d.2.1, D.lst (d.2.2.map D.int)]]), Slot.sh (D.int d.1.1), Slot.sh (D.lst (d.1.2.map D.int)), Slot.sh (D.int d.2.1), Slot.sh (D.lst (d.2.2.map D.int)), .sh (.int g), .un])
    rfl (upto d.1.1.toNat) 24 (fun _ _ => by rw [len_upto]; omega) (le_sz (by rw [len_upto]; omega)) (fun g _ => by
      refine ⟨rfl, ?_, rfl, rfl, rfl⟩
      rw [i_all_starts_1]
      wide_line with ⟨h2⟩) (fun g _ c _ => by
      refine ⟨_, rfl, ?_⟩
      refine ⟨by rw [c_all_starts_1]; walk_at "tw", rfl, rfl, fun _ => ?_⟩
      rw [e_all_starts_1]; exact ⟨_, rfl, rfl⟩)]
  walk_at "tw"
  congr 1
  rw [en_llk]
  unfold startsL
  rw [List.map_flatMap]
  simp only [List.map_map]; rfl
/-- the place behind looks that are seen -/
def seenP (d : Dv) : Int → Int → List (Int × Int) → Option (Int × Int)
  | h, k, [] => some (h, k)
  | h, k, (m, r) :: ls => if (mvd d h k m).1 - h = r then seenP d (mvd d h k m).1 (mvd d h k m).2 ls else none
theorem for_seen [H_seen_place T] (n : Nat) (d : Dv) (hd : DvOk d) (s0 : D) (s1 : D) : ∀ (l : List (Int × Int)) (h k : Int) (a b : Slot), Fr a → Fr b → ∃ fl ρ, forL (.t0 [5, 6]) (evSs (fns T (n + 4)) l_seen_place_1) (l.map en) [.sh (en d), .sh s0, .sh s1, .sh (.int h), .sh (.int k), a, b] = .ok fl ρ ∧
    (seenP d h k l = none ∧ fl = .rt (.v .non) ∨ ∃ p a b, seenP d h k l = some p ∧ fl = .nx ∧ ρ = [.sh (en d), .sh s0, .sh s1, .sh (.int p.1), .sh (.int p.2), a, b])
  | [], h, k, a, b, _, _ => ⟨_, _, rfl, .inr ⟨(h, k), a, b, rfl, rfl, rfl⟩⟩
  | (m, r) :: l, h, k, a, b, ha, hb => by
    have er := r_rise_of (T := T) (n + 1) d h k m hd
    have em := r_moved_by (T := T) (n + 2) d h k m hd
    rw [List.map_cons, forL]
    rw [seenP]
    by_cases hr : (mvd d h k m).1 - h = r
    · obtain ⟨fl, ρ, e, q⟩ := for_seen n d hd s0 s1 l (mvd d h k m).1 (mvd d h k m).2 (.sh (.int m)) (.sh (.int r)) (Fr.sh _) (Fr.sh _)
      refine ⟨fl, ρ, ?_, by rw [if_pos hr]; exact q⟩
      rw [← e]
      wide_line with ⟨en_ii, kSh_fr ha, kSh_fr hb, l_seen_place_1, er, em, hr⟩
    · refine ⟨.rt (.v .non), [.sh (en d), .sh s0, .sh s1, .sh (.int h), .sh (.int k), .sh (.int m), .sh (.int r)], ?_, .inl ⟨by rw [if_neg hr], rfl⟩⟩
      wide_line with ⟨en_ii, kSh_fr ha, kSh_fr hb, l_seen_place_1, er, em, hr⟩
def enP : Option (Int × Int) → D
  | none => .non
  | some p => en p
theorem r_seen_place [H_seen_place T] (n : Nat) (d : Dv) (hd : DvOk d) (st : Int × Int) (l : List (Int × Int)) : (fns T (n + 5) 293).run [en d, en st, en l] = .ok (enP (seenP d st.1 (st.1 - st.2) l)) none := by
  rw [v_seen_place, b_seen_place]
  obtain ⟨fl, ρ, e, q⟩ := for_seen (T := T) n d hd (en st) (en l) l st.1 (st.1 - st.2) .un .un Fr.un Fr.un
  rw [en_llk, en_ii] at e
  wide_line with ⟨en_llk, en_ii, e⟩
  rcases q with ⟨q, rfl⟩ | ⟨p, a, b, q, rfl, rfl⟩
  · rw [q]; walk_at "tw"; rfl
  · rw [q]; walk_at "tw"; rfl
/-- the starts that have looks -/
def fitsL (d : Dv) (l : List (Int × Int)) : List (Int × Int) := (startsL d).filter fun st => (seenP d st.1 (st.1 - st.2) l).isSome
theorem len_startsL (d : Dv) (h : DvOk d) : (startsL d).length ≤ 576 := by
  unfold startsL
  have g24 := h.g.p24
  have c24 := h.c.p24
  have key : ∀ xs : List Int, (xs.flatMap fun g => ((upto d.2.1.toNat).filter fun c => decide (g ∈ d.1.2) || decide (c ∈ d.2.2)).map fun c => (g, c)).length ≤ xs.length * 24 := by
    intro xs
    induction xs with
    | nil => simp
    | cons x xs ih =>
      rw [List.flatMap_cons, List.length_append, List.length_cons, List.length_map]
      have := List.length_filter_le (fun c => decide (x ∈ d.1.2) || decide (c ∈ d.2.2)) (upto d.2.1.toNat)
      rw [len_upto] at this
      omega
  have := key (upto d.1.1.toNat)
  rw [len_upto] at this
  omega
theorem isN_enP (o : Option (Int × Int)) : isND (enP o) .non = some (!o.isSome) := by cases o <;> rfl
theorem imm_enP (o : Option (Int × Int)) : (enP o).imm = true := by cases o <;> rfl
theorem not_not_b (b : Bool) : (!!b) = b := by cases b <;> rfl
theorem r_fits_of [H_fits_of T] (n : Nat) (d : Dv) (hd : DvOk d) (l : List (Int × Int)) : (fns T (n + 6) 294).run [en d, en l] = .ok (en (fitsL d l)) none := by
  rw [v_fits_of, b_fits_of]
  have ea := r_all_starts (T := T) (n + 4) d hd
  wide_line with ⟨ea, en_llk, imm_l, imms_ii⟩
  rw [lc_map (en : Int × Int → D) (fun st => (seenP d st.1 (st.1 - st.2) l).isSome) en rfl (startsL d) (le_sz (by have := len_startsL d hd; omega)) (fun st _ => by
    refine ⟨_, rfl, ?_⟩
    refine ⟨?_, rfl, rfl, fun _ => ?_⟩
    · rw [c_fits_of_1]
      have e := r_seen_place (T := T) n d hd st l
      rw [en_llk] at e
      wide_line with ⟨e, imm_enP, isN_enP, not_not_b⟩
    · rw [e_fits_of_1]; exact ⟨_, rfl, rfl⟩)]
  walk_at "tw"
  rfl
theorem r_fitting_starts [H_fitting_starts T] (n : Nat) (d : Dv) (hd : DvOk d) (l : List (Int × Int)) (hl : LkOk l) : (fns T (n + 7) 296).run [en d, en l] = .ok (en (fitsL d l)) none := by
  rw [v_fitting_starts, b_fitting_starts]
  have e1 := r_require_told (T := T) n d hd l hl
  have e2 := r_fits_of (T := T) n d hd l
  rw [en_llk] at e1 e2
  wide_line with ⟨e1, e2, en_llk, imm_l, imms_ii⟩
end
end TW.P
end
/-! P6 -/
section
set_option Elab.async false
set_option linter.all false
set_option maxRecDepth 100000
set_option maxHeartbeats 4000000
set_option exponentiation.threshold 100000
set_option autoImplicit false
/-! TW, plain part 6: the draws of a law (tank), its combs, its own moves. -/
namespace TW.P
open PySem PySem.Spec L2
open PyProof.Rows hiding St
open Code (en)
local macro_rules | `(tactic| walk_at "tw") => `(tactic| simp only [get_v, get_f, get_b, kGet_ow, kGet_mp, kGet_sh, esc_v, esc_f, esc_b, kEsc_ow, kEsc_sh, kOp2_ss, kOp1_s, of_s, of_n, bd_ok, bd_no, bd_ex, ev_int, ev_str, ev_bl, ev_non, ev_glob, ev_var, kVar_sh, kVar_ow, kVar_mp, kBinR_a, kBinL_a, ev_bin, kNeg_a, ev_neg, kNotR_a, kTru_s, kNot_a, ev_not, kCmpR_a, kCmpL_a, ev_cmp, kC2c_a, kAndR_t, kAndR_f, kAndR_ok, kOrR_f, kOrR_t, kOrR_ok, kC2t_a, kC2R_a, kC2L_a, ev_cmp2, kAnd_a, ev_and, kOr_a, ev_or, kSel_t, kSel_f, kSel_int, kSel_same, kIfeT_a, kIfe_a, ev_ife, kTup_a, kLst_a, ev_tup, ev_lst, kIxR_a, kIxL_a, ev_ix, kPt_a, kBound_t, kBound_f, kSlH_a, kSlL_a, kSl_a, ev_sl, kRev_a, ev_rev, kCall_a, pmut_n, ev_call, kBi_a, ev_bc, kMtR_a, kMt_a, ev_mth, kLrR_a, kLrL_a, ev_lrange, kPopR_s, kPop_a, kBack_a, kEsT_a, kEsD_a, kEs_a, es_n, es_c, kEsA_a, kEsS1_l, kEsS1_t, kEsS_a, es_s, kAsT_a, kAs_a, as_n, as_c, kItD_a, kIt_a, it_seq, it_enum, kZpE_a, kZpY_a, kZpD_a, kZp_a, it_zip, r1D_a, kR1_a, it_r1, r2D_a, kR2R_a, kR2L_a, it_r2, kOp3_s, kR3C_a, kR3R_a, kR3L_a, it_r3, kT_a, t_eq, lcC_t, lcC_f, kSs_nx, kSs_rt, kSs_bk, kSs_ct, ss_n, ss_c, kOw_un, kOw_sh, kOw_ow, kTgR_s, kTg_a, kAsgO_a, kAsg_a, s_asgO, s_asg, kStP_a, s_asgp, kPsT_a, kPsD_a, kPs_a, kPsO_a, ps_n, ps_f, ps_t, kSet3_s, kSet2_a, kSet1_a, kSet_a, s_setix, kAug3_s, kAug2_a, kAug_s, s_aug, kApp1_a, kApp_a, s_app, kExp_a, s_exp, kIf_t, kIf_f, s_ifs, kFor_a, s_for, s_while, kRet_a, s_retE, s_retN, s_brk, s_cont, s_pass, bin_add, bin_sub, bin_mod, bin_mul, bin_div, bin_pow, bin_addS, bin_addL, bin_mulL, cmp_lt, cmp_le, cmp_gt, cmp_ge, cmp_eq, cmp_ne, cmp_in, cmp_ni, cmp_is, cmp_isn, cmpB_a, isN_n, isN_i, isN_t, isN_l, omap_s, obind_s, obind_n, negB_i, tru_b, tru_i, ixB_a, ix_l, ix_t, atI_0, atI_1, atI_2, atI_3, bi_len, bi_lenT, bi_int, bi_intB, bi_abs, bi_max, bi_min, bi_list, bi_repr, pt_i, slD_l, rev_l, itD_l, itD_t, enD_l, enD_t, zipD_l, lrD_i, getAll_n, kGetC_s, getAll_c, setSh_a, kSh_un, kSh_sh, kSh_ow, setAll_n, setAll_c, tgD_v, tgD_t0, tgD_tp, tgD_pp, st_n, kStO_un, kStO_sh, kStO_ow, st_o, st_s, ownD_a, kOwn_ow, kOwn_mp, ownL_a, kOwnL_l, setOwn_a, kSetO_ow, kSetO_mp, app_l, setD_l, kSetD_s, kCallF_t, kCallF_f, kCallN_ok, kCallK_ow, kCallK_mp, kCallL_ok, kCall1_n, kCall1_s, kCall2_s, noB_n, noB_v, noB_f, frz_n, frz_v, frz_f, frz_b, kFrz_ow, kFrz_sh, opdOf_t, opdOf_f, flat_l, flat_t, imm_i, imm_b, imm_s, imm_n, imm_t, imm_l, imms_n, imms_c, imms_ints, call_eq, kRet2_s, kRun_ok, ret_v, ret_f, ret_nx, kRetB_ow, ret_b, lent_n, kLent_mp, lent_s, for_n, ev_lc, ev_lc2, List.getElem?_cons_zero, List.getElem?_cons_succ, List.set_cons_zero, List.set_cons_succ, List.length_cons, List.length_nil, List.map_cons, List.map_nil, List.length_map, List.nil_append, List.cons_append, List.eraseIdx_cons_zero, List.eraseIdx_cons_succ, ite_true, ite_false, if_true, if_false, Bool.and_true, Bool.true_and, Bool.and_false, Bool.false_and, Bool.or_true, Bool.true_or, Bool.or_false, Bool.false_or, Bool.not_true, Bool.not_false, decide_true, decide_false, decide_eq_true_eq, Bool.and_eq_true, and_true, true_and, Bool.and_self, Bool.decide_eq_true, reduceIte, Nat.reduceAdd, Nat.reduceLeDiff, Nat.reduceLT, Nat.reduceEqDiff, Int.reduceLT, Int.reduceLE, Int.reduceNeg, Int.reduceToNat, Int.reduceEq, Bool.false_eq_true, eq_self, Nat.zero_add, Int.reduceAdd, Int.reduceSub, Int.reduceMul, Int.reducePow, le_sz0, le_sz1, le_sz2, le_sz3, le_sz4, le_sz5, le_sz6, Int.reduceGT, Int.reduceGE, Bool.cond_true, cond_false, wipeL_n, wipeL_c, backL_n, backL_c, clrL_n, clrL_c, kClr_un, kClr_sh, le_sz7, le_sz8, List.getD_cons_zero, List.getD_cons_succ, eqD_int, eqD_ints, inD_ints, eqD_nilI, eqD_nil0, eqD_str, isi_tt, isi_ll, isi_ii, isi_bi, bi_all, cut_1, rng_01, zip_ints, Int.cast_ofNat_Int, nc0, nc1, drop1_map, ixN_10, ixN_20, ixN_21, ixN_30, ixN_31, ixN_32])
local macro_rules | `(tactic| wide_line with ⟨$as,*⟩) => `(tactic| simp only [get_v, get_f, get_b, kGet_ow, kGet_mp, kGet_sh, esc_v, esc_f, esc_b, kEsc_ow, kEsc_sh, kOp2_ss, kOp1_s, of_s, of_n, bd_ok, bd_no, bd_ex, ev_int, ev_str, ev_bl, ev_non, ev_glob, ev_var, kVar_sh, kVar_ow, kVar_mp, kBinR_a, kBinL_a, ev_bin, kNeg_a, ev_neg, kNotR_a, kTru_s, kNot_a, ev_not, kCmpR_a, kCmpL_a, ev_cmp, kC2c_a, kAndR_t, kAndR_f, kAndR_ok, kOrR_f, kOrR_t, kOrR_ok, kC2t_a, kC2R_a, kC2L_a, ev_cmp2, kAnd_a, ev_and, kOr_a, ev_or, kSel_t, kSel_f, kSel_int, kSel_same, kIfeT_a, kIfe_a, ev_ife, kTup_a, kLst_a, ev_tup, ev_lst, kIxR_a, kIxL_a, ev_ix, kPt_a, kBound_t, kBound_f, kSlH_a, kSlL_a, kSl_a, ev_sl, kRev_a, ev_rev, kCall_a, pmut_n, ev_call, kBi_a, ev_bc, kMtR_a, kMt_a, ev_mth, kLrR_a, kLrL_a, ev_lrange, kPopR_s, kPop_a, kBack_a, kEsT_a, kEsD_a, kEs_a, es_n, es_c, kEsA_a, kEsS1_l, kEsS1_t, kEsS_a, es_s, kAsT_a, kAs_a, as_n, as_c, kItD_a, kIt_a, it_seq, it_enum, kZpE_a, kZpY_a, kZpD_a, kZp_a, it_zip, r1D_a, kR1_a, it_r1, r2D_a, kR2R_a, kR2L_a, it_r2, kOp3_s, kR3C_a, kR3R_a, kR3L_a, it_r3, kT_a, t_eq, lcC_t, lcC_f, kSs_nx, kSs_rt, kSs_bk, kSs_ct, ss_n, ss_c, kOw_un, kOw_sh, kOw_ow, kTgR_s, kTg_a, kAsgO_a, kAsg_a, s_asgO, s_asg, kStP_a, s_asgp, kPsT_a, kPsD_a, kPs_a, kPsO_a, ps_n, ps_f, ps_t, kSet3_s, kSet2_a, kSet1_a, kSet_a, s_setix, kAug3_s, kAug2_a, kAug_s, s_aug, kApp1_a, kApp_a, s_app, kExp_a, s_exp, kIf_t, kIf_f, s_ifs, kFor_a, s_for, s_while, kRet_a, s_retE, s_retN, s_brk, s_cont, s_pass, bin_add, bin_sub, bin_mod, bin_mul, bin_div, bin_pow, bin_addS, bin_addL, bin_mulL, cmp_lt, cmp_le, cmp_gt, cmp_ge, cmp_eq, cmp_ne, cmp_in, cmp_ni, cmp_is, cmp_isn, cmpB_a, isN_n, isN_i, isN_t, isN_l, omap_s, obind_s, obind_n, negB_i, tru_b, tru_i, ixB_a, ix_l, ix_t, atI_0, atI_1, atI_2, atI_3, bi_len, bi_lenT, bi_int, bi_intB, bi_abs, bi_max, bi_min, bi_list, bi_repr, pt_i, slD_l, rev_l, itD_l, itD_t, enD_l, enD_t, zipD_l, lrD_i, getAll_n, kGetC_s, getAll_c, setSh_a, kSh_un, kSh_sh, kSh_ow, setAll_n, setAll_c, tgD_v, tgD_t0, tgD_tp, tgD_pp, st_n, kStO_un, kStO_sh, kStO_ow, st_o, st_s, ownD_a, kOwn_ow, kOwn_mp, ownL_a, kOwnL_l, setOwn_a, kSetO_ow, kSetO_mp, app_l, setD_l, kSetD_s, kCallF_t, kCallF_f, kCallN_ok, kCallK_ow, kCallK_mp, kCallL_ok, kCall1_n, kCall1_s, kCall2_s, noB_n, noB_v, noB_f, frz_n, frz_v, frz_f, frz_b, kFrz_ow, kFrz_sh, opdOf_t, opdOf_f, flat_l, flat_t, imm_i, imm_b, imm_s, imm_n, imm_t, imm_l, imms_n, imms_c, imms_ints, call_eq, kRet2_s, kRun_ok, ret_v, ret_f, ret_nx, kRetB_ow, ret_b, lent_n, kLent_mp, lent_s, for_n, ev_lc, ev_lc2, List.getElem?_cons_zero, List.getElem?_cons_succ, List.set_cons_zero, List.set_cons_succ, List.length_cons, List.length_nil, List.map_cons, List.map_nil, List.length_map, List.nil_append, List.cons_append, List.eraseIdx_cons_zero, List.eraseIdx_cons_succ, ite_true, ite_false, if_true, if_false, Bool.and_true, Bool.true_and, Bool.and_false, Bool.false_and, Bool.or_true, Bool.true_or, Bool.or_false, Bool.false_or, Bool.not_true, Bool.not_false, decide_true, decide_false, decide_eq_true_eq, Bool.and_eq_true, and_true, true_and, Bool.and_self, Bool.decide_eq_true, reduceIte, Nat.reduceAdd, Nat.reduceLeDiff, Nat.reduceLT, Nat.reduceEqDiff, Int.reduceLT, Int.reduceLE, Int.reduceNeg, Int.reduceToNat, Int.reduceEq, Bool.false_eq_true, eq_self, Nat.zero_add, Int.reduceAdd, Int.reduceSub, Int.reduceMul, Int.reducePow, le_sz0, le_sz1, le_sz2, le_sz3, le_sz4, le_sz5, le_sz6, Int.reduceGT, Int.reduceGE, Bool.cond_true, cond_false, wipeL_n, wipeL_c, backL_n, backL_c, clrL_n, clrL_c, kClr_un, kClr_sh, le_sz7, le_sz8, List.getD_cons_zero, List.getD_cons_succ, eqD_int, eqD_ints, inD_ints, eqD_nilI, eqD_nil0, eqD_str, isi_tt, isi_ll, isi_ii, isi_bi, bi_all, cut_1, rng_01, zip_ints, Int.cast_ofNat_Int, nc0, nc1, drop1_map, ixN_10, ixN_20, ixN_21, ixN_30, ixN_31, ixN_32, $[$as:term],*])
theorem smallI_of {i : Int} (h0 : -(10 ^ 100) ≤ i) (h1 : i ≤ 10 ^ 100) : smallI i = true := by
  unfold smallI
  have h : i.natAbs ≤ 10 ^ 100 := by omega
  exact decide_eq_true (Nat.lt_of_le_of_lt h (by decide +kernel))
theorem mulI_of {i : Int} (h0 : -(10 ^ 100) ≤ i) (h1 : i ≤ 10 ^ 100) : mulI i = true := by
  unfold mulI
  have h : i.natAbs ≤ 10 ^ 100 := by omega
  refine decide_eq_true (Nat.lt_of_le_of_lt h (Nat.lt_of_lt_of_le (m := 2 ^ 1000) (by decide +kernel) (Nat.pow_le_pow_right (by decide) (by decide))))
/-- a tank: what is left, a number, how many draws at most -/
def Tk (n : Int) (m : D) : Prop := ∃ a b c : Int, m = .lst [.int a, .int b, .int c] ∧ 0 ≤ a ∧ 0 ≤ b ∧ b ≤ 10 ^ 40 ∧ 0 ≤ c ∧ c ≤ n
theorem Tk.mono {n n' : Int} {m : D} (h : Tk n m) (hn : n ≤ n') : Tk n' m := by
  obtain ⟨a, b, c, e, h1, h2, h3, h4, h5⟩ := h
  exact ⟨a, b, c, e, h1, h2, h3, h4, by omega⟩
section
variable {T : List (Nat × Df)}
theorem r_tap [H__law_tap T] (n : Nat) (m : D) (N many : Int) (h : Tk N m) (hN : N ≤ 10 ^ 9) (h1 : 1 ≤ many) (h2 : many ≤ 10 ^ 41) :
    ∃ v m', (fns T (n + 1) 162).run [m, .int many] = .ok (.int v) (some m') ∧ 0 ≤ v ∧ v < many ∧ Tk (N + 1) m' := by
  obtain ⟨a, b, c, rfl, ha, hb, hb2, hc, hc2⟩ := h
  have hp : 0 < many := by omega
  have hs : smallI many = true := smallI_of (by omega) (by omega)
  rw [v__law_tap, b__law_tap]
  by_cases h0 : 0 < a
  · refine ⟨a % many, .lst [.int (a / many), .int b, .int c], ?_, Int.emod_nonneg _ (by omega), Int.emod_lt_of_pos _ hp, a / many, b, c, rfl, Int.ediv_nonneg ha (by omega), hb, hb2, hc, by omega⟩
    wide_line with ⟨h0, hp, hs⟩
  · have hc1 : mulI (c + 1) = true := mulI_of (by omega) (by omega)
    have hk1 : mulI 350377 = true := mulI_of (by decide) (by decide)
    have hk2 : mulI 27644437 = true := mulI_of (by decide) (by decide)
    have hs1 : smallI (b + 350377 * (c + 1)) = true := smallI_of (by omega) (by omega)
    have hs3 : smallI 524288 = true := smallI_of (by decide) (by decide)
    have hs4 : smallI 10 = true := smallI_of (by decide) (by decide)
    have hy0 := Int.emod_nonneg ((b + 350377 * (c + 1)) ^ 3) (show (170141183460469231731687303715884105727 : Int) ≠ 0 by decide)
    have hy1 := Int.emod_lt_of_pos ((b + 350377 * (c + 1)) ^ 3) (show (0 : Int) < 170141183460469231731687303715884105727 by decide)
    have hs2 : smallI ((b + 350377 * (c + 1)) ^ 3 % 170141183460469231731687303715884105727 + 27644437 * (c + 1)) = true := smallI_of (by omega) (by omega)
    wide_line with ⟨h0, hp, hs, hc1, hk1, hk2, hs1, hs2, hs3, hs4⟩
    exact ⟨_, _, rfl, Int.emod_nonneg _ (by omega), Int.emod_lt_of_pos _ hp, a, b, c + 1, rfl, ha, hb, hb2, by omega, by omega⟩
end
end TW.P
end
/-! P7 -/
section
set_option Elab.async false
set_option linter.all false
set_option maxRecDepth 100000
set_option maxHeartbeats 4000000
set_option exponentiation.threshold 100000
set_option autoImplicit false
/-! TW, plain part 7: drawn combs, devices; a law's own moves. -/
namespace TW.P
open PySem PySem.Spec L2
open PyProof.Rows hiding St
open Code (en)
local macro_rules | `(tactic| walk_at "tw") => `(tactic| simp only [get_v, get_f, get_b, kGet_ow, kGet_mp, kGet_sh, esc_v, esc_f, esc_b, kEsc_ow, kEsc_sh, kOp2_ss, kOp1_s, of_s, of_n, bd_ok, bd_no, bd_ex, ev_int, ev_str, ev_bl, ev_non, ev_glob, ev_var, kVar_sh, kVar_ow, kVar_mp, kBinR_a, kBinL_a, ev_bin, kNeg_a, ev_neg, kNotR_a, kTru_s, kNot_a, ev_not, kCmpR_a, kCmpL_a, ev_cmp, kC2c_a, kAndR_t, kAndR_f, kAndR_ok, kOrR_f, kOrR_t, kOrR_ok, kC2t_a, kC2R_a, kC2L_a, ev_cmp2, kAnd_a, ev_and, kOr_a, ev_or, kSel_t, kSel_f, kSel_int, kSel_same, kIfeT_a, kIfe_a, ev_ife, kTup_a, kLst_a, ev_tup, ev_lst, kIxR_a, kIxL_a, ev_ix, kPt_a, kBound_t, kBound_f, kSlH_a, kSlL_a, kSl_a, ev_sl, kRev_a, ev_rev, kCall_a, pmut_n, ev_call, kBi_a, ev_bc, kMtR_a, kMt_a, ev_mth, kLrR_a, kLrL_a, ev_lrange, kPopR_s, kPop_a, kBack_a, kEsT_a, kEsD_a, kEs_a, es_n, es_c, kEsA_a, kEsS1_l, kEsS1_t, kEsS_a, es_s, kAsT_a, kAs_a, as_n, as_c, kItD_a, kIt_a, it_seq, it_enum, kZpE_a, kZpY_a, kZpD_a, kZp_a, it_zip, r1D_a, kR1_a, it_r1, r2D_a, kR2R_a, kR2L_a, it_r2, kOp3_s, kR3C_a, kR3R_a, kR3L_a, it_r3, kT_a, t_eq, lcC_t, lcC_f, kSs_nx, kSs_rt, kSs_bk, kSs_ct, ss_n, ss_c, kOw_un, kOw_sh, kOw_ow, kTgR_s, kTg_a, kAsgO_a, kAsg_a, s_asgO, s_asg, kStP_a, s_asgp, kPsT_a, kPsD_a, kPs_a, kPsO_a, ps_n, ps_f, ps_t, kSet3_s, kSet2_a, kSet1_a, kSet_a, s_setix, kAug3_s, kAug2_a, kAug_s, s_aug, kApp1_a, kApp_a, s_app, kExp_a, s_exp, kIf_t, kIf_f, s_ifs, kFor_a, s_for, s_while, kRet_a, s_retE, s_retN, s_brk, s_cont, s_pass, bin_add, bin_sub, bin_mod, bin_mul, bin_div, bin_pow, bin_addS, bin_addL, bin_mulL, cmp_lt, cmp_le, cmp_gt, cmp_ge, cmp_eq, cmp_ne, cmp_in, cmp_ni, cmp_is, cmp_isn, cmpB_a, isN_n, isN_i, isN_t, isN_l, omap_s, obind_s, obind_n, negB_i, tru_b, tru_i, ixB_a, ix_l, ix_t, atI_0, atI_1, atI_2, atI_3, bi_len, bi_lenT, bi_int, bi_intB, bi_abs, bi_max, bi_min, bi_list, bi_repr, pt_i, slD_l, rev_l, itD_l, itD_t, enD_l, enD_t, zipD_l, lrD_i, getAll_n, kGetC_s, getAll_c, setSh_a, kSh_un, kSh_sh, kSh_ow, setAll_n, setAll_c, tgD_v, tgD_t0, tgD_tp, tgD_pp, st_n, kStO_un, kStO_sh, kStO_ow, st_o, st_s, ownD_a, kOwn_ow, kOwn_mp, ownL_a, kOwnL_l, setOwn_a, kSetO_ow, kSetO_mp, app_l, setD_l, kSetD_s, kCallF_t, kCallF_f, kCallN_ok, kCallK_ow, kCallK_mp, kCallL_ok, kCall1_n, kCall1_s, kCall2_s, noB_n, noB_v, noB_f, frz_n, frz_v, frz_f, frz_b, kFrz_ow, kFrz_sh, opdOf_t, opdOf_f, flat_l, flat_t, imm_i, imm_b, imm_s, imm_n, imm_t, imm_l, imms_n, imms_c, imms_ints, call_eq, kRet2_s, kRun_ok, ret_v, ret_f, ret_nx, kRetB_ow, ret_b, lent_n, kLent_mp, lent_s, for_n, ev_lc, ev_lc2, List.getElem?_cons_zero, List.getElem?_cons_succ, List.set_cons_zero, List.set_cons_succ, List.length_cons, List.length_nil, List.map_cons, List.map_nil, List.length_map, List.nil_append, List.cons_append, List.eraseIdx_cons_zero, List.eraseIdx_cons_succ, ite_true, ite_false, if_true, if_false, Bool.and_true, Bool.true_and, Bool.and_false, Bool.false_and, Bool.or_true, Bool.true_or, Bool.or_false, Bool.false_or, Bool.not_true, Bool.not_false, decide_true, decide_false, decide_eq_true_eq, Bool.and_eq_true, and_true, true_and, Bool.and_self, Bool.decide_eq_true, reduceIte, Nat.reduceAdd, Nat.reduceLeDiff, Nat.reduceLT, Nat.reduceEqDiff, Int.reduceLT, Int.reduceLE, Int.reduceNeg, Int.reduceToNat, Int.reduceEq, Bool.false_eq_true, eq_self, Nat.zero_add, Int.reduceAdd, Int.reduceSub, Int.reduceMul, Int.reducePow, le_sz0, le_sz1, le_sz2, le_sz3, le_sz4, le_sz5, le_sz6, Int.reduceGT, Int.reduceGE, Bool.cond_true, cond_false, wipeL_n, wipeL_c, backL_n, backL_c, clrL_n, clrL_c, kClr_un, kClr_sh, le_sz7, le_sz8, List.getD_cons_zero, List.getD_cons_succ, eqD_int, eqD_ints, inD_ints, eqD_nilI, eqD_nil0, eqD_str, isi_tt, isi_ll, isi_ii, isi_bi, bi_all, cut_1, rng_01, zip_ints, Int.cast_ofNat_Int, nc0, nc1, drop1_map, ixN_10, ixN_20, ixN_21, ixN_30, ixN_31, ixN_32])
local macro_rules | `(tactic| wide_line with ⟨$as,*⟩) => `(tactic| simp only [get_v, get_f, get_b, kGet_ow, kGet_mp, kGet_sh, esc_v, esc_f, esc_b, kEsc_ow, kEsc_sh, kOp2_ss, kOp1_s, of_s, of_n, bd_ok, bd_no, bd_ex, ev_int, ev_str, ev_bl, ev_non, ev_glob, ev_var, kVar_sh, kVar_ow, kVar_mp, kBinR_a, kBinL_a, ev_bin, kNeg_a, ev_neg, kNotR_a, kTru_s, kNot_a, ev_not, kCmpR_a, kCmpL_a, ev_cmp, kC2c_a, kAndR_t, kAndR_f, kAndR_ok, kOrR_f, kOrR_t, kOrR_ok, kC2t_a, kC2R_a, kC2L_a, ev_cmp2, kAnd_a, ev_and, kOr_a, ev_or, kSel_t, kSel_f, kSel_int, kSel_same, kIfeT_a, kIfe_a, ev_ife, kTup_a, kLst_a, ev_tup, ev_lst, kIxR_a, kIxL_a, ev_ix, kPt_a, kBound_t, kBound_f, kSlH_a, kSlL_a, kSl_a, ev_sl, kRev_a, ev_rev, kCall_a, pmut_n, ev_call, kBi_a, ev_bc, kMtR_a, kMt_a, ev_mth, kLrR_a, kLrL_a, ev_lrange, kPopR_s, kPop_a, kBack_a, kEsT_a, kEsD_a, kEs_a, es_n, es_c, kEsA_a, kEsS1_l, kEsS1_t, kEsS_a, es_s, kAsT_a, kAs_a, as_n, as_c, kItD_a, kIt_a, it_seq, it_enum, kZpE_a, kZpY_a, kZpD_a, kZp_a, it_zip, r1D_a, kR1_a, it_r1, r2D_a, kR2R_a, kR2L_a, it_r2, kOp3_s, kR3C_a, kR3R_a, kR3L_a, it_r3, kT_a, t_eq, lcC_t, lcC_f, kSs_nx, kSs_rt, kSs_bk, kSs_ct, ss_n, ss_c, kOw_un, kOw_sh, kOw_ow, kTgR_s, kTg_a, kAsgO_a, kAsg_a, s_asgO, s_asg, kStP_a, s_asgp, kPsT_a, kPsD_a, kPs_a, kPsO_a, ps_n, ps_f, ps_t, kSet3_s, kSet2_a, kSet1_a, kSet_a, s_setix, kAug3_s, kAug2_a, kAug_s, s_aug, kApp1_a, kApp_a, s_app, kExp_a, s_exp, kIf_t, kIf_f, s_ifs, kFor_a, s_for, s_while, kRet_a, s_retE, s_retN, s_brk, s_cont, s_pass, bin_add, bin_sub, bin_mod, bin_mul, bin_div, bin_pow, bin_addS, bin_addL, bin_mulL, cmp_lt, cmp_le, cmp_gt, cmp_ge, cmp_eq, cmp_ne, cmp_in, cmp_ni, cmp_is, cmp_isn, cmpB_a, isN_n, isN_i, isN_t, isN_l, omap_s, obind_s, obind_n, negB_i, tru_b, tru_i, ixB_a, ix_l, ix_t, atI_0, atI_1, atI_2, atI_3, bi_len, bi_lenT, bi_int, bi_intB, bi_abs, bi_max, bi_min, bi_list, bi_repr, pt_i, slD_l, rev_l, itD_l, itD_t, enD_l, enD_t, zipD_l, lrD_i, getAll_n, kGetC_s, getAll_c, setSh_a, kSh_un, kSh_sh, kSh_ow, setAll_n, setAll_c, tgD_v, tgD_t0, tgD_tp, tgD_pp, st_n, kStO_un, kStO_sh, kStO_ow, st_o, st_s, ownD_a, kOwn_ow, kOwn_mp, ownL_a, kOwnL_l, setOwn_a, kSetO_ow, kSetO_mp, app_l, setD_l, kSetD_s, kCallF_t, kCallF_f, kCallN_ok, kCallK_ow, kCallK_mp, kCallL_ok, kCall1_n, kCall1_s, kCall2_s, noB_n, noB_v, noB_f, frz_n, frz_v, frz_f, frz_b, kFrz_ow, kFrz_sh, opdOf_t, opdOf_f, flat_l, flat_t, imm_i, imm_b, imm_s, imm_n, imm_t, imm_l, imms_n, imms_c, imms_ints, call_eq, kRet2_s, kRun_ok, ret_v, ret_f, ret_nx, kRetB_ow, ret_b, lent_n, kLent_mp, lent_s, for_n, ev_lc, ev_lc2, List.getElem?_cons_zero, List.getElem?_cons_succ, List.set_cons_zero, List.set_cons_succ, List.length_cons, List.length_nil, List.map_cons, List.map_nil, List.length_map, List.nil_append, List.cons_append, List.eraseIdx_cons_zero, List.eraseIdx_cons_succ, ite_true, ite_false, if_true, if_false, Bool.and_true, Bool.true_and, Bool.and_false, Bool.false_and, Bool.or_true, Bool.true_or, Bool.or_false, Bool.false_or, Bool.not_true, Bool.not_false, decide_true, decide_false, decide_eq_true_eq, Bool.and_eq_true, and_true, true_and, Bool.and_self, Bool.decide_eq_true, reduceIte, Nat.reduceAdd, Nat.reduceLeDiff, Nat.reduceLT, Nat.reduceEqDiff, Int.reduceLT, Int.reduceLE, Int.reduceNeg, Int.reduceToNat, Int.reduceEq, Bool.false_eq_true, eq_self, Nat.zero_add, Int.reduceAdd, Int.reduceSub, Int.reduceMul, Int.reducePow, le_sz0, le_sz1, le_sz2, le_sz3, le_sz4, le_sz5, le_sz6, Int.reduceGT, Int.reduceGE, Bool.cond_true, cond_false, wipeL_n, wipeL_c, backL_n, backL_c, clrL_n, clrL_c, kClr_un, kClr_sh, le_sz7, le_sz8, List.getD_cons_zero, List.getD_cons_succ, eqD_int, eqD_ints, inD_ints, eqD_nilI, eqD_nil0, eqD_str, isi_tt, isi_ll, isi_ii, isi_bi, bi_all, cut_1, rng_01, zip_ints, Int.cast_ofNat_Int, nc0, nc1, drop1_map, ixN_10, ixN_20, ixN_21, ixN_30, ixN_31, ixN_32, $[$as:term],*])
theorem upto_split {n : Nat} {p s : List Int} {x : Int} (h : upto n = p ++ x :: s) : x = p.length := by
  have h1 : (upto n)[p.length]? = some x := by rw [h]; simp
  unfold upto at h1
  rw [List.getElem?_map] at h1
  by_cases hl : p.length < n
  · rw [List.getElem?_range hl] at h1
    simpa using h1.symm
  · rw [List.getElem?_eq_none (by simpa using hl)] at h1
    cases h1
theorem two {v : Int} (h0 : 0 ≤ v) (h1 : v < 2) : v = 0 ∨ v = 1 := by omega
theorem three {v : Int} (h0 : 0 ≤ v) (h1 : v < 3) : v = 0 ∨ v = 1 ∨ v = 2 := by omega
theorem pw_snoc {l : List Int} {x : Int} (h : l.Pairwise (· < ·)) (hx : ∀ t ∈ l, t < x) : (l ++ [x]).Pairwise (· < ·) := by
  rw [List.pairwise_append]
  exact ⟨h, List.pairwise_singleton _ _, fun a ha b hb => by rw [List.mem_singleton] at hb; subst hb; exact hx a ha⟩
theorem pw_len : ∀ (l : List Int) (lo hi : Int), l.Pairwise (· < ·) → (∀ t ∈ l, lo ≤ t) → (∀ t ∈ l, t < hi) → lo ≤ hi → (l.length : Int) ≤ hi - lo := by
  intro l
  induction l with
  | nil => intro lo hi _ _ _ h; simp; omega
  | cons a l ih =>
    intro lo hi hp h1 h2 h3
    have ha := h1 a List.mem_cons_self
    have hb := h2 a List.mem_cons_self
    have := ih (a + 1) hi (List.pairwise_cons.mp hp).2 (fun t ht => (List.pairwise_cons.mp hp).1 t ht) (fun t ht => h2 t (List.mem_cons_of_mem _ ht)) (by omega)
    rw [List.length_cons]; omega
section
variable {T : List (Nat × Df)}
theorem r_tank [H__law_tank T] (n : Nat) (ns : List Int) (at_ : Int) (h0 : 0 ≤ at_) (h1 : at_ ≤ 100) : ∃ m, (fns T (n + 1) 161).run [.lst (ns.map .int), .int at_] = .ok m none ∧ Tk 0 m := by
  rw [v__law_tank, b__law_tank]
  have hk1 : mulI 104729 = true := mulI_of (by decide) (by decide)
  have hk2 : mulI (at_ + 1) = true := mulI_of (by omega) (by omega)
  have hk3 : smallI 10 = true := smallI_of (by decide) (by decide)
  by_cases hl : at_ < ns.length
  · have hi : atI (ns.map D.int) at_ = some (.int (ns.getD at_.toNat 0)) := by
      rw [atI_nat h0 (by simpa using hl), List.getElem?_map, List.getD_eq_getElem?_getD, List.getElem?_eq_getElem (by omega)]; rfl
    have hb0 := Int.emod_nonneg (ns.getD at_.toNat 0) (show (1000000000000000003 : Int) ≠ 0 by decide)
    have hb1 := Int.emod_lt_of_pos (ns.getD at_.toNat 0) (show (0 : Int) < 1000000000000000003 by decide)
    wide_line with ⟨hl, hi, hk1, hk2, hk3⟩
    refine ⟨_, rfl, _, _, _, rfl, ?_, by omega, by omega, by omega, by omega⟩
    split <;> omega
  · wide_line with ⟨hl, hk1, hk2, hk3⟩
    exact ⟨_, rfl, _, _, _, rfl, by omega, by omega, by omega, by omega, by omega⟩
theorem r_drawn_comb [H__law_drawn_comb T] (n : Nat) (m : D) (N most : Int) (h : Tk N m) (hN : N ≤ 10 ^ 8) (h1 : 1 ≤ most) (h2 : most ≤ 24) :
    ∃ c m', (fns T (n + 2) 163).run [m, .int most] = .ok (en c) (some m') ∧ Cb c ∧ c.1 ≤ most ∧ Tk (N + 30) m' := by
  rw [v__law_drawn_comb, b__law_drawn_comb]
  obtain ⟨v1, m1, e1, a1, b1, t1⟩ := r_tap (T := T) n m N most h (by omega) h1 (by omega)
  obtain ⟨v2, m2, e2, a2, b2, t2⟩ := r_tap (T := T) n m1 _ 4 t1 (by omega) (by omega) (by omega)
  obtain ⟨v3, m3, e3, a3, b3, t3⟩ := r_tap (T := T) n m2 _ 4 t2 (by omega) (by omega) (by omega)
  obtain ⟨sz, hsz, hs1, hs2⟩ : ∃ sz : Int, sz = (if v2 = 0 then most else 1 + v1) ∧ 1 ≤ sz ∧ sz ≤ most := ⟨_, rfl, by split <;> omega, by split <;> omega⟩
  have hok : okI sz = true := okI_of (by omega) (by omega)
  have hix : atI [D.int (1 + v1), D.int most] (if v2 = 0 then 1 else 0) = some (.int sz) := by
    rw [hsz]
    by_cases h0 : v2 = 0
    · rw [if_pos h0, if_pos h0]; exact atI_1 _ _ _
    · rw [if_neg h0, if_neg h0]; exact atI_0 _ _
  wide_line with ⟨e1, e2, e3, hix, hok⟩
  obtain ⟨ρ', e, m4, rs, sp, rfl, _, t4, hp, hb⟩ := for_inv (t := .v 3) (b := evSs (fns T (n + 1)) l__law_drawn_comb_1) D.int
    (fun p ρ => ∃ (m' : D) (rs : List Int) (sp : Slot), ρ = [.mp m', .sh (.int most), .sh (.int sz), sp, .sh (.int v3), .ow (.lst (rs.map D.int))] ∧ Fr sp ∧ Tk (N + 3 + p.length) m' ∧ rs.Pairwise (· < ·) ∧ ∀ t ∈ rs, 0 ≤ t ∧ t < p.length) (upto sz.toNat) [] [.mp m3, .sh (.int most), .sh (.int sz), .un, .sh (.int v3), .ow (.lst [])]
    ⟨m3, [], .un, rfl, Fr.un, t3.mono (by simp; omega), List.Pairwise.nil, fun _ h => by cases h⟩ (fun p x s ρ hx ⟨m', rs, sp, hρ, hsp, t, hpw, hb⟩ => by
      subst hρ
      have hx' : x = p.length := upto_split hx
      have hlen : p.length + (s.length + 1) = sz.toNat := by have := congrArg List.length hx; simpa [len_upto] using this.symm
      refine ⟨_, by wide_line with ⟨kSh_fr hsp⟩; rfl, ?_⟩
      rw [l__law_drawn_comb_1]
      have hpw' : (rs ++ [x]).Pairwise (· < ·) := pw_snoc hpw fun t ht => by have := hb t ht; omega
      have hb' : ∀ t ∈ rs ++ [x], 0 ≤ t ∧ t < ((p ++ [x]).length : Int) := fun t ht => by
        rw [List.length_append, List.length_singleton]
        rcases List.mem_append.mp ht with ht | ht
        · have := hb t ht; omega
        · rw [List.mem_singleton] at ht; omega
      have hb2 : ∀ t ∈ rs, 0 ≤ t ∧ t < ((p ++ [x]).length : Int) := fun t ht => by
        rw [List.length_append, List.length_singleton]
        have := hb t ht; omega
      have hlr : rs.length ≤ 24 := by
        have := pw_len rs 0 p.length hpw (fun t ht => (hb t ht).1) (fun t ht => (hb t ht).2) (by omega)
        omega
      have hsz2 : (rs.length < sizeLine) = True := eq_true (lt_sz (by omega))
      have hm : rs.map D.int ++ [D.int x] = (rs ++ [x]).map D.int := by simp
      by_cases hk0 : v3 = 0
      · wide_line with ⟨hk0, hsz2, hm⟩
        exact ⟨_, .inl rfl, m', rs ++ [x], _, rfl, Fr.sh _, t.mono (by simp; omega), hpw', hb'⟩
      · by_cases hk1 : 1 < v3
        · obtain ⟨v, m4, e4, a4, b4, t4⟩ := r_tap (T := T) n m' _ (v3 + 1) t (by omega) (by omega) (by omega)
          by_cases hv : v = 0
          · wide_line with ⟨hk0, hk1, e4, hv, hsz2, hm⟩
            exact ⟨_, .inl rfl, m4, rs ++ [x], _, rfl, Fr.sh _, t4.mono (by simp; omega), hpw', hb'⟩
          · wide_line with ⟨hk0, hk1, e4, hv, hsz2, hm⟩
            exact ⟨_, .inl rfl, m4, rs, _, rfl, Fr.sh _, t4.mono (by simp; omega), hpw, hb2⟩
        · wide_line with ⟨hk0, hk1, hsz2, hm⟩
          exact ⟨_, .inl rfl, m', rs, _, rfl, Fr.sh _, t.mono (by simp; omega), hpw, hb2⟩)
  rw [List.nil_append, len_upto] at t4 hb
  have hmx : N + 3 + ((sz.toNat : Nat) : Int) ≤ N + 29 := by omega
  have hmn : N + 3 + ((sz.toNat : Nat) : Int) ≤ 10 ^ 9 := by omega
  by_cases hr : rs = []
  · subst hr
    obtain ⟨v5, m5, e5, a5, b5, t5⟩ := r_tap (T := T) n m4 _ sz t4 hmn (by omega) (by omega)
    rw [List.map_nil] at e
    wide_line with ⟨e, e5⟩
    refine ⟨(sz, [v5]), m5, rfl, ⟨by simpa using hs1, by simp; omega, by simp, List.pairwise_singleton _ _, ?_, ?_⟩, hs2, t5.mono (by omega)⟩
    · intro t ht; rw [List.mem_singleton] at ht; omega
    · intro t ht; rw [List.mem_singleton] at ht; show t < sz; omega
  · wide_line with ⟨e, hr⟩
    refine ⟨(sz, rs), m4, rfl, ⟨hs1, by show sz ≤ 24; omega, hr, hp, fun t ht => (hb t ht).1, fun t ht => ?_⟩, hs2, t4.mono (by omega)⟩
    have := (hb t ht).2
    show t < sz; omega
end
end TW.P
end
/-! P8 -/
section
set_option Elab.async false
set_option linter.all false
set_option maxRecDepth 100000
set_option maxHeartbeats 4000000
set_option exponentiation.threshold 100000
set_option autoImplicit false
/-! TW, plain part 8: drawn devices; a law's own moves. -/
namespace TW.P
open PySem PySem.Spec L2
open PyProof.Rows hiding St
open Code (en)
local macro_rules | `(tactic| walk_at "tw") => `(tactic| simp only [get_v, get_f, get_b, kGet_ow, kGet_mp, kGet_sh, esc_v, esc_f, esc_b, kEsc_ow, kEsc_sh, kOp2_ss, kOp1_s, of_s, of_n, bd_ok, bd_no, bd_ex, ev_int, ev_str, ev_bl, ev_non, ev_glob, ev_var, kVar_sh, kVar_ow, kVar_mp, kBinR_a, kBinL_a, ev_bin, kNeg_a, ev_neg, kNotR_a, kTru_s, kNot_a, ev_not, kCmpR_a, kCmpL_a, ev_cmp, kC2c_a, kAndR_t, kAndR_f, kAndR_ok, kOrR_f, kOrR_t, kOrR_ok, kC2t_a, kC2R_a, kC2L_a, ev_cmp2, kAnd_a, ev_and, kOr_a, ev_or, kSel_t, kSel_f, kSel_int, kSel_same, kIfeT_a, kIfe_a, ev_ife, kTup_a, kLst_a, ev_tup, ev_lst, kIxR_a, kIxL_a, ev_ix, kPt_a, kBound_t, kBound_f, kSlH_a, kSlL_a, kSl_a, ev_sl, kRev_a, ev_rev, kCall_a, pmut_n, ev_call, kBi_a, ev_bc, kMtR_a, kMt_a, ev_mth, kLrR_a, kLrL_a, ev_lrange, kPopR_s, kPop_a, kBack_a, kEsT_a, kEsD_a, kEs_a, es_n, es_c, kEsA_a, kEsS1_l, kEsS1_t, kEsS_a, es_s, kAsT_a, kAs_a, as_n, as_c, kItD_a, kIt_a, it_seq, it_enum, kZpE_a, kZpY_a, kZpD_a, kZp_a, it_zip, r1D_a, kR1_a, it_r1, r2D_a, kR2R_a, kR2L_a, it_r2, kOp3_s, kR3C_a, kR3R_a, kR3L_a, it_r3, kT_a, t_eq, lcC_t, lcC_f, kSs_nx, kSs_rt, kSs_bk, kSs_ct, ss_n, ss_c, kOw_un, kOw_sh, kOw_ow, kTgR_s, kTg_a, kAsgO_a, kAsg_a, s_asgO, s_asg, kStP_a, s_asgp, kPsT_a, kPsD_a, kPs_a, kPsO_a, ps_n, ps_f, ps_t, kSet3_s, kSet2_a, kSet1_a, kSet_a, s_setix, kAug3_s, kAug2_a, kAug_s, s_aug, kApp1_a, kApp_a, s_app, kExp_a, s_exp, kIf_t, kIf_f, s_ifs, kFor_a, s_for, s_while, kRet_a, s_retE, s_retN, s_brk, s_cont, s_pass, bin_add, bin_sub, bin_mod, bin_mul, bin_div, bin_pow, bin_addS, bin_addL, bin_mulL, cmp_lt, cmp_le, cmp_gt, cmp_ge, cmp_eq, cmp_ne, cmp_in, cmp_ni, cmp_is, cmp_isn, cmpB_a, isN_n, isN_i, isN_t, isN_l, omap_s, obind_s, obind_n, negB_i, tru_b, tru_i, ixB_a, ix_l, ix_t, atI_0, atI_1, atI_2, atI_3, bi_len, bi_lenT, bi_int, bi_intB, bi_abs, bi_max, bi_min, bi_list, bi_repr, pt_i, slD_l, rev_l, itD_l, itD_t, enD_l, enD_t, zipD_l, lrD_i, getAll_n, kGetC_s, getAll_c, setSh_a, kSh_un, kSh_sh, kSh_ow, setAll_n, setAll_c, tgD_v, tgD_t0, tgD_tp, tgD_pp, st_n, kStO_un, kStO_sh, kStO_ow, st_o, st_s, ownD_a, kOwn_ow, kOwn_mp, ownL_a, kOwnL_l, setOwn_a, kSetO_ow, kSetO_mp, app_l, setD_l, kSetD_s, kCallF_t, kCallF_f, kCallN_ok, kCallK_ow, kCallK_mp, kCallL_ok, kCall1_n, kCall1_s, kCall2_s, noB_n, noB_v, noB_f, frz_n, frz_v, frz_f, frz_b, kFrz_ow, kFrz_sh, opdOf_t, opdOf_f, flat_l, flat_t, imm_i, imm_b, imm_s, imm_n, imm_t, imm_l, imms_n, imms_c, imms_ints, call_eq, kRet2_s, kRun_ok, ret_v, ret_f, ret_nx, kRetB_ow, ret_b, lent_n, kLent_mp, lent_s, for_n, ev_lc, ev_lc2, List.getElem?_cons_zero, List.getElem?_cons_succ, List.set_cons_zero, List.set_cons_succ, List.length_cons, List.length_nil, List.map_cons, List.map_nil, List.length_map, List.nil_append, List.cons_append, List.eraseIdx_cons_zero, List.eraseIdx_cons_succ, ite_true, ite_false, if_true, if_false, Bool.and_true, Bool.true_and, Bool.and_false, Bool.false_and, Bool.or_true, Bool.true_or, Bool.or_false, Bool.false_or, Bool.not_true, Bool.not_false, decide_true, decide_false, decide_eq_true_eq, Bool.and_eq_true, and_true, true_and, Bool.and_self, Bool.decide_eq_true, reduceIte, Nat.reduceAdd, Nat.reduceLeDiff, Nat.reduceLT, Nat.reduceEqDiff, Int.reduceLT, Int.reduceLE, Int.reduceNeg, Int.reduceToNat, Int.reduceEq, Bool.false_eq_true, eq_self, Nat.zero_add, Int.reduceAdd, Int.reduceSub, Int.reduceMul, Int.reducePow, le_sz0, le_sz1, le_sz2, le_sz3, le_sz4, le_sz5, le_sz6, Int.reduceGT, Int.reduceGE, Bool.cond_true, cond_false, wipeL_n, wipeL_c, backL_n, backL_c, clrL_n, clrL_c, kClr_un, kClr_sh, le_sz7, le_sz8, List.getD_cons_zero, List.getD_cons_succ, eqD_int, eqD_ints, inD_ints, eqD_nilI, eqD_nil0, eqD_str, isi_tt, isi_ll, isi_ii, isi_bi, bi_all, cut_1, rng_01, zip_ints, Int.cast_ofNat_Int, nc0, nc1, drop1_map, ixN_10, ixN_20, ixN_21, ixN_30, ixN_31, ixN_32])
local macro_rules | `(tactic| wide_line with ⟨$as,*⟩) => `(tactic| simp only [get_v, get_f, get_b, kGet_ow, kGet_mp, kGet_sh, esc_v, esc_f, esc_b, kEsc_ow, kEsc_sh, kOp2_ss, kOp1_s, of_s, of_n, bd_ok, bd_no, bd_ex, ev_int, ev_str, ev_bl, ev_non, ev_glob, ev_var, kVar_sh, kVar_ow, kVar_mp, kBinR_a, kBinL_a, ev_bin, kNeg_a, ev_neg, kNotR_a, kTru_s, kNot_a, ev_not, kCmpR_a, kCmpL_a, ev_cmp, kC2c_a, kAndR_t, kAndR_f, kAndR_ok, kOrR_f, kOrR_t, kOrR_ok, kC2t_a, kC2R_a, kC2L_a, ev_cmp2, kAnd_a, ev_and, kOr_a, ev_or, kSel_t, kSel_f, kSel_int, kSel_same, kIfeT_a, kIfe_a, ev_ife, kTup_a, kLst_a, ev_tup, ev_lst, kIxR_a, kIxL_a, ev_ix, kPt_a, kBound_t, kBound_f, kSlH_a, kSlL_a, kSl_a, ev_sl, kRev_a, ev_rev, kCall_a, pmut_n, ev_call, kBi_a, ev_bc, kMtR_a, kMt_a, ev_mth, kLrR_a, kLrL_a, ev_lrange, kPopR_s, kPop_a, kBack_a, kEsT_a, kEsD_a, kEs_a, es_n, es_c, kEsA_a, kEsS1_l, kEsS1_t, kEsS_a, es_s, kAsT_a, kAs_a, as_n, as_c, kItD_a, kIt_a, it_seq, it_enum, kZpE_a, kZpY_a, kZpD_a, kZp_a, it_zip, r1D_a, kR1_a, it_r1, r2D_a, kR2R_a, kR2L_a, it_r2, kOp3_s, kR3C_a, kR3R_a, kR3L_a, it_r3, kT_a, t_eq, lcC_t, lcC_f, kSs_nx, kSs_rt, kSs_bk, kSs_ct, ss_n, ss_c, kOw_un, kOw_sh, kOw_ow, kTgR_s, kTg_a, kAsgO_a, kAsg_a, s_asgO, s_asg, kStP_a, s_asgp, kPsT_a, kPsD_a, kPs_a, kPsO_a, ps_n, ps_f, ps_t, kSet3_s, kSet2_a, kSet1_a, kSet_a, s_setix, kAug3_s, kAug2_a, kAug_s, s_aug, kApp1_a, kApp_a, s_app, kExp_a, s_exp, kIf_t, kIf_f, s_ifs, kFor_a, s_for, s_while, kRet_a, s_retE, s_retN, s_brk, s_cont, s_pass, bin_add, bin_sub, bin_mod, bin_mul, bin_div, bin_pow, bin_addS, bin_addL, bin_mulL, cmp_lt, cmp_le, cmp_gt, cmp_ge, cmp_eq, cmp_ne, cmp_in, cmp_ni, cmp_is, cmp_isn, cmpB_a, isN_n, isN_i, isN_t, isN_l, omap_s, obind_s, obind_n, negB_i, tru_b, tru_i, ixB_a, ix_l, ix_t, atI_0, atI_1, atI_2, atI_3, bi_len, bi_lenT, bi_int, bi_intB, bi_abs, bi_max, bi_min, bi_list, bi_repr, pt_i, slD_l, rev_l, itD_l, itD_t, enD_l, enD_t, zipD_l, lrD_i, getAll_n, kGetC_s, getAll_c, setSh_a, kSh_un, kSh_sh, kSh_ow, setAll_n, setAll_c, tgD_v, tgD_t0, tgD_tp, tgD_pp, st_n, kStO_un, kStO_sh, kStO_ow, st_o, st_s, ownD_a, kOwn_ow, kOwn_mp, ownL_a, kOwnL_l, setOwn_a, kSetO_ow, kSetO_mp, app_l, setD_l, kSetD_s, kCallF_t, kCallF_f, kCallN_ok, kCallK_ow, kCallK_mp, kCallL_ok, kCall1_n, kCall1_s, kCall2_s, noB_n, noB_v, noB_f, frz_n, frz_v, frz_f, frz_b, kFrz_ow, kFrz_sh, opdOf_t, opdOf_f, flat_l, flat_t, imm_i, imm_b, imm_s, imm_n, imm_t, imm_l, imms_n, imms_c, imms_ints, call_eq, kRet2_s, kRun_ok, ret_v, ret_f, ret_nx, kRetB_ow, ret_b, lent_n, kLent_mp, lent_s, for_n, ev_lc, ev_lc2, List.getElem?_cons_zero, List.getElem?_cons_succ, List.set_cons_zero, List.set_cons_succ, List.length_cons, List.length_nil, List.map_cons, List.map_nil, List.length_map, List.nil_append, List.cons_append, List.eraseIdx_cons_zero, List.eraseIdx_cons_succ, ite_true, ite_false, if_true, if_false, Bool.and_true, Bool.true_and, Bool.and_false, Bool.false_and, Bool.or_true, Bool.true_or, Bool.or_false, Bool.false_or, Bool.not_true, Bool.not_false, decide_true, decide_false, decide_eq_true_eq, Bool.and_eq_true, and_true, true_and, Bool.and_self, Bool.decide_eq_true, reduceIte, Nat.reduceAdd, Nat.reduceLeDiff, Nat.reduceLT, Nat.reduceEqDiff, Int.reduceLT, Int.reduceLE, Int.reduceNeg, Int.reduceToNat, Int.reduceEq, Bool.false_eq_true, eq_self, Nat.zero_add, Int.reduceAdd, Int.reduceSub, Int.reduceMul, Int.reducePow, le_sz0, le_sz1, le_sz2, le_sz3, le_sz4, le_sz5, le_sz6, Int.reduceGT, Int.reduceGE, Bool.cond_true, cond_false, wipeL_n, wipeL_c, backL_n, backL_c, clrL_n, clrL_c, kClr_un, kClr_sh, le_sz7, le_sz8, List.getD_cons_zero, List.getD_cons_succ, eqD_int, eqD_ints, inD_ints, eqD_nilI, eqD_nil0, eqD_str, isi_tt, isi_ll, isi_ii, isi_bi, bi_all, cut_1, rng_01, zip_ints, Int.cast_ofNat_Int, nc0, nc1, drop1_map, ixN_10, ixN_20, ixN_21, ixN_30, ixN_31, ixN_32, $[$as:term],*])
theorem imm_cm (c : Cm) : (en c).imm = false := rfl
theorem imm_dv (d : Dv) : (en d).imm = false := rfl
theorem imm_ii (p : Int × Int) : (en p).imm = true := rfl
section
variable {T : List (Nat × Df)}
theorem r_drawn_rig [H__law_drawn_rig T] (n : Nat) (m : D) (N most : Int) (h : Tk N m) (hN : N ≤ 10 ^ 7) (h1 : 1 ≤ most) (h2 : most ≤ 24) :
    ∃ d m', (fns T (n + 3) 164).run [m, .int most] = .ok (en d) (some m') ∧ DvOk d ∧ d.1.1 ≤ most ∧ d.2.1 ≤ most ∧ Tk (N + 70) m' := by
  rw [v__law_drawn_rig, b__law_drawn_rig]
  obtain ⟨c, m1, e1, hc, hc1, t1⟩ := r_drawn_comb (T := T) n m N most h (by omega) h1 h2
  obtain ⟨v2, m2, e2, a2, b2, t2⟩ := r_tap (T := T) (n + 1) m1 _ 9 t1 (by omega) (by omega) (by omega)
  rw [en_cm] at e1
  by_cases hv : v2 = 0
  · wide_line with ⟨e1, e2, hv⟩
    exact ⟨(c, c), m2, rfl, ⟨hc, hc⟩, hc1, hc1, t2.mono (by omega)⟩
  · obtain ⟨c', m3, e3, hc', hc1', t3⟩ := r_drawn_comb (T := T) n m2 _ most t2 (by omega) h1 h2
    rw [en_cm] at e3
    wide_line with ⟨e1, e2, hv, e3⟩
    exact ⟨(c, c'), m3, rfl, ⟨hc, hc'⟩, hc1, hc1', t3.mono (by omega)⟩
theorem r_law_below [H__law_below_v0 T] (n : Nat) (c : Cm) (x : Int) (h : Cb c) : (fns T (n + 1) 65).run [en c, .int x] = .ok (.int (below c x)) none := by
  rw [v__law_below_v0, b__law_below_v0]
  have hp := h.pos
  have hb := (below_is h x).1
  obtain ⟨ρ', e, rfl⟩ := wh_inv (c := evT (fns T n) w__law_below_v0_1) (b := evSs (fns T n) l__law_below_v0_1) (fun ρ => ∃ y, ρ = [.sh (en c), .sh (.int y)] ∧ below c x ≤ y ∧ y ≤ x) (fun ρ => ρ = [.sh (en c), .sh (.int (below c x))])
    (fun ρ => match ρ with
      | [_, .sh (.int y)] => (y - below c x).toNat
      | _ => 0) (fun ρ ⟨y, hρ, h1, h2⟩ => by
      subst hρ
      rw [w__law_below_v0_1, l__law_below_v0_1]
      wide_line with ⟨en_cm, hp⟩
      refine ⟨_, _, rfl, fun hf => ?_, fun ht => ?_⟩
      · have hm : y % c.1 ∈ c.2 := by simpa using hf
        have := hb.top y h2 hm
        have : y = below c x := by omega
        rw [this]
      · have hm : ¬ y % c.1 ∈ c.2 := by simpa using ht
        have : y ≠ below c x := fun q => hm (by rw [q]; exact hb.at_)
        exact ⟨_, rfl, ⟨y - 1, rfl, by omega, by omega⟩, by show (y - 1 - below c x).toNat < (y - below c x).toNat; omega⟩) [.sh (en c), .sh (.int x)] ⟨x, rfl, hb.le, Int.le_refl _⟩
  wide_line with ⟨e⟩
theorem r_law_step [H__law_step_v0 T] (n : Nat) (d : Dv) (h k m : Int) (hd : DvOk d) : (fns T (n + 2) 165).run [en d, .int h, .int k, .int m] = .ok (en (mvd d h k m)) none := by
  rw [v__law_step_v0, b__law_step_v0]
  unfold mvd mx
  by_cases hm : 0 < m
  · wide_line with ⟨hm, en_dv, en_ii, r_law_below (T := T) n d.2 (h - k) hd.c⟩
  · wide_line with ⟨hm, en_dv, en_ii, r_law_below (T := T) n d.1 h hd.g⟩
theorem app_starts (d : Dv) (p : List Int) (x : Int) : ((p ++ [x]).flatMap fun g => ((upto d.2.1.toNat).filter fun c => decide (g ∈ d.1.2) || decide (c ∈ d.2.2)).map fun c => (g, c)) = (p.flatMap fun g => ((upto d.2.1.toNat).filter fun c => decide (g ∈ d.1.2) || decide (c ∈ d.2.2)).map fun c => (g, c)) ++ ((upto d.2.1.toNat).filter fun c => decide (x ∈ d.1.2) || decide (c ∈ d.2.2)).map fun c => (x, c) := by
  rw [List.flatMap_append]; simp
theorem r_law_starts [H__law_starts T] (n : Nat) (d : Dv) (h : DvOk d) : (fns T (n + 1) 297).run [en d] = .ok (en (startsL d)) none := by
  rw [v__law_starts, b__law_starts]
  have h1 : okI d.1.1 = true := okI_of (by have := h.g.p1; omega) (by have := h.g.p24; omega)
  have h2 : okI d.2.1 = true := okI_of (by have := h.c.p1; omega) (by have := h.c.p24; omega)
  have g24 := h.g.p24
  have c24 := h.c.p24
  wide_line with ⟨en_dv, en_cm, h1⟩
  obtain ⟨ρ', e, s2, rfl, _⟩ := for_inv (t := .v 2) (b := evSs (fns T n) l__law_starts_1) D.int
    (fun p ρ => ∃ (s2 : Slot), ρ = [Slot.sh (D.tup [D.tup [D.int d.1.1, D.lst (d.1.2.map D.int)], D.tup [D.int d.2.1, D.lst (d.2.2.map D.int)]]), .sh (.lst ((p.flatMap fun g => ((upto d.2.1.toNat).filter fun c => decide (g ∈ d.1.2) || decide (c ∈ d.2.2)).map fun c => (g, c)).map en)), s2, Slot.sh (D.int d.1.1), Slot.sh (D.lst (d.1.2.map D.int)), Slot.sh (D.int d.2.1), Slot.sh (D.lst (d.2.2.map D.int)), .un] ∧ Fr s2) (upto d.1.1.toNat) [] [Slot.sh (D.tup [D.tup [D.int d.1.1, D.lst (d.1.2.map D.int)], D.tup [D.int d.2.1, D.lst (d.2.2.map D.int)]]), .sh (.lst []), .un, Slot.sh (D.int d.1.1), Slot.sh (D.lst (d.1.2.map D.int)), Slot.sh (D.int d.2.1), Slot.sh (D.lst (d.2.2.map D.int)), .un]
    ⟨.un, rfl, Fr.un⟩ (fun p x s ρ hx ⟨s2, hρ, hs2⟩ => by
      subst hρ
      have hx' : x = p.length := upto_split hx
      have hlen : p.length + (s.length + 1) = d.1.1.toNat := by have := congrArg List.length hx; simpa [len_upto] using this.symm
      refine ⟨_, by wide_line with ⟨kSh_fr hs2⟩; rfl, ?_⟩
      rw [l__law_starts_1]
      wide_line with ⟨h2⟩
      rw [lc_map D.int (fun c => decide (x ∈ d.1.2) || decide (c ∈ d.2.2)) (fun c => .tup [.int x, .int c]) rfl (upto d.2.1.toNat) (le_sz (by rw [len_upto]; omega)) (fun t _ => by
        refine ⟨_, rfl, ?_⟩
        refine ⟨by rw [c__law_starts_1]; walk_at "tw", rfl, rfl, fun _ => ?_⟩
        rw [e__law_starts_1]; exact ⟨_, rfl, rfl⟩)]
      have hl : ∀ xs : List Int, (xs.flatMap fun g => ((upto d.2.1.toNat).filter fun c => decide (g ∈ d.1.2) || decide (c ∈ d.2.2)).map fun c => (g, c)).length ≤ xs.length * 24 := by
        intro xs
        induction xs with
        | nil => simp
        | cons x xs ih =>
          rw [List.flatMap_cons, List.length_append, List.length_cons, List.length_map]
          have := List.length_filter_le (fun c => decide (x ∈ d.1.2) || decide (c ∈ d.2.2)) (upto d.2.1.toNat)
          rw [len_upto] at this
          omega
      have hz : ((p.flatMap fun g => ((upto d.2.1.toNat).filter fun c => decide (g ∈ d.1.2) || decide (c ∈ d.2.2)).map fun c => (g, c)).length + ((upto d.2.1.toNat).filter fun c => decide (x ∈ d.1.2) || decide (c ∈ d.2.2)).length ≤ sizeLine) = True := by
        have h3 := hl p
        have h4 := List.length_filter_le (fun c => decide (x ∈ d.1.2) || decide (c ∈ d.2.2)) (upto d.2.1.toNat)
        rw [len_upto] at h4
        exact eq_true (le_sz (by omega))
      wide_line with ⟨hz⟩
      refine ⟨_, .inl rfl, .sh (.int x), ?_, Fr.sh _⟩
      rw [app_starts, List.map_append, List.map_map]; rfl)
  wide_line with ⟨e⟩
  rfl
/-- a law's look at a start: the same, seven pitches higher -/
theorem mvd_shift (d : Dv) (h k m j : Int) : mvd d (h + d.1.1 * j) (k + d.1.1 * j) m = ((mvd d h k m).1 + d.1.1 * j, (mvd d h k m).2 + d.1.1 * j) := by
  unfold mvd
  split
  · rw [show h + d.1.1 * j - (k + d.1.1 * j) = h - k by omega]
    exact Prod.ext (by simp only []; omega) (by simp only []; omega)
  · rw [below_shift]
    refine Prod.ext ?_ (by simp only []; omega)
    show mx (h + d.1.1 * j + m) (below d.1 h + d.1.1 * j) = mx (h + m) (below d.1 h) + d.1.1 * j
    rw [mx_eq, mx_eq]; omega
theorem seenP_shift (d : Dv) (j : Int) : ∀ (l : List (Int × Int)) (h k : Int), seenP d (h + d.1.1 * j) (k + d.1.1 * j) l = (seenP d h k l).map fun p => (p.1 + d.1.1 * j, p.2 + d.1.1 * j)
  | [], h, k => rfl
  | (m, r) :: l, h, k => by
    rw [seenP, seenP, mvd_shift]
    simp only []
    rw [show (mvd d h k m).1 + d.1.1 * j - (h + d.1.1 * j) = (mvd d h k m).1 - h by omega]
    by_cases hr : (mvd d h k m).1 - h = r
    · rw [if_pos hr, if_pos hr, seenP_shift d j l]
    · rw [if_neg hr, if_neg hr]; rfl
theorem for_law_seen [H__law_seen T] (n : Nat) (d : Dv) (hd : DvOk d) (s0 : D) (s1 : D) : ∀ (l : List (Int × Int)) (h k : Int) (a b c : Slot), Fr a → Fr b → Fr c → ∃ fl ρ, forL (.t0 [5, 6]) (evSs (fns T (n + 2)) l__law_seen_1) (l.map en) [.sh (en d), .sh s0, .sh s1, .sh (.int h), .sh (.int k), a, b, c] = .ok fl ρ ∧
    (seenP d h k l = none ∧ fl = .rt (.v .non) ∨ ∃ p a b c, seenP d h k l = some p ∧ fl = .nx ∧ ρ = [.sh (en d), .sh s0, .sh s1, .sh (.int p.1), .sh (.int p.2), a, b, c])
  | [], h, k, a, b, c, _, _, _ => ⟨_, _, rfl, .inr ⟨(h, k), a, b, c, rfl, rfl, rfl⟩⟩
  | (m, r) :: l, h, k, a, b, c, ha, hb, hc => by
    have em := r_law_step (T := T) n d h k m hd
    rw [List.map_cons, forL]
    rw [seenP]
    by_cases hr : (mvd d h k m).1 - h = r
    · obtain ⟨fl, ρ, e, q⟩ := for_law_seen n d hd s0 s1 l (mvd d h k m).1 (mvd d h k m).2 (.sh (.int m)) (.sh (.int r)) (.sh (en (mvd d h k m))) (Fr.sh _) (Fr.sh _) (Fr.sh _)
      refine ⟨fl, ρ, ?_, by rw [if_pos hr]; exact q⟩
      rw [← e]
      wide_line with ⟨en_ii, kSh_fr ha, kSh_fr hb, kSh_fr hc, l__law_seen_1, em, hr⟩
    · refine ⟨.rt (.v .non), [.sh (en d), .sh s0, .sh s1, .sh (.int h), .sh (.int k), .sh (.int m), .sh (.int r), .sh (en (mvd d h k m))], ?_, .inl ⟨by rw [if_neg hr], rfl⟩⟩
      wide_line with ⟨en_ii, kSh_fr ha, kSh_fr hb, kSh_fr hc, l__law_seen_1, em, hr⟩
theorem r_law_seenX [H__law_seen T] (n : Nat) (d : Dv) (hd : DvOk d) (st : Int × Int) (l : List (Int × Int)) : (fns T (n + 3) 298).run [en d, en st, en l] = .ok (enP (seenP d (st.1 + 7 * d.1.1) (st.1 + 7 * d.1.1 - st.2) l)) none := by
  have hk1 : mulI 7 = true := mulI_of (by decide) (by decide)
  have hk2 : mulI d.1.1 = true := mulI_of (by have := hd.g.p1; omega) (by have := hd.g.p24; omega)
  rw [v__law_seen, b__law_seen]
  obtain ⟨fl, ρ, e, q⟩ := for_law_seen (T := T) n d hd (en st) (en l) l (st.1 + 7 * d.1.1) (st.1 + 7 * d.1.1 - st.2) .un .un .un Fr.un Fr.un Fr.un
  rw [en_llk, en_ii, en_dv, en_cm, en_cm] at e
  wide_line with ⟨en_llk, en_ii, en_dv, en_cm, hk1, hk2, e⟩
  rcases q with ⟨q, rfl⟩ | ⟨p, a, b, c, q, rfl, rfl⟩
  · rw [q]; walk_at "tw"; rfl
  · rw [q]; walk_at "tw"; rfl
theorem r_law_seen [H__law_seen T] (n : Nat) (d : Dv) (hd : DvOk d) (st : Int × Int) (l : List (Int × Int)) : ∃ o, (fns T (n + 3) 298).run [en d, en st, en l] = .ok (enP o) none ∧ o.isSome = (seenP d st.1 (st.1 - st.2) l).isSome := by
  refine ⟨_, r_law_seenX n d hd st l, ?_⟩
  rw [show st.1 + 7 * d.1.1 - st.2 = st.1 - st.2 + d.1.1 * 7 by omega, show st.1 + 7 * d.1.1 = st.1 + d.1.1 * 7 by omega, seenP_shift]
  cases seenP d st.1 (st.1 - st.2) l <;> rfl
end
end TW.P
end
/-! P9 -/
section
set_option Elab.async false
set_option linter.all false
set_option maxRecDepth 100000
set_option maxHeartbeats 4000000
set_option exponentiation.threshold 100000
set_option autoImplicit false
/-! TW, plain part 9: drawn looks. -/
namespace TW.P
open PySem PySem.Spec L2
open PyProof.Rows hiding St
open Code (en)
local macro_rules | `(tactic| walk_at "tw") => `(tactic| simp only [get_v, get_f, get_b, kGet_ow, kGet_mp, kGet_sh, esc_v, esc_f, esc_b, kEsc_ow, kEsc_sh, kOp2_ss, kOp1_s, of_s, of_n, bd_ok, bd_no, bd_ex, ev_int, ev_str, ev_bl, ev_non, ev_glob, ev_var, kVar_sh, kVar_ow, kVar_mp, kBinR_a, kBinL_a, ev_bin, kNeg_a, ev_neg, kNotR_a, kTru_s, kNot_a, ev_not, kCmpR_a, kCmpL_a, ev_cmp, kC2c_a, kAndR_t, kAndR_f, kAndR_ok, kOrR_f, kOrR_t, kOrR_ok, kC2t_a, kC2R_a, kC2L_a, ev_cmp2, kAnd_a, ev_and, kOr_a, ev_or, kSel_t, kSel_f, kSel_int, kSel_same, kIfeT_a, kIfe_a, ev_ife, kTup_a, kLst_a, ev_tup, ev_lst, kIxR_a, kIxL_a, ev_ix, kPt_a, kBound_t, kBound_f, kSlH_a, kSlL_a, kSl_a, ev_sl, kRev_a, ev_rev, kCall_a, pmut_n, ev_call, kBi_a, ev_bc, kMtR_a, kMt_a, ev_mth, kLrR_a, kLrL_a, ev_lrange, kPopR_s, kPop_a, kBack_a, kEsT_a, kEsD_a, kEs_a, es_n, es_c, kEsA_a, kEsS1_l, kEsS1_t, kEsS_a, es_s, kAsT_a, kAs_a, as_n, as_c, kItD_a, kIt_a, it_seq, it_enum, kZpE_a, kZpY_a, kZpD_a, kZp_a, it_zip, r1D_a, kR1_a, it_r1, r2D_a, kR2R_a, kR2L_a, it_r2, kOp3_s, kR3C_a, kR3R_a, kR3L_a, it_r3, kT_a, t_eq, lcC_t, lcC_f, kSs_nx, kSs_rt, kSs_bk, kSs_ct, ss_n, ss_c, kOw_un, kOw_sh, kOw_ow, kTgR_s, kTg_a, kAsgO_a, kAsg_a, s_asgO, s_asg, kStP_a, s_asgp, kPsT_a, kPsD_a, kPs_a, kPsO_a, ps_n, ps_f, ps_t, kSet3_s, kSet2_a, kSet1_a, kSet_a, s_setix, kAug3_s, kAug2_a, kAug_s, s_aug, kApp1_a, kApp_a, s_app, kExp_a, s_exp, kIf_t, kIf_f, s_ifs, kFor_a, s_for, s_while, kRet_a, s_retE, s_retN, s_brk, s_cont, s_pass, bin_add, bin_sub, bin_mod, bin_mul, bin_div, bin_pow, bin_addS, bin_addL, bin_mulL, cmp_lt, cmp_le, cmp_gt, cmp_ge, cmp_eq, cmp_ne, cmp_in, cmp_ni, cmp_is, cmp_isn, cmpB_a, isN_n, isN_i, isN_t, isN_l, omap_s, obind_s, obind_n, negB_i, tru_b, tru_i, ixB_a, ix_l, ix_t, atI_0, atI_1, atI_2, atI_3, bi_len, bi_lenT, bi_int, bi_intB, bi_abs, bi_max, bi_min, bi_list, bi_repr, pt_i, slD_l, rev_l, itD_l, itD_t, enD_l, enD_t, zipD_l, lrD_i, getAll_n, kGetC_s, getAll_c, setSh_a, kSh_un, kSh_sh, kSh_ow, setAll_n, setAll_c, tgD_v, tgD_t0, tgD_tp, tgD_pp, st_n, kStO_un, kStO_sh, kStO_ow, st_o, st_s, ownD_a, kOwn_ow, kOwn_mp, ownL_a, kOwnL_l, setOwn_a, kSetO_ow, kSetO_mp, app_l, setD_l, kSetD_s, kCallF_t, kCallF_f, kCallN_ok, kCallK_ow, kCallK_mp, kCallL_ok, kCall1_n, kCall1_s, kCall2_s, noB_n, noB_v, noB_f, frz_n, frz_v, frz_f, frz_b, kFrz_ow, kFrz_sh, opdOf_t, opdOf_f, flat_l, flat_t, imm_i, imm_b, imm_s, imm_n, imm_t, imm_l, imms_n, imms_c, imms_ints, call_eq, kRet2_s, kRun_ok, ret_v, ret_f, ret_nx, kRetB_ow, ret_b, lent_n, kLent_mp, lent_s, for_n, ev_lc, ev_lc2, List.getElem?_cons_zero, List.getElem?_cons_succ, List.set_cons_zero, List.set_cons_succ, List.length_cons, List.length_nil, List.map_cons, List.map_nil, List.length_map, List.nil_append, List.cons_append, List.eraseIdx_cons_zero, List.eraseIdx_cons_succ, ite_true, ite_false, if_true, if_false, Bool.and_true, Bool.true_and, Bool.and_false, Bool.false_and, Bool.or_true, Bool.true_or, Bool.or_false, Bool.false_or, Bool.not_true, Bool.not_false, decide_true, decide_false, decide_eq_true_eq, Bool.and_eq_true, and_true, true_and, Bool.and_self, Bool.decide_eq_true, reduceIte, Nat.reduceAdd, Nat.reduceLeDiff, Nat.reduceLT, Nat.reduceEqDiff, Int.reduceLT, Int.reduceLE, Int.reduceNeg, Int.reduceToNat, Int.reduceEq, Bool.false_eq_true, eq_self, Nat.zero_add, Int.reduceAdd, Int.reduceSub, Int.reduceMul, Int.reducePow, le_sz0, le_sz1, le_sz2, le_sz3, le_sz4, le_sz5, le_sz6, Int.reduceGT, Int.reduceGE, Bool.cond_true, cond_false, wipeL_n, wipeL_c, backL_n, backL_c, clrL_n, clrL_c, kClr_un, kClr_sh, le_sz7, le_sz8, List.getD_cons_zero, List.getD_cons_succ, eqD_int, eqD_ints, inD_ints, eqD_nilI, eqD_nil0, eqD_str, isi_tt, isi_ll, isi_ii, isi_bi, bi_all, cut_1, rng_01, zip_ints, Int.cast_ofNat_Int, nc0, nc1, drop1_map, ixN_10, ixN_20, ixN_21, ixN_30, ixN_31, ixN_32])
local macro_rules | `(tactic| wide_line with ⟨$as,*⟩) => `(tactic| simp only [get_v, get_f, get_b, kGet_ow, kGet_mp, kGet_sh, esc_v, esc_f, esc_b, kEsc_ow, kEsc_sh, kOp2_ss, kOp1_s, of_s, of_n, bd_ok, bd_no, bd_ex, ev_int, ev_str, ev_bl, ev_non, ev_glob, ev_var, kVar_sh, kVar_ow, kVar_mp, kBinR_a, kBinL_a, ev_bin, kNeg_a, ev_neg, kNotR_a, kTru_s, kNot_a, ev_not, kCmpR_a, kCmpL_a, ev_cmp, kC2c_a, kAndR_t, kAndR_f, kAndR_ok, kOrR_f, kOrR_t, kOrR_ok, kC2t_a, kC2R_a, kC2L_a, ev_cmp2, kAnd_a, ev_and, kOr_a, ev_or, kSel_t, kSel_f, kSel_int, kSel_same, kIfeT_a, kIfe_a, ev_ife, kTup_a, kLst_a, ev_tup, ev_lst, kIxR_a, kIxL_a, ev_ix, kPt_a, kBound_t, kBound_f, kSlH_a, kSlL_a, kSl_a, ev_sl, kRev_a, ev_rev, kCall_a, pmut_n, ev_call, kBi_a, ev_bc, kMtR_a, kMt_a, ev_mth, kLrR_a, kLrL_a, ev_lrange, kPopR_s, kPop_a, kBack_a, kEsT_a, kEsD_a, kEs_a, es_n, es_c, kEsA_a, kEsS1_l, kEsS1_t, kEsS_a, es_s, kAsT_a, kAs_a, as_n, as_c, kItD_a, kIt_a, it_seq, it_enum, kZpE_a, kZpY_a, kZpD_a, kZp_a, it_zip, r1D_a, kR1_a, it_r1, r2D_a, kR2R_a, kR2L_a, it_r2, kOp3_s, kR3C_a, kR3R_a, kR3L_a, it_r3, kT_a, t_eq, lcC_t, lcC_f, kSs_nx, kSs_rt, kSs_bk, kSs_ct, ss_n, ss_c, kOw_un, kOw_sh, kOw_ow, kTgR_s, kTg_a, kAsgO_a, kAsg_a, s_asgO, s_asg, kStP_a, s_asgp, kPsT_a, kPsD_a, kPs_a, kPsO_a, ps_n, ps_f, ps_t, kSet3_s, kSet2_a, kSet1_a, kSet_a, s_setix, kAug3_s, kAug2_a, kAug_s, s_aug, kApp1_a, kApp_a, s_app, kExp_a, s_exp, kIf_t, kIf_f, s_ifs, kFor_a, s_for, s_while, kRet_a, s_retE, s_retN, s_brk, s_cont, s_pass, bin_add, bin_sub, bin_mod, bin_mul, bin_div, bin_pow, bin_addS, bin_addL, bin_mulL, cmp_lt, cmp_le, cmp_gt, cmp_ge, cmp_eq, cmp_ne, cmp_in, cmp_ni, cmp_is, cmp_isn, cmpB_a, isN_n, isN_i, isN_t, isN_l, omap_s, obind_s, obind_n, negB_i, tru_b, tru_i, ixB_a, ix_l, ix_t, atI_0, atI_1, atI_2, atI_3, bi_len, bi_lenT, bi_int, bi_intB, bi_abs, bi_max, bi_min, bi_list, bi_repr, pt_i, slD_l, rev_l, itD_l, itD_t, enD_l, enD_t, zipD_l, lrD_i, getAll_n, kGetC_s, getAll_c, setSh_a, kSh_un, kSh_sh, kSh_ow, setAll_n, setAll_c, tgD_v, tgD_t0, tgD_tp, tgD_pp, st_n, kStO_un, kStO_sh, kStO_ow, st_o, st_s, ownD_a, kOwn_ow, kOwn_mp, ownL_a, kOwnL_l, setOwn_a, kSetO_ow, kSetO_mp, app_l, setD_l, kSetD_s, kCallF_t, kCallF_f, kCallN_ok, kCallK_ow, kCallK_mp, kCallL_ok, kCall1_n, kCall1_s, kCall2_s, noB_n, noB_v, noB_f, frz_n, frz_v, frz_f, frz_b, kFrz_ow, kFrz_sh, opdOf_t, opdOf_f, flat_l, flat_t, imm_i, imm_b, imm_s, imm_n, imm_t, imm_l, imms_n, imms_c, imms_ints, call_eq, kRet2_s, kRun_ok, ret_v, ret_f, ret_nx, kRetB_ow, ret_b, lent_n, kLent_mp, lent_s, for_n, ev_lc, ev_lc2, List.getElem?_cons_zero, List.getElem?_cons_succ, List.set_cons_zero, List.set_cons_succ, List.length_cons, List.length_nil, List.map_cons, List.map_nil, List.length_map, List.nil_append, List.cons_append, List.eraseIdx_cons_zero, List.eraseIdx_cons_succ, ite_true, ite_false, if_true, if_false, Bool.and_true, Bool.true_and, Bool.and_false, Bool.false_and, Bool.or_true, Bool.true_or, Bool.or_false, Bool.false_or, Bool.not_true, Bool.not_false, decide_true, decide_false, decide_eq_true_eq, Bool.and_eq_true, and_true, true_and, Bool.and_self, Bool.decide_eq_true, reduceIte, Nat.reduceAdd, Nat.reduceLeDiff, Nat.reduceLT, Nat.reduceEqDiff, Int.reduceLT, Int.reduceLE, Int.reduceNeg, Int.reduceToNat, Int.reduceEq, Bool.false_eq_true, eq_self, Nat.zero_add, Int.reduceAdd, Int.reduceSub, Int.reduceMul, Int.reducePow, le_sz0, le_sz1, le_sz2, le_sz3, le_sz4, le_sz5, le_sz6, Int.reduceGT, Int.reduceGE, Bool.cond_true, cond_false, wipeL_n, wipeL_c, backL_n, backL_c, clrL_n, clrL_c, kClr_un, kClr_sh, le_sz7, le_sz8, List.getD_cons_zero, List.getD_cons_succ, eqD_int, eqD_ints, inD_ints, eqD_nilI, eqD_nil0, eqD_str, isi_tt, isi_ll, isi_ii, isi_bi, bi_all, cut_1, rng_01, zip_ints, Int.cast_ofNat_Int, nc0, nc1, drop1_map, ixN_10, ixN_20, ixN_21, ixN_30, ixN_31, ixN_32, $[$as:term],*])
theorem pick2 {v a b : Int} (h0 : 0 ≤ v) (h1 : v < 2) : ∃ w, atI [D.int a, D.int b] v = some (.int w) ∧ (w = a ∨ w = b) := by
  rcases two h0 h1 with rfl | rfl
  · exact ⟨a, atI_0 _ _, .inl rfl⟩
  · exact ⟨b, atI_1 _ _ _, .inr rfl⟩
theorem pick3 {v a b c : Int} (h0 : 0 ≤ v) (h1 : v < 3) : ∃ w, atI [D.int a, D.int b, D.int c] v = some (.int w) ∧ (w = a ∨ w = b ∨ w = c) := by
  rcases three h0 h1 with rfl | rfl | rfl
  · exact ⟨a, atI_0 _ _, .inl rfl⟩
  · exact ⟨b, atI_1 _ _ _, .inr (.inl rfl)⟩
  · exact ⟨c, atI_2 _ _ _ _, .inr (.inr rfl)⟩
theorem atI_map {α β : Type} (f : α → β) {l : List α} {v : Int} (h0 : 0 ≤ v) (h1 : v < l.length) : ∃ x, x ∈ l ∧ l[v.toNat]? = some x ∧ atI (l.map f) v = some (f x) := by
  have hl : v.toNat < l.length := by omega
  refine ⟨l[v.toNat], List.getElem_mem hl, List.getElem?_eq_getElem hl, ?_⟩
  rw [atI_nat h0 (by simpa using h1), List.getElem?_map, List.getElem?_eq_getElem hl]; rfl
theorem mem_startsL {d : Dv} {st : Int × Int} (h : st ∈ startsL d) : (0 ≤ st.1 ∧ st.1 < d.1.1) ∧ 0 ≤ st.2 ∧ st.2 < d.2.1 := by
  unfold startsL at h
  rw [List.mem_flatMap] at h
  obtain ⟨g, hg, h⟩ := h
  rw [List.mem_map] at h
  obtain ⟨c, hc, rfl⟩ := h
  have h1 := mem_upto.mp hg
  have h2 := mem_upto.mp (List.mem_filter.mp hc).1
  exact ⟨by simp only []; omega, by simp only []; omega⟩
theorem startsL_ne {d : Dv} (h : DvOk d) : startsL d ≠ [] := by
  have hl := last_mem h.g.ne
  have h0 := h.g.lo _ hl
  have h1 := h.g.hi _ hl
  have h2 := h.c.p1
  intro e
  have : (lastI d.1.2, (0 : Int)) ∈ startsL d := by
    unfold startsL
    refine List.mem_flatMap.mpr ⟨lastI d.1.2, mem_upto.mpr (by omega), List.mem_map.mpr ⟨0, List.mem_filter.mpr ⟨mem_upto.mpr (by omega), ?_⟩, rfl⟩⟩
    rw [decide_eq_true hl]; rfl
  rw [e] at this; cases this
theorem rise_le {d : Dv} (hd : DvOk d) (h k m : Int) : -(if 0 < m then m else -m) ≤ (mvd d h k m).1 - h ∧ (mvd d h k m).1 - h ≤ (if 0 < m then m else -m) := by
  have h1 := below_le hd.g h
  have h2 := below_le hd.c (h - k)
  unfold mvd
  split
  · rw [mx_eq]; simp only []; omega
  · rw [mx_eq]; simp only []; omega
def Bd (x : Int × Int) : Prop := x.1 ≠ 0 ∧ -(10 ^ 40) ≤ x.1 ∧ x.1 ≤ 10 ^ 40 ∧ -(10 ^ 40) ≤ x.2 ∧ x.2 ≤ 10 ^ 40
section
variable {T : List (Nat × Df)}
theorem r_drawn_notes [H__law_drawn_notes T] (n : Nat) (m : D) (N : Int) (d : Dv) (count far : Int) (h : Tk N m) (hd : DvOk d) (hN : N ≤ 10 ^ 8) (hc0 : 0 ≤ count) (hc1 : count ≤ 12) (hf0 : 1 ≤ far) (hf1 : far ≤ 10 ^ 39) :
    ∃ l m', (fns T (n + 3) 299).run [m, en d, .int count, .int far] = .ok (en l) (some m') ∧ LkOk l ∧ (∀ x ∈ l, Bd x) ∧ Tk (N + 100) m' := by
  rw [v__law_drawn_notes, b__law_drawn_notes]
  have es := r_law_starts (T := T) (n + 1) d hd
  have hne := startsL_ne hd
  have hln := len_startsL d hd
  have hlp : 0 < (startsL d).length := List.length_pos_iff.mpr hne
  obtain ⟨v1, m1, e1, a1, b1, t1⟩ := r_tap (T := T) (n + 1) m N (startsL d).length h (by omega) (by omega) (by omega)
  obtain ⟨st, hst, _, hat⟩ := atI_map (en : Int × Int → D) a1 b1
  have hok : okI count = true := okI_of (by omega) (by omega)
  rw [en_llk] at es
  wide_line with ⟨es, imm_l, e1, hat, en_ii, hok⟩
  obtain ⟨ρ', e, m4, fd, here, palm, tn, by_, lt, rfl, _, _, _, t4, hlen, hb⟩ := for_inv (t := .v 5) (b := evSs (fns T (n + 2)) l__law_drawn_notes_1) D.int
    (fun p ρ => ∃ (m' : D) (fd : List (Int × Int)) (here palm : Int) (tn by_ lt : Slot), ρ = [.mp m', .sh (en d), .sh (.int count), .sh (.int far), .sh (.tup [.int st.1, .int st.2]), tn, .sh (.lst ((startsL d).map en)), .ow (.lst (fd.map en)), .sh (.int here), .sh (.int palm), by_, lt, .un] ∧ Fr tn ∧ Fr by_ ∧ Fr lt ∧ Tk (N + 1 + 3 * p.length) m' ∧ fd.length = p.length ∧ ∀ x ∈ fd, x.1 ≠ 0 ∧ -(10 ^ 39) ≤ x.1 ∧ x.1 ≤ 10 ^ 39 ∧ -(10 ^ 39) ≤ x.2 ∧ x.2 ≤ 10 ^ 39) (upto count.toNat) []
    [.mp m1, .sh (en d), .sh (.int count), .sh (.int far), .sh (.tup [.int st.1, .int st.2]), .un, .sh (.lst ((startsL d).map en)), .ow (.lst []), .sh (.int st.1), .sh (.int (st.1 - st.2)), .un, .un, .un]
    ⟨m1, [], _, _, .un, .un, .un, rfl, Fr.un, Fr.un, Fr.un, t1.mono (by simp), rfl, fun _ h => by cases h⟩ (fun p x s ρ hx ⟨m', fd, here, palm, tn, by_, lt, hρ, htn, hby, hlt, t, hlen, hb⟩ => by
      subst hρ
      have hlen2 : p.length + (s.length + 1) = count.toNat := by have := congrArg List.length hx; simpa [len_upto] using this.symm
      refine ⟨_, by wide_line with ⟨kSh_fr htn⟩; rfl, ?_⟩
      rw [l__law_drawn_notes_1]
      obtain ⟨v2, m2, e2, a2, b2, t2⟩ := r_tap (T := T) (n + 1) m' _ 3 t (by omega) (by omega) (by omega)
      obtain ⟨w2, g2, c2⟩ := pick3 (a := 3) (b := 30) (c := far) a2 b2
      obtain ⟨v3, m3, e3, a3, b3, t3⟩ := r_tap (T := T) (n + 1) m2 _ w2 t2 (by omega) (by omega) (by omega)
      obtain ⟨v4, m4, e4, a4, b4, t4⟩ := r_tap (T := T) (n + 1) m3 _ 2 t3 (by omega) (by omega) (by omega)
      obtain ⟨w4, g4, c4⟩ := pick2 (a := 1) (b := -1) a4 b4
      have k1 : mulI (1 + v3) = true := mulI_of (by omega) (by omega)
      have k2 : mulI w4 = true := mulI_of (by omega) (by omega)
      have hmv : -(10 ^ 39) ≤ (1 + v3) * w4 ∧ (1 + v3) * w4 ≤ 10 ^ 39 ∧ (1 + v3) * w4 ≠ 0 := by rcases c4 with rfl | rfl <;> omega
      have er := r_law_step (T := T) n d here palm ((1 + v3) * w4) hd
      have hri := rise_le hd here palm ((1 + v3) * w4)
      have hz : (fd.length < sizeLine) = True := eq_true (lt_sz (by omega))
      wide_line with ⟨e2, g2, e3, e4, g4, k1, k2, kOw_fr hby, kSh_fr hby, kSh_fr hlt, er, en_ii, hz⟩
      refine ⟨_, .inl rfl, m4, fd ++ [((1 + v3) * w4, (mvd d here palm ((1 + v3) * w4)).1 - here)], (mvd d here palm ((1 + v3) * w4)).1, (mvd d here palm ((1 + v3) * w4)).2, .sh _, .sh _, .sh _, by rw [List.map_append]; rfl, Fr.sh _, Fr.sh _, Fr.sh _, t4.mono (by simp; omega), by simp [hlen], fun y hy => ?_⟩
      rcases List.mem_append.mp hy with hy | hy
      · exact hb y hy
      · rw [List.mem_singleton] at hy; subst hy
        refine ⟨hmv.2.2, hmv.1, hmv.2.1, ?_⟩
        simp only []
        split at hri <;> omega)
  rw [List.nil_append, len_upto] at t4 hlen
  have hb' : ∀ x ∈ fd, Bd x := fun x hx => by have := hb x hx; exact ⟨this.1, by omega, by omega, by omega, by omega⟩
  by_cases hf : fd = []
  · subst hf
    rw [List.map_nil] at e
    wide_line with ⟨e⟩
    exact ⟨[], m4, rfl, ⟨by simp, by simp⟩, by simp, t4.mono (by omega)⟩
  have hfp : 0 < fd.length := List.length_pos_iff.mpr hf
  obtain ⟨v5, m5, e5, a5, b5, t5⟩ := r_tap (T := T) (n + 1) m4 _ 3 t4 (by omega) (by omega) (by omega)
  by_cases hv : v5 = 0
  · obtain ⟨v6, m6, e6, a6, b6, t6⟩ := r_tap (T := T) (n + 1) m5 _ fd.length t5 (by omega) (by omega) (by omega)
    obtain ⟨v7, m7, e7, a7, b7, t7⟩ := r_tap (T := T) (n + 1) m6 _ 3 t6 (by omega) (by omega) (by omega)
    obtain ⟨y, hy, hy2, gy⟩ := atI_map (en : Int × Int → D) a6 b6
    obtain ⟨w7, g7, c7⟩ := pick3 (a := 1) (b := -1) (c := 7) a7 b7
    have hix : ixN fd.length v6 = some v6.toNat := ixN_nat a6 b6
    wide_line with ⟨e, eqD_nilE (α := Int × Int) (by decide), hf, e5, hv, e6, gy, en_ii, e7, g7, hix⟩
    refine ⟨fd.set v6.toNat (y.1, y.2 + w7), m7, by rw [en_llk, List.map_set]; rfl, ⟨by rw [List.length_set]; omega, fun x hx => ?_⟩, fun x hx => ?_, t7.mono (by omega)⟩
    · rcases List.mem_or_eq_of_mem_set hx with hx | rfl
      · exact (hb x hx).1
      · exact (hb y hy).1
    · rcases List.mem_or_eq_of_mem_set hx with hx | rfl
      · exact hb' x hx
      · have := hb y hy
        exact ⟨this.1, by simp only []; omega, by simp only []; omega, by simp only []; omega, by simp only []; omega⟩
  · wide_line with ⟨e, eqD_nilE (α := Int × Int) (by decide), hf, e5, hv⟩
    exact ⟨fd, m5, rfl, ⟨by omega, fun x hx => (hb x hx).1⟩, hb', t5.mono (by omega)⟩
theorem sm_bd {x : Int × Int} (h : Bd x) : Code.sm x := ⟨sm_int (by have := h.2.1; omega) (by have := h.2.2.1; omega), sm_int (by have := h.2.2.2.1; omega) (by have := h.2.2.2.2; omega)⟩
theorem sho_looks {l : List (Int × Int)} (hl : l.length ≤ 1000) (h : ∀ x ∈ l, Code.sm x) : Sho (en l) (l.length * 6 + 1) 2 := by
  have := Sho.lst (w := 5) (k := 1) (l := l.map en) fun d hd => by
    obtain ⟨x, hx, rfl⟩ := List.mem_map.mp hd
    exact Sho.en x (h x hx)
  rw [List.length_map] at this
  exact this
theorem sho_cm {c : Cm} (h : Cb c) : Sho (en c) 54 2 := by
  have hl := h.len
  have h1 := Sho.lst (w := 1) (k := 0) (l := c.2.map D.int) fun d hd => by
    obtain ⟨t, ht, rfl⟩ := List.mem_map.mp hd
    exact Sho.int (i := t) (sm_int (by have := h.lo t ht; omega) (by have := h.hi t ht; have := h.p24; omega))
  rw [List.length_map] at h1
  replace h1 : Sho (en c.2) (c.2.length * 2 + 1) 1 := h1
  have h2 : Sho (.int c.1) 1 0 := Sho.int (i := c.1) (sm_int (by have := h.p1; omega) (by have := h.p24; omega))
  obtain ⟨p, g1, g2, g3, g4, g5⟩ := h1
  obtain ⟨q, k1, k2, k3, k4, k5⟩ := h2
  refine ⟨.tuple [q, p], ?_, by rw [PyData.showable, PyData.showableAll, PyData.showableAll, PyData.showableAll, k2, g2]; rfl, by rw [PyData.leavesShort, PyData.leavesShortAll, PyData.leavesShortAll, PyData.leavesShortAll, k3, g3]; rfl, by rw [nd, ndAll, ndAll, ndAll]; omega, by rw [PyData.depth, PyData.depthAll, PyData.depthAll, PyData.depthAll]; omega⟩
  show (D.pys [.int c.1, en c.2]).map PyData.tuple = _
  rw [D.pys, D.pys, D.pys, k1, g1]; rfl
theorem sho_pair {a b : D} {w1 k1 w2 k2 : Nat} (h1 : Sho a w1 k1) (h2 : Sho b w2 k2) : Sho (.tup [a, b]) (w1 + w2 + 3) (max k1 k2 + 1) ∧ Sho (.lst [a, b]) (w1 + w2 + 3) (max k1 k2 + 1) := by
  obtain ⟨p, g1, g2, g3, g4, g5⟩ := h1
  obtain ⟨q, k1, k2, k3, k4, k5⟩ := h2
  have hp : D.pys [a, b] = some [p, q] := by rw [D.pys, D.pys, D.pys, g1, k1]
  refine ⟨⟨.tuple [p, q], by show (D.pys [a, b]).map PyData.tuple = _; rw [hp]; rfl, ?_, ?_, ?_, ?_⟩, ⟨.list [p, q], by show (D.pys [a, b]).map PyData.list = _; rw [hp]; rfl, ?_, ?_, ?_, ?_⟩⟩
  · rw [PyData.showable, PyData.showableAll, PyData.showableAll, PyData.showableAll, k2, g2]; rfl
  · rw [PyData.leavesShort, PyData.leavesShortAll, PyData.leavesShortAll, PyData.leavesShortAll, k3, g3]; rfl
  · rw [nd, ndAll, ndAll, ndAll]; omega
  · rw [PyData.depth, PyData.depthAll, PyData.depthAll, PyData.depthAll]; omega
  · rw [PyData.showable, PyData.showableAll, PyData.showableAll, PyData.showableAll, k2, g2]; rfl
  · rw [PyData.leavesShort, PyData.leavesShortAll, PyData.leavesShortAll, PyData.leavesShortAll, k3, g3]; rfl
  · rw [nd, ndAll, ndAll, ndAll]; omega
  · rw [PyData.depth, PyData.depthAll, PyData.depthAll, PyData.depthAll]; omega
theorem sho_dv {d : Dv} (h : DvOk d) : Sho (en d) 111 3 := (sho_pair (sho_cm h.g) (sho_cm h.c)).1
end
theorem pmut_10 (a b : Opd) : pmut [1, 0] [a, b] = [b, a] := rfl
theorem fitsL_mem {d : Dv} {l : List (Int × Int)} {st : Int × Int} (h : st ∈ fitsL d l) : st ∈ startsL d := (List.mem_filter.mp h).1
theorem len_fitsL {d : Dv} (hd : DvOk d) (l : List (Int × Int)) : (fitsL d l).length ≤ 576 := Nat.le_trans (List.length_filter_le _ _) (len_startsL d hd)
theorem sho_fits {d : Dv} (hd : DvOk d) (l : List (Int × Int)) : Sho (en (fitsL d l)) 4000 2 := by
  have := Sho.lst (w := 5) (k := 1) (l := (fitsL d l).map en) fun e he => by
    obtain ⟨x, hx, rfl⟩ := List.mem_map.mp he
    have h1 := mem_startsL (fitsL_mem hx)
    have := hd.g.p24
    have := hd.c.p24
    exact Sho.en x ⟨sm_int (by omega) (by omega), sm_int (by omega) (by omega)⟩
  rw [List.length_map] at this
  have hl := len_fitsL hd l
  exact this.mono (by omega) (by omega)
/-- may be bound anew -/
def Nm (s : Slot) : Prop := ∀ d, s ≠ .mp d
theorem Nm.un : Nm .un := fun _ h => by cases h
theorem Nm.ow (d : D) : Nm (.ow d) := fun _ h => by cases h
theorem Nm.sh (d : D) : Nm (.sh d) := fun _ h => by cases h
theorem kOw_nm {s : Slot} (h : Nm s) (i : Nat) (d : D) (ρ : Loc) : kOw i d ρ (some s) = .ok .nx (ρ.set i (.ow d)) := by
  cases s with
  | mp e => exact absurd rfl (h e)
  | _ => rfl
theorem Tk.flat {n : Int} {m : D} (h : Tk n m) : flatD m = true := by
  obtain ⟨a, b, c, rfl, _⟩ := h
  rfl
theorem imm_lii (l : List (Int × Int)) : (en l).imm = false := rfl
theorem flat_lii (l : List (Int × Int)) : flatD (en l) = true := imms_ii l
def d35 : Dv := ((3, [0]), (5, [0]))
theorem d35_ok : DvOk d35 := ⟨⟨by decide, by decide, by decide, by decide, by decide, by decide⟩, ⟨by decide, by decide, by decide, by decide, by decide, by decide⟩⟩
end TW.P
end
/-! L33 -/
section
set_option Elab.async false
set_option linter.all false
set_option maxRecDepth 100000
set_option maxHeartbeats 4000000
set_option exponentiation.threshold 100000
set_option autoImplicit false
/-! TW: k33. -/
namespace TW.P
open PySem PySem.Spec L2
open PyProof.Rows hiding St
open Code (en)
local macro_rules | `(tactic| walk_at "tw") => `(tactic| simp only [get_v, get_f, get_b, kGet_ow, kGet_mp, kGet_sh, esc_v, esc_f, esc_b, kEsc_ow, kEsc_sh, kOp2_ss, kOp1_s, of_s, of_n, bd_ok, bd_no, bd_ex, ev_int, ev_str, ev_bl, ev_non, ev_glob, ev_var, kVar_sh, kVar_ow, kVar_mp, kBinR_a, kBinL_a, ev_bin, kNeg_a, ev_neg, kNotR_a, kTru_s, kNot_a, ev_not, kCmpR_a, kCmpL_a, ev_cmp, kC2c_a, kAndR_t, kAndR_f, kAndR_ok, kOrR_f, kOrR_t, kOrR_ok, kC2t_a, kC2R_a, kC2L_a, ev_cmp2, kAnd_a, ev_and, kOr_a, ev_or, kSel_t, kSel_f, kSel_int, kSel_same, kIfeT_a, kIfe_a, ev_ife, kTup_a, kLst_a, ev_tup, ev_lst, kIxR_a, kIxL_a, ev_ix, kPt_a, kBound_t, kBound_f, kSlH_a, kSlL_a, kSl_a, ev_sl, kRev_a, ev_rev, kCall_a, pmut_n, ev_call, kBi_a, ev_bc, kMtR_a, kMt_a, ev_mth, kLrR_a, kLrL_a, ev_lrange, kPopR_s, kPop_a, kBack_a, kEsT_a, kEsD_a, kEs_a, es_n, es_c, kEsA_a, kEsS1_l, kEsS1_t, kEsS_a, es_s, kAsT_a, kAs_a, as_n, as_c, kItD_a, kIt_a, it_seq, it_enum, kZpE_a, kZpY_a, kZpD_a, kZp_a, it_zip, r1D_a, kR1_a, it_r1, r2D_a, kR2R_a, kR2L_a, it_r2, kOp3_s, kR3C_a, kR3R_a, kR3L_a, it_r3, kT_a, t_eq, lcC_t, lcC_f, kSs_nx, kSs_rt, kSs_bk, kSs_ct, ss_n, ss_c, kOw_un, kOw_sh, kOw_ow, kTgR_s, kTg_a, kAsgO_a, kAsg_a, s_asgO, s_asg, kStP_a, s_asgp, kPsT_a, kPsD_a, kPs_a, kPsO_a, ps_n, ps_f, ps_t, kSet3_s, kSet2_a, kSet1_a, kSet_a, s_setix, kAug3_s, kAug2_a, kAug_s, s_aug, kApp1_a, kApp_a, s_app, kExp_a, s_exp, kIf_t, kIf_f, s_ifs, kFor_a, s_for, s_while, kRet_a, s_retE, s_retN, s_brk, s_cont, s_pass, bin_add, bin_sub, bin_mod, bin_mul, bin_div, bin_pow, bin_addS, bin_addL, bin_mulL, cmp_lt, cmp_le, cmp_gt, cmp_ge, cmp_eq, cmp_ne, cmp_in, cmp_ni, cmp_is, cmp_isn, cmpB_a, isN_n, isN_i, isN_t, isN_l, omap_s, obind_s, obind_n, negB_i, tru_b, tru_i, ixB_a, ix_l, ix_t, atI_0, atI_1, atI_2, atI_3, bi_len, bi_lenT, bi_int, bi_intB, bi_abs, bi_max, bi_min, bi_list, bi_repr, pt_i, slD_l, rev_l, itD_l, itD_t, enD_l, enD_t, zipD_l, lrD_i, getAll_n, kGetC_s, getAll_c, setSh_a, kSh_un, kSh_sh, kSh_ow, setAll_n, setAll_c, tgD_v, tgD_t0, tgD_tp, tgD_pp, st_n, kStO_un, kStO_sh, kStO_ow, st_o, st_s, ownD_a, kOwn_ow, kOwn_mp, ownL_a, kOwnL_l, setOwn_a, kSetO_ow, kSetO_mp, app_l, setD_l, kSetD_s, kCallF_t, kCallF_f, kCallN_ok, kCallK_ow, kCallK_mp, kCallL_ok, kCall1_n, kCall1_s, kCall2_s, noB_n, noB_v, noB_f, frz_n, frz_v, frz_f, frz_b, kFrz_ow, kFrz_sh, opdOf_t, opdOf_f, flat_l, flat_t, imm_i, imm_b, imm_s, imm_n, imm_t, imm_l, imms_n, imms_c, imms_ints, call_eq, kRet2_s, kRun_ok, ret_v, ret_f, ret_nx, kRetB_ow, ret_b, lent_n, kLent_mp, lent_s, for_n, ev_lc, ev_lc2, List.getElem?_cons_zero, List.getElem?_cons_succ, List.set_cons_zero, List.set_cons_succ, List.length_cons, List.length_nil, List.map_cons, List.map_nil, List.length_map, List.nil_append, List.cons_append, List.eraseIdx_cons_zero, List.eraseIdx_cons_succ, ite_true, ite_false, if_true, if_false, Bool.and_true, Bool.true_and, Bool.and_false, Bool.false_and, Bool.or_true, Bool.true_or, Bool.or_false, Bool.false_or, Bool.not_true, Bool.not_false, decide_true, decide_false, decide_eq_true_eq, Bool.and_eq_true, and_true, true_and, Bool.and_self, Bool.decide_eq_true, reduceIte, Nat.reduceAdd, Nat.reduceLeDiff, Nat.reduceLT, Nat.reduceEqDiff, Int.reduceLT, Int.reduceLE, Int.reduceNeg, Int.reduceToNat, Int.reduceEq, Bool.false_eq_true, eq_self, Nat.zero_add, Int.reduceAdd, Int.reduceSub, Int.reduceMul, Int.reducePow, le_sz0, le_sz1, le_sz2, le_sz3, le_sz4, le_sz5, le_sz6, Int.reduceGT, Int.reduceGE, Bool.cond_true, cond_false, wipeL_n, wipeL_c, backL_n, backL_c, clrL_n, clrL_c, kClr_un, kClr_sh, le_sz7, le_sz8, List.getD_cons_zero, List.getD_cons_succ, eqD_int, eqD_ints, inD_ints, eqD_nilI, eqD_nil0, eqD_str, isi_tt, isi_ll, isi_ii, isi_bi, bi_all, cut_1, rng_01, zip_ints, Int.cast_ofNat_Int, nc0, nc1, drop1_map, ixN_10, ixN_20, ixN_21, ixN_30, ixN_31, ixN_32])
local macro_rules | `(tactic| wide_line with ⟨$as,*⟩) => `(tactic| simp only [get_v, get_f, get_b, kGet_ow, kGet_mp, kGet_sh, esc_v, esc_f, esc_b, kEsc_ow, kEsc_sh, kOp2_ss, kOp1_s, of_s, of_n, bd_ok, bd_no, bd_ex, ev_int, ev_str, ev_bl, ev_non, ev_glob, ev_var, kVar_sh, kVar_ow, kVar_mp, kBinR_a, kBinL_a, ev_bin, kNeg_a, ev_neg, kNotR_a, kTru_s, kNot_a, ev_not, kCmpR_a, kCmpL_a, ev_cmp, kC2c_a, kAndR_t, kAndR_f, kAndR_ok, kOrR_f, kOrR_t, kOrR_ok, kC2t_a, kC2R_a, kC2L_a, ev_cmp2, kAnd_a, ev_and, kOr_a, ev_or, kSel_t, kSel_f, kSel_int, kSel_same, kIfeT_a, kIfe_a, ev_ife, kTup_a, kLst_a, ev_tup, ev_lst, kIxR_a, kIxL_a, ev_ix, kPt_a, kBound_t, kBound_f, kSlH_a, kSlL_a, kSl_a, ev_sl, kRev_a, ev_rev, kCall_a, pmut_n, ev_call, kBi_a, ev_bc, kMtR_a, kMt_a, ev_mth, kLrR_a, kLrL_a, ev_lrange, kPopR_s, kPop_a, kBack_a, kEsT_a, kEsD_a, kEs_a, es_n, es_c, kEsA_a, kEsS1_l, kEsS1_t, kEsS_a, es_s, kAsT_a, kAs_a, as_n, as_c, kItD_a, kIt_a, it_seq, it_enum, kZpE_a, kZpY_a, kZpD_a, kZp_a, it_zip, r1D_a, kR1_a, it_r1, r2D_a, kR2R_a, kR2L_a, it_r2, kOp3_s, kR3C_a, kR3R_a, kR3L_a, it_r3, kT_a, t_eq, lcC_t, lcC_f, kSs_nx, kSs_rt, kSs_bk, kSs_ct, ss_n, ss_c, kOw_un, kOw_sh, kOw_ow, kTgR_s, kTg_a, kAsgO_a, kAsg_a, s_asgO, s_asg, kStP_a, s_asgp, kPsT_a, kPsD_a, kPs_a, kPsO_a, ps_n, ps_f, ps_t, kSet3_s, kSet2_a, kSet1_a, kSet_a, s_setix, kAug3_s, kAug2_a, kAug_s, s_aug, kApp1_a, kApp_a, s_app, kExp_a, s_exp, kIf_t, kIf_f, s_ifs, kFor_a, s_for, s_while, kRet_a, s_retE, s_retN, s_brk, s_cont, s_pass, bin_add, bin_sub, bin_mod, bin_mul, bin_div, bin_pow, bin_addS, bin_addL, bin_mulL, cmp_lt, cmp_le, cmp_gt, cmp_ge, cmp_eq, cmp_ne, cmp_in, cmp_ni, cmp_is, cmp_isn, cmpB_a, isN_n, isN_i, isN_t, isN_l, omap_s, obind_s, obind_n, negB_i, tru_b, tru_i, ixB_a, ix_l, ix_t, atI_0, atI_1, atI_2, atI_3, bi_len, bi_lenT, bi_int, bi_intB, bi_abs, bi_max, bi_min, bi_list, bi_repr, pt_i, slD_l, rev_l, itD_l, itD_t, enD_l, enD_t, zipD_l, lrD_i, getAll_n, kGetC_s, getAll_c, setSh_a, kSh_un, kSh_sh, kSh_ow, setAll_n, setAll_c, tgD_v, tgD_t0, tgD_tp, tgD_pp, st_n, kStO_un, kStO_sh, kStO_ow, st_o, st_s, ownD_a, kOwn_ow, kOwn_mp, ownL_a, kOwnL_l, setOwn_a, kSetO_ow, kSetO_mp, app_l, setD_l, kSetD_s, kCallF_t, kCallF_f, kCallN_ok, kCallK_ow, kCallK_mp, kCallL_ok, kCall1_n, kCall1_s, kCall2_s, noB_n, noB_v, noB_f, frz_n, frz_v, frz_f, frz_b, kFrz_ow, kFrz_sh, opdOf_t, opdOf_f, flat_l, flat_t, imm_i, imm_b, imm_s, imm_n, imm_t, imm_l, imms_n, imms_c, imms_ints, call_eq, kRet2_s, kRun_ok, ret_v, ret_f, ret_nx, kRetB_ow, ret_b, lent_n, kLent_mp, lent_s, for_n, ev_lc, ev_lc2, List.getElem?_cons_zero, List.getElem?_cons_succ, List.set_cons_zero, List.set_cons_succ, List.length_cons, List.length_nil, List.map_cons, List.map_nil, List.length_map, List.nil_append, List.cons_append, List.eraseIdx_cons_zero, List.eraseIdx_cons_succ, ite_true, ite_false, if_true, if_false, Bool.and_true, Bool.true_and, Bool.and_false, Bool.false_and, Bool.or_true, Bool.true_or, Bool.or_false, Bool.false_or, Bool.not_true, Bool.not_false, decide_true, decide_false, decide_eq_true_eq, Bool.and_eq_true, and_true, true_and, Bool.and_self, Bool.decide_eq_true, reduceIte, Nat.reduceAdd, Nat.reduceLeDiff, Nat.reduceLT, Nat.reduceEqDiff, Int.reduceLT, Int.reduceLE, Int.reduceNeg, Int.reduceToNat, Int.reduceEq, Bool.false_eq_true, eq_self, Nat.zero_add, Int.reduceAdd, Int.reduceSub, Int.reduceMul, Int.reducePow, le_sz0, le_sz1, le_sz2, le_sz3, le_sz4, le_sz5, le_sz6, Int.reduceGT, Int.reduceGE, Bool.cond_true, cond_false, wipeL_n, wipeL_c, backL_n, backL_c, clrL_n, clrL_c, kClr_un, kClr_sh, le_sz7, le_sz8, List.getD_cons_zero, List.getD_cons_succ, eqD_int, eqD_ints, inD_ints, eqD_nilI, eqD_nil0, eqD_str, isi_tt, isi_ll, isi_ii, isi_bi, bi_all, cut_1, rng_01, zip_ints, Int.cast_ofNat_Int, nc0, nc1, drop1_map, ixN_10, ixN_20, ixN_21, ixN_30, ixN_31, ixN_32, $[$as:term],*])
def stepP (d : Dv) (q : Int × Int) (p : Int × Int) : Option (Int × Int) := if (mvd d p.1 p.2 q.1).1 - p.1 = q.2 then some (mvd d p.1 p.2 q.1) else none
theorem seenP_snoc (d : Dv) (q : Int × Int) : ∀ (l : List (Int × Int)) (h k : Int), seenP d h k (l ++ [q]) = (seenP d h k l).bind (stepP d q)
  | [], h, k => by
    show (if (mvd d h k q.1).1 - h = q.2 then _ else _) = (if (mvd d h k q.1).1 - h = q.2 then _ else _)
    split <;> rfl
  | (m, r) :: l, h, k => by
    rw [List.cons_append, seenP, seenP]
    split
    · exact seenP_snoc d q l _ _
    · rfl
/-- the law's places behind looks -/
def plL (d : Dv) (l : List (Int × Int)) : List (Int × Int) := (startsL d).filterMap fun st => seenP d (st.1 + 7 * d.1.1) (st.1 + 7 * d.1.1 - st.2) l
theorem plL_nil (d : Dv) (l : List (Int × Int)) : plL d l = [] ↔ fitsL d l = [] := by
  unfold plL fitsL
  rw [List.filterMap_eq_nil_iff, List.filter_eq_nil_iff]
  have e : ∀ st : Int × Int, seenP d (st.1 + 7 * d.1.1) (st.1 + 7 * d.1.1 - st.2) l = none ↔ ¬ (seenP d st.1 (st.1 - st.2) l).isSome = true := fun st => by
    rw [show st.1 + 7 * d.1.1 - st.2 = st.1 - st.2 + d.1.1 * 7 by omega, show st.1 + 7 * d.1.1 = st.1 + d.1.1 * 7 by omega, seenP_shift]
    cases seenP d st.1 (st.1 - st.2) l <;> simp
  exact ⟨fun h st hs => (e st).mp (h st hs), fun h st hs => (e st).mpr (h st hs)⟩
theorem plL_snoc (d : Dv) (l : List (Int × Int)) (q : Int × Int) : plL d (l ++ [q]) = (plL d l).filterMap (stepP d q) := by
  unfold plL
  rw [List.filterMap_filterMap]
  congr 1; funext st
  rw [seenP_snoc]
/-- the first look with which none is left -/
def clashL (d : Dv) (pre : List (Int × Int)) : List (Int × Int) → Option Int
  | [] => none
  | q :: l => if fitsL d (pre ++ [q]) = [] then some pre.length else clashL d (pre ++ [q]) l
def enI : Option Int → D
  | none => .non
  | some i => .int i
theorem clash_lt (d : Dv) : ∀ (l pre : List (Int × Int)) (i : Int), clashL d pre l = some i → 0 ≤ i ∧ i < (pre ++ l).length
  | [], pre, i, h => by cases h
  | q :: l, pre, i, h => by
    rw [clashL] at h
    split at h
    · cases h; rw [List.length_append, List.length_cons]; omega
    · have := clash_lt d l (pre ++ [q]) i h
      simp only [List.length_append, List.length_cons, List.length_nil] at this ⊢; omega
theorem en_pairs (l : List (Int × Int)) : en l = .lst (l.map en) := rfl
section
variable {T : List (Nat × Df)}
theorem for_clash [H_clash_index T] (n : Nat) (d : Dv) (hd : DvOk d) (l : List (Int × Int)) : ∀ (s p : List (Int × Int)) (a : Slot), p ++ s = l → Fr a → ∃ fl ρ, forL (.v 2) (evSs (fns T (n + 6)) l_clash_index_1) (((List.range' p.length s.length).map fun (i : Nat) => (i : Int)).map D.int) [.sh (en d), .sh (.lst (l.map en)), a] = .ok fl ρ ∧
    (clashL d p s = none ∧ fl = .nx ∨ ∃ i, clashL d p s = some i ∧ fl = .rt (.v (.int i))) := by
  intro s
  induction s with
  | nil => intro p a _ _; exact ⟨_, _, rfl, .inl ⟨rfl, rfl⟩⟩
  | cons q s ih =>
    intro p a hp ha
    rw [List.length_cons, List.range'_succ, List.map_cons, List.map_cons, forL]
    have ef := r_fits_of (T := T) n d hd (p ++ [q])
    rw [en_llk, en_llk] at ef
    have hc : cutL (l.map (en : Int × Int → D)) none (some ((p.length : Int) + 1)) = (p ++ [q]).map en := by
      rw [show (p.length : Int) + 1 = ((p.length + 1 : Nat) : Int) by omega, cut_to, ← hp, List.map_append, List.take_append, List.length_map, List.take_of_length_le (by simp)]
      simp [List.take_succ_cons]
    rw [clashL]
    by_cases hf : fitsL d (p ++ [q]) = []
    · refine ⟨.rt (.v (.int p.length)), [.sh (en d), .sh (.lst (l.map en)), .sh (.int p.length)], ?_, .inr ⟨p.length, by rw [if_pos hf], rfl⟩⟩
      rw [hf] at ef
      wide_line with ⟨kSh_fr ha, l_clash_index_1, hc, ef, imm_l, imms_n⟩
    · obtain ⟨fl, ρ, e, h⟩ := ih (p ++ [q]) (.sh (.int p.length)) (by rw [← hp]; simp) (Fr.sh _)
      refine ⟨fl, ρ, ?_, by rw [if_neg hf]; exact h⟩
      rw [← e, List.length_append, List.length_singleton]
      wide_line with ⟨kSh_fr ha, l_clash_index_1, hc, ef, imm_l, imms_ii, eqD_nilE (α := Int × Int) (by decide), hf⟩
theorem r_clash_index [H_clash_index T] (n : Nat) (d : Dv) (hd : DvOk d) (l : List (Int × Int)) (hl : LkOk l) : (fns T (n + 7) 302).run [en d, en l] = .ok (enI (clashL d [] l)) none := by
  rw [v_clash_index, b_clash_index]
  have e1 := r_require_told (T := T) n d hd l hl
  rw [en_llk] at e1
  have ho : okI (l.length : Int) = true := okI_of (by omega) (by have := hl.len; omega)
  wide_line with ⟨e1, en_llk, imm_l, imms_ii, ho, Int.toNat_natCast⟩
  obtain ⟨fl, ρ, e, h⟩ := for_clash (T := T) n d hd l l [] .un rfl Fr.un
  have hr : (List.range' 0 l.length).map (fun (i : Nat) => (i : Int)) = upto l.length := by unfold upto; rw [List.range_eq_range']
  rw [List.length_nil, hr] at e
  wide_line with ⟨e⟩
  rcases h with ⟨h, rfl⟩ | ⟨i, h, rfl⟩
  · rw [h]; walk_at "tw"; rfl
  · rw [h]; walk_at "tw"; rfl
theorem pairs_free (d : Dv) (l : List (Int × Int)) : True := trivial
/-- one look at all places -/
theorem for_due1 [H__law_due_v4 T] (n : Nat) (d : Dv) (hd : DvOk d) (s1 s2 s3 s5 : Slot) (m r : Int) : ∀ (ps acc : List (Int × Int)) (a b c : Slot), Fr a → Fr b → Fr c → acc.length + ps.length ≤ 100000 →
    ∃ a' b' c', forL (.t0 [8, 9]) (evSs (fns T (n + 2)) l__law_due_v4_1) (ps.map en) [.sh (en d), s1, s2, s3, .ow (.lst (acc.map en)), s5, .sh (.int m), .sh (.int r), a, b, c] = .ok .nx [.sh (en d), s1, s2, s3, .ow (.lst ((acc ++ ps.filterMap (stepP d (m, r))).map en)), s5, .sh (.int m), .sh (.int r), a', b', c'] ∧ Fr a' ∧ Fr b' ∧ Fr c'
  | [], acc, a, b, c, ha, hb, hc, _ => ⟨a, b, c, by rw [List.map_nil, for_n]; simp, ha, hb, hc⟩
  | p :: ps, acc, a, b, c, ha, hb, hc, hz => by
    have em := r_law_step (T := T) n d p.1 p.2 m hd
    rw [List.length_cons] at hz
    have hz1 : (acc.length < sizeLine) = True := eq_true (lt_sz (by omega))
    have hm : ∀ q : Int × Int, acc.map (en : Int × Int → D) ++ [.tup [.int q.1, .int q.2]] = (acc ++ [q]).map en := fun q => by rw [List.map_append]; rfl
    rw [List.map_cons, forL]
    by_cases hr : (mvd d p.1 p.2 m).1 - p.1 = r
    · obtain ⟨a', b', c', e, q⟩ := for_due1 n d hd s1 s2 s3 s5 m r ps (acc ++ [mvd d p.1 p.2 m]) (.sh (.int p.1)) (.sh (.int p.2)) (.sh (en (mvd d p.1 p.2 m))) (Fr.sh _) (Fr.sh _) (Fr.sh _) (by simp; omega)
      refine ⟨a', b', c', ?_, q⟩
      rw [List.filterMap_cons_some (show stepP d (m, r) p = some (mvd d p.1 p.2 m) from if_pos hr), List.append_cons, ← e]
      wide_line with ⟨en_ii, kSh_fr ha, kSh_fr hb, kSh_fr hc, l__law_due_v4_1, em, hr, hz1, hm⟩
    · obtain ⟨a', b', c', e, q⟩ := for_due1 n d hd s1 s2 s3 s5 m r ps acc (.sh (.int p.1)) (.sh (.int p.2)) (.sh (en (mvd d p.1 p.2 m))) (Fr.sh _) (Fr.sh _) (Fr.sh _) (by omega)
      refine ⟨a', b', c', ?_, q⟩
      rw [List.filterMap_cons_none (show stepP d (m, r) p = none from if_neg hr), ← e]
      wide_line with ⟨en_ii, kSh_fr ha, kSh_fr hb, kSh_fr hc, l__law_due_v4_1, em, hr, hz1, hm⟩
theorem len_plL {d : Dv} (hd : DvOk d) (l : List (Int × Int)) : (plL d l).length ≤ 576 := Nat.le_trans (List.length_filterMap_le _ _) (len_startsL d hd)
theorem for_due2 [H__law_due_v4 T] (n : Nat) (d : Dv) (hd : DvOk d) (s1 : Slot) : ∀ (l pre : List (Int × Int)) (s3 s4 s6 s7 s8 s9 s10 : Slot), Fr s3 → Nm s4 → Fr s6 → Fr s7 → Fr s8 → Fr s9 → Fr s10 →
    ∃ fl ρ, forL (.tp 3 [6, 7]) (evSs (fns T (n + 2)) l__law_due_v4_2) ((l.zipIdx pre.length).map fun p => .tup [.int p.2, en p.1]) [.sh (en d), s1, .sh (.lst ((plL d pre).map en)), s3, s4, .un, s6, s7, s8, s9, s10] = .ok fl ρ ∧
      (clashL d pre l = none ∧ fl = .nx ∨ ∃ i, clashL d pre l = some i ∧ fl = .rt (.v (.int i)))
  | [], pre, s3, s4, s6, s7, s8, s9, s10, _, _, _, _, _, _, _ => ⟨_, _, rfl, .inl ⟨rfl, rfl⟩⟩
  | q :: l, pre, s3, s4, s6, s7, s8, s9, s10, h3, h4, h6, h7, h8, h9, h10 => by
    obtain ⟨a, b, c, e, ha, hb, hc⟩ := for_due1 (T := T) n d hd s1 (.sh (.lst ((plL d pre).map en))) (.sh (.int pre.length)) .un q.1 q.2 (plL d pre) [] s8 s9 s10 h8 h9 h10 (by have := len_plL hd pre; simp; omega)
    rw [List.nil_append, show ((q.1, q.2) : Int × Int) = q from rfl, ← plL_snoc, List.map_nil] at e
    rw [List.zipIdx_cons, List.map_cons, forL, clashL]
    by_cases hf : fitsL d (pre ++ [q]) = []
    · have hp : plL d (pre ++ [q]) = [] := (plL_nil d _).mpr hf
      refine ⟨.rt (.v (.int pre.length)), [.sh (en d), s1, .sh (.lst []), .sh (.int pre.length), .sh (.lst []), .un, .sh (.int q.1), .sh (.int q.2), a, b, c], ?_, .inr ⟨pre.length, by rw [if_pos hf], rfl⟩⟩
      rw [hp] at e
      rw [List.map_nil] at e
      wide_line with ⟨en_ii, kSh_fr h3, kSh_fr h6, kSh_fr h7, kOw_nm h4, l__law_due_v4_2, e⟩
    · have hp : plL d (pre ++ [q]) ≠ [] := fun z => hf ((plL_nil d _).mp z)
      obtain ⟨fl, ρ, e2, h⟩ := for_due2 n d hd s1 l (pre ++ [q]) (.sh (.int pre.length)) (.sh (.lst ((plL d (pre ++ [q])).map en))) (.sh (.int q.1)) (.sh (.int q.2)) a b c (Fr.sh _) (Nm.sh _) (Fr.sh _) (Fr.sh _) ha hb hc
      refine ⟨fl, ρ, ?_, by rw [if_neg hf]; exact h⟩
      rw [List.length_append, List.length_singleton] at e2
      rw [← e2]
      wide_line with ⟨en_ii, kSh_fr h3, kSh_fr h6, kSh_fr h7, kOw_nm h4, l__law_due_v4_2, e, eqD_nilE (α := Int × Int) (by decide), hp⟩
theorem seen0 (d : Dv) (st : Int × Int) : seenP d (st.1 + 7 * d.1.1) (st.1 + 7 * d.1.1 - st.2) [] = some (st.1 + 7 * d.1.1, st.1 + 7 * d.1.1 - st.2) := rfl
theorem plL_0 (d : Dv) : (startsL d).map (fun st => (en ((st.1 + 7 * d.1.1, st.1 + 7 * d.1.1 - st.2) : Int × Int) : D)) = (plL d []).map en := by
  unfold plL
  rw [show (fun st : Int × Int => seenP d (st.1 + 7 * d.1.1) (st.1 + 7 * d.1.1 - st.2) []) = (fun st => some (st.1 + 7 * d.1.1, st.1 + 7 * d.1.1 - st.2)) from rfl]
  rw [show (fun st : Int × Int => some (st.1 + 7 * d.1.1, st.1 + 7 * d.1.1 - st.2)) = some ∘ (fun st : Int × Int => (st.1 + 7 * d.1.1, st.1 + 7 * d.1.1 - st.2)) from rfl, List.filterMap_eq_map, List.map_map]; rfl
theorem r_law_due [H__law_due_v4 T] (n : Nat) (d : Dv) (hd : DvOk d) (l : List (Int × Int)) : (fns T (n + 4) 303).run [en d, en l] = .ok (enI (clashL d [] l)) none := by
  rw [v__law_due_v4, b__law_due_v4]
  have es := r_law_starts (T := T) (n + 2) d hd
  rw [en_llk] at es
  wide_line with ⟨es, en_llk, imm_l⟩
  rw [lc_mapN (en : Int × Int → D) (fun st => en ((st.1 + 7 * d.1.1, st.1 + 7 * d.1.1 - st.2) : Int × Int)) rfl (startsL d) (le_sz (by have := len_startsL d hd; omega)) (fun st _ => by
    refine ⟨_, rfl, rfl, rfl, ?_⟩
    have e := r_law_seenX (T := T) n d hd st []
    rw [seen0] at e
    rw [e__law_due_v4_1]
    rw [en_lst, List.map_nil] at e
    wide_line with ⟨e, imm_enP⟩
    exact ⟨_, rfl, rfl⟩), plL_0]
  obtain ⟨fl, ρ, e, h⟩ := for_due2 (T := T) (n + 1) d hd (.sh (.lst (l.map en))) l [] .un .un .un .un .un .un .un Fr.un Nm.un Fr.un Fr.un Fr.un Fr.un Fr.un
  rw [List.length_nil] at e
  wide_line with ⟨enum_en, e⟩
  rcases h with ⟨h, rfl⟩ | ⟨i, h, rfl⟩
  · rw [h]; walk_at "tw"; rfl
  · rw [h]; walk_at "tw"; rfl
theorem sho_enI {o : Option Int} (h : ∀ i, o = some i → 0 ≤ i ∧ i < 1000) : Sho (enI o) 1 0 := by
  cases o with
  | none => exact Sho.non
  | some i => have := h i rfl; exact Sho.int (i := i) (sm_int (by omega) (by omega))
theorem enI_en (o : Option Int) : enI o = en o := by cases o <;> rfl
theorem imm_enI (o : Option Int) : (enI o).imm = true := by cases o <;> rfl
theorem pick4 {v a b c e : Int} (h0 : 0 ≤ v) (h1 : v < 4) : ∃ w, atI [D.int a, D.int b, D.int c, D.int e] v = some (.int w) ∧ (w = a ∨ w = b ∨ w = c ∨ w = e) := by
  obtain rfl | rfl | rfl | rfl : v = 0 ∨ v = 1 ∨ v = 2 ∨ v = 3 := by omega
  · exact ⟨a, atI_0 _ _, .inl rfl⟩
  · exact ⟨b, atI_1 _ _ _, .inr (.inl rfl)⟩
  · exact ⟨c, atI_2 _ _ _ _, .inr (.inr (.inl rfl))⟩
  · exact ⟨e, atI_3 _ _ _ _ _, .inr (.inr (.inr rfl))⟩
/-- behind the changed looks -/
theorem r_right33 [H__law_right_v20 T] (n : Nat) (m : D) (N : Int) (h : Tk N m) (hN : N ≤ 10 ^ 8) (d : Dv) (hd : DvOk d) (l : List (Int × Int)) (hl : LkOk l) (hb : ∀ x ∈ l, Bd x) : ∃ m', (fns T (n + 9) 304).run [m, en d, en l] = .ok (.bl true) (some m') ∧ Tk (N + 10) m' := by
  rw [v__law_right_v20, b__law_right_v20]
  have sh : ∀ l : List (Int × Int), LkOk l → (∀ x ∈ l, Code.sm x) → ∃ s, reprD (D.lst [en d, D.lst (l.map en)]) = some s := fun l hl hb => repr_sho (sho_pair (sho_dv hd) (sho_looks (by have := hl.len; omega) hb)).2 (by have := hl.len; omega) (by decide)
  have sc : ∀ l : List (Int × Int), LkOk l → ∃ s, reprD (enI (clashL d [] l)) = some s := fun l hl => repr_sho (sho_enI fun i hi => by
    have := clash_lt d l [] i hi
    have := hl.len
    simp only [List.nil_append] at *; omega) (by decide) (by decide)
  have ed : ∀ l : List (Int × Int), (fns T (n + 4 + 4) 303).run [en d, D.lst (l.map en)] = .ok (enI (clashL d [] l)) none := fun l => r_law_due (T := T) (n + 4) d hd l
  have ec : ∀ l : List (Int × Int), LkOk l → (fns T (n + 1 + 7) 302).run [en d, D.lst (l.map en)] = .ok (enI (clashL d [] l)) none := fun l hl => r_clash_index (T := T) (n + 1) d hd l hl
  obtain ⟨s1, h1⟩ := sh l hl fun x hx => sm_bd (hb x hx)
  have hpow : ((10 : Int) ^ 39) = 1000000000000000000000000000000000000000 := by decide
  have k10 : smallI 10 = true := smallI_of (by decide) (by decide)
  by_cases hf : l = []
  · obtain ⟨s2, h2⟩ := sc l hl
    wide_line with ⟨en_llk, h1, eqD_nilE (α := Int × Int) (by decide), hf⟩
    subst hf
    rw [List.map_nil] at h1
    have e1 := ed []
    have e2 := ec [] hl
    rw [List.map_nil] at e1 e2
    wide_line with ⟨e1, e2, imm_enI, h2, pmut_10, h1⟩
    exact ⟨m, rfl, h.mono (by omega)⟩
  have hlp : 0 < l.length := List.length_pos_iff.mpr hf
  have hl12 := hl.len
  obtain ⟨v1, m1, t1, a1, b1, T1⟩ := r_tap (T := T) (n + 7) m _ 3 h (by omega) (by omega) (by omega)
  by_cases hv : v1 = 0
  · obtain ⟨v2, m2, t2, a2, b2, T2⟩ := r_tap (T := T) (n + 7) m1 _ l.length T1 (by omega) (by omega) (by omega)
    obtain ⟨v3, m3, t3, a3, b3, T3⟩ := r_tap (T := T) (n + 7) m2 _ 9 T2 (by omega) (by omega) (by omega)
    obtain ⟨v4, m4, t4, a4, b4, T4⟩ := r_tap (T := T) (n + 7) m3 _ 4 T3 (by omega) (by omega) (by omega)
    obtain ⟨y, hy, hy2, gy⟩ := atI_map (en : Int × Int → D) a2 b2
    obtain ⟨w, gw, cw⟩ := pick4 (a := y.1 + 1) (b := 0 - y.1) (c := v3) (e := 1000000000000000000000000000000000000000) a4 b4
    have hyb := hb y hy
    obtain ⟨l', hl'⟩ : ∃ l', l' = l.take v2.toNat ++ [(y.1, w)] ++ l.drop (v2.toNat + 1) := ⟨_, rfl⟩
    have c1 : cutL (l.map (en : Int × Int → D)) none (some v2) = (l.take v2.toNat).map en := by
      have := cut_to (l.map (en : Int × Int → D)) v2.toNat
      rw [Int.toNat_of_nonneg a2] at this
      rw [this, List.map_take]
    have c2 : cutL (l.map (en : Int × Int → D)) (some (v2 + 1)) none = (l.drop (v2.toNat + 1)).map en := by
      have := cut_from (l.map (en : Int × Int → D)) (v2.toNat + 1)
      rw [show ((v2.toNat + 1 : Nat) : Int) = v2 + 1 by omega] at this
      rw [this, List.map_drop]
    have hlen' : l'.length = l.length := by rw [hl']; simp; omega
    have hok' : LkOk l' := ⟨by omega, fun x hx => by
      rw [hl'] at hx
      simp only [List.mem_append, List.mem_singleton] at hx
      rcases hx with (hx | hx) | hx
      · exact hl.ne x (List.mem_of_mem_take hx)
      · rw [hx]; exact hyb.1
      · exact hl.ne x (List.mem_of_mem_drop hx)⟩
    have hb' : ∀ x ∈ l', Code.sm x := fun x hx => by
      rw [hl'] at hx
      simp only [List.mem_append, List.mem_singleton] at hx
      rcases hx with (hx | hx) | hx
      · exact sm_bd (hb x (List.mem_of_mem_take hx))
      · rw [hx]
        obtain ⟨g1, g2, g3, g4, g5⟩ := hyb
        exact ⟨sm_int (by simp only []; omega) (by simp only []; omega), sm_int (by simp only []; omega) (by simp only []; omega)⟩
      · exact sm_bd (hb x (List.mem_of_mem_drop hx))
    have cm : (l.take v2.toNat).map (en : Int × Int → D) ++ [D.tup [.int y.1, .int w]] ++ (l.drop (v2.toNat + 1)).map en = l'.map en := by rw [hl']; simp; rfl
    obtain ⟨s3, h3⟩ := sh l' hok' hb'
    obtain ⟨s2, h2⟩ := sc l' hok'
    have z1 : ((l.take v2.toNat).length + 1 ≤ sizeLine) = True := eq_true (le_sz (by rw [List.length_take]; omega))
    have z2 : (((l.take v2.toNat).map (en : Int × Int → D) ++ [D.tup [.int y.1, .int w]]).length + (l.drop (v2.toNat + 1)).length ≤ sizeLine) = True := eq_true (le_sz (by simp; omega))
    wide_line with ⟨en_llk, h1, eqD_nilE (α := Int × Int) (by decide), hf, t1, hv, t2, gy, en_ii, t3, t4, gw, k10, c1, c2, z1, z2, cm, h3, ed l', ec l' hok', imm_enI, h2, pmut_10⟩
    exact ⟨m4, rfl, T4.mono (by omega)⟩
  · obtain ⟨s2, h2⟩ := sc l hl
    wide_line with ⟨en_llk, h1, eqD_nilE (α := Int × Int) (by decide), hf, t1, hv, ed l, ec l hl, imm_enI, h2, pmut_10⟩
    exact ⟨m1, rfl, T1.mono (by omega)⟩
theorem r_law33 [H_law_v33 T] (n : Nat) (ns : List Int) (hns : ns.length ≤ 63) : (fns T (n + 10) 305).run [.lst (ns.map .int)] = .ok (.bl true) none := by
  rw [v_law_v33, b_law_v33]
  obtain ⟨M, hM, hM0, hM1⟩ : ∃ M : Int, M = (if (if (ns.length : Int) < 3 then (ns.length : Int) else 3) > 1 then (if (ns.length : Int) < 3 then (ns.length : Int) else 3) else 1) ∧ 1 ≤ M ∧ M ≤ 3 := ⟨_, rfl, by split <;> split <;> omega, by split <;> split <;> omega⟩
  have hok : okI M = true := okI_of (by omega) (by omega)
  have k10 : smallI 10 = true := smallI_of (by decide) (by decide)
  wide_line with ⟨hM.symm, hok⟩
  obtain ⟨ρ', e, s1, s2, s4, s5, s6, rfl, h1, h2, h4, h5, h6⟩ := for_inv (t := .v 1) (b := evSs (fns T (n + 9)) l_law_v33_2) D.int
    (fun p ρ => ∃ (s1 s2 s4 s5 s6 : Slot), ρ = [.sh (.lst (ns.map D.int)), s1, s2, .un, s4, s5, s6] ∧ Fr s1 ∧ Fr s2 ∧ Nm s4 ∧ Fr s5 ∧ Fr s6) (upto M.toNat) [] [.sh (.lst (ns.map D.int)), .un, .un, .un, .un, .un, .un]
    ⟨.un, .un, .un, .un, .un, rfl, Fr.un, Fr.un, Nm.un, Fr.un, Fr.un⟩ (fun p x s ρ hx ⟨s1, s2, s4, s5, s6, hρ, h1, h2, h4, h5, h6⟩ => by
      subst hρ
      have hx' : x = p.length := upto_split hx
      have hlen2 : p.length + (s.length + 1) = M.toNat := by have := congrArg List.length hx; simpa [len_upto] using this.symm
      refine ⟨_, by wide_line with ⟨kSh_fr h1⟩; rfl, ?_⟩
      rw [l_law_v33_2]
      obtain ⟨m0, e0, t0⟩ := r_tank (T := T) (n + 8) ns x (by omega) (by omega)
      have ok6 : okI 5 = true := okI_of (by decide) (by decide)
      wide_line with ⟨e0, t0.flat, kOw_nm h4, ok6⟩
      obtain ⟨ρ', e, m', s2, s5, s6, rfl, h2, h5, h6, t⟩ := for_inv (t := .v 5) (b := evSs (fns T (n + 9)) l_law_v33_1) D.int
        (fun p ρ => ∃ (m' : D) (s2 s5 s6 : Slot), ρ = [.sh (.lst (ns.map D.int)), .sh (.int x), s2, .un, .ow m', s5, s6] ∧ Fr s2 ∧ Fr s5 ∧ Fr s6 ∧ Tk (500 * p.length) m') (upto 5) [] [.sh (.lst (ns.map D.int)), .sh (.int x), s2, .un, .ow m0, s5, s6]
        ⟨m0, s2, s5, s6, rfl, h2, h5, h6, t0.mono (by simp)⟩ (fun p y s ρ hy ⟨m', s2, s5, s6, hρ, h2, h5, h6, t⟩ => by
          subst hρ
          have hy' : y = p.length := upto_split hy
          have hlen3 : p.length + (s.length + 1) = 5 := by have := congrArg List.length hy; simpa [len_upto] using this.symm
          refine ⟨_, by wide_line with ⟨kSh_fr h5⟩; rfl, ?_⟩
          rw [l_law_v33_1]
          obtain ⟨w1, g1, c1⟩ := pick2 (v := if (1 : Int) < x then 1 else x) (a := 24) (b := 16) (by split <;> omega) (by split <;> omega)
          obtain ⟨w2, g2, c2⟩ := pick3 (v := y % 3) (a := 9) (b := w1) (c := 5) (by omega) (by omega)
          obtain ⟨d, m1, e1, hd, _, _, t1⟩ := r_drawn_rig (T := T) (n + 6) m' _ w2 t (by omega) (by omega) (by omega)
          obtain ⟨v3, m3, e3, a3, b3, t3⟩ := r_tap (T := T) (n + 8) m1 _ 5 t1 (by omega) (by omega) (by omega)
          obtain ⟨v4, m4, e4, a4, b4, t4⟩ := r_tap (T := T) (n + 8) m3 _ 3 t3 (by omega) (by omega) (by omega)
          obtain ⟨w4, g4, c4⟩ := pick3 (a := v3) (b := 12) (c := 6) a4 b4
          obtain ⟨l, m5, e5, hl, hb, t5⟩ := r_drawn_notes (T := T) (n + 6) m4 _ d w4 (10 ^ 39) t4 hd (by omega) (by omega) (by omega) (by decide) (by decide)
          obtain ⟨m6, er, t6⟩ := r_right33 (T := T) n m5 _ t5 (by omega) d hd l hl hb
          have hpow : ((10 : Int) ^ 39) = 1000000000000000000000000000000000000000 := by decide
          rw [hpow] at e5
          rw [en_llk] at e5 er
          wide_line with ⟨g1, g2, e1, imm_dv, kSh_fr h2, e3, e4, g4, e5, kSh_fr h6, er, k10⟩
          exact ⟨_, .inl rfl, m6, _, _, _, rfl, Fr.sh _, Fr.sh _, Fr.sh _, t6.mono (by simp; omega)⟩)
      wide_line with ⟨e⟩
      exact ⟨_, .inl rfl, _, _, _, _, _, rfl, Fr.sh _, h2, Nm.ow _, h5, h6⟩)
  have hk : ∀ l : List (Int × Int), LkOk l → (fns T (n + 8 + 1) 302).run [D.tup [D.tup [D.int 3, D.lst [D.int 0]], D.tup [D.int 5, D.lst [D.int 0]]], en l] = .ok (enI (clashL d35 [] l)) none := fun l hl => r_clash_index (T := T) (n + 2) d35 d35_ok l hl
  wide_line with ⟨e, kSh_fr h2⟩
  rw [show [D.lst [], D.lst [D.tup [D.int 4, D.int 1]], D.lst [D.tup [D.int 4, D.int 1], D.tup [D.int (-4), D.int (-2)]], D.lst [D.tup [D.int 4, D.int 5], D.tup [D.int 1, D.int 0]]] = ([[], [(4, 1)], [(4, 1), (-4, -2)], [(4, 5), (1, 0)]] : List (List (Int × Int))).map en from rfl,
    lc_mapN (en : List (Int × Int) → D) (fun l => enI (clashL d35 [] l)) (by wide_line with ⟨kClr_fr h6⟩) [[], [(4, 1)], [(4, 1), (-4, -2)], [(4, 5), (1, 0)]] (le_sz (by decide)) (fun l hl => by
      refine ⟨_, rfl, rfl, rfl, ?_⟩
      rw [e_law_v33_1]
      have hl' : LkOk l := by
        simp only [List.mem_cons, List.not_mem_nil, or_false] at hl
        rcases hl with rfl | rfl | rfl | rfl <;> exact ⟨by decide, by decide⟩
      refine ⟨.v (enI (clashL d35 [] l)), ?_, rfl⟩
      wide_line with ⟨hk l hl', imm_enI⟩)]
  have hq : eqD (.lst (([[], [(4, 1)], [(4, 1), (-4, -2)], [(4, 5), (1, 0)]] : List (List (Int × Int))).map fun l => enI (clashL d35 [] l))) (en ([none, none, some 1, some 0] : List (Option Int))) = some true := by
    rw [show (([[], [(4, 1)], [(4, 1), (-4, -2)], [(4, 5), (1, 0)]] : List (List (Int × Int))).map fun l => enI (clashL d35 [] l)) = (([[], [(4, 1)], [(4, 1), (-4, -2)], [(4, 5), (1, 0)]] : List (List (Int × Int))).map (clashL d35 [])).map (en : Option Int → D) from by rw [List.map_map]; exact List.map_congr_left fun l _ => enI_en _]
    exact (eqD_en (α := List (Option Int)) (by decide) _ _).trans (by decide)
  rw [show (en ([none, none, some 1, some 0] : List (Option Int)) : D) = .lst [.non, .non, .int 1, .int 0] from rfl] at hq
  simp only [List.map_cons, List.map_nil] at hq
  wide_line with ⟨hq⟩
end
end TW.P
end
/-! G -/
section
set_option Elab.async false
set_option linter.all false
set_option maxRecDepth 100000
set_option maxHeartbeats 0
namespace HT
open PySem PySem.Spec TW L2
open PyProof.Rows hiding St
def top (i : Nat) : Stmt := PySem.Challenge.pw_twocombs_k33_clashes.main.body.getD i (.Pass ⟨0, 0, 0, 0⟩)
def T : List (Nat × Df) := [(24, P.m_below_at), (48, P.m_moved_by), (290, P.m_rise_of), (6, P.m_is_integer), (7, P.m_is_at_least), (49, P.m_is_move), (8, P.m_comb_fault), (9, P.m_device_fault), (52, P.m_require_device), (291, P.m_require_looks), (292, P.m_all_starts), (293, P.m_seen_place), (294, P.m_fits_of), (295, P.m_require_told), (302, P.m_clash_index), (161, P.m__law_tank), (162, P.m__law_tap), (163, P.m__law_drawn_comb), (164, P.m__law_drawn_rig), (65, P.m__law_below_v0), (165, P.m__law_step_v0), (297, P.m__law_starts), (298, P.m__law_seen), (299, P.m__law_drawn_notes), (303, P.m__law_due_v4), (304, P.m__law_right_v20), (305, P.m_law_v33)]
def nmL : List (Nat × Str × List Str) := [(24, "below_at", P.p_m_below_at), (48, "moved_by", P.p_m_moved_by), (290, "rise_of", P.p_m_rise_of), (6, "is_integer", P.p_m_is_integer), (7, "is_at_least", P.p_m_is_at_least), (49, "is_move", P.p_m_is_move), (8, "comb_fault", P.p_m_comb_fault), (9, "device_fault", P.p_m_device_fault), (52, "require_device", P.p_m_require_device), (291, "require_looks", P.p_m_require_looks), (292, "all_starts", P.p_m_all_starts), (293, "seen_place", P.p_m_seen_place), (294, "fits_of", P.p_m_fits_of), (295, "require_told", P.p_m_require_told), (302, "clash_index", P.p_m_clash_index), (161, "_law_tank", P.p_m__law_tank), (162, "_law_tap", P.p_m__law_tap), (163, "_law_drawn_comb", P.p_m__law_drawn_comb), (164, "_law_drawn_rig", P.p_m__law_drawn_rig), (65, "_law_below", P.p_m__law_below_v0), (165, "_law_step", P.p_m__law_step_v0), (297, "_law_starts", P.p_m__law_starts), (298, "_law_seen", P.p_m__law_seen), (299, "_law_drawn_notes", P.p_m__law_drawn_notes), (303, "_law_due", P.p_m__law_due_v4), (304, "_law_right", P.p_m__law_right_v20), (305, "law", P.p_m_law_v33)]
def C : Ck := ⟨fun f => nmL.lookup f, [("MOST_PITCH", 24), ("MOST_LOOKS", 12)], [(302, ["looks", "device"], [1, 0])]⟩
def d24 : He.DefD := ⟨("below_at", none), "below_at", "below_at", defArgs (top 5), defBody (top 5), defScope (top 5), [], []⟩
def d48 : He.DefD := ⟨("moved_by", none), "moved_by", "moved_by", defArgs (top 6), defBody (top 6), defScope (top 6), [], []⟩
def d290 : He.DefD := ⟨("rise_of", none), "rise_of", "rise_of", defArgs (top 7), defBody (top 7), defScope (top 7), [], []⟩
def d6 : He.DefD := ⟨("is_integer", none), "is_integer", "is_integer", defArgs (top 11), defBody (top 11), defScope (top 11), [], []⟩
def d7 : He.DefD := ⟨("is_at_least", none), "is_at_least", "is_at_least", defArgs (top 12), defBody (top 12), defScope (top 12), [], []⟩
def d49 : He.DefD := ⟨("is_move", none), "is_move", "is_move", defArgs (top 13), defBody (top 13), defScope (top 13), [], []⟩
def d8 : He.DefD := ⟨("comb_fault", none), "comb_fault", "comb_fault", defArgs (top 14), defBody (top 14), defScope (top 14), [], []⟩
def d9 : He.DefD := ⟨("device_fault", none), "device_fault", "device_fault", defArgs (top 15), defBody (top 15), defScope (top 15), [], []⟩
def d52 : He.DefD := ⟨("require_device", none), "require_device", "require_device", defArgs (top 16), defBody (top 16), defScope (top 16), [], []⟩
def d291 : He.DefD := ⟨("require_looks", none), "require_looks", "require_looks", defArgs (top 17), defBody (top 17), defScope (top 17), [], []⟩
def d292 : He.DefD := ⟨("all_starts", none), "all_starts", "all_starts", defArgs (top 19), defBody (top 19), defScope (top 19), [], []⟩
def d293 : He.DefD := ⟨("seen_place", none), "seen_place", "seen_place", defArgs (top 20), defBody (top 20), defScope (top 20), [], []⟩
def d294 : He.DefD := ⟨("fits_of", none), "fits_of", "fits_of", defArgs (top 21), defBody (top 21), defScope (top 21), [], []⟩
def d295 : He.DefD := ⟨("require_told", none), "require_told", "require_told", defArgs (top 22), defBody (top 22), defScope (top 22), [], []⟩
def d302 : He.DefD := ⟨("clash_index", none), "clash_index", "clash_index", defArgs (top 23), defBody (top 23), defScope (top 23), [], []⟩
def d161 : He.DefD := ⟨("_law_tank", none), "_law_tank", "_law_tank", defArgs (top 25), defBody (top 25), defScope (top 25), [], []⟩
def d162 : He.DefD := ⟨("_law_tap", none), "_law_tap", "_law_tap", defArgs (top 26), defBody (top 26), defScope (top 26), [], []⟩
def d163 : He.DefD := ⟨("_law_drawn_comb", none), "_law_drawn_comb", "_law_drawn_comb", defArgs (top 27), defBody (top 27), defScope (top 27), [], []⟩
def d164 : He.DefD := ⟨("_law_drawn_rig", none), "_law_drawn_rig", "_law_drawn_rig", defArgs (top 28), defBody (top 28), defScope (top 28), [], []⟩
def d65 : He.DefD := ⟨("_law_below", none), "_law_below", "_law_below", defArgs (top 29), defBody (top 29), defScope (top 29), [], []⟩
def d165 : He.DefD := ⟨("_law_step", none), "_law_step", "_law_step", defArgs (top 30), defBody (top 30), defScope (top 30), [], []⟩
def d297 : He.DefD := ⟨("_law_starts", none), "_law_starts", "_law_starts", defArgs (top 31), defBody (top 31), defScope (top 31), [], []⟩
def d298 : He.DefD := ⟨("_law_seen", none), "_law_seen", "_law_seen", defArgs (top 32), defBody (top 32), defScope (top 32), [], []⟩
def d299 : He.DefD := ⟨("_law_drawn_notes", none), "_law_drawn_notes", "_law_drawn_notes", defArgs (top 33), defBody (top 33), defScope (top 33), [], []⟩
def d303 : He.DefD := ⟨("_law_due", none), "_law_due", "_law_due", defArgs (top 34), defBody (top 34), defScope (top 34), [], []⟩
def d304 : He.DefD := ⟨("_law_right", none), "_law_right", "_law_right", defArgs (top 35), defBody (top 35), defScope (top 35), [], []⟩
def d305 : He.DefD := ⟨("law", none), "law", "law", defArgs (top 36), defBody (top 36), defScope (top 36), [], []⟩
def fn : List He.DefD := ([d24, d48, d290, d6, d7, d49, d8, d9, d52, d291, d292, d293, d294, d295, d302, d161, d162, d163, d164, d65, d165, d297, d298, d299, d303, d304, d305] : List He.DefD)
def fa0 : List He.Fa := ([.glo "below_at", .glo "moved_by", .glo "rise_of", .glo "is_integer", .glo "is_at_least", .glo "is_move", .glo "comb_fault", .glo "device_fault", .glo "require_device", .glo "require_looks", .glo "all_starts", .glo "seen_place", .glo "fits_of", .glo "require_told", .glo "clash_index", .glo "_law_tank", .glo "_law_tap", .glo "_law_drawn_comb", .glo "_law_drawn_rig", .glo "_law_below", .glo "_law_step", .glo "_law_starts", .glo "_law_seen", .glo "_law_drawn_notes", .glo "_law_due", .glo "_law_right", .glo "law", .int "MOST_PITCH" 24, .int "MOST_LOOKS" 12] : List He.Fa)
def fa : List He.Fa := fa0 ++ bltNames.map He.Fa.free
abbrev R : PySem.W.OpenRow := PySem.W.OpenLaw.row PySem.Challenge.rw_twocombs_k33_clashes
abbrev hk : PySem.W.Hook := He.hookD 4 fa fn
def ob (s : PySem.W.SharedT) : He.AlD := He.obsDG 4 fa fn (HandSHeadRun.getT s)
theorem ob_eq (s : PySem.W.SharedT) : ob s = hk.obs s.abs := He.obsDG_eq (HandSHeadRun.getT_eq s)
def names : List PySem.Str := (["CombError", "InvalidDevice", "InvalidLooks", "below_at", "moved_by", "rise_of", "MOST_PITCH", "MOST_LOOKS", "is_integer", "is_at_least", "is_move", "comb_fault", "device_fault", "require_device", "require_looks", "all_starts", "seen_place", "fits_of", "require_told", "clash_index", "_law_tank", "_law_tap", "_law_drawn_comb", "_law_drawn_rig", "_law_below", "_law_step", "_law_starts", "_law_seen", "_law_drawn_notes", "_law_due"] : List PySem.Str) ++ (["_law_right"] : List PySem.Str)
theorem run (w : World) : HandSHeadRun.RunEq R (PySem.W.view R.prog [36]) hk ob 2000 names w := by
  intro os
  kernel_rfl
section
variable {K : PySem.W.Frag} {mg : Str → Option Value} {h : Heap}
theorem g24 (c : He.SaysD fa fn K) (X : K.In h) (G : h.Ns mainGlobals mg) : Good K mg C T 24 "below_at" P.p_m_below_at :=
  goodOf (m := P.m_below_at) (N := P.N_m_below_at) rfl (by decide) (c.def_ 0) (by kernel_rfl) (by kernel_rfl) (He.glo_ok X G (c.fact 0))
    rfl (fun _ _ _ _ _ _ us hl => match us, hl with | [_, _], _ => by kernel_rfl) (List.forall_mem_cons.mpr ⟨fun z => absurd z (by decide), fun _ q => nomatch q⟩)
theorem g48 (c : He.SaysD fa fn K) (X : K.In h) (G : h.Ns mainGlobals mg) : Good K mg C T 48 "moved_by" P.p_m_moved_by :=
  goodOf (m := P.m_moved_by) (N := P.N_m_moved_by) rfl (by decide) (c.def_ 1) (by kernel_rfl) (by kernel_rfl) (He.glo_ok X G (c.fact 1))
    rfl (fun _ _ _ _ _ _ us hl => match us, hl with | [_, _, _, _], _ => by kernel_rfl) (List.forall_mem_cons.mpr ⟨fun z => absurd z (by decide), fun _ q => nomatch q⟩)
theorem g290 (c : He.SaysD fa fn K) (X : K.In h) (G : h.Ns mainGlobals mg) : Good K mg C T 290 "rise_of" P.p_m_rise_of :=
  goodOf (m := P.m_rise_of) (N := P.N_m_rise_of) rfl (by decide) (c.def_ 2) (by kernel_rfl) (by kernel_rfl) (He.glo_ok X G (c.fact 2))
    rfl (fun _ _ _ _ _ _ us hl => match us, hl with | [_, _, _, _], _ => by kernel_rfl) (List.forall_mem_cons.mpr ⟨fun z => absurd z (by decide), fun _ q => nomatch q⟩)
theorem g6 (c : He.SaysD fa fn K) (X : K.In h) (G : h.Ns mainGlobals mg) : Good K mg C T 6 "is_integer" P.p_m_is_integer :=
  goodOf (m := P.m_is_integer) (N := P.N_m_is_integer) rfl (by decide) (c.def_ 3) (by kernel_rfl) (by kernel_rfl) (He.glo_ok X G (c.fact 3))
    rfl (fun _ _ _ _ _ _ us hl => match us, hl with | [_], _ => by kernel_rfl) (List.forall_mem_cons.mpr ⟨fun z => absurd z (by decide), fun _ q => nomatch q⟩)
theorem g7 (c : He.SaysD fa fn K) (X : K.In h) (G : h.Ns mainGlobals mg) : Good K mg C T 7 "is_at_least" P.p_m_is_at_least :=
  goodOf (m := P.m_is_at_least) (N := P.N_m_is_at_least) rfl (by decide) (c.def_ 4) (by kernel_rfl) (by kernel_rfl) (He.glo_ok X G (c.fact 4))
    rfl (fun _ _ _ _ _ _ us hl => match us, hl with | [_, _], _ => by kernel_rfl) (List.forall_mem_cons.mpr ⟨fun z => absurd z (by decide), fun _ q => nomatch q⟩)
theorem g49 (c : He.SaysD fa fn K) (X : K.In h) (G : h.Ns mainGlobals mg) : Good K mg C T 49 "is_move" P.p_m_is_move :=
  goodOf (m := P.m_is_move) (N := P.N_m_is_move) rfl (by decide) (c.def_ 5) (by kernel_rfl) (by kernel_rfl) (He.glo_ok X G (c.fact 5))
    rfl (fun _ _ _ _ _ _ us hl => match us, hl with | [_], _ => by kernel_rfl) (List.forall_mem_cons.mpr ⟨fun z => absurd z (by decide), fun _ q => nomatch q⟩)
theorem g8 (c : He.SaysD fa fn K) (X : K.In h) (G : h.Ns mainGlobals mg) : Good K mg C T 8 "comb_fault" P.p_m_comb_fault :=
  goodOf (m := P.m_comb_fault) (N := P.N_m_comb_fault) rfl (by decide) (c.def_ 6) (by kernel_rfl) (by kernel_rfl) (He.glo_ok X G (c.fact 6))
    rfl (fun _ _ _ _ _ _ us hl => match us, hl with | [_], _ => by kernel_rfl) (List.forall_mem_cons.mpr ⟨fun z => absurd z (by decide), fun _ q => nomatch q⟩)
theorem g9 (c : He.SaysD fa fn K) (X : K.In h) (G : h.Ns mainGlobals mg) : Good K mg C T 9 "device_fault" P.p_m_device_fault :=
  goodOf (m := P.m_device_fault) (N := P.N_m_device_fault) rfl (by decide) (c.def_ 7) (by kernel_rfl) (by kernel_rfl) (He.glo_ok X G (c.fact 7))
    rfl (fun _ _ _ _ _ _ us hl => match us, hl with | [_], _ => by kernel_rfl) (List.forall_mem_cons.mpr ⟨fun z => absurd z (by decide), fun _ q => nomatch q⟩)
theorem g52 (c : He.SaysD fa fn K) (X : K.In h) (G : h.Ns mainGlobals mg) : Good K mg C T 52 "require_device" P.p_m_require_device :=
  goodOf (m := P.m_require_device) (N := P.N_m_require_device) rfl (by decide) (c.def_ 8) (by kernel_rfl) (by kernel_rfl) (He.glo_ok X G (c.fact 8))
    rfl (fun _ _ _ _ _ _ us hl => match us, hl with | [_], _ => by kernel_rfl) (List.forall_mem_cons.mpr ⟨fun z => absurd z (by decide), fun _ q => nomatch q⟩)
theorem g291 (c : He.SaysD fa fn K) (X : K.In h) (G : h.Ns mainGlobals mg) : Good K mg C T 291 "require_looks" P.p_m_require_looks :=
  goodOf (m := P.m_require_looks) (N := P.N_m_require_looks) rfl (by decide) (c.def_ 9) (by kernel_rfl) (by kernel_rfl) (He.glo_ok X G (c.fact 9))
    rfl (fun _ _ _ _ _ _ us hl => match us, hl with | [_], _ => by kernel_rfl) (List.forall_mem_cons.mpr ⟨fun z => absurd z (by decide), fun _ q => nomatch q⟩)
theorem g292 (c : He.SaysD fa fn K) (X : K.In h) (G : h.Ns mainGlobals mg) : Good K mg C T 292 "all_starts" P.p_m_all_starts :=
  goodOf (m := P.m_all_starts) (N := P.N_m_all_starts) rfl (by decide) (c.def_ 10) (by kernel_rfl) (by kernel_rfl) (He.glo_ok X G (c.fact 10))
    rfl (fun _ _ _ _ _ _ us hl => match us, hl with | [_], _ => by kernel_rfl) (List.forall_mem_cons.mpr ⟨fun z => absurd z (by decide), fun _ q => nomatch q⟩)
theorem g293 (c : He.SaysD fa fn K) (X : K.In h) (G : h.Ns mainGlobals mg) : Good K mg C T 293 "seen_place" P.p_m_seen_place :=
  goodOf (m := P.m_seen_place) (N := P.N_m_seen_place) rfl (by decide) (c.def_ 11) (by kernel_rfl) (by kernel_rfl) (He.glo_ok X G (c.fact 11))
    rfl (fun _ _ _ _ _ _ us hl => match us, hl with | [_, _, _], _ => by kernel_rfl) (List.forall_mem_cons.mpr ⟨fun z => absurd z (by decide), fun _ q => nomatch q⟩)
theorem g294 (c : He.SaysD fa fn K) (X : K.In h) (G : h.Ns mainGlobals mg) : Good K mg C T 294 "fits_of" P.p_m_fits_of :=
  goodOf (m := P.m_fits_of) (N := P.N_m_fits_of) rfl (by decide) (c.def_ 12) (by kernel_rfl) (by kernel_rfl) (He.glo_ok X G (c.fact 12))
    rfl (fun _ _ _ _ _ _ us hl => match us, hl with | [_, _], _ => by kernel_rfl) (List.forall_mem_cons.mpr ⟨fun z => absurd z (by decide), fun _ q => nomatch q⟩)
theorem g295 (c : He.SaysD fa fn K) (X : K.In h) (G : h.Ns mainGlobals mg) : Good K mg C T 295 "require_told" P.p_m_require_told :=
  goodOf (m := P.m_require_told) (N := P.N_m_require_told) rfl (by decide) (c.def_ 13) (by kernel_rfl) (by kernel_rfl) (He.glo_ok X G (c.fact 13))
    rfl (fun _ _ _ _ _ _ us hl => match us, hl with | [_, _], _ => by kernel_rfl) (List.forall_mem_cons.mpr ⟨fun z => absurd z (by decide), fun _ q => nomatch q⟩)
theorem g302 (c : He.SaysD fa fn K) (X : K.In h) (G : h.Ns mainGlobals mg) : Good K mg C T 302 "clash_index" P.p_m_clash_index :=
  goodOf (m := P.m_clash_index) (N := P.N_m_clash_index) rfl (by decide) (c.def_ 14) (by kernel_rfl) (by kernel_rfl) (He.glo_ok X G (c.fact 14))
    rfl (fun _ _ _ _ _ _ us hl => match us, hl with | [_, _], _ => by kernel_rfl) (List.forall_mem_cons.mpr ⟨fun _ => ⟨rfl, (by decide), fun _ _ _ _ _ _ ws hl => match ws, hl with | [_, _], _ => ⟨rfl, by kernel_rfl⟩⟩, fun _ q => nomatch q⟩)
theorem g161 (c : He.SaysD fa fn K) (X : K.In h) (G : h.Ns mainGlobals mg) : Good K mg C T 161 "_law_tank" P.p_m__law_tank :=
  goodOf (m := P.m__law_tank) (N := P.N_m__law_tank) rfl (by decide) (c.def_ 15) (by kernel_rfl) (by kernel_rfl) (He.glo_ok X G (c.fact 15))
    rfl (fun _ _ _ _ _ _ us hl => match us, hl with | [_, _], _ => by kernel_rfl) (List.forall_mem_cons.mpr ⟨fun z => absurd z (by decide), fun _ q => nomatch q⟩)
theorem g162 (c : He.SaysD fa fn K) (X : K.In h) (G : h.Ns mainGlobals mg) : Good K mg C T 162 "_law_tap" P.p_m__law_tap :=
  goodOf (m := P.m__law_tap) (N := P.N_m__law_tap) rfl (by decide) (c.def_ 16) (by kernel_rfl) (by kernel_rfl) (He.glo_ok X G (c.fact 16))
    rfl (fun _ _ _ _ _ _ us hl => match us, hl with | [_, _], _ => by kernel_rfl) (List.forall_mem_cons.mpr ⟨fun z => absurd z (by decide), fun _ q => nomatch q⟩)
theorem g163 (c : He.SaysD fa fn K) (X : K.In h) (G : h.Ns mainGlobals mg) : Good K mg C T 163 "_law_drawn_comb" P.p_m__law_drawn_comb :=
  goodOf (m := P.m__law_drawn_comb) (N := P.N_m__law_drawn_comb) rfl (by decide) (c.def_ 17) (by kernel_rfl) (by kernel_rfl) (He.glo_ok X G (c.fact 17))
    rfl (fun _ _ _ _ _ _ us hl => match us, hl with | [_, _], _ => by kernel_rfl) (List.forall_mem_cons.mpr ⟨fun z => absurd z (by decide), fun _ q => nomatch q⟩)
theorem g164 (c : He.SaysD fa fn K) (X : K.In h) (G : h.Ns mainGlobals mg) : Good K mg C T 164 "_law_drawn_rig" P.p_m__law_drawn_rig :=
  goodOf (m := P.m__law_drawn_rig) (N := P.N_m__law_drawn_rig) rfl (by decide) (c.def_ 18) (by kernel_rfl) (by kernel_rfl) (He.glo_ok X G (c.fact 18))
    rfl (fun _ _ _ _ _ _ us hl => match us, hl with | [_, _], _ => by kernel_rfl) (List.forall_mem_cons.mpr ⟨fun z => absurd z (by decide), fun _ q => nomatch q⟩)
theorem g65 (c : He.SaysD fa fn K) (X : K.In h) (G : h.Ns mainGlobals mg) : Good K mg C T 65 "_law_below" P.p_m__law_below_v0 :=
  goodOf (m := P.m__law_below_v0) (N := P.N_m__law_below_v0) rfl (by decide) (c.def_ 19) (by kernel_rfl) (by kernel_rfl) (He.glo_ok X G (c.fact 19))
    rfl (fun _ _ _ _ _ _ us hl => match us, hl with | [_, _], _ => by kernel_rfl) (List.forall_mem_cons.mpr ⟨fun z => absurd z (by decide), fun _ q => nomatch q⟩)
theorem g165 (c : He.SaysD fa fn K) (X : K.In h) (G : h.Ns mainGlobals mg) : Good K mg C T 165 "_law_step" P.p_m__law_step_v0 :=
  goodOf (m := P.m__law_step_v0) (N := P.N_m__law_step_v0) rfl (by decide) (c.def_ 20) (by kernel_rfl) (by kernel_rfl) (He.glo_ok X G (c.fact 20))
    rfl (fun _ _ _ _ _ _ us hl => match us, hl with | [_, _, _, _], _ => by kernel_rfl) (List.forall_mem_cons.mpr ⟨fun z => absurd z (by decide), fun _ q => nomatch q⟩)
theorem g297 (c : He.SaysD fa fn K) (X : K.In h) (G : h.Ns mainGlobals mg) : Good K mg C T 297 "_law_starts" P.p_m__law_starts :=
  goodOf (m := P.m__law_starts) (N := P.N_m__law_starts) rfl (by decide) (c.def_ 21) (by kernel_rfl) (by kernel_rfl) (He.glo_ok X G (c.fact 21))
    rfl (fun _ _ _ _ _ _ us hl => match us, hl with | [_], _ => by kernel_rfl) (List.forall_mem_cons.mpr ⟨fun z => absurd z (by decide), fun _ q => nomatch q⟩)
theorem g298 (c : He.SaysD fa fn K) (X : K.In h) (G : h.Ns mainGlobals mg) : Good K mg C T 298 "_law_seen" P.p_m__law_seen :=
  goodOf (m := P.m__law_seen) (N := P.N_m__law_seen) rfl (by decide) (c.def_ 22) (by kernel_rfl) (by kernel_rfl) (He.glo_ok X G (c.fact 22))
    rfl (fun _ _ _ _ _ _ us hl => match us, hl with | [_, _, _], _ => by kernel_rfl) (List.forall_mem_cons.mpr ⟨fun z => absurd z (by decide), fun _ q => nomatch q⟩)
theorem g299 (c : He.SaysD fa fn K) (X : K.In h) (G : h.Ns mainGlobals mg) : Good K mg C T 299 "_law_drawn_notes" P.p_m__law_drawn_notes :=
  goodOf (m := P.m__law_drawn_notes) (N := P.N_m__law_drawn_notes) rfl (by decide) (c.def_ 23) (by kernel_rfl) (by kernel_rfl) (He.glo_ok X G (c.fact 23))
    rfl (fun _ _ _ _ _ _ us hl => match us, hl with | [_, _, _, _], _ => by kernel_rfl) (List.forall_mem_cons.mpr ⟨fun z => absurd z (by decide), fun _ q => nomatch q⟩)
theorem g303 (c : He.SaysD fa fn K) (X : K.In h) (G : h.Ns mainGlobals mg) : Good K mg C T 303 "_law_due" P.p_m__law_due_v4 :=
  goodOf (m := P.m__law_due_v4) (N := P.N_m__law_due_v4) rfl (by decide) (c.def_ 24) (by kernel_rfl) (by kernel_rfl) (He.glo_ok X G (c.fact 24))
    rfl (fun _ _ _ _ _ _ us hl => match us, hl with | [_, _], _ => by kernel_rfl) (List.forall_mem_cons.mpr ⟨fun z => absurd z (by decide), fun _ q => nomatch q⟩)
theorem g304 (c : He.SaysD fa fn K) (X : K.In h) (G : h.Ns mainGlobals mg) : Good K mg C T 304 "_law_right" P.p_m__law_right_v20 :=
  goodOf (m := P.m__law_right_v20) (N := P.N_m__law_right_v20) rfl (by decide) (c.def_ 25) (by kernel_rfl) (by kernel_rfl) (He.glo_ok X G (c.fact 25))
    rfl (fun _ _ _ _ _ _ us hl => match us, hl with | [_, _, _], _ => by kernel_rfl) (List.forall_mem_cons.mpr ⟨fun z => absurd z (by decide), fun _ q => nomatch q⟩)
theorem g305 (c : He.SaysD fa fn K) (X : K.In h) (G : h.Ns mainGlobals mg) : Good K mg C T 305 "law" P.p_m_law_v33 :=
  goodOf (m := P.m_law_v33) (N := P.N_m_law_v33) rfl (by decide) (c.def_ 26) (by kernel_rfl) (by kernel_rfl) (He.glo_ok X G (c.fact 26))
    rfl (fun _ _ _ _ _ _ us hl => match us, hl with | [_], _ => by kernel_rfl) (List.forall_mem_cons.mpr ⟨fun z => absurd z (by decide), fun _ q => nomatch q⟩)
theorem tb (c : He.SaysD fa fn K) (X : K.In h) (G : h.Ns mainGlobals mg) : Tb K mg C T :=
  tbOf (fun x hx => He.free_ok X G (factMem c (List.mem_append_right _ (List.mem_map_of_mem hx)))) (List.forall_mem_cons.mpr ⟨He.int_ok X G (c.fact 27), List.forall_mem_cons.mpr ⟨He.int_ok X G (c.fact 28), fun _ q => nomatch q⟩⟩) (List.forall_mem_cons.mpr ⟨g24 c X G, List.forall_mem_cons.mpr ⟨g48 c X G, List.forall_mem_cons.mpr ⟨g290 c X G, List.forall_mem_cons.mpr ⟨g6 c X G, List.forall_mem_cons.mpr ⟨g7 c X G, List.forall_mem_cons.mpr ⟨g49 c X G, List.forall_mem_cons.mpr ⟨g8 c X G, List.forall_mem_cons.mpr ⟨g9 c X G, List.forall_mem_cons.mpr ⟨g52 c X G, List.forall_mem_cons.mpr ⟨g291 c X G, List.forall_mem_cons.mpr ⟨g292 c X G, List.forall_mem_cons.mpr ⟨g293 c X G, List.forall_mem_cons.mpr ⟨g294 c X G, List.forall_mem_cons.mpr ⟨g295 c X G, List.forall_mem_cons.mpr ⟨g302 c X G, List.forall_mem_cons.mpr ⟨g161 c X G, List.forall_mem_cons.mpr ⟨g162 c X G, List.forall_mem_cons.mpr ⟨g163 c X G, List.forall_mem_cons.mpr ⟨g164 c X G, List.forall_mem_cons.mpr ⟨g65 c X G, List.forall_mem_cons.mpr ⟨g165 c X G, List.forall_mem_cons.mpr ⟨g297 c X G, List.forall_mem_cons.mpr ⟨g298 c X G, List.forall_mem_cons.mpr ⟨g299 c X G, List.forall_mem_cons.mpr ⟨g303 c X G, List.forall_mem_cons.mpr ⟨g304 c X G, List.forall_mem_cons.mpr ⟨g305 c X G, fun _ q => nomatch q⟩⟩⟩⟩⟩⟩⟩⟩⟩⟩⟩⟩⟩⟩⟩⟩⟩⟩⟩⟩⟩⟩⟩⟩⟩⟩⟩)
end
instance : TW.P.H_is_integer T := { h_is_integer := rfl }
instance : TW.P.H_is_at_least T := { h_is_at_least := rfl }
instance : TW.P.H_comb_fault T := { h_comb_fault := rfl }
instance : TW.P.H_device_fault T := { h_device_fault := rfl }
instance : TW.P.H_below_at T := { h_below_at := rfl }
instance : TW.P.H_moved_by T := { h_moved_by := rfl }
instance : TW.P.H_is_move T := { h_is_move := rfl }
instance : TW.P.H_require_device T := { h_require_device := rfl }
instance : TW.P.H__law_below_v0 T := { h__law_below_v0 := rfl }
instance : TW.P.H__law_tank T := { h__law_tank := rfl }
instance : TW.P.H__law_tap T := { h__law_tap := rfl }
instance : TW.P.H__law_drawn_comb T := { h__law_drawn_comb := rfl }
instance : TW.P.H__law_drawn_rig T := { h__law_drawn_rig := rfl }
instance : TW.P.H__law_step_v0 T := { h__law_step_v0 := rfl }
instance : TW.P.H_rise_of T := { h_rise_of := rfl }
instance : TW.P.H_require_looks T := { h_require_looks := rfl }
instance : TW.P.H_all_starts T := { h_all_starts := rfl }
instance : TW.P.H_seen_place T := { h_seen_place := rfl }
instance : TW.P.H_fits_of T := { h_fits_of := rfl }
instance : TW.P.H_require_told T := { h_require_told := rfl }
instance : TW.P.H__law_starts T := { h__law_starts := rfl }
instance : TW.P.H__law_seen T := { h__law_seen := rfl }
instance : TW.P.H__law_drawn_notes T := { h__law_drawn_notes := rfl }
instance : TW.P.H_clash_index T := { h_clash_index := rfl }
instance : TW.P.H__law_due_v4 T := { h__law_due_v4 := rfl }
instance : TW.P.H__law_right_v20 T := { h__law_right_v20 := rfl }
instance : TW.P.H_law_v33 T := { h_law_v33 := rfl }
def depth : Nat := 40
/-- the law's own reckoning -/
def Pure : Prop := ∀ ns : List Int, ns.length ≤ 63 → ∃ m, (fns T depth 305).run [.lst (ns.map .int)] = .ok (.bl true) m
end HT
open PySem PySem.W PySem.Calls PyProof.Rows
theorem HT.fin (pu : HT.Pure) : PySem.Challenge.rw_twocombs_k33_clashes.Holds := by
  w_on; o_law
  refine HandSHeadRun.head_any (r := OpenLaw.row PySem.Challenge.rw_twocombs_k33_clashes) (q := view (OpenLaw.row PySem.Challenge.rw_twocombs_k33_clashes).prog [36]) (H := HT.hk) (ob := HT.ob) (M := 2000) (loose := HT.names) (d := HandSHeadRun.topDef (OpenLaw.row PySem.Challenge.rw_twocombs_k33_clashes).prog 36) (kwd := []) HT.ob_eq
    (by kernel_rfl) (fun s => by kernel_rfl) HT.run (by kernel_rfl) (by kernel_rfl) (by kernel_rfl) (by rfl) (by first | assumption | decide +kernel) (by decide +kernel) ⟨rfl, rfl, rfl, rfl, rfl, by decide +kernel⟩ ?hw ?hc
  case hw => w_witness2
  case hc =>
    refine TW.twWalk (n := 63) (k := HT.depth) (x := "script") rfl (by decide) rfl ⟨rfl, by decide +kernel, by decide +kernel⟩ (fun w mg f h Y G hm => ?_) (fun w H s e s' ⟨_, _, _, _, _, _, _, _, _, _, _, _, q⟩ => q)
    obtain ⟨K, X, c⟩ := Y
    have B := HT.tb c X G
    obtain ⟨m, a, fd, nm, qu, pa, body, scope, dvs, kws, N, e1, e2, e3, e4, Fd, S0, hc, hg, hb, hk⟩ := B.fnc 305 "law" TW.P.p_m_law_v33 rfl
    obtain rfl : TW.P.m_law_v33 = m := Option.some.inj (Eq.trans (show TW.P.m_law_v33 = TW.P.m_law_v33 from rfl) rfl ▸ (show HT.T.lookup 305 = some TW.P.m_law_v33 from rfl).symm.trans e1)
    have ea : a = f := by
      have q := hg.symm.trans (show mg "law" = some (.ref f) from hm)
      cases q; rfl
    subst ea
    refine ⟨K, fd, TW.spF K (fun _ _ _ _ => False) ⟨TW.P.m_law_v33.np, TW.P.m_law_v33.lent, TW.P.m_law_v33.fresh, TW.runD (TW.fns HT.T 39) TW.P.m_law_v33⟩, X, fun u => hb [u] rfl, fun H ad ns hl sq => TW.lawSp rfl rfl rfl (pu ns hl) sq, fun base hX => TW.fkOf Fd S0 (B.md 39) hc e2 e3 e4⟩
end
open PySem PySem.W PyProof.Rows
set_option maxRecDepth 100000 in
set_option maxHeartbeats 8000000 in
theorem PySem.Challenge.cw_twocombs_k33_clashes_holds : PySem.Challenge.rw_twocombs_k33_clashes.Holds := by
  exact HT.fin (fun ns h => ⟨none, TW.P.r_law33 30 ns h⟩)
