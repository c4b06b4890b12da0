import PyProof.Rows.All
import Wide.All
import OpenK.AllK
import Wide.FinOn
import HandS.ForMost
import HandS.ExcInit
import HandS.TryOnly
import HandS.TryMany
import HandS.ExcOwn
import HandS.WordsExc
import HandS.Defaults
import HandS.Flow
import HandS.Style
import HandS.IsInst
import HandS.TupAny
import HandS.TupMul
import HandS.HeadHook1
import HandS.HeadHook2
import HandS.Deep
import HandS.TupLen
import HandS.ExcField
import KE.KStateDown
import HandS.RaiseMore
import HandS.Head0
import HandS.Head1
import HandS.Head2
import HandS.HeadEnd
import PySem.Challenge.RW_lockturns_k05_bent_formulas
set_option Elab.async false
set_option linter.all false
set_option maxRecDepth 100000
set_option maxHeartbeats 0
namespace Rf
set_option autoImplicit false
open PySem PySem.Spec L2

/-! ### data, objects, stores -/
inductive D where
  | non | bl (b : Bool) | int (i : Int) | str (x : Str) | tup (l : List D) | fl (l : List D) | rd (l : List D) | ref (n : Nat) | any
mutual
def D.eqb : D → D → Bool
  | .non, .non => true
  | .bl a, .bl b => a == b
  | .int a, .int b => decide (a = b)
  | .str a, .str b => decide (a = b)
  | .tup a, .tup b => D.eqbs a b
  | .fl a, .fl b => D.eqbs a b
  | .rd a, .rd b => D.eqbs a b
  | .ref a, .ref b => Nat.beq a b
  | .any, .any => true
  | _, _ => false
def D.eqbs : List D → List D → Bool
  | [], [] => true
  | a :: l, b :: r => D.eqb a b && D.eqbs l r
  | _, _ => false
end
mutual
theorem D.eqb_eq : ∀ (a b : D), D.eqb a b = true ↔ a = b
  | .non, b => by cases b <;> simp [D.eqb]
  | .bl a, b => by cases b <;> simp [D.eqb]
  | .int a, b => by cases b <;> simp [D.eqb]
  | .str a, b => by cases b <;> simp [D.eqb]
  | .tup a, b => by
    cases b with
    | tup b => simp [D.eqb, D.eqbs_eq a b]
    | _ => simp [D.eqb]
  | .fl a, b => by
    cases b with
    | fl b => simp [D.eqb, D.eqbs_eq a b]
    | _ => simp [D.eqb]
  | .rd a, b => by
    cases b with
    | rd b => simp [D.eqb, D.eqbs_eq a b]
    | _ => simp [D.eqb]
  | .ref a, b => by
    cases b with
    | ref b =>
      simp only [D.eqb, D.ref.injEq]
      exact ⟨Nat.eq_of_beq_eq_true, fun h => by subst h; exact Nat.beq_refl _⟩
    | _ => simp [D.eqb]
  | .any, b => by cases b <;> simp [D.eqb]
theorem D.eqbs_eq : ∀ (a b : List D), D.eqbs a b = true ↔ a = b
  | [], b => by cases b <;> simp [D.eqbs]
  | x :: l, b => by
    cases b with
    | nil => simp [D.eqbs]
    | cons y r => simp [D.eqbs, D.eqb_eq x y, D.eqbs_eq l r]
end
instance : DecidableEq D := fun a b => if h : D.eqb a b = true then isTrue ((D.eqb_eq a b).mp h) else isFalse fun e => h ((D.eqb_eq a b).mpr e)

inductive O where
  | lst (l : List D) | dK (l : List (Key × D)) | dT (l : List (List Int × D)) | ins (c : Str) (fs : List (Str × D)) | frz (o : O)
abbrev Store := List O
abbrev Sl := List (Option D)

/-! ### what represents what -/
mutual
def Rep (K : PySem.W.Frag) (io N : List Addr) (H : Hp) : D → V → Prop
  | .non, v => v = .non
  | .bl b, v => v = .bl b
  | .int i, v => v = .int i
  | .str x, v => v = .str x
  | .tup l, v => ∃ p xs, v = .ref p ∧ ((p ∉ io ∧ p ∉ N ∧ H p = some (.tup xs)) ∨ ∀ H', SqT K H' p xs) ∧ Reps K io N H l xs
  | .fl l, v => ∃ p xs, v = .ref p ∧ (p ∉ io ∧ p ∉ N ∧ H p = some (.lst xs)) ∧ Reps K io N H l xs
  | .rd l, v => ∃ p xs, v = .ref p ∧ ((p ∉ io ∧ p ∉ N ∧ (H p = some (.lst xs) ∨ ∃ o, H p = some (.frz o (.lst xs)))) ∨ ∀ H', SqL K H' p xs) ∧ Reps K io N H l xs
  | .ref n, v => ∃ a, io[n]? = some a ∧ v = .ref a
  | .any, _ => True
def Reps (K : PySem.W.Frag) (io N : List Addr) (H : Hp) : List D → List V → Prop
  | [], xs => xs = []
  | d :: l, xs => ∃ v ys, xs = v :: ys ∧ Rep K io N H d v ∧ Reps K io N H l ys
end
/-- pairs with keys -/
def RepP (K : PySem.W.Frag) (io N : List Addr) (H : Hp) {k : Type} : List (k × D) → List (k × V) → Prop
  | [], xs => xs = []
  | d :: l, xs => ∃ v ys, xs = (d.1, v) :: ys ∧ Rep K io N H d.2 v ∧ RepP K io N H l ys
def kInts (l : List Int) : List Key := l.map Sum.inl
def RepU (K : PySem.W.Frag) (io N : List Addr) (H : Hp) : O → HO → Prop
  | .lst l, u => ∃ xs, u = .lst xs ∧ Reps K io N H l xs
  | .dK l, u => ∃ xs, u = .dK xs ∧ RepP K io N H l xs
  | .dT l, u => ∃ xs, u = .dT xs ∧ RepP K io N H (l.map fun p => (kInts p.1, p.2)) xs
  | .ins c fs, u => ∃ dx xs, u = .ins (He.ga K c) dx xs ∧ RepP K io N H fs xs
  | .frz o, u => ∃ ob w, u = .frz ob w ∧ RepU K io N H o w
structure RSt (K : PySem.W.Frag) (io N : List Addr) (H : Hp) (st : Store) : Prop where
  len : io.length = st.length
  nd : io.Nodup
  ob : ∀ (n : Nat) (o : O), st[n]? = some o → ∃ a u, io[n]? = some a ∧ H a = some u ∧ RepU K io N H o u
  tr : ∀ a ∈ N, H a ≠ none
def REn0 (K : PySem.W.Frag) (io N : List Addr) (H : Hp) : Sl → St → Prop
  | [], s => s = []
  | none :: e, s => ∃ o r, s = o :: r ∧ REn0 K io N H e r
  | some d :: e, s => ∃ v r, s = some v :: r ∧ Rep K io N H d v ∧ REn0 K io N H e r
/-- an exception: its class by name, its fields -/
def RepX (K : PySem.W.Frag) (io N : List Addr) (H : Hp) (c : Str) (fs : List (Str × D)) (cls : Value) (dd : Option Addr) : Prop :=
  cls = .ref (He.ga K c) ∧ (fs = [] ∨ ∃ d xs, dd = some d ∧ H d = some (.xd xs) ∧ RepP K io N H fs xs)

structure Ext (io : List Addr) (H : Hp) (io' : List Addr) (H' : Hp) : Prop where
  pre : ∃ r, io' = io ++ r ∧ ∀ a ∈ r, H a = none
  keep : ∀ p o, p ∉ io → H p = some o → H' p = some o
  trk : ∀ p, H' p = none → H p = none

section
variable {K : PySem.W.Frag} {io io' io'' N N' : List Addr} {H H' H'' : Hp} {st : Store}
theorem Ext.refl (io : List Addr) (H : Hp) : Ext io H io H := ⟨⟨[], by simp, by simp⟩, fun _ _ _ e => e, fun _ e => e⟩
theorem Ext.notin (e : Ext io H io' H') {p : Addr} {o : HO} (h : p ∉ io) (q : H p = some o) : p ∉ io' := by
  obtain ⟨r, rfl, hr⟩ := e.pre
  intro hm
  rcases List.mem_append.mp hm with z | z
  · exact h z
  · rw [hr p z] at q; cases q
theorem Ext.trans (a : Ext io H io' H') (b : Ext io' H' io'' H'') : Ext io H io'' H'' := by
  refine ⟨?_, fun p o h q => b.keep p o (a.notin h q) (a.keep p o h q), fun p h => a.trk p (b.trk p h)⟩
  obtain ⟨r, rfl, hr⟩ := a.pre
  obtain ⟨r', rfl, hr'⟩ := b.pre
  refine ⟨r ++ r', by rw [List.append_assoc], fun x hx => ?_⟩
  rcases List.mem_append.mp hx with z | z
  · exact hr x z
  · exact a.trk x (hr' x z)
theorem Ext.idx (e : Ext io H io' H') {n : Nat} {a : Addr} (h : io[n]? = some a) : io'[n]? = some a := by
  obtain ⟨r, rfl, _⟩ := e.pre
  exact List.getElem?_append_left (List.getElem?_eq_some_iff.mp h).1 ▸ h
mutual
theorem Rep.mono (e : Ext io H io' H') : ∀ (d : D) (v : V), Rep K io N H d v → Rep K io' N H' d v
  | .non, _, h => h
  | .bl _, _, h => h
  | .int _, _, h => h
  | .str _, _, h => h
  | .tup l, _, h => by
    obtain ⟨p, xs, rfl, c, r⟩ := h
    refine ⟨p, xs, rfl, ?_, Reps.mono e l xs r⟩
    rcases c with ⟨c1, c2, c3⟩ | c
    · exact .inl ⟨e.notin c1 c3, c2, e.keep _ _ c1 c3⟩
    · exact .inr c
  | .fl l, _, h => by
    obtain ⟨p, xs, rfl, ⟨c1, c2, c3⟩, r⟩ := h
    exact ⟨p, xs, rfl, ⟨e.notin c1 c3, c2, e.keep _ _ c1 c3⟩, Reps.mono e l xs r⟩
  | .rd l, _, h => by
    obtain ⟨p, xs, rfl, c, r⟩ := h
    refine ⟨p, xs, rfl, ?_, Reps.mono e l xs r⟩
    rcases c with ⟨c1, c2, c3 | ⟨o, c3⟩⟩ | c
    · exact .inl ⟨e.notin c1 c3, c2, .inl (e.keep _ _ c1 c3)⟩
    · exact .inl ⟨e.notin c1 c3, c2, .inr ⟨o, e.keep _ _ c1 c3⟩⟩
    · exact .inr c
  | .ref _, _, h => by
    obtain ⟨a, q, rfl⟩ := h
    exact ⟨a, e.idx q, rfl⟩
  | .any, _, _ => True.intro
theorem Reps.mono (e : Ext io H io' H') : ∀ (l : List D) (xs : List V), Reps K io N H l xs → Reps K io' N H' l xs
  | [], _, h => h
  | d :: l, _, h => by
    obtain ⟨v, ys, rfl, a, b⟩ := h
    exact ⟨v, ys, rfl, Rep.mono e d v a, Reps.mono e l ys b⟩
end
mutual
/-- a free address may be shunned -/
theorem Rep.shun {p : Addr} (hp : H p = none) : ∀ (d : D) (v : V), Rep K io N H d v → Rep K io (p :: N) H d v
  | .non, _, h => h
  | .bl _, _, h => h
  | .int _, _, h => h
  | .str _, _, h => h
  | .tup l, _, h => by
    obtain ⟨q, xs, rfl, c, r⟩ := h
    refine ⟨q, xs, rfl, ?_, Reps.shun hp l xs r⟩
    rcases c with ⟨c1, c2, c3⟩ | c
    · exact .inl ⟨c1, by simpa using ⟨ne_of_none c3 hp, c2⟩, c3⟩
    · exact .inr c
  | .fl l, _, h => by
    obtain ⟨q, xs, rfl, ⟨c1, c2, c3⟩, r⟩ := h
    exact ⟨q, xs, rfl, ⟨c1, by simpa using ⟨ne_of_none c3 hp, c2⟩, c3⟩, Reps.shun hp l xs r⟩
  | .rd l, _, h => by
    obtain ⟨q, xs, rfl, c, r⟩ := h
    refine ⟨q, xs, rfl, ?_, Reps.shun hp l xs r⟩
    rcases c with ⟨c1, c2, c3⟩ | c
    · refine .inl ⟨c1, ?_, c3⟩
      rcases c3 with c3 | ⟨o, c3⟩
      · simpa using ⟨ne_of_none c3 hp, c2⟩
      · simpa using ⟨ne_of_none c3 hp, c2⟩
    · exact .inr c
  | .ref _, _, h => h
  | .any, _, _ => True.intro
theorem Reps.shun {p : Addr} (hp : H p = none) : ∀ (l : List D) (xs : List V), Reps K io N H l xs → Reps K io (p :: N) H l xs
  | [], _, h => h
  | d :: l, _, h => by
    obtain ⟨v, ys, rfl, a, b⟩ := h
    exact ⟨v, ys, rfl, Rep.shun hp d v a, Reps.shun hp l ys b⟩
end
mutual
theorem Rep.weak : ∀ (d : D) (v : V), Rep K io (N' ++ N) H d v → Rep K io N H d v
  | .non, _, h => h
  | .bl _, _, h => h
  | .int _, _, h => h
  | .str _, _, h => h
  | .tup l, _, h => by
    obtain ⟨q, xs, rfl, c, r⟩ := h
    refine ⟨q, xs, rfl, ?_, Reps.weak l xs r⟩
    rcases c with ⟨c1, c2, c3⟩ | c
    · exact .inl ⟨c1, fun z => c2 (List.mem_append_right _ z), c3⟩
    · exact .inr c
  | .fl l, _, h => by
    obtain ⟨q, xs, rfl, ⟨c1, c2, c3⟩, r⟩ := h
    exact ⟨q, xs, rfl, ⟨c1, fun z => c2 (List.mem_append_right _ z), c3⟩, Reps.weak l xs r⟩
  | .rd l, _, h => by
    obtain ⟨q, xs, rfl, c, r⟩ := h
    refine ⟨q, xs, rfl, ?_, Reps.weak l xs r⟩
    rcases c with ⟨c1, c2, c3⟩ | c
    · exact .inl ⟨c1, fun z => c2 (List.mem_append_right _ z), c3⟩
    · exact .inr c
  | .ref _, _, h => h
  | .any, _, _ => True.intro
theorem Reps.weak : ∀ (l : List D) (xs : List V), Reps K io (N' ++ N) H l xs → Reps K io N H l xs
  | [], _, h => h
  | d :: l, _, h => by
    obtain ⟨v, ys, rfl, a, b⟩ := h
    exact ⟨v, ys, rfl, Rep.weak d v a, Reps.weak l ys b⟩
end
mutual
/-- a shunned address is taken into the store -/
theorem Rep.take {p : Addr} : ∀ (d : D) (v : V), Rep K io (p :: N) H d v → Rep K (io ++ [p]) N H d v
  | .non, _, h => h
  | .bl _, _, h => h
  | .int _, _, h => h
  | .str _, _, h => h
  | .tup l, _, h => by
    obtain ⟨q, xs, rfl, c, r⟩ := h
    refine ⟨q, xs, rfl, ?_, Reps.take l xs r⟩
    rcases c with ⟨c1, c2, c3⟩ | c
    · exact .inl ⟨by simp at c2; simp [c1, c2], fun z => c2 (List.mem_cons_of_mem _ z), c3⟩
    · exact .inr c
  | .fl l, _, h => by
    obtain ⟨q, xs, rfl, ⟨c1, c2, c3⟩, r⟩ := h
    exact ⟨q, xs, rfl, ⟨by simp at c2; simp [c1, c2], fun z => c2 (List.mem_cons_of_mem _ z), c3⟩, Reps.take l xs r⟩
  | .rd l, _, h => by
    obtain ⟨q, xs, rfl, c, r⟩ := h
    refine ⟨q, xs, rfl, ?_, Reps.take l xs r⟩
    rcases c with ⟨c1, c2, c3⟩ | c
    · exact .inl ⟨by simp at c2; simp [c1, c2], fun z => c2 (List.mem_cons_of_mem _ z), c3⟩
    · exact .inr c
  | .ref _, _, h => by
    obtain ⟨a, q, rfl⟩ := h
    exact ⟨a, List.getElem?_append_left (List.getElem?_eq_some_iff.mp q).1 ▸ q, rfl⟩
  | .any, _, _ => True.intro
theorem Reps.take {p : Addr} : ∀ (l : List D) (xs : List V), Reps K io (p :: N) H l xs → Reps K (io ++ [p]) N H l xs
  | [], _, h => h
  | d :: l, _, h => by
    obtain ⟨v, ys, rfl, a, b⟩ := h
    exact ⟨v, ys, rfl, Rep.take d v a, Reps.take l ys b⟩
end
theorem Rep.shuns {d : D} {v : V} : ∀ (M : List Addr), (∀ a ∈ M, H a = none) → Rep K io N H d v → Rep K io (M ++ N) H d v
  | [], _, h => h
  | p :: M, hm, h => Rep.shun (hm p List.mem_cons_self) d v (Rep.shuns M (fun a ha => hm a (List.mem_cons_of_mem _ ha)) h)
theorem Reps.shuns {d : List D} {v : List V} : ∀ (M : List Addr), (∀ a ∈ M, H a = none) → Reps K io N H d v → Reps K io (M ++ N) H d v
  | [], _, h => h
  | p :: M, hm, h => Reps.shun (hm p List.mem_cons_self) d v (Reps.shuns M (fun a ha => hm a (List.mem_cons_of_mem _ ha)) h)
theorem RepP.mono {k : Type} (e : Ext io H io' H') : ∀ {l : List (k × D)} {xs : List (k × V)}, RepP K io N H l xs → RepP K io' N H' l xs
  | [], _, h => h
  | d :: l, _, h => by
    obtain ⟨v, ys, rfl, a, b⟩ := h
    exact ⟨v, ys, rfl, a.mono e, RepP.mono e b⟩
theorem RepP.shun {k : Type} {p : Addr} (hp : H p = none) : ∀ {l : List (k × D)} {xs : List (k × V)}, RepP K io N H l xs → RepP K io (p :: N) H l xs
  | [], _, h => h
  | d :: l, _, h => by
    obtain ⟨v, ys, rfl, a, b⟩ := h
    exact ⟨v, ys, rfl, a.shun hp, RepP.shun hp b⟩
theorem RepP.weak {k : Type} : ∀ {l : List (k × D)} {xs : List (k × V)}, RepP K io (N' ++ N) H l xs → RepP K io N H l xs
  | [], _, h => h
  | d :: l, _, h => by
    obtain ⟨v, ys, rfl, a, b⟩ := h
    exact ⟨v, ys, rfl, a.weak, RepP.weak b⟩
theorem RepP.take {k : Type} {p : Addr} : ∀ {l : List (k × D)} {xs : List (k × V)}, RepP K io (p :: N) H l xs → RepP K (io ++ [p]) N H l xs
  | [], _, h => h
  | d :: l, _, h => by
    obtain ⟨v, ys, rfl, a, b⟩ := h
    exact ⟨v, ys, rfl, a.take, RepP.take b⟩
/-- what is true of every datum's representation is true of an object's -/
theorem RepU.imp (f : ∀ d v, Rep K io N H d v → Rep K io' N' H' d v) (g : ∀ d v, Reps K io N H d v → Reps K io' N' H' d v) (p : ∀ (k : Type) (l : List (k × D)) (xs : List (k × V)), RepP K io N H l xs → RepP K io' N' H' l xs) : ∀ (o : O) (u : HO), RepU K io N H o u → RepU K io' N' H' o u
  | .lst _, _, h => by obtain ⟨xs, rfl, r⟩ := h; exact ⟨xs, rfl, g _ _ r⟩
  | .dK _, _, h => by obtain ⟨xs, rfl, r⟩ := h; exact ⟨xs, rfl, p _ _ _ r⟩
  | .dT _, _, h => by obtain ⟨xs, rfl, r⟩ := h; exact ⟨xs, rfl, p _ _ _ r⟩
  | .ins _ _, _, h => by obtain ⟨dx, xs, rfl, r⟩ := h; exact ⟨dx, xs, rfl, p _ _ _ r⟩
  | .frz o, _, h => by obtain ⟨ob, w, rfl, r⟩ := h; exact ⟨ob, w, rfl, RepU.imp f g p o w r⟩
theorem RepU.mono (e : Ext io H io' H') (o : O) (u : HO) (h : RepU K io N H o u) : RepU K io' N H' o u := RepU.imp (fun _ _ r => r.mono e) (fun _ _ r => r.mono e) (fun _ _ _ r => r.mono e) o u h
theorem RepU.shun {p : Addr} (hp : H p = none) (o : O) (u : HO) (h : RepU K io N H o u) : RepU K io (p :: N) H o u := RepU.imp (fun _ _ r => r.shun hp) (fun _ _ r => r.shun hp) (fun _ _ _ r => r.shun hp) o u h
theorem RepU.weak (o : O) (u : HO) (h : RepU K io (N' ++ N) H o u) : RepU K io N H o u := RepU.imp (fun _ _ r => r.weak) (fun _ _ r => r.weak) (fun _ _ _ r => r.weak) o u h
theorem RepU.take {p : Addr} (o : O) (u : HO) (h : RepU K io (p :: N) H o u) : RepU K (io ++ [p]) N H o u := RepU.imp (fun _ _ r => r.take) (fun _ _ r => r.take) (fun _ _ _ r => r.take) o u h
theorem REn0.mono (e : Ext io H io' H') : ∀ {l : Sl} {s : St}, REn0 K io N H l s → REn0 K io' N H' l s
  | [], _, h => h
  | none :: _, _, h => by obtain ⟨o, r, rfl, q⟩ := h; exact ⟨o, r, rfl, q.mono e⟩
  | some _ :: _, _, h => by obtain ⟨v, r, rfl, a, q⟩ := h; exact ⟨v, r, rfl, a.mono e, q.mono e⟩
theorem RepX.mono {c : Str} {fs : List (Str × D)} {cls : Value} {dd : Option Addr} (e : Ext io H io' H') (hd : ∀ d xs, dd = some d → H d = some (.xd xs) → d ∉ io) (h : RepX K io N H c fs cls dd) : RepX K io' N H' c fs cls dd := by
  obtain ⟨a, b | ⟨d, xs, e1, e2, e3⟩⟩ := h
  · exact ⟨a, .inl b⟩
  · exact ⟨a, .inr ⟨d, xs, e1, e.keep _ _ (hd d xs e1 e2) e2, e3.mono e⟩⟩
theorem REn0.shun {p : Addr} (hp : H p = none) : ∀ {l : Sl} {s : St}, REn0 K io N H l s → REn0 K io (p :: N) H l s
  | [], _, h => h
  | none :: _, _, h => by obtain ⟨o, r, rfl, q⟩ := h; exact ⟨o, r, rfl, q.shun hp⟩
  | some _ :: _, _, h => by obtain ⟨v, r, rfl, a, q⟩ := h; exact ⟨v, r, rfl, a.shun hp, q.shun hp⟩
theorem REn0.get : ∀ {l : Sl} {s : St} {i : Nat} {d : D}, REn0 K io N H l s → l[i]? = some (some d) → ∃ v, s[i]? = some (some v) ∧ Rep K io N H d v
  | [], _, _, _, _, e => by simp at e
  | none :: _, _, 0, _, _, e => by simp at e
  | none :: _, _, i + 1, d, h, e => by
    obtain ⟨o, r, rfl, q⟩ := h
    obtain ⟨v, a, b⟩ := q.get (i := i) (d := d) (by simpa using e)
    exact ⟨v, by simpa using a, b⟩
  | some c :: _, _, 0, d, h, e => by
    obtain ⟨v, r, rfl, a, q⟩ := h
    simp at e
    subst e
    exact ⟨v, rfl, a⟩
  | some _ :: _, _, i + 1, d, h, e => by
    obtain ⟨o, r, rfl, _, q⟩ := h
    obtain ⟨v, a, b⟩ := q.get (i := i) (d := d) (by simpa using e)
    exact ⟨v, by simpa using a, b⟩
theorem REn0.set : ∀ {l : Sl} {s : St} (i : Nat) {d : D} {v : V}, REn0 K io N H l s → Rep K io N H d v → REn0 K io N H (l.set i (some d)) (s.set i (some v))
  | [], _, _, _, _, h, _ => by cases h; simp [REn0]
  | none :: _, _, 0, _, v, h, a => by obtain ⟨o, r, rfl, q⟩ := h; exact ⟨v, r, rfl, a, q⟩
  | none :: _, _, i + 1, _, _, h, a => by obtain ⟨o, r, rfl, q⟩ := h; exact ⟨o, _, rfl, q.set i a⟩
  | some _ :: _, _, 0, _, v, h, a => by obtain ⟨o, r, rfl, _, q⟩ := h; exact ⟨v, r, rfl, a, q⟩
  | some _ :: _, _, i + 1, _, _, h, a => by obtain ⟨o, r, rfl, b, q⟩ := h; exact ⟨o, _, rfl, b, q.set i a⟩
theorem REn0.unset : ∀ {l : Sl} {s : St} (i : Nat) {o : Option V}, REn0 K io N H l s → REn0 K io N H (l.set i none) (s.set i o)
  | [], _, _, _, h => by cases h; simp [REn0]
  | none :: _, _, 0, o, h => by obtain ⟨_, r, rfl, q⟩ := h; exact ⟨o, r, rfl, q⟩
  | none :: _, _, i + 1, _, h => by obtain ⟨o, r, rfl, q⟩ := h; exact ⟨o, _, rfl, q.unset i⟩
  | some _ :: _, _, 0, o, h => by obtain ⟨_, r, rfl, _, q⟩ := h; exact ⟨o, r, rfl, q⟩
  | some _ :: _, _, i + 1, _, h => by obtain ⟨o, r, rfl, b, q⟩ := h; exact ⟨o, _, rfl, b, q.unset i⟩
theorem REn0.len : ∀ {l : Sl} {s : St}, REn0 K io N H l s → s.length = l.length
  | [], _, h => by cases h; rfl
  | none :: _, _, h => by obtain ⟨_, r, rfl, q⟩ := h; simp [q.len]
  | some _ :: _, _, h => by obtain ⟨_, r, rfl, _, q⟩ := h; simp [q.len]
theorem Reps.len : ∀ {l : List D} {xs : List V}, Reps K io N H l xs → xs.length = l.length
  | [], _, h => by cases h; rfl
  | _ :: _, _, h => by obtain ⟨_, r, rfl, _, q⟩ := h; simp [q.len]
theorem Reps.get : ∀ {l : List D} {xs : List V} {i : Nat} {d : D}, Reps K io N H l xs → l[i]? = some d → ∃ v, xs[i]? = some v ∧ Rep K io N H d v
  | [], _, _, _, _, e => by simp at e
  | _ :: _, _, 0, _, h, e => by
    obtain ⟨v, r, rfl, a, q⟩ := h
    simp at e
    subst e
    exact ⟨v, rfl, a⟩
  | _ :: _, _, i + 1, d, h, e => by
    obtain ⟨o, r, rfl, _, q⟩ := h
    obtain ⟨v, a, b⟩ := q.get (i := i) (d := d) (by simpa using e)
    exact ⟨v, by simpa using a, b⟩
theorem Reps.get' : ∀ {l : List D} {xs : List V} {i : Nat} {v : V}, Reps K io N H l xs → xs[i]? = some v → ∃ d, l[i]? = some d ∧ Rep K io N H d v
  | [], _, _, _, h, e => by cases h; simp at e
  | d :: _, _, 0, _, h, e => by
    obtain ⟨v, r, rfl, a, q⟩ := h
    simp at e
    subst e
    exact ⟨d, rfl, a⟩
  | _ :: _, _, i + 1, v, h, e => by
    obtain ⟨o, r, rfl, _, q⟩ := h
    obtain ⟨d, a, b⟩ := q.get' (i := i) (v := v) (by simpa using e)
    exact ⟨d, by simpa using a, b⟩
theorem Reps.app : ∀ {l r : List D} {xs ys : List V}, Reps K io N H l xs → Reps K io N H r ys → Reps K io N H (l ++ r) (xs ++ ys)
  | [], _, _, _, h, g => by cases h; exact g
  | _ :: _, _, _, _, h, g => by
    obtain ⟨v, q, rfl, a, b⟩ := h
    exact ⟨v, _, rfl, a, b.app g⟩
theorem Reps.drop : ∀ (n : Nat) {l : List D} {xs : List V}, Reps K io N H l xs → Reps K io N H (l.drop n) (xs.drop n)
  | 0, _, _, h => h
  | _ + 1, [], _, h => by cases h; simp [Reps]
  | n + 1, _ :: _, _, h => by obtain ⟨v, q, rfl, a, b⟩ := h; simpa using b.drop n
theorem Reps.takeN : ∀ (n : Nat) {l : List D} {xs : List V}, Reps K io N H l xs → Reps K io N H (l.take n) (xs.take n)
  | 0, _, _, _ => by simp [Reps]
  | _ + 1, [], _, h => by cases h; simp [Reps]
  | n + 1, _ :: _, _, h => by obtain ⟨v, q, rfl, a, b⟩ := h; exact ⟨v, _, rfl, a, b.takeN n⟩
theorem Reps.setN : ∀ (n : Nat) {l : List D} {xs : List V} {d : D} {v : V}, Reps K io N H l xs → Rep K io N H d v → Reps K io N H (l.set n d) (xs.set n v)
  | _, [], _, _, _, h, _ => by cases h; simp [Reps]
  | 0, _ :: _, _, _, v, h, r => by obtain ⟨_, q, rfl, a, b⟩ := h; exact ⟨v, q, rfl, r, b⟩
  | n + 1, _ :: _, _, _, _, h, r => by obtain ⟨v, q, rfl, a, b⟩ := h; exact ⟨v, _, rfl, a, b.setN n r⟩
theorem Reps.one {d : D} {v : V} (h : Rep K io N H d v) : Reps K io N H [d] [v] := ⟨v, [], rfl, h, rfl⟩
theorem Reps.rev : ∀ {l : List D} {xs : List V}, Reps K io N H l xs → Reps K io N H l.reverse xs.reverse
  | [], _, h => by cases h; simp [Reps]
  | _ :: _, _, h => by obtain ⟨v, q, rfl, a, b⟩ := h; simpa using b.rev.app (Reps.one a)
theorem Reps.erase : ∀ (n : Nat) {l : List D} {xs : List V}, Reps K io N H l xs → Reps K io N H (l.eraseIdx n) (xs.eraseIdx n)
  | _, [], _, h => by cases h; simp [Reps]
  | 0, _ :: _, _, h => by obtain ⟨v, q, rfl, a, b⟩ := h; exact b
  | n + 1, _ :: _, _, h => by obtain ⟨v, q, rfl, a, b⟩ := h; exact ⟨v, _, rfl, a, b.erase n⟩
theorem Reps.ints : ∀ {ns : List Int} {xs : List V}, Reps K io N H (ns.map D.int) xs → xs = ns.map V.int
  | [], _, h => h
  | n :: ns, _, h => by
    obtain ⟨v, q, rfl, a, b⟩ := h
    rw [show v = V.int n from a, b.ints] <;> rfl
theorem Reps.of_ints : ∀ (ns : List Int), Reps K io N H (ns.map D.int) (ns.map V.int)
  | [] => rfl
  | _ :: ns => ⟨_, _, rfl, rfl, Reps.of_ints ns⟩
theorem RSt.mem (S : RSt K io N H st) {a : Addr} (h : a ∈ io) : ∃ u, H a = some u := by
  obtain ⟨n, hn⟩ := List.mem_iff_getElem?.mp h
  have hl : n < st.length := by rw [← S.len]; exact (List.getElem?_eq_some_iff.mp hn).1
  obtain ⟨b, u, e1, e2, _⟩ := S.ob n _ (List.getElem?_eq_getElem hl)
  rw [hn] at e1
  cases e1
  exact ⟨u, e2⟩
theorem RSt.out (S : RSt K io N H st) {p : Addr} (h : H p = none) : p ∉ io := fun m => by
  obtain ⟨u, e⟩ := S.mem m
  rw [h] at e
  cases e
theorem RSt.mono (S : RSt K io N H st) (e : Ext io H io H') (k : ∀ a ∈ io, H' a = H a) : RSt K io N H' st := ⟨S.len, S.nd, fun n o h => by
  obtain ⟨a, u, e1, e2, e3⟩ := S.ob n o h
  exact ⟨a, u, e1, by rw [k a (List.mem_of_getElem? e1)]; exact e2, e3.mono e⟩, fun a ha z => S.tr a ha (e.trk a z)⟩
theorem RSt.weak (S : RSt K io (N' ++ N) H st) : RSt K io N H st := ⟨S.len, S.nd, fun n o h => by
  obtain ⟨a, u, e1, e2, e3⟩ := S.ob n o h
  exact ⟨a, u, e1, e2, RepU.weak _ _ e3⟩, fun a ha => S.tr a (List.mem_append_right _ ha)⟩
theorem RSt.outN (S : RSt K io N H st) {p : Addr} (h : H p = none) : p ∉ N := fun m => S.tr p m h
/-- a new thing outside the store -/
theorem Ext.new {p : Addr} {u : HO} (hp : H p = none) : Ext io H io (upd H p u) := ⟨⟨[], by simp, by simp⟩, fun q o _ h => by rw [upd_ne (ne_of_none h hp)]; exact h, fun q h => by
  by_cases e : q = p
  · subst e; exact hp
  · rw [upd_ne e] at h; exact h⟩
theorem RSt.new {p : Addr} {u : HO} (S : RSt K io N H st) (hp : H p = none) : RSt K io N (upd H p u) st := S.mono (Ext.new hp) fun a ha => by
  obtain ⟨v, e⟩ := S.mem ha
  rw [upd_ne (ne_of_none e hp)]
/-- the same, shunned from now on -/
theorem RSt.fresh {p : Addr} {u : HO} (S : RSt K io N H st) (hp : H p = none) : RSt K io (p :: N) (upd H p u) st := ⟨S.len, S.nd, fun n o h => by
  obtain ⟨a, v, e1, e2, e3⟩ := S.ob n o h
  exact ⟨a, v, e1, by rw [upd_ne (ne_of_none e2 hp)]; exact e2, (e3.shun hp).mono (Ext.new hp)⟩, fun a ha z => by
  rcases List.mem_cons.mp ha with rfl | ha
  · rw [upd_same] at z; cases z
  · exact S.tr a ha ((Ext.new (io := []) hp).trk a z)⟩
/-- a thing of one's own is taken into the store -/
theorem RSt.push {p : Addr} {u : HO} {o : O} (S : RSt K io (p :: N) H st) (hp : p ∉ io) (hu : H p = some u) (r : RepU K io (p :: N) H o u) : RSt K (io ++ [p]) N H (st ++ [o]) := by
  refine ⟨by simp [S.len], List.nodup_append.mpr ⟨S.nd, by simp, by simpa using fun a ha (e : a = p) => hp (e ▸ ha)⟩, fun n o' h => ?_, fun a ha => S.tr a (List.mem_cons_of_mem _ ha)⟩
  by_cases hn : n < st.length
  · rw [List.getElem?_append_left hn] at h
    obtain ⟨a, w, e1, e2, e3⟩ := S.ob n o' h
    exact ⟨a, w, by rw [List.getElem?_append_left (by rw [S.len]; exact hn)]; exact e1, e2, e3.take⟩
  · have hn' : n = st.length := by
      have z := (List.getElem?_eq_some_iff.mp h).1
      simp at z
      omega
    subst hn'
    rw [List.getElem?_concat_length] at h
    cases h
    exact ⟨p, u, by rw [← S.len, List.getElem?_concat_length], hu, r.take⟩
theorem Ext.push {p : Addr} (e : Ext io H io' H') (hp : H p = none) : Ext io H (io' ++ [p]) H' := by
  obtain ⟨r, rfl, hr⟩ := e.pre
  exact ⟨⟨r ++ [p], by rw [List.append_assoc], fun a ha => (List.mem_append.mp ha).elim (hr a) fun z => by rw [List.mem_singleton.mp z]; exact hp⟩, e.keep, e.trk⟩
/-- an object of the store is changed -/
theorem RSt.set {n : Nat} {a : Addr} {u : HO} {o : O} (S : RSt K io N H st) (ha : io[n]? = some a) (r : RepU K io N (upd H a u) o u) : RSt K io N (upd H a u) (st.set n o) ∧ Ext io H io (upd H a u) := by
  have hm : a ∈ io := List.mem_of_getElem? ha
  have ex : Ext io H io (upd H a u) := ⟨⟨[], by simp, by simp⟩, fun p v hp e => by rw [upd_ne fun z => hp (by rw [z]; exact hm)]; exact e, fun p e => by
    by_cases z : p = a
    · subst z; rw [upd_same] at e; cases e
    · rw [upd_ne z] at e; exact e⟩
  refine ⟨⟨by simp [S.len], S.nd, fun m o' h => ?_, fun a ha z => S.tr a ha (ex.trk a z)⟩, ex⟩
  by_cases e : m = n
  · subst e
    have hl : m < st.length := by rw [← S.len]; exact (List.getElem?_eq_some_iff.mp ha).1
    rw [List.getElem?_set_self hl] at h
    cases h
    exact ⟨a, u, ha, upd_same, r⟩
  · rw [List.getElem?_set_ne (fun z => e z.symm)] at h
    obtain ⟨b, w, e1, e2, e3⟩ := S.ob m o' h
    have nb : b ≠ a := fun z => by
      subst z
      exact e ((List.getElem?_inj (List.getElem?_eq_some_iff.mp e1).1 S.nd).mp (e1.trans ha.symm))
    exact ⟨b, w, e1, by rw [upd_ne nb]; exact e2, e3.mono ex⟩
end

/-! ### where one stands: what is wished of exceptions, what holds all the while -/
structure Wi where
  w : WX
  /-- what holds all the while, of the heap and of the slots at pr, that nobody writes -/
  I : List Addr → Hp → St → Prop
  pr : List Nat
  mono : ∀ {io H io' H' s}, Ext io H io' H' → I io H s → I io' H' s
  set : ∀ {io H s i o}, pr.contains i = false → I io H s → I io H (s.set i o)
/-- these slots may be written -/
def Wi.may (W : Wi) (l : List Nat) : Bool := l.all fun i => !W.pr.contains i
theorem Wi.may_of {W : Wi} {l : List Nat} (h : W.may l = true) {i : Nat} (hi : i ∈ l) : W.pr.contains i = false := by
  have := List.all_eq_true.mp h i hi
  simpa using this
def REnv (K : PySem.W.Frag) (W : Wi) (io N : List Addr) (H : Hp) (l : Sl) (s : St) : Prop := W.I io H s ∧ REn0 K io N H l s
section
variable {K : PySem.W.Frag} {W : Wi} {io io' N : List Addr} {H H' : Hp} {l : Sl} {s : St}
theorem REnv.mono (h : REnv K W io N H l s) (e : Ext io H io' H') : REnv K W io' N H' l s := ⟨W.mono e h.1, REn0.mono e h.2⟩
theorem REnv.get (h : REnv K W io N H l s) {i : Nat} {d : D} (e : l[i]? = some (some d)) : ∃ v, s[i]? = some (some v) ∧ Rep K io N H d v := REn0.get h.2 e
theorem REnv.set (h : REnv K W io N H l s) (i : Nat) {d : D} {v : V} (hi : W.pr.contains i = false) (r : Rep K io N H d v) : REnv K W io N H (l.set i (some d)) (s.set i (some v)) := ⟨W.set hi h.1, REn0.set i h.2 r⟩
theorem REnv.unset (h : REnv K W io N H l s) (i : Nat) {o : Option V} (hi : W.pr.contains i = false) : REnv K W io N H (l.set i none) (s.set i o) := ⟨W.set hi h.1, REn0.unset i h.2⟩
theorem REnv.len (h : REnv K W io N H l s) : s.length = l.length := REn0.len h.2
theorem REnv.shun (h : REnv K W io N H l s) {p : Addr} (hp : H p = none) : REnv K W io (p :: N) H l s := ⟨h.1, REn0.shun hp h.2⟩
/-- the same, nothing wished of exceptions -/
def Wi.inn (W : Wi) : Wi := { W with w := fun _ _ _ _ => False }
/-- the same, another wish -/
def Wi.wi (W : Wi) (Y : WX) : Wi := { W with w := Y }
theorem REnv.inn (h : REnv K W io N H l s) : REnv K W.inn io N H l s := h
end

/-! ### results -/
inductive Rz (A : Type) where
  | ok (a : A) (st : Store) | exc (c : Str) (fs : List (Str × D)) (st : Store) | fail
def Rz.bind {A B : Type} (z : Rz A) (k : A → Store → Rz B) : Rz B := match z with
  | .ok a st => k a st
  | .exc c fs st => .exc c fs st
  | .fail => .fail
abbrev EM (A : Type) := Sl → Store → Rz A
structure Rp (A B : Type) where
  r : PySem.W.Frag → Hp → List Addr → List Addr → Hp → A → B → Prop
  back : ∀ {K H0 H1 io N H a b}, (∀ p, H1 p = none → H0 p = none) → r K H1 io N H a b → r K H0 io N H a b
  sh : B → List Addr
def rD : Rp D V := ⟨fun K _ io N H d v => Rep K io N H d v, fun _ h => h, fun _ => []⟩
def rA : Rp (List D) (List V) := ⟨fun K _ io N H d v => Reps K io N H d v, fun _ h => h, fun _ => []⟩
def rE (A : Type) : Rp A A := ⟨fun _ _ _ _ _ a b => a = b, fun _ h => h, fun _ => []⟩
/-- a list that nobody else holds -/
def rL : Rp (List D) V := ⟨fun K H0 io N H l v => ∃ p xs, v = .ref p ∧ H0 p = none ∧ p ∉ io ∧ H p = some (.lst xs) ∧ Reps K io (p :: N) H l xs, fun t ⟨p, xs, a, b, c⟩ => ⟨p, xs, a, t p b, c⟩, fun v => match v with | .ref p => [p] | _ => []⟩
def Post {A B : Type} (K : PySem.W.Frag) (R : Rp A B) (io N : List Addr) (H : Hp) (z : Rz A) (Q : B → Hp → Prop) (W : XK) : Prop := match z with
  | .ok a st => ∀ io' H' b, Ext io H io' H' → RSt K io' (R.sh b ++ N) H' st → R.r K H io' N H' a b → Q b H'
  | .exc c fs st => ∀ io' H' cls dd, Ext io H io' H' → RSt K io' N H' st → RepX K io' N H' c fs cls dd → W cls dd H'
  | .fail => False
theorem Post.step {A B : Type} {K : PySem.W.Frag} {R : Rp A B} {io io1 N : List Addr} {H H1 : Hp} {z : Rz A} {Q : B → Hp → Prop} {W : XK} (e : Ext io H io1 H1) (h : Post K R io N H z Q W) : Post K R io1 N H1 z Q W := by
  cases z with
  | ok a st => exact fun io' H' b e' S r => h io' H' b (e.trans e') S (R.back e.trk r)
  | exc c fs st => exact fun io' H' cls dd e' S r => h io' H' cls dd (e.trans e') S r
  | fail => exact h
def RG {A B : Type} (K : PySem.W.Frag) (R : Rp A B) (W : Wi) (t : St → Hp → (B → Hp → Prop) → Prop) (m : EM A) : Prop :=
  ∀ (io N : List Addr) (H : Hp) (s : St) (l : Sl) (st : Store) (Q : B → Hp → Prop), REnv K W io N H l s → RSt K io N H st → Post K R io N H (m l st) Q (fun c d H' => W.w c d s H') → t s H Q
theorem RG.seq {A B C E : Type} {K : PySem.W.Frag} {R : Rp A B} {R2 : Rp C E} {W : Wi} {t : St → Hp → (B → Hp → Prop) → Prop} {m : EM A} (h : RG K R W t m) {io N : List Addr} {H : Hp} {s : St} {l : Sl} {st : Store} (hl : REnv K W io N H l s) (hs : RSt K io N H st)
    {k : A → Store → Rz C} {Q : E → Hp → Prop} {Z : B → Hp → Prop} (p : Post K R2 io N H ((m l st).bind k) Q (fun c d H' => W.w c d s H'))
    (hk : ∀ io' H' a b st', Ext io H io' H' → RSt K io' (R.sh b ++ N) H' st' → R.r K H io' N H' a b → Post K R2 io' N H' (k a st') Q (fun c d H' => W.w c d s H') → Z b H') : t s H Z := by
  refine h io N H s l st Z hl hs ?_
  cases e : m l st with
  | ok a st' =>
    rw [e] at p
    exact fun io' H' b ex S r => hk io' H' a b st' ex S r (Post.step ex p)
  | exc c fs st' =>
    rw [e] at p
    exact p
  | fail =>
    rw [e] at p
    exact p
theorem Post.ok_ {A B : Type} {K : PySem.W.Frag} {R : Rp A B} {io N : List Addr} {H : Hp} {a : A} {st : Store} {Q : B → Hp → Prop} {W : XK} {b : B} (p : Post K R io N H (.ok a st) Q W) (S : RSt K io (R.sh b ++ N) H st) (r : R.r K H io N H a b) : Q b H := p io H b (Ext.refl _ _) S r

/-! ### the judgements -/
def ME (X : Cx) (W : Wi) (e : Expr) (m : EM D) : Prop := ∃ t, PE X e t ∧ RG X.K rD W t m
def ML (X : Cx) (W : Wi) (e : Expr) (m : EM (List D)) : Prop := ∃ t, PE X e t ∧ RG X.K rL W t m
def MT (X : Cx) (W : Wi) (e : Expr) (m : EM Bool) : Prop := ∃ t, PT X e t ∧ RG X.K (rE Bool) W t m
def MW (X : Cx) (W : Wi) (e : Expr) (m : EM Bool) : Prop := ∃ t, PW X e t ∧ RG X.K (rE Bool) W t m
def MA (X : Cx) (W : Wi) (es : List Expr) (m : EM (List D)) : Prop := ∃ t, PA X es t ∧ RG X.K rA W t m
def MO (X : Cx) (W : Wi) (e : Option Expr) (m : EM (Option Int)) : Prop := ∃ t, PO X e t ∧ RG X.K (rE (Option Int)) W t m
end Rf
namespace Rf
set_option autoImplicit false
open PySem PySem.Spec L2

section
variable {K : PySem.W.Frag} {X : Cx} {W : Wi} {pos : Pos}

/-! ### names and constants -/
def vr (i : Nat) : EM D := fun l st => match l[i]? with
  | some (some d) => .ok d st
  | _ => .fail
def cst (d : D) : EM D := fun _ st => .ok d st
theorem rg_var (i : Nat) : RG K rD W (tVar i) (vr i) := by
  intro io N H s l st Q hl hs p
  unfold vr at p
  split at p
  · rename_i d e
    obtain ⟨v, e1, r⟩ := hl.get e
    exact ⟨v, e1, p io H v (Ext.refl _ _) hs r⟩
  · exact p.elim
theorem rg_c {d : D} {v : V} (h : ∀ io N H, Rep K io N H d v) : RG K rD W (tC v) (cst d) := fun io N H s l st Q hl hs p => p io H v (Ext.refl _ _) hs (h io N H)
theorem me_var (i : Nat) {x : Str} (hN : X.N[i]? = some x := by rfl) (hv : Vis X.env.scope x := by first | exact Or.inl rfl | exact Or.inr (Or.inl rfl) | exact Or.inr (Or.inr rfl)) (hd : (x == ("__debug__" : Str)) = false := by decide)
    (hcd : (x == ("__classdict__" : Str)) = false := by decide) : ME X W (.Name x pos) (vr i) := ⟨_, pe_var hN hv hd hcd, rg_var i⟩
theorem me_int {i : Int} {j} : ME X W (.Constant (.int i) j pos) (cst (.int i)) := ⟨_, pe_int, rg_c fun _ _ _ => rfl⟩
theorem me_bl {b : Bool} {j} : ME X W (.Constant (.bool b) j pos) (cst (.bl b)) := ⟨_, pe_bl, rg_c fun _ _ _ => rfl⟩
theorem me_non {j} : ME X W (.Constant .none j pos) (cst .non) := ⟨_, pe_non, rg_c fun _ _ _ => rfl⟩
theorem me_str {x : Str} {j} : ME X W (.Constant (.str x) j pos) (cst (.str x)) := ⟨_, pe_str, rg_c fun _ _ _ => rfl⟩
theorem me_gint {x : Str} {i : Int} (hm : ∃ t, X.mg x = some (.int i t)) (hg : Gl X x := by rfl) (hd : (x == ("__debug__" : Str)) = false := by decide) : ME X W (.Name x pos) (cst (.int i)) := by
  obtain ⟨t, e⟩ := hm
  exact ⟨_, pe_glob (v := .int i) hg e ⟨t, rfl⟩ hd, rg_c fun _ _ _ => rfl⟩

/-! ### argument lists, displays -/
def nilA : EM (List D) := fun _ st => .ok [] st
def consA (a : EM D) (r : EM (List D)) : EM (List D) := fun l st => (a l st).bind fun d st1 => (r l st1).bind fun ds st2 => .ok (d :: ds) st2
theorem ma_nil : MA X W [] nilA := ⟨_, pa_nil, fun io N H s l st Q hl hs p => p io H [] (Ext.refl _ _) hs rfl⟩
theorem ma_cons {e : Expr} {es : List Expr} {a : EM D} {r : EM (List D)} (ha : ME X W e a) (hr : MA X W es r) (hs : starEach (e :: es) X.env = (false, eval e X.env) :: starEach es X.env := by rfl) : MA X W (e :: es) (consA a r) := by
  obtain ⟨t1, p1, r1⟩ := ha
  obtain ⟨t2, p2, r2⟩ := hr
  refine ⟨_, pa_cons p1 p2 hs, fun io N H s l st Q hl hs p => ?_⟩
  refine r1.seq hl hs p fun io1 H1 d v st1 e1 S1 q1 p1 => ?_
  refine r2.seq (hl.mono e1) S1 p1 fun io2 H2 ds vs st2 e2 S2 q2 p2 => ?_
  exact p2 io2 H2 _ (Ext.refl _ _) S2 ⟨v, vs, rfl, q1.mono e2, q2⟩
def small (n : Nat) : Bool := Nat.ble n 1000000
theorem small_ok {n : Nat} (h : small n = true) : n ≤ sizeLine := Nat.le_trans (Nat.le_of_ble_eq_true h) (by rw [sizeLine_eq]; decide)
theorem small_lt {n : Nat} (h : small n = true) : n < sizeLine := Nat.lt_of_le_of_lt (Nat.le_of_ble_eq_true h) (by rw [sizeLine_eq]; decide)
/-- a display's items -/
def disp (a : EM (List D)) : EM (List D) := fun l st => (a l st).bind fun ds st1 => if small ds.length = true then .ok ds st1 else .fail
def tupM (a : EM (List D)) : EM D := fun l st => (disp a l st).bind fun ds st1 => .ok (.tup ds) st1
/-- a temporary list is held as a value -/
def fz (a : EM (List D)) : EM D := fun l st => (a l st).bind fun ds st1 => .ok (.fl ds) st1
/-- a temporary list is laid into the store -/
def al (a : EM (List D)) : EM D := fun l st => (a l st).bind fun ds st1 => .ok (.ref st1.length) (st1 ++ [.lst ds])
theorem Rz.bind_bind {A B C : Type} (z : Rz A) (f : A → Store → Rz B) (g : B → Store → Rz C) : (z.bind f).bind g = z.bind fun a st => (f a st).bind g := by
  cases z <;> rfl
theorem post_if {A B : Type} {R : Rp A B} {io N : List Addr} {H : Hp} {c : Prop} [Decidable c] {z : Rz A} {Q : B → Hp → Prop} {Y : XK} (p : Post K R io N H (if c then z else .fail) Q Y) : c ∧ Post K R io N H z Q Y := by
  by_cases h : c
  · rw [if_pos h] at p; exact ⟨h, p⟩
  · rw [if_neg h] at p; exact p.elim
theorem me_tup {es : List Expr} {a : EM (List D)} {x1} (ha : MA X W es a) : ME X W (.Tuple es x1 pos) (tupM a) := by
  obtain ⟨t, p, r⟩ := ha
  refine ⟨_, pe_tup p, fun io N H s l st Q hl hs p => ?_⟩
  unfold tupM disp at p
  rw [Rz.bind_bind] at p
  refine r.seq hl hs p fun io1 H1 ds vs st1 e1 S1 q1 p1 => ?_
  by_cases hc : small ds.length = true
  · rw [if_pos hc] at p1
    refine ⟨by rw [q1.len]; exact small_ok hc, fun a ha => ?_⟩
    exact p1 io1 _ _ (Ext.new ha) (S1.new ha) ⟨a, vs, rfl, .inl ⟨S1.out ha, S1.outN ha, upd_same⟩, q1.mono (Ext.new ha)⟩
  · rw [if_neg hc] at p1
    exact p1.elim
theorem fresh_list {io N : List Addr} {H H0 : Hp} {st : Store} {l : List D} {xs : List V} {p : Addr} (S : RSt K io N H st) (q : Reps K io N H l xs) (hp : H p = none) (t : ∀ p, H p = none → H0 p = none) :
    RSt K io (p :: N) (upd H p (.lst xs)) st ∧ rL.r K H0 io N (upd H p (.lst xs)) l (.ref p) :=
  ⟨S.fresh hp, ⟨p, xs, rfl, t p hp, S.out hp, upd_same, (q.shun hp).mono (Ext.new hp)⟩⟩
theorem ml_disp {es : List Expr} {a : EM (List D)} (ha : MA X W es a) : ML X W (.List es pos) (disp a) := by
  obtain ⟨t, p, r⟩ := ha
  refine ⟨_, pe_lst p, fun io N H s l st Q hl hs p => ?_⟩
  unfold disp at p
  refine r.seq hl hs p fun io1 H1 ds vs st1 e1 S1 q1 p1 => ?_
  obtain ⟨hc, p1⟩ := post_if p1
  refine ⟨by rw [q1.len]; exact small_ok hc, fun a ha => ?_⟩
  obtain ⟨S2, q2⟩ := fresh_list S1 q1 ha fun _ h => h
  exact p1 io1 _ _ (Ext.new ha) S2 q2
theorem rg_fz {t : TE} {a : EM (List D)} (r : RG K rL W t a) : RG K rD W t (fz a) := by
  intro io N H s l st Q hl hs p
  refine r.seq hl hs p fun io1 H1 ds v st1 e1 S1 q1 p1 => ?_
  obtain ⟨a, xs, rfl, h0, h1, h2, h3⟩ := q1
  exact p1 io1 H1 _ (Ext.refl _ _) (RSt.weak (N' := [a]) S1) ⟨a, xs, rfl, ⟨h1, hs.outN h0, h2⟩, Reps.weak (N' := [a]) _ _ h3⟩
theorem rg_al {t : TE} {a : EM (List D)} (r : RG K rL W t a) : RG K rD W t (al a) := by
  intro io N H s l st Q hl hs p
  unfold al at p
  refine r io N H s l st Q hl hs ?_
  cases e : a l st with
  | ok ds st1 =>
    rw [e] at p
    intro io1 H1 v e1 S1 q1
    obtain ⟨a, xs, rfl, h0, h1, h2, h3⟩ := q1
    refine p (io1 ++ [a]) H1 _ (e1.push h0) (S1.push h1 h2 ⟨xs, rfl, h3⟩) ⟨a, ?_, rfl⟩
    rw [← (S1.len), List.getElem?_concat_length]
  | exc c fs st1 =>
    rw [e] at p
    exact p
  | fail =>
    rw [e] at p
    exact p
theorem me_fz {e : Expr} {a : EM (List D)} (h : ML X W e a) : ME X W e (fz a) := by
  obtain ⟨t, p, r⟩ := h
  exact ⟨t, p, rg_fz r⟩
theorem me_al {e : Expr} {a : EM (List D)} (h : ML X W e a) : ME X W e (al a) := by
  obtain ⟨t, p, r⟩ := h
  exact ⟨t, p, rg_al r⟩

/-! ### lists by value or in the store -/
def lof (d : D) (st : Store) : Option (List D) := match d with
  | .fl l => some l
  | .rd l => some l
  | .ref n => match st[n]? with
    | some (.lst l) => some l
    | _ => none
  | _ => none
theorem lof_ok {io N : List Addr} {H : Hp} {st : Store} {d : D} {v : V} {l : List D} (S : RSt K io N H st) (r : Rep K io N H d v) (h : lof d st = some l) : ∃ p xs, v = .ref p ∧ SqL K H p xs ∧ Reps K io N H l xs := by
  unfold lof at h
  split at h
  · cases h
    obtain ⟨p, xs, rfl, ⟨_, _, c⟩, q⟩ := r
    exact ⟨p, xs, rfl, SqL.of c, q⟩
  · cases h
    obtain ⟨p, xs, rfl, c, q⟩ := r
    rcases c with ⟨_, _, c | ⟨o, c⟩⟩ | c
    · exact ⟨p, xs, rfl, SqL.of c, q⟩
    · exact ⟨p, xs, rfl, .inl (.inr ⟨o, c⟩), q⟩
    · exact ⟨p, xs, rfl, c H, q⟩
  · split at h
    · rename_i l' e
      cases h
      obtain ⟨a, e1, rfl⟩ := r
      obtain ⟨b, u, e2, e3, xs, rfl, e4⟩ := S.ob _ _ e
      rw [e1] at e2
      cases e2
      exact ⟨a, xs, rfl, SqL.of e3, e4⟩
    · cases h
  · cases h
/-- a list that is tracked as such (no locked one) -/
def lofM (d : D) (st : Store) : Option (List D) := match d with
  | .fl l => some l
  | .ref n => match st[n]? with
    | some (.lst l) => some l
    | _ => none
  | _ => none
theorem lofM_ok {io N : List Addr} {H : Hp} {st : Store} {d : D} {v : V} {l : List D} (S : RSt K io N H st) (r : Rep K io N H d v) (h : lofM d st = some l) : ∃ p xs, v = .ref p ∧ H p = some (.lst xs) ∧ Reps K io N H l xs := by
  unfold lofM at h
  split at h
  · cases h
    obtain ⟨p, xs, rfl, ⟨_, _, c⟩, q⟩ := r
    exact ⟨p, xs, rfl, c, q⟩
  · split at h
    · rename_i l' e
      cases h
      obtain ⟨a, e1, rfl⟩ := r
      obtain ⟨b, u, e2, e3, xs, rfl, e4⟩ := S.ob _ _ e
      rw [e1] at e2
      cases e2
      exact ⟨a, xs, rfl, e3, e4⟩
    · cases h
  · cases h
theorem tup_ok {io N : List Addr} {H : Hp} {v : V} {l : List D} (r : Rep K io N H (.tup l) v) : ∃ p xs, v = .ref p ∧ SqT K H p xs ∧ Reps K io N H l xs := by
  obtain ⟨p, xs, rfl, c, q⟩ := r
  rcases c with ⟨_, _, c⟩ | c
  · exact ⟨p, xs, rfl, SqT.of c, q⟩
  · exact ⟨p, xs, rfl, c H, q⟩
/-- a tuple or a list -/
def sqof (d : D) (st : Store) : Option (List D) := match d with
  | .tup l => some l
  | d => lof d st
theorem sqof_ok {io N : List Addr} {H : Hp} {st : Store} {d : D} {v : V} {l : List D} (S : RSt K io N H st) (r : Rep K io N H d v) (h : sqof d st = some l) : ∃ p xs, v = .ref p ∧ (SqL K H p xs ∨ SqT K H p xs) ∧ Reps K io N H l xs := by
  unfold sqof at h
  split at h
  · cases h
    obtain ⟨p, xs, e, c, q⟩ := tup_ok r
    exact ⟨p, xs, e, .inr c, q⟩
  · obtain ⟨p, xs, e, c, q⟩ := lof_ok S r h
    exact ⟨p, xs, e, .inl c, q⟩

/-! ### operators by values -/
def OpM (K : PySem.W.Frag) (r : R2) (f : D → D → Store → Rz D) : Prop := ∀ (io N : List Addr) (H : Hp) (x y : V) (d e : D) (st : Store) (Q : VK) (Y : XK), RSt K io N H st → Rep K io N H d x → Rep K io N H e y → Post K rD io N H (f d e st) Q Y → r x y H Q
def b2 {A : Type} (f : D → D → Store → Rz A) (a b : EM D) : EM A := fun l st => (a l st).bind fun d st1 => (b l st1).bind fun e st2 => f d e st2
theorem rg_op {r : R2} {f : D → D → Store → Rz D} {ta tb : TE} {a b : EM D} (h : OpM K r f) (h1 : RG K rD W ta a) (h2 : RG K rD W tb b) : RG K rD W (tOp r ta tb) (b2 f a b) := fun io N H s l st Q hl hs p =>
  h1.seq hl hs p fun io1 H1 d v st1 e1 S1 q1 p1 => h2.seq (hl.mono e1) S1 p1 fun io2 H2 e w st2 e2 S2 q2 p2 => h io2 N H2 v w d e st2 Q _ S2 (q1.mono e2) q2 p2
theorem me_op {op : Operator} {r : R2} {f : D → D → Store → Rz D} {ea eb : Expr} {a b : EM D} (ho : OpR X (binaryOp op) r) (h : OpM X.K r f) (h1 : ME X W ea a) (h2 : ME X W eb b) : ME X W (.BinOp ea op eb pos) (b2 f a b) := by
  obtain ⟨t1, p1, r1⟩ := h1
  obtain ⟨t2, p2, r2⟩ := h2
  exact ⟨_, pe_op ho p1 p2, rg_op h r1 r2⟩
theorem me_cmp {op : CmpOp} {r : R2} {f : D → D → Store → Rz D} {ea eb : Expr} {a b : EM D} (ho : OpR X (compareOp op) r) (h : OpM X.K r f) (hm : behindInMarks op eb = false) (h1 : ME X W ea a) (h2 : ME X W eb b) : ME X W (.Compare ea [op] [eb] pos) (b2 f a b) := by
  obtain ⟨t1, p1, r1⟩ := h1
  obtain ⟨t2, p2, r2⟩ := h2
  exact ⟨_, pe_cmpR ho p1 p2 hm, rg_op h r1 r2⟩
/-- a bool as a test -/
def tst (a : EM D) : EM Bool := fun l st => (a l st).bind fun d st1 => match d with
  | .bl b => .ok b st1
  | _ => .fail
theorem rg_tst {t : TE} {a : EM D} (h : RG K rD W t a) : RG K (rE Bool) W (fun s H Q => t s H fun x H' => ∃ k, x = .bl k ∧ Q k H') (tst a) := fun io N H s l st Q hl hs p =>
  h.seq hl hs p fun io1 H1 d v st1 e1 S1 q1 p1 => by
    cases d with
    | bl b => exact ⟨b, q1, p1 io1 H1 b (Ext.refl _ _) S1 rfl⟩
    | _ => exact p1.elim
theorem mt_cmp {op : CmpOp} {r : R2} {f : D → D → Store → Rz D} {ea eb : Expr} {a b : EM D} (ho : OpR X (compareOp op) r) (h : OpM X.K r f) (hm : behindInMarks op eb = false) (h1 : ME X W ea a) (h2 : ME X W eb b) : MT X W (.Compare ea [op] [eb] pos) (tst (b2 f a b)) := by
  obtain ⟨t1, p1, r1⟩ := h1
  obtain ⟨t2, p2, r2⟩ := h2
  exact ⟨_, pt_cmpR ho p1 p2 hm, rg_tst (rg_op h r1 r2)⟩
/-- an expression that gives a bool (a call, a value) as a test -/
theorem mt_val {e : Expr} {a : EM D} (h : ME X W e a) (he : ∀ whole, isTrue e X.env whole = (do let v ← whole; standAt e.pos; holding [v] (truthy v)) := by intro _; rfl) : MT X W e (tst a) := by
  obtain ⟨t, p, r⟩ := h
  exact ⟨_, pt_val p he, rg_tst r⟩

/-! ### numbers, texts, tuples -/
theorem post_val {io N : List Addr} {H : Hp} {d : D} {st : Store} {Q : VK} {Y : XK} {v : V} (p : Post K rD io N H (.ok d st) Q Y) (S : RSt K io N H st) (r : Rep K io N H d v) : Q v H := p io H v (Ext.refl _ _) S r
def addM (d e : D) (st : Store) : Rz D := match d, e with
  | .int i, .int j => .ok (.int (i + j)) st
  | .str x, .str y => if small (x.length + y.length) = true then .ok (.str (x ++ y)) st else .fail
  | .tup a, .tup b => if small (a.length + b.length) = true then .ok (.tup (a ++ b)) st else .fail
  | _, _ => .fail
theorem opm_add : OpM K (fun x y H Q => rI0 (fun i j => .int (i + j)) x y H Q ∨ ((∃ i j, x = .str i ∧ y = .str j ∧ i.length + j.length ≤ sizeLine ∧ Q (.str (i ++ j)) H) ∨ rCatA K x y H Q)) addM := by
  intro io N H x y d e st Q Y S r1 r2 p
  unfold addM at p
  split at p
  · exact .inl ⟨_, _, r1, r2, post_val p S rfl⟩
  · obtain ⟨hc, p⟩ := post_if p
    exact .inr (.inl ⟨_, _, r1, r2, small_ok hc, post_val p S rfl⟩)
  · rename_i la lb
    obtain ⟨hc, p⟩ := post_if p
    obtain ⟨a, xs, rfl, ca, qa⟩ := id r1
    obtain ⟨a', xs', e1, ca', qa'⟩ := tup_ok r1
    obtain ⟨b, ys, rfl, cb, qb⟩ := id r2
    obtain ⟨b', ys', e2, cb', qb'⟩ := tup_ok r2
    cases e1
    cases e2
    refine .inr (.inr ⟨a, b, xs', ys', rfl, rfl, ca', cb', by rw [qa'.len, qb'.len]; exact small_ok hc, fun h => ?_, fun _ h => ?_, fun _ _ q hq => ?_⟩)
    · subst h
      have : la = [] := by have z := qa'.len; simp at z; exact List.eq_nil_of_length_eq_zero z.symm
      subst this
      exact post_val p S r2
    · subst h
      have : lb = [] := by have z := qb'.len; simp at z; exact List.eq_nil_of_length_eq_zero z.symm
      subst this
      rw [List.append_nil] at p
      exact post_val p S r1
    · exact p io _ _ (Ext.new hq) (S.new hq) ⟨q, _, rfl, .inl ⟨S.out hq, S.outN hq, upd_same⟩, (qa'.app qb').mono (Ext.new hq)⟩
  · exact p.elim
theorem me_add {ea eb : Expr} {a b : EM D} (h1 : ME X W ea a) (h2 : ME X W eb b) : ME X W (.BinOp ea .Add eb pos) (b2 addM a b) := me_op (op_add.or (op_add_str.or op_catA)) opm_add h1 h2
def subM (d e : D) (st : Store) : Rz D := match d, e with
  | .int i, .int j => .ok (.int (i - j)) st
  | _, _ => .fail
theorem me_sub {ea eb : Expr} {a b : EM D} (h1 : ME X W ea a) (h2 : ME X W eb b) : ME X W (.BinOp ea .Sub eb pos) (b2 subM a b) := me_op op_sub (by
  intro io N H x y d e st Q Y S r1 r2 p
  unfold subM at p
  split at p
  · exact ⟨_, _, r1, r2, post_val p S rfl⟩
  · exact p.elim) h1 h2
def mod0 (i j : Int) : Bool := decide (0 < j)
def modM (d e : D) (st : Store) : Rz D := match d, e with
  | .int i, .int j => if 0 < j then .ok (.int (i % j)) st else .fail
  | _, _ => .fail
theorem me_mod {ea eb : Expr} {a b : EM D} (h1 : ME X W ea a) (h2 : ME X W eb b) : ME X W (.BinOp ea .Mod eb pos) (b2 modM a b) := me_op op_mod (by
  intro io N H x y d e st Q Y S r1 r2 p
  unfold modM at p
  split at p
  · obtain ⟨hc, p⟩ := post_if p
    exact ⟨_, _, r1, r2, hc, post_val p S rfl⟩
  · exact p.elim) h1 h2
def fdivM (d e : D) (st : Store) : Rz D := match d, e with
  | .int i, .int j => if 0 < j ∧ j < 1073741824 then .ok (.int (i / j)) st else .fail
  | _, _ => .fail
theorem me_fdiv {ea eb : Expr} {a b : EM D} (h1 : ME X W ea a) (h2 : ME X W eb b) : ME X W (.BinOp ea .FloorDiv eb pos) (b2 fdivM a b) := me_op op_fdiv (by
  intro io N H x y d e st Q Y S r1 r2 p
  unfold fdivM at p
  split at p
  · obtain ⟨hc, p⟩ := post_if p
    exact ⟨_, _, r1, r2, hc, post_val p S rfl⟩
  · exact p.elim) h1 h2
def powM (d e : D) (st : Store) : Rz D := match d, e with
  | .int i, .int j => if 0 ≤ j ∧ j ≤ 1000000 ∧ i.natAbs < 18446744073709551616 then .ok (.int (i ^ j.toNat)) st else .fail
  | _, _ => .fail
theorem me_pow {ea eb : Expr} {a b : EM D} (h1 : ME X W ea a) (h2 : ME X W eb b) : ME X W (.BinOp ea .Pow eb pos) (b2 powM a b) := me_op op_pow (by
  intro io N H x y d e st Q Y S r1 r2 p
  unfold powM at p
  split at p
  · obtain ⟨hc, p⟩ := post_if p
    exact ⟨_, _, r1, r2, hc, post_val p S rfl⟩
  · exact p.elim) h1 h2
/-- text * number -/
theorem op_rpS : OpR X (binaryOp .Mult) (fun x y H Q => ∃ z i, x = .str z ∧ y = .int i ∧ MulOk z i ∧ Q (.str (Txt.mul z i)) H) := by
  intro pins s σ H x y v u Q I rx ry h
  obtain ⟨z, i, rfl, rfl, hc, q⟩ := h
  obtain ⟨t, rfl⟩ := rx
  obtain ⟨t', rfl⟩ := ry
  exact SB.mul hc fun t'' k => ⟨.str (Txt.mul z i), H, I.tok _, ⟨_, rfl⟩, q⟩
theorem mulOk_small {z : Str} {i : Int} (h : 0 ≤ i ∧ i ≤ 1000 ∧ z.length ≤ 1000) : MulOk z i := by
  obtain ⟨h0, h1, h2⟩ := h
  refine ⟨?_, fun _ _ hc => ?_, fun _ _ => ?_⟩
  · rw [decide_eq_false (by omega), decide_eq_false (by omega)] <;> rfl
  · rename_i hn _
    have h3 : (1000 : Int) ≤ (2 ^ 63 - 1) / i := (Int.le_ediv_iff_mul_le (by omega)).mpr (by omega)
    omega
  · show decide (_ > sizeLine) = false
    have h4 : z.length * i.toNat ≤ 1000 * 1000 := Nat.mul_le_mul h2 (by omega)
    simp only [sizeLine_eq]
    exact decide_eq_false (by omega)
def rep (l : List D) (k : Nat) : List D := (List.replicate k l).flatten
def mulM (d e : D) (st : Store) : Rz D := match d, e with
  | .int i, .int j => if (-18446744073709551616 < i ∧ i < 18446744073709551616) ∨ (-18446744073709551616 < j ∧ j < 18446744073709551616) then .ok (.int (i * j)) st else .fail
  | .str x, .int i => if 0 ≤ i ∧ i ≤ 1000 ∧ x.length ≤ 1000 then .ok (.str (Txt.mul x i)) st else .fail
  | _, _ => .fail
theorem me_mul {ea eb : Expr} {a b : EM D} (h1 : ME X W ea a) (h2 : ME X W eb b) : ME X W (.BinOp ea .Mult eb pos) (b2 mulM a b) := me_op (op_mul.or op_rpS) (by
  intro io N H x y d e st Q Y S r1 r2 p
  unfold mulM at p
  split at p
  · obtain ⟨hc, p⟩ := post_if p
    exact .inl ⟨_, _, r1, r2, hc, post_val p S rfl⟩
  · obtain ⟨hc, p⟩ := post_if p
    exact .inr ⟨_, _, r1, r2, mulOk_small hc, post_val p S rfl⟩
  · exact p.elim) h1 h2
/-- int comparisons -/
def cmpM (g : Int → Int → Bool) (d e : D) (st : Store) : Rz D := match d, e with
  | .int i, .int j => .ok (.bl (g i j)) st
  | _, _ => .fail
theorem opm_cmp {g : Int → Int → Bool} : OpM K (rI0 fun i j => .bl (g i j)) (cmpM g) := by
  intro io N H x y d e st Q Y S r1 r2 p
  unfold cmpM at p
  split at p
  · exact ⟨_, _, r1, r2, post_val p S rfl⟩
  · exact p.elim
abbrev ltM := cmpM fun i j => decide (i < j)
abbrev leM := cmpM fun i j => decide (i ≤ j)
abbrev gtM := cmpM fun i j => decide (j < i)
abbrev geM := cmpM fun i j => decide (j ≤ i)
end
end Rf
namespace Rf
set_option autoImplicit false
open PySem PySem.Spec L2

/-! ### equality -/
mutual
def pd : D → Option PyData
  | .non => some .none
  | .bl b => some (.bool b)
  | .int i => some (.int i)
  | .str x => some (.str x)
  | .tup l => (pdAll l).map .tuple
  | .fl l => (pdAll l).map .list
  | .rd l => (pdAll l).map .list
  | .ref _ => none
  | .any => none
def pdAll : List D → Option (List PyData)
  | [] => some []
  | d :: l => match pd d, pdAll l with
    | some p, some q => some (p :: q)
    | _, _ => none
end
def sv : D → Option V
  | .non => some .non
  | .bl b => some (.bl b)
  | .int i => some (.int i)
  | .str x => some (.str x)
  | _ => none
/-- what stands behind a reference to a list -/
def rs (st : Store) (d : D) : D := match d with
  | .ref n => (match st[n]? with
    | some (.lst l) => .fl l
    | _ => .ref n)
  | d => d
def eqD (st : Store) (d e : D) : Option Bool := match sv d, sv e with
  | some x, some y => if scal x y = true then some (decide (x = y)) else (match pd d, pd e with
    | some p, some q => if SeqAt.shaped p = true ∧ SeqAt.shaped q = true then some (PyData.eqv p q) else none
    | _, _ => none)
  | _, _ => (match pd (rs st d), pd (rs st e) with
    | some p, some q => if SeqAt.shaped p = true ∧ SeqAt.shaped q = true then some (PyData.eqv p q) else none
    | _, _ => none)
def eqM (d e : D) (st : Store) : Rz D := match eqD st d e with
  | some b => .ok (.bl b) st
  | none => .fail
def neM (d e : D) (st : Store) : Rz D := match eqD st d e with
  | some b => .ok (.bl (!b)) st
  | none => .fail
section
variable {K : PySem.W.Frag} {X : Cx} {W : Wi} {pos : Pos} {io N : List Addr} {H : Hp} {st : Store}
mutual
theorem dp_of : ∀ (d : D) (v : V) (p : PyData), Rep K io N H d v → pd d = some p → Dp K H v p
  | .non, _, _, r, e => by cases r; cases e; exact .non
  | .bl b, _, _, r, e => by cases r; cases e; exact .bl b
  | .int i, _, _, r, e => by cases r; cases e; exact .int i
  | .str x, _, _, r, e => by cases r; cases e; exact .str x
  | .tup l, v, p, r, e => by
    obtain ⟨q, h, rfl⟩ := Option.map_eq_some_iff.mp (show (pdAll l).map PyData.tuple = some p from e)
    obtain ⟨a, xs, rfl, c, rr⟩ := tup_ok r
    exact .tup c (dp_all l xs q rr h)
  | .fl l, v, p, r, e => by
    obtain ⟨q, h, rfl⟩ := Option.map_eq_some_iff.mp (show (pdAll l).map PyData.list = some p from e)
    obtain ⟨a, xs, rfl, ⟨_, _, c⟩, rr⟩ := r
    exact .lst (SqL.of c) (dp_all l xs q rr h)
  | .rd l, v, p, r, e => by
    obtain ⟨q, h, rfl⟩ := Option.map_eq_some_iff.mp (show (pdAll l).map PyData.list = some p from e)
    obtain ⟨a, xs, rfl, c, rr⟩ := r
    have sq : SqL K H a xs := by
      rcases c with ⟨_, _, c | ⟨o, c⟩⟩ | c
      · exact SqL.of c
      · exact .inl (.inr ⟨o, c⟩)
      · exact c H
    exact .lst sq (dp_all l xs q rr h)
  | .ref _, _, _, _, e => by cases e
  | .any, _, _, _, e => by cases e
theorem dp_all : ∀ (l : List D) (xs : List V) (p : List PyData), Reps K io N H l xs → pdAll l = some p → DpAll K H xs p
  | [], _, _, r, e => by cases r; cases e; exact .nil
  | d :: l, xs, p, r, e => by
    obtain ⟨v, ys, rfl, a, b⟩ := r
    unfold pdAll at e
    split at e
    · rename_i p1 p2 e1 e2
      cases e
      exact .cons (dp_of d v p1 a e1) (dp_all l ys p2 b e2)
    · cases e
end
theorem dp_rs (S : RSt K io N H st) {d : D} {v : V} {p : PyData} (r : Rep K io N H d v) (e : pd (rs st d) = some p) : Dp K H v p := by
  unfold rs at e
  split at e
  · split at e
    · rename_i n l h
      obtain ⟨a, e1, rfl⟩ := r
      obtain ⟨b, u, e2, e3, xs, rfl, e4⟩ := S.ob _ _ h
      rw [e1] at e2
      cases e2
      obtain ⟨q, h, rfl⟩ := Option.map_eq_some_iff.mp (show (pdAll l).map PyData.list = some p from e)
      exact .lst (SqL.of e3) (dp_all l xs q e4 h)
    · cases e
  · exact dp_of _ v p r e
theorem sv_ok {d : D} {v x : V} (r : Rep K io N H d v) (e : sv d = some x) : v = x := by
  cases d <;> simp [sv] at e <;> subst e <;> exact r
theorem eqD_ok (S : RSt K io N H st) {d e : D} {x y : V} {b : Bool} (r1 : Rep K io N H d x) (r2 : Rep K io N H e y) (h : eqD st d e = some b) :
    (∃ p q, Dp K H x p ∧ Dp K H y q ∧ SeqAt.shaped p = true ∧ SeqAt.shaped q = true ∧ b = PyData.eqv p q) ∨ (scal x y = true ∧ b = decide (x = y)) := by
  unfold eqD at h
  split at h
  · rename_i x' y' e1 e2
    have z1 := sv_ok r1 e1
    have z2 := sv_ok r2 e2
    subst z1 z2
    split at h
    · cases h
      rename_i hs
      exact .inr ⟨hs, rfl⟩
    · split at h
      · rename_i p q f1 f2
        split at h
        · cases h
          rename_i hh
          exact .inl ⟨p, q, dp_of _ _ _ r1 f1, dp_of _ _ _ r2 f2, hh.1, hh.2, rfl⟩
        · cases h
      · cases h
  · split at h
    · rename_i p q f1 f2
      split at h
      · cases h
        rename_i hh
        exact .inl ⟨p, q, dp_rs S r1 f1, dp_rs S r2 f2, hh.1, hh.2, rfl⟩
      · cases h
    · cases h
theorem opm_eq : OpM K (fun x y H Q => rEqD K x y H Q ∨ rEq x y H Q) eqM := by
  intro io N H x y d e st Q Y S r1 r2 p
  unfold eqM at p
  split at p
  · rename_i b hb
    rcases eqD_ok S r1 r2 hb with ⟨p1, q1, a1, a2, a3, a4, rfl⟩ | ⟨a1, rfl⟩
    · exact .inl ⟨p1, q1, a1, a2, a3, a4, post_val p S rfl⟩
    · exact .inr ⟨a1, post_val p S rfl⟩
  · exact p.elim
theorem opm_ne : OpM K (fun x y H Q => rNeD K x y H Q ∨ rNe x y H Q) neM := by
  intro io N H x y d e st Q Y S r1 r2 p
  unfold neM at p
  split at p
  · rename_i b hb
    rcases eqD_ok S r1 r2 hb with ⟨p1, q1, a1, a2, a3, a4, rfl⟩ | ⟨a1, rfl⟩
    · exact .inl ⟨p1, q1, a1, a2, a3, a4, post_val p S rfl⟩
    · exact .inr ⟨a1, post_val p S rfl⟩
  · exact p.elim
/-! ### in -/
/-- what of a list d stands in is equal to e -/
def inD (st : Store) (d : D) (l : List D) : Option Bool := match pd (rs st d), pdAll l with
  | some p, some q => if SeqAt.shaped p = true ∧ SeqAt.shaped (.list q) = true then some (q.any fun z => PyData.eqv z p) else none
  | _, _ => none
def svAll : List D → Option (List V)
  | [] => some []
  | d :: l => match sv d, svAll l with
    | some p, some q => some (p :: q)
    | _, _ => none
theorem sv_flat {d : D} {x : V} (e : sv d = some x) : flatV x = true := by
  cases d <;> simp [sv] at e <;> subst e <;> rfl
theorem svAll_ok : ∀ {l : List D} {xs ys : List V}, Reps K io N H l xs → svAll l = some ys → xs = ys ∧ xs.all flatV = true
  | [], _, _, r, e => by cases r; cases e; exact ⟨rfl, rfl⟩
  | d :: l, _, _, r, e => by
    obtain ⟨v, ys, rfl, a, b⟩ := r
    unfold svAll at e
    split at e
    · rename_i p1 p2 e1 e2
      cases e
      obtain ⟨rfl, h⟩ := svAll_ok b e2
      have z := sv_ok a e1
      subst z
      exact ⟨rfl, by rw [List.all_cons, sv_flat e1, h] <;> rfl⟩
    · cases e
def isIn (d e : D) (st : Store) : Option Bool := match e with
  | .str z => (match d with
    | .str x => (match x.cps.toList with
      | [c] => some (decide (c ∈ z.cps.toList))
      | _ => none)
    | _ => none)
  | .tup l => (match sv d, svAll l with
    | some x, some ys => some (inV x ys)
    | _, _ => none)
  | e => (match lof e st with
    | some l => (match sv d, svAll l with
      | some x, some ys => some (inV x ys)
      | _, _ => inD st d l)
    | none => none)
def inM (d e : D) (st : Store) : Rz D := match isIn d e st with
  | some b => .ok (.bl b) st
  | none => .fail
def ninM (d e : D) (st : Store) : Rz D := match isIn d e st with
  | some b => .ok (.bl (!b)) st
  | none => .fail
theorem one_sign {z : Str} {c : Nat} (h : z.cps.toList = [c]) : z = ⟨#[c]⟩ := by
  cases z with
  | mk a =>
    have : a = #[c] := Array.ext' h
    rw [this]
theorem isIn_ok (S : RSt K io N H st) {d e : D} {x y : V} {b : Bool} (r1 : Rep K io N H d x) (r2 : Rep K io N H e y) (h : isIn d e st = some b) :
    (∃ p q, Dp K H x p ∧ Dp K H y (.list q) ∧ SeqAt.shaped p = true ∧ SeqAt.shaped (.list q) = true ∧ b = q.any fun z => PyData.eqv z p) ∨
      (∃ p xs, y = .ref p ∧ (SqL K H p xs ∨ SqT K H p xs) ∧ flatV x = true ∧ xs.all flatV = true ∧ b = inV x xs) ∨ (∃ (c : Nat) (z : Str), x = .str ⟨#[c]⟩ ∧ y = .str z ∧ b = decide (c ∈ z.cps.toList)) := by
  unfold isIn at h
  split at h
  · split at h
    · split at h
      · cases h
        rename_i c hc
        exact .inr (.inr ⟨c, _, (show x = V.str _ from r1).trans (congrArg V.str (one_sign hc)), r2, rfl⟩)
      · cases h
    · cases h
  · split at h
    · cases h
      rename_i l x' ys e1 e2
      obtain ⟨p, xs, rfl, c, q⟩ := tup_ok r2
      obtain ⟨rfl, f⟩ := svAll_ok q e2
      have z := sv_ok r1 e1
      subst z
      exact .inr (.inl ⟨p, xs, rfl, .inr c, sv_flat e1, f, rfl⟩)
    · cases h
  · split at h
    · rename_i l hl
      obtain ⟨p, xs, rfl, c, q⟩ := lof_ok S r2 hl
      split at h
      · cases h
        rename_i x' ys e1 e2
        obtain ⟨rfl, f⟩ := svAll_ok q e2
        have z := sv_ok r1 e1
        subst z
        exact .inr (.inl ⟨p, xs, rfl, .inl c, sv_flat e1, f, rfl⟩)
      · unfold inD at h
        split at h
        · rename_i p1 q1 f1 f2
          split at h
          · cases h
            rename_i hh
            exact .inl ⟨p1, q1, dp_rs S r1 f1, .lst c (dp_all _ _ _ q f2), hh.1, hh.2, rfl⟩
          · cases h
        · cases h
    · cases h
theorem opm_in : OpM K (fun x y H Q => rInD K x y H Q ∨ (rIn K false x y H Q ∨ (∃ (c : Nat) (z : Str), x = .str ⟨#[c]⟩ ∧ y = .str z ∧ Q (.bl (decide (c ∈ z.cps.toList))) H))) inM := by
  intro io N H x y d e st Q Y S r1 r2 p
  unfold inM at p
  split at p
  · rename_i b hb
    rcases isIn_ok S r1 r2 hb with ⟨p1, q1, a1, a2, a3, a4, rfl⟩ | ⟨p1, xs, a1, a2, a3, a4, rfl⟩ | ⟨c, z, a1, a2, rfl⟩
    · exact .inl ⟨p1, q1, a1, a2, a3, a4, post_val p S rfl⟩
    · exact .inr (.inl ⟨p1, xs, a1, a2, a3, a4, post_val p S rfl⟩)
    · exact .inr (.inr ⟨c, z, a1, a2, post_val p S rfl⟩)
  · exact p.elim
theorem opm_nin : OpM K (fun x y H Q => rNotInD K x y H Q ∨ (rIn K true x y H Q ∨ (∃ (c : Nat) (z : Str), x = .str ⟨#[c]⟩ ∧ y = .str z ∧ Q (.bl (!decide (c ∈ z.cps.toList))) H))) ninM := by
  intro io N H x y d e st Q Y S r1 r2 p
  unfold ninM at p
  split at p
  · rename_i b hb
    rcases isIn_ok S r1 r2 hb with ⟨p1, q1, a1, a2, a3, a4, rfl⟩ | ⟨p1, xs, a1, a2, a3, a4, rfl⟩ | ⟨c, z, a1, a2, rfl⟩
    · exact .inl ⟨p1, q1, a1, a2, a3, a4, post_val p S rfl⟩
    · exact .inr (.inl ⟨p1, xs, a1, a2, a3, a4, post_val p S rfl⟩)
    · exact .inr (.inr ⟨c, z, a1, a2, post_val p S rfl⟩)
  · exact p.elim
/-! ### is None -/
def isNM (d e : D) (st : Store) : Rz D := match d, e with
  | .any, _ => .fail
  | .non, .non => .ok (.bl true) st
  | _, .non => .ok (.bl false) st
  | _, _ => .fail
def notNM (d e : D) (st : Store) : Rz D := match d, e with
  | .any, _ => .fail
  | .non, .non => .ok (.bl false) st
  | _, .non => .ok (.bl true) st
  | _, _ => .fail
theorem rep_non {d : D} {v : V} (r : Rep K io N H d v) (h : d ≠ .any) : decide (v = .non) = decide (d = .non) := by
  cases d with
  | non => cases r; rfl
  | bl _ => cases r; rfl
  | int _ => cases r; rfl
  | str _ => cases r; rfl
  | tup _ => obtain ⟨_, _, rfl, _⟩ := r; rfl
  | fl _ => obtain ⟨_, _, rfl, _⟩ := r; rfl
  | rd _ => obtain ⟨_, _, rfl, _⟩ := r; rfl
  | ref _ => obtain ⟨_, _, rfl⟩ := r; rfl
  | any => exact absurd rfl h
theorem opm_isN : OpM K (fun x y H Q => y = .non ∧ Q (.bl (decide (x = .non))) H) isNM := by
  intro io N H x y d e st Q Y S r1 r2 p
  cases e with
  | non =>
    refine ⟨r2, ?_⟩
    cases d with
    | any => exact p.elim
    | _ =>
      rw [rep_non r1 (by intro z; cases z)]
      exact post_val p S rfl
  | _ => cases d <;> exact p.elim
theorem opm_notN : OpM K (fun x y H Q => y = .non ∧ Q (.bl (!decide (x = .non))) H) notNM := by
  intro io N H x y d e st Q Y S r1 r2 p
  cases e with
  | non =>
    refine ⟨r2, ?_⟩
    cases d with
    | any => exact p.elim
    | _ =>
      rw [rep_non r1 (by intro z; cases z)]
      exact post_val p S rfl
  | _ => cases d <;> exact p.elim
/-! ### and, or, not, if .. else -/
def andT (a b : EM Bool) : EM Bool := fun l st => (a l st).bind fun c st1 => if c = true then b l st1 else .ok false st1
def orT (a b : EM Bool) : EM Bool := fun l st => (a l st).bind fun c st1 => if c = true then .ok true st1 else b l st1
def notT (a : EM Bool) : EM Bool := fun l st => (a l st).bind fun c st1 => .ok (!c) st1
theorem mw_one_and {e : Expr} {a : EM Bool} (h : MT X W e a) : MW X W (.BoolOp .And [e] pos) a := by
  obtain ⟨t, p, r⟩ := h
  exact ⟨t, pw_and1 p, r⟩
theorem mw_one_or {e : Expr} {a : EM Bool} (h : MT X W e a) : MW X W (.BoolOp .Or [e] pos) a := by
  obtain ⟨t, p, r⟩ := h
  exact ⟨t, pw_or1 p, r⟩
theorem mw_and {e f : Expr} {r : List Expr} {a b : EM Bool} (h : MT X W e a) (g : MW X W (.BoolOp .And (f :: r) pos) b) : MW X W (.BoolOp .And (e :: f :: r) pos) (andT a b) := by
  obtain ⟨t, p, q⟩ := h
  obtain ⟨t2, p2, q2⟩ := g
  refine ⟨_, pw_and p p2, fun io N H s l st Q hl hs p => ?_⟩
  refine q.seq hl hs p fun io1 H1 c v st1 e1 S1 r1 p1 => ?_
  obtain rfl : c = v := r1
  cases c with
  | true => exact q2 io1 N H1 s l st1 Q (hl.mono e1) S1 p1
  | false => exact p1 io1 H1 false (Ext.refl _ _) S1 rfl
theorem mw_or {e f : Expr} {r : List Expr} {a b : EM Bool} (h : MT X W e a) (g : MW X W (.BoolOp .Or (f :: r) pos) b) : MW X W (.BoolOp .Or (e :: f :: r) pos) (orT a b) := by
  obtain ⟨t, p, q⟩ := h
  obtain ⟨t2, p2, q2⟩ := g
  refine ⟨_, pw_or p p2, fun io N H s l st Q hl hs p => ?_⟩
  refine q.seq hl hs p fun io1 H1 c v st1 e1 S1 r1 p1 => ?_
  obtain rfl : c = v := r1
  cases c with
  | false => exact q2 io1 N H1 s l st1 Q (hl.mono e1) S1 p1
  | true => exact p1 io1 H1 true (Ext.refl _ _) S1 rfl
theorem mt_w {e : Expr} {a : EM Bool} (h : MW X W e a) : MT X W e a := by
  obtain ⟨t, p, r⟩ := h
  exact ⟨t, p.pt, r⟩
theorem mt_not {e : Expr} {a : EM Bool} (h : MT X W e a) : MT X W (.UnaryOp .Not e pos) (notT a) := by
  obtain ⟨t, p, q⟩ := h
  refine ⟨_, pt_not p, fun io N H s l st Q hl hs p => ?_⟩
  refine q.seq hl hs p fun io1 H1 c v st1 e1 S1 r1 p1 => ?_
  obtain rfl : c = v := r1
  exact p1 io1 H1 _ (Ext.refl _ _) S1 rfl
/-- as values -/
def andV (a b : EM D) : EM D := fun l st => (a l st).bind fun d st1 => match d with
  | .bl true => b l st1
  | .bl false => .ok (.bl false) st1
  | _ => .fail
def orV (a b : EM D) : EM D := fun l st => (a l st).bind fun d st1 => match d with
  | .bl true => .ok (.bl true) st1
  | .bl false => b l st1
  | _ => .fail
def notV (a : EM D) : EM D := fun l st => (a l st).bind fun d st1 => match d with
  | .bl c => .ok (.bl (!c)) st1
  | _ => .fail
theorem me_one {op} {e : Expr} {a : EM D} (h : ME X W e a) : ME X W (.BoolOp op [e] pos) a := by
  obtain ⟨t, p, r⟩ := h
  exact ⟨t, pe_one p, r⟩
theorem me_and {e f : Expr} {r : List Expr} {a b : EM D} (h : ME X W e a) (g : ME X W (.BoolOp .And (f :: r) pos) b) : ME X W (.BoolOp .And (e :: f :: r) pos) (andV a b) := by
  obtain ⟨t, p, q⟩ := h
  obtain ⟨t2, p2, q2⟩ := g
  refine ⟨_, pe_and p p2, fun io N H s l st Q hl hs p => ?_⟩
  refine q.seq hl hs p fun io1 H1 d v st1 e1 S1 r1 p1 => ?_
  cases d with
  | bl c =>
    refine ⟨c, r1, ?_⟩
    cases c with
    | true => exact q2 io1 N H1 s l st1 Q (hl.mono e1) S1 p1
    | false => exact post_val p1 S1 rfl
  | _ => exact p1.elim
theorem me_or {e f : Expr} {r : List Expr} {a b : EM D} (h : ME X W e a) (g : ME X W (.BoolOp .Or (f :: r) pos) b) : ME X W (.BoolOp .Or (e :: f :: r) pos) (orV a b) := by
  obtain ⟨t, p, q⟩ := h
  obtain ⟨t2, p2, q2⟩ := g
  refine ⟨_, pe_or p p2, fun io N H s l st Q hl hs p => ?_⟩
  refine q.seq hl hs p fun io1 H1 d v st1 e1 S1 r1 p1 => ?_
  cases d with
  | bl c =>
    refine ⟨c, r1, ?_⟩
    cases c with
    | false => exact q2 io1 N H1 s l st1 Q (hl.mono e1) S1 p1
    | true => exact post_val p1 S1 rfl
  | _ => exact p1.elim
theorem me_not {e : Expr} {a : EM D} (h : ME X W e a) : ME X W (.UnaryOp .Not e pos) (notV a) := by
  obtain ⟨t, p, q⟩ := h
  refine ⟨_, pe_not p, fun io N H s l st Q hl hs p => ?_⟩
  refine q.seq hl hs p fun io1 H1 d v st1 e1 S1 r1 p1 => ?_
  cases d with
  | bl c => exact ⟨c, r1, post_val p1 S1 rfl⟩
  | _ => exact p1.elim
def ifM {A : Type} (c : EM Bool) (a b : EM A) : EM A := fun l st => (c l st).bind fun k st1 => if k = true then a l st1 else b l st1
theorem me_if {c e f : Expr} {t : EM Bool} {a b : EM D} (hc : MT X W c t) (h : ME X W e a) (g : ME X W f b) : ME X W (.IfExp c e f pos) (ifM t a b) := by
  obtain ⟨t0, p0, q0⟩ := hc
  obtain ⟨t, p, q⟩ := h
  obtain ⟨t2, p2, q2⟩ := g
  refine ⟨_, pe_ifExp p0 p p2, fun io N H s l st Q hl hs p => ?_⟩
  refine q0.seq hl hs p fun io1 H1 c v st1 e1 S1 r1 p1 => ?_
  obtain rfl : c = v := r1
  cases c with
  | true => exact q io1 N H1 s l st1 Q (hl.mono e1) S1 p1
  | false => exact q2 io1 N H1 s l st1 Q (hl.mono e1) S1 p1
/-! ### subscripts -/
def ixM (d e : D) (st : Store) : Rz D := match e with
  | .int i => (match d with
    | .str z => if small z.length = true then (match atI z.cps.toList i with
      | some c => .ok (.str ⟨#[c]⟩) st
      | none => .fail) else .fail
    | d => (match sqof d st with
      | some l => (match atI l i with
        | some x => .ok x st
        | none => .fail)
      | none => .fail))
  | _ => .fail
theorem at_rep {l : List D} {xs : List V} {i : Int} {d : D} (r : Reps K io N H l xs) (h : atI l i = some d) : ∃ v, atI xs i = some v ∧ Rep K io N H d v := by
  unfold atI at h ⊢
  rw [r.len]
  cases e : ixN l.length i with
  | none => rw [e] at h; cases h
  | some j =>
    rw [e] at h
    exact r.get h
theorem opm_ix : OpM K (rIx K) ixM := by
  intro io N H x y d e st Q Y S r1 r2 p
  unfold ixM at p
  split at p
  · split at p
    · obtain ⟨hc, p⟩ := post_if p
      split at p
      · rename_i c hc2
        exact .inr (.inr ⟨_, _, c, r1, r2, small_ok hc, hc2, post_val p S rfl⟩)
      · exact p.elim
    · split at p
      · rename_i l hl
        split at p
        · rename_i z hz
          obtain ⟨a, xs, rfl, c, q⟩ := sqof_ok S r1 hl
          obtain ⟨v, e1, r3⟩ := at_rep q hz
          rcases c with c | c
          · exact .inl ⟨a, xs, _, v, rfl, r2, c, e1, post_val p S r3⟩
          · exact .inr (.inl ⟨a, xs, _, v, rfl, r2, c, e1, post_val p S r3⟩)
        · exact p.elim
      · exact p.elim
  · exact p.elim
theorem me_ix {ea eb : Expr} {a b : EM D} (h1 : ME X W ea a) (h2 : ME X W eb b) (hs : PlainIx eb := by exact fun _ _ => rfl) : ME X W (.Subscript ea eb pos) (b2 ixM a b) := by
  obtain ⟨t1, p1, r1⟩ := h1
  obtain ⟨t2, p2, r2⟩ := h2
  exact ⟨_, pe_ix ix_seq p1 p2 hs, rg_op opm_ix r1 r2⟩
def noO : EM (Option Int) := fun _ st => .ok none st
def onO (a : EM D) : EM (Option Int) := fun l st => (a l st).bind fun d st1 => match d with
  | .int i => .ok (some i) st1
  | _ => .fail
theorem mo_none : MO X W none noO := ⟨_, po_none, fun io N H s l st Q hl hs p => p io H none (Ext.refl _ _) hs rfl⟩
theorem mo_some {e : Expr} {a : EM D} (h : ME X W e a) : MO X W (some e) (onO a) := by
  obtain ⟨t, p, q⟩ := h
  refine ⟨_, po_some p, fun io N H s l st Q hl hs p => ?_⟩
  refine q.seq hl hs p fun io1 H1 d v st1 e1 S1 r1 p1 => ?_
  cases d with
  | int i => exact ⟨i, r1, p1 io1 H1 _ (Ext.refl _ _) S1 rfl⟩
  | _ => exact p1.elim
/-- what a slice takes -/
def cutD (xs : List D) (lo hi : Option Int) : List D := (xs.drop (HT.sIx xs.length 0 lo)).take (HT.sIx xs.length xs.length hi - HT.sIx xs.length 0 lo)
theorem Reps.cut {l : List D} {xs : List V} (r : Reps K io N H l xs) (lo hi : Option Int) : Reps K io N H (cutD l lo hi) (cutV xs lo hi) := by
  unfold cutD cutV
  rw [r.len]
  exact (r.drop _).takeN _
def s3 {A : Type} (f : D → Option Int → Option Int → Store → Rz A) (a : EM D) (lo hi : EM (Option Int)) : EM A := fun l st => (a l st).bind fun d st1 => (lo l st1).bind fun i st2 => (hi l st2).bind fun j st3 => f d i j st3
/-- of a text, a tuple -/
def slM (d : D) (i j : Option Int) (st : Store) : Rz D := match d with
  | .str z => if small z.length = true then .ok (.str (cutS z i j)) st else .fail
  | .tup l => .ok (.tup (cutD l i j)) st
  | _ => .fail
def slL (d : D) (i j : Option Int) (st : Store) : Rz (List D) := match lof d st with
  | some l => .ok (cutD l i j) st
  | none => .fail
theorem me_sl {e : Expr} {lo hi : Option Expr} {a : EM D} {i j : EM (Option Int)} {p2 : Pos} (h : ME X W e a) (h1 : MO X W lo i) (h2 : MO X W hi j) : ME X W (.Subscript e (.Slice lo hi none p2) pos) (s3 slM a i j) := by
  obtain ⟨t, p, q⟩ := h
  obtain ⟨t1, p1, q1⟩ := h1
  obtain ⟨t2, p2, q2⟩ := h2
  refine ⟨_, pe_slice (sl_str.or sl_tupA) p p1 p2, fun io N H s l st Q hl hs p => ?_⟩
  refine q.seq hl hs p fun io1 H1 d v st1 e1 S1 r1 p => q1.seq (hl.mono e1) S1 p fun io2 H2 x x' st2 e2 S2 r2 p => q2.seq ((hl.mono e1).mono e2) S2 p fun io3 H3 y y' st3 e3 S3 r3 p => ?_
  obtain rfl : x = x' := r2
  obtain rfl : y = y' := r3
  have r := (r1.mono e2).mono e3
  cases d with
  | str z =>
    obtain ⟨hc, p⟩ := post_if p
    exact .inl ⟨_, r, small_ok hc, post_val p S3 rfl⟩
  | tup L =>
    obtain ⟨b, xs, rfl, c, qq⟩ := tup_ok r
    refine .inr ⟨b, xs, rfl, c, fun hw => ?_, fun hw a ha => ?_⟩
    · have e : cutD L x y = L := by
        unfold cutD
        rw [qq.len] at hw
        rw [hw.1, hw.2, List.drop_zero, Nat.sub_zero, List.take_length]
      refine post_val (d := .tup (cutD L x y)) p S3 ?_
      rw [e]
      exact r
    · exact p io3 _ _ (Ext.new ha) (S3.new ha) ⟨a, _, rfl, .inl ⟨S3.out ha, S3.outN ha, upd_same⟩, (qq.cut x y).mono (Ext.new ha)⟩
  | _ => exact p.elim
theorem ml_sl {e : Expr} {lo hi : Option Expr} {a : EM D} {i j : EM (Option Int)} {p2 : Pos} (h : ME X W e a) (h1 : MO X W lo i) (h2 : MO X W hi j) : ML X W (.Subscript e (.Slice lo hi none p2) pos) (s3 slL a i j) := by
  obtain ⟨t, p, q⟩ := h
  obtain ⟨t1, p1, q1⟩ := h1
  obtain ⟨t2, p2, q2⟩ := h2
  refine ⟨_, pe_slice sl_list p p1 p2, fun io N H s l st Q hl hs p => ?_⟩
  refine q.seq hl hs p fun io1 H1 d v st1 e1 S1 r1 p => q1.seq (hl.mono e1) S1 p fun io2 H2 x x' st2 e2 S2 r2 p => q2.seq ((hl.mono e1).mono e2) S2 p fun io3 H3 y y' st3 e3 S3 r3 p => ?_
  obtain rfl : x = x' := r2
  obtain rfl : y = y' := r3
  have r := (r1.mono e2).mono e3
  unfold slL at p
  split at p
  · rename_i L hL
    obtain ⟨b, xs, rfl, c, qq⟩ := lof_ok S3 r hL
    refine ⟨b, xs, rfl, c, fun a ha => ?_⟩
    obtain ⟨S4, q4⟩ := fresh_list S3 (qq.cut x y) ha fun _ h => h
    exact p io3 _ _ (Ext.new ha) S4 q4
  · exact p.elim
/-- list + list -/
def catL (d e : D) (st : Store) : Rz (List D) := match lofM d st, lofM e st with
  | some a, some b => if small (a.length + b.length) = true then .ok (a ++ b) st else .fail
  | _, _ => .fail
theorem ml_cat {ea eb : Expr} {a b : EM D} (h1 : ME X W ea a) (h2 : ME X W eb b) : ML X W (.BinOp ea .Add eb pos) (b2 catL a b) := by
  obtain ⟨t1, p1, r1⟩ := h1
  obtain ⟨t2, p2, r2⟩ := h2
  refine ⟨_, pe_op op_cat p1 p2, fun io N H s l st Q hl hs p => ?_⟩
  refine r1.seq hl hs p fun io1 H1 d v st1 e1 S1 q1 p => r2.seq (hl.mono e1) S1 p fun io2 H2 e w st2 e2 S2 q2 p => ?_
  unfold catL at p
  split at p
  · rename_i la lb f1 f2
    obtain ⟨hc, p⟩ := post_if p
    obtain ⟨x, xs, rfl, c1, g1⟩ := lofM_ok S2 (q1.mono e2) f1
    obtain ⟨y, ys, rfl, c2, g2⟩ := lofM_ok S2 q2 f2
    refine ⟨x, y, xs, ys, rfl, rfl, c1, c2, by rw [g1.len, g2.len]; exact small_ok hc, fun a ha => ?_⟩
    obtain ⟨S3, q3⟩ := fresh_list S2 (g1.app g2) ha fun _ h => h
    exact p io2 _ _ (Ext.new ha) S3 q3
  · exact p.elim
end
end Rf
namespace Rf
set_option autoImplicit false
open PySem PySem.Spec L2

/-! ### statements -/
inductive Sz where
  | nx (l : Sl) (st : Store) | rt (d : D) (st : Store) | bk (l : Sl) (st : Store) | ct (l : Sl) (st : Store) | exc (c : Str) (fs : List (Str × D)) (l : Sl) (st : Store) | fail
abbrev SM := Sl → Store → Sz
def Rz.toS {A : Type} (z : Rz A) (l : Sl) (k : A → Store → Sz) : Sz := match z with
  | .ok a st => k a st
  | .exc c fs st => .exc c fs l st
  | .fail => .fail
def PostS (K : PySem.W.Frag) (io N : List Addr) (H : Hp) (z : Sz) (D : Ends) (W : Wi) : Prop := match z with
  | .nx l st => ∀ io' H' s', Ext io H io' H' → REnv K W io' N H' l s' → RSt K io' N H' st → D.nx s' H'
  | .bk l st => ∀ io' H' s', Ext io H io' H' → REnv K W io' N H' l s' → RSt K io' N H' st → D.bk s' H'
  | .ct l st => ∀ io' H' s', Ext io H io' H' → REnv K W io' N H' l s' → RSt K io' N H' st → D.ct s' H'
  | .rt d st => ∀ io' H' v, Ext io H io' H' → RSt K io' N H' st → Rep K io' N H' d v → D.rt v H'
  | .exc c fs l st => ∀ io' H' s' cls dd, Ext io H io' H' → REnv K W io' N H' l s' → RSt K io' N H' st → RepX K io' N H' c fs cls dd → W.w cls dd s' H'
  | .fail => False
def RS (K : PySem.W.Frag) (W : Wi) (t : TS) (m : SM) : Prop :=
  ∀ (io N : List Addr) (H : Hp) (s : St) (l : Sl) (st : Store) (D : Ends), REnv K W io N H l s → RSt K io N H st → PostS K io N H (m l st) D W → t D s H
def MS (X : Cx) (W : Wi) (s : Stmt) (m : SM) : Prop := ∃ t, PS X s t ∧ RS X.K W t m
def MSs (X : Cx) (W : Wi) (s : List Stmt) (m : SM) : Prop := ∃ t, PSs X s t ∧ RS X.K W t m

section
variable {K : PySem.W.Frag} {X : Cx} {W : Wi} {pos : Pos} {io io1 N : List Addr} {H H1 : Hp} {st : Store} {D : Ends}
theorem PostS.step {z : Sz} (e : Ext io H io1 H1) (h : PostS K io N H z D W) : PostS K io1 N H1 z D W := by
  cases z with
  | nx l st => exact fun io' H' s' e' a b => h io' H' s' (e.trans e') a b
  | bk l st => exact fun io' H' s' e' a b => h io' H' s' (e.trans e') a b
  | ct l st => exact fun io' H' s' e' a b => h io' H' s' (e.trans e') a b
  | rt d st => exact fun io' H' v e' a b => h io' H' v (e.trans e') a b
  | exc c fs l st => exact fun io' H' s' cls dd e' a b r => h io' H' s' cls dd (e.trans e') a b r
  | fail => exact h
theorem RG.seqS {A B : Type} {R : Rp A B} {t : St → Hp → (B → Hp → Prop) → Prop} {m : EM A} (h : RG K R W t m) {s : St} {l : Sl} (hl : REnv K W io N H l s) (hs : RSt K io N H st)
    {k : A → Store → Sz} {Z : B → Hp → Prop} (p : PostS K io N H ((m l st).toS l k) D W)
    (hk : ∀ io' H' a b st', Ext io H io' H' → RSt K io' (R.sh b ++ N) H' st' → R.r K H io' N H' a b → PostS K io' N H' (k a st') D W → Z b H') : t s H Z := by
  refine h io N H s l st Z hl hs ?_
  cases e : m l st with
  | ok a st' =>
    rw [e] at p
    exact fun io' H' b ex S r => hk io' H' a b st' ex S r (PostS.step ex p)
  | exc c fs st' =>
    rw [e] at p
    exact fun io' H' cls dd ex S r => p io' H' s cls dd ex (hl.mono ex) S r
  | fail =>
    rw [e] at p
    exact p
def nextM : SM := fun l st => .nx l st
def sq (a b : SM) : SM := fun l st => match a l st with
  | .nx l' st' => b l' st'
  | z => z
theorem mss_nil : MSs X W [] nextM := ⟨_, pss_nil, fun io N H s l st D hl hs p => p io H s (Ext.refl _ _) hl hs⟩
theorem rs_sq {t u : TS} {a b : SM} (ha : RS K W t a) (hb : RS K W u b) : RS K W (tSeq t u) (sq a b) := by
  intro io N H s l st D hl hs p
  refine ha io N H s l st _ hl hs ?_
  unfold sq at p
  cases e : a l st with
  | nx l' st' =>
    rw [e] at p
    exact fun io' H' s' ex r S => hb io' N H' s' l' st' D r S (PostS.step ex p)
  | bk l' st' => rw [e] at p; exact p
  | ct l' st' => rw [e] at p; exact p
  | rt d st' => rw [e] at p; exact p
  | exc c fs l' st' => rw [e] at p; exact p
  | fail => rw [e] at p; exact p
theorem mss_cons {s : Stmt} {r : List Stmt} {a b : SM} (h1 : MS X W s a) (h2 : MSs X W r b) : MSs X W (s :: r) (sq a b) := by
  obtain ⟨t, p, q⟩ := h1
  obtain ⟨u, p2, q2⟩ := h2
  exact ⟨_, pss_cons p p2, rs_sq q q2⟩
theorem mss_one {s : Stmt} {a : SM} (h1 : MS X W s a) : MSs X W [s] a := by
  obtain ⟨t, p, q⟩ := h1
  exact ⟨_, pss_one p, q⟩
def breakM : SM := fun l st => .bk l st
def contM : SM := fun l st => .ct l st
theorem ms_pass : MS X W (.Pass pos) nextM := ⟨_, ps_pass, fun io N H s l st D hl hs p => p io H s (Ext.refl _ _) hl hs⟩
theorem ms_break : MS X W (.Break pos) breakM := ⟨_, ps_break, fun io N H s l st D hl hs p => p io H s (Ext.refl _ _) hl hs⟩
theorem ms_cont : MS X W (.Continue pos) contM := ⟨_, ps_continue, fun io N H s l st D hl hs p => p io H s (Ext.refl _ _) hl hs⟩
def exprM (a : EM Rf.D) : SM := fun l st => (a l st).toS l fun _ st1 => .nx l st1
theorem ms_expr {e : Expr} {a : EM Rf.D} (h : ME X W e a) (hs : swapsWith e none pos.line X.env = pure false := by rfl) : MS X W (.Expr e pos) (exprM a) := by
  obtain ⟨t, p, q⟩ := h
  refine ⟨_, ps_expr p hs, fun io N H s l st D hl hs p => ?_⟩
  refine q.seqS hl hs p fun io1 H1 d v st1 e1 S1 r1 p1 => ?_
  exact p1 io1 H1 s (Ext.refl _ _) (hl.mono e1) S1
def retM (a : EM Rf.D) : SM := fun l st => (a l st).toS l fun d st1 => .rt d st1
theorem ms_ret {e : Expr} {a : EM Rf.D} (h : ME X W e a) : MS X W (.Return (some e) pos) (retM a) := by
  obtain ⟨t, p, q⟩ := h
  refine ⟨_, ps_ret p, fun io N H s l st D hl hs p => ?_⟩
  refine q.seqS hl hs p fun io1 H1 d v st1 e1 S1 r1 p1 => ?_
  exact p1 io1 H1 v (Ext.refl _ _) S1 r1
theorem ms_retN : MS X W (.Return none pos) (retM (cst .non)) := ⟨_, ps_retN, fun io N H s l st D hl hs p => p io H .non (Ext.refl _ _) hs rfl⟩
def ifS (c : EM Bool) (a b : SM) : SM := fun l st => (c l st).toS l fun k st1 => if k = true then a l st1 else b l st1
theorem ms_if {c : Expr} {a b : List Stmt} {t : EM Bool} {ma mb : SM} (hc : MT X W c t) (ha : MSs X W a ma) (hb : MSs X W b mb) : MS X W (.If c a b pos) (ifS t ma mb) := by
  obtain ⟨t0, p0, q0⟩ := hc
  obtain ⟨t, p, q⟩ := ha
  obtain ⟨t2, p2, q2⟩ := hb
  refine ⟨_, ps_if p0 p p2, fun io N H s l st D hl hs p => ?_⟩
  refine q0.seqS hl hs p fun io1 H1 c v st1 e1 S1 r1 p1 => ?_
  obtain rfl : c = v := r1
  cases c with
  | true => exact q io1 N H1 s l st1 D (hl.mono e1) S1 p1
  | false => exact q2 io1 N H1 s l st1 D (hl.mono e1) S1 p1
/-! ### stores -/
def setM (i : Nat) (a : EM Rf.D) : SM := fun l st => (a l st).toS l fun d st1 => .nx (l.set i (some d)) st1
theorem rs_set {t : TE} {a : EM Rf.D} (i : Nat) (hp : W.may [i] = true) (q : RG K rD W t a) : RS K W (tAsg t (gName i)) (setM i a) := fun io N H s l st D hl hs p =>
  q.seqS hl hs p fun io1 H1 d v st1 e1 S1 r1 p1 => p1 io1 H1 _ (Ext.refl _ _) ((hl.mono e1).set i (Wi.may_of hp (by simp)) r1) S1
theorem ms_set (i : Nat) {x : Str} {e : Expr} {a : EM Rf.D} {pos' : Pos} (h : ME X W e a) (hN : X.N.Nodup) (hi : X.N[i]? = some x := by rfl) (hx : Loc X.env.scope x := by first | exact Or.inl rfl | exact Or.inr rfl) (hs : swapsWith e (some (.Name x pos')) pos.line X.env = pure false := by rfl)
    (hf : X.fn x = true ∨ X.env.scope.names.lookup x = some .local := by first | exact .inl rfl | exact .inr rfl) (hp : W.may [i] = true := by rfl) : MS X W (.Assign [.Name x pos'] e pos) (setM i a) := by
  obtain ⟨t, p, q⟩ := h
  refine ⟨_, ps_set hN hi hx p hs hf, fun io N H s l st D hl hs p => ?_⟩
  refine q.seqS hl hs p fun io1 H1 d v st1 e1 S1 r1 p1 => ?_
  exact p1 io1 H1 _ (Ext.refl _ _) ((hl.mono e1).set i (Wi.may_of hp (by simp)) r1) S1
/-! ### targets -/
inductive T where
  | nm (i : Nat) | tp (l : List T)
mutual
def T.put : T → Rf.D → Sl → Option Sl
  | .nm i, d, l => some (l.set i (some d))
  | .tp ts, d, l => match d with
    | .tup ds => T.puts ts ds l
    | _ => none
def T.puts : List T → List Rf.D → Sl → Option Sl
  | [], [], l => some l
  | t :: ts, d :: ds, l => match t.put d l with
    | some l' => T.puts ts ds l'
    | none => none
  | _, _, _ => none
end
mutual
def T.slots : T → List Nat
  | .nm i => [i]
  | .tp ts => T.slotsL ts
def T.slotsL : List T → List Nat
  | [] => []
  | t :: ts => t.slots ++ T.slotsL ts
end
/-- a target's store -/
def RT (K : PySem.W.Frag) (g : TG) (t : T) : Prop := ∀ (W : Wi) (_ : W.may t.slots = true) (io N : List Addr) (H : Hp) (s : St) (l l' : Sl) (d : Rf.D) (v : V) (Q : St → Hp → Prop), REnv K W io N H l s → Rep K io N H d v → t.put d l = some l' →
  (∀ s', REnv K W io N H l' s' → (∀ vs : List Nat, (∀ i ∈ t.slots, i ∈ vs) → wipe s' vs = wipe s vs) → Q s' H) → g v s H Q
def RTs (K : PySem.W.Frag) (g : TGs) (t : List T) : Prop := ∀ (W : Wi) (_ : W.may (T.slotsL t) = true) (io N : List Addr) (H : Hp) (s : St) (l l' : Sl) (d : List Rf.D) (v : List V) (Q : St → Hp → Prop), REnv K W io N H l s → Reps K io N H d v → T.puts t d l = some l' →
  (∀ s', REnv K W io N H l' s' → (∀ vs : List Nat, (∀ i ∈ T.slotsL t, i ∈ vs) → wipe s' vs = wipe s vs) → Q s' H) → g v s H Q
theorem wipe_none {s : St} {i : Nat} : ∀ {vs : List Nat}, i ∈ vs → (wipe s vs).set i none = wipe s vs
  | [], h => by simp at h
  | v :: vs, h => by
    unfold wipe
    by_cases e : i = v
    · subst e; rw [List.set_set]
    · have h' : i ∈ vs := by simpa [e] using h
      rw [List.set_comm _ _ (fun z => e z.symm), wipe_none h']
theorem wipe_set {s : St} {i : Nat} {o : Option V} : ∀ {vs : List Nat}, i ∈ vs → wipe (s.set i o) vs = wipe s vs
  | [], h => by simp at h
  | v :: vs, h => by
    unfold wipe
    by_cases h' : i ∈ vs
    · rw [wipe_set h']
    · have e : i = v := by simpa [h'] using h
      subst e
      have : ∀ (vs : List Nat), i ∉ vs → wipe (s.set i o) vs = (wipe s vs).set i o := by
        intro vs
        induction vs with
        | nil => intro _; rfl
        | cons w ws ih =>
          intro hn
          have hw : w ≠ i := fun z => hn (by simp [z])
          have hn' : i ∉ ws := fun z => hn (by simp [z])
          show (wipe (s.set i o) ws).set w none = ((wipe s ws).set w none).set i o
          rw [ih hn', List.set_comm _ _ hw]
      rw [this vs h', List.set_set]
def MG (X : Cx) (e : Expr) (t : T) : Prop := ∃ g, PG X e g ∧ RT X.K g t
def MGs (X : Cx) (e : List Expr) (t : List T) (n : Nat) : Prop := t.length = n ∧ ∃ g, PGs X e g ∧ RTs X.K g t
theorem mg_nm (i : Nat) {x : Str} (hN : X.N.Nodup) (hi : X.N[i]? = some x := by rfl) (hx : Loc X.env.scope x := by first | exact Or.inl rfl | exact Or.inr rfl) (hf : X.fn x = true ∨ X.env.scope.names.lookup x = some .local := by first | exact .inl rfl | exact .inr rfl) : MG X (.Name x pos) (.nm i) := by
  refine ⟨_, pg_name hN hi hx hf, fun W hp io N H s l l' d v Q hl r h q => ?_⟩
  cases h
  exact q _ (hl.set i (Wi.may_of hp (by simp [T.slots])) r) fun vs hv => wipe_set (hv i (by simp [T.slots]))
theorem may_app1 {a b : List Nat} (h : W.may (a ++ b) = true) : W.may a = true := by
  unfold Wi.may at h ⊢
  rw [List.all_append, Bool.and_eq_true] at h
  exact h.1
theorem may_app2 {a b : List Nat} (h : W.may (a ++ b) = true) : W.may b = true := by
  unfold Wi.may at h ⊢
  rw [List.all_append, Bool.and_eq_true] at h
  exact h.2
theorem mgs_nil : MGs X [] [] 0 := ⟨rfl, _, pgs_nil, fun W hp io N H s l l' d v Q hl r h q => by
  cases d with
  | nil =>
    cases h
    cases r
    exact ⟨rfl, q s hl fun _ _ => rfl⟩
  | cons _ _ => cases h⟩
theorem mgs_cons {e : Expr} {es : List Expr} {t : T} {ts : List T} {n : Nat} (h1 : MG X e t) (h2 : MGs X es ts n)
    (he : (assignEach (e :: es) X.env).map (·.2) = assign e X.env :: (assignEach es X.env).map (·.2) := by rfl) : MGs X (e :: es) (t :: ts) (n + 1) := by
  obtain ⟨g, p, q⟩ := h1
  obtain ⟨hn, g2, p2, q2⟩ := h2
  refine ⟨by rw [List.length_cons, hn], _, pgs_cons p p2 he, fun W hp io N H s l l' d v Q hl r h k => ?_⟩
  cases d with
  | nil => cases h
  | cons d ds =>
    obtain ⟨v, vs, rfl, a, b⟩ := r
    unfold T.puts at h
    split at h
    · rename_i l1 h1
      refine ⟨v, vs, rfl, q W (may_app1 hp) io N H s l l1 d v _ hl a h1 fun s1 hl1 w1 => ?_⟩
      refine q2 W (may_app2 hp) io N H s1 l1 l' ds vs _ hl1 b h fun s2 hl2 w2 => k s2 hl2 fun vs hv => ?_
      rw [w2 vs fun i hi => hv i (by simp [T.slotsL, hi]), w1 vs fun i hi => hv i (by simp [T.slotsL, hi])]
    · cases h
theorem T.puts_len : ∀ {ts : List T} {ds : List Rf.D} {l l' : Sl}, T.puts ts ds l = some l' → ds.length = ts.length
  | [], [], _, _, _ => rfl
  | [], _ :: _, _, _, h => by cases h
  | _ :: _, [], _, _, h => by cases h
  | t :: ts, d :: ds, l, l', h => by
    unfold T.puts at h
    split at h
    · rw [List.length_cons, List.length_cons, T.puts_len h]
    · cases h
theorem mg_tup {es : List Expr} {k : Nat} {ts : List T} {n : Nat} (hc : X.calm = true) (h : MGs X es ts n) (hn : (assignEach es X.env).length = n := by rfl) (hst : (assignEach es X.env).findIdx? (·.1) = none := by rfl) : MG X (.Tuple es k pos) (.tp ts) := by
  obtain ⟨hl0, g, p, q⟩ := h
  refine ⟨_, pg_tup hc p hn hst, fun W hp io N H s l l' d v Q hl r h k => ?_⟩
  cases d with
  | tup ds =>
    obtain ⟨a, xs, rfl, c, rr⟩ := tup_ok r
    exact ⟨a, xs, rfl, c, by rw [rr.len, T.puts_len h, hl0], q W hp io N H s l l' ds xs Q hl rr h k⟩
  | _ => cases h
/-- a target = an expression -/
def asgM (t : T) (a : EM Rf.D) : SM := fun l st => (a l st).toS l fun d st1 => match t.put d l with
  | some l' => .nx l' st1
  | none => .fail
theorem ms_asg {tg e : Expr} {a : EM Rf.D} {t : T} (h : ME X W e a) (g : MG X tg t) (hs : swapsWithSole [tg] e pos.line X.env = pure false := by rfl) (hw : swappedStores [tg] e X.env = pure none := by rfl) (he : (assignEach [tg] X.env).map (·.2) = [assign tg X.env] := by rfl) (hp : W.may t.slots = true := by rfl) : MS X W (.Assign [tg] e pos) (asgM t a) := by
  obtain ⟨t0, p, q⟩ := h
  obtain ⟨g0, p1, q1⟩ := g
  refine ⟨_, ps_asg p p1 hs hw he, fun io N H s l st D hl hs p => ?_⟩
  refine q.seqS hl hs p fun io1 H1 d v st1 e1 S1 r1 p1 => ?_
  cases hh : t.put d l with
  | some l' =>
    rw [hh] at p1
    exact q1 W hp io1 N H1 s l l' d v _ (hl.mono e1) r1 hh fun s' hl' _ => p1 io1 H1 s' (Ext.refl _ _) hl' S1
  | none =>
    rw [hh] at p1
    exact p1.elim
/-- a, b = x, y with two plain local names -/
def parM (i j : Nat) (a : EM (List Rf.D)) : SM := fun l st => (a l st).toS l fun ds st1 => match ds with
  | [d, e] => .nx ((l.set i (some d)).set j (some e)) st1
  | _ => .fail
theorem ms_par (i j : Nat) {x y : Str} {a b : Expr} {m : EM (List Rf.D)} {px py pt : Pos} {kt k2 pt2} (h : MA X W [a, b] m) (hc : X.calm = true) (hN : X.N.Nodup) (hi : X.N[i]? = some x := by rfl) (hj : X.N[j]? = some y := by rfl) (hij : i ≠ j := by decide)
    (hx : X.env.scope.names.lookup x = some .local := by rfl) (hy : X.env.scope.names.lookup y = some .local := by rfl)
    (hw : swappedStores [.Tuple [.Name x px, .Name y py] kt pt] (.Tuple [a, b] k2 pt2) X.env = pure (some [x, y]) := by rfl)
    (hs : swapsWithSole [.Tuple [.Name x px, .Name y py] kt pt] (.Tuple [a, b] k2 pt2) pos.line X.env = pure false := by rfl) (hp : W.may [i, j] = true := by rfl) :
    MS X W (.Assign [.Tuple [.Name x px, .Name y py] kt pt] (.Tuple [a, b] k2 pt2) pos) (parM i j m) := by
  obtain ⟨t, p, q⟩ := h
  refine ⟨_, ps_par hc hN hi hj hij hx hy p hw hs, fun io N H s l st D hl hs p => ?_⟩
  refine q.seqS hl hs p fun io1 H1 ds vs st1 e1 S1 r1 p1 => ?_
  match ds, p1, r1 with
  | [d, e], p1, ⟨v, _, e2, r2, w, _, e3, r3, e4⟩ =>
    subst e4 e3 e2
    exact ⟨v, w, rfl, p1 io1 H1 _ (Ext.refl _ _) (((hl.mono e1).set i (Wi.may_of hp (by simp)) r2).set j (Wi.may_of hp (by simp)) r3) S1⟩
  | [], p1, _ => exact p1.elim
  | [_], p1, _ => exact p1.elim
  | _ :: _ :: _ :: _, p1, _ => exact p1.elim
end

/-! ### what is walked -/
structure Src where
  items : List D
  own : Option (Nat × List D)
/-- the list that is walked stands in the store as it stood -/
def Src.chk (s : Src) (st : Store) : Bool := match s.own with
  | none => true
  | some (n, l) => (match st[n]? with
    | some (.lst l') => decide (l' = l)
    | _ => false)
/-- from (io, H) on J walks s -/
def IR (K : PySem.W.Frag) (io N : List Addr) (H : Hp) (J : It) (s : Src) : Prop := ∀ (io' M : List Addr) (H' : Hp) (st : Store), (∀ a ∈ M, H a = none) → Ext io H io' H' → RSt K io' (M ++ N) H' st → s.chk st = true → ∀ i : Nat,
  (i < s.items.length → J.go i H' ∧ ∀ x H2, J.yld i H' x H2 → ∃ d, s.items[i]? = some d ∧ Rep K io' (M ++ N) H2 d x ∧ Ext io' H' io' H2 ∧ RSt K io' (M ++ N) H2 st) ∧ (i = s.items.length → J.stop i H')
theorem IR.step {K : PySem.W.Frag} {io io1 N : List Addr} {H H1 : Hp} {J : It} {s : Src} (e : Ext io H io1 H1) (h : IR K io N H J s) : IR K io1 N H1 J s := fun io' M H' st hm e' S c i => h io' M H' st (fun a ha => e.trk a (hm a ha)) (e.trans e') S c i
def rI : Rp Src It := ⟨fun K _ io N H s J => IR K io N H J s, fun _ h => h, fun _ => []⟩
def MI (X : Cx) (W : Wi) (tg e : Expr) (m : EM Src) : Prop := ∃ t, PI X tg e t ∧ RG X.K rI W t m

section
variable {K : PySem.W.Frag} {X : Cx} {W : Wi} {pos : Pos} {io io1 N : List Addr} {H H1 : Hp} {st : Store} {tg : Expr}
/-- the source of a list -/
def srcL (d : D) (l : List D) : Src := match d with
  | .ref n => ⟨l, some (n, l)⟩
  | _ => ⟨l, none⟩
theorem srcL_items (d : D) (l : List D) : (srcL d l).items = l := by cases d <;> rfl
/-- a list that was read stands as it stood -/
theorem lof_stays {d : D} {v : V} {l : List D} (S : RSt K io N H st) (r : Rep K io N H d v) (h : lof d st = some l) : ∃ p, v = .ref p ∧ ∀ (io' M : List Addr) (H' : Hp) (st' : Store), (∀ a ∈ M, H a = none) → Ext io H io' H' → RSt K io' (M ++ N) H' st' → (srcL d l).chk st' = true → ∃ xs, SqL K H' p xs ∧ Reps K io' (M ++ N) H' l xs := by
  obtain ⟨p, xs0, rfl, _, _⟩ := lof_ok S r h
  refine ⟨p, rfl, fun io' M H' st' hm e S' c => ?_⟩
  have r' := (r.shuns M hm).mono e
  have : lof d st' = some l := by
    unfold lof at h ⊢
    unfold srcL Src.chk at c
    cases d with
    | fl l' => exact h
    | rd l' => exact h
    | ref n =>
      simp only at c
      split at c
      · rename_i l' e'
        have := of_decide_eq_true c
        subst this
        simp only [e']
      · cases c
    | _ => cases h
  obtain ⟨p', xs, e1, c1, q⟩ := lof_ok S' r' this
  cases e1
  exact ⟨xs, c1, q⟩
def itL (a : EM D) : EM Src := fun l st => (a l st).bind fun d st1 => match lof d st1 with
  | some ds => .ok (srcL d ds) st1
  | none => .fail
theorem mi_list {e : Expr} {a : EM D} (h : ME X W e a) : MI X W tg e (itL a) := by
  obtain ⟨t, p, q⟩ := h
  refine ⟨_, pi_list p, fun io N H s l st Q hl hs p => ?_⟩
  refine q.seq hl hs p fun io1 H1 d v st1 e1 S1 r1 p1 => ?_
  cases hh : lof d st1 with
  | none => rw [hh] at p1; exact p1.elim
  | some ds =>
    rw [hh] at p1
    obtain ⟨a, rfl, stays⟩ := lof_stays S1 r1 hh
    obtain ⟨a', xs0, e0, c0, _⟩ := lof_ok S1 r1 hh
    cases e0
    refine ⟨a, rfl, ⟨xs0, c0⟩, p1 io1 H1 _ (Ext.refl _ _) S1 fun io' M H' st' hm ex S' c i => ?_⟩
    obtain ⟨xs, c1, rr⟩ := stays io' M H' st' hm ex S' c
    rw [srcL_items]
    refine ⟨fun hi => ⟨⟨xs, xs[i]'(by rw [rr.len]; exact hi), c1, List.getElem?_eq_getElem _⟩, fun x H2 y => ?_⟩, fun hi => ⟨xs, c1, by rw [rr.len]; exact Nat.le_of_eq hi.symm⟩⟩
    obtain ⟨rfl, y⟩ := y
    obtain ⟨d', e', r'⟩ := rr.get' (y xs c1)
    exact ⟨d', e', r', Ext.refl _ _, S'⟩
def itT (a : EM D) : EM Src := fun l st => (a l st).bind fun d st1 => match d with
  | .tup ds => .ok ⟨ds, none⟩ st1
  | _ => .fail
theorem mi_tup {e : Expr} {a : EM D} (h : ME X W e a) : MI X W tg e (itT a) := by
  obtain ⟨t, p, q⟩ := h
  refine ⟨_, pi_tup p, fun io N H s l st Q hl hs p => ?_⟩
  refine q.seq hl hs p fun io1 H1 d v st1 e1 S1 r1 p1 => ?_
  cases d with
  | tup ds =>
    obtain ⟨a, xs0, rfl, c0, _⟩ := tup_ok r1
    refine ⟨a, rfl, ⟨xs0, c0⟩, p1 io1 H1 _ (Ext.refl _ _) S1 fun io' M H' st' hm ex S' c i => ?_⟩
    obtain ⟨a', xs, e0, c1, rr⟩ := tup_ok ((r1.shuns M hm).mono ex)
    cases e0
    refine ⟨fun hi => ⟨⟨xs, xs[i]'(by rw [rr.len]; exact hi), c1, List.getElem?_eq_getElem _⟩, fun x H2 y => ?_⟩, fun hi => ⟨xs, c1, by rw [rr.len]; exact Nat.le_of_eq hi.symm⟩⟩
    obtain ⟨rfl, y⟩ := y
    obtain ⟨d', e', r'⟩ := rr.get' (y xs c1)
    exact ⟨d', e', r', Ext.refl _ _, S'⟩
  | _ => exact p1.elim
/-- lo, lo + 1, .. -/
def rngD (lo : Int) (n : Nat) : List D := (List.range n).map fun (i : Nat) => D.int (lo + (i : Int))
theorem ir_rng (lo : Int) (n : Nat) : IR K io N H (Itr lo n) ⟨rngD lo n, none⟩ := by
  intro io' M H' st hm ex S c i
  have hl : (rngD lo n).length = n := by simp [rngD]
  refine ⟨fun hi => ?_, fun hi => ?_⟩
  · have hi' : i < n := by simpa [hl] using hi
    refine ⟨hi', fun x H2 y => ?_⟩
    obtain ⟨rfl, rfl⟩ := y
    exact ⟨.int (lo + i), by simp [rngD, hi'], rfl, Ext.refl _ _, S⟩
  · have hi' : i = n := by simpa [hl] using hi
    subst hi'
    exact Nat.le_refl _
def itR1 (a : EM (List D)) : EM Src := fun l st => (a l st).bind fun ds st1 => match ds with
  | [.int j] => if -1000000 ≤ j ∧ j ≤ 1000000 then .ok ⟨rngD 0 j.toNat, none⟩ st1 else .fail
  | _ => .fail
def itR2 (a : EM (List D)) : EM Src := fun l st => (a l st).bind fun ds st1 => match ds with
  | [.int i, .int j] => if -1000000 ≤ i ∧ i ≤ 1000000 ∧ -1000000 ≤ j ∧ j ≤ 1000000 then .ok ⟨rngD i (j - i).toNat, none⟩ st1 else .fail
  | _ => .fail
theorem mi_range1 {e : Expr} {a : EM (List D)} {p pos : Pos} (hm : X.mg "range" = none) (h : MA X W [e] a) (hg : Gl X "range" := by rfl) (hs : starEach [e] X.env = [(false, eval e X.env)] := by rfl) : MI X W tg (.Call (.Name "range" p) [e] [] pos) (itR1 a) := by
  obtain ⟨t, p, q⟩ := h
  refine ⟨_, pi_range1 hg hm p hs, fun io N H s l st Q hl hs p => ?_⟩
  refine q.seq hl hs p fun io1 H1 ds vs st1 e1 S1 r1 p1 => ?_
  match ds, p1, r1 with
  | [.int j], p1, r1 =>
    obtain ⟨hc, p1⟩ := post_if p1
    obtain ⟨v, ys, rfl, rfl, rfl⟩ := r1
    exact ⟨j, rfl, by omega, by omega, p1 io1 H1 _ (Ext.refl _ _) S1 (ir_rng _ _)⟩
theorem mi_range2 {e f : Expr} {a : EM (List D)} {p pos : Pos} (hm : X.mg "range" = none) (h : MA X W [e, f] a) (hg : Gl X "range" := by rfl) (hs : starEach [e, f] X.env = [(false, eval e X.env), (false, eval f X.env)] := by rfl) (hs2 : starEach [f] X.env = [(false, eval f X.env)] := by rfl) : MI X W tg (.Call (.Name "range" p) [e, f] [] pos) (itR2 a) := by
  obtain ⟨t, p, q⟩ := h
  refine ⟨_, pi_range2 hg hm p hs hs2, fun io N H s l st Q hl hs p => ?_⟩
  refine q.seq hl hs p fun io1 H1 ds vs st1 e1 S1 r1 p1 => ?_
  match ds, p1, r1 with
  | [.int i, .int j], p1, r1 =>
    obtain ⟨hc, p1⟩ := post_if p1
    obtain ⟨v, ys, rfl, rfl, w, zs, rfl, rfl, rfl⟩ := r1
    exact ⟨i, j, rfl, ⟨by omega, by omega, by omega, by omega⟩, p1 io1 H1 _ (Ext.refl _ _) S1 (ir_rng _ _)⟩
end
end Rf
namespace Rf
set_option autoImplicit false
open PySem PySem.Spec L2

/-- where one stands: room, the wish about exceptions -/
structure Ctx (X : Cx) (W : Wi) (k : Nat) : Prop where
  room : Room k X.A
  tk : ∀ s, PassesAt (L2.CX X.prog X.w) X s (WE W.w s)
  tx : Takes X W.w
  po : PassesOwn (model X.prog X.w) X.A X.env X.xe
  nd : X.N.Nodup
  calm : X.calm = true

section
variable {K : PySem.W.Frag} {X : Cx} {W : Wi} {pos : Pos} {k : Nat}
theorem Ctx.of (room : Room k X.A) (tx : Takes X W.w) (po : PassesOwn (model X.prog X.w) X.A X.env X.xe) (nd : X.N.Nodup) (calm : X.calm = true) : Ctx X W k := ⟨room, fun s => passAt tx s, tx, po, nd, calm⟩
theorem Ctx.blk (c : Ctx X W k) (s : Shared) (H : Hp) (scope : Scope) (cenv : PySem.Env) (fp : List Addr) : Ctx (X.blk s H scope cenv fp) W.inn k :=
  .of c.room takes0 PassesOwn.never c.nd c.calm
theorem Ctx.mono {j : Nat} (c : Ctx X W k) (h : j ≤ k) : Ctx X W j := ⟨c.room.mono h, c.tk, c.tx, c.po, c.nd, c.calm⟩

/-! ### for -/
def forGo (s : Src) (t : T) (body : SM) : List D → SM
  | [], l, st => if s.chk st = true then .nx l st else .fail
  | d :: r, l, st => if s.chk st = true then (match t.put d l with
    | none => .fail
    | some l1 => (match body l1 st with
      | .nx l2 st2 => forGo s t body r l2 st2
      | .ct l2 st2 => forGo s t body r l2 st2
      | .bk l2 st2 => .nx l2 st2
      | .rt d st2 => .rt d st2
      | .exc c fs l2 st2 => .exc c fs l2 st2
      | .fail => .fail)) else .fail
def forM (it : EM Src) (t : T) (body : SM) : SM := fun l st => (it l st).toS l fun s st1 => forGo s t body s.items l st1
theorem postS_if {io N : List Addr} {H : Hp} {D : Ends} {c : Prop} [Decidable c] {z : Sz} (p : PostS K io N H (if c then z else .fail) D W) : c ∧ PostS K io N H z D W := by
  by_cases h : c
  · rw [if_pos h] at p; exact ⟨h, p⟩
  · rw [if_neg h] at p; exact p.elim
theorem rs_for {wi : TI} {g : TG} {tb : TS} {it : EM Src} {t : T} {body : SM} (h1 : RG K rI W wi it) (h2 : RT K g t) (hp : W.may t.slots = true) (h3 : RS K W tb body) : RS K W (tFor wi g tb) (forM it t body) := by
  intro io N H s l st D hl hs p
  refine h1.seqS hl hs p fun io1 H1 src J st1 e1 S1 ir p1 => ?_
  have ir : IR K io1 N H1 J src := ir
  have p1 : PostS K io1 N H1 (forGo src t body src.items l st1) D W := p1
  refine ⟨fun i m s' H' => m = src.items.length - i ∧ i ≤ src.items.length ∧ ∃ io' l' st', Ext io1 H1 io' H' ∧ REnv K W io' N H' l' s' ∧ RSt K io' N H' st' ∧ PostS K io' N H' (forGo src t body (src.items.drop i) l' st') D W,
    ⟨src.items.length, rfl, Nat.zero_le _, io1, l, st1, Ext.refl _ _, hl.mono e1, S1, p1⟩, ?_⟩
  rintro i m s' H' ⟨rfl, hi, io', l', st', ex, hl', S', p'⟩
  by_cases hlt : i < src.items.length
  · rw [List.drop_eq_getElem_cons hlt] at p'
    unfold forGo at p'
    obtain ⟨hc, p'⟩ := postS_if p'
    obtain ⟨go, yl⟩ := (ir io' [] H' st' (by simp) ex S' hc i).1 hlt
    refine .inr ⟨go, fun s2 H2 => ∃ m', m' < src.items.length - i ∧ (m' = src.items.length - (i + 1) ∧ i + 1 ≤ src.items.length ∧ ∃ io' l' st', Ext io1 H1 io' H2 ∧ REnv K W io' N H2 l' s2 ∧ RSt K io' N H2 st' ∧ PostS K io' N H2 (forGo src t body (src.items.drop (i + 1)) l' st') D W), fun s2 H2 h => h, fun x H2 y => ?_⟩
    obtain ⟨d, ed, rd, ex2, S2⟩ := yl x H2 y
    rw [List.getElem?_eq_getElem hlt] at ed
    cases ed
    cases hpu : t.put src.items[i] l' with
    | none => rw [hpu] at p'; exact p'.elim
    | some l1 =>
      rw [hpu] at p'
      have hp2 : t.put src.items[i] l' = some l1 := hpu
      refine h2 W hp io' N H2 s' l' l1 _ x _ (hl'.mono ex2) rd hp2 fun s3 hl3 _ => ?_
      refine h3 io' N H2 s3 l1 st' _ hl3 S2 ?_
      have p2 := PostS.step ex2 p'
      simp only at p2
      have ex3 := ex.trans ex2
      cases hb : body l1 st' with
      | nx l2 st2 =>
        rw [hb] at p2
        exact fun io4 H4 s4 e4 r4 S4 => ⟨_, by omega, rfl, hlt, io4, l2, st2, ex3.trans e4, r4, S4, PostS.step e4 p2⟩
      | ct l2 st2 =>
        rw [hb] at p2
        exact fun io4 H4 s4 e4 r4 S4 => ⟨_, by omega, rfl, hlt, io4, l2, st2, ex3.trans e4, r4, S4, PostS.step e4 p2⟩
      | bk l2 st2 => rw [hb] at p2; exact p2
      | rt d st2 => rw [hb] at p2; exact p2
      | exc c fs l2 st2 => rw [hb] at p2; exact p2
      | fail => rw [hb] at p2; exact p2
  · have e : i = src.items.length := by omega
    subst e
    rw [List.drop_length] at p'
    unfold forGo at p'
    obtain ⟨hc, p'⟩ := postS_if p'
    exact .inl ⟨(ir io' [] H' st' (by simp) ex S' hc _).2 rfl, p' io' H' s' (Ext.refl _ _) hl' S'⟩
theorem ms_for {tg iter : Expr} {body : List Stmt} {it : EM Src} {t : T} {mb : SM} (c : Ctx X W k) (hi : MI X W tg iter it) (hg : MG X tg t) (hb : MSs X W body mb) (hp : W.may t.slots = true := by rfl) (hs : ∀ x, foldedSetIterable iter X.env x = pure x := by intro _; rfl) : MS X W (.For tg iter body [] pos) (forM it t mb) := by
  obtain ⟨wi, p1, q1⟩ := hi
  obtain ⟨g, p2, q2⟩ := hg
  obtain ⟨tb, p3, q3⟩ := hb
  exact ⟨_, ps_for c.po c.calm p1 p2 p3 hs, rs_for q1 q2 hp q3⟩
/-! ### while -/
def whGo (c : EM Bool) (body : SM) : Nat → SM
  | 0, _, _ => .fail
  | n + 1, l, st => (c l st).toS l fun b st1 => if b = true then (match body l st1 with
    | .nx l2 st2 => whGo c body n l2 st2
    | .ct l2 st2 => whGo c body n l2 st2
    | .bk l2 st2 => .nx l2 st2
    | .rt d st2 => .rt d st2
    | .exc e fs l2 st2 => .exc e fs l2 st2
    | .fail => .fail) else .nx l st1
theorem rs_while {tc : TT} {tb : TS} {c : EM Bool} {body : SM} (n : Nat) (h1 : RG K (rE Bool) W tc c) (h3 : RS K W tb body) : RS K W (tWhile tc tb) (whGo c body n) := by
  intro io N H s l st D hl hs p
  refine ⟨fun m s' H' => ∃ io' l' st', Ext io H io' H' ∧ REnv K W io' N H' l' s' ∧ RSt K io' N H' st' ∧ PostS K io' N H' (whGo c body m l' st') D W, ⟨n, io, l, st, Ext.refl _ _, hl, hs, p⟩, ?_⟩
  rintro m s' H' ⟨io', l', st', ex, hl', S', p'⟩
  cases m with
  | zero => exact p'.elim
  | succ m =>
    unfold whGo at p'
    refine h1.seqS hl' S' p' fun io1 H1 b b' st1 e1 S1 r1 p1 => ?_
    obtain rfl : b = b' := r1
    cases b with
    | false => exact p1 io1 H1 s' (Ext.refl _ _) (hl'.mono e1) S1
    | true =>
      refine ⟨fun s2 H2 => ∃ m', m' < m + 1 ∧ ∃ io' l' st', Ext io H io' H2 ∧ REnv K W io' N H2 l' s2 ∧ RSt K io' N H2 st' ∧ PostS K io' N H2 (whGo c body m' l' st') D W, fun _ _ h => h, ?_⟩
      refine h3 io1 N H1 s' l' st1 _ (hl'.mono e1) S1 ?_
      have ex3 := ex.trans e1
      rw [if_pos rfl] at p1
      cases hb : body l' st1 with
      | nx l2 st2 =>
        rw [hb] at p1
        exact fun io4 H4 s4 e4 r4 S4 => ⟨m, Nat.lt_succ_self _, io4, l2, st2, ex3.trans e4, r4, S4, PostS.step e4 p1⟩
      | ct l2 st2 =>
        rw [hb] at p1
        exact fun io4 H4 s4 e4 r4 S4 => ⟨m, Nat.lt_succ_self _, io4, l2, st2, ex3.trans e4, r4, S4, PostS.step e4 p1⟩
      | bk l2 st2 => rw [hb] at p1; exact p1
      | rt d st2 => rw [hb] at p1; exact p1
      | exc c fs l2 st2 => rw [hb] at p1; exact p1
      | fail => rw [hb] at p1; exact p1
theorem ms_while {e : Expr} {body : List Stmt} {t : EM Bool} {mb : SM} (c : Ctx X W k) (n : Nat) (hc : MT X W e t) (hb : MSs X W body mb) : MS X W (.While e body [] pos) (whGo t mb n) := by
  obtain ⟨tc, p1, q1⟩ := hc
  obtain ⟨tb, p3, q3⟩ := hb
  exact ⟨_, ps_while c.po p1 p3, rs_while n q1 q3⟩
/-! ### comprehensions -/
/-- what raises is not served -/
def Rz.nox {A : Type} (z : Rz A) : Rz A := match z with
  | .exc _ _ _ => .fail
  | z => z
def lcGo (s : Src) (t : T) (c : EM Bool) (el : EM D) (l : Sl) : List D → Store → Rz (List D)
  | [], st => if s.chk st = true then .ok [] st else .fail
  | d :: r, st => if s.chk st = true then (match t.put d l with
    | none => .fail
    | some l1 => (c l1 st).nox.bind fun b st1 => if b = true then (el l1 st1).nox.bind fun e st2 => (lcGo s t c el l r st2).bind fun es st3 => .ok (e :: es) st3 else lcGo s t c el l r st1) else .fail
def wipeD (l : Sl) : List Nat → Sl
  | [] => l
  | v :: vs => (wipeD l vs).set v none
theorem REnv.wipe {io N : List Addr} {H : Hp} {l : Sl} {s : St} (h : REnv K W io N H l s) : ∀ vs : List Nat, W.may vs = true → REnv K W io N H (wipeD l vs) (wipe s vs)
  | [], _ => h
  | v :: vs, hp => (h.wipe vs (may_app2 (a := [v]) hp)).unset v (Wi.may_of hp (by simp))
def lcM (it : EM Src) (t : T) (c : EM Bool) (el : EM D) (vs : List Nat) : EM (List D) := fun l st => (it l st).bind fun s st1 => if small s.items.length = true then lcGo s t c el (wipeD l vs) s.items st1 else .fail
def yesM : EM Bool := fun _ st => .ok true st
theorem Rz.bind_ok {A : Type} (z : Rz A) : (z.bind fun a st => .ok a st) = z := by cases z <;> rfl
theorem wipe_sub {s : St} {vs : List Nat} : ∀ ws : List Nat, (∀ i ∈ ws, i ∈ vs) → wipe (wipe s ws) vs = wipe s vs
  | [], _ => rfl
  | w :: ws, h => by
    show wipe ((wipe s ws).set w none) vs = wipe s vs
    rw [wipe_set (h w List.mem_cons_self), wipe_sub ws fun i hi => h i (List.mem_cons_of_mem _ hi)]
/-- what is shunned changes: nothing else feels it -/
theorem Ext.trans_own {io io' : List Addr} {H H' : Hp} {p : Addr} {u : HO} (e : Ext io H io' H') (hp : H p = none) : Ext io H io' (upd H' p u) :=
  ⟨e.pre, fun q o h z => by rw [upd_ne (ne_of_none z hp)]; exact e.keep q o h z, fun q h => by
    by_cases z : q = p
    · rw [z]; exact hp
    · rw [upd_ne z] at h; exact e.trk q h⟩
mutual
theorem Rep.own {io N : List Addr} {H : Hp} {p : Addr} {u : HO} : ∀ (d : D) (v : V), Rep K io (p :: N) H d v → Rep K io (p :: N) (upd H p u) d v
  | .non, _, h => h
  | .bl _, _, h => h
  | .int _, _, h => h
  | .str _, _, h => h
  | .tup l, _, h => by
    obtain ⟨q, xs, rfl, c, r⟩ := h
    refine ⟨q, xs, rfl, ?_, Reps.own l xs r⟩
    rcases c with ⟨c1, c2, c3⟩ | c
    · exact .inl ⟨c1, c2, by rw [upd_ne (fun z => c2 (by rw [z]; exact List.mem_cons_self))]; exact c3⟩
    · exact .inr c
  | .fl l, _, h => by
    obtain ⟨q, xs, rfl, ⟨c1, c2, c3⟩, r⟩ := h
    exact ⟨q, xs, rfl, ⟨c1, c2, by rw [upd_ne (fun z => c2 (by rw [z]; exact List.mem_cons_self))]; exact c3⟩, Reps.own l xs r⟩
  | .rd l, _, h => by
    obtain ⟨q, xs, rfl, c, r⟩ := h
    refine ⟨q, xs, rfl, ?_, Reps.own l xs r⟩
    rcases c with ⟨c1, c2, c3⟩ | c
    · have ne : q ≠ p := fun z => c2 (by rw [z]; exact List.mem_cons_self)
      exact .inl ⟨c1, c2, by rw [upd_ne ne]; exact c3⟩
    · exact .inr c
  | .ref _, _, h => h
  | .any, _, _ => True.intro
theorem Reps.own {io N : List Addr} {H : Hp} {p : Addr} {u : HO} : ∀ (l : List D) (xs : List V), Reps K io (p :: N) H l xs → Reps K io (p :: N) (upd H p u) l xs
  | [], _, h => h
  | d :: l, _, h => by
    obtain ⟨v, ys, rfl, a, b⟩ := h
    exact ⟨v, ys, rfl, Rep.own d v a, Reps.own l ys b⟩
end
theorem RepP.own {io N : List Addr} {H : Hp} {p : Addr} {u : HO} {k : Type} : ∀ {l : List (k × D)} {xs : List (k × V)}, RepP K io (p :: N) H l xs → RepP K io (p :: N) (upd H p u) l xs
  | [], _, h => h
  | d :: l, _, h => by
    obtain ⟨v, ys, rfl, a, b⟩ := h
    exact ⟨v, ys, rfl, Rep.own _ _ a, RepP.own b⟩
theorem RSt.own {io N : List Addr} {H : Hp} {p : Addr} {u : HO} {st : Store} (S : RSt K io (p :: N) H st) (hp : p ∉ io) : RSt K io (p :: N) (upd H p u) st := ⟨S.len, S.nd, fun n o h => by
  obtain ⟨a, v, e1, e2, e3⟩ := S.ob n o h
  exact ⟨a, v, e1, by rw [upd_ne (fun z => hp (by rw [← z]; exact List.mem_of_getElem? e1))]; exact e2, RepU.imp (fun _ _ r => r.own) (fun _ _ r => r.own) (fun _ _ _ r => r.own) o v e3⟩, fun a ha z => by
  by_cases h : a = p
  · rw [h, upd_same] at z; cases z
  · rw [upd_ne h] at z; exact S.tr a ha z⟩
/-- the block's own wish is nothing -/
theorem RG.inner {A B C E : Type} {R : Rp A B} {R2 : Rp C E} {t : St → Hp → (B → Hp → Prop) → Prop} {m : EM A} (h : RG K R W.inn t m) {io io0 N N0 : List Addr} {H H0 : Hp} {s : St} {l : Sl} {st : Store} (hl : REnv K W.inn io N H l s) (hs : RSt K io N H st)
    {k : A → Store → Rz C} {Q : E → Hp → Prop} {Z : B → Hp → Prop} {Y : XK} (p : Post K R2 io0 N0 H0 ((m l st).nox.bind k) Q Y)
    (hk : ∀ io' H' a b st', Ext io H io' H' → RSt K io' (R.sh b ++ N) H' st' → R.r K H io' N H' a b → Post K R2 io0 N0 H0 (k a st') Q Y → Z b H') : t s H Z := by
  refine h io N H s l st Z hl hs ?_
  cases e : m l st with
  | ok a st' =>
    rw [e] at p
    exact fun io' H' b ex S r => hk io' H' a b st' ex S r p
  | exc c fs st' =>
    rw [e] at p
    exact p.elim
  | fail =>
    rw [e] at p
    exact p.elim
theorem may_sub {a b : List Nat} (h : W.may b = true) (hs : ∀ i ∈ a, i ∈ b) : W.may a = true := List.all_eq_true.mpr fun i hi => List.all_eq_true.mp h i (hs i hi)
theorem rg_lc {wi : TI} {g : TG} {tt : TT} {te : TE} {it : EM Src} {t : T} {c : EM Bool} {el : EM D} {vs : List Nat} (h1 : RG K rI W wi it) (h2 : RT K g t) (h3 : RG K (rE Bool) W.inn tt c) (h4 : RG K rD W.inn te el) (hv : ∀ i ∈ t.slots, i ∈ vs) (hp : W.may vs = true) : RG K rL W (tLc wi g tt te vs) (lcM it t c el vs) := by
  intro io N H s l st Q hl hs p
  refine h1.seq hl hs p fun io1 H1 src J st1 e1 S1 ir p1 => ?_
  have ir : IR K io1 N H1 J src := ir
  obtain ⟨hsm, p1⟩ := post_if p1
  have hsm := Nat.le_of_ble_eq_true hsm
  have p1 : Post K rL io1 N H1 (lcGo src t c el (wipeD l vs) src.items st1) Q (fun c d H' => W.w c d s H') := p1
  intro Dl hD
  have hM : ∀ a ∈ [Dl], H1 a = none := fun a ha => by rw [List.mem_singleton.mp ha]; exact hD
  have hlD : ∀ {io' H'}, Ext io1 H1 io' H' → REnv K W.inn io' (Dl :: N) H' (wipeD l vs) (wipe s vs) := fun ex => (((REnv.inn (hl.mono e1)).shun hD).wipe vs hp).mono ex
  refine ⟨fun i m H' => m = src.items.length - i ∧ i ≤ src.items.length ∧ ∃ io' st' acc xs, Ext io1 H1 io' H' ∧ RSt K io' (Dl :: N) H' st' ∧ Dl ∉ io' ∧ H' Dl = some (.lst xs) ∧ Reps K io' (Dl :: N) H' acc xs ∧ acc.length ≤ i ∧
      Post K rL io1 N H1 ((lcGo src t c el (wipeD l vs) (src.items.drop i) st').bind fun es st2 => .ok (acc ++ es) st2) Q (fun c d H' => W.w c d s H'),
    ⟨src.items.length, rfl, Nat.zero_le _, io1, st1, [], [], Ext.new hD, S1.fresh hD, S1.out hD, upd_same, rfl, Nat.zero_le _, ?_⟩, ?_⟩
  · have e0 : ((lcGo src t c el (wipeD l vs) (src.items.drop 0) st1).bind fun es st2 => .ok ([] ++ es) st2) = lcGo src t c el (wipeD l vs) src.items st1 := by
      rw [List.drop_zero]
      exact Rz.bind_ok _
    rw [e0]
    exact p1
  rintro i m H' ⟨rfl, hi, io', st', acc, xs, ex, S', nD, hDl, rr, hacc, p'⟩
  by_cases hlt : i < src.items.length
  · rw [List.drop_eq_getElem_cons hlt] at p'
    unfold lcGo at p'
    by_cases hc : src.chk st' = true
    · rw [if_pos hc] at p'
      obtain ⟨go, yl⟩ := (ir io' [Dl] H' st' hM ex S' hc i).1 hlt
      refine .inr ⟨go, fun H2 => ∃ m', m' < src.items.length - i ∧ (m' = src.items.length - (i + 1) ∧ i + 1 ≤ src.items.length ∧ ∃ io' st' acc xs, Ext io1 H1 io' H2 ∧ RSt K io' (Dl :: N) H2 st' ∧ Dl ∉ io' ∧ H2 Dl = some (.lst xs) ∧ Reps K io' (Dl :: N) H2 acc xs ∧ acc.length ≤ i + 1 ∧
        Post K rL io1 N H1 ((lcGo src t c el (wipeD l vs) (src.items.drop (i + 1)) st').bind fun es st2 => .ok (acc ++ es) st2) Q (fun c d H' => W.w c d s H')), fun H2 h => h, fun x H2 y => ?_⟩
      obtain ⟨d, ed, rd, ex2, S2⟩ := yl x H2 y
      rw [List.getElem?_eq_getElem hlt] at ed
      cases ed
      cases hpu : t.put src.items[i] (wipeD l vs) with
      | none => rw [hpu] at p'; exact p'.elim
      | some l1 =>
        rw [hpu] at p'
        have p' : Post K rL io1 N H1 (((c l1 st').nox.bind fun b st1 => if b = true then (el l1 st1).nox.bind fun e st2 => (lcGo src t c el (wipeD l vs) (src.items.drop (i + 1)) st2).bind fun es st3 => .ok (e :: es) st3 else lcGo src t c el (wipeD l vs) (src.items.drop (i + 1)) st1).bind fun es st2 => .ok (acc ++ es) st2) Q (fun c d H' => W.w c d s H') := p'
        refine h2 W.inn (may_sub hp hv) io' (Dl :: N) H2 _ _ l1 _ x _ (hlD (ex.trans ex2)) rd hpu fun s3 hl3 hw => ?_
        refine ⟨(hw vs hv).trans (wipe_sub vs fun i hi => hi), ?_⟩
        rw [Rz.bind_bind] at p'
        refine h3.inner hl3 S2 p' fun io3 H3 b b' st3 e3 S3 rb p3 => ?_
        obtain rfl : b = b' := rb
        have ex3 := (ex.trans ex2).trans e3
        cases b with
        | false => exact ⟨_, by omega, rfl, hlt, io3, st3, acc, xs, ex3, S3, e3.notin (ex2.notin nD hDl) (ex2.keep _ _ nD hDl), e3.keep _ _ (ex2.notin nD hDl) (ex2.keep _ _ nD hDl), (rr.mono ex2).mono e3, by omega, p3⟩
        | true =>
          have p3 : Post K rL io1 N H1 (((el l1 st3).nox.bind fun e st2 => (lcGo src t c el (wipeD l vs) (src.items.drop (i + 1)) st2).bind fun es st3 => .ok (e :: es) st3).bind fun es st2 => .ok (acc ++ es) st2) Q (fun c d H' => W.w c d s H') := p3
          rw [Rz.bind_bind] at p3
          rw [if_pos rfl]
          refine h4.inner (hl3.mono e3) S3 p3 fun io4 H4 d4 v4 st4 e4 S4 r4 p4 => ?_
          have nD2 := ex2.notin nD hDl
          have hD2 := ex2.keep _ _ nD hDl
          have nD3 := e3.notin nD2 hD2
          have hD3 := e3.keep _ _ nD2 hD2
          have nD4 := e4.notin nD3 hD3
          have hD4 := e4.keep _ _ nD3 hD3
          have rr4 := ((rr.mono ex2).mono e3).mono e4
          have r4 : Rep K io4 (Dl :: N) H4 d4 v4 := r4
          have S4 : RSt K io4 (Dl :: N) H4 st4 := S4
          rw [Rz.bind_bind] at p4
          refine ⟨xs, hD4, by rw [rr4.len, sizeLine_eq]; omega, ?_⟩
          refine ⟨_, by omega, rfl, hlt, io4, st4, acc ++ [d4], xs ++ [v4], (ex3.trans e4).trans_own hD, S4.own nD4, nD4, upd_same, Reps.own _ _ (rr4.app (Reps.one r4)), by rw [List.length_append, List.length_singleton]; omega, ?_⟩
          have e5 : ((lcGo src t c el (wipeD l vs) (src.items.drop (i + 1)) st4).bind fun es st2 => Rz.ok ((acc ++ [d4]) ++ es) st2) = ((lcGo src t c el (wipeD l vs) (src.items.drop (i + 1)) st4).bind fun a st => (Rz.ok (d4 :: a) st).bind fun es st2 => .ok (acc ++ es) st2) := by
            congr 1
            funext a st
            show Rz.ok ((acc ++ [d4]) ++ a) st = Rz.ok (acc ++ d4 :: a) st
            rw [List.append_assoc] <;> rfl
          rw [e5]
          exact p4
    · rw [if_neg hc] at p'
      exact p'.elim
  · have e : i = src.items.length := by omega
    subst e
    rw [List.drop_length] at p'
    unfold lcGo at p'
    by_cases hc : src.chk st' = true
    · rw [if_pos hc] at p'
      refine .inl ⟨(ir io' [Dl] H' st' hM ex S' hc _).2 rfl, ?_⟩
      have p2 : Post K rL io1 N H1 (.ok (acc ++ []) st') Q (fun c d H' => W.w c d s H') := p'
      rw [List.append_nil] at p2
      exact p2 io' H' (.ref Dl) ex S' ⟨Dl, xs, rfl, hD, nD, hDl, rr⟩
    · rw [if_neg hc] at p'
      exact p'.elim
end
end Rf
namespace Rf
set_option autoImplicit false
open PySem PySem.Spec L2

/-! ### the reading that a mirror says -/
def cE {A B : Type} (K : PySem.W.Frag) (R : Rp A B) (W : Wi) (m : EM A) : St → Hp → (B → Hp → Prop) → Prop := fun s H Q => ∃ (io N : List Addr) (l : Sl) (st : Store), REnv K W io N H l s ∧ RSt K io N H st ∧ Post K R io N H (m l st) Q (fun c d H' => W.w c d s H')
theorem rg_cE {A B : Type} {K : PySem.W.Frag} {R : Rp A B} {W : Wi} {m : EM A} : RG K R W (cE K R W m) m := fun io N H s l st Q hl hs p => ⟨io, N, l, st, hl, hs, p⟩
def cG (K : PySem.W.Frag) (t : T) : TG := fun v s H Q => ∃ (W : Wi) (_ : W.may t.slots = true) (io N : List Addr) (l l' : Sl) (d : D), REnv K W io N H l s ∧ Rep K io N H d v ∧ t.put d l = some l' ∧ ∀ s', REnv K W io N H l' s' → (∀ vs : List Nat, (∀ i ∈ t.slots, i ∈ vs) → wipe s' vs = wipe s vs) → Q s' H
theorem rt_cG {K : PySem.W.Frag} {t : T} : RT K (cG K t) t := fun W hp io N H s l l' d v Q hl r h q => ⟨W, hp, io, N, l, l', d, hl, r, h, q⟩
section
variable {K : PySem.W.Frag} {X : Cx} {W : Wi} {pos : Pos} {k : Nat}
theorem ME.pe {e : Expr} {m : EM D} (h : ME X W e m) : PE X e (cE X.K rD W m) := by
  obtain ⟨t, p, r⟩ := h
  exact ⟨fun pins s σ H Q I ⟨io, N, l, st, hl, hs, q⟩ => p.run pins s σ H Q I (r io N H σ l st Q hl hs q)⟩
theorem MT.pt {e : Expr} {m : EM Bool} (h : MT X W e m) : PT X e (cE X.K (rE Bool) W m) := by
  obtain ⟨t, p, r⟩ := h
  exact ⟨fun pins s σ H Q I ⟨io, N, l, st, hl, hs, q⟩ => p.run pins s σ H Q I (r io N H σ l st Q hl hs q)⟩
theorem MG.pg {e : Expr} {t : T} (h : MG X e t) : PG X e (cG X.K t) := by
  obtain ⟨g, p, r⟩ := h
  exact ⟨fun pins s σ H v u Q I rv ⟨W, hpr, io, N, l, l', d, hl, rd, hp, q⟩ => p.run pins s σ H v u Q I rv (r W hpr io N H σ l l' d v Q hl rd hp q)⟩
/-! ### comprehensions as expressions -/
/-- a comprehension's tests: none, or one -/
def MTs (X : Cx) (W : Wi) (ifs : List Expr) (m : EM Bool) : Prop := PTs X ifs (cE X.K (rE Bool) W.inn m)
theorem mts_nil : MTs X W [] yesM := ⟨fun pins s σ H Q I ⟨io, N, l, st, hl, hs, q⟩ => pts_nil.run pins s σ H Q I (q io H true (Ext.refl _ _) hs rfl)⟩
theorem mts_one {c : Expr} {m : EM Bool} (h : MT X W.inn c m) : MTs X W [c] m := pts_one h.pt
theorem ml_lc {elt tg iter : Expr} {ifs : List Expr} {scope : Scope} (own : List (Str × Nat)) {it : EM Src} {t : T} {tt : EM Bool} {el : EM D} (c : Ctx X W k) (hi : MI X W tg iter it)
    (hg : ∀ (s : Shared) (H : Hp) (C : Addr) (cl : List (Str × Addr)) (fp : List Addr), MG (X.blk s H scope (compEnvC scope cl C X.env) fp) tg t)
    (ht : ∀ (s : Shared) (H : Hp) (C : Addr) (cl : List (Str × Addr)) (fp : List Addr), MTs (X.blk s H scope (compEnvC scope cl C X.env) fp) W ifs tt)
    (he : ∀ (s : Shared) (H : Hp) (C : Addr) (cl : List (Str × Addr)) (fp : List Addr), Ctx (X.blk s H scope (compEnvC scope cl C X.env) fp) W.inn k → ME (X.blk s H scope (compEnvC scope cl C X.env) fp) W.inn elt el)
    (ok : blkC X.N X.env.scope scope own = true := by decide +kernel) (hv : ∀ i ∈ t.slots, i ∈ own.map (·.2) := by decide) (hp : W.may (own.map (·.2)) = true := by rfl) (hs : ∀ x, foldedSetIterable iter X.env x = pure x := by intro _; rfl) :
    ML X W (.ListComp elt [⟨tg, iter, ifs, 0⟩] scope pos) (lcM it t tt el (own.map (·.2))) := by
  obtain ⟨wi, p1, q1⟩ := hi
  exact ⟨_, pe_lc (g := cG X.K t) (tt := cE X.K (rE Bool) W.inn tt) (te := cE X.K rD W.inn el) c.calm c.nd p1 (blkOk_by ok) (fun s H C cl fp => (hg s H C cl fp).pg) ht (fun s H C cl fp => (he s H C cl fp (c.blk _ _ _ _ _)).pe) hs, rg_lc q1 rt_cG rg_cE rg_cE hv hp⟩
/-- name = [..] on one line, the name a plain local -/
theorem ms_setLc (i : Nat) {y : Str} {py : Pos} {elt tg iter : Expr} {ifs : List Expr} {scope : Scope} (own : List (Str × Nat)) {spos : Pos} {it : EM Src} {t : T} {tt : EM Bool} {el : EM D} {a : EM D} (c : Ctx X W k) (hi : MI X W tg iter it)
    (hg : ∀ (s : Shared) (H : Hp) (C : Addr) (cl : List (Str × Addr)) (fp : List Addr), MG (X.blk s H scope (compEnvC scope cl C X.env) fp) tg t)
    (ht : ∀ (s : Shared) (H : Hp) (C : Addr) (cl : List (Str × Addr)) (fp : List Addr), MTs (X.blk s H scope (compEnvC scope cl C X.env) fp) W ifs tt)
    (he : ∀ (s : Shared) (H : Hp) (C : Addr) (cl : List (Str × Addr)) (fp : List Addr), Ctx (X.blk s H scope (compEnvC scope cl C X.env) fp) W.inn k → ME (X.blk s H scope (compEnvC scope cl C X.env) fp) W.inn elt el)
    (conv : ∀ te, RG X.K rL W te (lcM it t tt el (own.map (·.2))) → RG X.K rD W te a)
    (hpi : W.may [i] = true := by rfl) (hy : X.N[i]? = some y := by rfl) (hyl : X.env.scope.names.lookup y = some .local := by rfl) (hsw : swapsWith (.ListComp elt [⟨tg, iter, ifs, 0⟩] scope pos) (some (.Name y py)) spos.line X.env = pure true := by exact sw_true rfl rfl rfl (by decide +kernel))
    (ok : blkC X.N X.env.scope scope own = true := by decide +kernel) (hv : ∀ i ∈ t.slots, i ∈ own.map (·.2) := by decide) (hp : W.may (own.map (·.2)) = true := by rfl) (hs : ∀ x, foldedSetIterable iter X.env x = pure x := by intro _; rfl) :
    MS X W (.Assign [.Name y py] (.ListComp elt [⟨tg, iter, ifs, 0⟩] scope pos) spos) (setM i a) := by
  obtain ⟨wi, p1, q1⟩ := hi
  exact ⟨_, ps_setLc (g := cG X.K t) (tt := cE X.K (rE Bool) W.inn tt) (te := cE X.K rD W.inn el) c.calm c.nd hy hyl hsw p1 (blkOk_by ok) (fun s H C cl fp => (hg s H C cl fp).pg) ht (fun s H C cl fp => (he s H C cl fp (c.blk _ _ _ _ _)).pe) hs, rs_set i hpi (conv _ (rg_lc q1 rt_cG rg_cE rg_cE hv hp))⟩

/-! ### defs -/
abbrev FM := List D → Store → Rz D
def dfM (np nN : Nat) (body : SM) : FM := fun ds st => if ds.length = np then (match body (ds.map some ++ List.replicate (nN - np) none) st with
  | .nx _ st' => .ok .non st'
  | .rt d st' => .ok d st'
  | .exc c fs _ st' => .exc c fs st'
  | _ => .fail) else .fail
def spF (K : PySem.W.Frag) (n : Nat) (m : FM) : Sp := fun vs H Q E => vs.length = n ∧ ∃ (io N : List Addr) (ds : List D) (st : Store), Reps K io N H ds vs ∧ RSt K io N H st ∧ Post K rD io N H (m ds st) Q E
/-- a def's body: what is wished of exceptions -/
def wD (E : XK) : Wi := ⟨fun cls d _ H => E cls d H, fun _ _ _ => True, [], fun _ _ => trivial, fun _ _ => trivial⟩
theorem env_start {io N : List Addr} {H : Hp} : ∀ {ds : List D} {vs : List V} (n : Nat), Reps K io N H ds vs → REn0 K io N H (ds.map some ++ List.replicate n none) (vs.map some ++ List.replicate n none)
  | [], _, n, h => by
    cases h
    induction n with
    | zero => rfl
    | succ n ih => exact ⟨none, _, rfl, ih⟩
  | _ :: _, _, n, h => by
    obtain ⟨v, ys, rfl, a, b⟩ := h
    exact ⟨v, _, rfl, a, env_start n b⟩
theorem fn_mk {P : Program} {w : World} {mg : Str → Option Value} {base : Heap} {x qual : Str} {params : Arguments} {body : List Stmt} {scope : Scope} {f : Addr} {fd : FuncData} {Ns ps : List Str} {j : Nat} {m : SM} (F : FunD K x qual params body scope [] [] f fd) (S : FnScope Ns ps scope)
    (h : ∀ (cdv : Value) (A : Around) (outer : List PySem.Env) (s : Shared) (H : Hp) (E : XK), Ctx (cxOf (L2.CX P w) P w K mg base Ns qual scope f cdv A outer s H E) (wD E) j →
      MSs (cxOf (L2.CX P w) P w K mg base Ns qual scope f cdv A outer s H E) (wD E) body m) : FnOk P w K mg base (L2.CX P w) (j + 1) f fd ps (spF K ps.length (dfM ps.length Ns.length m)) := by
  refine F.ok S (fun vs H Q E h => h.1) fun cdv A outer s H vs Q E hr ⟨hlen, io, N, ds, st, r, hs, p⟩ => ?_
  obtain ⟨t, p1, q1⟩ := h cdv A outer s H E (.of hr (takes_of rfl rfl rfl rfl) (passes_of rfl) S.nd rfl)
  refine ⟨t, p1, ?_⟩
  have hd : ds.length = ps.length := by rw [← r.len]; exact hlen
  unfold dfM at p
  rw [if_pos hd] at p
  have hl : REnv K (wD E) io N H (ds.map some ++ List.replicate (Ns.length - ps.length) none) (L2.start Ns vs) := by
    unfold L2.start
    rw [hlen]
    exact ⟨trivial, env_start _ r⟩
  refine q1 io N H _ _ st _ hl hs ?_
  cases e : m (ds.map some ++ List.replicate (Ns.length - ps.length) none) st with
  | nx l' st' =>
    rw [e] at p
    exact fun io' H' s' ex rl S' => p io' H' .non ex S' rfl
  | rt d st' =>
    rw [e] at p
    exact p
  | exc c fs l' st' =>
    rw [e] at p
    exact fun io' H' s' cls dd ex rl S' rx => p io' H' cls dd ex S' rx
  | bk l' st' =>
    rw [e] at p
    exact p.elim
  | ct l' st' =>
    rw [e] at p
    exact p.elim
  | fail =>
    rw [e] at p
    exact p.elim
/-- a def by its name: the module holds it, it keeps its mirror's promise -/
structure Dfn (P : Program) (w : World) (K : PySem.W.Frag) (mg : Str → Option Value) (base : Heap) (x : Str) (n k : Nat) (m : FM) : Prop where
  ex : ∃ f fd ps, ps.length = n ∧ FnOk P w K mg base (L2.CX P w) k f fd ps (spF K n m) ∧ mg x = some (.ref f) ∧ PySem.W.keepIn K (.ref f) = true ∧ Binds K fd ps []
/-- a method of a class -/
structure Mfn (P : Program) (w : World) (K : PySem.W.Frag) (mg : Str → Option Value) (base : Heap) (C m : Str) (n k : Nat) (f : FM) : Prop where
  cls : Cls K (He.ga K C)
  ex : ∃ fa fd ps, ps.length = n ∧ FnOk P w K mg base (L2.CX P w) k fa fd ps (spF K n f) ∧ Meth K (He.ga K C) m fa ∧ Binds K fd ps []
def callM (m : FM) (a : EM (List D)) : EM D := fun l st => (a l st).bind fun ds st1 => m ds st1
theorem rg_call {n : Nat} {m : FM} {ta : TA} {a : EM (List D)} (h : RG K rA W ta a) (hn : ∀ l st ds st', a l st = .ok ds st' → ds.length = n) : RG K rD W (tCallS (spF K n m) (WE W.w) ta) (callM m a) := by
  intro io N H s l st Q hl hs p
  refine h io N H s l st _ hl hs ?_
  unfold callM at p
  cases e : a l st with
  | ok ds st1 =>
    rw [e] at p
    exact fun io1 H1 vs e1 S1 r1 => ⟨by rw [Reps.len r1, hn l st ds st1 e], io1, N, ds, st1, r1, S1, Post.step e1 p⟩
  | exc c fs st1 => rw [e] at p; exact p
  | fail => rw [e] at p; exact p
/-- so many arguments -/
def argN (n : Nat) (a : EM (List D)) : Prop := ∀ l st ds st', a l st = .ok ds st' → ds.length = n
theorem argN_nil : argN 0 nilA := fun l st ds st' h => by cases h; rfl
theorem argN_cons {n : Nat} {a : EM D} {r : EM (List D)} (h : argN n r) : argN (n + 1) (consA a r) := fun l st ds st' e => by
  unfold consA at e
  cases h1 : a l st with
  | ok d st1 =>
    rw [h1] at e
    have e : ((r l st1).bind fun ds st2 => Rz.ok (d :: ds) st2) = .ok ds st' := e
    cases h2 : r l st1 with
    | ok es st2 =>
      rw [h2] at e
      cases e
      rw [List.length_cons, h l st1 es _ h2]
    | exc _ _ _ => rw [h2] at e; cases e
    | fail => rw [h2] at e; cases e
  | exc _ _ _ => rw [h1] at e; cases e
  | fail => rw [h1] at e; cases e
theorem me_call {x : Str} {n j : Nat} {m : FM} {e : Expr} {es : List Expr} {a : EM (List D)} {p : Pos} (c : Ctx X W k) (F : Dfn X.prog X.w X.K X.mg X.base x n j m) (ha : MA X W (e :: es) a) (hn : argN n a) (hj : j ≤ k := by decide) (hg : Gl X x := by rfl) (hdb : (x == ("__debug__" : Str)) = false := by decide)
    (he : starEach (e :: es) X.env = (false, eval e X.env) :: starEach es X.env := by rfl) (hpl : (backTo pos (starEach es X.env)).any (·.1) = false := by rfl) : ME X W (.Call (.Name x p) (e :: es) [] pos) (callM m a) := by
  obtain ⟨f, fd, ps, hl, fo, hm, hk, hb⟩ := F.ex
  obtain ⟨t, p1, q1⟩ := ha
  exact ⟨_, pe_callS fo (c.room.mono hj) hg hm hk hb c.tk p1 hdb he hpl, rg_call q1 hn⟩
theorem me_call0 {x : Str} {j : Nat} {m : FM} {p : Pos} (c : Ctx X W k) (F : Dfn X.prog X.w X.K X.mg X.base x 0 j m) (hj : j ≤ k := by decide) (hg : Gl X x := by rfl) (hdb : (x == ("__debug__" : Str)) = false := by decide) : ME X W (.Call (.Name x p) [] [] pos) (callM m nilA) := by
  obtain ⟨f, fd, ps, hl, fo, hm, hk, hb⟩ := F.ex
  refine ⟨tCallS (spF X.K 0 m) (WE W.w) tNil, ⟨fun pins s σ H Q I h => ?_⟩, rg_call (fun io N H s l st Q hl hs p => p io H [] (Ext.refl _ _) hs rfl) argN_nil⟩
  exact wpAny_Call_Name_kw (ld_glob I hg hm (PySem.W.callWith_K0 I.kIn hk (run_fnS (us := []) fo (c.room.mono hj) hb (c.tk σ) I .nil h)) hdb)
/-! ### methods -/
/-- a receiver of the class c, its attributes without the method's name -/
def recv (C m : Str) (a : EM D) : EM D := fun l st => (a l st).bind fun d st1 => match d with
  | .ref n => (match st1[n]? with
    | some (.ins c fs) => if c = C ∧ fs.lookup m = none then .ok (.ref n) st1 else .fail
    | _ => .fail)
  | _ => .fail
theorem RepP.look {io N : List Addr} {H : Hp} {f : Str} : ∀ {l : List (Str × D)} {xs : List (Str × V)}, RepP K io N H l xs → (l.lookup f = none → xs.lookup f = none) ∧ ∀ d, l.lookup f = some d → ∃ v, xs.lookup f = some v ∧ Rep K io N H d v
  | [], _, h => by cases h; exact ⟨fun _ => rfl, fun d e => (by cases e)⟩
  | (g, c) :: l, _, h => by
    obtain ⟨v, ys, rfl, a, b⟩ := h
    rw [List.lookup_cons, List.lookup_cons]
    cases hb : f == g with
    | true => exact ⟨fun e => (by cases e), fun d e => (by cases e; exact ⟨v, rfl, a⟩)⟩
    | false => exact b.look
theorem rs_ins {io N : List Addr} {H : Hp} {st : Store} {n : Nat} {c : Str} {fs : List (Str × D)} {v : V} (S : RSt K io N H st) (r : Rep K io N H (.ref n) v) (h : st[n]? = some (.ins c fs)) : ∃ a dx xs, v = .ref a ∧ io[n]? = some a ∧ H a = some (.ins (He.ga K c) dx xs) ∧ RepP K io N H fs xs := by
  obtain ⟨a, e1, rfl⟩ := r
  obtain ⟨b, u, e2, e3, dx, xs, rfl, e4⟩ := S.ob _ _ h
  rw [e1] at e2
  cases e2
  exact ⟨a, dx, xs, rfl, e1, e3, e4⟩
/-- o.m(..): E where one stands -/
def tMethS (C : Addr) (m : Str) (sp : Sp) (E : St → XK) (ta : TE) (t : TA) : TE := fun σ H Q => ta σ H fun x H1 => ∃ a dx fs, x = .ref a ∧ H1 a = some (.ins C dx fs) ∧ fs.lookup m = none ∧ t σ H1 fun vs H2 => sp (x :: vs) H2 Q (E σ)
theorem pe_methS {C fa : Addr} {fd : FuncData} {ps : List Str} {j : Nat} {sp : Sp} {m : Str} {E : St → XK} {o e : Expr} {es : List Expr} {ta : TE} {t : TA} {apos : Pos} {pl : Sem Bool} (he : PE X o ta) (c : Cls X.K C) (hm : Meth X.K C m fa)
    (F : FnOk X.prog X.w X.K X.mg X.base (L2.CX X.prog X.w) j fa fd ps sp) (hr : Room j X.A) (hb : Binds X.K fd ps []) (hx : ∀ σ, PassesAt (L2.CX X.prog X.w) X σ (E σ)) (ha : PA X (e :: es) t)
    (hst : starEach (e :: es) X.env = (false, eval e X.env) :: starEach es X.env) (hpl : (backTo pos (starEach es X.env)).any (·.1) = false)
    (ht : eval (.Call (.Attribute o m apos) (e :: es) [] pos) X.env = (do let ov ← eval o X.env; standAt apos.atName; let (f, first) ← holding [ov] (getMethod ov m pl); callWith pos f first (backTo pos (starEach (e :: es) X.env)) (backToKw pos (keywordEach [] X.env)))) :
    PE X (.Call (.Attribute o m apos) (e :: es) [] pos) (tMethS C m sp E ta t) := ⟨fun pins s σ H Q I h =>
  PySem.W.methodCall_KW (pl := pl) (thn (he.run pins s σ H _ I h) fun u s1 hh => by
    obtain ⟨x, H1, I1, rx, a, dx, fs, ex, ea, l, q⟩ := hh
    cases ex
    cases (show u = Value.ref a from rx)
    exact getmeth_ok I1 ea c hm l (PySem.W.callWith_K (first := [.ref a]) (h₀ := X.base) I.ok.mod.kin hm.kp (thn (ha.run pos pins s1 σ H1 _ I1 q) fun us s2 hh => by
      obtain ⟨vs, H2, I2, r, q2⟩ := hh
      exact ⟨I2.kIn, run_fnS (us := .ref a :: us) (vs := .ref a :: vs) F hr hb (hx σ) I2 (.cons rfl r) q2⟩) hst hpl)) ht⟩
theorem pe_methS0 {C fa : Addr} {fd : FuncData} {ps : List Str} {j : Nat} {sp : Sp} {m : Str} {E : St → XK} {o : Expr} {ta : TE} {apos : Pos} {pl : Sem Bool} (he : PE X o ta) (c : Cls X.K C) (hm : Meth X.K C m fa)
    (F : FnOk X.prog X.w X.K X.mg X.base (L2.CX X.prog X.w) j fa fd ps sp) (hr : Room j X.A) (hb : Binds X.K fd ps []) (hx : ∀ σ, PassesAt (L2.CX X.prog X.w) X σ (E σ))
    (ht : eval (.Call (.Attribute o m apos) [] [] pos) X.env = (do let ov ← eval o X.env; standAt apos.atName; let (f, first) ← holding [ov] (getMethod ov m pl); callWith pos f first (backTo pos (starEach [] X.env)) (backToKw pos (keywordEach [] X.env)))) :
    PE X (.Call (.Attribute o m apos) [] [] pos) (tMethS C m sp E ta tNil) := ⟨fun pins s σ H Q I h =>
  PySem.W.methodCall_KW (pl := pl) (thn (he.run pins s σ H _ I h) fun u s1 hh => by
    obtain ⟨x, H1, I1, rx, a, dx, fs, ex, ea, l, q⟩ := hh
    cases ex
    cases (show u = Value.ref a from rx)
    exact getmeth_ok I1 ea c hm l (PySem.W.callWith_K0 (first := [.ref a]) I1.kIn hm.kp (run_fnS (us := [.ref a]) (vs := [.ref a]) F hr hb (hx σ) I1 (.cons rfl .nil) q))) ht⟩
def methM (C m : Str) (f : FM) (o : EM D) (a : EM (List D)) : EM D := fun l st => (recv C m o l st).bind fun d st1 => (a l st1).bind fun ds st2 => f (d :: ds) st2
theorem rg_meth {C m : Str} {n : Nat} {f : FM} {o : EM D} {a : EM (List D)} {ta : TE} {t : TA} (h1 : RG K rD W ta o) (h2 : RG K rA W t a) (hn : argN n a) : RG K rD W (tMethS (He.ga K C) m (spF K (n + 1) f) (WE W.w) ta t) (methM C m f o a) := by
  intro io N H s l st Q hl hs p
  unfold methM recv at p
  rw [Rz.bind_bind] at p
  refine h1.seq hl hs p fun io1 H1 d v st1 e1 S1 r1 p1 => ?_
  cases d with
  | ref nn =>
    cases hh : st1[nn]? with
    | none => simp only [hh] at p1; exact p1.elim
    | some oo =>
      simp only [hh] at p1
      cases oo with
      | ins c fs =>
        simp only at p1
        by_cases hc : c = C ∧ fs.lookup m = none
        · rw [if_pos hc] at p1
          obtain ⟨rfl, hnone⟩ := hc
          obtain ⟨b, dx, xs, rfl, eio, eH, rp⟩ := rs_ins S1 r1 hh
          refine ⟨b, dx, xs, rfl, eH, rp.look.1 hnone, ?_⟩
          have p1 : Post K rD io1 N H1 ((a l st1).bind fun ds st2 => f (.ref nn :: ds) st2) Q (fun c d H' => W.w c d s H') := p1
          refine h2 io1 N H1 s l st1 _ (hl.mono e1) S1 ?_
          cases e : a l st1 with
          | ok ds st2 =>
            rw [e] at p1
            exact fun io2 H2 vs e2 S2 r2 => ⟨by rw [List.length_cons, Reps.len r2, hn l st1 ds st2 e], io2, N, .ref nn :: ds, st2, ⟨_, _, rfl, r1.mono e2, r2⟩, S2, Post.step e2 p1⟩
          | exc c fs st2 => rw [e] at p1; exact p1
          | fail => rw [e] at p1; exact p1
        · rw [if_neg hc] at p1; exact p1.elim
      | _ => exact p1.elim
  | _ => exact p1.elim
theorem me_meth {C m : Str} {n j : Nat} {f : FM} {o e : Expr} {es : List Expr} {mo : EM D} {a : EM (List D)} {apos : Pos} (pl : Sem Bool) (c : Ctx X W k) (F : Mfn X.prog X.w X.K X.mg X.base C m (n + 1) j f) (ho : ME X W o mo) (ha : MA X W (e :: es) a) (hn : argN n a) (hj : j ≤ k := by decide)
    (hst : starEach (e :: es) X.env = (false, eval e X.env) :: starEach es X.env := by rfl) (hpl : (backTo pos (starEach es X.env)).any (·.1) = false := by rfl)
    (ht : eval (.Call (.Attribute o m apos) (e :: es) [] pos) X.env = (do let ov ← eval o X.env; standAt apos.atName; let (f, first) ← holding [ov] (getMethod ov m pl); callWith pos f first (backTo pos (starEach (e :: es) X.env)) (backToKw pos (keywordEach [] X.env))) := by rfl) :
    ME X W (.Call (.Attribute o m apos) (e :: es) [] pos) (methM C m f mo a) := by
  obtain ⟨fa, fd, ps, hl, fo, hm, hb⟩ := F.ex
  obtain ⟨t, p1, q1⟩ := ho
  obtain ⟨t2, p2, q2⟩ := ha
  exact ⟨_, pe_methS p1 F.cls hm fo (c.room.mono hj) hb c.tk p2 hst hpl ht, rg_meth q1 q2 hn⟩
theorem me_meth0 {C m : Str} {j : Nat} {f : FM} {o : Expr} {mo : EM D} {apos : Pos} (pl : Sem Bool) (c : Ctx X W k) (F : Mfn X.prog X.w X.K X.mg X.base C m 1 j f) (ho : ME X W o mo) (hj : j ≤ k := by decide)
    (ht : eval (.Call (.Attribute o m apos) [] [] pos) X.env = (do let ov ← eval o X.env; standAt apos.atName; let (f, first) ← holding [ov] (getMethod ov m pl); callWith pos f first (backTo pos (starEach [] X.env)) (backToKw pos (keywordEach [] X.env))) := by rfl) :
    ME X W (.Call (.Attribute o m apos) [] [] pos) (methM C m f mo nilA) := by
  obtain ⟨fa, fd, ps, hl, fo, hm, hb⟩ := F.ex
  obtain ⟨t, p1, q1⟩ := ho
  exact ⟨_, pe_methS0 p1 F.cls hm fo (c.room.mono hj) hb c.tk ht, rg_meth (n := 0) q1 (fun io N H s l st Q hl hs p => p io H [] (Ext.refl _ _) hs rfl) argN_nil⟩
/-! ### attributes -/
def fldM (C f : Str) (a : EM D) : EM D := fun l st => (a l st).bind fun d st1 => match d with
  | .ref n => (match st1[n]? with
    | some (.ins c fs) => if c = C then (match fs.lookup f with
      | some v => .ok v st1
      | none => .fail) else .fail
    | _ => .fail)
  | _ => .fail
theorem me_fld {C f : Str} {o : Expr} {mo : EM D} (c : Cls X.K (He.ga X.K C)) (n : NoAttr X.K (He.ga X.K C) f) (ho : ME X W o mo) (hb : attributeBase o f X.env (eval o X.env) = eval o X.env := by rfl) : ME X W (.Attribute o f pos) (fldM C f mo) := by
  obtain ⟨t, p1, q1⟩ := ho
  refine ⟨_, pe_fld p1 hb, fun io N H s l st Q hl hs p => ?_⟩
  refine q1.seq hl hs p fun io1 H1 d v st1 e1 S1 r1 p1 => ?_
  cases d with
  | ref nn =>
    cases hh : st1[nn]? with
    | none => simp only [hh] at p1; exact p1.elim
    | some oo =>
      simp only [hh] at p1
      cases oo with
      | ins c fs =>
        simp only at p1
        obtain ⟨rfl, p1⟩ := post_if p1
        obtain ⟨b, dx, xs, rfl, eio, eH, rp⟩ := rs_ins S1 r1 hh
        cases hf : fs.lookup f with
        | none => simp only [hf] at p1; exact p1.elim
        | some d =>
          simp only [hf] at p1
          obtain ⟨v, e2, r2⟩ := rp.look.2 d hf
          exact ⟨b, _, dx, xs, v, rfl, eH, c, n, e2, post_val p1 S1 r2⟩
      | _ => exact p1.elim
  | _ => exact p1.elim
def putD (f : Str) (d : D) : List (Str × D) → List (Str × D)
  | [] => [(f, d)]
  | (g, e) :: r => if g = f then (g, d) :: r else (g, e) :: putD f d r
end
end Rf
namespace Rf
set_option autoImplicit false
open PySem PySem.Spec L2

section
variable {K : PySem.W.Frag} {X : Cx} {W : Wi} {pos : Pos} {k : Nat} {io N : List Addr} {H : Hp} {st : Store}
theorem Ext.upd {a : Addr} {u : HO} (hm : a ∈ io) : Ext io H io (upd H a u) := ⟨⟨[], by simp, by simp⟩, fun p v hp e => by rw [upd_ne fun z => hp (by rw [z]; exact hm)]; exact e, fun p e => by
  by_cases z : p = a
  · subst z; rw [upd_same] at e; cases e
  · rw [upd_ne z] at e; exact e⟩
theorem RepP.len {t : Type} : ∀ {l : List (t × D)} {xs : List (t × V)}, RepP K io N H l xs → xs.length = l.length
  | [], _, h => by cases h; rfl
  | _ :: _, _, h => by obtain ⟨_, r, rfl, _, q⟩ := h; simp [q.len]
theorem RepP.put {f : Str} {d : D} {v : V} (r : Rep K io N H d v) : ∀ {l : List (Str × D)} {xs : List (Str × V)}, RepP K io N H l xs → RepP K io N H (putD f d l) (putF f v xs)
  | [], _, h => by cases h; exact ⟨v, [], rfl, r, rfl⟩
  | (g, c) :: l, _, h => by
    obtain ⟨w, ys, rfl, a, b⟩ := h
    unfold putD putF
    by_cases e : g = f
    · rw [if_pos e, if_pos e]
      exact ⟨v, ys, rfl, r, b⟩
    · rw [if_neg e, if_neg e]
      exact ⟨w, _, rfl, a, b.put r⟩
/-- an object's attribute is stored -/
def putM (C f : Str) (d x : D) (st : Store) : Option Store := match x with
  | .ref n => (match st[n]? with
    | some (.ins c fs) => if c = C ∧ fs.length < 900 then some (st.set n (.ins c (putD f d fs))) else none
    | _ => none)
  | _ => none
theorem putM_ok {C f : Str} {d x : D} {v w : V} {st' : Store} (S : RSt K io N H st) (r : Rep K io N H d v) (rx : Rep K io N H x w) (h : putM C f d x st = some st') :
    ∃ a dx xs, w = .ref a ∧ a ∈ io ∧ H a = some (.ins (He.ga K C) dx xs) ∧ xs.length < 1000 ∧ RSt K io N (upd H a (.ins (He.ga K C) dx (putF f v xs))) st' ∧ Ext io H io (upd H a (.ins (He.ga K C) dx (putF f v xs))) := by
  unfold putM at h
  split at h
  · rename_i n
    split at h
    · rename_i c fs e
      split at h
      · rename_i hc
        obtain ⟨rfl, hl⟩ := hc
        cases h
        obtain ⟨a, dx, xs, rfl, eio, eH, rp⟩ := rs_ins S rx e
        have hm := List.mem_of_getElem? eio
        have ex : Ext io H io (upd H a (.ins (He.ga K c) dx (putF f v xs))) := Ext.upd hm
        exact ⟨a, dx, xs, rfl, hm, eH, by rw [rp.len]; omega, (S.set (o := .ins c (putD f d fs)) eio ⟨dx, _, rfl, (rp.put r).mono ex⟩).1, ex⟩
      · cases h
    · cases h
  · cases h
def fldS (C f : Str) (v o : EM D) : SM := fun l st => (v l st).toS l fun d st1 => (o l st1).toS l fun x st2 => match putM C f d x st2 with
  | some st3 => .nx l st3
  | none => .fail
theorem ms_fld {C f : Str} {o value : Expr} {mo mv : EM D} {pos' : Pos} (c : Cls X.K (He.ga X.K C)) (n : NoAttr X.K (He.ga X.K C) f) (ho : ME X W o mo) (hv : ME X W value mv) (hs : swapsWith value (some (.Attribute o f pos')) pos.line X.env = pure false := by rfl) : MS X W (.Assign [.Attribute o f pos'] value pos) (fldS C f mv mo) := by
  obtain ⟨t, p1, q1⟩ := ho
  obtain ⟨t2, p2, q2⟩ := hv
  refine ⟨_, ps_fld p1 p2 hs, fun io N H s l st D hl hs p => ?_⟩
  refine q2.seqS hl hs p fun io1 H1 d v st1 e1 S1 r1 p => q1.seqS (hl.mono e1) S1 p fun io2 H2 x w st2 e2 S2 r2 p => ?_
  cases h : putM C f d x st2 with
  | none => rw [h] at p; exact p.elim
  | some st3 =>
    rw [h] at p
    obtain ⟨a, dx, xs, rfl, hm, eH, hl2, S3, ex⟩ := putM_ok S2 (r1.mono e2) r2 h
    exact ⟨a, _, dx, xs, rfl, eH, c, n, hl2, p io2 _ s ex (((hl.mono e1).mono e2).mono ex) S3⟩
/-- o.f += a number -/
def fldAug (C f : Str) (g : Int → Int → Int) (o v : EM D) : SM := fun l st => (o l st).toS l fun x st1 => match x with
  | .ref n => (match st1[n]? with
    | some (.ins c fs) => if c = C then (match fs.lookup f with
      | some (.int i) => (v l st1).toS l fun d st2 => (match d with
        | .int j => (match putM C f (.int (g i j)) (.ref n) st2 with
          | some st3 => .nx l st3
          | none => .fail)
        | _ => .fail)
      | _ => .fail) else .fail
    | _ => .fail)
  | _ => .fail
theorem ms_fldaug {C f : Str} {op : Operator} {g : Int → Int → Int} {o value : Expr} {mo mv : EM D} {tpos : Pos} (hop : InOp X op (fun x y H Q => ∃ i j, x = .int i ∧ y = .int j ∧ Q (.int (g i j)) H)) (c : Cls X.K (He.ga X.K C)) (n : NoAttr X.K (He.ga X.K C) f) (ho : ME X W o mo) (hv : ME X W value mv) :
    MS X W (.AugAssign (.Attribute o f tpos) op value pos) (fldAug C f g mo mv) := by
  obtain ⟨t, p1, q1⟩ := ho
  obtain ⟨t2, p2, q2⟩ := hv
  refine ⟨_, ps_fldaug p1 p2 hop, fun io N H s l st D hl hs p => ?_⟩
  refine q1.seqS hl hs p fun io1 H1 x w st1 e1 S1 r1 p => ?_
  cases x with
  | ref nn =>
    cases hh : st1[nn]? with
    | none => simp only [hh] at p; exact p.elim
    | some oo =>
      simp only [hh] at p
      cases oo with
      | ins cc fs =>
        simp only at p
        obtain ⟨rfl, p⟩ := postS_if p
        obtain ⟨a, dx, xs, rfl, eio, eH, rp⟩ := rs_ins S1 r1 hh
        cases hf : fs.lookup f with
        | none => simp only [hf] at p; exact p.elim
        | some d =>
          simp only [hf] at p
          cases d with
          | int i =>
            simp only at p
            obtain ⟨v0, e3, r3⟩ := rp.look.2 _ hf
            refine ⟨a, _, dx, xs, v0, rfl, eH, c, n, e3, ?_⟩
            refine q2.seqS (hl.mono e1) S1 p fun io2 H2 d v st2 e2 S2 r2 p => ?_
            cases d with
            | int j =>
              simp only at p
              refine ⟨i, j, r3, r2, ?_⟩
              cases h : putM cc f (.int (g i j)) (.ref nn) st2 with
              | none => rw [h] at p; exact p.elim
              | some st3 =>
                rw [h] at p
                have rv : Rep X.K io2 N H2 (.int (g i j)) (.int (g i j)) := rfl
                obtain ⟨a', dx', xs', ea, hm, eH', hl2, S3, ex⟩ := putM_ok S2 rv (r1.mono e2) h
                cases ea
                exact ⟨dx', xs', eH', hl2, p io2 _ s ex (((hl.mono e1).mono e2).mono ex) S3⟩
            | _ => exact p.elim
          | _ => exact p.elim
      | _ => exact p.elim
  | _ => exact p.elim
/-- x op= e, x a name -/
def augM (i : Nat) (g : D → D → Store → Rz D) (a : EM D) : SM := fun l st => match l[i]? with
  | some (some x) => (a l st).toS l fun d st1 => (g x d st1).toS l fun y st2 => .nx (l.set i (some y)) st2
  | _ => .fail
theorem ms_aug (i : Nat) {x : Str} {e : Expr} {a : EM D} {op : Operator} {r : R2} {g : D → D → Store → Rz D} {pos' : Pos} (ho : OpR X (inplaceOp op) r) (h : OpM X.K r g) (ha : ME X W e a) (hN : X.N.Nodup) (hi : X.N[i]? = some x := by rfl) (hx : Loc X.env.scope x := by first | exact Or.inl rfl | exact Or.inr rfl)
    (hf : X.fn x = true ∨ X.env.scope.names.lookup x = some .local := by first | exact .inl rfl | exact .inr rfl) (hp : W.may [i] = true := by rfl) : MS X W (.AugAssign (.Name x pos') op e pos) (augM i g a) := by
  obtain ⟨t, p1, q1⟩ := ha
  refine ⟨_, ps_aug (ti := r) hN hi hx p1 ho hf, fun io N H s l st D hl hs p => ?_⟩
  unfold augM at p
  split at p
  · rename_i xd e0
    obtain ⟨xv, e1, rx⟩ := hl.get e0
    refine ⟨xv, e1, ?_⟩
    refine q1.seqS hl hs p fun io1 H1 d v st1 ex1 S1 r1 p => ?_
    refine h io1 N H1 xv v xd d st1 _ (fun c dd H' => W.w c dd s H') S1 (rx.mono ex1) r1 ?_
    cases hg : g xd d st1 with
    | ok y st2 =>
      rw [hg] at p
      exact fun io2 H2 w ex2 S2 r2 => p io2 H2 _ ex2 (((hl.mono ex1).mono ex2).set i (Wi.may_of hp (by simp)) r2) S2
    | exc c fs st2 =>
      rw [hg] at p
      exact fun io2 H2 cls dd ex2 S2 r2 => p io2 H2 s cls dd ex2 ((hl.mono ex1).mono ex2) S2 r2
    | fail => rw [hg] at p; exact p
  · exact p.elim
def intM (g : Int → Int → Int) (d e : D) (st : Store) : Rz D := match d, e with
  | .int i, .int j => .ok (.int (g i j)) st
  | _, _ => .fail
theorem opm_int {g : Int → Int → Int} : OpM K (rI0 fun i j => .int (g i j)) (intM g) := by
  intro io N H x y d e st Q Y S r1 r2 p
  unfold intM at p
  split at p
  · exact ⟨_, _, r1, r2, post_val p S rfl⟩
  · exact p.elim
def intC (c : Int → Int → Bool) (g : Int → Int → Int) (d e : D) (st : Store) : Rz D := match d, e with
  | .int i, .int j => if c i j = true then .ok (.int (g i j)) st else .fail
  | _, _ => .fail
theorem opm_intC {C : Int → Int → Prop} {c : Int → Int → Bool} {g : Int → Int → Int} (hc : ∀ i j, c i j = true → C i j) : OpM K (L2.rI C fun i j => .int (g i j)) (intC c g) := by
  intro io N H x y d e st Q Y S r1 r2 p
  unfold intC at p
  split at p
  · obtain ⟨h, p⟩ := post_if p
    exact ⟨_, _, r1, r2, hc _ _ h, post_val p S rfl⟩
  · exact p.elim
abbrev iaddM := intM fun i j => i + j
abbrev isubM := intM fun i j => i - j
abbrev imulM := intC (fun i j => decide ((-18446744073709551616 < i ∧ i < 18446744073709551616) ∨ (-18446744073709551616 < j ∧ j < 18446744073709551616))) fun i j => i * j
abbrev ifdivM := intC (fun i j => decide (0 < j ∧ j < 1073741824)) fun i j => i / j
theorem imul_c : ∀ i j, (fun (i j : Int) => decide ((-18446744073709551616 < i ∧ i < 18446744073709551616) ∨ (-18446744073709551616 < j ∧ j < 18446744073709551616))) i j = true → CMul i j := fun i j h => by
  have q : (-18446744073709551616 < i ∧ i < 18446744073709551616) ∨ (-18446744073709551616 < j ∧ j < 18446744073709551616) := of_decide_eq_true h
  exact q
theorem ifdiv_c : ∀ i j, (fun (i j : Int) => decide (0 < j ∧ j < 1073741824)) i j = true → CDiv i j := fun i j h => by
  have q : 0 < j ∧ j < 1073741824 := of_decide_eq_true h
  exact q

/-! ### lists of the store, changed -/
/-- o.append(e) -/
def appM (o a : EM D) : EM D := fun l st => (o l st).bind fun x st1 => match x with
  | .ref n => (match st1[n]? with
    | some (.lst _) => (a l st1).bind fun d st2 => (match st2[n]? with
      | some (.lst ds) => if small ds.length = true then .ok .non (st2.set n (.lst (ds ++ [d]))) else .fail
      | _ => .fail)
    | _ => .fail)
  | _ => .fail
theorem rs_lst {n : Nat} {l : List D} {v : V} (S : RSt K io N H st) (r : Rep K io N H (.ref n) v) (h : st[n]? = some (.lst l)) : ∃ a xs, v = .ref a ∧ io[n]? = some a ∧ H a = some (.lst xs) ∧ Reps K io N H l xs := by
  obtain ⟨a, e1, rfl⟩ := r
  obtain ⟨b, u, e2, e3, xs, rfl, e4⟩ := S.ob _ _ h
  rw [e1] at e2
  cases e2
  exact ⟨a, xs, rfl, e1, e3, e4⟩
theorem rs_lstSet {n : Nat} {a : Addr} {l : List D} {xs : List V} (S : RSt K io N H st) (e : io[n]? = some a) (r : Reps K io N H l xs) : RSt K io N (upd H a (.lst xs)) (st.set n (.lst l)) ∧ Ext io H io (upd H a (.lst xs)) := by
  have ex : Ext io H io (upd H a (.lst xs)) := Ext.upd (List.mem_of_getElem? e)
  exact S.set e ⟨xs, rfl, r.mono ex⟩
theorem me_app {o e : Expr} {mo ma : EM D} {apos : Pos} (ho : ME X W o mo) (ha : ME X W e ma) (hs1 : starEach (e :: []) X.env = (false, eval e X.env) :: starEach [] X.env := by rfl) (hbase : attributeBase o "append" X.env (eval o X.env) = eval o X.env := by rfl)
    (hfew : ((backTo pos (starEach (e :: []) X.env)).all (fun x => !x.1) && (backToKw pos (keywordEach [] X.env)).all (fun x => x.1.isSome) && decide ((e :: ([] : List Expr)).length + ([] : List Keyword).length + (if ([] : List Keyword).isEmpty then 0 else 1) < 30)) = true := by rfl)
    (hline : (apos.endLine == pos.line) = true := by rfl) (hplain : (backTo pos (starEach [] X.env)).any (·.1) = false := by rfl) : ME X W (.Call (.Attribute o "append" apos) [e] [] pos) (appM mo ma) := by
  obtain ⟨t1, p1, q1⟩ := ho
  obtain ⟨t2, p2, q2⟩ := ha
  refine ⟨_, pe_bm PySem.F.plainAttrs_list PySem.F.slot_list_append PySem.F.type_list_append mt_append p1 (pa_cons p2 pa_nil hs1) hbase hfew hline hs1 hplain, fun io N H s l st Q hl hs p => ?_⟩
  refine q1.seq hl hs p fun io1 H1 x w st1 e1 S1 r1 p => ?_
  cases x with
  | ref n =>
    cases hh : st1[n]? with
    | none => simp only [hh] at p; exact p.elim
    | some oo =>
      cases oo with
      | lst l0 =>
        simp only [hh] at p
        obtain ⟨b, xs0, rfl, eio, eH, rr0⟩ := rs_lst S1 r1 hh
        refine ⟨.inl ⟨rfl, xs0, SqL.of eH⟩, ?_⟩
        refine q2.seq (hl.mono e1) S1 p fun io2 H2 d v st2 e2 S2 r2 p => ?_
        cases h2 : st2[n]? with
        | none => simp only [h2] at p; exact p.elim
        | some oo =>
          cases oo with
          | lst ds =>
            simp only [h2] at p
            obtain ⟨hc, p⟩ := post_if p
            obtain ⟨b', xs, eb, eio2, eH2, rr⟩ := rs_lst S2 (r1.mono e2) h2
            cases eb
            obtain ⟨S3, ex⟩ := rs_lstSet S2 eio2 (rr.app (Reps.one r2))
            exact ⟨b, xs, v, rfl, rfl, eH2, by rw [rr.len]; exact small_lt hc, p io2 _ .non ex S3 rfl⟩
          | _ => simp only [h2] at p; exact p.elim
      | _ => simp only [hh] at p; exact p.elim
  | _ => exact p.elim
/-- x[i] = e, x a list of the store -/
def setIx (a o i : EM D) : SM := fun l st => (a l st).toS l fun d st1 => (o l st1).toS l fun x st2 => (i l st2).toS l fun j st3 => match x, j with
  | .ref n, .int z => (match st3[n]? with
    | some (.lst ds) => (match ixN ds.length z with
      | some m => .nx l (st3.set n (.lst (ds.set m d)))
      | none => .fail)
    | _ => .fail)
  | _, _ => .fail
theorem ms_setIx {o i e : Expr} {mo mi ma : EM D} {spos : Pos} (ha : ME X W e ma) (ho : ME X W o mo) (hi : ME X W i mi) (hs : swapsWithSole [.Subscript o i spos] e pos.line X.env = pure false := by rfl) (hw : swappedStores [.Subscript o i spos] e X.env = pure none := by rfl) (he : (assignEach [.Subscript o i spos] X.env).map (·.2) = [assign (.Subscript o i spos) X.env] := by rfl)
    (hq : ∀ v, assign (.Subscript o i spos) X.env v = (do let ov ← holding [v] (eval o X.env); let iv ← holding [v, ov] (eval i X.env); standAt spos; holding [v, ov, iv] (setItem ov iv v); release [v, ov, iv] []) := by intro _; rfl) :
    MS X W (.Assign [.Subscript o i spos] e pos) (setIx ma mo mi) := by
  obtain ⟨t1, p1, q1⟩ := ha
  obtain ⟨t2, p2, q2⟩ := ho
  obtain ⟨t3, p3, q3⟩ := hi
  refine ⟨_, ps_asg p1 (pg_sub p2 p3 set_list hq) hs hw he, fun io N H s l st D hl hs p => ?_⟩
  refine q1.seqS hl hs p fun io1 H1 d v st1 e1 S1 r1 p => q2.seqS (hl.mono e1) S1 p fun io2 H2 x w st2 e2 S2 r2 p => q3.seqS ((hl.mono e1).mono e2) S2 p fun io3 H3 j u st3 e3 S3 r3 p => ?_
  cases x with
  | ref n =>
    cases j with
    | int z =>
      cases h2 : st3[n]? with
      | none => simp only [h2] at p; exact p.elim
      | some oo =>
        cases oo with
        | lst ds =>
          simp only [h2] at p
          cases h3 : ixN ds.length z with
          | none => simp only [h3] at p; exact p.elim
          | some m =>
            simp only [h3] at p
            obtain ⟨b, xs, rfl, eio2, eH2, rr⟩ := rs_lst S3 (r2.mono e3) h2
            obtain ⟨S4, ex⟩ := rs_lstSet S3 eio2 (rr.setN m ((r1.mono e2).mono e3))
            exact ⟨b, xs, z, m, rfl, r3, eH2, by rw [rr.len]; exact h3, p io3 _ s ex ((((hl.mono e1).mono e2).mono e3).mono ex) S4⟩
        | _ => simp only [h2] at p; exact p.elim
    | _ => exact p.elim
  | _ => exact p.elim

/-! ### exceptions that are raised -/
/-- C(): an own class without __init__ -/
theorem pmk_own0 {x : Str} {p pos : Pos} {C : Addr} {bmB : List Value} {B newId initId : String} (F : ExcBaseFacts B newId initId bmB) (q : PySem.W.excIn X.K C bmB newId = true) (gC : X.mg x = some (.ref C)) (kC : PySem.W.keepIn X.K (.ref C) = true) (r : Raises X (.ref C)) (hg : Gl X x)
    (hdb : (x == ("__debug__" : Str)) = false) : PMk X (.Call (.Name x p) [] [] pos) (fun _ H Q => Q (.ref C) none H) := fun pins s σ H Q I h => by
  refine wpAny_Call_Name_kw (ld_glob I hg gC (PySem.W.callWith_K0 I.kIn kC ?_) hdb)
  obtain ⟨bm, N, nm, qn, bs, hdct, sn, sub, ab, col, dd, k0, k1, k2, k3, k5, mN, hC, hN, hni, T⟩ := exc_obj I.kIn q
  show wpAny (model X.prog X.w) X.A (call (.ref C) []) _ _ _
  refine wpAny_call_exc_subT F T hC hN hni (fun h' e hm => mk_of I hm r h (I.hok.gone hm.new)) (Nat.zero_le _)
/-- what the top says of a class without fields -/
structure Exc0 (K : PySem.W.Frag) (mg : Str → Option Value) (c : Str) : Prop where
  q : PySem.W.excIn K (He.ga K c) He.veBase "ValueError.__new__" = true
  g : mg c = some (.ref (He.ga K c))
  kp : PySem.W.keepIn K (.ref (He.ga K c)) = true
  ex : PySem.W.subIn K (.ref (He.ga K c)) (.type "BaseException") = some true
  ty : PySem.W.typeIn K (.ref (He.ga K c)) = some (.type "type")
def raise0 (c : Str) : SM := fun l st => .exc c [] l st
theorem ms_raise0 {c : Str} {p pos2 : Pos} (cx : Ctx X W k) (T : Exc0 X.K X.mg c) (hg : Gl X c := by rfl) (hdb : (c == ("__debug__" : Str)) = false := by decide) : MS X W (.Raise (some (.Call (.Name c p) [] [] pos)) none pos2) (raise0 c) :=
  ⟨_, ps_raise cx.calm cx.tx (pmk_own0 PySem.F.excBase_ValueError T.q T.g T.kp (raises_own T.ex T.ty) hg hdb), fun io N H s l st D hl hs p => p io H s _ _ (Ext.refl _ _) hl hs ⟨rfl, .inl rfl⟩⟩
/-- self.f = f -/
def spI1 (K : PySem.W.Frag) (c f : Str) : Sp := fun vs H Q _ => ∃ (a : Addr) (v : V), vs = [.ref a, v] ∧ OexC K (He.ga K c) ∧ PySem.W.findIn K (.ref (He.ga K c)) f = some none ∧ H a = some (exo a (He.ga K c) none) ∧ ∀ dx, H dx = none → dx ≠ a → Q .non (upd (upd H dx (exd dx [(f, v)])) a (exo a (He.ga K c) (some dx)))
/-- self.f = f; self.g = g -/
def spI2 (K : PySem.W.Frag) (c f g : Str) : Sp := fun vs H Q _ => ∃ (a : Addr) (v u : V), vs = [.ref a, v, u] ∧ OexC K (He.ga K c) ∧ PySem.W.findIn K (.ref (He.ga K c)) f = some none ∧ PySem.W.findIn K (.ref (He.ga K c)) g = some none ∧ H a = some (exo a (He.ga K c) none) ∧
  ∀ dx, H dx = none → dx ≠ a → Q .non (upd (upd (upd H dx (exd dx [(f, v)])) a (exo a (He.ga K c) (some dx))) dx (exd dx [(g, u), (f, v)]))
/-- a class whose __init__ keeps sp -/
structure ExcI (P : Program) (w : World) (K : PySem.W.Frag) (mg : Str → Option Value) (base : Heap) (c : Str) (n j : Nat) (sp : Sp) : Prop where
  o : OexC K (He.ga K c)
  g : mg c = some (.ref (He.ga K c))
  ex : ∃ fI fd ps, ps.length = n + 1 ∧ PySem.W.findIn K (.ref (He.ga K c)) "__init__" = some (some (.ref fI)) ∧ PySem.W.typeIn K (.ref fI) = some (.type "function") ∧ FnOk P w K mg base (L2.CX P w) j fI fd ps sp ∧ Binds K fd ps []
def raise1 (c f : Str) (a : EM (List D)) : SM := fun l st => (a l st).toS l fun ds st1 => match ds with
  | [d] => .exc c [(f, d)] l st1
  | _ => .fail
def raise2 (c f g : Str) (a : EM (List D)) : SM := fun l st => (a l st).toS l fun ds st1 => match ds with
  | [d, e] => .exc c [(g, e), (f, d)] l st1
  | _ => .fail
theorem upd_exc {H : Hp} {a dx : Addr} {o1 o2 o3 : HO} (ha : H a = none) (ne : dx ≠ a) : upd (del (upd (upd H dx o1) a o2) a) dx o3 = upd H dx o3 := by
  funext b
  by_cases h : b = dx
  · rw [h, upd_same, upd_same]
  · rw [upd_ne h, upd_ne h]
    by_cases h2 : b = a
    · rw [h2, del_same, ha]
    · rw [del_ne h2, upd_ne h2, upd_ne h]
theorem ms_raise1 {c f : Str} {j : Nat} {e : Expr} {a : EM (List D)} {p pos2 : Pos} (cx : Ctx X W k) (T : ExcI X.prog X.w X.K X.mg X.base c 1 j (spI1 X.K c f)) (hno : PySem.W.findIn X.K (.ref (He.ga X.K c)) f = some none) (ha : MA X W [e] a) (hj : j + 1 ≤ k := by decide) (hg : Gl X c := by rfl) (hdb : (c == ("__debug__" : Str)) = false := by decide)
    (he : starEach (e :: []) X.env = (false, eval e X.env) :: starEach [] X.env := by rfl) (hpl : (backTo pos (starEach [] X.env)).any (·.1) = false := by rfl) : MS X W (.Raise (some (.Call (.Name c p) [e] [] pos)) none pos2) (raise1 c f a) := by
  obtain ⟨fI, fd, ps, hn, iC, tI, fo, hb⟩ := T.ex
  obtain ⟨t, p1, q1⟩ := ha
  refine ⟨_, ps_raise cx.calm cx.tx (pmk_oex T.o iC tI fo (cx.room.mono hj) hb .nil passL hg T.g p1 hdb he hpl), fun io N H s l st D hl hs p => ?_⟩
  refine q1.seqS hl hs p fun io1 H1 ds vs st1 e1 S1 r1 p => ?_
  match ds, p, r1 with
  | [d], p, ⟨v, _, e2, r2, e3⟩ =>
    subst e3 e2
    refine ⟨by show 1 ≤ 1000; decide, fun b hbn => ⟨b, v, rfl, T.o, hno, upd_same, fun dx hd ne => ⟨rfl, dx, [(f, v)], upd_same, ?_, ?_, ?_⟩⟩⟩
    · rw [upd_ne ne, upd_same]
    · rw [upd_ne ne] at hd
      exact hd
    · rw [upd_ne ne] at hd
      have e4 : upd (del (upd (upd (upd H1 b (exo b (He.ga X.K c) none)) dx (exd dx [(f, v)])) b (exo b (He.ga X.K c) (some dx))) b) dx (.xd [(f, v)]) = upd H1 dx (.xd [(f, v)]) := by
        funext z
        by_cases h : z = dx
        · rw [h, upd_same, upd_same]
        · rw [upd_ne h, upd_ne h]
          by_cases h2 : z = b
          · rw [h2, del_same, hbn]
          · rw [del_ne h2, upd_ne h2, upd_ne h, upd_ne h2]
      rw [e4]
      exact p io1 _ s _ _ (Ext.new hd) ((hl.mono e1).mono (Ext.new hd)) (S1.new hd) ⟨rfl, .inr ⟨dx, _, rfl, upd_same, v, [], rfl, r2.mono (Ext.new hd), rfl⟩⟩
  | [], p, _ => exact p.elim
  | _ :: _ :: _, p, _ => exact p.elim
end
end Rf
namespace Rf
set_option autoImplicit false
open PySem PySem.Spec L2

section
variable {K : PySem.W.Frag} {X : Cx} {W : Wi} {pos : Pos} {k : Nat} {io N : List Addr} {H : Hp} {st : Store}
/-- the reading of a statement that its mirror says -/
def cS (K : PySem.W.Frag) (W : Wi) (m : SM) : TS := fun D s H => ∃ (io N : List Addr) (l : Sl) (st : Store), REnv K W io N H l s ∧ RSt K io N H st ∧ PostS K io N H (m l st) D W
theorem MSs.ps {b : List Stmt} {m : SM} (h : MSs X W b m) : PSs X b (cS X.K W m) := by
  obtain ⟨t, p, r⟩ := h
  exact ⟨fun pins s σ H D I ⟨io, N, l, st, hl, hs, q⟩ => p.run pins s σ H D I (r io N H σ l st D hl hs q)⟩
/-! ### try: .. except C as e: .. -/
/-- what holds in the suite: e is the exception, its fields stand -/
def wX (K : PySem.W.Frag) (W : Wi) (i : Nat) (a : Addr) (cls : Value) (d : Option Addr) (c : Str) (fs : List (Str × D)) : Wi where
  w := fun _ _ _ _ => False
  I := fun io H s => W.I io H s ∧ s[i]? = some (some (.ref a)) ∧ cls = .ref (He.ga K c) ∧ (fs = [] ∨ ∃ dd xs, d = some dd ∧ dd ∉ io ∧ H dd = some (.xd xs) ∧ ∀ f v w, fs.lookup f = some v → sv v = some w → xs.lookup f = some w)
  pr := i :: W.pr
  mono := fun e h => ⟨W.mono e h.1, h.2.1, h.2.2.1, h.2.2.2.imp id fun ⟨dd, xs, h1, h2, h3, h4⟩ => ⟨dd, xs, h1, e.notin h2 h3, e.keep _ _ h2 h3, h4⟩⟩
  set := fun {io H s j o} hj h => by
    have hn : j ≠ i := fun z => by subst z; simp at hj
    have hw : W.pr.contains j = false := by
      simp only [List.contains_cons, Bool.or_eq_false_iff] at hj
      exact hj.2
    exact ⟨W.set hw h.1, by rw [List.getElem?_set_ne hn]; exact h.2.1, h.2.2⟩
/-- a field of the exception that is handled -/
def xfM (c : Str) (fs : List (Str × D)) (C f : Str) : EM D := fun _ st => if c = C then (match fs.lookup f with
  | some v => (match sv v with
    | some _ => .ok v st
    | none => .fail)
  | none => .fail) else .fail
theorem sv_rep {d : D} {v : V} (h : sv d = some v) : Rep K io N H d v := by
  cases d <;> simp [sv] at h <;> subst h <;> rfl
theorem me_xf {C f n : Str} {i : Nat} {a : Addr} {oe : Obj} {cls : Value} {d : Option Addr} {pn : List (Addr × Obj)} {c : Str} {fs : List (Str × D)} {p2 : Pos} (T : XfC X.K (He.ga X.K C)) (hno : PySem.W.findIn X.K (.ref (He.ga X.K C)) f = some none) (hz : Zc cls d oe) (hf : ∃ vs, oe.data = .fields vs)
    (hN : (X.suite a ((a, oe) :: pn)).N[i]? = some n := by rfl) (hv : Vis (X.suite a ((a, oe) :: pn)).env.scope n := by first | exact Or.inl rfl | exact Or.inr (Or.inl rfl) | exact Or.inr (Or.inr rfl)) (hd : (n == ("__debug__" : Str)) = false := by decide) (hcd : (n == ("__classdict__" : Str)) = false := by decide)
    (hb : attributeBase (.Name n p2) f X.env (eval (.Name n p2) X.env) = eval (.Name n p2) X.env := by rfl) : ME (X.suite a ((a, oe) :: pn)) (wX X.K W i a cls d c fs) (.Attribute (.Name n p2) f pos) (xfM c fs C f) := by
  refine ⟨_, pe_xf T hno hz hf (pe_var hN hv hd hcd) hb, fun io N H s l st Q hl hs p => ?_⟩
  unfold xfM at p
  by_cases hcC : c = C
  case neg =>
    rw [if_neg hcC] at p
    exact p.elim
  subst hcC
  rw [if_pos rfl] at p
  cases hv2 : fs.lookup f with
  | none => rw [hv2] at p; exact p.elim
  | some v =>
    rw [hv2] at p
    cases hw : sv v with
    | none => simp only [hw] at p; exact p.elim
    | some w =>
      simp only [hw] at p
      obtain ⟨_, h1, h2, h3⟩ := hl.1
      refine ⟨_, h1, rfl, h2, ?_⟩
      rcases h3 with h3 | ⟨dd, xs, e1, e2, e3, e4⟩
      · rw [h3] at hv2; cases hv2
      · exact ⟨dd, xs, w, e1, e3, e4 _ _ _ hv2 hw, post_val p hs (sv_rep hw)⟩
/-- the suite's end: e is gone -/
def xEnd (i : Nat) (z : Sz) : Sz := match z with
  | .nx l st => .nx (l.set i none) st
  | .bk l st => .bk (l.set i none) st
  | .ct l st => .ct (l.set i none) st
  | .rt d st => .rt d st
  | .exc _ _ _ _ => .fail
  | .fail => .fail
def tryM (body : SM) (exm : Str → Option Bool) (i : Nat) (suite : Str → List (Str × D) → SM) : SM := fun l st => match body l st with
  | .exc c fs l' st' => (match exm c with
    | some true => if i < l'.length then xEnd i (suite c fs (l'.set i none) st') else .fail
    | some false => .exc c fs l' st'
    | none => .fail)
  | z => z
theorem rst_xd (S : RSt K io N H st) {d : Addr} {xs : List (Str × V)} (h : H d = some (.xd xs)) : d ∉ io := fun hm => by
  obtain ⟨n, hn⟩ := List.mem_iff_getElem?.mp hm
  have hl : n < st.length := by rw [← S.len]; exact (List.getElem?_eq_some_iff.mp hn).1
  obtain ⟨b, u, e1, e2, e3⟩ := S.ob n _ (List.getElem?_eq_getElem hl)
  rw [hn] at e1
  cases e1
  rw [h] at e2
  cases e2
  generalize st[n] = o at e3
  cases o with
  | lst l => obtain ⟨_, z, _⟩ := e3; cases z
  | dK l => obtain ⟨_, z, _⟩ := e3; cases z
  | dT l => obtain ⟨_, z, _⟩ := e3; cases z
  | ins c fs => obtain ⟨_, _, z, _⟩ := e3; cases z
  | frz o => obtain ⟨_, _, z, _⟩ := e3; cases z
theorem ms_try_as (i : Nat) {x n : Str} {body : List Stmt} {b0 : Stmt} {rest : List Stmt} {mb : SM} {exm : Str → Option Bool} {suite : Str → List (Str × D) → SM} {np pos' : Pos} (cx : Ctx X W k)
    (hc : Names X x (.ref (He.ga X.K x))) (hx : ∀ c b, exm c = some b → PySem.W.exmOne X.K (.ref (He.ga X.K c)) (.ref (He.ga X.K x)) = some b)
    (hb : ∀ (Y : WX) (pn : List (Addr × Obj)) (xe : Value → Shared → Prop), Ctx (X.tr pn xe) (W.wi Y) k → MSs (X.tr pn xe) (W.wi Y) body mb)
    (hsu : ∀ (a : Addr) (oe : Obj) (cls : Value) (d : Option Addr) (pn : List (Addr × Obj)) (c : Str) (fs : List (Str × D)), Zc cls d oe → (∃ vs, oe.data = .fields vs) → MSs (X.suite a ((a, oe) :: pn)) (wX X.K W i a cls d c fs) (b0 :: rest) (suite c fs))
    (hs : X.stack = X.env :: X.outer := by rfl) (hf : X.env.frame = some X.env.locals := by rfl) (hi : X.N[i]? = some n := by rfl) (hln : X.env.kindOf n = some .local := by rfl) (hp : W.may [i] = true := by rfl) :
    MS X W (.Try body [.ExceptHandler (some (.Name x np)) (some n) (b0 :: rest) pos'] [] [] pos) (tryM mb exm i suite) := by
  have hpi := Wi.may_of hp (i := i) (by simp)
  refine ⟨_, ps_try_as (tb := fun Y => cS X.K (W.wi Y) mb) (ts := fun a cls d D s H => ∃ c fs, cS X.K (wX X.K W i a cls d c fs) (suite c fs) D s H) hs hf cx.nd hi hln hc cx.tx
    (fun Y pn xe tk po => (hb Y pn xe (.of cx.room tk po cx.nd cx.calm)).ps) (fun a oe cls d pn hz hff => ⟨fun pins s σ H D I hh => by
      obtain ⟨c, fs, h⟩ := hh
      exact (hsu a oe cls d pn c fs hz hff).ps.run pins s σ H D I h⟩), fun io N H s l st D hl hs p => ?_⟩
  refine ⟨io, N, l, st, hl, hs, ?_⟩
  unfold tryM at p
  cases e : mb l st with
  | exc c fs l' st' =>
    simp only [e] at p
    intro io1 H1 s1 cls dd ex1 r1 S1 rx
    obtain ⟨hcls, hfs⟩ := id rx
    have hfacts : fs = [] ∨ ∃ d2 xs, dd = some d2 ∧ d2 ∉ io1 ∧ H1 d2 = some (.xd xs) ∧ ∀ f v w, fs.lookup f = some v → sv v = some w → xs.lookup f = some w := hfs.imp id fun ⟨d2, xs, h1, h2, h3⟩ => ⟨d2, xs, h1, rst_xd S1 h2, h2, fun f v w q1 q2 => by
      obtain ⟨v', q3, q4⟩ := h3.look.2 v q1
      rw [q3, sv_ok q4 q2]⟩
    cases hx1 : exm c with
    | none => rw [hx1] at p; exact p.elim
    | some b =>
      rw [hx1] at p
      refine ⟨b, by rw [hcls]; exact hx c b hx1, fun hb2 a ha => ?_, fun hb2 => ?_⟩
      · subst hb2
        obtain ⟨hlen, p⟩ := postS_if p
        have hlen : i < s1.length := by rw [r1.len]; exact hlen
        have I2 : REnv X.K (wX X.K W i a cls dd c fs) io1 N H1 (l'.set i none) (s1.set i (some (.ref a))) := ⟨⟨W.set hpi r1.1, List.getElem?_set_self hlen, hcls, hfacts⟩, REn0.unset i r1.2⟩
        refine ⟨c, fs, io1, N, _, st', I2, S1, ?_⟩
        have p2 := PostS.step ex1 p
        cases e3 : suite c fs (l'.set i none) st' with
        | nx l2 st2 =>
          simp only [e3, xEnd] at p2
          exact fun io2 H2 s2 ex2 r2 S2 => p2 io2 H2 _ ex2 ⟨W.set hpi r2.1.1, REn0.unset i r2.2⟩ S2
        | bk l2 st2 =>
          simp only [e3, xEnd] at p2
          exact fun io2 H2 s2 ex2 r2 S2 => p2 io2 H2 _ ex2 ⟨W.set hpi r2.1.1, REn0.unset i r2.2⟩ S2
        | ct l2 st2 =>
          simp only [e3, xEnd] at p2
          exact fun io2 H2 s2 ex2 r2 S2 => p2 io2 H2 _ ex2 ⟨W.set hpi r2.1.1, REn0.unset i r2.2⟩ S2
        | rt d st2 =>
          simp only [e3, xEnd] at p2
          exact p2
        | exc c2 fs2 l2 st2 =>
          simp only [e3, xEnd] at p2
          exact p2.elim
        | fail =>
          simp only [e3, xEnd] at p2
          exact p2.elim
      · subst hb2
        exact p io1 H1 s1 cls dd ex1 r1 S1 rx
  | nx l' st' => simp only [e] at p; exact p
  | bk l' st' => simp only [e] at p; exact p
  | ct l' st' => simp only [e] at p; exact p
  | rt d st' => simp only [e] at p; exact p
  | fail => simp only [e] at p; exact p
end
end Rf
namespace Rf
set_option autoImplicit false
open PySem PySem.Spec L2

section
variable {K : PySem.W.Frag} {X : Cx} {W : Wi} {pos : Pos} {k : Nat} {io N : List Addr} {H : Hp} {st : Store}
/-! ### built-in functions and types by values -/
def CalM (K : PySem.W.Frag) (r : List V → Hp → VK → Prop) (g : FM) : Prop := ∀ (io N : List Addr) (H : Hp) (vs : List V) (ds : List D) (st : Store) (Q : VK) (Y : XK), RSt K io N H st → Reps K io N H ds vs → Post K rD io N H (g ds st) Q Y → r vs H Q
theorem rg_blt {r : List V → Hp → VK → Prop} {g : FM} {t : TA} {a : EM (List D)} (h : CalM K r g) (h1 : RG K rA W t a) : RG K rD W (tCB r t) (callM g a) := fun io N H s l st Q hl hs p =>
  h1.seq hl hs p fun io1 H1 ds vs st1 e1 S1 r1 p1 => h io1 N H1 vs ds st1 Q _ S1 r1 p1
theorem me_blt {x : Str} {id : String} {r : List V → Hp → VK → Prop} {g : FM} {e : Expr} {es : List Expr} {a : EM (List D)} {p : Pos} (hc : CallR X (.builtin id) r) (h : CalM X.K r g) (hv : bootBuiltins x = some (.builtin id)) (hm : X.mg x = none) (ha : MA X W (e :: es) a) (hg : Gl X x := by rfl) (hn : x ≠ "__name__" := by decide) (hdb : (x == ("__debug__" : Str)) = false := by decide)
    (he : starEach (e :: es) X.env = (false, eval e X.env) :: starEach es X.env := by rfl) (hpl : (backTo pos (starEach es X.env)).any (·.1) = false := by rfl) : ME X W (.Call (.Name x p) (e :: es) [] pos) (callM g a) := by
  obtain ⟨t, p1, q1⟩ := ha
  exact ⟨_, pe_callB hc hg hm hv p1 hn hdb he hpl, rg_blt h q1⟩
theorem me_ty {x : Str} {T : String} {r : List V → Hp → VK → Prop} {g : FM} {e : Expr} {es : List Expr} {a : EM (List D)} {p : Pos} (hc : CallR X (.type T) r) (h : CalM X.K r g) (hv : bootBuiltins x = some (.type T)) (hm : X.mg x = none) (ha : MA X W (e :: es) a) (hg : Gl X x := by rfl) (hn : x ≠ "__name__" := by decide) (hdb : (x == ("__debug__" : Str)) = false := by decide)
    (he : starEach (e :: es) X.env = (false, eval e X.env) :: starEach es X.env := by rfl) (hpl : (backTo pos (starEach es X.env)).any (·.1) = false := by rfl) : ME X W (.Call (.Name x p) (e :: es) [] pos) (callM g a) := by
  obtain ⟨t, p1, q1⟩ := ha
  exact ⟨_, pe_callTy hc hg hm hv p1 hn hdb he hpl, rg_blt h q1⟩
/-- len -/
def lenM : FM := fun ds st => match ds with
  | [.str y] => if small y.length = true then .ok (.int y.length) st else .fail
  | [d] => (match sqof d st with
    | some l => .ok (.int l.length) st
    | none => .fail)
  | _ => .fail
theorem cal_len : CalM K (fun xs H Q => ∃ x n, xs = [x] ∧ LenV K x H n ∧ Q (.int n) H) lenM := by
  intro io N H vs ds st Q Y S r p
  match ds, r with
  | [], _ => exact p.elim
  | _ :: _ :: _, _ => unfold lenM at p; split at p <;> first | exact p.elim | simp_all
  | [d], ⟨v, _, e1, r1, e2⟩ =>
    subst e2 e1
    unfold lenM at p
    split at p
    · rename_i y hy
      cases hy
      obtain ⟨hc, p⟩ := post_if p
      cases r1
      exact ⟨_, _, rfl, ⟨small_ok hc, rfl⟩, post_val p S rfl⟩
    · rename_i d' _ hd
      cases hd
      split at p
      · rename_i l hl
        obtain ⟨a, xs, rfl, c, q⟩ := sqof_ok S r1 hl
        refine ⟨_, l.length, rfl, ?_, post_val p S rfl⟩
        rcases c with c | c
        · exact .inl ⟨xs, c, q.len.symm⟩
        · exact .inr ⟨xs, c, q.len.symm⟩
      · exact p.elim
    · exact p.elim
/-- max, min of two numbers -/
def int2 (f : Int → Int → Int) : FM := fun ds st => match ds with
  | [.int i, .int j] => .ok (.int (f i j)) st
  | _ => .fail
theorem cal_int2 {f : Int → Int → Int} : CalM K (fun xs H Q => ∃ i j, xs = [.int i, .int j] ∧ Q (.int (f i j)) H) (int2 f) := by
  intro io N H vs ds st Q Y S r p
  unfold int2 at p
  split at p
  · obtain ⟨v, _, rfl, rfl, w, _, rfl, rfl, rfl⟩ := r
    exact ⟨_, _, rfl, post_val p S rfl⟩
  · exact p.elim
abbrev maxM := int2 fun i j => if j > i then j else i
abbrev minM := int2 fun i j => if j < i then j else i
/-- abs -/
def absM : FM := fun ds st => match ds with
  | [.int i] => .ok (.int (if i < 0 then -i else i)) st
  | _ => .fail
theorem cal_abs : CalM K (fun xs H Q => ∃ i, xs = [.int i] ∧ Q (.int (if i < 0 then -i else i)) H) absM := by
  intro io N H vs ds st Q Y S r p
  unfold absM at p
  split at p
  · obtain ⟨v, _, rfl, rfl, rfl⟩ := r
    exact ⟨_, rfl, post_val p S rfl⟩
  · exact p.elim
/-- int(x) -/
def intOf : FM := fun ds st => match ds with
  | [.int i] => .ok (.int i) st
  | [.bl b] => .ok (.int (if b then 1 else 0)) st
  | [.str a] => if a.length ≤ 640 then (match PySem.intText? a with
    | some n => .ok (.int n) st
    | none => .fail) else .fail
  | _ => .fail
theorem cal_int : CalM K (fun xs H Q => ((∃ i, xs = [.int i] ∧ Q (.int i) H) ∨ ∃ k, xs = [.bl k] ∧ Q (.int (if k then 1 else 0)) H) ∨ ∃ a n, xs = [.str a] ∧ PySem.intText? a = some n ∧ a.length ≤ 640 ∧ Q (.int n) H) intOf := by
  intro io N H vs ds st Q Y S r p
  unfold intOf at p
  split at p
  · obtain ⟨v, _, rfl, rfl, rfl⟩ := r
    exact .inl (.inl ⟨_, rfl, post_val p S rfl⟩)
  · obtain ⟨v, _, rfl, rfl, rfl⟩ := r
    exact .inl (.inr ⟨_, rfl, post_val p S rfl⟩)
  · obtain ⟨hc, p⟩ := post_if p
    obtain ⟨v, _, rfl, rfl, rfl⟩ := r
    split at p
    · rename_i n hn
      exact .inr ⟨_, n, rfl, hn, hc, post_val p S rfl⟩
    · exact p.elim
  · exact p.elim
/-- str(x) -/
def strOf : FM := fun ds st => match ds with
  | [.int i] => if i.natAbs < 18446744073709551616 then .ok (.str (toString i)) st else .fail
  | [.str a] => .ok (.str a) st
  | _ => .fail
theorem log_small {n : Nat} (h : n < 18446744073709551616) : n.log2 < 1920 := by
  by_cases hn : n = 0
  · subst hn; decide
  · exact Nat.lt_of_lt_of_le ((Nat.log2_lt hn).mpr (show n < 2 ^ 64 from h)) (by decide)
theorem cal_str : CalM K (fun xs H Q => (∃ i, xs = [.int i] ∧ i.natAbs.log2 < 1920 ∧ Q (.str (toString i)) H) ∨ ∃ a, xs = [.str a] ∧ Q (.str a) H) strOf := by
  intro io N H vs ds st Q Y S r p
  unfold strOf at p
  split at p
  · obtain ⟨hc, p⟩ := post_if p
    obtain ⟨v, _, rfl, rfl, rfl⟩ := r
    exact .inl ⟨_, rfl, log_small hc, post_val p S rfl⟩
  · obtain ⟨v, _, rfl, rfl, rfl⟩ := r
    exact .inr ⟨_, rfl, post_val p S rfl⟩
  · exact p.elim
/-- tuple(a list) -/
def tupOf : FM := fun ds st => match ds with
  | [.tup l] => .ok (.tup l) st
  | [d] => (match lof d st with
    | some l => .ok (.tup l) st
    | none => .fail)
  | _ => .fail
theorem cal_tup : CalM K (fun xs H Q => ∃ p ys, xs = [.ref p] ∧ ((SqL K H p ys ∧ ∀ l, H l = none → Q (.ref l) (upd H l (.tup ys))) ∨ (SqT K H p ys ∧ Q (.ref p) H))) tupOf := by
  intro io N H vs ds st Q Y S r p
  unfold tupOf at p
  split at p
  · obtain ⟨v, _, rfl, r, rfl⟩ := r
    obtain ⟨a, xs, rfl, c, q⟩ := tup_ok r
    exact ⟨a, xs, rfl, .inr ⟨c, post_val p S r⟩⟩
  · obtain ⟨v, _, rfl, r, rfl⟩ := r
    split at p
    · rename_i l hl
      obtain ⟨a, xs, rfl, c, q⟩ := lof_ok S r hl
      exact ⟨a, xs, rfl, .inl ⟨c, fun b hb => p io _ _ (Ext.new hb) (S.new hb) ⟨b, _, rfl, .inl ⟨S.out hb, S.outN hb, upd_same⟩, q.mono (Ext.new hb)⟩⟩⟩
    · exact p.elim
  · exact p.elim
/-! ### isinstance with a built-in type -/
inductive Ty where
  | non | bl | int | str | lst | tup | dct
def Ty.nm : Ty → String
  | .non => "NoneType" | .bl => "bool" | .int => "int" | .str => "str" | .lst => "list" | .tup => "tuple" | .dct => "dict"
def isT : Ty → Ty → Bool
  | .non, .non => true | .bl, .bl => true | .int, .int => true | .str, .str => true | .lst, .lst => true | .tup, .tup => true | .dct, .dct => true
  | .bl, .int => true
  | _, _ => false
theorem isT_ok (a b : Ty) : kitB a.nm b.nm = some (isT a b) := by
  cases a <;> cases b <;> decide +kernel
def tyD (d : D) (st : Store) : Option Ty := match d with
  | .non => some .non
  | .bl _ => some .bl
  | .int _ => some .int
  | .str _ => some .str
  | .tup _ => some .tup
  | .fl _ => some .lst
  | .rd _ => some .lst
  | .ref n => (match st[n]? with
    | some (.lst _) => some .lst
    | some (.dK _) => some .dct
    | some (.dT _) => some .dct
    | _ => none)
  | _ => none
theorem ty_tup {a : Addr} {xs : List V} (c : SqT K H a xs) : TyX K H (.ref a) (.type "tuple") := by
  rcases c with (c | ⟨o, c⟩) | ⟨o, its, n, h1, h2, _⟩
  · exact .base (.tup c)
  · exact .fTuple c
  · exact .kTuple h1 h2
theorem ty_lst {a : Addr} {xs : List V} (c : SqL K H a xs) : TyX K H (.ref a) (.type "list") := by
  rcases c with (c | ⟨o, c⟩) | ⟨o, its, n, h1, h2, _⟩
  · exact .base (.lst c)
  · exact .base (.frz c)
  · exact .kList h1 h2
theorem tyD_ok {d : D} {v : V} {t : Ty} (S : RSt K io N H st) (r : Rep K io N H d v) (h : tyD d st = some t) : TyX K H v (.type t.nm) := by
  cases d with
  | non => cases h; cases r; exact .base .non
  | bl b => cases h; cases r; exact .base (.bl b)
  | int i => cases h; cases r; exact .base (.int i)
  | str x => cases h; cases r; exact .base (.str x)
  | tup l =>
    cases h
    obtain ⟨a, xs, rfl, c, q⟩ := tup_ok r
    exact ty_tup c
  | fl l =>
    cases h
    obtain ⟨a, xs, rfl, ⟨_, _, c⟩, q⟩ := r
    exact .base (.lst c)
  | rd l =>
    cases h
    obtain ⟨a, xs, rfl, c, q⟩ := lof_ok (d := .rd l) S r rfl
    exact ty_lst c
  | any => cases h
  | ref n =>
    simp only [tyD] at h
    cases e : st[n]? with
    | none => simp only [e] at h; cases h
    | some o =>
      simp only [e] at h
      obtain ⟨a, e1, rfl⟩ := r
      obtain ⟨b, u, e2, e3, e4⟩ := S.ob _ _ e
      rw [e1] at e2
      cases e2
      cases o with
      | lst l => cases h; obtain ⟨xs, rfl, _⟩ := e4; exact .base (.lst e3)
      | dK l => cases h; obtain ⟨xs, rfl, _⟩ := e4; exact .base (.dK e3)
      | dT l => cases h; obtain ⟨xs, rfl, _⟩ := e4; exact .base (.dT e3)
      | _ => cases h
def isiM (T : Ty) (a : EM D) : EM D := fun l st => (a l st).bind fun d st1 => match tyD d st1 with
  | some t => .ok (.bl (isT t T)) st1
  | none => .fail
theorem me_isi {e : Expr} {a : EM D} {T : Ty} {nm : Str} {p p2 : Pos} (h : ME X W e a) (hm : X.mg "isinstance" = none) (hm2 : X.mg nm = none) (hv : bootBuiltins nm = some (.type T.nm)) (hg : Gl X "isinstance" := by rfl) (hg2 : Gl X nm := by rfl) (hn : nm ≠ "__name__" := by decide) (hd : (nm == ("__debug__" : Str)) = false := by decide)
    (he : starEach [e, .Name nm p2] X.env = (false, eval e X.env) :: starEach [.Name nm p2] X.env := by rfl) (he2 : starEach [.Name nm p2] X.env = (false, eval (.Name nm p2) X.env) :: starEach [] X.env := by rfl) (hpl : (backTo pos (starEach [.Name nm p2] X.env)).any (·.1) = false := by rfl) :
    ME X W (.Call (.Name "isinstance" p) [e, .Name nm p2] [] pos) (isiM T a) := by
  obtain ⟨t, p1, q1⟩ := h
  refine ⟨_, pe_callB call_isi hg hm PyProof.Rows.boot_isinstance (pa_cons p1 (pa_cons (pe_bltn (v := .ty T.nm) hg2 hm2 hv rfl hn hd) pa_nil he2) he) (by decide) (by decide) he hpl, fun io N H s l st Q hl hs p => ?_⟩
  refine q1.seq hl hs p fun io1 H1 d v st1 e1 S1 r1 p1 => ?_
  cases ht : tyD d st1 with
  | none => rw [ht] at p1; exact p1.elim
  | some t0 =>
    rw [ht] at p1
    exact ⟨v, _, _, _, _, rfl, .ty _, tyD_ok S1 r1 ht, kit_ty (isT_ok t0 T), post_val p1 S1 rfl⟩
/-! ### enumerate -/
def pairsD : Nat → List D → List D
  | _, [] => []
  | i, d :: l => .tup [.int (i : Nat), d] :: pairsD (i + 1) l
theorem pairsD_len : ∀ (l : List D) (i : Nat), (pairsD i l).length = l.length
  | [], _ => rfl
  | _ :: l, i => by rw [pairsD, List.length_cons, List.length_cons, pairsD_len l]
theorem pairsD_get : ∀ (l : List D) (i j : Nat) (d : D), l[j]? = some d → (pairsD i l)[j]? = some (.tup [.int ((i + j : Nat) : Int), d])
  | [], _, j, _, h => by simp at h
  | e :: l, i, 0, d, h => by
    cases h
    rfl
  | e :: l, i, j + 1, d, h => by
    have h2 : l[j]? = some d := h
    have := pairsD_get l (i + 1) j d h2
    rw [pairsD, List.getElem?_cons_succ, this, show i + 1 + j = i + (j + 1) by omega]
def srcE (d : D) (l : List D) : Src := match d with
  | .ref n => ⟨pairsD 0 l, some (n, l)⟩
  | _ => ⟨pairsD 0 l, none⟩
theorem srcE_items (d : D) (l : List D) : (srcE d l).items = pairsD 0 l := by cases d <;> rfl
theorem srcE_chk (d : D) (l : List D) (st : Store) : (srcE d l).chk st = (srcL d l).chk st := by cases d <;> rfl
def itE (a : EM D) : EM Src := fun l st => (a l st).bind fun d st1 => match lof d st1 with
  | some ds => .ok (srcE d ds) st1
  | none => .fail
theorem mi_enum {e : Expr} {a : EM D} {p tpos : Pos} {elts : List Expr} {kk : Nat} (hm : X.mg "enumerate" = none) (h : ME X W e a) (hg : Gl X "enumerate" := by rfl) (hs : starEach [e] X.env = [(false, eval e X.env)] := by rfl) : MI X W (.Tuple elts kk tpos) (.Call (.Name "enumerate" p) [e] [] pos) (itE a) := by
  obtain ⟨t, p, q⟩ := h
  refine ⟨_, pi_enum hg hm (pa_cons p pa_nil hs) hs, fun io N H s l st Q hl hs p => ?_⟩
  refine q.seq hl hs p fun io1 H1 d v st1 e1 S1 r1 p1 => ?_
  cases hh : lof d st1 with
  | none => rw [hh] at p1; exact p1.elim
  | some ds =>
    rw [hh] at p1
    obtain ⟨a, rfl, stays⟩ := lof_stays S1 r1 hh
    obtain ⟨a', xs0, e0, c0, _⟩ := lof_ok S1 r1 hh
    cases e0
    refine ⟨a, xs0, rfl, c0, p1 io1 H1 _ (Ext.refl _ _) S1 fun io' M H' st' hm ex S' c i => ?_⟩
    rw [srcE_chk] at c
    obtain ⟨xs, c1, rr⟩ := stays io' M H' st' hm ex S' c
    rw [srcE_items, pairsD_len]
    refine ⟨fun hi => ⟨⟨xs, xs[i]'(by rw [rr.len]; exact hi), c1, List.getElem?_eq_getElem _⟩, fun x H2 y => ?_⟩, fun hi => ⟨xs, c1, by rw [rr.len]; exact Nat.le_of_eq hi.symm⟩⟩
    obtain ⟨T, y0, rfl, hT, rfl, y⟩ := y
    obtain ⟨d', e', r'⟩ := rr.get' (y xs c1)
    refine ⟨_, pairsD_get ds 0 i d' e', ⟨T, [.int (i : Nat), y0], rfl, .inl ⟨S'.out hT, S'.outN hT, upd_same⟩, _, _, rfl, by rw [Nat.zero_add]; rfl, _, _, rfl, r'.mono (Ext.new hT), rfl⟩, Ext.new hT, S'.new hT⟩

/-! ### C(..): an object is made -/
structure Mkn (P : Program) (w : World) (K : PySem.W.Frag) (mg : Str → Option Value) (base : Heap) (C : Str) (n k : Nat) (f : FM) : Prop where
  g : mg C = some (.ref (He.ga K C))
  ex : ∃ fa fd ps, ps.length = n ∧ Mk K (He.ga K C) fa ∧ FnOk P w K mg base (L2.CX P w) k fa fd ps (spF K n f) ∧ Binds K fd ps []
theorem run_makeS {CX : CXT} {j : Nat} {C f : Addr} {fd : FuncData} {ps : List Str} {sp : Sp} {E : XK} {pins : List (Addr × Obj)} {σ : St} {s : Shared} {Q : VK} {us : List Value} {vs : List V} (M : Mk X.K C f) (F : FnOk X.prog X.w X.K X.mg X.base CX j f fd ps sp) (hr : Room (j + 1) X.A) (hb : Binds X.K fd ps [])
    (hx : PassesAt CX X σ E) (I : Inv X pins σ H s) (r : Vals vs us)
    (h : ∀ x dx, H x = none → H dx = none → dx ≠ x → sp (.ref x :: vs) (upd (upd H dx (.own x)) x (.ins C dx [])) (fun v H2 => v = .non ∧ Q (.ref x) H2) E) :
    wpAny (model X.prog X.w) X.A (call (.ref C) us) (EP X pins σ Q) X.xe s := by
  have hq := h (s.heap.objs.size + 1) s.heap.objs.size (I.hok.fresh (Nat.le_succ _)) (I.hok.fresh (Nat.le_refl _)) (Nat.ne_of_lt (Nat.lt_succ_self _))
  have I2 := Inv.made (C := C) I
  have r2 : Vals (V.ref (s.heap.objs.size + 1) :: vs) (Value.ref (s.heap.objs.size + 1) :: us) := .cons rfl r
  have hl : (Value.ref (s.heap.objs.size + 1) :: us).length = ps.length := by
    have e := r2.length
    rw [F.len _ _ _ _ hq] at e
    exact e.symm
  have hb2 := hb _ (Value.ref (s.heap.objs.size + 1) :: us) I2.kIn (by rw [List.append_nil]; exact hl)
  rw [List.append_nil] at hb2
  refine wpAny_call (make_map (f := f) I.kIn M.makes M.init (beq_iff_eq.mp M.fn) (codeAny_mono (F.run _ X.stack _ _ ⟨Value.ref (s.heap.objs.size + 1) :: us, []⟩ (Value.ref (s.heap.objs.size + 1) :: us) _ _ E (hr.make C us [])
    (I2.env0.make C us []) hb2 r2 hq) fun r s' hq' => ?_))
  cases r with
  | error e => exact hx pins _ _ e s' I2 hq'
  | ok fl =>
    cases fl with
    | ret u =>
      obtain ⟨v, H', I3, rv, ev, q3⟩ := I2.after hq'
      subst ev
      exact ⟨rv, ⟨V.ref (s.heap.objs.size + 1), H', I3, rfl, q3⟩⟩
    | next => exact False.elim hq'
    | brk => exact False.elim hq'
    | cont => exact False.elim hq'
def tMakeS (C : Addr) (sp : Sp) (E : St → XK) (t : TA) : TE := fun σ H Q => t σ H fun vs H1 => ∀ x dx, H1 x = none → H1 dx = none → dx ≠ x →
  sp (.ref x :: vs) (upd (upd H1 dx (.own x)) x (.ins C dx [])) (fun v H2 => v = .non ∧ Q (.ref x) H2) (E σ)
/-- the wish of exceptions from a new object on, as before -/
def mkM (C : Str) (f : FM) (a : EM (List D)) : EM D := fun l st => (a l st).bind fun ds st1 => (f (.ref st1.length :: ds) (st1 ++ [.ins C []])).bind fun d st2 => match d with
  | .non => .ok (.ref st1.length) st2
  | _ => .fail
theorem rg_mk {C : Str} {n : Nat} {f : FM} {t : TA} {a : EM (List D)} (h : RG K rA W t a) (hn : argN n a) : RG K rD W (tMakeS (He.ga K C) (spF K (n + 1) f) (WE W.w) t) (mkM C f a) := by
  intro io N H s l st Q hl hs p
  refine h io N H s l st _ hl hs ?_
  unfold mkM at p
  cases e : a l st with
  | ok ds st1 =>
    rw [e] at p
    intro io1 H1 vs e1 S1 r1 x dx hx hdx ne
    have h2 : (upd H1 dx (.own x)) x = none := by rw [upd_ne (Ne.symm ne)]; exact hx
    have S2 := (S1.new (u := .own x) hdx)
    have x2 : Ext io1 H1 io1 (upd H1 dx (.own x)) := Ext.new hdx
    have S3 := S2.fresh (u := .ins (He.ga K C) dx []) h2
    have S4 := S3.push (o := .ins C []) (S2.out h2) upd_same ⟨dx, [], rfl, rfl⟩
    have x4 : Ext io1 H1 (io1 ++ [x]) (upd (upd H1 dx (.own x)) x (.ins (He.ga K C) dx [])) := (x2.trans (Ext.new h2)).push hx
    refine ⟨by rw [List.length_cons, Reps.len r1, hn l st ds st1 e], io1 ++ [x], N, .ref st1.length :: ds, _, ⟨_, _, rfl, ⟨x, by rw [← S1.len, List.getElem?_concat_length], rfl⟩, Reps.mono x4 _ _ r1⟩, S4, ?_⟩
    have p2 := Post.step (e1.trans x4) p
    simp only [Rz.bind] at p2
    cases e2 : f (.ref st1.length :: ds) (st1 ++ [.ins C []]) with
    | ok d st2 =>
      rw [e2] at p2
      intro io3 H3 v e3 S5 r3
      cases d with
      | non =>
        refine ⟨r3, p2 io3 H3 _ e3 S5 ⟨x, ?_, rfl⟩⟩
        refine e3.idx ?_
        rw [← S1.len, List.getElem?_concat_length]
      | _ => exact p2.elim
    | exc c fs st2 => rw [e2] at p2; exact p2
    | fail => rw [e2] at p2; exact p2
  | exc c fs st1 => rw [e] at p; exact p
  | fail => rw [e] at p; exact p
theorem me_mk {C : Str} {n j : Nat} {f : FM} {e : Expr} {es : List Expr} {a : EM (List D)} {p : Pos} (c : Ctx X W k) (F : Mkn X.prog X.w X.K X.mg X.base C (n + 1) j f) (ha : MA X W (e :: es) a) (hn : argN n a) (hj : j + 1 ≤ k := by decide) (hg : Gl X C := by rfl) (hdb : (C == ("__debug__" : Str)) = false := by decide)
    (he : starEach (e :: es) X.env = (false, eval e X.env) :: starEach es X.env := by rfl) (hpl : (backTo pos (starEach es X.env)).any (·.1) = false := by rfl) : ME X W (.Call (.Name C p) (e :: es) [] pos) (mkM C f a) := by
  obtain ⟨fa, fd, ps, hl, M, fo, hb⟩ := F.ex
  obtain ⟨t, p1, q1⟩ := ha
  refine ⟨_, (⟨fun pins s σ H Q I h => ?_⟩ : PE X _ (tMakeS (He.ga X.K C) (spF X.K (n + 1) f) (WE W.w) t)), rg_mk q1 hn⟩
  refine wpAny_Call_Name_kw (ld_glob I hg F.g ?_ hdb)
  refine PySem.W.callWith_K (h₀ := X.base) I.ok.mod.kin M.kp (thn (p1.run pos pins s σ H _ I h) fun us s1 ⟨vs, H1, I1, r, q⟩ => ⟨I1.kIn, ?_⟩) he hpl
  exact run_makeS M fo (c.room.mono hj) hb (c.tk σ) I1 r q
theorem me_mk0 {C : Str} {j : Nat} {f : FM} {p : Pos} (c : Ctx X W k) (F : Mkn X.prog X.w X.K X.mg X.base C 1 j f) (hj : j + 1 ≤ k := by decide) (hg : Gl X C := by rfl) (hdb : (C == ("__debug__" : Str)) = false := by decide) : ME X W (.Call (.Name C p) [] [] pos) (mkM C f nilA) := by
  obtain ⟨fa, fd, ps, hl, M, fo, hb⟩ := F.ex
  refine ⟨_, (⟨fun pins s σ H Q I h => ?_⟩ : PE X _ (tMakeS (He.ga X.K C) (spF X.K (0 + 1) f) (WE W.w) tNil)), rg_mk (fun io N H s l st Q hl hs p => p io H [] (Ext.refl _ _) hs rfl) argN_nil⟩
  refine wpAny_Call_Name_kw (ld_glob I hg F.g ?_ hdb)
  exact PySem.W.callWith_K0 I.kIn M.kp (run_makeS (us := []) M fo (c.room.mono hj) hb (c.tk σ) I .nil h)

/-! ### __init__ of an exception -/
theorem init1_ok {P : Program} {w : World} {mg : Str → Option Value} {base : Heap} {x qual : Str} {params : Arguments} {body : List Stmt} {scope : Scope} {f : Addr} {fd : FuncData} {Ns ps : List Str} {j : Nat} {c fl : Str} (F : FunD K x qual params body scope [] [] f fd) (S : FnScope Ns ps scope) (hp : ps.length = 2)
    (h : ∀ (cdv : Value) (A : Around) (outer : List PySem.Env) (s : Shared) (H : Hp) (E : XK), PSs (cxOf (L2.CX P w) P w K mg base Ns qual scope f cdv A outer s H E) body (tOst K fl (tVar 0) (tVar 1))) : FnOk P w K mg base (L2.CX P w) (j + 1) f fd ps (spI1 K c fl) := by
  refine F.ok S (fun vs H Q E h => by obtain ⟨a, v, rfl, _⟩ := h; exact hp.symm) fun cdv A outer s H vs Q E hr hh => ?_
  obtain ⟨a, v, rfl, T, hno, ea, q⟩ := hh
  refine ⟨_, h cdv A outer s H E, ⟨v, rfl, .ref a, rfl, a, He.ga K c, rfl, T, hno, .inl ⟨ea, fun dx hd ne => ?_⟩⟩⟩
  exact q dx hd ne
theorem init2_ok {P : Program} {w : World} {mg : Str → Option Value} {base : Heap} {x qual : Str} {params : Arguments} {body : List Stmt} {scope : Scope} {f : Addr} {fd : FuncData} {Ns ps : List Str} {j : Nat} {c fl gl : Str} (F : FunD K x qual params body scope [] [] f fd) (S : FnScope Ns ps scope) (hp : ps.length = 3)
    (h : ∀ (cdv : Value) (A : Around) (outer : List PySem.Env) (s : Shared) (H : Hp) (E : XK), PSs (cxOf (L2.CX P w) P w K mg base Ns qual scope f cdv A outer s H E) body (tSeq (tOst K fl (tVar 0) (tVar 1)) (tOst K gl (tVar 0) (tVar 2)))) : FnOk P w K mg base (L2.CX P w) (j + 1) f fd ps (spI2 K c fl gl) := by
  refine F.ok S (fun vs H Q E h => by obtain ⟨a, v, u, rfl, _⟩ := h; exact hp.symm) fun cdv A outer s H vs Q E hr hh => ?_
  obtain ⟨a, v, u, rfl, T, hno, hno2, ea, q⟩ := hh
  refine ⟨_, h cdv A outer s H E, ⟨v, rfl, .ref a, rfl, a, He.ga K c, rfl, T, hno, .inl ⟨ea, fun dx hd ne => ?_⟩⟩⟩
  refine ⟨u, rfl, .ref a, rfl, a, He.ga K c, rfl, T, hno2, .inr ⟨dx, [(fl, v)], by rw [upd_same], by rw [upd_ne ne, upd_same], Nat.le_of_ble_eq_true rfl, ?_⟩⟩
  exact q dx hd ne
end
end Rf
namespace Rf
set_option autoImplicit false
open PySem PySem.Spec L2

section
variable {K : PySem.W.Frag} {X : Cx} {W : Wi} {pos : Pos} {k : Nat} {io N : List Addr} {H : Hp} {st : Store} {tg : Expr}
/-- a fresh list held by value -/
theorem post_fl {io N : List Addr} {H : Hp} {st : Store} {l : List D} {xs : List V} {Q : VK} {Y : XK} (p : Post K rD io N H (.ok (.fl l) st) Q Y) (S : RSt K io N H st) (r : Reps K io N H l xs) : ∀ a, H a = none → Q (.ref a) (upd H a (.lst xs)) := fun a ha =>
  p io _ _ (Ext.new ha) (S.new ha) ⟨a, xs, rfl, ⟨S.out ha, S.outN ha, upd_same⟩, r.mono (Ext.new ha)⟩
/-! ### + of numbers, texts, tuples, lists -/
def plusM (d e : D) (st : Store) : Rz D := match d, e with
  | .int i, .int j => .ok (.int (i + j)) st
  | .str x, .str y => if small (x.length + y.length) = true then .ok (.str (x ++ y)) st else .fail
  | .tup a, .tup b => if small (a.length + b.length) = true then .ok (.tup (a ++ b)) st else .fail
  | d, e => (match lofM d st, lofM e st with
    | some a, some b => if small (a.length + b.length) = true then .ok (.fl (a ++ b)) st else .fail
    | _, _ => .fail)
theorem opm_plus : OpM K (fun x y H Q => (rI0 (fun i j => .int (i + j)) x y H Q ∨ ((∃ i j, x = .str i ∧ y = .str j ∧ i.length + j.length ≤ sizeLine ∧ Q (.str (i ++ j)) H) ∨ rCatA K x y H Q)) ∨ rCat x y H Q) plusM := by
  intro io N H x y d e st Q Y S r1 r2 p
  by_cases hc : ∃ a b, lofM d st = some a ∧ lofM e st = some b
  · obtain ⟨a, b, ha, hb⟩ := hc
    have p : Post K rD io N H (if small (a.length + b.length) = true then .ok (.fl (a ++ b)) st else .fail) Q Y := by
      unfold plusM at p
      split at p
      · cases ha
      · cases ha
      · cases ha
      · rw [ha, hb] at p
        exact p
    obtain ⟨hs, p⟩ := post_if p
    obtain ⟨u, xs, rfl, c1, g1⟩ := lofM_ok S r1 ha
    obtain ⟨v, ys, rfl, c2, g2⟩ := lofM_ok S r2 hb
    exact .inr ⟨u, v, xs, ys, rfl, rfl, c1, c2, by rw [g1.len, g2.len]; exact small_ok hs, post_fl p S (g1.app g2)⟩
  · refine .inl (opm_add io N H x y d e st Q Y S r1 r2 ?_)
    unfold plusM at p
    unfold addM
    split at p
    · exact p
    · exact p
    · exact p
    · split at p
      · rename_i a b ha hb
        exact absurd ⟨a, b, ha, hb⟩ hc
      · exact p.elim
theorem me_plus {ea eb : Expr} {a b : EM D} (h1 : ME X W ea a) (h2 : ME X W eb b) : ME X W (.BinOp ea .Add eb pos) (b2 plusM a b) := me_op ((op_add.or (op_add_str.or op_catA)).or op_cat) opm_plus h1 h2
/-! ### * -/
def timesM (d e : D) (st : Store) : Rz D := match d, e with
  | .int i, .int j => if (-18446744073709551616 < i ∧ i < 18446744073709551616) ∨ (-18446744073709551616 < j ∧ j < 18446744073709551616) then .ok (.int (i * j)) st else .fail
  | .str x, .int i => if 0 ≤ i ∧ i ≤ 1000 ∧ x.length ≤ 1000 then .ok (.str (Txt.mul x i)) st else .fail
  | .tup l, .int i => if l ≠ [] ∧ 2 ≤ i ∧ i ≤ 1000 ∧ l.length ≤ 1000 then .ok (.tup (rep l i.toNat)) st else .fail
  | d, .int i => (match lofM d st with
    | some l => if 0 ≤ i ∧ i ≤ 1000 ∧ l.length ≤ 1000 then .ok (.fl (rep l i.toNat)) st else .fail
    | none => .fail)
  | _, _ => .fail
theorem Reps.rep {l : List D} {xs : List V} (r : Reps K io N H l xs) : ∀ n : Nat, Reps K io N H (rep l n) (List.replicate n xs).flatten
  | 0 => rfl
  | n + 1 => by
    show Reps K io N H (List.replicate (n + 1) l).flatten _
    rw [List.replicate_succ, List.replicate_succ, List.flatten_cons, List.flatten_cons]
    exact r.app (Reps.rep r n)
theorem opm_times : OpM K (fun x y H Q => (L2.rI CMul (fun i j => .int (i * j)) x y H Q ∨ ∃ z i, x = .str z ∧ y = .int i ∧ MulOk z i ∧ Q (.str (Txt.mul z i)) H) ∨ (rRepT K x y H Q ∨ rRep x y H Q)) timesM := by
  intro io N H x y d e st Q Y S r1 r2 p
  unfold timesM at p
  split at p
  · obtain ⟨hc, p⟩ := post_if p
    exact .inl (.inl ⟨_, _, r1, r2, hc, post_val p S rfl⟩)
  · obtain ⟨hc, p⟩ := post_if p
    exact .inl (.inr ⟨_, _, r1, r2, mulOk_small hc, post_val p S rfl⟩)
  · obtain ⟨hc, p⟩ := post_if p
    obtain ⟨a, xs, rfl, c, q⟩ := tup_ok r1
    refine .inr (.inl ⟨a, _, xs, rfl, r2, c, fun z => hc.1 ?_, hc.2.1, hc.2.2.1, by rw [q.len]; exact hc.2.2.2, fun b hb => p io _ _ (Ext.new hb) (S.new hb) ⟨b, _, rfl, .inl ⟨S.out hb, S.outN hb, upd_same⟩, (q.rep _).mono (Ext.new hb)⟩⟩)
    have := q.len
    rw [z] at this
    exact List.eq_nil_of_length_eq_zero this.symm
  · split at p
    · rename_i l hl
      obtain ⟨hc, p⟩ := post_if p
      obtain ⟨a, xs, rfl, c, q⟩ := lofM_ok S r1 hl
      refine .inr (.inr ⟨a, _, xs, rfl, r2, c, by omega, by omega, ?_, post_fl p S (q.rep _)⟩)
      rw [q.len]
      exact Nat.le_trans (Nat.mul_le_mul hc.2.2 (Int.toNat_le.mpr hc.2.1 : _ ≤ 1000)) (by rw [sizeLine_eq]; decide)
    · exact p.elim
  · exact p.elim
theorem me_times {ea eb : Expr} {a b : EM D} (h1 : ME X W ea a) (h2 : ME X W eb b) : ME X W (.BinOp ea .Mult eb pos) (b2 timesM a b) := me_op ((op_mul.or op_rpS).or (op_repT.or op_rep)) opm_times h1 h2
/-! ### slices -/
def sliceM (d : D) (i j : Option Int) (st : Store) : Rz D := match lof d st with
  | some l => .ok (.fl (cutD l i j)) st
  | none => slM d i j st
theorem me_slice {e : Expr} {lo hi : Option Expr} {a : EM D} {i j : EM (Option Int)} {p2 : Pos} (h : ME X W e a) (h1 : MO X W lo i) (h2 : MO X W hi j) : ME X W (.Subscript e (.Slice lo hi none p2) pos) (s3 sliceM a i j) := by
  obtain ⟨t, p, q⟩ := h
  obtain ⟨t1, p1, q1⟩ := h1
  obtain ⟨t2, p2, q2⟩ := h2
  refine ⟨_, pe_slice (sl_list.or (sl_str.or sl_tupA)) p p1 p2, fun io N H s l st Q hl hs p => ?_⟩
  refine q.seq hl hs p fun io1 H1 d v st1 e1 S1 r1 p => q1.seq (hl.mono e1) S1 p fun io2 H2 x x' st2 e2 S2 r2 p => q2.seq ((hl.mono e1).mono e2) S2 p fun io3 H3 y y' st3 e3 S3 r3 p => ?_
  obtain rfl : x = x' := r2
  obtain rfl : y = y' := r3
  have r := (r1.mono e2).mono e3
  unfold sliceM at p
  split at p
  · rename_i L hL
    obtain ⟨b, xs, rfl, c, qq⟩ := lof_ok S3 r hL
    exact .inl ⟨b, xs, rfl, c, post_fl p S3 (qq.cut x y)⟩
  · unfold slM at p
    cases d with
    | str z =>
      obtain ⟨hc, p⟩ := post_if p
      exact .inr (.inl ⟨_, r, small_ok hc, post_val p S3 rfl⟩)
    | tup L =>
      obtain ⟨b, xs, rfl, c, qq⟩ := tup_ok r
      refine .inr (.inr ⟨b, xs, rfl, c, fun hw => ?_, fun hw a ha => ?_⟩)
      · have e : cutD L x y = L := by
          unfold cutD
          rw [qq.len] at hw
          rw [hw.1, hw.2, List.drop_zero, Nat.sub_zero, List.take_length]
        refine post_val (d := .tup (cutD L x y)) p S3 ?_
        rw [e]
        exact r
      · exact p io3 _ _ (Ext.new ha) (S3.new ha) ⟨a, _, rfl, .inl ⟨S3.out ha, S3.outN ha, upd_same⟩, (qq.cut x y).mono (Ext.new ha)⟩
    | _ => exact p.elim
/-! ### a < b < c -/
def chM (f g : D → D → Store → Rz D) (a b c : EM D) : EM D := fun l st => (a l st).bind fun x st1 => (b l st1).bind fun y st2 => (f x y st2).bind fun z st3 => match z with
  | .bl true => (c l st3).bind fun w st4 => g y w st4
  | .bl false => .ok (.bl false) st3
  | _ => .fail
theorem rg_chain {r r' : R2} {f g : D → D → Store → Rz D} {ta tb tc : TE} {a b c : EM D} (hf : OpM K r f) (hg : OpM K r' g) (h1 : RG K rD W ta a) (h2 : RG K rD W tb b) (h3 : RG K rD W tc c) (hx : ∀ x y st, f x y st = .fail ∨ ∃ b, f x y st = .ok (.bl b) st) : RG K rD W (tChain r r' ta tb tc) (chM f g a b c) := by
  intro io N H s l st Q hl hs p
  refine h1.seq hl hs p fun io1 H1 x v st1 e1 S1 r1 p => h2.seq (hl.mono e1) S1 p fun io2 H2 y w st2 e2 S2 r2 p => ?_
  rcases hx x y st2 with hx | ⟨bb, hx⟩
  · rw [hx] at p; exact p.elim
  rw [hx] at p
  refine hf io2 N H2 v w x y st2 _ (fun _ _ _ => False) S2 (r1.mono e2) r2 ?_
  rw [hx]
  intro io3 H3 z e3 S3 r3
  refine ⟨bb, r3, ?_⟩
  cases bb with
  | false => exact p io3 H3 _ e3 S3 rfl
  | true =>
    rw [if_pos rfl]
    have p := Post.step e3 p
    refine h3.seq (((hl.mono e1).mono e2).mono e3) S3 p fun io4 H4 u u' st4 e4 S4 r4 p => ?_
    exact hg io4 N H4 w u' y u st4 Q _ S4 ((r2.mono e3).mono e4) r4 p
theorem cmp_bl {g : Int → Int → Bool} : ∀ x y st, cmpM g x y st = .fail ∨ ∃ b, cmpM g x y st = .ok (.bl b) st := by
  intro x y st
  unfold cmpM
  split
  · exact .inr ⟨_, rfl⟩
  · exact .inl rfl
theorem eq_bl : ∀ x y st, eqM x y st = .fail ∨ ∃ b, eqM x y st = .ok (.bl b) st := by
  intro x y st
  unfold eqM
  split
  · exact .inr ⟨_, rfl⟩
  · exact .inl rfl
theorem me_chain {op op' : CmpOp} {r r' : R2} {f g : D → D → Store → Rz D} {ea eb ec : Expr} {a b c : EM D} (ho : OpR X (compareOp op) r) (ho' : OpR X (compareOp op') r') (hf : OpM X.K r f) (hg : OpM X.K r' g) (hx : ∀ x y st, f x y st = .fail ∨ ∃ b, f x y st = .ok (.bl b) st) (h1 : ME X W ea a) (h2 : ME X W eb b) (h3 : ME X W ec c)
    (hm : lastMarks [op, op'] [eb, ec] = false := by with_unfolding_all rfl) : ME X W (.Compare ea [op, op'] [eb, ec] pos) (chM f g a b c) := by
  obtain ⟨t1, p1, q1⟩ := h1
  obtain ⟨t2, p2, q2⟩ := h2
  obtain ⟨t3, p3, q3⟩ := h3
  exact ⟨_, pe_chain ho ho' p1 p2 p3 hm, rg_chain hf hg q1 q2 q3 hx⟩
theorem mt_chain {op op' : CmpOp} {r r' : R2} {f g : D → D → Store → Rz D} {ea eb ec : Expr} {a b c : EM D} (ho : OpR X (compareOp op) r) (ho' : OpR X (compareOp op') r') (hf : OpM X.K r f) (hg : OpM X.K r' g) (hx : ∀ x y st, f x y st = .fail ∨ ∃ b, f x y st = .ok (.bl b) st) (h1 : ME X W ea a) (h2 : ME X W eb b) (h3 : ME X W ec c)
    (hm : lastMarks [op, op'] [eb, ec] = false := by with_unfolding_all rfl) : MT X W (.Compare ea [op, op'] [eb, ec] pos) (tst (chM f g a b c)) := by
  obtain ⟨t1, p1, q1⟩ := h1
  obtain ⟨t2, p2, q2⟩ := h2
  obtain ⟨t3, p3, q3⟩ := h3
  exact ⟨_, pt_chain ho ho' p1 p2 p3 hm, rg_tst (rg_chain hf hg q1 q2 q3 hx)⟩
/-! ### walking a list, a tuple, a text -/
def signsD (x : Str) : List D := x.cps.toList.map fun c => .str ⟨#[c]⟩
def itA (a : EM D) : EM Src := fun l st => (a l st).bind fun d st1 => match d with
  | .tup ds => .ok ⟨ds, none⟩ st1
  | .str x => .ok ⟨signsD x, none⟩ st1
  | d => (match lof d st1 with
    | some ds => .ok (srcL d ds) st1
    | none => .fail)
theorem pi_or {tg e : Expr} {t t' : TI} (h : PI X tg e t) (h' : PI X tg e t') : PI X tg e (fun s H R => t s H R ∨ t' s H R) := ⟨fun pins s σ H R I q => by
  rcases q with q | q
  · exact h.run pins s σ H R I q
  · exact h'.run pins s σ H R I q⟩
theorem rg_itL {a : EM D} {t : TE} (q : RG K rD W t a) : RG K rI W (iList K t) (itL a) := fun io N H s l st Q hl hs p => by
  refine q.seq hl hs p fun io1 H1 d v st1 e1 S1 r1 p1 => ?_
  cases hh : lof d st1 with
  | none => rw [hh] at p1; exact p1.elim
  | some ds =>
    rw [hh] at p1
    obtain ⟨a, rfl, stays⟩ := lof_stays S1 r1 hh
    obtain ⟨a', xs0, e0, c0, _⟩ := lof_ok S1 r1 hh
    cases e0
    refine ⟨a, rfl, ⟨xs0, c0⟩, p1 io1 H1 _ (Ext.refl _ _) S1 fun io' M H' st' hm ex S' c i => ?_⟩
    obtain ⟨xs, c1, rr⟩ := stays io' M H' st' hm ex S' c
    rw [srcL_items]
    refine ⟨fun hi => ⟨⟨xs, xs[i]'(by rw [rr.len]; exact hi), c1, List.getElem?_eq_getElem _⟩, fun x H2 y => ?_⟩, fun hi => ⟨xs, c1, by rw [rr.len]; exact Nat.le_of_eq hi.symm⟩⟩
    obtain ⟨rfl, y⟩ := y
    obtain ⟨d', e', r'⟩ := rr.get' (y xs c1)
    exact ⟨d', e', r', Ext.refl _ _, S'⟩
theorem rg_itT {a : EM D} {t : TE} (q : RG K rD W t a) : RG K rI W (iTup K t) (itT a) := fun io N H s l st Q hl hs p => by
  refine q.seq hl hs p fun io1 H1 d v st1 e1 S1 r1 p1 => ?_
  cases d with
  | tup ds =>
    obtain ⟨a, xs0, rfl, c0, _⟩ := tup_ok r1
    refine ⟨a, rfl, ⟨xs0, c0⟩, p1 io1 H1 _ (Ext.refl _ _) S1 fun io' M H' st' hm ex S' c i => ?_⟩
    obtain ⟨a', xs, e0, c1, rr⟩ := tup_ok ((r1.shuns M hm).mono ex)
    cases e0
    refine ⟨fun hi => ⟨⟨xs, xs[i]'(by rw [rr.len]; exact hi), c1, List.getElem?_eq_getElem _⟩, fun x H2 y => ?_⟩, fun hi => ⟨xs, c1, by rw [rr.len]; exact Nat.le_of_eq hi.symm⟩⟩
    obtain ⟨rfl, y⟩ := y
    obtain ⟨d', e', r'⟩ := rr.get' (y xs c1)
    exact ⟨d', e', r', Ext.refl _ _, S'⟩
  | _ => exact p1.elim
def itS (a : EM D) : EM Src := fun l st => (a l st).bind fun d st1 => match d with
  | .str x => .ok ⟨signsD x, none⟩ st1
  | _ => .fail
theorem rg_itS {a : EM D} {t : TE} (q : RG K rD W t a) : RG K rI W (iStr t) (itS a) := fun io N H s l st Q hl hs p => by
  refine q.seq hl hs p fun io1 H1 d v st1 e1 S1 r1 p1 => ?_
  cases d with
  | str x =>
    refine ⟨x, r1, p1 io1 H1 _ (Ext.refl _ _) S1 fun io' M H' st' hm ex S' c i => ?_⟩
    have hn : (signsD x).length = x.cps.size := by simp [signsD]
    refine ⟨fun hi => ⟨(show i < x.cps.size from by rw [← hn]; exact hi), fun y H2 yy => ?_⟩, fun hi => (show x.cps.size ≤ i from by rw [hi]; exact Nat.le_of_eq hn.symm)⟩
    obtain ⟨rfl, c, e, rfl⟩ := yy
    refine ⟨.str ⟨#[c]⟩, ?_, rfl, Ext.refl _ _, S'⟩
    show (signsD x)[i]? = _
    unfold signsD
    rw [List.getElem?_map, Array.getElem?_toList, e]
    rfl
  | _ => exact p1.elim
theorem mi_any {e : Expr} {a : EM D} (h : ME X W e a) : MI X W tg e (itA a) := by
  obtain ⟨t, p, q⟩ := h
  refine ⟨_, pi_or (pi_list p) (pi_or (pi_tup p) (pi_str p)), fun io N H s l st Q hl hs pp => ?_⟩
  unfold itA at pp
  by_cases h1 : ∃ ds st1, a l st = .ok (.tup ds) st1
  · obtain ⟨ds, st1, e⟩ := h1
    refine .inr (.inl (rg_itT q io N H s l st Q hl hs ?_))
    unfold itT
    rw [e] at pp ⊢
    exact pp
  by_cases h2 : ∃ x st1, a l st = .ok (.str x) st1
  · obtain ⟨x, st1, e⟩ := h2
    refine .inr (.inr (rg_itS q io N H s l st Q hl hs ?_))
    unfold itS
    rw [e] at pp ⊢
    exact pp
  refine .inl (rg_itL q io N H s l st Q hl hs ?_)
  unfold itL
  cases e : a l st with
  | ok d st1 =>
    rw [e] at pp
    cases d with
    | tup ds => exact absurd ⟨ds, st1, e⟩ h1
    | str x => exact absurd ⟨x, st1, e⟩ h2
    | _ => exact pp
  | exc c fs st1 => rw [e] at pp; exact pp
  | fail => rw [e] at pp; exact pp
end
end Rf
namespace Rf
set_option autoImplicit false
open PySem PySem.Spec L2

/-! ### what the top says, wider -/
inductive Fx where
  | oex (c : Str)
  | xf (c : Str)
  | tup (x : Str) (vs : List He.Dv)
def oexB (K : PySem.W.Frag) (C : Addr) : Bool := (match K.lookup C with
  | some ⟨.type t, _, .cls cd, sl⟩ => decide (t = "type") && (match cd.mro, sl.toList with
    | .ref a :: bm, [_, _, _, _, some (.builtin n), _] => decide (a = C) && (decide (n = "ValueError.__new__") && (!cd.hasDel && (cd.hasDict && PySem.HandSPX.refsVE bm)))
    | _, _ => false)
  | _ => false) && (decide (PySem.W.findIn K (.ref C) "__setattr__" = some (some (.builtin "object.__setattr__"))) && (decide (PySem.W.subIn K (.ref C) (.type "BaseException") = some true) &&
    (decide (PySem.W.typeIn K (.ref C) = some (.type "type")) && PySem.W.keepIn K (.ref C))))
theorem oexB_ok {K : PySem.W.Frag} {C : Addr} (h : oexB K C = true) : OexC K C := by
  unfold oexB at h
  simp only [Bool.and_eq_true, decide_eq_true_eq] at h
  obtain ⟨h1, h2, h3, h4, h5⟩ := h
  refine ⟨?_, h2, h3, h4, h5⟩
  split at h1
  · rename_i t dd cd sl e
    simp only [Bool.and_eq_true, decide_eq_true_eq] at h1
    obtain ⟨rfl, h1⟩ := h1
    split at h1
    · rename_i a bm k0 k1 k2 k3 n k5 e1 e2
      simp only [Bool.and_eq_true, decide_eq_true_eq, Bool.not_eq_true'] at h1
      obtain ⟨rfl, rfl, d1, d2, d3⟩ := h1
      cases cd with
      | mk nm bs mro ns q hd sn sub ab col del =>
        simp only at e1 d1 d2
        subst e1 d1 d2
        cases sl with
        | mk l =>
          simp only at e2
          subst e2
          exact ⟨nm, q, ns, bs, bm, sn, sub, ab, col, dd, k0, k1, k2, k3, k5, e, d3⟩
    · cases h1
  · cases h1
def Fx.ok (K : PySem.W.Frag) : Fx → Bool
  | .oex c => oexB K (He.ga K c)
  | .xf c => xfB K (He.ga K c)
  | .tup x vs => He.tupB K x vs
abbrev AlR : Type := Bool × He.AlD
def obsR (fa : List He.Fa) (fx : List Fx) (fn : List He.DefD) (K : PySem.W.Frag) : AlR := (fx.all fun f => f.ok K, He.obsD fa fn K)
def valR (fn : List He.DefD) : AlR := (true, He.valD fn)
def SaysR (fa : List He.Fa) (fx : List Fx) (fn : List He.DefD) (K : PySem.W.Frag) : Prop := obsR fa fx fn K = valR fn
def obsRG (n : Nat) (fa : List He.Fa) (fx : List Fx) (fn : List He.DefD) (g : Addr → Option Obj) : AlR := obsR fa fx fn (He.frG g (He.asD g n))
def hookR (n : Nat) (fa : List He.Fa) (fx : List Fx) (fn : List He.DefD) : PySem.W.Hook where
  α := AlR
  obs := fun s => obsRG n fa fx fn s.heap.get?
  val := fun _ => valR fn
  says := fun _ h => ∃ K : PySem.W.Frag, K.In h ∧ SaysR fa fx fn K
  of := fun _ _ e => ⟨_, He.frG_in, e⟩
  keeps := fun _ _ _ ⟨K, hK, c⟩ k => ⟨K, PySem.W.Frag.In.keeps hK k, c⟩
theorem obsRG_eq {n : Nat} {fa : List He.Fa} {fx : List Fx} {fn : List He.DefD} {g : Addr → Option Obj} {s : Shared} (h : ∀ a, g a = s.heap.get? a) : obsRG n fa fx fn g = (hookR n fa fx fn).obs s := by
  have e : g = s.heap.get? := funext h
  rw [e] <;> rfl
/-- what holds of the written part and the module's names -/
structure Tp (fa : List He.Fa) (fx : List Fx) (fn : List He.DefD) (K : PySem.W.Frag) (mg : Str → Option Value) : Prop where
  c : SaysR fa fx fn K
  g : ∃ h : Heap, K.In h ∧ h.Ns mainGlobals mg
section
variable {fa : List He.Fa} {fx : List Fx} {fn : List He.DefD} {K : PySem.W.Frag} {mg : Str → Option Value}
theorem Tp.d (T : Tp fa fx fn K mg) : He.SaysD fa fn K := congrArg (fun z : AlR => z.2) T.c
theorem Tp.glo (T : Tp fa fx fn K mg) (i : Nat) {x : Str} (h : fa[i]? = some (.glo x) := by rfl) : mg x = some (.ref (He.ga K x)) := by
  obtain ⟨h0, X, G⟩ := T.g
  exact He.glo_ok X G (T.d.fact i h)
theorem Tp.free (T : Tp fa fx fn K mg) (i : Nat) {x : Str} (h : fa[i]? = some (.free x) := by rfl) : mg x = none := by
  obtain ⟨h0, X, G⟩ := T.g
  exact He.free_ok X G (T.d.fact i h)
theorem Tp.int (T : Tp fa fx fn K mg) (i : Nat) {x : Str} {n : Int} (h : fa[i]? = some (.int x n) := by rfl) : ∃ t, mg x = some (.int n t) := by
  obtain ⟨h0, X, G⟩ := T.g
  exact He.int_ok X G (T.d.fact i h)
theorem Tp.str (T : Tp fa fx fn K mg) (i : Nat) {x z : Str} (h : fa[i]? = some (.str x z) := by rfl) : ∃ t, mg x = some (.str z t) := by
  obtain ⟨h0, X, G⟩ := T.g
  exact He.str_ok X G (T.d.fact i h)
theorem Tp.cls (T : Tp fa fx fn K mg) (i : Nat) {x : Str} (h : fa[i]? = some (.cls x) := by rfl) : Cls K (He.ga K x) := He.cls_ok (T.d.fact i h)
theorem Tp.noat (T : Tp fa fx fn K mg) (i : Nat) {x f : Str} (h : fa[i]? = some (.noat x f) := by rfl) : NoAttr K (He.ga K x) f := He.noat_ok (T.d.fact i h)
theorem Tp.meth (T : Tp fa fx fn K mg) (i : Nat) {x m : Str} (h : fa[i]? = some (.meth x m) := by rfl) : Meth K (He.ga K x) m (He.ma K (He.ga K x) m) := He.meth_ok (T.d.fact i h)
theorem Tp.mkr (T : Tp fa fx fn K mg) (i : Nat) {x : Str} (h : fa[i]? = some (.mkr x) := by rfl) : Mk K (He.ga K x) (He.ma K (He.ga K x) "__init__") := He.mkr_ok (T.d.fact i h)
theorem Tp.exm (T : Tp fa fx fn K mg) (i : Nat) {x y : Str} {b : Bool} (h : fa[i]? = some (.exm x y b) := by rfl) : PySem.W.exmOne K (.ref (He.ga K x)) (.ref (He.ga K y)) = some b := He.exm_ok (T.d.fact i h)
theorem Tp.exc0 (T : Tp fa fx fn K mg) (i j : Nat) {x : Str} (h : fa[i]? = some (.exc x) := by rfl) (h2 : fa[j]? = some (.glo x) := by rfl) : Exc0 K mg x := by
  obtain ⟨a, b, c, d⟩ := He.exc_ok (T.d.fact i h)
  exact ⟨a, T.glo j h2, b, c, d⟩
theorem Tp.fact2 (T : Tp fa fx fn K mg) (i : Nat) {f : Fx} (h : fx[i]? = some f) : f.ok K = true :=
  List.all_eq_true.mp (show (fx.all fun f => f.ok K) = true from congrArg (fun z : AlR => z.1) T.c) f (List.mem_of_getElem? h)
theorem Tp.oex (T : Tp fa fx fn K mg) (i : Nat) {c : Str} (h : fx[i]? = some (.oex c) := by rfl) : OexC K (He.ga K c) := oexB_ok (T.fact2 i h)
theorem Tp.xf (T : Tp fa fx fn K mg) (i : Nat) {c : Str} (h : fx[i]? = some (.xf c) := by rfl) : XfC K (He.ga K c) := xfB_ok (T.fact2 i h)
theorem Tp.tup (T : Tp fa fx fn K mg) (i : Nat) {x : Str} {vs : List He.Dv} (h : fx[i]? = some (.tup x vs) := by rfl) (H : Hp) : SqT K H (He.ga K x) (vs.map (He.Dv.v K)) := He.tupB_ok (T.fact2 i h) H
theorem Tp.def_ (T : Tp fa fx fn K mg) (i : Nat) {d : He.DefD} (h : fn[i]? = some d := by rfl) : ∃ fd, FunD K d.name d.qual d.params d.body d.scope (d.dvs K) (d.kws K) (He.fAd K d.at_) fd := T.d.def_ i h
end
/-- a class's own statements -/
def clsB : Stmt → List Stmt
  | .ClassDef (body := b) .. => b
  | _ => []
/-- nothing is known of this end -/
theorem mss_fail {X : Cx} {W : Wi} {b : List Stmt} : MSs X W b (fun _ _ => .fail) :=
  ⟨fun _ _ _ => False, ⟨fun _ _ _ _ _ _ h => h.elim⟩, fun io N H s l st D hl hs p => p.elim⟩
/-- a def is one of the module's -/
theorem Dfn.mk1 {P : Program} {w : World} {K : PySem.W.Frag} {mg : Str → Option Value} {base : Heap} {x : Str} {n k : Nat} {m : FM} {f : Addr} {fd : FuncData} {ps : List Str} (hl : ps.length = n) (F : FnOk P w K mg base (L2.CX P w) k f fd ps (spF K ps.length m)) (g : mg x = some (.ref f)) (kp : PySem.W.keepIn K (.ref f) = true) (b : Binds K fd ps []) : Dfn P w K mg base x n k m := by
  subst hl
  exact ⟨f, fd, ps, rfl, F, g, kp, b⟩
theorem Mfn.mk1 {P : Program} {w : World} {K : PySem.W.Frag} {mg : Str → Option Value} {base : Heap} {C x : Str} {n k : Nat} {m : FM} {f : Addr} {fd : FuncData} {ps : List Str} (hl : ps.length = n) (c : Cls K (He.ga K C)) (F : FnOk P w K mg base (L2.CX P w) k f fd ps (spF K ps.length m)) (g : Meth K (He.ga K C) x f) (b : Binds K fd ps []) : Mfn P w K mg base C x n k m := by
  subst hl
  exact ⟨c, f, fd, ps, rfl, F, g, b⟩
theorem Mkn.mk1 {P : Program} {w : World} {K : PySem.W.Frag} {mg : Str → Option Value} {base : Heap} {C : Str} {n k : Nat} {m : FM} {f : Addr} {fd : FuncData} {ps : List Str} (hl : ps.length = n) (g : mg C = some (.ref (He.ga K C))) (M : Mk K (He.ga K C) f) (F : FnOk P w K mg base (L2.CX P w) k f fd ps (spF K ps.length m)) (b : Binds K fd ps []) : Mkn P w K mg base C n k m := by
  subst hl
  exact ⟨g, f, fd, ps, rfl, M, F, b⟩
theorem bt_len : bootBuiltins "len" = some (.builtin "len") := by decide +kernel
theorem bt_max : bootBuiltins "max" = some (.builtin "max") := by decide +kernel
theorem bt_min : bootBuiltins "min" = some (.builtin "min") := by decide +kernel
theorem bt_abs : bootBuiltins "abs" = some (.builtin "abs") := by decide +kernel
theorem bt_int : bootBuiltins "int" = some (.type "int") := by decide +kernel
theorem bt_str : bootBuiltins "str" = some (.type "str") := by decide +kernel
theorem bt_bool : bootBuiltins "bool" = some (.type "bool") := by decide +kernel
theorem bt_list : bootBuiltins "list" = some (.type "list") := by decide +kernel
theorem bt_tuple : bootBuiltins "tuple" = some (.type "tuple") := by decide +kernel
theorem bt_dict : bootBuiltins "dict" = some (.type "dict") := by decide +kernel
theorem bt_set : bootBuiltins "set" = some (.type "set") := by decide +kernel
theorem bt_sum : bootBuiltins "sum" = some (.builtin "sum") := by decide +kernel
theorem bt_all : bootBuiltins "all" = some (.builtin "all") := by decide +kernel
theorem bt_any : bootBuiltins "any" = some (.builtin "any") := by decide +kernel
theorem bt_sorted : bootBuiltins "sorted" = some (.builtin "sorted") := by decide +kernel
theorem un64 {X : Cx} {W : Wi} {k : Nat} (c : Ctx X W k) : X.A.units + 64 < cLine := by have := c.room.un; omega
theorem un65 {X : Cx} {W : Wi} {k : Nat} (c : Ctx X W k) : X.A.units + 65 < cLine := by have := c.room.un; omega
/-- - a number -/
def negM (a : EM D) : EM D := fun l st => (a l st).bind fun d st1 => match d with
  | .int i => .ok (.int (-i)) st1
  | _ => .fail
theorem me_neg {X : Cx} {W : Wi} {e : Expr} {a : EM D} {pos : Pos} (h : ME X W e a) : ME X W (.UnaryOp .USub e pos) (negM a) := by
  obtain ⟨t, p, q⟩ := h
  refine ⟨_, pe_un un_neg p, fun io N H s l st Q hl hs p => ?_⟩
  refine q.seq hl hs p fun io1 H1 d v st1 e1 S1 r1 p1 => ?_
  cases d with
  | int i => exact ⟨i, r1, post_val p1 S1 rfl⟩
  | _ => exact p1.elim
/-- nothing leaves the def: what may be let out does not matter -/
theorem fn_closed {P : Program} {w : World} {K : PySem.W.Frag} {mg : Str → Option Value} {base : Heap} {k : Nat} {f : Addr} {fd : FuncData} {ps : List Str} {sp : Sp} (F : FnOk P w K mg base (L2.CX P w) k f fd ps sp) : FnOk P w K mg base (fun _ _ _ _ _ _ => False) k f fd ps (fun vs H Q _ => sp vs H Q fun _ _ _ => False) :=
  ⟨fun vs H Q _ h => F.len vs H Q _ h, fun A outer s H args us vs Q E hr e b r h => codeAny_mono (F.run A outer s H args us vs Q (fun _ _ _ => False) hr e b r h) fun r s' hq => by
    cases r with
    | error e =>
      obtain ⟨_, _, _, _, _, _, _, _, _, _, _, _, z⟩ := hq
      exact z.elim
    | ok fl => cases fl <;> exact hq⟩
end Rf
namespace Rf
set_option autoImplicit false
open PySem L2

/-! ### what a mirror comes to: step by step, nothing is looked at before its turn -/
section
variable {A B : Type}
@[simp] theorem bind_ok (a : A) (st : Store) (k : A → Store → Rz B) : (Rz.ok a st).bind k = k a st := rfl
@[simp] theorem bind_exc (c : Str) (fs : List (Str × D)) (st : Store) (k : A → Store → Rz B) : (Rz.exc c fs st).bind k = .exc c fs st := rfl
@[simp] theorem toS_ok (a : A) (st : Store) (l : Sl) (k : A → Store → Sz) : (Rz.ok a st).toS l k = k a st := rfl
@[simp] theorem toS_exc (c : Str) (fs : List (Str × D)) (st : Store) (l : Sl) (k : A → Store → Sz) : (Rz.exc c fs st : Rz A).toS l k = .exc c fs l st := rfl
@[simp] theorem nox_ok (a : A) (st : Store) : (Rz.ok a st).nox = .ok a st := rfl
end
section
variable (l : Sl) (st : Store) (a b c : EM D) (r : EM (List D))
/-- names -/
def vrK (o : Option (Option D)) (st : Store) : Rz D := match o with
  | some (some d) => .ok d st
  | _ => .fail
@[simp] theorem vr_s (i : Nat) : vr i l st = vrK l[i]? st := by unfold vr vrK; rfl
@[simp] theorem vrK_s (d : D) : vrK (some (some d)) st = .ok d st := rfl
@[simp] theorem cst_s (d : D) : cst d l st = .ok d st := rfl
/-- argument lists -/
def consK (r : EM (List D)) (l : Sl) (d : D) (st : Store) : Rz (List D) := (r l st).bind fun ds st2 => .ok (d :: ds) st2
@[simp] theorem nilA_s : nilA l st = .ok [] st := rfl
@[simp] theorem consA_s : consA a r l st = (a l st).bind (consK r l) := rfl
def consJ (d : D) (ds : List D) (st : Store) : Rz (List D) := .ok (d :: ds) st
@[simp] theorem consK_s (d : D) : consK r l d st = (r l st).bind (consJ d) := rfl
@[simp] theorem consJ_s (d : D) (ds : List D) : consJ d ds st = .ok (d :: ds) st := rfl
def dispK (ds : List D) (st : Store) : Rz (List D) := if small ds.length = true then .ok ds st else .fail
@[simp] theorem disp_s : disp r l st = (r l st).bind dispK := rfl
theorem dispK_ok {ds : List D} (h : ds.length ≤ 1000000) : dispK ds st = .ok ds st := if_pos (Nat.ble_eq_true_of_le h)
@[simp] theorem dispK_0 : dispK [] st = .ok [] st := rfl
@[simp] theorem dispK_1 (a : D) : dispK [a] st = .ok [a] st := rfl
@[simp] theorem dispK_2 (a b : D) : dispK [a, b] st = .ok [a, b] st := rfl
@[simp] theorem dispK_3 (a b c : D) : dispK [a, b, c] st = .ok [a, b, c] st := rfl
@[simp] theorem dispK_4 (a b c d : D) : dispK [a, b, c, d] st = .ok [a, b, c, d] st := rfl
@[simp] theorem dispK_13 (a b c d e f g h i j k m n : D) : dispK [a, b, c, d, e, f, g, h, i, j, k, m, n] st = .ok [a, b, c, d, e, f, g, h, i, j, k, m, n] st := rfl
def tupK (ds : List D) (st : Store) : Rz D := .ok (.tup ds) st
@[simp] theorem tupM_s : tupM r l st = (disp r l st).bind tupK := rfl
@[simp] theorem tupK_s (ds : List D) : tupK ds st = .ok (.tup ds) st := rfl
def flK (ds : List D) (st : Store) : Rz D := .ok (.fl ds) st
@[simp] theorem fz_s : fz r l st = (r l st).bind flK := rfl
@[simp] theorem flK_s (ds : List D) : flK ds st = .ok (.fl ds) st := rfl
def alK (ds : List D) (st : Store) : Rz D := .ok (.ref st.length) (st ++ [.lst ds])
@[simp] theorem al_s : al r l st = (r l st).bind alK := rfl
@[simp] theorem alK_s (ds : List D) : alK ds st = .ok (.ref st.length) (st ++ [.lst ds]) := rfl
/-- operators -/
def b2K {A : Type} (f : D → D → Store → Rz A) (b : EM D) (l : Sl) (d : D) (st : Store) : Rz A := (b l st).bind (f d)
@[simp] theorem b2_s {A : Type} (f : D → D → Store → Rz A) : b2 f a b l st = (a l st).bind (b2K f b l) := rfl
@[simp] theorem b2K_s {A : Type} (f : D → D → Store → Rz A) (d : D) : b2K f b l d st = (b l st).bind (f d) := rfl
def tstK (d : D) (st : Store) : Rz Bool := match d with
  | .bl b => .ok b st
  | _ => .fail
@[simp] theorem tst_s : tst a l st = (a l st).bind tstK := rfl
@[simp] theorem tstK_s (k : Bool) : tstK (.bl k) st = .ok k st := rfl
variable (p q : EM Bool)
def andK (b : EM Bool) (l : Sl) (c : Bool) (st1 : Store) : Rz Bool := if c = true then b l st1 else .ok false st1
@[simp] theorem andT_s : andT p q l st = (p l st).bind (andK q l) := rfl
@[simp] theorem andK_t : andK q l true st = q l st := rfl
@[simp] theorem andK_f : andK q l false st = .ok false st := rfl
def orK (b : EM Bool) (l : Sl) (c : Bool) (st1 : Store) : Rz Bool := if c = true then .ok true st1 else b l st1
@[simp] theorem orT_s : orT p q l st = (p l st).bind (orK q l) := rfl
@[simp] theorem orK_t : orK q l true st = .ok true st := rfl
@[simp] theorem orK_f : orK q l false st = q l st := rfl
def notK (c : Bool) (st : Store) : Rz Bool := .ok (!c) st
@[simp] theorem notT_s : notT p l st = (p l st).bind notK := rfl
@[simp] theorem notK_s (c : Bool) : notK c st = .ok (!c) st := rfl
def andVK (b : EM D) (l : Sl) (d : D) (st1 : Store) : Rz D := match d with
  | .bl true => b l st1
  | .bl false => .ok (.bl false) st1
  | _ => .fail
@[simp] theorem andV_s : andV a b l st = (a l st).bind (andVK b l) := rfl
@[simp] theorem andVK_t : andVK b l (.bl true) st = b l st := rfl
@[simp] theorem andVK_f : andVK b l (.bl false) st = .ok (.bl false) st := rfl
def orVK (b : EM D) (l : Sl) (d : D) (st1 : Store) : Rz D := match d with
  | .bl true => .ok (.bl true) st1
  | .bl false => b l st1
  | _ => .fail
@[simp] theorem orV_s : orV a b l st = (a l st).bind (orVK b l) := rfl
@[simp] theorem orVK_t : orVK b l (.bl true) st = .ok (.bl true) st := rfl
@[simp] theorem orVK_f : orVK b l (.bl false) st = b l st := rfl
def notVK (d : D) (st1 : Store) : Rz D := match d with
  | .bl c => .ok (.bl (!c)) st1
  | _ => .fail
@[simp] theorem notV_s : notV a l st = (a l st).bind notVK := rfl
@[simp] theorem notVK_s (c : Bool) : notVK (.bl c) st = .ok (.bl (!c)) st := rfl
def ifMK {A : Type} (a b : EM A) (l : Sl) (k : Bool) (st1 : Store) : Rz A := if k = true then a l st1 else b l st1
@[simp] theorem ifM_s {A : Type} (a b : EM A) : ifM p a b l st = (p l st).bind (ifMK a b l) := rfl
@[simp] theorem ifMK_t {A : Type} (a b : EM A) : ifMK a b l true st = a l st := rfl
@[simp] theorem ifMK_f {A : Type} (a b : EM A) : ifMK a b l false st = b l st := rfl
/-- slices -/
@[simp] theorem noO_s : noO l st = .ok none st := rfl
def onK (d : D) (st : Store) : Rz (Option Int) := match d with
  | .int i => .ok (some i) st
  | _ => .fail
@[simp] theorem onO_s : onO a l st = (a l st).bind onK := rfl
@[simp] theorem onK_s (i : Int) : onK (.int i) st = .ok (some i) st := rfl
variable (i j : EM (Option Int))
def s3K {A : Type} (f : D → Option Int → Option Int → Store → Rz A) (i j : EM (Option Int)) (l : Sl) (d : D) (st : Store) : Rz A := (i l st).bind fun x st2 => (j l st2).bind (f d x)
def s3J {A : Type} (f : D → Option Int → Option Int → Store → Rz A) (j : EM (Option Int)) (l : Sl) (d : D) (x : Option Int) (st : Store) : Rz A := (j l st).bind (f d x)
@[simp] theorem s3_s {A : Type} (f : D → Option Int → Option Int → Store → Rz A) : s3 f a i j l st = (a l st).bind (s3K f i j l) := rfl
@[simp] theorem s3K_s {A : Type} (f : D → Option Int → Option Int → Store → Rz A) (d : D) : s3K f i j l d st = (i l st).bind (s3J f j l d) := rfl
@[simp] theorem s3J_s {A : Type} (f : D → Option Int → Option Int → Store → Rz A) (d : D) (x : Option Int) : s3J f j l d x st = (j l st).bind (f d x) := rfl
/-- calls -/
@[simp] theorem callM_s (m : FM) : callM m r l st = (r l st).bind m := rfl
def recvK (C m : Str) (d : D) (st1 : Store) : Rz D := match d with
  | .ref n => (match st1[n]? with
    | some (.ins c fs) => if c = C ∧ fs.lookup m = none then .ok (.ref n) st1 else .fail
    | _ => .fail)
  | _ => .fail
def methK (f : FM) (r : EM (List D)) (l : Sl) (d : D) (st : Store) : Rz D := (r l st).bind fun ds st2 => f (d :: ds) st2
def methJ (f : FM) (d : D) (ds : List D) (st : Store) : Rz D := f (d :: ds) st
@[simp] theorem methM_s (C m : Str) (f : FM) : methM C m f a r l st = ((a l st).bind (recvK C m)).bind (methK f r l) := rfl
@[simp] theorem methK_s (f : FM) (d : D) : methK f r l d st = (r l st).bind (methJ f d) := rfl
@[simp] theorem methJ_s (f : FM) (d : D) (ds : List D) : methJ f d ds st = f (d :: ds) st := rfl
theorem recvK_ok {C m : Str} {n : Nat} {fs : List (Str × D)} {st : Store} (h : st[n]? = some (.ins C fs)) (h2 : fs.lookup m = none) : recvK C m (.ref n) st = .ok (.ref n) st := by
  unfold recvK
  simp only [h]
  rw [if_pos (by simp [h2])]
def fldK (C f : Str) (d : D) (st1 : Store) : Rz D := match d with
  | .ref n => (match st1[n]? with
    | some (.ins c fs) => if c = C then (match fs.lookup f with
      | some v => .ok v st1
      | none => .fail) else .fail
    | _ => .fail)
  | _ => .fail
@[simp] theorem fldM_s (C f : Str) : fldM C f a l st = (a l st).bind (fldK C f) := rfl
theorem fldK_ok {C f : Str} {n : Nat} {fs : List (Str × D)} {v : D} {st : Store} (h : st[n]? = some (.ins C fs)) (h2 : fs.lookup f = some v) : fldK C f (.ref n) st = .ok v st := by
  unfold fldK
  simp only [h]
  first | rw [if_pos rfl, h2] | rw [if_pos trivial, h2]
def isiK (T : Ty) (d : D) (st1 : Store) : Rz D := match tyD d st1 with
  | some t => .ok (.bl (isT t T)) st1
  | none => .fail
@[simp] theorem isiM_s (T : Ty) : isiM T a l st = (a l st).bind (isiK T) := rfl
@[simp] theorem isiK_int (T : Ty) (n : Int) : isiK T (.int n) st = .ok (.bl (isT .int T)) st := rfl
@[simp] theorem isiK_str (T : Ty) (n : Str) : isiK T (.str n) st = .ok (.bl (isT .str T)) st := rfl
@[simp] theorem isiK_bl (T : Ty) (n : Bool) : isiK T (.bl n) st = .ok (.bl (isT .bl T)) st := rfl
@[simp] theorem isiK_non (T : Ty) : isiK T .non st = .ok (.bl (isT .non T)) st := rfl
@[simp] theorem isiK_tup (T : Ty) (n : List D) : isiK T (.tup n) st = .ok (.bl (isT .tup T)) st := rfl
@[simp] theorem isiK_fl (T : Ty) (n : List D) : isiK T (.fl n) st = .ok (.bl (isT .lst T)) st := rfl
def chK (f g : D → D → Store → Rz D) (b c : EM D) (l : Sl) (x : D) (st1 : Store) : Rz D := (b l st1).bind fun y st2 => (f x y st2).bind fun z st3 => match z with
  | .bl true => (c l st3).bind fun w st4 => g y w st4
  | .bl false => .ok (.bl false) st3
  | _ => .fail
def chL (g : D → D → Store → Rz D) (c : EM D) (l : Sl) (y : D) (z : D) (st3 : Store) : Rz D := match z with
  | .bl true => (c l st3).bind (g y)
  | .bl false => .ok (.bl false) st3
  | _ => .fail
def chJ (f g : D → D → Store → Rz D) (c : EM D) (l : Sl) (x : D) (y : D) (st2 : Store) : Rz D := (f x y st2).bind (chL g c l y)
@[simp] theorem chM_s (f g : D → D → Store → Rz D) : chM f g a b c l st = (a l st).bind (chK f g b c l) := rfl
@[simp] theorem chK_s (f g : D → D → Store → Rz D) (x : D) : chK f g b c l x st = (b l st).bind (chJ f g c l x) := rfl
@[simp] theorem chJ_s (f g : D → D → Store → Rz D) (x y : D) : chJ f g c l x y st = (f x y st).bind (chL g c l y) := rfl
@[simp] theorem chL_t (g : D → D → Store → Rz D) (y : D) : chL g c l y (.bl true) st = (c l st).bind (g y) := rfl
@[simp] theorem chL_f (g : D → D → Store → Rz D) (y : D) : chL g c l y (.bl false) st = .ok (.bl false) st := rfl
def mkK (C : Str) (f : FM) (ds : List D) (st1 : Store) : Rz D := (f (.ref st1.length :: ds) (st1 ++ [.ins C []])).bind fun d st2 => match d with
  | .non => .ok (.ref st1.length) st2
  | _ => .fail
def mkJ (n : Nat) (d : D) (st2 : Store) : Rz D := match d with
  | .non => .ok (.ref n) st2
  | _ => .fail
@[simp] theorem mkM_s (C : Str) (f : FM) : mkM C f r l st = (r l st).bind (mkK C f) := rfl
@[simp] theorem mkK_s (C : Str) (f : FM) (ds : List D) : mkK C f ds st = (f (.ref st.length :: ds) (st ++ [.ins C []])).bind (mkJ st.length) := rfl
@[simp] theorem mkJ_s (n : Nat) : mkJ n .non st = .ok (.ref n) st := rfl
def negK (d : D) (st1 : Store) : Rz D := match d with
  | .int i => .ok (.int (-i)) st1
  | _ => .fail
@[simp] theorem negM_s : negM a l st = (a l st).bind negK := rfl
@[simp] theorem negK_s (n : Int) : negK (.int n) st = .ok (.int (-n)) st := rfl
def appK (a : EM D) (l : Sl) (x : D) (st1 : Store) : Rz D := match x with
  | .ref n => (match st1[n]? with
    | some (.lst _) => (a l st1).bind fun d st2 => (match st2[n]? with
      | some (.lst ds) => if small ds.length = true then .ok .non (st2.set n (.lst (ds ++ [d]))) else .fail
      | _ => .fail)
    | _ => .fail)
  | _ => .fail
def appJ (n : Nat) (d : D) (st2 : Store) : Rz D := match st2[n]? with
      | some (.lst ds) => if small ds.length = true then .ok .non (st2.set n (.lst (ds ++ [d]))) else .fail
      | _ => .fail
@[simp] theorem appM_s : appM a b l st = (a l st).bind (appK b l) := rfl
theorem appK_ok {n : Nat} {ds : List D} {st : Store} (h : st[n]? = some (.lst ds)) : appK b l (.ref n) st = (b l st).bind (appJ n) := by
  unfold appK
  simp only [h]
  rfl
theorem appJ_ok {n : Nat} {ds : List D} {st : Store} {d : D} (h : st[n]? = some (.lst ds)) (hs : ds.length ≤ 1000000) : appJ n d st = .ok .non (st.set n (.lst (ds ++ [d]))) := by
  unfold appJ
  simp only [h]
  exact if_pos (Nat.ble_eq_true_of_le hs)
end
/-! ### statements -/
section
variable (l : Sl) (st : Store) (a b : EM D) (r : EM (List D)) (p : EM Bool) (x y : SM)
def sqK (y : SM) (z : Sz) : Sz := match z with
  | .nx l' st' => y l' st'
  | z => z
@[simp] theorem sq_s : sq x y l st = sqK y (x l st) := by unfold sq sqK; cases x l st <;> rfl
@[simp] theorem sqK_nx : sqK y (.nx l st) = y l st := rfl
@[simp] theorem sqK_rt (d : D) : sqK y (.rt d st) = .rt d st := rfl
@[simp] theorem sqK_ct : sqK y (.ct l st) = .ct l st := rfl
@[simp] theorem sqK_bk : sqK y (.bk l st) = .bk l st := rfl
@[simp] theorem sqK_exc (c : Str) (fs : List (Str × D)) : sqK y (.exc c fs l st) = .exc c fs l st := rfl
@[simp] theorem nextM_s : nextM l st = .nx l st := rfl
@[simp] theorem breakM_s : breakM l st = .bk l st := rfl
@[simp] theorem contM_s : contM l st = .ct l st := rfl
def exK (l : Sl) (d : D) (st : Store) : Sz := .nx l st
@[simp] theorem exprM_s : exprM a l st = (a l st).toS l (exK l) := rfl
@[simp] theorem exK_s (d : D) : exK l d st = .nx l st := rfl
def rtK (d : D) (st : Store) : Sz := .rt d st
@[simp] theorem retM_s : retM a l st = (a l st).toS l rtK := rfl
@[simp] theorem rtK_s (d : D) : rtK d st = .rt d st := rfl
def setK (i : Nat) (l : Sl) (d : D) (st : Store) : Sz := .nx (l.set i (some d)) st
@[simp] theorem setM_s (i : Nat) : setM i a l st = (a l st).toS l (setK i l) := rfl
@[simp] theorem setK_s (i : Nat) (d : D) : setK i l d st = .nx (l.set i (some d)) st := rfl
def ifK (x y : SM) (l : Sl) (k : Bool) (st : Store) : Sz := if k = true then x l st else y l st
@[simp] theorem ifS_s : ifS p x y l st = (p l st).toS l (ifK x y l) := rfl
@[simp] theorem ifK_t : ifK x y l true st = x l st := rfl
@[simp] theorem ifK_f : ifK x y l false st = y l st := rfl
def parK (i j : Nat) (l : Sl) (ds : List D) (st : Store) : Sz := match ds with
  | [d, e] => .nx ((l.set i (some d)).set j (some e)) st
  | _ => .fail
@[simp] theorem parM_s (i j : Nat) : parM i j r l st = (r l st).toS l (parK i j l) := rfl
@[simp] theorem parK_s (i j : Nat) (d e : D) : parK i j l [d, e] st = .nx ((l.set i (some d)).set j (some e)) st := rfl
def asgK (t : T) (l : Sl) (d : D) (st : Store) : Sz := match t.put d l with
  | some l' => .nx l' st
  | none => .fail
@[simp] theorem asgM_s (t : T) : asgM t a l st = (a l st).toS l (asgK t l) := rfl
def fldSK (C f : Str) (o : EM D) (l : Sl) (d : D) (st1 : Store) : Sz := (o l st1).toS l fun x st2 => match putM C f d x st2 with
  | some st3 => .nx l st3
  | none => .fail
def fldSJ (C f : Str) (l : Sl) (d x : D) (st2 : Store) : Sz := match putM C f d x st2 with
  | some st3 => .nx l st3
  | none => .fail
@[simp] theorem fldS_s (C f : Str) : fldS C f a b l st = (a l st).toS l (fldSK C f b l) := rfl
@[simp] theorem fldSK_s (C f : Str) (d : D) : fldSK C f b l d st = (b l st).toS l (fldSJ C f l d) := rfl
theorem fldSJ_ok {C f : Str} {n : Nat} {fs : List (Str × D)} {d : D} {st : Store} (h : st[n]? = some (.ins C fs)) (h2 : fs.length < 900) : fldSJ C f l d (.ref n) st = .nx l (st.set n (.ins C (putD f d fs))) := by
  unfold fldSJ putM
  simp only [h]
  rw [if_pos (by simp [h2])]
def fldAK (C f : Str) (g : Int → Int → Int) (b : EM D) (l : Sl) (x : D) (st1 : Store) : Sz := match x with
  | .ref n => (match st1[n]? with
    | some (.ins c fs) => if c = C then (match fs.lookup f with
      | some (.int i) => (b l st1).toS l fun d st2 => (match d with
        | .int j => (match putM C f (.int (g i j)) (.ref n) st2 with
          | some st3 => .nx l st3
          | none => .fail)
        | _ => .fail)
      | _ => .fail) else .fail
    | _ => .fail)
  | _ => .fail
def fldAJ (C f : Str) (g : Int → Int → Int) (n : Nat) (i : Int) (l : Sl) (d : D) (st2 : Store) : Sz := match d with
        | .int j => (match putM C f (.int (g i j)) (.ref n) st2 with
          | some st3 => .nx l st3
          | none => .fail)
        | _ => .fail
@[simp] theorem fldAug_s (C f : Str) (g : Int → Int → Int) : fldAug C f g a b l st = (a l st).toS l (fldAK C f g b l) := rfl
theorem fldAK_ok {C f : Str} {g : Int → Int → Int} {n : Nat} {fs : List (Str × D)} {i : Int} {st : Store} (h : st[n]? = some (.ins C fs)) (h2 : fs.lookup f = some (.int i)) : fldAK C f g b l (.ref n) st = (b l st).toS l (fldAJ C f g n i l) := by
  unfold fldAK
  simp only [h]
  first | rw [if_pos rfl, h2] | rw [if_pos trivial, h2]
  rfl
theorem fldAJ_ok {C f : Str} {g : Int → Int → Int} {n : Nat} {fs : List (Str × D)} {i j : Int} {st : Store} (h : st[n]? = some (.ins C fs)) (h2 : fs.length < 900) : fldAJ C f g n i l (.int j) st = .nx l (st.set n (.ins C (putD f (.int (g i j)) fs))) := by
  unfold fldAJ putM
  simp only [h]
  rw [if_pos (by simp [h2])]
def setIxK (o i : EM D) (l : Sl) (d : D) (st1 : Store) : Sz := (o l st1).toS l fun x st2 => (i l st2).toS l fun j st3 => match x, j with
  | .ref n, .int z => (match st3[n]? with
    | some (.lst ds) => (match ixN ds.length z with
      | some m => .nx l (st3.set n (.lst (ds.set m d)))
      | none => .fail)
    | _ => .fail)
  | _, _ => .fail
def setIxJ (i : EM D) (l : Sl) (d : D) (x : D) (st2 : Store) : Sz := (i l st2).toS l fun j st3 => match x, j with
  | .ref n, .int z => (match st3[n]? with
    | some (.lst ds) => (match ixN ds.length z with
      | some m => .nx l (st3.set n (.lst (ds.set m d)))
      | none => .fail)
    | _ => .fail)
  | _, _ => .fail
def setIxI (l : Sl) (d x j : D) (st3 : Store) : Sz := match x, j with
  | .ref n, .int z => (match st3[n]? with
    | some (.lst ds) => (match ixN ds.length z with
      | some m => .nx l (st3.set n (.lst (ds.set m d)))
      | none => .fail)
    | _ => .fail)
  | _, _ => .fail
variable (o i : EM D)
@[simp] theorem setIx_s : setIx a o i l st = (a l st).toS l (setIxK o i l) := rfl
@[simp] theorem setIxK_s (d : D) : setIxK o i l d st = (o l st).toS l (setIxJ i l d) := rfl
@[simp] theorem setIxJ_s (d x : D) : setIxJ i l d x st = (i l st).toS l (setIxI l d x) := rfl
theorem setIxI_ok {n m : Nat} {ds : List D} {d : D} {z : Int} {st : Store} (h : st[n]? = some (.lst ds)) (h2 : ixN ds.length z = some m) : setIxI l d (.ref n) (.int z) st = .nx l (st.set n (.lst (ds.set m d))) := by
  unfold setIxI
  simp only [h, h2]
def augK (i : Nat) (g : D → D → Store → Rz D) (a : EM D) (l : Sl) (st : Store) (o : Option (Option D)) : Sz := match o with
  | some (some x) => (a l st).toS l fun d st1 => (g x d st1).toS l fun y st2 => .nx (l.set i (some y)) st2
  | _ => .fail
def augJ (i : Nat) (g : D → D → Store → Rz D) (l : Sl) (x d : D) (st1 : Store) : Sz := (g x d st1).toS l (setK i l)
@[simp] theorem augM_s (i : Nat) (g : D → D → Store → Rz D) : augM i g a l st = augK i g a l st l[i]? := by unfold augM augK; rfl
@[simp] theorem augK_s (i : Nat) (g : D → D → Store → Rz D) (x : D) : augK i g a l st (some (some x)) = (a l st).toS l (augJ i g l x) := rfl
@[simp] theorem augJ_s (i : Nat) (g : D → D → Store → Rz D) (x d : D) : augJ i g l x d st = (g x d st).toS l (setK i l) := rfl
@[simp] theorem raise0_s (c : Str) : raise0 c l st = .exc c [] l st := rfl
def raise1K (c f : Str) (l : Sl) (ds : List D) (st1 : Store) : Sz := match ds with
  | [d] => .exc c [(f, d)] l st1
  | _ => .fail
@[simp] theorem raise1_s (c f : Str) : raise1 c f r l st = (r l st).toS l (raise1K c f l) := rfl
@[simp] theorem raise1K_s (c f : Str) (d : D) : raise1K c f l [d] st = .exc c [(f, d)] l st := rfl
def forK (t : T) (body : SM) (l : Sl) (s : Src) (st : Store) : Sz := forGo s t body s.items l st
@[simp] theorem forM_s (it : EM Src) (t : T) (body : SM) : forM it t body l st = (it l st).toS l (forK t body l) := rfl
@[simp] theorem forK_s (t : T) (body : SM) (s : Src) : forK t body l s st = forGo s t body s.items l st := rfl
end
/-- the end of a def's body -/
def endD (z : Sz) : Rz D := match z with
  | .nx _ st' => .ok .non st'
  | .rt d st' => .ok d st'
  | .exc c fs _ st' => .exc c fs st'
  | _ => .fail
theorem dfM_s {np nN : Nat} {body : SM} {ds : List D} (h : ds.length = np) (st : Store) : dfM np nN body ds st = endD (body (ds.map some ++ List.replicate (nN - np) none) st) := by
  unfold dfM
  rw [if_pos h]
  rfl
@[simp] theorem dfM_0 (n : Nat) (body : SM) (st : Store) : dfM 0 n body [] st = endD (body (List.replicate (n - 0) none) st) := dfM_s rfl st
@[simp] theorem dfM_1 (n : Nat) (body : SM) (a : D) (st : Store) : dfM 1 n body [a] st = endD (body (some a :: List.replicate (n - 1) none) st) := dfM_s rfl st
@[simp] theorem dfM_2 (n : Nat) (body : SM) (a b : D) (st : Store) : dfM 2 n body [a, b] st = endD (body (some a :: some b :: List.replicate (n - 2) none) st) := dfM_s rfl st
@[simp] theorem dfM_3 (n : Nat) (body : SM) (a b c : D) (st : Store) : dfM 3 n body [a, b, c] st = endD (body (some a :: some b :: some c :: List.replicate (n - 3) none) st) := dfM_s rfl st
@[simp] theorem dfM_4 (n : Nat) (body : SM) (a b c d : D) (st : Store) : dfM 4 n body [a, b, c, d] st = endD (body (some a :: some b :: some c :: some d :: List.replicate (n - 4) none) st) := dfM_s rfl st
@[simp] theorem endD_rt (d : D) (st : Store) : endD (.rt d st) = .ok d st := rfl
@[simp] theorem endD_nx (l : Sl) (st : Store) : endD (.nx l st) = .ok .non st := rfl
@[simp] theorem endD_exc (c : Str) (fs : List (Str × D)) (l : Sl) (st : Store) : endD (.exc c fs l st) = .exc c fs st := rfl
/-! ### values -/
section
variable (st : Store) (i j : Int) (x y : Str) (u v : List D)
@[simp] theorem plusM_i : plusM (.int i) (.int j) st = .ok (.int (i + j)) st := rfl
theorem plusM_str (h : x.length + y.length ≤ 1000000) : plusM (.str x) (.str y) st = .ok (.str (x ++ y)) st := if_pos (Nat.ble_eq_true_of_le h)
theorem plusM_tup (h : u.length + v.length ≤ 1000000) : plusM (.tup u) (.tup v) st = .ok (.tup (u ++ v)) st := if_pos (Nat.ble_eq_true_of_le h)
theorem plusM_fl (h : u.length + v.length ≤ 1000000) : plusM (.fl u) (.fl v) st = .ok (.fl (u ++ v)) st := if_pos (Nat.ble_eq_true_of_le h)
@[simp] theorem subM_i : subM (.int i) (.int j) st = .ok (.int (i - j)) st := rfl
theorem modM_i (h : 0 < j) : modM (.int i) (.int j) st = .ok (.int (i % j)) st := if_pos h
theorem fdivM_i (h : 0 < j ∧ j < 1073741824) : fdivM (.int i) (.int j) st = .ok (.int (i / j)) st := if_pos h
theorem timesM_i (h : (-18446744073709551616 < i ∧ i < 18446744073709551616) ∨ (-18446744073709551616 < j ∧ j < 18446744073709551616)) : timesM (.int i) (.int j) st = .ok (.int (i * j)) st := if_pos h
theorem timesM_str (h : 0 ≤ i ∧ i ≤ 1000 ∧ x.length ≤ 1000) : timesM (.str x) (.int i) st = .ok (.str (Txt.mul x i)) st := if_pos h
@[simp] theorem cmpM_i (g : Int → Int → Bool) : cmpM g (.int i) (.int j) st = .ok (.bl (g i j)) st := rfl
@[simp] theorem intM_i (g : Int → Int → Int) : intM g (.int i) (.int j) st = .ok (.int (g i j)) st := rfl
@[simp] theorem intOf_i : intOf [.int i] st = .ok (.int i) st := rfl
theorem strOf_i (h : i.natAbs < 18446744073709551616) : strOf [.int i] st = .ok (.str (toString i)) st := if_pos h
@[simp] theorem tupOf_fl : tupOf [.fl u] st = .ok (.tup u) st := rfl
@[simp] theorem tupOf_tup : tupOf [.tup u] st = .ok (.tup u) st := rfl
@[simp] theorem lenM_tup : lenM [.tup u] st = .ok (.int u.length) st := rfl
@[simp] theorem lenM_fl : lenM [.fl u] st = .ok (.int u.length) st := rfl
@[simp] theorem lenM_rd : lenM [.rd u] st = .ok (.int u.length) st := rfl
theorem lenM_str (h : x.length ≤ 1000000) : lenM [.str x] st = .ok (.int x.length) st := if_pos (Nat.ble_eq_true_of_le h)
theorem lenM_ref {n : Nat} (h : st[n]? = some (.lst u)) : lenM [.ref n] st = .ok (.int u.length) st := by
  simp [lenM, sqof, lof, h]
@[simp] theorem int2_i (f : Int → Int → Int) : int2 f [.int i, .int j] st = .ok (.int (f i j)) st := rfl
def atK (o : Option D) (st : Store) : Rz D := match o with
  | some d => .ok d st
  | none => .fail
@[simp] theorem atK_s (d : D) : atK (some d) st = .ok d st := rfl
@[simp] theorem ixM_tup : ixM (.tup u) (.int i) st = atK (atI u i) st := by
  unfold ixM atK; rfl
@[simp] theorem ixM_fl : ixM (.fl u) (.int i) st = atK (atI u i) st := by
  unfold ixM atK; rfl
@[simp] theorem ixM_rd : ixM (.rd u) (.int i) st = atK (atI u i) st := by
  unfold ixM atK; rfl
theorem ixM_ref {n : Nat} (h : st[n]? = some (.lst u)) : ixM (.ref n) (.int i) st = atK (atI u i) st := by
  simp only [ixM, sqof, lof, h]
  unfold atK; rfl
def atS (o : Option Nat) (st : Store) : Rz D := match o with
  | some c => .ok (.str ⟨#[c]⟩) st
  | none => .fail
@[simp] theorem atS_s (c : Nat) : atS (some c) st = .ok (.str ⟨#[c]⟩) st := rfl
theorem ixM_str (h : x.length ≤ 1000000) : ixM (.str x) (.int i) st = atS (atI x.cps.toList i) st := by
  have hs : small x.length = true := Nat.ble_eq_true_of_le h
  unfold ixM atS
  simp only [hs, if_true] <;> rfl
theorem ixN_nat {n j : Nat} (h : j < n) : ixN n (j : Int) = some j := by
  unfold ixN
  rw [if_pos (by omega), if_pos (by omega)]
  simp
theorem atI_nat {α : Type} {xs : List α} {j : Nat} {x : α} (h : xs[j]? = some x) : atI xs (j : Int) = some x := by
  unfold atI
  have := (List.getElem?_eq_some_iff.mp h).1
  rw [ixN_nat this]
  exact h
variable {α : Type} (p q r s : α) (l : List α)
@[simp] theorem atI_0 : atI (p :: l) 0 = some p := atI_nat (xs := p :: l) (j := 0) rfl
@[simp] theorem atI_1 : atI (p :: q :: l) 1 = some q := atI_nat (xs := p :: q :: l) (j := 1) rfl
@[simp] theorem atI_2 : atI (p :: q :: r :: l) 2 = some r := atI_nat (xs := p :: q :: r :: l) (j := 2) rfl
@[simp] theorem atI_3 : atI (p :: q :: r :: s :: l) 3 = some s := atI_nat (xs := p :: q :: r :: s :: l) (j := 3) rfl
theorem eqD_sc {d e : D} {a b : V} (h1 : sv d = some a) (h2 : sv e = some b) (hs : scal a b = true) : eqD st d e = some (decide (a = b)) := by
  unfold eqD
  rw [h1, h2]
  simp [hs]
@[simp] theorem eqM_str : eqM (.str x) (.str y) st = .ok (.bl (decide (x = y))) st := by
  unfold eqM
  rw [eqD_sc st rfl rfl rfl]
  simp
@[simp] theorem neM_str : neM (.str x) (.str y) st = .ok (.bl (!decide (x = y))) st := by
  unfold neM
  rw [eqD_sc st rfl rfl rfl]
  simp
@[simp] theorem eqM_int : eqM (.int i) (.int j) st = .ok (.bl (decide (i = j))) st := by
  unfold eqM
  rw [eqD_sc st rfl rfl rfl]
  simp
@[simp] theorem neM_int : neM (.int i) (.int j) st = .ok (.bl (!decide (i = j))) st := by
  unfold neM
  rw [eqD_sc st rfl rfl rfl]
  simp
@[simp] theorem eqM_in : eqM (.int i) .non st = .ok (.bl false) st := by
  unfold eqM
  rw [eqD_sc st rfl rfl rfl]
  simp
@[simp] theorem isNM_non : isNM .non .non st = .ok (.bl true) st := rfl
@[simp] theorem isNM_int : isNM (.int i) .non st = .ok (.bl false) st := rfl
@[simp] theorem notNM_non : notNM .non .non st = .ok (.bl false) st := rfl
@[simp] theorem notNM_int : notNM (.int i) .non st = .ok (.bl true) st := rfl
@[simp] theorem notNM_tup : notNM (.tup u) .non st = .ok (.bl true) st := rfl
@[simp] theorem isNM_tup : isNM (.tup u) .non st = .ok (.bl false) st := rfl
end
end Rf
namespace Rf
set_option autoImplicit false
open PySem L2

/-! ### the script's numbers -/
def tkB : SM :=
    (sq (ifS (tst (b2 gtM (b2 ixM (vr 0) (cst (.int 3))) (cst (.int 0))))
    (sq (setM 2 (b2 modM (callM intOf (consA (b2 ixM (vr 0) (cst (.int 3))) nilA)) (vr 1)))
    (sq (setIx (b2 fdivM (b2 ixM (vr 0) (cst (.int 3))) (vr 1)) (vr 0) (cst (.int 3)))
    (retM (vr 2))))
    nextM)
    (sq (setIx (b2 plusM (b2 ixM (vr 0) (cst (.int 1))) (cst (.int 1))) (vr 0) (cst (.int 1)))
    (sq (ifS (tst (b2 gtM (b2 ixM (vr 0) (cst (.int 1))) (callM lenM (consA (b2 ixM (vr 0) (cst (.int 0))) nilA))))
    (sq (setIx (b2 modM (callM intOf (consA (b2 plusM (b2 timesM (b2 ixM (vr 0) (cst (.int 2))) (cst (.int 48271))) (cst (.int 11))) nilA)) (cst (.int 2147483647))) (vr 0) (cst (.int 2)))
    (retM (b2 modM (callM intOf (consA (b2 fdivM (b2 ixM (vr 0) (cst (.int 2))) (cst (.int 7))) nilA)) (vr 1))))
    nextM)
    (sq (setM 3 (b2 ixM (b2 ixM (vr 0) (cst (.int 0))) (b2 subM (b2 ixM (vr 0) (cst (.int 1))) (cst (.int 1)))))
    (sq (setIx (b2 modM (callM intOf (consA (b2 plusM (b2 plusM (b2 timesM (b2 ixM (vr 0) (cst (.int 2))) (cst (.int 48271))) (vr 3)) (cst (.int 11))) nilA)) (cst (.int 2147483647))) (vr 0) (cst (.int 2)))
    (sq (ifS (tst (b2 geM (vr 3) (b2 powM (cst (.int 10)) (cst (.int 18)))))
    (setIx (b2 fdivM (vr 3) (vr 1)) (vr 0) (cst (.int 3)))
    nextM)
    (retM (b2 modM (callM intOf (consA (vr 3) nilA)) (vr 1)))))))))
def tkF : FM := dfM 2 4 tkB
/-- the row of the script's numbers, as it may stand -/
def rowO (s : List Int) (i r b : Int) : O := .lst [.rd (s.map .int), .int i, .int r, .int b]
def Row (s : List Int) (x : O) : Prop := ∃ (i : Nat) (r b : Int), x = rowO s i r b
theorem row_ix (s : List Int) (i r b : Int) (st : Store) (k : Int) : ixM (.ref 0) (.int k) (rowO s i r b :: st) = atK (atI [.rd (s.map .int), .int i, .int r, .int b] k) (rowO s i r b :: st) := ixM_ref _ _ _ rfl
theorem row_set (s : List Int) (i r b d : Int) (st : Store) (l : Sl) :
    setIxI l (.int d) (.ref 0) (.int 1) (rowO s i r b :: st) = .nx l (rowO s d r b :: st) ∧ setIxI l (.int d) (.ref 0) (.int 2) (rowO s i r b :: st) = .nx l (rowO s i d b :: st) ∧
    setIxI l (.int d) (.ref 0) (.int 3) (rowO s i r b :: st) = .nx l (rowO s i r d :: st) := ⟨rfl, rfl, rfl⟩
theorem tk_ok {s : List Int} {x : O} {st : Store} {many : Int} (h : Row s x) (h0 : 0 < many) (h1 : many < 1073741824) : ∃ (v : Nat) (x' : O), tkF [.ref 0, .int many] (x :: st) = .ok (.int v) (x' :: st) ∧ Row s x' ∧ (v : Int) < many := by
  obtain ⟨i, r, b, rfl⟩ := h
  have hm : ∀ z : Int, ∃ v : Nat, z % many = (v : Int) ∧ (v : Int) < many := fun z => ⟨(z % many).toNat, (Int.toNat_of_nonneg (Int.emod_nonneg z (by omega))).symm, by rw [Int.toNat_of_nonneg (Int.emod_nonneg z (by omega))]; exact Int.emod_lt_of_pos z h0⟩
  have hmod : ∀ z st, modM (.int z) (.int many) st = .ok (.int (z % many)) st := fun z st => modM_i st z many h0
  have hdiv : ∀ z st, fdivM (.int z) (.int many) st = .ok (.int (z / many)) st := fun z st => fdivM_i st z many ⟨h0, h1⟩
  have hmodP : ∀ z st, modM (.int z) (.int 2147483647) st = .ok (.int (z % 2147483647)) st := fun z st => modM_i st z _ (by decide)
  have hdiv7 : ∀ z st, fdivM (.int z) (.int 7) st = .ok (.int (z / 7)) st := fun z st => fdivM_i st z _ (by decide)
  have htimes : ∀ z st, timesM (.int z) (.int 48271) st = .ok (.int (z * 48271)) st := fun z st => timesM_i st z _ (.inr (by decide))
  have hpow : ∀ st, powM (.int 10) (.int 18) st = .ok (.int 1000000000000000000) st := fun st => rfl
  have hi1 : (i : Int) + 1 - 1 = (i : Int) := by omega
  unfold tkF
  by_cases hb : 0 < b
  · obtain ⟨v, ev, hv⟩ := hm b
    refine ⟨v, rowO s i r (b / many), ?_, ⟨i, r, _, rfl⟩, hv⟩
    simp [tkB, row_ix, row_set, hb, hmod, hdiv, ev]
  · by_cases hn : (s.length : Int) < i + 1
    · obtain ⟨v, ev, hv⟩ := hm ((r * 48271 + 11) % 2147483647 / 7)
      refine ⟨v, rowO s ((i + 1 : Nat) : Int) ((r * 48271 + 11) % 2147483647) b, ?_, ⟨i + 1, _, _, rfl⟩, hv⟩
      simp [tkB, row_ix, row_set, hb, hmod, hdiv, hmodP, hdiv7, htimes, hn, ev]
    · have hlt : i < s.length := by omega
      obtain ⟨c, hc⟩ : ∃ c, s[i]? = some c := ⟨s[i], List.getElem?_eq_getElem hlt⟩
      have hat : atI (s.map D.int) (i : Int) = some (.int c) := atI_nat (by rw [List.getElem?_map, hc]; rfl)
      obtain ⟨v, ev, hv⟩ := hm c
      by_cases hbig : 1000000000000000000 ≤ c
      · refine ⟨v, rowO s ((i + 1 : Nat) : Int) ((r * 48271 + c + 11) % 2147483647) (c / many), ?_, ⟨i + 1, _, _, rfl⟩, hv⟩
        simp [tkB, row_ix, row_set, hb, hmod, hdiv, hmodP, hdiv7, htimes, hn, ev, hi1, hat, hpow, hbig]
      · refine ⟨v, rowO s ((i + 1 : Nat) : Int) ((r * 48271 + c + 11) % 2147483647) b, ?_, ⟨i + 1, _, _, rfl⟩, hv⟩
        simp [tkB, row_ix, row_set, hb, hmod, hdiv, hmodP, hdiv7, htimes, hn, ev, hi1, hat, hpow, hbig]
end Rf
namespace Rf
set_option autoImplicit false
open PySem L2

def sD (l : List Str) : List D := l.map .str
def iD (l : List Int) : List D := l.map .int
@[simp] theorem sD_len (l : List Str) : (sD l).length = l.length := by simp [sD]
@[simp] theorem iD_len (l : List Int) : (iD l).length = l.length := by simp [iD]
theorem sD_app (a b : List Str) : sD a ++ sD b = sD (a ++ b) := by simp [sD]
theorem iD_app (a b : List Int) : iD a ++ iD b = iD (a ++ b) := by simp [iD]
@[simp] theorem sD_nil : sD [] = [] := rfl
@[simp] theorem sD_cons (a : Str) (l : List Str) : sD (a :: l) = .str a :: sD l := rfl
@[simp] theorem iD_nil : iD [] = [] := rfl
@[simp] theorem iD_cons (a : Int) (l : List Int) : iD (a :: l) = .int a :: iD l := rfl
theorem sD_get {l : List Str} {i : Nat} {x : Str} (h : l[i]? = some x) : (sD l)[i]? = some (.str x) := by simp [sD, h]
theorem iD_get {l : List Int} {i : Nat} {x : Int} (h : l[i]? = some x) : (iD l)[i]? = some (.int x) := by simp [iD, h]

/-! ### comprehensions that change nothing -/
theorem lcGo_map {s : Src} {t : T} {el : EM D} {l : Sl} {st : Store} {f : D → D} (hc : s.chk st = true) : ∀ (ds : List D), (∀ d ∈ ds, ∃ l1, t.put d l = some l1 ∧ el l1 st = .ok (f d) st) → lcGo s t yesM el l ds st = .ok (ds.map f) st
  | [], _ => by simp [lcGo, hc]
  | d :: ds, h => by
    obtain ⟨l1, h1, h2⟩ := h d List.mem_cons_self
    have ih := lcGo_map (el := el) (f := f) hc ds fun x hx => h x (List.mem_cons_of_mem _ hx)
    simp [lcGo, hc, h1, yesM, h2, ih]
theorem lcM_map {it : EM Src} {t : T} {el : EM D} {vs : List Nat} {l : Sl} {st st1 : Store} {s : Src} {f : D → D} (hi : it l st = .ok s st1) (hs : s.items.length ≤ 1000000) (hc : s.chk st1 = true)
    (h : ∀ d ∈ s.items, ∃ l1, t.put d (wipeD l vs) = some l1 ∧ el l1 st1 = .ok (f d) st1) : lcM it t yesM el vs l st = .ok (s.items.map f) st1 := by
  unfold lcM
  rw [hi]
  simp only [bind_ok]
  rw [if_pos (show small s.items.length = true from Nat.ble_eq_true_of_le hs), lcGo_map hc _ h]
/-- range(n) -/
theorem rngD_get (n : Nat) : rngD 0 n = (List.range n).map fun (i : Nat) => D.int (i : Nat) := by
  unfold rngD
  exact List.map_congr_left fun i _ => by simp
def rngK (ds : List D) (st1 : Store) : Rz Src := match ds with
  | [.int j] => if -1000000 ≤ j ∧ j ≤ 1000000 then .ok ⟨rngD 0 j.toNat, none⟩ st1 else .fail
  | _ => .fail
@[simp] theorem itR1_s (a : EM (List D)) (l : Sl) (st : Store) : itR1 a l st = (a l st).bind rngK := rfl
theorem rngK_nat {n : Nat} (h : n ≤ 1000000) (st : Store) : rngK [.int n] st = .ok ⟨rngD 0 n, none⟩ st := by
  unfold rngK
  simp only
  rw [if_pos ⟨by omega, by omega⟩, Int.toNat_natCast]
def itAK (d : D) (st1 : Store) : Rz Src := match d with
  | .tup ds => .ok ⟨ds, none⟩ st1
  | .str x => .ok ⟨signsD x, none⟩ st1
  | d => (match lof d st1 with
    | some ds => .ok (srcL d ds) st1
    | none => .fail)
@[simp] theorem itA_s (a : EM D) (l : Sl) (st : Store) : itA a l st = (a l st).bind itAK := rfl
@[simp] theorem itAK_tup (ds : List D) (st : Store) : itAK (.tup ds) st = .ok ⟨ds, none⟩ st := rfl
@[simp] theorem itAK_fl (ds : List D) (st : Store) : itAK (.fl ds) st = .ok ⟨ds, none⟩ st := rfl
@[simp] theorem itAK_str (x : Str) (st : Store) : itAK (.str x) st = .ok ⟨signsD x, none⟩ st := rfl
def itEK (d : D) (st1 : Store) : Rz Src := match lof d st1 with
  | some ds => .ok (srcE d ds) st1
  | none => .fail
@[simp] theorem itE_s (a : EM D) (l : Sl) (st : Store) : itE a l st = (a l st).bind itEK := rfl
@[simp] theorem itEK_fl (ds : List D) (st : Store) : itEK (.fl ds) st = .ok ⟨pairsD 0 ds, none⟩ st := rfl
theorem chk_none (ds : List D) (st : Store) : (⟨ds, none⟩ : Src).chk st = true := rfl
/-! ### for, step by step -/
def forK2 (s : Src) (t : T) (body : SM) (r : List D) (z : Sz) : Sz := match z with
  | .nx l2 st2 => forGo s t body r l2 st2
  | .ct l2 st2 => forGo s t body r l2 st2
  | .bk l2 st2 => .nx l2 st2
  | .rt d st2 => .rt d st2
  | .exc c fs l2 st2 => .exc c fs l2 st2
  | .fail => .fail
theorem forGo_nil {s : Src} {t : T} {body : SM} {l : Sl} {st : Store} (hc : s.chk st = true) : forGo s t body [] l st = .nx l st := if_pos hc
theorem forGo_cons {s : Src} {t : T} {body : SM} {l l1 : Sl} {st : Store} {d : D} {r : List D} (hc : s.chk st = true) (hp : t.put d l = some l1) : forGo s t body (d :: r) l st = forK2 s t body r (body l1 st) := by
  unfold forGo
  rw [if_pos hc, hp]
  simp only
  unfold forK2
  cases body l1 st <;> rfl
@[simp] theorem forK2_nx (s : Src) (t : T) (body : SM) (r : List D) (l : Sl) (st : Store) : forK2 s t body r (.nx l st) = forGo s t body r l st := rfl
@[simp] theorem forK2_ct (s : Src) (t : T) (body : SM) (r : List D) (l : Sl) (st : Store) : forK2 s t body r (.ct l st) = forGo s t body r l st := rfl
@[simp] theorem forK2_bk (s : Src) (t : T) (body : SM) (r : List D) (l : Sl) (st : Store) : forK2 s t body r (.bk l st) = .nx l st := rfl
@[simp] theorem forK2_rt (s : Src) (t : T) (body : SM) (r : List D) (d : D) (st : Store) : forK2 s t body r (.rt d st) = .rt d st := rfl
@[simp] theorem forK2_exc (s : Src) (t : T) (body : SM) (r : List D) (c : Str) (fs : List (Str × D)) (l : Sl) (st : Store) : forK2 s t body r (.exc c fs l st) = .exc c fs l st := rfl
/-- while, one turn -/
def whK (c : EM Bool) (body : SM) (n : Nat) (z : Sz) : Sz := match z with
    | .nx l2 st2 => whGo c body n l2 st2
    | .ct l2 st2 => whGo c body n l2 st2
    | .bk l2 st2 => .nx l2 st2
    | .rt d st2 => .rt d st2
    | .exc e fs l2 st2 => .exc e fs l2 st2
    | .fail => .fail
theorem whGo_true {c : EM Bool} {body : SM} {n : Nat} {l : Sl} {st st1 : Store} (h : c l st = .ok true st1) : whGo c body (n + 1) l st = whK c body n (body l st1) := by
  unfold whGo
  rw [h]
  simp only [toS_ok, if_true]
  unfold whK
  cases body l st1 <;> rfl
theorem whGo_false {c : EM Bool} {body : SM} {n : Nat} {l : Sl} {st st1 : Store} (h : c l st = .ok false st1) : whGo c body (n + 1) l st = .nx l st1 := by
  unfold whGo
  rw [h]
  rfl
@[simp] theorem whK_nx (c : EM Bool) (body : SM) (n : Nat) (l : Sl) (st : Store) : whK c body n (.nx l st) = whGo c body n l st := rfl
@[simp] theorem whK_ct (c : EM Bool) (body : SM) (n : Nat) (l : Sl) (st : Store) : whK c body n (.ct l st) = whGo c body n l st := rfl
@[simp] theorem whK_rt (c : EM Bool) (body : SM) (n : Nat) (d : D) (st : Store) : whK c body n (.rt d st) = .rt d st := rfl
@[simp] theorem whK_bk (c : EM Bool) (body : SM) (n : Nat) (l : Sl) (st : Store) : whK c body n (.bk l st) = .nx l st := rfl
@[simp] theorem whK_exc (c : EM Bool) (body : SM) (n : Nat) (e : Str) (fs : List (Str × D)) (l : Sl) (st : Store) : whK c body n (.exc e fs l st) = .exc e fs l st := rfl
/-! ### texts in lists -/
theorem svAll_s : ∀ l : List Str, svAll (sD l) = some (l.map V.str)
  | [] => rfl
  | a :: l => by simp [svAll, sv, svAll_s l]
theorem inV_s (x : Str) : ∀ l : List Str, inV (.str x) (l.map V.str) = decide (x ∈ l)
  | [] => by simp [inV]
  | a :: l => by
    have ih := inV_s x l
    have e : inV (.str x) ((a :: l).map V.str) = ((a == x) || inV (.str x) (l.map V.str)) := rfl
    rw [e, ih]
    by_cases h : x = a
    · subst h; simp
    · have h2 : ¬ a = x := fun z => h z.symm
      simp [h, h2]
theorem inM_fl (x : Str) (l : List Str) (st : Store) : inM (.str x) (.fl (sD l)) st = .ok (.bl (decide (x ∈ l))) st := by
  simp [inM, isIn, lof, sv, svAll_s, inV_s]
theorem ninM_fl (x : Str) (l : List Str) (st : Store) : ninM (.str x) (.fl (sD l)) st = .ok (.bl (!decide (x ∈ l))) st := by
  simp [ninM, isIn, lof, sv, svAll_s, inV_s]
theorem ninM_tup (x : Str) (l : List Str) (st : Store) : ninM (.str x) (.tup (sD l)) st = .ok (.bl (!decide (x ∈ l))) st := by
  simp [ninM, isIn, sv, svAll_s, inV_s]
theorem inM_sign (c : Nat) (z : Str) (st : Store) : inM (.str ⟨#[c]⟩) (.str z) st = .ok (.bl (decide (c ∈ z.cps.toList))) st := rfl
theorem pdAll_s : ∀ l : List Str, pdAll (sD l) = some (l.map PyData.str)
  | [] => rfl
  | a :: l => by simp [pdAll, pd, pdAll_s l]
theorem lay_s : ∀ l : List Str, (∀ x ∈ l, PyData.strOk x = true) → PyData.canLayAll0 (l.map PyData.str) = true ∧ PyData.depthAll (l.map PyData.str) = 0
  | [], _ => ⟨rfl, rfl⟩
  | a :: l, h => by
    obtain ⟨h1, h2⟩ := lay_s l fun x hx => h x (List.mem_cons_of_mem _ hx)
    simp [PyData.canLayAll0, PyData.canLay0, PyData.depthAll, PyData.depth, h1, h2, h a List.mem_cons_self]
theorem shaped_s {l : List Str} (h : ∀ x ∈ l, PyData.strOk x = true) : SeqAt.shaped (.list (l.map PyData.str)) = true := by
  obtain ⟨h1, h2⟩ := lay_s l h
  unfold SeqAt.shaped
  simp [PyData.canLay0, PyData.depth, h1, h2]
theorem eqD_nil {l : List Str} (st : Store) (h : ∀ x ∈ l, PyData.strOk x = true) : eqD st (.fl (sD l)) (.fl []) = some l.isEmpty := by
  have e : eqD st (.fl (sD l)) (.fl []) = (match pd (.fl (sD l)), pd (.fl []) with
    | some p, some q => if SeqAt.shaped p = true ∧ SeqAt.shaped q = true then some (PyData.eqv p q) else none
    | _, _ => none) := rfl
  have e1 : pd (.fl (sD l)) = some (.list (l.map PyData.str)) := by simp [pd, pdAll_s]
  have e2 : pd (.fl []) = some (.list []) := rfl
  rw [e, e1, e2]
  simp only [shaped_s h]
  have e3 : SeqAt.shaped (.list []) = true := rfl
  rw [e3]
  cases l <;> rfl
theorem eqM_nil {l : List Str} (st : Store) (h : ∀ x ∈ l, PyData.strOk x = true) : eqM (.fl (sD l)) (.fl []) st = .ok (.bl l.isEmpty) st := by
  unfold eqM
  rw [eqD_nil st h]
theorem neM_nil {l : List Str} (st : Store) (h : ∀ x ∈ l, PyData.strOk x = true) : neM (.fl (sD l)) (.fl []) st = .ok (.bl (!l.isEmpty)) st := by
  unfold neM
  rw [eqD_nil st h]
/-! ### slices of lists -/
theorem sliceM_fl (u : List D) (i j : Option Int) (st : Store) : sliceM (.fl u) i j st = .ok (.fl (cutD u i j)) st := rfl
theorem cut_to (u : List D) (k : Nat) : cutD u none (some (k : Int)) = u.take k := by
  unfold cutD
  rw [HT.sIx_none, HT.sIx_nat, List.drop_zero, Nat.sub_zero]
  by_cases h : k ≤ u.length
  · rw [Nat.min_eq_left h]
  · rw [Nat.min_eq_right (by omega), List.take_length, List.take_of_length_le (by omega)]
theorem cut_from (u : List D) (k : Nat) : cutD u (some (k : Int)) none = u.drop k := by
  unfold cutD
  rw [HT.sIx_none, HT.sIx_nat]
  by_cases h : k ≤ u.length
  · rw [Nat.min_eq_left h, List.take_of_length_le (by simp)]
  · rw [Nat.min_eq_right (by omega), List.drop_length, List.drop_of_length_le (by omega)]
    simp
end Rf
namespace K05
open PySem PySem.Spec L2 Rf
def top (i : Nat) : Stmt := PySem.Challenge.pw_lockturns_k05_bent_formulas.main.body.getD i (.Pass ⟨0, 0, 0, 0⟩)

-- _law_first: 0=_law_words, 1=_law_inputs, 2=_law_want, 3=_law_at, 4=_law_word, 5=_law_need, 6=_law_own
-- _law_taken: 0=_law_row, 1=_law_many, 2=_law_found, 3=_law_cell
-- _law_pick: 0=_law_row, 1=_law_things
-- _law_spelled: 0=_law_row, 1=_law_tree_here
-- _law_tree: 0=_law_row, 1=_law_inputs, 2=_law_deep, 3=_law_way
-- all_bits: 0=inputs, 1=found, 2=turn, 3=bits
-- is_plain: 0=sign
-- Reader_part: 0=self, 1=place, 2=sign, 3=end
-- Reader_init: 0=self, 1=text, 2=inputs
-- Reader_fail: 0=self
-- Reader_word: 0=self
-- Reader_formula: 0=self, 1=deep, 2=word, 3=own
-- Reader_pair: 0=self, 1=deep, 2=one, 3=word, 4=other
-- is_number: 0=value, 1=low, 2=high
-- need_number: 0=value, 1=low, 2=high
-- tree_of: 0=inputs, 1=text, 2=reader, 3=found
-- worth_of: 0=tree, 1=bits, 2=one, 3=other
-- table_of: 0=inputs, 1=text, 2=tree, 3=bits
-- law: 0=_law_script, 1=_law_row, 2=_law_inputs, 3=_law_words, 4=_law_at, 5=_law_way, 6=_law_odd, 7=_law_text, 8=_law_places, 9=_law_word, 10=_law_due, 11=e
abbrev s__law_first : Stmt := top 22
theorem sc__law_first : FnScope ["_law_words", "_law_inputs", "_law_want", "_law_at", "_law_word", "_law_need", "_law_own"] ["_law_words", "_law_inputs"] (defScope s__law_first) := ⟨rfl, rfl, rfl, by decide +kernel, rfl, by decide +kernel, by decide +kernel⟩
def b__law_first : SM :=
    (sq (setM 2 (fz (disp (consA (cst (.str "E")) nilA))))
    (sq (forM (itE (vr 0)) (.tp [(.nm 3), (.nm 4)])
    (sq (ifS (tst (b2 eqM (vr 2) (fz (disp nilA))))
    (retM (vr 3))
    nextM)
    (sq (parM 5 2 (consA (b2 ixM (vr 2) (cst (.int 0))) (consA (s3 sliceM (vr 2) (onO (cst (.int 1))) noO) nilA)))
    (ifS (tst (b2 eqM (vr 5) (cst (.str "E"))))
    (ifS (tst (b2 eqM (vr 4) (cst (.str "not"))))
    (setM 2 (b2 plusM (fz (disp (consA (cst (.str "E")) nilA))) (vr 2)))
    (ifS (tst (b2 eqM (vr 4) (cst (.str "("))))
    (setM 2 (b2 plusM (fz (disp (consA (cst (.str "E")) (consA (cst (.str "W")) (consA (cst (.str "E")) (consA (cst (.str ")")) nilA)))))) (vr 2)))
    (ifS (tst (b2 ninM (vr 4) (fz (lcM (itR1 (consA (vr 1) nilA)) (.nm 6) yesM (b2 plusM (cst (.str "x")) (callM strOf (consA (vr 6) nilA))) [6]))))
    (retM (vr 3))
    nextM)))
    (ifS (orT (andT (tst (b2 eqM (vr 5) (cst (.str "W")))) (tst (b2 ninM (vr 4) (fz (disp (consA (cst (.str "and")) (consA (cst (.str "or")) (consA (cst (.str "xor")) nilA)))))))) (andT (tst (b2 eqM (vr 5) (cst (.str ")")))) (tst (b2 neM (vr 4) (cst (.str ")"))))))
    (retM (vr 3))
    nextM)))))
    (retM (ifM (tst (b2 neM (vr 2) (fz (disp nilA)))) (callM lenM (consA (vr 0) nilA)) (cst .non)))))
def m__law_first : FM := dfM 2 7 b__law_first
abbrev s__law_taken : Stmt := top 18
theorem sc__law_taken : FnScope ["_law_row", "_law_many", "_law_found", "_law_cell"] ["_law_row", "_law_many"] (defScope s__law_taken) := ⟨rfl, rfl, rfl, by decide +kernel, rfl, by decide +kernel, by decide +kernel⟩
def b__law_taken : SM :=
    (sq (ifS (tst (b2 gtM (b2 ixM (vr 0) (cst (.int 3))) (cst (.int 0))))
    (sq (setM 2 (b2 modM (callM intOf (consA (b2 ixM (vr 0) (cst (.int 3))) nilA)) (vr 1)))
    (sq (setIx (b2 fdivM (b2 ixM (vr 0) (cst (.int 3))) (vr 1)) (vr 0) (cst (.int 3)))
    (retM (vr 2))))
    nextM)
    (sq (setIx (b2 plusM (b2 ixM (vr 0) (cst (.int 1))) (cst (.int 1))) (vr 0) (cst (.int 1)))
    (sq (ifS (tst (b2 gtM (b2 ixM (vr 0) (cst (.int 1))) (callM lenM (consA (b2 ixM (vr 0) (cst (.int 0))) nilA))))
    (sq (setIx (b2 modM (callM intOf (consA (b2 plusM (b2 timesM (b2 ixM (vr 0) (cst (.int 2))) (cst (.int 48271))) (cst (.int 11))) nilA)) (cst (.int 2147483647))) (vr 0) (cst (.int 2)))
    (retM (b2 modM (callM intOf (consA (b2 fdivM (b2 ixM (vr 0) (cst (.int 2))) (cst (.int 7))) nilA)) (vr 1))))
    nextM)
    (sq (setM 3 (b2 ixM (b2 ixM (vr 0) (cst (.int 0))) (b2 subM (b2 ixM (vr 0) (cst (.int 1))) (cst (.int 1)))))
    (sq (setIx (b2 modM (callM intOf (consA (b2 plusM (b2 plusM (b2 timesM (b2 ixM (vr 0) (cst (.int 2))) (cst (.int 48271))) (vr 3)) (cst (.int 11))) nilA)) (cst (.int 2147483647))) (vr 0) (cst (.int 2)))
    (sq (ifS (tst (b2 geM (vr 3) (b2 powM (cst (.int 10)) (cst (.int 18)))))
    (setIx (b2 fdivM (vr 3) (vr 1)) (vr 0) (cst (.int 3)))
    nextM)
    (retM (b2 modM (callM intOf (consA (vr 3) nilA)) (vr 1)))))))))
def m__law_taken : FM := dfM 2 4 b__law_taken
abbrev s__law_pick : Stmt := top 19
theorem sc__law_pick : FnScope ["_law_row", "_law_things"] ["_law_row", "_law_things"] (defScope s__law_pick) := ⟨rfl, rfl, rfl, by decide +kernel, rfl, by decide +kernel, by decide +kernel⟩
def b__law_pick : SM :=
    (retM (b2 ixM (vr 1) (callM m__law_taken (consA (vr 0) (consA (callM lenM (consA (vr 1) nilA)) nilA)))))
def m__law_pick : FM := dfM 2 2 b__law_pick
abbrev s__law_spelled : Stmt := top 21
theorem sc__law_spelled : FnScope ["_law_row", "_law_tree_here"] ["_law_row", "_law_tree_here"] (defScope s__law_spelled) := ⟨rfl, rfl, rfl, by decide +kernel, rfl, by decide +kernel, by decide +kernel⟩
def b__law_spelled (r__law_spelled : FM) : SM :=
    (sq (ifS (tst (b2 eqM (b2 ixM (vr 1) (cst (.int 0))) (cst (.str "x"))))
    (retM (fz (disp (consA (b2 plusM (cst (.str "x")) (callM strOf (consA (b2 ixM (vr 1) (cst (.int 1))) nilA))) nilA))))
    nextM)
    (sq (ifS (tst (b2 eqM (b2 ixM (vr 1) (cst (.int 0))) (cst (.str "not"))))
    (retM (b2 plusM (fz (disp (consA (cst (.str "not")) nilA))) (callM r__law_spelled (consA (vr 0) (consA (b2 ixM (vr 1) (cst (.int 1))) nilA)))))
    nextM)
    (retM (b2 plusM (b2 plusM (b2 plusM (b2 plusM (fz (disp (consA (cst (.str "(")) nilA))) (callM r__law_spelled (consA (vr 0) (consA (b2 ixM (vr 1) (cst (.int 1))) nilA)))) (fz (disp (consA (b2 ixM (vr 1) (cst (.int 0))) nilA)))) (callM r__law_spelled (consA (vr 0) (consA (b2 ixM (vr 1) (cst (.int 2))) nilA)))) (fz (disp (consA (cst (.str ")")) nilA)))))))
def S__law_spelled : Nat → FM
  | 0 => (dfM 2 2 (fun _ _ => .fail))
  | n + 1 => (dfM 2 2 (b__law_spelled (S__law_spelled n)))
def F__law_spelled (n : Nat) : FM := (S__law_spelled n)
theorem F__law_spelled_succ (n : Nat) : F__law_spelled (n + 1) = dfM 2 2 (b__law_spelled (F__law_spelled n)) := rfl
theorem F__law_spelled_zero : F__law_spelled 0 = dfM 2 2 (fun _ _ => .fail) := rfl
abbrev s__law_tree : Stmt := top 20
theorem sc__law_tree : FnScope ["_law_row", "_law_inputs", "_law_deep", "_law_way"] ["_law_row", "_law_inputs", "_law_deep"] (defScope s__law_tree) := ⟨rfl, rfl, rfl, by decide +kernel, rfl, by decide +kernel, by decide +kernel⟩
def b__law_tree (r__law_tree : FM) : SM :=
    (sq (setM 3 (ifM (tst (b2 gtM (vr 2) (cst (.int 0)))) (callM m__law_taken (consA (vr 0) (consA (cst (.int 6)) nilA))) (cst (.int 0))))
    (sq (ifS (tst (b2 ltM (vr 3) (cst (.int 2))))
    (retM (tupM (consA (cst (.str "x")) (consA (callM m__law_taken (consA (vr 0) (consA (vr 1) nilA))) nilA))))
    nextM)
    (sq (ifS (tst (b2 eqM (vr 3) (cst (.int 2))))
    (retM (tupM (consA (cst (.str "not")) (consA (callM r__law_tree (consA (vr 0) (consA (vr 1) (consA (b2 subM (vr 2) (cst (.int 1))) nilA)))) nilA))))
    nextM)
    (retM (tupM (consA (b2 ixM (fz (disp (consA (cst (.str "and")) (consA (cst (.str "or")) (consA (cst (.str "xor")) nilA))))) (b2 subM (vr 3) (cst (.int 3)))) (consA (callM r__law_tree (consA (vr 0) (consA (vr 1) (consA (b2 subM (vr 2) (cst (.int 1))) nilA)))) (consA (callM r__law_tree (consA (vr 0) (consA (vr 1) (consA (b2 subM (vr 2) (cst (.int 1))) nilA)))) nilA))))))))
def S__law_tree : Nat → FM
  | 0 => (dfM 3 4 (fun _ _ => .fail))
  | n + 1 => (dfM 3 4 (b__law_tree (S__law_tree n)))
def F__law_tree (n : Nat) : FM := (S__law_tree n)
theorem F__law_tree_succ (n : Nat) : F__law_tree (n + 1) = dfM 3 4 (b__law_tree (F__law_tree n)) := rfl
theorem F__law_tree_zero : F__law_tree 0 = dfM 3 4 (fun _ _ => .fail) := rfl
abbrev s_all_bits : Stmt := top 11
theorem sc_all_bits : FnScope ["inputs", "found", "turn", "bits"] ["inputs"] (defScope s_all_bits) := ⟨rfl, rfl, rfl, by decide +kernel, rfl, by decide +kernel, by decide +kernel⟩
def b_all_bits : SM :=
    (sq (setM 1 (fz (disp (consA (tupM nilA) nilA))))
    (sq (forM (itR1 (consA (vr 0) nilA)) (.nm 2)
    (setM 1 (b2 plusM (fz (lcM (itA (vr 1)) (.nm 3) yesM (b2 plusM (vr 3) (tupM (consA (cst (.int 0)) nilA))) [3])) (fz (lcM (itA (vr 1)) (.nm 3) yesM (b2 plusM (vr 3) (tupM (consA (cst (.int 1)) nilA))) [3])))))
    (retM (vr 1))))
def m_all_bits : FM := dfM 1 4 b_all_bits
abbrev s_is_plain : Stmt := top 13
theorem sc_is_plain : FnScope ["sign"] ["sign"] (defScope s_is_plain) := ⟨rfl, rfl, rfl, by decide +kernel, rfl, by decide +kernel, by decide +kernel⟩
def b_is_plain : SM :=
    (retM (b2 inM (vr 0) (cst (.str "abcdefghijklmnopqrstuvwxyz0123456789"))))
def m_is_plain : FM := dfM 1 1 b_is_plain
abbrev s_Reader_part : Stmt := ((clsB (top 12)).getD 1 (.Pass ⟨0, 0, 0, 0⟩))
theorem sc_Reader_part : FnScope ["self", "place", "sign", "end"] ["self"] (defScope s_Reader_part) := ⟨rfl, rfl, rfl, by decide +kernel, rfl, by decide +kernel, by decide +kernel⟩
def b_Reader_part : SM :=
    (sq (setM 1 (cst (.int 0)))
    (whGo (tst (b2 ltM (vr 1) (callM lenM (consA (fldM "Reader" "signs" (vr 0)) nilA))))
    (sq (setM 2 (b2 ixM (fldM "Reader" "signs" (vr 0)) (vr 1)))
    (sq (ifS (tst (b2 eqM (vr 2) (cst (.str " "))))
    (sq (augM 1 iaddM (cst (.int 1)))
    contM)
    nextM)
    (sq (setM 3 (b2 plusM (vr 1) (cst (.int 1))))
    (sq (whGo (andT (tst (callM m_is_plain (consA (vr 2) nilA))) (andT (tst (b2 ltM (vr 3) (callM lenM (consA (fldM "Reader" "signs" (vr 0)) nilA)))) (tst (callM m_is_plain (consA (b2 ixM (fldM "Reader" "signs" (vr 0)) (vr 3)) nilA)))))
    (augM 3 iaddM (cst (.int 1))) 100000)
    (sq (exprM (appM (fldM "Reader" "words" (vr 0)) (s3 sliceM (fldM "Reader" "signs" (vr 0)) (onO (vr 1)) (onO (vr 3)))))
    (sq (exprM (appM (fldM "Reader" "places" (vr 0)) (vr 1)))
    (setM 1 (vr 3)))))))) 100000))
def m_Reader_part : FM := dfM 1 4 b_Reader_part
abbrev s_Reader_init : Stmt := ((clsB (top 12)).getD 0 (.Pass ⟨0, 0, 0, 0⟩))
theorem sc_Reader_init : FnScope ["self", "text", "inputs"] ["self", "text", "inputs"] (defScope s_Reader_init) := ⟨rfl, rfl, rfl, by decide +kernel, rfl, by decide +kernel, by decide +kernel⟩
def b_Reader_init : SM :=
    (sq (fldS "Reader" "signs" (vr 1) (vr 0))
    (sq (fldS "Reader" "inputs" (vr 2) (vr 0))
    (sq (fldS "Reader" "words" (al (disp nilA)) (vr 0))
    (sq (fldS "Reader" "places" (al (disp nilA)) (vr 0))
    (sq (exprM (methM "Reader" "part" m_Reader_part (vr 0) nilA))
    (fldS "Reader" "at" (cst (.int 0)) (vr 0)))))))
def m_Reader_init : FM := dfM 3 3 b_Reader_init
abbrev s_Reader_fail : Stmt := ((clsB (top 12)).getD 3 (.Pass ⟨0, 0, 0, 0⟩))
theorem sc_Reader_fail : FnScope ["self"] ["self"] (defScope s_Reader_fail) := ⟨rfl, rfl, rfl, by decide +kernel, rfl, by decide +kernel, by decide +kernel⟩
abbrev s_BadSign_init : Stmt := ((clsB (top 4)).getD 0 (.Pass ⟨0, 0, 0, 0⟩))
theorem sc_BadSign_init : FnScope ["self", "place"] ["self", "place"] (defScope s_BadSign_init) := ⟨rfl, rfl, rfl, by decide +kernel, rfl, by decide +kernel, by decide +kernel⟩
def b_Reader_fail : SM :=
    (raise1 "BadSign" "place" (consA (ifM (tst (b2 ltM (fldM "Reader" "at" (vr 0)) (callM lenM (consA (fldM "Reader" "words" (vr 0)) nilA)))) (b2 ixM (fldM "Reader" "places" (vr 0)) (fldM "Reader" "at" (vr 0))) (callM lenM (consA (fldM "Reader" "signs" (vr 0)) nilA))) nilA))
def m_Reader_fail : FM := dfM 1 1 b_Reader_fail
abbrev s_Reader_word : Stmt := ((clsB (top 12)).getD 2 (.Pass ⟨0, 0, 0, 0⟩))
theorem sc_Reader_word : FnScope ["self"] ["self"] (defScope s_Reader_word) := ⟨rfl, rfl, rfl, by decide +kernel, rfl, by decide +kernel, by decide +kernel⟩
def b_Reader_word : SM :=
    (retM (ifM (tst (b2 ltM (fldM "Reader" "at" (vr 0)) (callM lenM (consA (fldM "Reader" "words" (vr 0)) nilA)))) (b2 ixM (fldM "Reader" "words" (vr 0)) (fldM "Reader" "at" (vr 0))) (cst (.str ""))))
def m_Reader_word : FM := dfM 1 1 b_Reader_word
abbrev s_Reader_formula : Stmt := ((clsB (top 12)).getD 4 (.Pass ⟨0, 0, 0, 0⟩))
theorem sc_Reader_formula : FnScope ["self", "deep", "word", "own"] ["self", "deep"] (defScope s_Reader_formula) := ⟨rfl, rfl, rfl, by decide +kernel, rfl, by decide +kernel, by decide +kernel⟩
abbrev s_Reader_pair : Stmt := ((clsB (top 12)).getD 5 (.Pass ⟨0, 0, 0, 0⟩))
theorem sc_Reader_pair : FnScope ["self", "deep", "one", "word", "other"] ["self", "deep"] (defScope s_Reader_pair) := ⟨rfl, rfl, rfl, by decide +kernel, rfl, by decide +kernel, by decide +kernel⟩
def b_Reader_formula (r_Reader_formula : FM) (r_Reader_pair : FM) : SM :=
    (sq (setM 2 (methM "Reader" "word" m_Reader_word (vr 0) nilA))
    (sq (ifS (tst (b2 gtM (vr 1) (cst (.int 20))))
    (exprM (methM "Reader" "fail" m_Reader_fail (vr 0) nilA))
    nextM)
    (sq (ifS (tst (b2 eqM (vr 2) (cst (.str "not"))))
    (sq (fldAug "Reader" "at" (fun i j => i + j) (vr 0) (cst (.int 1)))
    (retM (tupM (consA (cst (.str "not")) (consA (methM "Reader" "formula" r_Reader_formula (vr 0) (consA (b2 plusM (vr 1) (cst (.int 1))) nilA)) nilA)))))
    nextM)
    (sq (ifS (tst (b2 eqM (vr 2) (cst (.str "("))))
    (retM (methM "Reader" "pair" r_Reader_pair (vr 0) (consA (vr 1) nilA)))
    nextM)
    (sq (ifS (andT (tst (b2 eqM (s3 sliceM (vr 2) noO (onO (cst (.int 1)))) (cst (.str "x")))) (tst (b2 inM (s3 sliceM (vr 2) (onO (cst (.int 1))) noO) (fz (lcM (itR1 (consA (fldM "Reader" "inputs" (vr 0)) nilA)) (.nm 3) yesM (callM strOf (consA (vr 3) nilA)) [3])))))
    (sq (fldAug "Reader" "at" (fun i j => i + j) (vr 0) (cst (.int 1)))
    (retM (tupM (consA (cst (.str "x")) (consA (callM intOf (consA (s3 sliceM (vr 2) (onO (cst (.int 1))) noO) nilA)) nilA)))))
    nextM)
    (retM (methM "Reader" "fail" m_Reader_fail (vr 0) nilA)))))))
def b_Reader_pair (r_Reader_formula : FM) (r_Reader_pair : FM) : SM :=
    (sq (fldAug "Reader" "at" (fun i j => i + j) (vr 0) (cst (.int 1)))
    (sq (setM 2 (methM "Reader" "formula" r_Reader_formula (vr 0) (consA (b2 plusM (vr 1) (cst (.int 1))) nilA)))
    (sq (setM 3 (methM "Reader" "word" m_Reader_word (vr 0) nilA))
    (sq (ifS (tst (b2 ninM (vr 3) (tupM (consA (cst (.str "and")) (consA (cst (.str "or")) (consA (cst (.str "xor")) nilA))))))
    (exprM (methM "Reader" "fail" m_Reader_fail (vr 0) nilA))
    nextM)
    (sq (fldAug "Reader" "at" (fun i j => i + j) (vr 0) (cst (.int 1)))
    (sq (setM 4 (methM "Reader" "formula" r_Reader_formula (vr 0) (consA (b2 plusM (vr 1) (cst (.int 1))) nilA)))
    (sq (ifS (tst (b2 neM (methM "Reader" "word" m_Reader_word (vr 0) nilA) (cst (.str ")"))))
    (exprM (methM "Reader" "fail" m_Reader_fail (vr 0) nilA))
    nextM)
    (sq (fldAug "Reader" "at" (fun i j => i + j) (vr 0) (cst (.int 1)))
    (retM (tupM (consA (vr 3) (consA (vr 2) (consA (vr 4) nilA)))))))))))))
def S_Reader_formula : Nat → FM × FM
  | 0 => (dfM 2 4 (fun _ _ => .fail), dfM 2 5 (fun _ _ => .fail))
  | n + 1 => (dfM 2 4 (b_Reader_formula (S_Reader_formula n).1 (S_Reader_formula n).2), dfM 2 5 (b_Reader_pair (S_Reader_formula n).1 (S_Reader_formula n).2))
def F_Reader_formula (n : Nat) : FM := (S_Reader_formula n).1
def F_Reader_pair (n : Nat) : FM := (S_Reader_formula n).2
theorem F_Reader_formula_succ (n : Nat) : F_Reader_formula (n + 1) = dfM 2 4 (b_Reader_formula (F_Reader_formula n) (F_Reader_pair n)) := rfl
theorem F_Reader_formula_zero : F_Reader_formula 0 = dfM 2 4 (fun _ _ => .fail) := rfl
theorem F_Reader_pair_succ (n : Nat) : F_Reader_pair (n + 1) = dfM 2 5 (b_Reader_pair (F_Reader_formula n) (F_Reader_pair n)) := rfl
theorem F_Reader_pair_zero : F_Reader_pair 0 = dfM 2 5 (fun _ _ => .fail) := rfl
abbrev s_is_number : Stmt := top 6
theorem sc_is_number : FnScope ["value", "low", "high"] ["value", "low", "high"] (defScope s_is_number) := ⟨rfl, rfl, rfl, by decide +kernel, rfl, by decide +kernel, by decide +kernel⟩
def b_is_number : SM :=
    (retM (andV (isiM .int (vr 0)) (andV (notV (isiM .bl (vr 0))) (chM leM leM (vr 1) (vr 0) (vr 2)))))
def m_is_number : FM := dfM 3 3 b_is_number
abbrev s_need_number : Stmt := top 10
theorem sc_need_number : FnScope ["value", "low", "high"] ["value", "low", "high"] (defScope s_need_number) := ⟨rfl, rfl, rfl, by decide +kernel, rfl, by decide +kernel, by decide +kernel⟩
def b_need_number : SM :=
    (ifS (notT (tst (callM m_is_number (consA (vr 0) (consA (vr 1) (consA (vr 2) nilA))))))
    (raise0 "BadNumber")
    nextM)
def m_need_number : FM := dfM 3 3 b_need_number
abbrev s_tree_of : Stmt := top 14
theorem sc_tree_of : FnScope ["inputs", "text", "reader", "found"] ["inputs", "text"] (defScope s_tree_of) := ⟨rfl, rfl, rfl, by decide +kernel, rfl, by decide +kernel, by decide +kernel⟩
def b_tree_of : SM :=
    (sq (exprM (callM m_need_number (consA (vr 0) (consA (cst (.int 1)) (consA (cst (.int 6)) nilA)))))
    (sq (ifS (notT (tst (isiM .str (vr 1))))
    (raise0 "BadString")
    nextM)
    (sq (setM 2 (mkM "Reader" m_Reader_init (consA (vr 1) (consA (vr 0) nilA))))
    (sq (setM 3 (methM "Reader" "formula" (F_Reader_formula 30) (vr 2) (consA (cst (.int 0)) nilA)))
    (sq (ifS (tst (b2 neM (methM "Reader" "word" m_Reader_word (vr 2) nilA) (cst (.str ""))))
    (exprM (methM "Reader" "fail" m_Reader_fail (vr 2) nilA))
    nextM)
    (retM (vr 3)))))))
def m_tree_of : FM := dfM 2 4 b_tree_of
abbrev s_worth_of : Stmt := top 15
theorem sc_worth_of : FnScope ["tree", "bits", "one", "other"] ["tree", "bits"] (defScope s_worth_of) := ⟨rfl, rfl, rfl, by decide +kernel, rfl, by decide +kernel, by decide +kernel⟩
def b_worth_of (r_worth_of : FM) : SM :=
    (sq (ifS (tst (b2 eqM (b2 ixM (vr 0) (cst (.int 0))) (cst (.str "x"))))
    (retM (b2 ixM (vr 1) (b2 ixM (vr 0) (cst (.int 1)))))
    nextM)
    (sq (ifS (tst (b2 eqM (b2 ixM (vr 0) (cst (.int 0))) (cst (.str "not"))))
    (retM (b2 subM (cst (.int 1)) (callM r_worth_of (consA (b2 ixM (vr 0) (cst (.int 1))) (consA (vr 1) nilA)))))
    nextM)
    (sq (parM 2 3 (consA (callM r_worth_of (consA (b2 ixM (vr 0) (cst (.int 1))) (consA (vr 1) nilA))) (consA (callM r_worth_of (consA (b2 ixM (vr 0) (cst (.int 2))) (consA (vr 1) nilA))) nilA)))
    (sq (ifS (tst (b2 eqM (b2 ixM (vr 0) (cst (.int 0))) (cst (.str "and"))))
    (retM (b2 timesM (vr 2) (vr 3)))
    nextM)
    (retM (ifM (tst (b2 eqM (b2 ixM (vr 0) (cst (.int 0))) (cst (.str "or")))) (callM maxM (consA (vr 2) (consA (vr 3) nilA))) (b2 modM (b2 plusM (vr 2) (vr 3)) (cst (.int 2)))))))))
def S_worth_of : Nat → FM
  | 0 => (dfM 2 4 (fun _ _ => .fail))
  | n + 1 => (dfM 2 4 (b_worth_of (S_worth_of n)))
def F_worth_of (n : Nat) : FM := (S_worth_of n)
theorem F_worth_of_succ (n : Nat) : F_worth_of (n + 1) = dfM 2 4 (b_worth_of (F_worth_of n)) := rfl
theorem F_worth_of_zero : F_worth_of 0 = dfM 2 4 (fun _ _ => .fail) := rfl
abbrev s_table_of : Stmt := top 16
theorem sc_table_of : FnScope ["inputs", "text", "tree", "bits"] ["inputs", "text"] (defScope s_table_of) := ⟨rfl, rfl, rfl, by decide +kernel, rfl, by decide +kernel, by decide +kernel⟩
def b_table_of : SM :=
    (sq (setM 2 (callM m_tree_of (consA (vr 0) (consA (vr 1) nilA))))
    (retM (callM tupOf (consA (fz (lcM (itA (callM m_all_bits (consA (vr 0) nilA))) (.nm 3) yesM (callM (F_worth_of 20) (consA (vr 2) (consA (vr 3) nilA))) [3])) nilA))))
def m_table_of : FM := dfM 2 4 b_table_of
abbrev s_law : Stmt := top 23
theorem sc_law : FnScope ["_law_script", "_law_row", "_law_inputs", "_law_words", "_law_at", "_law_way", "_law_odd", "_law_text", "_law_places", "_law_word", "_law_due", "e"] ["_law_script"] (defScope s_law) := ⟨rfl, rfl, rfl, by decide +kernel, rfl, by decide +kernel, by decide +kernel⟩
def x_law_BadSign (c : Str) : Option Bool := if c = "BadNumber" then some false else if c = "BadString" then some false else if c = "BadSign" then some true else none
def q_law_0 : SM :=
    (setM 1 (al (disp (consA (vr 0) (consA (cst (.int 0)) (consA (cst (.int 7705)) (consA (cst (.int 0)) nilA)))))))
def q_law_1 : SM :=
    (setM 2 (b2 plusM (cst (.int 1)) (callM m__law_taken (consA (vr 1) (consA (cst (.int 4)) nilA)))))
def q_law_2 : SM :=
    (setM 3 (callM (F__law_spelled 8) (consA (vr 1) (consA (callM (F__law_tree 6) (consA (vr 1) (consA (vr 2) (consA (cst (.int 3)) nilA)))) nilA))))
def q_law_3 : SM :=
    (parM 4 5 (consA (callM m__law_taken (consA (vr 1) (consA (callM lenM (consA (vr 3) nilA)) nilA))) (consA (callM m__law_taken (consA (vr 1) (consA (cst (.int 4)) nilA))) nilA)))
def q_law_4 : SM :=
    (setM 6 (callM m__law_pick (consA (vr 1) (consA (fz (disp (consA (cst (.str "x9")) (consA (cst (.str "x")) (consA (cst (.str "not")) (consA (cst (.str "and")) (consA (cst (.str "(")) (consA (cst (.str ")")) (consA (cst (.str "xor")) (consA (cst (.str "nor")) (consA (cst (.str "x00")) (consA (cst (.str "0")) (consA (cst (.str "+")) (consA (b2 plusM (cst (.str "x")) (callM strOf (consA (vr 2) nilA))) (consA (cst (.str "X0")) nilA))))))))))))))) nilA))))
def q_law_5 : SM :=
    (ifS (tst (b2 eqM (vr 5) (cst (.int 0))))
    (setM 3 (b2 plusM (b2 plusM (s3 sliceM (vr 3) noO (onO (vr 4))) (fz (disp (consA (vr 6) nilA)))) (s3 sliceM (vr 3) (onO (b2 plusM (vr 4) (cst (.int 1)))) noO)))
    nextM)
def q_law_6 : SM :=
    (ifS (tst (b2 eqM (vr 5) (cst (.int 1))))
    (setM 3 (b2 plusM (s3 sliceM (vr 3) noO (onO (vr 4))) (s3 sliceM (vr 3) (onO (b2 plusM (vr 4) (cst (.int 1)))) noO)))
    nextM)
def q_law_7 : SM :=
    (ifS (tst (b2 eqM (vr 5) (cst (.int 2))))
    (setM 3 (b2 plusM (b2 plusM (s3 sliceM (vr 3) noO (onO (vr 4))) (fz (disp (consA (vr 6) nilA)))) (s3 sliceM (vr 3) (onO (vr 4)) noO)))
    nextM)
def q_law_8 : SM :=
    (parM 7 8 (consA (cst (.str "")) (consA (al (disp nilA)) nilA)))
def q_law_9 : SM :=
    (forM (itA (vr 3)) (.nm 9)
    (sq (setM 7 (b2 plusM (vr 7) (b2 timesM (cst (.str " ")) (b2 plusM (cst (.int 1)) (callM m__law_taken (consA (vr 1) (consA (cst (.int 2)) nilA)))))))
    (sq (exprM (appM (vr 8) (callM lenM (consA (vr 7) nilA))))
    (setM 7 (b2 plusM (vr 7) (vr 9))))))
def q_law_10 : SM :=
    (setM 7 (b2 plusM (vr 7) (b2 timesM (cst (.str " ")) (callM m__law_taken (consA (vr 1) (consA (cst (.int 2)) nilA))))))
def q_law_11 : SM :=
    (setM 10 (callM m__law_first (consA (vr 3) (consA (vr 2) nilA))))
def q_law_12 : SM :=
    (ifS (tst (b2 notNM (vr 10) (cst .non)))
    (setM 10 (ifM (tst (b2 ltM (vr 10) (callM lenM (consA (vr 3) nilA)))) (b2 ixM (vr 8) (vr 10)) (callM lenM (consA (vr 7) nilA))))
    nextM)
def q_law_13 : SM :=
    (tryM (sq (exprM (callM m_table_of (consA (vr 2) (consA (vr 7) nilA))))
    (retM (b2 isNM (vr 10) (cst .non)))) x_law_BadSign 11 (fun c fs => (retM (b2 eqM (xfM c fs "BadSign" "place") (vr 10)))))
def b_law : SM :=
    (sq q_law_0 (sq q_law_1 (sq q_law_2 (sq q_law_3 (sq q_law_4 (sq q_law_5 (sq q_law_6 (sq q_law_7 (sq q_law_8 (sq q_law_9 (sq q_law_10 (sq q_law_11 (sq q_law_12 q_law_13)))))))))))))
def m_law : FM := dfM 1 12 b_law
def fa : List He.Fa := [.free "enumerate",
  .free "range",
  .free "str",
  .free "len",
  .glo "_law_first",
  .free "int",
  .glo "_law_taken",
  .glo "_law_pick",
  .glo "_law_spelled",
  .glo "_law_tree",
  .glo "all_bits",
  .glo "is_plain",
  .cls "Reader",
  .noat "Reader" "signs",
  .noat "Reader" "words",
  .noat "Reader" "places",
  .meth "Reader" "part",
  .noat "Reader" "inputs",
  .noat "Reader" "at",
  .glo "Reader",
  .mkr "Reader",
  .glo "BadSign",
  .meth "BadSign" "__init__",
  .noat "BadSign" "place",
  .meth "Reader" "fail",
  .meth "Reader" "word",
  .int "MOST_DEEP" 20,
  .meth "Reader" "formula",
  .meth "Reader" "pair",
  .free "isinstance",
  .free "bool",
  .glo "is_number",
  .exc "BadNumber",
  .glo "BadNumber",
  .glo "need_number",
  .int "MOST_INPUTS" 6,
  .exc "BadString",
  .glo "BadString",
  .glo "tree_of",
  .free "max",
  .glo "worth_of",
  .free "tuple",
  .glo "table_of",
  .exm "BadNumber" "BadSign" false,
  .exm "BadString" "BadSign" false,
  .exm "BadSign" "BadSign" true,
  .glo "law"]
def fx : List Fx := [.oex "BadSign",
  .xf "BadSign"]
def fn : List He.DefD := [⟨("_law_first", none), "_law_first", "_law_first", defArgs s__law_first, defBody s__law_first, defScope s__law_first, [], []⟩,
  ⟨("_law_taken", none), "_law_taken", "_law_taken", defArgs s__law_taken, defBody s__law_taken, defScope s__law_taken, [], []⟩,
  ⟨("_law_pick", none), "_law_pick", "_law_pick", defArgs s__law_pick, defBody s__law_pick, defScope s__law_pick, [], []⟩,
  ⟨("_law_spelled", none), "_law_spelled", "_law_spelled", defArgs s__law_spelled, defBody s__law_spelled, defScope s__law_spelled, [], []⟩,
  ⟨("_law_tree", none), "_law_tree", "_law_tree", defArgs s__law_tree, defBody s__law_tree, defScope s__law_tree, [], []⟩,
  ⟨("all_bits", none), "all_bits", "all_bits", defArgs s_all_bits, defBody s_all_bits, defScope s_all_bits, [], []⟩,
  ⟨("is_plain", none), "is_plain", "is_plain", defArgs s_is_plain, defBody s_is_plain, defScope s_is_plain, [], []⟩,
  ⟨("Reader", some "part"), "part", "Reader.part", defArgs s_Reader_part, defBody s_Reader_part, defScope s_Reader_part, [], []⟩,
  ⟨("Reader", some "__init__"), "__init__", "Reader.__init__", defArgs s_Reader_init, defBody s_Reader_init, defScope s_Reader_init, [], []⟩,
  ⟨("Reader", some "fail"), "fail", "Reader.fail", defArgs s_Reader_fail, defBody s_Reader_fail, defScope s_Reader_fail, [], []⟩,
  ⟨("BadSign", some "__init__"), "__init__", "BadSign.__init__", defArgs s_BadSign_init, defBody s_BadSign_init, defScope s_BadSign_init, [], []⟩,
  ⟨("Reader", some "word"), "word", "Reader.word", defArgs s_Reader_word, defBody s_Reader_word, defScope s_Reader_word, [], []⟩,
  ⟨("Reader", some "formula"), "formula", "Reader.formula", defArgs s_Reader_formula, defBody s_Reader_formula, defScope s_Reader_formula, [], []⟩,
  ⟨("Reader", some "pair"), "pair", "Reader.pair", defArgs s_Reader_pair, defBody s_Reader_pair, defScope s_Reader_pair, [], []⟩,
  ⟨("is_number", none), "is_number", "is_number", defArgs s_is_number, defBody s_is_number, defScope s_is_number, [], []⟩,
  ⟨("need_number", none), "need_number", "need_number", defArgs s_need_number, defBody s_need_number, defScope s_need_number, [], []⟩,
  ⟨("tree_of", none), "tree_of", "tree_of", defArgs s_tree_of, defBody s_tree_of, defScope s_tree_of, [], []⟩,
  ⟨("worth_of", none), "worth_of", "worth_of", defArgs s_worth_of, defBody s_worth_of, defScope s_worth_of, [], []⟩,
  ⟨("table_of", none), "table_of", "table_of", defArgs s_table_of, defBody s_table_of, defScope s_table_of, [], []⟩,
  ⟨("law", none), "law", "law", defArgs s_law, defBody s_law, defScope s_law, [], []⟩]
theorem x_law_BadSign_ok {K : PySem.W.Frag} {mg : Str → Option Value} (T : Tp fa fx fn K mg) (c : Str) (b : Bool) (h : x_law_BadSign c = some b) : PySem.W.exmOne K (.ref (He.ga K c)) (.ref (He.ga K "BadSign")) = some b := by
  unfold x_law_BadSign at h
  by_cases h0 : c = "BadNumber"
  · rw [if_pos h0] at h; cases h; subst h0; exact T.exm 43
  rw [if_neg h0] at h
  by_cases h1 : c = "BadString"
  · rw [if_pos h1] at h; cases h; subst h1; exact T.exm 44
  rw [if_neg h1] at h
  by_cases h2 : c = "BadSign"
  · rw [if_pos h2] at h; cases h; subst h2; exact T.exm 45
  rw [if_neg h2] at h
  cases h
section
variable {P : Program} {w : World} {K : PySem.W.Frag} {mg : Str → Option Value} {base : Heap}
theorem d__law_first (T : Tp fa fx fn K mg) : Dfn P w K mg base "_law_first" 2 2 m__law_first := by
  obtain ⟨fd, F⟩ := T.def_ 0
  exact (.mk1 (ps := ["_law_words", "_law_inputs"]) rfl (fn_mk F sc__law_first fun cdv A outer s H E cx => (mss_cons (ms_set 2 (me_fz (ml_disp (ma_cons me_str ma_nil))) cx.nd)
    (mss_cons (ms_for cx (mi_enum (T.free 0) (me_var 0)) (mg_tup cx.calm (mgs_cons (mg_nm 3 cx.nd) (mgs_cons (mg_nm 4 cx.nd) mgs_nil)))
    (mss_cons (ms_if (mt_cmp ((op_eqD (un64 cx)).or op_eq) opm_eq (nomark _) (me_var 2) (me_fz (ml_disp ma_nil)))
    (mss_one (ms_ret (me_var 3)))
    mss_nil)
    (mss_cons (ms_par 5 2 (ma_cons (me_ix (me_var 2) me_int) (ma_cons (me_slice (me_var 2) (mo_some me_int) mo_none) ma_nil)) cx.calm cx.nd)
    (mss_one (ms_if (mt_cmp ((op_eqD (un64 cx)).or op_eq) opm_eq (nomark _) (me_var 5) me_str)
    (mss_one (ms_if (mt_cmp ((op_eqD (un64 cx)).or op_eq) opm_eq (nomark _) (me_var 4) me_str)
    (mss_one (ms_set 2 (me_plus (me_fz (ml_disp (ma_cons me_str ma_nil))) (me_var 2)) cx.nd))
    (mss_one (ms_if (mt_cmp ((op_eqD (un64 cx)).or op_eq) opm_eq (nomark _) (me_var 4) me_str)
    (mss_one (ms_set 2 (me_plus (me_fz (ml_disp (ma_cons me_str (ma_cons me_str (ma_cons me_str (ma_cons me_str ma_nil)))))) (me_var 2)) cx.nd))
    (mss_one (ms_if (mt_cmp ((op_notInD (un65 cx)).or (op_notIn_seq.or op_notIn_sign)) opm_nin (by with_unfolding_all rfl) (me_var 4) (me_fz (ml_lc [("_law_own", 6)] cx (mi_range1 (T.free 1) (ma_cons (me_var 1) ma_nil)) (fun _ _ _ _ _ => (mg_nm 6 cx.nd)) (fun _ _ _ _ _ => mts_nil) (fun _ _ _ _ _ c1 => (me_plus me_str (me_ty (call_str_int.or SkE.call_str_str) cal_str bt_str (T.free 2) (ma_cons (me_var 6) ma_nil)))) (by show blkC ["_law_words", "_law_inputs", "_law_want", "_law_at", "_law_word", "_law_need", "_law_own"] (defScope s__law_first) _ _ = true; decide +kernel))))
    (mss_one (ms_ret (me_var 3)))
    mss_nil))))))
    (mss_one (ms_if (mt_w (mw_or (mt_w (mw_and (mt_cmp ((op_eqD (un64 cx)).or op_eq) opm_eq (nomark _) (me_var 5) me_str) (mw_one_and (mt_cmp ((op_notInD (un65 cx)).or (op_notIn_seq.or op_notIn_sign)) opm_nin (by with_unfolding_all rfl) (me_var 4) (me_fz (ml_disp (ma_cons me_str (ma_cons me_str (ma_cons me_str ma_nil))))))))) (mw_one_or (mt_w (mw_and (mt_cmp ((op_eqD (un64 cx)).or op_eq) opm_eq (nomark _) (me_var 5) me_str) (mw_one_and (mt_cmp ((op_neD (un64 cx)).or op_ne) opm_ne (nomark _) (me_var 4) me_str)))))))
    (mss_one (ms_ret (me_var 3)))
    mss_nil)))))))
    (mss_one (ms_ret (me_if (mt_cmp ((op_neD (un64 cx)).or op_ne) opm_ne (nomark _) (me_var 2) (me_fz (ml_disp ma_nil))) (me_blt call_len cal_len bt_len (T.free 3) (ma_cons (me_var 0) ma_nil)) me_non)))))) (T.glo 4) F.kp (F.bindsN fun _ _ _ _ _ _ us hl => match us, hl with | [_, _], _ => rfl))
theorem d__law_taken (T : Tp fa fx fn K mg) : Dfn P w K mg base "_law_taken" 2 2 m__law_taken := by
  obtain ⟨fd, F⟩ := T.def_ 1
  exact (.mk1 (ps := ["_law_row", "_law_many"]) rfl (fn_mk F sc__law_taken fun cdv A outer s H E cx => (mss_cons (ms_if (mt_cmp op_gt opm_cmp (nomark _) (me_ix (me_var 0) me_int) me_int)
    (mss_cons (ms_set 2 (me_mod (me_ty (call_int1.or call_int_str) cal_int bt_int (T.free 5) (ma_cons (me_ix (me_var 0) me_int) ma_nil)) (me_var 1)) cx.nd)
    (mss_cons (ms_setIx (me_fdiv (me_ix (me_var 0) me_int) (me_var 1)) (me_var 0) me_int)
    (mss_one (ms_ret (me_var 2)))))
    mss_nil)
    (mss_cons (ms_setIx (me_plus (me_ix (me_var 0) me_int) me_int) (me_var 0) me_int)
    (mss_cons (ms_if (mt_cmp op_gt opm_cmp (nomark _) (me_ix (me_var 0) me_int) (me_blt call_len cal_len bt_len (T.free 3) (ma_cons (me_ix (me_var 0) me_int) ma_nil)))
    (mss_cons (ms_setIx (me_mod (me_ty (call_int1.or call_int_str) cal_int bt_int (T.free 5) (ma_cons (me_plus (me_times (me_ix (me_var 0) me_int) me_int) me_int) ma_nil)) me_int) (me_var 0) me_int)
    (mss_one (ms_ret (me_mod (me_ty (call_int1.or call_int_str) cal_int bt_int (T.free 5) (ma_cons (me_fdiv (me_ix (me_var 0) me_int) me_int) ma_nil)) (me_var 1)))))
    mss_nil)
    (mss_cons (ms_set 3 (me_ix (me_ix (me_var 0) me_int) (me_sub (me_ix (me_var 0) me_int) me_int)) cx.nd)
    (mss_cons (ms_setIx (me_mod (me_ty (call_int1.or call_int_str) cal_int bt_int (T.free 5) (ma_cons (me_plus (me_plus (me_times (me_ix (me_var 0) me_int) me_int) (me_var 3)) me_int) ma_nil)) me_int) (me_var 0) me_int)
    (mss_cons (ms_if (mt_cmp op_ge opm_cmp (nomark _) (me_var 3) (me_pow me_int me_int))
    (mss_one (ms_setIx (me_fdiv (me_var 3) (me_var 1)) (me_var 0) me_int))
    mss_nil)
    (mss_one (ms_ret (me_mod (me_ty (call_int1.or call_int_str) cal_int bt_int (T.free 5) (ma_cons (me_var 3) ma_nil)) (me_var 1))))))))))) (T.glo 6) F.kp (F.bindsN fun _ _ _ _ _ _ us hl => match us, hl with | [_, _], _ => rfl))
theorem d__law_pick (T : Tp fa fx fn K mg) : Dfn P w K mg base "_law_pick" 2 3 m__law_pick := by
  obtain ⟨fd, F⟩ := T.def_ 2
  exact (.mk1 (ps := ["_law_row", "_law_things"]) rfl (fn_mk F sc__law_pick fun cdv A outer s H E cx => (mss_one (ms_ret (me_ix (me_var 1) (me_call cx (d__law_taken T) (ma_cons (me_var 0) (ma_cons (me_blt call_len cal_len bt_len (T.free 3) (ma_cons (me_var 1) ma_nil)) ma_nil)) (argN_cons (argN_cons argN_nil)) (by omega)))))) (T.glo 7) F.kp (F.bindsN fun _ _ _ _ _ _ us hl => match us, hl with | [_, _], _ => rfl))
theorem S__law_spelled_ok (T : Tp fa fx fn K mg) : ∀ n : Nat, Dfn P w K mg base "_law_spelled" 2 (n + 1) (F__law_spelled n)
  | 0 => by
    obtain ⟨fd0, F0⟩ := T.def_ 3
    exact (.mk1 (ps := ["_law_row", "_law_tree_here"]) rfl (fn_mk (j := 0) F0 sc__law_spelled fun cdv A outer s H E cx => mss_fail) (T.glo 8) F0.kp (F0.bindsN fun _ _ _ _ _ _ us hl => match us, hl with | [_, _], _ => rfl))
  | n + 1 => by
    have ih := S__law_spelled_ok T n
    obtain ⟨fd0, F0⟩ := T.def_ 3
    exact (.mk1 (ps := ["_law_row", "_law_tree_here"]) rfl (fn_mk (j := n + 1) F0 sc__law_spelled fun cdv A outer s H E cx => (mss_cons (ms_if (mt_cmp ((op_eqD (un64 cx)).or op_eq) opm_eq (nomark _) (me_ix (me_var 1) me_int) me_str)
    (mss_one (ms_ret (me_fz (ml_disp (ma_cons (me_plus me_str (me_ty (call_str_int.or SkE.call_str_str) cal_str bt_str (T.free 2) (ma_cons (me_ix (me_var 1) me_int) ma_nil))) ma_nil)))))
    mss_nil)
    (mss_cons (ms_if (mt_cmp ((op_eqD (un64 cx)).or op_eq) opm_eq (nomark _) (me_ix (me_var 1) me_int) me_str)
    (mss_one (ms_ret (me_plus (me_fz (ml_disp (ma_cons me_str ma_nil))) (me_call cx ih (ma_cons (me_var 0) (ma_cons (me_ix (me_var 1) me_int) ma_nil)) (argN_cons (argN_cons argN_nil)) (by omega)))))
    mss_nil)
    (mss_one (ms_ret (me_plus (me_plus (me_plus (me_plus (me_fz (ml_disp (ma_cons me_str ma_nil))) (me_call cx ih (ma_cons (me_var 0) (ma_cons (me_ix (me_var 1) me_int) ma_nil)) (argN_cons (argN_cons argN_nil)) (by omega))) (me_fz (ml_disp (ma_cons (me_ix (me_var 1) me_int) ma_nil)))) (me_call cx ih (ma_cons (me_var 0) (ma_cons (me_ix (me_var 1) me_int) ma_nil)) (argN_cons (argN_cons argN_nil)) (by omega))) (me_fz (ml_disp (ma_cons me_str ma_nil))))))))) (T.glo 8) F0.kp (F0.bindsN fun _ _ _ _ _ _ us hl => match us, hl with | [_, _], _ => rfl))
theorem d__law_spelled (T : Tp fa fx fn K mg) : Dfn P w K mg base "_law_spelled" 2 9 (F__law_spelled 8) := (S__law_spelled_ok T 8)
theorem S__law_tree_ok (T : Tp fa fx fn K mg) : ∀ n : Nat, Dfn P w K mg base "_law_tree" 3 (n + 2) (F__law_tree n)
  | 0 => by
    obtain ⟨fd0, F0⟩ := T.def_ 4
    exact (.mk1 (ps := ["_law_row", "_law_inputs", "_law_deep"]) rfl (fn_mk (j := 1) F0 sc__law_tree fun cdv A outer s H E cx => mss_fail) (T.glo 9) F0.kp (F0.bindsN fun _ _ _ _ _ _ us hl => match us, hl with | [_, _, _], _ => rfl))
  | n + 1 => by
    have ih := S__law_tree_ok T n
    obtain ⟨fd0, F0⟩ := T.def_ 4
    exact (.mk1 (ps := ["_law_row", "_law_inputs", "_law_deep"]) rfl (fn_mk (j := n + 2) F0 sc__law_tree fun cdv A outer s H E cx => (mss_cons (ms_set 3 (me_if (mt_cmp op_gt opm_cmp (nomark _) (me_var 2) me_int) (me_call cx (d__law_taken T) (ma_cons (me_var 0) (ma_cons me_int ma_nil)) (argN_cons (argN_cons argN_nil)) (by omega)) me_int) cx.nd)
    (mss_cons (ms_if (mt_cmp op_lt opm_cmp (nomark _) (me_var 3) me_int)
    (mss_one (ms_ret (me_tup (ma_cons me_str (ma_cons (me_call cx (d__law_taken T) (ma_cons (me_var 0) (ma_cons (me_var 1) ma_nil)) (argN_cons (argN_cons argN_nil)) (by omega)) ma_nil)))))
    mss_nil)
    (mss_cons (ms_if (mt_cmp ((op_eqD (un64 cx)).or op_eq) opm_eq (nomark _) (me_var 3) me_int)
    (mss_one (ms_ret (me_tup (ma_cons me_str (ma_cons (me_call cx ih (ma_cons (me_var 0) (ma_cons (me_var 1) (ma_cons (me_sub (me_var 2) me_int) ma_nil))) (argN_cons (argN_cons (argN_cons argN_nil))) (by omega)) ma_nil)))))
    mss_nil)
    (mss_one (ms_ret (me_tup (ma_cons (me_ix (me_fz (ml_disp (ma_cons me_str (ma_cons me_str (ma_cons me_str ma_nil))))) (me_sub (me_var 3) me_int)) (ma_cons (me_call cx ih (ma_cons (me_var 0) (ma_cons (me_var 1) (ma_cons (me_sub (me_var 2) me_int) ma_nil))) (argN_cons (argN_cons (argN_cons argN_nil))) (by omega)) (ma_cons (me_call cx ih (ma_cons (me_var 0) (ma_cons (me_var 1) (ma_cons (me_sub (me_var 2) me_int) ma_nil))) (argN_cons (argN_cons (argN_cons argN_nil))) (by omega)) ma_nil)))))))))) (T.glo 9) F0.kp (F0.bindsN fun _ _ _ _ _ _ us hl => match us, hl with | [_, _, _], _ => rfl))
theorem d__law_tree (T : Tp fa fx fn K mg) : Dfn P w K mg base "_law_tree" 3 8 (F__law_tree 6) := (S__law_tree_ok T 6)
theorem d_all_bits (T : Tp fa fx fn K mg) : Dfn P w K mg base "all_bits" 1 2 m_all_bits := by
  obtain ⟨fd, F⟩ := T.def_ 5
  exact (.mk1 (ps := ["inputs"]) rfl (fn_mk F sc_all_bits fun cdv A outer s H E cx => (mss_cons (ms_set 1 (me_fz (ml_disp (ma_cons (me_tup ma_nil) ma_nil))) cx.nd)
    (mss_cons (ms_for cx (mi_range1 (T.free 1) (ma_cons (me_var 0) ma_nil)) (mg_nm 2 cx.nd)
    (mss_one (ms_set 1 (me_plus (me_fz (ml_lc [("bits", 3)] cx (mi_any (me_var 1)) (fun _ _ _ _ _ => (mg_nm 3 cx.nd)) (fun _ _ _ _ _ => mts_nil) (fun _ _ _ _ _ c1 => (me_plus (me_var 3) (me_tup (ma_cons me_int ma_nil)))) (by show blkC ["inputs", "found", "turn", "bits"] (defScope s_all_bits) _ _ = true; decide +kernel))) (me_fz (ml_lc [("bits", 3)] cx (mi_any (me_var 1)) (fun _ _ _ _ _ => (mg_nm 3 cx.nd)) (fun _ _ _ _ _ => mts_nil) (fun _ _ _ _ _ c2 => (me_plus (me_var 3) (me_tup (ma_cons me_int ma_nil)))) (by show blkC ["inputs", "found", "turn", "bits"] (defScope s_all_bits) _ _ = true; decide +kernel)))) cx.nd)))
    (mss_one (ms_ret (me_var 1)))))) (T.glo 10) F.kp (F.bindsN fun _ _ _ _ _ _ us hl => match us, hl with | [_], _ => rfl))
theorem d_is_plain (T : Tp fa fx fn K mg) : Dfn P w K mg base "is_plain" 1 2 m_is_plain := by
  obtain ⟨fd, F⟩ := T.def_ 6
  exact (.mk1 (ps := ["sign"]) rfl (fn_mk F sc_is_plain fun cdv A outer s H E cx => (mss_one (ms_ret (me_cmp ((op_inD (un65 cx)).or (op_in_seq.or op_in_sign)) opm_in (by with_unfolding_all rfl) (me_var 0) me_str)))) (T.glo 11) F.kp (F.bindsN fun _ _ _ _ _ _ us hl => match us, hl with | [_], _ => rfl))
theorem d_Reader_part (T : Tp fa fx fn K mg) : Mfn P w K mg base "Reader" "part" 1 3 m_Reader_part := by
  obtain ⟨fd, F⟩ := T.def_ 7
  exact (.mk1 (ps := ["self"]) rfl (T.cls 12) (fn_mk F sc_Reader_part fun cdv A outer s H E cx => (mss_cons (ms_set 1 me_int cx.nd)
    (mss_one (ms_while cx 100000 (mt_cmp op_lt opm_cmp (nomark _) (me_var 1) (me_blt call_len cal_len bt_len (T.free 3) (ma_cons (me_fld (T.cls 12) (T.noat 13) (me_var 0)) ma_nil)))
    (mss_cons (ms_set 2 (me_ix (me_fld (T.cls 12) (T.noat 13) (me_var 0)) (me_var 1)) cx.nd)
    (mss_cons (ms_if (mt_cmp ((op_eqD (un64 cx)).or op_eq) opm_eq (nomark _) (me_var 2) me_str)
    (mss_cons (ms_aug 1 iop_add opm_int me_int cx.nd)
    (mss_one ms_cont))
    mss_nil)
    (mss_cons (ms_set 3 (me_plus (me_var 1) me_int) cx.nd)
    (mss_cons (ms_while cx 100000 (mt_w (mw_and (mt_val (me_call cx (d_is_plain T) (ma_cons (me_var 2) ma_nil) (argN_cons argN_nil) (by omega))) (mw_and (mt_cmp op_lt opm_cmp (nomark _) (me_var 3) (me_blt call_len cal_len bt_len (T.free 3) (ma_cons (me_fld (T.cls 12) (T.noat 13) (me_var 0)) ma_nil))) (mw_one_and (mt_val (me_call cx (d_is_plain T) (ma_cons (me_ix (me_fld (T.cls 12) (T.noat 13) (me_var 0)) (me_var 3)) ma_nil) (argN_cons argN_nil) (by omega)))))))
    (mss_one (ms_aug 3 iop_add opm_int me_int cx.nd)))
    (mss_cons (ms_expr (me_app (me_fld (T.cls 12) (T.noat 14) (me_var 0)) (me_slice (me_fld (T.cls 12) (T.noat 13) (me_var 0)) (mo_some (me_var 1)) (mo_some (me_var 3)))))
    (mss_cons (ms_expr (me_app (me_fld (T.cls 12) (T.noat 15) (me_var 0)) (me_var 1)))
    (mss_one (ms_set 1 (me_var 3) cx.nd)))))))))))) (T.meth 16) (F.bindsN fun _ _ _ _ _ _ us hl => match us, hl with | [_], _ => rfl))
theorem k_Reader_init (T : Tp fa fx fn K mg) : Mkn P w K mg base "Reader" 3 4 m_Reader_init := by
  obtain ⟨fd, F⟩ := T.def_ 8
  exact (.mk1 (ps := ["self", "text", "inputs"]) rfl (T.glo 19) (T.mkr 20) (fn_mk F sc_Reader_init fun cdv A outer s H E cx => (mss_cons (ms_fld (T.cls 12) (T.noat 13) (me_var 0) (me_var 1))
    (mss_cons (ms_fld (T.cls 12) (T.noat 17) (me_var 0) (me_var 2))
    (mss_cons (ms_fld (T.cls 12) (T.noat 14) (me_var 0) (me_al (ml_disp ma_nil)))
    (mss_cons (ms_fld (T.cls 12) (T.noat 15) (me_var 0) (me_al (ml_disp ma_nil)))
    (mss_cons (ms_expr (me_meth0 _ cx (d_Reader_part T) (me_var 0) (by omega)))
    (mss_one (ms_fld (T.cls 12) (T.noat 18) (me_var 0) me_int)))))))) (F.bindsN fun _ _ _ _ _ _ us hl => match us, hl with | [_, _, _], _ => rfl))
theorem d_BadSign_exc (T : Tp fa fx fn K mg) : ExcI P w K mg base "BadSign" 1 1 (spI1 K "BadSign" "place") := by
  obtain ⟨fd, F⟩ := T.def_ 10
  exact ⟨T.oex 0, T.glo 21, _, fd, ["self", "place"], rfl, (T.meth 22).at_, beq_iff_eq.mp (T.meth 22).fn, init1_ok F sc_BadSign_init rfl fun cdv A outer s H E => pss_one (ps_ost (pe_var (i := 0) rfl (by first | exact Or.inl rfl | exact Or.inr (Or.inl rfl) | exact Or.inr (Or.inr rfl))) (pe_var (i := 1) rfl (by first | exact Or.inl rfl | exact Or.inr (Or.inl rfl) | exact Or.inr (Or.inr rfl)))), F.bindsN fun _ _ _ _ _ _ us hl => match us, hl with | [_, _], _ => rfl⟩
theorem d_Reader_fail (T : Tp fa fx fn K mg) : Mfn P w K mg base "Reader" "fail" 1 3 m_Reader_fail := by
  obtain ⟨fd, F⟩ := T.def_ 9
  exact (.mk1 (ps := ["self"]) rfl (T.cls 12) (fn_mk F sc_Reader_fail fun cdv A outer s H E cx => (mss_one (ms_raise1 cx (d_BadSign_exc T) (T.noat 23) (ma_cons (me_if (mt_cmp op_lt opm_cmp (nomark _) (me_fld (T.cls 12) (T.noat 18) (me_var 0)) (me_blt call_len cal_len bt_len (T.free 3) (ma_cons (me_fld (T.cls 12) (T.noat 14) (me_var 0)) ma_nil))) (me_ix (me_fld (T.cls 12) (T.noat 15) (me_var 0)) (me_fld (T.cls 12) (T.noat 18) (me_var 0))) (me_blt call_len cal_len bt_len (T.free 3) (ma_cons (me_fld (T.cls 12) (T.noat 13) (me_var 0)) ma_nil))) ma_nil) (by omega)))) (T.meth 24) (F.bindsN fun _ _ _ _ _ _ us hl => match us, hl with | [_], _ => rfl))
theorem d_Reader_word (T : Tp fa fx fn K mg) : Mfn P w K mg base "Reader" "word" 1 2 m_Reader_word := by
  obtain ⟨fd, F⟩ := T.def_ 11
  exact (.mk1 (ps := ["self"]) rfl (T.cls 12) (fn_mk F sc_Reader_word fun cdv A outer s H E cx => (mss_one (ms_ret (me_if (mt_cmp op_lt opm_cmp (nomark _) (me_fld (T.cls 12) (T.noat 18) (me_var 0)) (me_blt call_len cal_len bt_len (T.free 3) (ma_cons (me_fld (T.cls 12) (T.noat 14) (me_var 0)) ma_nil))) (me_ix (me_fld (T.cls 12) (T.noat 14) (me_var 0)) (me_fld (T.cls 12) (T.noat 18) (me_var 0))) me_str)))) (T.meth 25) (F.bindsN fun _ _ _ _ _ _ us hl => match us, hl with | [_], _ => rfl))
theorem S_Reader_formula_ok (T : Tp fa fx fn K mg) : ∀ n : Nat, Mfn P w K mg base "Reader" "formula" 2 (n + 3) (F_Reader_formula n) ∧ Mfn P w K mg base "Reader" "pair" 2 (n + 3) (F_Reader_pair n)
  | 0 => by
    obtain ⟨fd0, F0⟩ := T.def_ 12
    obtain ⟨fd1, F1⟩ := T.def_ 13
    exact ⟨(.mk1 (ps := ["self", "deep"]) rfl (T.cls 12) (fn_mk (j := 2) F0 sc_Reader_formula fun cdv A outer s H E cx => mss_fail) (T.meth 27) (F0.bindsN fun _ _ _ _ _ _ us hl => match us, hl with | [_, _], _ => rfl)), (.mk1 (ps := ["self", "deep"]) rfl (T.cls 12) (fn_mk (j := 2) F1 sc_Reader_pair fun cdv A outer s H E cx => mss_fail) (T.meth 28) (F1.bindsN fun _ _ _ _ _ _ us hl => match us, hl with | [_, _], _ => rfl))⟩
  | n + 1 => by
    have ih := S_Reader_formula_ok T n
    obtain ⟨fd0, F0⟩ := T.def_ 12
    obtain ⟨fd1, F1⟩ := T.def_ 13
    exact ⟨(.mk1 (ps := ["self", "deep"]) rfl (T.cls 12) (fn_mk (j := n + 3) F0 sc_Reader_formula fun cdv A outer s H E cx => (mss_cons (ms_set 2 (me_meth0 _ cx (d_Reader_word T) (me_var 0) (by omega)) cx.nd)
    (mss_cons (ms_if (mt_cmp op_gt opm_cmp (nomark _) (me_var 1) (me_gint (T.int 26)))
    (mss_one (ms_expr (me_meth0 _ cx (d_Reader_fail T) (me_var 0) (by omega))))
    mss_nil)
    (mss_cons (ms_if (mt_cmp ((op_eqD (un64 cx)).or op_eq) opm_eq (nomark _) (me_var 2) me_str)
    (mss_cons (ms_fldaug (g := fun i j => i + j) in_add (T.cls 12) (T.noat 18) (me_var 0) me_int)
    (mss_one (ms_ret (me_tup (ma_cons me_str (ma_cons (me_meth _ cx ih.1 (me_var 0) (ma_cons (me_plus (me_var 1) me_int) ma_nil) (argN_cons argN_nil) (by omega)) ma_nil))))))
    mss_nil)
    (mss_cons (ms_if (mt_cmp ((op_eqD (un64 cx)).or op_eq) opm_eq (nomark _) (me_var 2) me_str)
    (mss_one (ms_ret (me_meth _ cx ih.2 (me_var 0) (ma_cons (me_var 1) ma_nil) (argN_cons argN_nil) (by omega))))
    mss_nil)
    (mss_cons (ms_if (mt_w (mw_and (mt_cmp ((op_eqD (un64 cx)).or op_eq) opm_eq (nomark _) (me_slice (me_var 2) mo_none (mo_some me_int)) me_str) (mw_one_and (mt_cmp ((op_inD (un65 cx)).or (op_in_seq.or op_in_sign)) opm_in (by with_unfolding_all rfl) (me_slice (me_var 2) (mo_some me_int) mo_none) (me_fz (ml_lc [("own", 3)] cx (mi_range1 (T.free 1) (ma_cons (me_fld (T.cls 12) (T.noat 17) (me_var 0)) ma_nil)) (fun _ _ _ _ _ => (mg_nm 3 cx.nd)) (fun _ _ _ _ _ => mts_nil) (fun _ _ _ _ _ c1 => (me_ty (call_str_int.or SkE.call_str_str) cal_str bt_str (T.free 2) (ma_cons (me_var 3) ma_nil))) (by show blkC ["self", "deep", "word", "own"] (defScope s_Reader_formula) _ _ = true; decide +kernel)))))))
    (mss_cons (ms_fldaug (g := fun i j => i + j) in_add (T.cls 12) (T.noat 18) (me_var 0) me_int)
    (mss_one (ms_ret (me_tup (ma_cons me_str (ma_cons (me_ty (call_int1.or call_int_str) cal_int bt_int (T.free 5) (ma_cons (me_slice (me_var 2) (mo_some me_int) mo_none) ma_nil)) ma_nil))))))
    mss_nil)
    (mss_one (ms_ret (me_meth0 _ cx (d_Reader_fail T) (me_var 0) (by omega)))))))))) (T.meth 27) (F0.bindsN fun _ _ _ _ _ _ us hl => match us, hl with | [_, _], _ => rfl)), (.mk1 (ps := ["self", "deep"]) rfl (T.cls 12) (fn_mk (j := n + 3) F1 sc_Reader_pair fun cdv A outer s H E cx => (mss_cons (ms_fldaug (g := fun i j => i + j) in_add (T.cls 12) (T.noat 18) (me_var 0) me_int)
    (mss_cons (ms_set 2 (me_meth _ cx ih.1 (me_var 0) (ma_cons (me_plus (me_var 1) me_int) ma_nil) (argN_cons argN_nil) (by omega)) cx.nd)
    (mss_cons (ms_set 3 (me_meth0 _ cx (d_Reader_word T) (me_var 0) (by omega)) cx.nd)
    (mss_cons (ms_if (mt_cmp ((op_notInD (un65 cx)).or (op_notIn_seq.or op_notIn_sign)) opm_nin (by with_unfolding_all rfl) (me_var 3) (me_tup (ma_cons me_str (ma_cons me_str (ma_cons me_str ma_nil)))))
    (mss_one (ms_expr (me_meth0 _ cx (d_Reader_fail T) (me_var 0) (by omega))))
    mss_nil)
    (mss_cons (ms_fldaug (g := fun i j => i + j) in_add (T.cls 12) (T.noat 18) (me_var 0) me_int)
    (mss_cons (ms_set 4 (me_meth _ cx ih.1 (me_var 0) (ma_cons (me_plus (me_var 1) me_int) ma_nil) (argN_cons argN_nil) (by omega)) cx.nd)
    (mss_cons (ms_if (mt_cmp ((op_neD (un64 cx)).or op_ne) opm_ne (nomark _) (me_meth0 _ cx (d_Reader_word T) (me_var 0) (by omega)) me_str)
    (mss_one (ms_expr (me_meth0 _ cx (d_Reader_fail T) (me_var 0) (by omega))))
    mss_nil)
    (mss_cons (ms_fldaug (g := fun i j => i + j) in_add (T.cls 12) (T.noat 18) (me_var 0) me_int)
    (mss_one (ms_ret (me_tup (ma_cons (me_var 3) (ma_cons (me_var 2) (ma_cons (me_var 4) ma_nil))))))))))))))) (T.meth 28) (F1.bindsN fun _ _ _ _ _ _ us hl => match us, hl with | [_, _], _ => rfl))⟩
theorem d_Reader_formula (T : Tp fa fx fn K mg) : Mfn P w K mg base "Reader" "formula" 2 33 (F_Reader_formula 30) := (S_Reader_formula_ok T 30).1
theorem d_Reader_pair (T : Tp fa fx fn K mg) : Mfn P w K mg base "Reader" "pair" 2 33 (F_Reader_pair 30) := (S_Reader_formula_ok T 30).2
theorem d_is_number (T : Tp fa fx fn K mg) : Dfn P w K mg base "is_number" 3 2 m_is_number := by
  obtain ⟨fd, F⟩ := T.def_ 14
  exact (.mk1 (ps := ["value", "low", "high"]) rfl (fn_mk F sc_is_number fun cdv A outer s H E cx => (mss_one (ms_ret (me_and (me_isi (T := .int) (me_var 0) (T.free 29) (T.free 5) bt_int) (me_and (me_not (me_isi (T := .bl) (me_var 0) (T.free 29) (T.free 30) bt_bool)) (me_one (me_chain op_le op_le opm_cmp opm_cmp cmp_bl (me_var 1) (me_var 0) (me_var 2)))))))) (T.glo 31) F.kp (F.bindsN fun _ _ _ _ _ _ us hl => match us, hl with | [_, _, _], _ => rfl))
theorem d_need_number (T : Tp fa fx fn K mg) : Dfn P w K mg base "need_number" 3 3 m_need_number := by
  obtain ⟨fd, F⟩ := T.def_ 15
  exact (.mk1 (ps := ["value", "low", "high"]) rfl (fn_mk F sc_need_number fun cdv A outer s H E cx => (mss_one (ms_if (mt_not (mt_val (me_call cx (d_is_number T) (ma_cons (me_var 0) (ma_cons (me_var 1) (ma_cons (me_var 2) ma_nil))) (argN_cons (argN_cons (argN_cons argN_nil))) (by omega))))
    (mss_one (ms_raise0 cx (T.exc0 32 33)))
    mss_nil))) (T.glo 34) F.kp (F.bindsN fun _ _ _ _ _ _ us hl => match us, hl with | [_, _, _], _ => rfl))
theorem d_tree_of (T : Tp fa fx fn K mg) : Dfn P w K mg base "tree_of" 2 34 m_tree_of := by
  obtain ⟨fd, F⟩ := T.def_ 16
  exact (.mk1 (ps := ["inputs", "text"]) rfl (fn_mk F sc_tree_of fun cdv A outer s H E cx => (mss_cons (ms_expr (me_call cx (d_need_number T) (ma_cons (me_var 0) (ma_cons me_int (ma_cons (me_gint (T.int 35)) ma_nil))) (argN_cons (argN_cons (argN_cons argN_nil))) (by omega)))
    (mss_cons (ms_if (mt_not (mt_val (me_isi (T := .str) (me_var 1) (T.free 29) (T.free 2) bt_str)))
    (mss_one (ms_raise0 cx (T.exc0 36 37)))
    mss_nil)
    (mss_cons (ms_set 2 (me_mk cx (k_Reader_init T) (ma_cons (me_var 1) (ma_cons (me_var 0) ma_nil)) (argN_cons (argN_cons argN_nil)) (by omega)) cx.nd)
    (mss_cons (ms_set 3 (me_meth _ cx (d_Reader_formula T) (me_var 2) (ma_cons me_int ma_nil) (argN_cons argN_nil) (by omega)) cx.nd)
    (mss_cons (ms_if (mt_cmp ((op_neD (un64 cx)).or op_ne) opm_ne (nomark _) (me_meth0 _ cx (d_Reader_word T) (me_var 2) (by omega)) me_str)
    (mss_one (ms_expr (me_meth0 _ cx (d_Reader_fail T) (me_var 2) (by omega))))
    mss_nil)
    (mss_one (ms_ret (me_var 3))))))))) (T.glo 38) F.kp (F.bindsN fun _ _ _ _ _ _ us hl => match us, hl with | [_, _], _ => rfl))
theorem S_worth_of_ok (T : Tp fa fx fn K mg) : ∀ n : Nat, Dfn P w K mg base "worth_of" 2 (n + 1) (F_worth_of n)
  | 0 => by
    obtain ⟨fd0, F0⟩ := T.def_ 17
    exact (.mk1 (ps := ["tree", "bits"]) rfl (fn_mk (j := 0) F0 sc_worth_of fun cdv A outer s H E cx => mss_fail) (T.glo 40) F0.kp (F0.bindsN fun _ _ _ _ _ _ us hl => match us, hl with | [_, _], _ => rfl))
  | n + 1 => by
    have ih := S_worth_of_ok T n
    obtain ⟨fd0, F0⟩ := T.def_ 17
    exact (.mk1 (ps := ["tree", "bits"]) rfl (fn_mk (j := n + 1) F0 sc_worth_of fun cdv A outer s H E cx => (mss_cons (ms_if (mt_cmp ((op_eqD (un64 cx)).or op_eq) opm_eq (nomark _) (me_ix (me_var 0) me_int) me_str)
    (mss_one (ms_ret (me_ix (me_var 1) (me_ix (me_var 0) me_int))))
    mss_nil)
    (mss_cons (ms_if (mt_cmp ((op_eqD (un64 cx)).or op_eq) opm_eq (nomark _) (me_ix (me_var 0) me_int) me_str)
    (mss_one (ms_ret (me_sub me_int (me_call cx ih (ma_cons (me_ix (me_var 0) me_int) (ma_cons (me_var 1) ma_nil)) (argN_cons (argN_cons argN_nil)) (by omega)))))
    mss_nil)
    (mss_cons (ms_par 2 3 (ma_cons (me_call cx ih (ma_cons (me_ix (me_var 0) me_int) (ma_cons (me_var 1) ma_nil)) (argN_cons (argN_cons argN_nil)) (by omega)) (ma_cons (me_call cx ih (ma_cons (me_ix (me_var 0) me_int) (ma_cons (me_var 1) ma_nil)) (argN_cons (argN_cons argN_nil)) (by omega)) ma_nil)) cx.calm cx.nd)
    (mss_cons (ms_if (mt_cmp ((op_eqD (un64 cx)).or op_eq) opm_eq (nomark _) (me_ix (me_var 0) me_int) me_str)
    (mss_one (ms_ret (me_times (me_var 2) (me_var 3))))
    mss_nil)
    (mss_one (ms_ret (me_if (mt_cmp ((op_eqD (un64 cx)).or op_eq) opm_eq (nomark _) (me_ix (me_var 0) me_int) me_str) (me_blt (call_max2 cx.calm) cal_int2 bt_max (T.free 39) (ma_cons (me_var 2) (ma_cons (me_var 3) ma_nil))) (me_mod (me_plus (me_var 2) (me_var 3)) me_int))))))))) (T.glo 40) F0.kp (F0.bindsN fun _ _ _ _ _ _ us hl => match us, hl with | [_, _], _ => rfl))
theorem d_worth_of (T : Tp fa fx fn K mg) : Dfn P w K mg base "worth_of" 2 21 (F_worth_of 20) := (S_worth_of_ok T 20)
theorem d_table_of (T : Tp fa fx fn K mg) : Dfn P w K mg base "table_of" 2 35 m_table_of := by
  obtain ⟨fd, F⟩ := T.def_ 18
  exact (.mk1 (ps := ["inputs", "text"]) rfl (fn_mk F sc_table_of fun cdv A outer s H E cx => (mss_cons (ms_set 2 (me_call cx (d_tree_of T) (ma_cons (me_var 0) (ma_cons (me_var 1) ma_nil)) (argN_cons (argN_cons argN_nil)) (by omega)) cx.nd)
    (mss_one (ms_ret (me_ty call_tuple_of cal_tup bt_tuple (T.free 41) (ma_cons (me_fz (ml_lc [("bits", 3)] cx (mi_any (me_call cx (d_all_bits T) (ma_cons (me_var 0) ma_nil) (argN_cons argN_nil) (by omega))) (fun _ _ _ _ _ => (mg_nm 3 cx.nd)) (fun _ _ _ _ _ => mts_nil) (fun _ _ _ _ _ c1 => (me_call c1 (d_worth_of T) (ma_cons (me_var 2) (ma_cons (me_var 3) ma_nil)) (argN_cons (argN_cons argN_nil)) (by omega))) (by show blkC ["inputs", "text", "tree", "bits"] (defScope s_table_of) _ _ = true; decide +kernel))) ma_nil)))))) (T.glo 42) F.kp (F.bindsN fun _ _ _ _ _ _ us hl => match us, hl with | [_, _], _ => rfl))
theorem law_fn (T : Tp fa fx fn K mg) {fd : FuncData} (F : FunD K "law" "law" (defArgs s_law) (defBody s_law) (defScope s_law) [] [] (He.ga K "law") fd) : FnOk P w K mg base (L2.CX P w) 36 (He.ga K "law") fd ["_law_script"] (spF K 1 m_law) :=
  fn_mk (ps := ["_law_script"]) F sc_law fun cdv A outer s H E cx => (mss_cons (ms_set 1 (me_al (ml_disp (ma_cons (me_var 0) (ma_cons me_int (ma_cons me_int (ma_cons me_int ma_nil)))))) cx.nd)
    (mss_cons (ms_set 2 (me_plus me_int (me_call cx (d__law_taken T) (ma_cons (me_var 1) (ma_cons me_int ma_nil)) (argN_cons (argN_cons argN_nil)) (by omega))) cx.nd)
    (mss_cons (ms_set 3 (me_call cx (d__law_spelled T) (ma_cons (me_var 1) (ma_cons (me_call cx (d__law_tree T) (ma_cons (me_var 1) (ma_cons (me_var 2) (ma_cons me_int ma_nil))) (argN_cons (argN_cons (argN_cons argN_nil))) (by omega)) ma_nil)) (argN_cons (argN_cons argN_nil)) (by omega)) cx.nd)
    (mss_cons (ms_par 4 5 (ma_cons (me_call cx (d__law_taken T) (ma_cons (me_var 1) (ma_cons (me_blt call_len cal_len bt_len (T.free 3) (ma_cons (me_var 3) ma_nil)) ma_nil)) (argN_cons (argN_cons argN_nil)) (by omega)) (ma_cons (me_call cx (d__law_taken T) (ma_cons (me_var 1) (ma_cons me_int ma_nil)) (argN_cons (argN_cons argN_nil)) (by omega)) ma_nil)) cx.calm cx.nd)
    (mss_cons (ms_set 6 (me_call cx (d__law_pick T) (ma_cons (me_var 1) (ma_cons (me_fz (ml_disp (ma_cons me_str (ma_cons me_str (ma_cons me_str (ma_cons me_str (ma_cons me_str (ma_cons me_str (ma_cons me_str (ma_cons me_str (ma_cons me_str (ma_cons me_str (ma_cons me_str (ma_cons (me_plus me_str (me_ty (call_str_int.or SkE.call_str_str) cal_str bt_str (T.free 2) (ma_cons (me_var 2) ma_nil))) (ma_cons me_str ma_nil))))))))))))))) ma_nil)) (argN_cons (argN_cons argN_nil)) (by omega)) cx.nd)
    (mss_cons (ms_if (mt_cmp ((op_eqD (un64 cx)).or op_eq) opm_eq (nomark _) (me_var 5) me_int)
    (mss_one (ms_set 3 (me_plus (me_plus (me_slice (me_var 3) mo_none (mo_some (me_var 4))) (me_fz (ml_disp (ma_cons (me_var 6) ma_nil)))) (me_slice (me_var 3) (mo_some (me_plus (me_var 4) me_int)) mo_none)) cx.nd))
    mss_nil)
    (mss_cons (ms_if (mt_cmp ((op_eqD (un64 cx)).or op_eq) opm_eq (nomark _) (me_var 5) me_int)
    (mss_one (ms_set 3 (me_plus (me_slice (me_var 3) mo_none (mo_some (me_var 4))) (me_slice (me_var 3) (mo_some (me_plus (me_var 4) me_int)) mo_none)) cx.nd))
    mss_nil)
    (mss_cons (ms_if (mt_cmp ((op_eqD (un64 cx)).or op_eq) opm_eq (nomark _) (me_var 5) me_int)
    (mss_one (ms_set 3 (me_plus (me_plus (me_slice (me_var 3) mo_none (mo_some (me_var 4))) (me_fz (ml_disp (ma_cons (me_var 6) ma_nil)))) (me_slice (me_var 3) (mo_some (me_var 4)) mo_none)) cx.nd))
    mss_nil)
    (mss_cons (ms_par 7 8 (ma_cons me_str (ma_cons (me_al (ml_disp ma_nil)) ma_nil)) cx.calm cx.nd)
    (mss_cons (ms_for cx (mi_any (me_var 3)) (mg_nm 9 cx.nd)
    (mss_cons (ms_set 7 (me_plus (me_var 7) (me_times me_str (me_plus me_int (me_call cx (d__law_taken T) (ma_cons (me_var 1) (ma_cons me_int ma_nil)) (argN_cons (argN_cons argN_nil)) (by omega))))) cx.nd)
    (mss_cons (ms_expr (me_app (me_var 8) (me_blt call_len cal_len bt_len (T.free 3) (ma_cons (me_var 7) ma_nil))))
    (mss_one (ms_set 7 (me_plus (me_var 7) (me_var 9)) cx.nd)))))
    (mss_cons (ms_set 7 (me_plus (me_var 7) (me_times me_str (me_call cx (d__law_taken T) (ma_cons (me_var 1) (ma_cons me_int ma_nil)) (argN_cons (argN_cons argN_nil)) (by omega)))) cx.nd)
    (mss_cons (ms_set 10 (me_call cx (d__law_first T) (ma_cons (me_var 3) (ma_cons (me_var 2) ma_nil)) (argN_cons (argN_cons argN_nil)) (by omega)) cx.nd)
    (mss_cons (ms_if (mt_cmp op_notN opm_notN (nomark _) (me_var 10) me_non)
    (mss_one (ms_set 10 (me_if (mt_cmp op_lt opm_cmp (nomark _) (me_var 10) (me_blt call_len cal_len bt_len (T.free 3) (ma_cons (me_var 3) ma_nil))) (me_ix (me_var 8) (me_var 10)) (me_blt call_len cal_len bt_len (T.free 3) (ma_cons (me_var 7) ma_nil))) cx.nd))
    mss_nil)
    (mss_one (ms_try_as 11 cx ⟨rfl, by decide, .inl (T.glo 21)⟩ (x_law_BadSign_ok T) (fun Y pn xe ct => (mss_cons (ms_expr (me_call ct (d_table_of T) (ma_cons (me_var 2) (ma_cons (me_var 7) ma_nil)) (argN_cons (argN_cons argN_nil)) (by omega)))
    (mss_one (ms_ret (me_cmp op_isN opm_isN (nomark _) (me_var 10) me_non))))) (fun a oe cls d pn c fs hz hf => (mss_one (ms_ret (me_cmp ((op_eqD (by have h := un64 cx; exact h)).or op_eq) opm_eq (nomark _) (me_xf (T.xf 1) (T.noat 23) hz hf) (me_var 10))))))))))))))))))))
abbrev lawD : Nat := 19
abbrev lawG : Nat := 46
end
end K05
namespace K05
set_option autoImplicit false
open PySem L2 Rf

@[simp] theorem ne_1 : (("not" : Str) = "x") = False := by decide +kernel
@[simp] theorem ne_2 : (("(" : Str) = "not") = False := by decide +kernel
@[simp] theorem ne_3 : (("W" : Str) = "E") = False := by decide +kernel
@[simp] theorem ne_4 : ((")" : Str) = "E") = False := by decide +kernel
@[simp] theorem ne_5 : (("W" : Str) = ")") = False := by decide +kernel
@[simp] theorem ne_6 : ((")" : Str) = "W") = False := by decide +kernel
theorem tk_eq : m__law_taken = tkF := rfl
theorem taken {s : List Int} {x : O} (st : Store) {many : Int} (h : Row s x) (h0 : 0 < many) (h1 : many < 1073741824) : ∃ (v : Nat) (x' : O), m__law_taken [.ref 0, .int many] (x :: st) = .ok (.int v) (x' :: st) ∧ Row s x' ∧ (v : Int) < many := tk_ok h h0 h1
/-! ### trees -/
def opS (o : Fin 3) : Str := if o = 0 then "and" else if o = 1 then "or" else "xor"
inductive Tr where
  | x (i : Nat) | nt (t : Tr) | op (o : Fin 3) (a b : Tr)
def Tr.d : Tr → D
  | .x i => .tup [.str "x", .int i]
  | .nt t => .tup [.str "not", t.d]
  | .op o a b => .tup [.str (opS o), a.d, b.d]
def Tr.dep : Tr → Nat
  | .x _ => 0
  | .nt t => t.dep + 1
  | .op _ a b => max a.dep b.dep + 1
def Tr.ok (n : Nat) : Tr → Prop
  | .x i => i < n
  | .nt t => t.ok n
  | .op _ a b => a.ok n ∧ b.ok n
def xS (i : Nat) : Str := ⟨#[120, 48 + i]⟩
theorem dig (i : Nat) (h : i < 10) : Str.ofString (toString (i : Int)) = ⟨#[48 + i]⟩ :=
  (by decide +kernel : ∀ j : Fin 10, Str.ofString (toString ((j.val : Nat) : Int)) = ⟨#[48 + j.val]⟩) ⟨i, h⟩
theorem xS_eq (i : Nat) : ("x" : Str) ++ (⟨#[48 + i]⟩ : Str) = xS i := rfl
def Tr.sp : Tr → List Str
  | .x i => [xS i]
  | .nt t => "not" :: t.sp
  | .op o a b => "(" :: (a.sp ++ opS o :: (b.sp ++ [(")" : Str)]))
theorem tree {s : List Int} (inputs : Nat) (st : Store) (h0 : 0 < inputs) (h1 : inputs < 1000) : ∀ (n d : Nat), d < n → ∀ x, Row s x → ∃ t x', F__law_tree n [.ref 0, .int inputs, .int d] (x :: st) = .ok (Tr.d t) (x' :: st) ∧ Row s x' ∧ t.ok inputs ∧ t.dep ≤ d := by
  intro n
  induction n with
  | zero => intro d hd; omega
  | succ n ih =>
    intro d hd x hx
    rw [F__law_tree_succ]
    obtain ⟨v1, x1, e1, hx1, hv1⟩ := taken st (many := 6) hx (by decide) (by decide)
    have leaf : ∀ x0, Row s x0 → ∃ v x', m__law_taken [.ref 0, .int inputs] (x0 :: st) = .ok (.int (v : Nat)) (x' :: st) ∧ Row s x' ∧ v < inputs := fun x0 h => by
      obtain ⟨v, x', e, h1, h2⟩ := taken st (many := inputs) h (by omega) (by omega)
      exact ⟨v, x', e, h1, by omega⟩
    cases d with
    | zero =>
      obtain ⟨v, x', e, hx', hv⟩ := leaf x hx
      refine ⟨.x v, x', ?_, hx', hv, Nat.le_refl _⟩
      simp [b__law_tree, e, Tr.d]
    | succ d =>
      have hpos : (0 : Int) < ((d : Int) + 1) := by omega
      by_cases w1 : v1 < 2
      · obtain ⟨v, x', e, hx', hv⟩ := leaf x1 hx1
        refine ⟨.x v, x', ?_, hx', hv, Nat.zero_le _⟩
        have w1' : (v1 : Int) < 2 := by omega
        simp [b__law_tree, e, e1, Tr.d, hpos, w1']
      · have w1' : ¬ (v1 : Int) < 2 := by omega
        obtain ⟨t, x2, e2, hx2, ok2, dp2⟩ := ih d (by omega) x1 hx1
        by_cases w2 : v1 = 2
        · subst w2
          refine ⟨.nt t, x2, ?_, hx2, ok2, Nat.succ_le_succ dp2⟩
          simp [b__law_tree, e2, e1, Tr.d, hpos, w1']
        · have w2' : ¬ (v1 : Int) = 2 := by omega
          obtain ⟨u, x3, e3, hx3, ok3, dp3⟩ := ih d (by omega) x2 hx2
          refine ⟨.op ⟨v1 - 3, by omega⟩ t u, x3, ?_, hx3, ⟨ok2, ok3⟩, Nat.succ_le_succ (Nat.max_le.mpr ⟨dp2, dp3⟩)⟩
          have hv : v1 = 3 ∨ v1 = 4 ∨ v1 = 5 := by omega
          rcases hv with rfl | rfl | rfl
          · simp [b__law_tree, e2, e1, e3, Tr.d, hpos, w1', opS]
          · simp [b__law_tree, e2, e1, e3, Tr.d, hpos, w1', opS]
          · simp [b__law_tree, e2, e1, e3, Tr.d, hpos, w1', opS]
/-! ### a tree's words -/
theorem sp_len : ∀ t : Tr, t.sp.length + 3 ≤ 4 * 2 ^ t.dep
  | .x i => by simp [Tr.sp, Tr.dep]
  | .nt t => by
    have := sp_len t
    simp only [Tr.sp, Tr.dep, List.length_cons, Nat.pow_succ]
    omega
  | .op o a b => by
    have h1 := sp_len a
    have h2 := sp_len b
    have h3 : 2 ^ a.dep ≤ 2 ^ (max a.dep b.dep) := Nat.pow_le_pow_right (by decide) (Nat.le_max_left _ _)
    have h4 : 2 ^ b.dep ≤ 2 ^ (max a.dep b.dep) := Nat.pow_le_pow_right (by decide) (Nat.le_max_right _ _)
    simp only [Tr.sp, Tr.dep, List.length_cons, List.length_append, List.length_nil, Nat.pow_succ]
    omega
theorem plus_fl (st : Store) (a b : List Str) (h : a.length + b.length ≤ 1000000) : plusM (.fl (sD a)) (.fl (sD b)) st = .ok (.fl (sD (a ++ b))) st := by
  have := plusM_fl st (sD a) (sD b) (by simp only [sD_len]; exact h)
  rw [this, sD_app]
theorem opS_x : ∀ o : Fin 3, (opS o = ("x" : Str)) = False := by decide +kernel
theorem opS_not : ∀ o : Fin 3, (opS o = ("not" : Str)) = False := by decide +kernel
theorem spelled {inputs : Nat} (hi : inputs < 10) (st : Store) (r : D) : ∀ (n : Nat) (t : Tr), t.dep < n → n ≤ 10 → t.ok inputs → F__law_spelled n [r, t.d] st = .ok (.fl (sD t.sp)) st := by
  intro n
  induction n with
  | zero => intro t h; omega
  | succ n ih =>
    intro t h hn ok
    rw [F__law_spelled_succ]
    have hl := sp_len t
    have hp : 4 * 2 ^ t.dep ≤ 4 * 2 ^ 10 := Nat.mul_le_mul_left 4 (Nat.pow_le_pow_right (by decide) (by omega))
    have hb : t.sp.length ≤ 5000 := by omega
    cases t with
    | x i =>
      have hlt : i < inputs := ok
      have e := strOf_i st (i := i) (by omega)
      rw [dig i (by omega)] at e
      have e2 := plusM_str st "x" ⟨#[48 + i]⟩ (by show (Str.ofString "x").cps.size + 1 ≤ _; decide)
      rw [xS_eq] at e2
      simp [b__law_spelled, Tr.d, e, e2, Tr.sp, sD]
    | nt t =>
      have e := ih t (by simp [Tr.dep] at h; omega) (by omega) ok
      have e2 := plus_fl st ["not"] t.sp (by simp [Tr.sp] at hb ⊢; omega)
      have e3 : [D.str "not"] = sD ["not"] := rfl
      simp [b__law_spelled, Tr.d, e, Tr.sp]
      rw [e3, e2]
      rfl
    | op o a b =>
      have ea := ih a (by simp [Tr.dep] at h; omega) (by omega) ok.1
      have eb := ih b (by simp [Tr.dep] at h; omega) (by omega) ok.2
      simp only [Tr.sp, List.length_cons, List.length_append, List.length_nil] at hb
      have e1 : plusM (.fl [.str "("]) (.fl (sD a.sp)) st = .ok (.fl (sD (("(" : Str) :: a.sp))) st := plus_fl st [("(" : Str)] a.sp (by simp only [List.length_cons, List.length_nil]; omega)
      have e2 : plusM (.fl (sD (("(" : Str) :: a.sp))) (.fl [.str (opS o)]) st = .ok (.fl (sD (("(" : Str) :: a.sp ++ [opS o]))) st := plus_fl st (("(" : Str) :: a.sp) [opS o] (by simp only [List.length_append, List.length_cons, List.length_nil]; omega)
      have e3 := plus_fl st (("(" : Str) :: a.sp ++ [opS o]) b.sp (by simp only [List.length_append, List.length_cons, List.length_nil]; omega)
      have e4 : plusM (.fl (sD (("(" : Str) :: a.sp ++ [opS o] ++ b.sp))) (.fl [.str ")"]) st = .ok (.fl (sD (("(" : Str) :: a.sp ++ [opS o] ++ b.sp ++ [(")" : Str)]))) st := plus_fl st (("(" : Str) :: a.sp ++ [opS o] ++ b.sp) [(")" : Str)] (by simp only [List.length_append, List.length_cons, List.length_nil]; omega)
      have c1 := opS_x o
      have c2 := opS_not o
      simp only [b__law_spelled, Tr.d, Tr.sp, dfM_2, sq_s, ifS_s, tst_s, b2_s, vr_s, List.getElem?_cons_succ, List.getElem?_cons_zero, vrK_s, bind_ok, b2K_s, cst_s, ixM_tup, atI_0, atI_1, atI_2, atK_s, eqM_str, tstK_s, toS_ok, c1, c2, decide_false, ifK_f, nextM_s, sqK_nx, retM_s, fz_s, disp_s, consA_s, consK_s, nilA_s, consJ_s, dispK_1, flK_s, callM_s, ea, eb, e1, e2, e3, e4, rtK_s, endD_rt]
      simp
end K05
namespace K05
set_option autoImplicit false
open PySem L2 Rf

/-! ### what words may stand: a machine of what is due -/
inductive Wn where
  | E | W | C
deriving DecidableEq
def Wn.s : Wn → Str
  | .E => "E" | .W => "W" | .C => ")"
def xs (n : Nat) : List Str := (List.range n).map xS
def ops : List Str := ["and", "or", "xor"]
def mc (n : Nat) : Nat → List Wn → List Str → Option Nat
  | _, [], [] => none
  | k, [], _ :: _ => some k
  | k, _ :: _, [] => some k
  | k, .E :: ws, t :: ts => if t = "not" then mc n (k + 1) (.E :: ws) ts else if t = "(" then mc n (k + 1) (.E :: .W :: .E :: .C :: ws) ts else if t ∈ xs n then mc n (k + 1) ws ts else some k
  | k, .W :: ws, t :: ts => if t ∈ ops then mc n (k + 1) ws ts else some k
  | k, .C :: ws, t :: ts => if t = ")" then mc n (k + 1) ws ts else some k
def oD : Option Nat → D
  | none => .non
  | some k => .int k
def wD (w : List Wn) : List D := sD (w.map Wn.s)
theorem w_ok (w : List Wn) : ∀ x ∈ w.map Wn.s, PyData.strOk x = true := fun x hx => by
  obtain ⟨a, _, rfl⟩ := List.mem_map.mp hx
  cases a <;> decide +kernel
/-- the names of the inputs, as the text lists them -/
theorem names {n : Nat} (h : n < 10) (i : Nat) (l : Sl) (st : Store) (el : EM D) (hel : ∀ j, j < n → el ((wipeD l [i]).set i (some (.int (j : Nat)))) st = .ok (.str (xS j)) st) (a : EM (List D)) (ha : a l st = .ok [.int n] st) :
    lcM (itR1 a) (.nm i) yesM el [i] l st = .ok (sD (xs n)) st := by
  have e := lcM_map (it := itR1 a) (t := .nm i) (el := el) (vs := [i]) (l := l) (st := st) (st1 := st) (s := ⟨rngD 0 n, none⟩) (f := fun d => match d with
    | .int j => .str (xS j.toNat)
    | d => d) (by simp [ha, rngK_nat (show n ≤ 1000000 by omega)]) (by simp [rngD]; omega) rfl (fun d hd => ?_)
  · rw [e]
    simp only [rngD_get, sD, xs, List.map_map]
    congr 1
  · simp only [rngD_get] at hd
    obtain ⟨j, hj, rfl⟩ := List.mem_map.mp hd
    have hj := List.mem_range.mp hj
    exact ⟨_, rfl, by rw [hel j hj]; simp⟩
def fB : SM := (sq (ifS (tst (b2 eqM (vr 2) (fz (disp nilA))))
    (retM (vr 3))
    nextM)
    (sq (parM 5 2 (consA (b2 ixM (vr 2) (cst (.int 0))) (consA (s3 sliceM (vr 2) (onO (cst (.int 1))) noO) nilA)))
    (ifS (tst (b2 eqM (vr 5) (cst (.str "E"))))
    (ifS (tst (b2 eqM (vr 4) (cst (.str "not"))))
    (setM 2 (b2 plusM (fz (disp (consA (cst (.str "E")) nilA))) (vr 2)))
    (ifS (tst (b2 eqM (vr 4) (cst (.str "("))))
    (setM 2 (b2 plusM (fz (disp (consA (cst (.str "E")) (consA (cst (.str "W")) (consA (cst (.str "E")) (consA (cst (.str ")")) nilA)))))) (vr 2)))
    (ifS (tst (b2 ninM (vr 4) (fz (lcM (itR1 (consA (vr 1) nilA)) (.nm 6) yesM (b2 plusM (cst (.str "x")) (callM strOf (consA (vr 6) nilA))) [6]))))
    (retM (vr 3))
    nextM)))
    (ifS (orT (andT (tst (b2 eqM (vr 5) (cst (.str "W")))) (tst (b2 ninM (vr 4) (fz (disp (consA (cst (.str "and")) (consA (cst (.str "or")) (consA (cst (.str "xor")) nilA)))))))) (andT (tst (b2 eqM (vr 5) (cst (.str ")")))) (tst (b2 neM (vr 4) (cst (.str ")"))))))
    (retM (vr 3))
    nextM))))
theorem eqw (st : Store) (w : List Wn) : eqM (.fl (wD w)) (.fl []) st = .ok (.bl w.isEmpty) st := by
  have := eqM_nil st (w_ok w)
  rw [wD, this]
  simp
theorem plus_w (st : Store) (a b : List Wn) (h : a.length + b.length ≤ 1000000) : plusM (.fl (wD a)) (.fl (wD b)) st = .ok (.fl (wD (a ++ b))) st := by
  unfold wD
  rw [plus_fl st _ _ (by simpa using h), List.map_append]
/-- the walk over the words from the k-th on -/
theorem first_go {n : Nat} (hn : n < 10) (st : Store) (W : D) (s : Src) (hs : s.own = none) : ∀ (ts : List Str) (k : Nat) (w : List Wn) (x3 x4 x5 x6 : Option D), w.length + 4 * ts.length ≤ 100000 →
    (∃ j, mc n k w ts = some j ∧ forGo s (.tp [.nm 3, .nm 4]) fB (pairsD k (sD ts)) [some W, some (.int n), some (.fl (wD w)), x3, x4, x5, x6] st = .rt (.int (j : Nat)) st) ∨
    ∃ w' y3 y4 y5 y6, mc n k w ts = (if w' = [] then none else some (k + ts.length)) ∧ forGo s (.tp [.nm 3, .nm 4]) fB (pairsD k (sD ts)) [some W, some (.int n), some (.fl (wD w)), x3, x4, x5, x6] st = .nx [some W, some (.int n), some (.fl (wD w')), y3, y4, y5, y6] st := by
  have hc : s.chk st = true := by unfold Src.chk; rw [hs]
  intro ts
  induction ts with
  | nil =>
    intro k w x3 x4 x5 x6 hl
    refine .inr ⟨w, x3, x4, x5, x6, ?_, forGo_nil hc⟩
    cases w with
    | nil => rfl
    | cons a w => cases a <;> simp [mc]
  | cons t ts ih =>
    intro k w x3 x4 x5 x6 hl
    have e0 : pairsD k (sD (t :: ts)) = .tup [.int (k : Nat), .str t] :: pairsD (k + 1) (sD ts) := rfl
    have e1 : T.put (.tp [.nm 3, .nm 4]) (.tup [.int (k : Nat), .str t]) [some W, some (.int n), some (.fl (wD w)), x3, x4, x5, x6] = some [some W, some (.int n), some (.fl (wD w)), some (.int k), some (.str t), x5, x6] := rfl
    rw [e0, forGo_cons hc e1]
    cases w with
    | nil =>
      refine .inl ⟨k, by simp [mc], ?_⟩
      simp [fB, eqw]
    | cons a w =>
      have hcut : cutD (wD (a :: w)) (some 1) none = wD w := cut_from _ 1
      have hat : atI (wD (a :: w)) 0 = some (.str a.s) := atI_0 _ _
      have hl' : w.length + 1 + 4 * (ts.length + 1) ≤ 100000 := hl
      cases a with
      | E =>
        by_cases c1 : t = "not"
        · subst c1
          have e2 : plusM (.fl [.str "E"]) (.fl (wD w)) st = .ok (.fl (wD (.E :: w))) st := plus_w st [.E] w (by simp; omega)
          have := ih (k + 1) (.E :: w) (some (.int k)) (some (.str "not")) (some (.str "E")) x6 (by simp; omega)
          simpa [fB, eqw, hcut, hat, sliceM_fl, e2, mc, Wn.s, Nat.add_assoc, Nat.add_comm 1] using this
        · by_cases c2 : t = "("
          · subst c2
            have e2 : plusM (.fl [.str "E", .str "W", .str "E", .str ")"]) (.fl (wD w)) st = .ok (.fl (wD (.E :: .W :: .E :: .C :: w))) st := plus_w st [.E, .W, .E, .C] w (by simp; omega)
            have := ih (k + 1) (.E :: .W :: .E :: .C :: w) (some (.int k)) (some (.str "(")) (some (.str "E")) x6 (by simp; omega)
            simpa [fB, eqw, hcut, hat, sliceM_fl, e2, mc, Wn.s, Nat.add_assoc, Nat.add_comm 1] using this
          · have enm := names hn 6 [some W, some (.int n), some (.fl (wD w)), some (.int k), some (.str t), some (.str "E"), x6] st (b2 plusM (cst (.str "x")) (callM strOf (consA (vr 6) nilA))) (fun j hj => by
              have e := strOf_i st (i := j) (by omega)
              rw [dig j (by omega)] at e
              have e2 := plusM_str st "x" ⟨#[48 + j]⟩ (by show (Str.ofString "x").cps.size + 1 ≤ _; decide)
              rw [xS_eq] at e2
              simp [wipeD, e, e2]) (consA (vr 1) nilA) (by simp)
            by_cases c3 : t ∈ xs n
            · have := ih (k + 1) w (some (.int k)) (some (.str t)) (some (.str "E")) x6 (by omega)
              simpa [fB, eqw, hcut, hat, sliceM_fl, mc, Wn.s, c1, c2, c3, enm, ninM_fl, Nat.add_assoc, Nat.add_comm 1] using this
            · refine .inl ⟨k, by simp [mc, c1, c2, c3], ?_⟩
              simp [fB, eqw, hcut, hat, sliceM_fl, mc, Wn.s, c1, c2, c3, enm, ninM_fl]
      | W =>
        have hno : ∀ st, ninM (.str t) (.fl [.str "and", .str "or", .str "xor"]) st = .ok (.bl (!decide (t ∈ ops))) st := fun st => ninM_fl t ops st
        by_cases c3 : t ∈ ops
        · have := ih (k + 1) w (some (.int k)) (some (.str t)) (some (.str "W")) x6 (by omega)
          simpa [fB, eqw, hcut, hat, sliceM_fl, mc, Wn.s, c3, hno, Nat.add_assoc, Nat.add_comm 1] using this
        · refine .inl ⟨k, by simp [mc, c3], ?_⟩
          simp [fB, eqw, hcut, hat, sliceM_fl, mc, Wn.s, c3, hno]
      | C =>
        by_cases c3 : t = ")"
        · subst c3
          have := ih (k + 1) w (some (.int k)) (some (.str ")")) (some (.str ")")) x6 (by omega)
          simpa [fB, eqw, hcut, hat, sliceM_fl, mc, Wn.s, Nat.add_assoc, Nat.add_comm 1] using this
        · refine .inl ⟨k, by simp [mc, c3], ?_⟩
          simp [fB, eqw, hcut, hat, sliceM_fl, mc, Wn.s, c3]
theorem first {n : Nat} (hn : n < 10) (st : Store) (ts : List Str) (hl : ts.length ≤ 10000) : m__law_first [.fl (sD ts), .int n] st = .ok (oD (mc n 0 [.E] ts)) st := by
  have e0 : (D.fl [.str "E"]) = .fl (wD [.E]) := rfl
  have hb : b__law_first = sq (setM 2 (fz (disp (consA (cst (.str "E")) nilA)))) (sq (forM (itE (vr 0)) (.tp [(.nm 3), (.nm 4)]) fB) (retM (ifM (tst (b2 neM (vr 2) (fz (disp nilA)))) (callM lenM (consA (vr 0) nilA)) (cst .non)))) := rfl
  unfold m__law_first
  rw [hb]
  rcases first_go hn st (.fl (sD ts)) ⟨pairsD 0 (sD ts), none⟩ rfl ts 0 [.E] none none none none (by simp; omega) with ⟨j, h1, h2⟩ | ⟨w', y3, y4, y5, y6, h1, h2⟩
  · simp [h2, e0, h1, oD]
  · have e3 := neM_nil st (w_ok w')
    have e4 : neM (.fl (wD w')) (.fl []) st = .ok (.bl (!w'.isEmpty)) st := by rw [wD, e3]; simp
    cases w' with
    | nil => simp [h2, e0, h1, oD, e4]
    | cons a w => simp [h2, e0, h1, oD, e4]
end K05
namespace K05
set_option autoImplicit false
open PySem L2 Rf

def mk (l : List Nat) : Str := ⟨l.toArray⟩
@[simp] theorem mk_len (l : List Nat) : (mk l).length = l.length := by show l.toArray.size = _; simp
@[simp] theorem mk_cps (l : List Nat) : (mk l).cps.toList = l := by simp [mk]
theorem mk_app (a b : List Nat) : mk a ++ mk b = mk (a ++ b) := by
  show Str.mk (a.toArray ++ b.toArray) = Str.mk _
  simp
theorem mk_inj {a b : List Nat} : mk a = mk b ↔ a = b := by simp [mk]
theorem mk_of (z : Str) : z = mk z.cps.toList := by cases z; simp [mk]
def abc : Str := "abcdefghijklmnopqrstuvwxyz0123456789"
def plain (c : Nat) : Bool := decide (c ∈ abc.cps.toList)
theorem plainM (c : Nat) (st : Store) : m_is_plain [.str ⟨#[c]⟩] st = .ok (.bl (plain c)) st := by
  have e : ∀ st, inM (.str ⟨#[c]⟩) (.str abc) st = .ok (.bl (plain c)) st := fun st => inM_sign c abc st
  have e2 : b_is_plain = retM (b2 inM (vr 0) (cst (.str abc))) := rfl
  unfold m_is_plain
  rw [e2]
  simp [e]
theorem sp_eq (c : Nat) : ((⟨#[c]⟩ : Str) = " ") = (c = 32) := by
  have : (" " : Str) = ⟨#[32]⟩ := by decide +kernel
  rw [this]
  simp
theorem plain_sp : plain 32 = false := by decide +kernel
/-- the reader's fields while it parts the text -/
def fs0 (F : List Nat) (n : Nat) : List (Str × D) := [("signs", .str (mk F)), ("inputs", .int n), ("words", .ref 3), ("places", .ref 4)]
def RS (x0 x1 : O) (fs : List (Str × D)) (W : List Str) (P : List Int) : Store := [x0, x1, .ins "Reader" fs, .lst (sD W), .lst (iD P)]
section
variable (x0 x1 : O) (F : List Nat) (n : Nat) (W : List Str) (P : List Int)
theorem f0_signs : fldK "Reader" "signs" (.ref 2) (RS x0 x1 (fs0 F n) W P) = .ok (.str (mk F)) (RS x0 x1 (fs0 F n) W P) := fldK_ok rfl (by rfl)
theorem f0_words : fldK "Reader" "words" (.ref 2) (RS x0 x1 (fs0 F n) W P) = .ok (.ref 3) (RS x0 x1 (fs0 F n) W P) := fldK_ok rfl (by rfl)
theorem f0_places : fldK "Reader" "places" (.ref 2) (RS x0 x1 (fs0 F n) W P) = .ok (.ref 4) (RS x0 x1 (fs0 F n) W P) := fldK_ok rfl (by rfl)
/-- the tokens of a text -/
def tkLen (c : Nat) (r : List Nat) : Nat := if plain c = true then 1 + (r.takeWhile plain).length else 1
def tk : Nat → List Nat → Nat → List (List Nat × Nat)
  | 0, _, _ => []
  | _ + 1, [], _ => []
  | n + 1, c :: r, p => if c = 32 then tk n r (p + 1) else ((c :: r).take (tkLen c r), p) :: tk n ((c :: r).drop (tkLen c r)) (p + tkLen c r)
def iCond : EM Bool := (andT (tst (callM m_is_plain (consA (vr 2) nilA))) (andT (tst (b2 ltM (vr 3) (callM lenM (consA (fldM "Reader" "signs" (vr 0)) nilA)))) (tst (callM m_is_plain (consA (b2 ixM (fldM "Reader" "signs" (vr 0)) (vr 3)) nilA)))))
def oCond : EM Bool := (tst (b2 ltM (vr 1) (callM lenM (consA (fldM "Reader" "signs" (vr 0)) nilA))))
def oBody : SM := (sq (setM 2 (b2 ixM (fldM "Reader" "signs" (vr 0)) (vr 1)))
    (sq (ifS (tst (b2 eqM (vr 2) (cst (.str " "))))
    (sq (augM 1 iaddM (cst (.int 1)))
    contM)
    nextM)
    (sq (setM 3 (b2 plusM (vr 1) (cst (.int 1))))
    (sq (whGo iCond (augM 3 iaddM (cst (.int 1))) 100000)
    (sq (exprM (appM (fldM "Reader" "words" (vr 0)) (s3 sliceM (fldM "Reader" "signs" (vr 0)) (onO (vr 1)) (onO (vr 3)))))
    (sq (exprM (appM (fldM "Reader" "places" (vr 0)) (vr 1)))
    (setM 1 (vr 3))))))))
theorem part_eq : b_Reader_part = sq (setM 1 (cst (.int 0))) (whGo oCond oBody 100000) := rfl
variable {x0 x1 F n W P}
/-- the end of a word is sought -/
theorem inner (hF : F.length ≤ 90000) (c : Nat) (hc : plain c = true) (p : Option D) : ∀ (r : List Nat) (e m : Nat), F.drop e = r → e ≤ F.length → r.length < m →
    whGo iCond (augM 3 iaddM (cst (.int 1))) m [some (.ref 2), p, some (.str ⟨#[c]⟩), some (.int e)] (RS x0 x1 (fs0 F n) W P) = .nx [some (.ref 2), p, some (.str ⟨#[c]⟩), some (.int ((e + (r.takeWhile plain).length : Nat) : Int))] (RS x0 x1 (fs0 F n) W P) := by
  intro r
  induction r with
  | nil =>
    intro e m h1 h2 hm
    cases m with
    | zero => omega
    | succ m =>
      have he : F.length ≤ e := by have := List.drop_eq_nil_iff.mp h1; exact this
      have hlen : lenM [.str (mk F)] (RS x0 x1 (fs0 F n) W P) = .ok (.int F.length) (RS x0 x1 (fs0 F n) W P) := by rw [lenM_str _ _ (by simp; omega)]; simp
      refine whGo_false ?_
      have hlt : ¬ (e : Int) < (F.length : Int) := by omega
      simp [iCond, plainM, hc, f0_signs, hlen, hlt]
  | cons d r ih =>
    intro e m h1 h2 hm
    cases m with
    | zero => omega
    | succ m =>
      have hlen : lenM [.str (mk F)] (RS x0 x1 (fs0 F n) W P) = .ok (.int F.length) (RS x0 x1 (fs0 F n) W P) := by rw [lenM_str _ _ (by simp; omega)]; simp
      have hd : F[e]? = some d := by
        have := congrArg (fun l => l[0]?) h1
        simpa [List.getElem?_drop] using this
      have hlt : (e : Int) < (F.length : Int) := by have := (List.getElem?_eq_some_iff.mp hd).1; omega
      have hix : ixM (.str (mk F)) (.int (e : Int)) (RS x0 x1 (fs0 F n) W P) = .ok (.str ⟨#[d]⟩) (RS x0 x1 (fs0 F n) W P) := by
        rw [ixM_str _ _ _ (by simp; omega), mk_cps, Rf.atI_nat hd, atS_s]
      have hr : F.drop (e + 1) = r := by rw [← List.drop_drop, h1]; rfl
      by_cases hp : plain d = true
      · have hcond : iCond [some (.ref 2), p, some (.str ⟨#[c]⟩), some (.int e)] (RS x0 x1 (fs0 F n) W P) = .ok true (RS x0 x1 (fs0 F n) W P) := by
          simp [iCond, plainM, hc, f0_signs, hlen, hlt, hix, hp]
        rw [whGo_true hcond]
        have := ih (e + 1) m hr (by omega) (by simp at hm; omega)
        simp [List.takeWhile_cons, hp] at this ⊢
        rw [this]
        have e9 : e + 1 + (List.takeWhile plain r).length = e + ((List.takeWhile plain r).length + 1) := by omega
        simp only [Sz.nx.injEq, and_true, List.cons.injEq, Option.some.injEq, D.int.injEq, true_and]
        omega
      · have hcond : iCond [some (.ref 2), p, some (.str ⟨#[c]⟩), some (.int e)] (RS x0 x1 (fs0 F n) W P) = .ok false (RS x0 x1 (fs0 F n) W P) := by
          simp [iCond, plainM, hc, f0_signs, hlen, hlt, hix, hp]
        rw [whGo_false hcond]
        simp [List.takeWhile_cons, hp]
theorem inner0 (c : Nat) (hc : plain c = false) (p e : Option D) (m : Nat) :
    whGo iCond (augM 3 iaddM (cst (.int 1))) (m + 1) [some (.ref 2), p, some (.str ⟨#[c]⟩), e] (RS x0 x1 (fs0 F n) W P) = .nx [some (.ref 2), p, some (.str ⟨#[c]⟩), e] (RS x0 x1 (fs0 F n) W P) := by
  refine whGo_false ?_
  simp [iCond, plainM, hc]
theorem app_w (b : EM D) (l : Sl) (fs : List (Str × D)) : appK b l (.ref 3) (RS x0 x1 fs W P) = (b l (RS x0 x1 fs W P)).bind (appJ 3) := appK_ok _ _ rfl
theorem app_p (b : EM D) (l : Sl) (fs : List (Str × D)) : appK b l (.ref 4) (RS x0 x1 fs W P) = (b l (RS x0 x1 fs W P)).bind (appJ 4) := appK_ok _ _ rfl
theorem appJ_w (fs : List (Str × D)) (z : Str) (h : W.length ≤ 100000) : appJ 3 (.str z) (RS x0 x1 fs W P) = .ok .non (RS x0 x1 fs (W ++ [z]) P) := by
  rw [appJ_ok (ds := sD W) rfl (by simp; omega)]
  simp [RS, sD]
theorem appJ_p (fs : List (Str × D)) (z : Int) (h : P.length ≤ 100000) : appJ 4 (.int z) (RS x0 x1 fs W P) = .ok .non (RS x0 x1 fs W (P ++ [z])) := by
  rw [appJ_ok (ds := iD P) rfl (by simp; omega)]
  simp [RS, iD]
theorem slice_str (F : List Nat) (a b : Nat) (h : F.length ≤ 1000000) (st : Store) : sliceM (.str (mk F)) (some (a : Int)) (some (b : Int)) st = .ok (.str (mk ((F.drop (min a F.length)).take (min b F.length - min a F.length)))) st := by
  have e : small (mk F).length = true := Nat.ble_eq_true_of_le (by simpa using h)
  have e2 : sliceM (.str (mk F)) (some (a : Int)) (some (b : Int)) st = if small (mk F).length = true then .ok (.str (cutS (mk F) (some (a : Int)) (some (b : Int)))) st else .fail := rfl
  rw [e2, if_pos e]
  unfold cutS
  rw [mk_len, mk_cps, HT.sIx_nat, HT.sIx_nat]
  rfl
theorem outer (hF : F.length ≤ 90000) : ∀ (m : Nat) (r : List Nat) (p : Nat) (W : List Str) (P : List Int) (y2 y3 : Option D), F.drop p = r → p ≤ F.length → r.length ≤ m → W.length + r.length ≤ 95000 → P.length + r.length ≤ 95000 →
    ∃ z2 z3, whGo oCond oBody (m + 1) [some (.ref 2), some (.int p), y2, y3] (RS x0 x1 (fs0 F n) W P) = .nx [some (.ref 2), some (.int (F.length : Nat)), z2, z3] (RS x0 x1 (fs0 F n) (W ++ (tk m r p).map fun q => mk q.1) (P ++ (tk m r p).map fun q => (q.2 : Int))) := by
  have hlen : ∀ W P, lenM [.str (mk F)] (RS x0 x1 (fs0 F n) W P) = .ok (.int F.length) (RS x0 x1 (fs0 F n) W P) := fun W P => by rw [lenM_str _ _ (by simp; omega)]; simp
  intro m
  induction m with
  | zero =>
    intro r p W P y2 y3 h1 h2 hm hw hp
    have hr : r = [] := List.eq_nil_of_length_eq_zero (by omega)
    subst hr
    have he : F.length ≤ p := List.drop_eq_nil_iff.mp h1
    have hpe : p = F.length := by omega
    subst hpe
    refine ⟨y2, y3, ?_⟩
    rw [whGo_false (st1 := RS x0 x1 (fs0 F n) W P)]
    · simp [tk]
    · simp [oCond, f0_signs, hlen]
  | succ m ih =>
    intro r p W P y2 y3 h1 h2 hm hw hp
    cases r with
    | nil =>
      have he : F.length ≤ p := List.drop_eq_nil_iff.mp h1
      have hpe : p = F.length := by omega
      subst hpe
      refine ⟨y2, y3, ?_⟩
      rw [whGo_false (st1 := RS x0 x1 (fs0 F n) W P)]
      · simp [tk]
      · simp [oCond, f0_signs, hlen]
    | cons c r =>
      have hd : F[p]? = some c := by
        have := congrArg (fun l => l[0]?) h1
        simpa [List.getElem?_drop] using this
      have hplt : p < F.length := (List.getElem?_eq_some_iff.mp hd).1
      have hlt : (p : Int) < (F.length : Int) := by omega
      have hix : ixM (.str (mk F)) (.int (p : Int)) (RS x0 x1 (fs0 F n) W P) = .ok (.str ⟨#[c]⟩) (RS x0 x1 (fs0 F n) W P) := by
        rw [ixM_str _ _ _ (by simp; omega), mk_cps, Rf.atI_nat hd, atS_s]
      have hr : F.drop (p + 1) = r := by rw [← List.drop_drop, h1]; rfl
      have hlr : r.length = F.length - (p + 1) := by rw [← hr, List.length_drop]
      have hc1 : oCond [some (.ref 2), some (.int p), y2, y3] (RS x0 x1 (fs0 F n) W P) = .ok true (RS x0 x1 (fs0 F n) W P) := by
        simp [oCond, f0_signs, hlen, hlt]
      rw [whGo_true hc1]
      simp only [List.length_cons] at hm hw hp
      by_cases hsp : c = 32
      · subst hsp
        obtain ⟨z2, z3, e⟩ := ih r (p + 1) W P (some (.str ⟨#[32]⟩)) y3 hr (by omega) (by omega) (by omega) (by omega)
        refine ⟨z2, z3, ?_⟩
        have ec : ((p + 1 : Nat) : Int) = (p : Int) + 1 := by omega
        rw [ec] at e
        have hb : oBody [some (.ref 2), some (.int p), y2, y3] (RS x0 x1 (fs0 F n) W P) = .ct [some (.ref 2), some (.int ((p : Int) + 1)), some (.str ⟨#[32]⟩), y3] (RS x0 x1 (fs0 F n) W P) := by
          simp [oBody, f0_signs, hix, sp_eq]
        rw [hb, whK_ct, e]
        simp [tk]
      · have hL : tkLen c r ≤ (c :: r).length := by
          unfold tkLen
          have := (List.takeWhile_sublist plain (l := r)).length_le
          split <;> simp <;> omega
        have hL0 : 0 < tkLen c r := by unfold tkLen; split <;> omega
        simp only [List.length_cons] at hL
        have hin : whGo iCond (augM 3 iaddM (cst (.int 1))) 100000 [some (.ref 2), some (.int p), some (.str ⟨#[c]⟩), some (.int ((p : Int) + 1))] (RS x0 x1 (fs0 F n) W P) = .nx [some (.ref 2), some (.int p), some (.str ⟨#[c]⟩), some (.int ((p + tkLen c r : Nat) : Int))] (RS x0 x1 (fs0 F n) W P) := by
          by_cases hpc : plain c = true
          · have := inner (x0 := x0) (x1 := x1) (n := n) (W := W) (P := P) hF c hpc (some (.int p)) r (p + 1) 100000 hr (by omega) (by omega)
            have ec : ((p + 1 : Nat) : Int) = (p : Int) + 1 := by omega
            rw [ec] at this
            rw [this]
            unfold tkLen
            rw [if_pos hpc, Nat.add_assoc]
          · have hpc' : plain c = false := by simpa using hpc
            have := inner0 (x0 := x0) (x1 := x1) (F := F) (n := n) (W := W) (P := P) c hpc' (some (.int p)) (some (.int ((p : Int) + 1))) 99999
            rw [this]
            unfold tkLen
            rw [if_neg hpc]
            simp
        have hcut : (F.drop (min p F.length)).take (min (p + tkLen c r) F.length - min p F.length) = (c :: r).take (tkLen c r) := by
          rw [Nat.min_eq_left h2, Nat.min_eq_left (by omega), h1]
          congr 1
          omega
        have hsl := slice_str F p (p + tkLen c r) (by omega) (RS x0 x1 (fs0 F n) W P)
        rw [hcut] at hsl
        have hdr : F.drop (p + tkLen c r) = (c :: r).drop (tkLen c r) := by rw [← List.drop_drop, h1]
        have hql : p + tkLen c r ≤ F.length := by omega
        have htk : tk (m + 1) (c :: r) p = ((c :: r).take (tkLen c r), p) :: tk m ((c :: r).drop (tkLen c r)) (p + tkLen c r) := by
          conv => lhs; unfold tk
          rw [if_neg hsp]
        rw [htk]
        generalize hq : p + tkLen c r = q at hin hsl hdr hql ⊢
        obtain ⟨z2, z3, e⟩ := ih ((c :: r).drop (tkLen c r)) q (W ++ [mk ((c :: r).take (tkLen c r))]) (P ++ [(p : Int)]) (some (.str ⟨#[c]⟩)) (some (.int (q : Nat)))
          hdr hql (by simp; omega) (by simp; omega) (by simp; omega)
        refine ⟨z2, z3, ?_⟩
        have hb : oBody [some (.ref 2), some (.int p), y2, y3] (RS x0 x1 (fs0 F n) W P) = .nx [some (.ref 2), some (.int (q : Nat)), some (.str ⟨#[c]⟩), some (.int (q : Nat))] (RS x0 x1 (fs0 F n) (W ++ [mk ((c :: r).take (tkLen c r))]) (P ++ [(p : Int)])) := by
          simp [oBody, f0_signs, f0_words, f0_places, hix, sp_eq, hsp, hin, app_w, app_p, hsl]
          rw [appJ_w _ _ (by omega)]
          simp [f0_places, app_p]
          rw [appJ_p _ _ (by omega)]
          simp
        rw [hb, whK_nx, e]
        simp
end
end K05
namespace K05
set_option autoImplicit false
open PySem L2 Rf

/-! ### the tokens of a text that is put together from words -/
def tok (r : List Nat) (p : Nat) : List (List Nat × Nat) := tk r.length r p
theorem tkLen_le (c : Nat) (r : List Nat) : tkLen c r ≤ r.length + 1 ∧ 0 < tkLen c r := by
  unfold tkLen
  have := (List.takeWhile_sublist plain (l := r)).length_le
  split <;> omega
theorem tk_fuel : ∀ (m m' : Nat) (r : List Nat) (p : Nat), r.length ≤ m → r.length ≤ m' → tk m r p = tk m' r p
  | 0, m', r, p, h, h' => by
    have : r = [] := List.eq_nil_of_length_eq_zero (by omega)
    subst this
    cases m' <;> rfl
  | m + 1, 0, r, p, h, h' => by
    have : r = [] := List.eq_nil_of_length_eq_zero (by omega)
    subst this
    rfl
  | m + 1, m' + 1, [], p, h, h' => rfl
  | m + 1, m' + 1, c :: r, p, h, h' => by
    simp only [List.length_cons] at h h'
    have hl := tkLen_le c r
    unfold tk
    split
    · exact tk_fuel m m' r (p + 1) (by omega) (by omega)
    · rw [tk_fuel m m' ((c :: r).drop (tkLen c r)) (p + tkLen c r) (by simp; omega) (by simp; omega)]
theorem tk_tok {m : Nat} {r : List Nat} (p : Nat) (h : r.length ≤ m) : tk m r p = tok r p := tk_fuel m r.length r p h (Nat.le_refl _)
theorem tok_sp (r : List Nat) (p : Nat) : tok (32 :: r) p = tok r (p + 1) := by
  show tk (r.length + 1) (32 :: r) p = _
  unfold tk
  rw [if_pos rfl]
  rfl
theorem tok_wd {c : Nat} (r : List Nat) (p : Nat) (h : c ≠ 32) : tok (c :: r) p = ((c :: r).take (tkLen c r), p) :: tok ((c :: r).drop (tkLen c r)) (p + tkLen c r) := by
  have hl := tkLen_le c r
  show tk (r.length + 1) (c :: r) p = _
  unfold tk
  rw [if_neg h, tk_tok _ (by simp; omega)]
theorem tok_sps (r : List Nat) : ∀ (k p : Nat), tok (List.replicate k 32 ++ r) p = tok r (p + k)
  | 0, p => rfl
  | k + 1, p => by
    rw [List.replicate_succ, List.cons_append, tok_sp, tok_sps r k (p + 1)]
    congr 1
    omega
/-- what stands behind a word -/
def Behind (r : List Nat) : Prop := ∀ c ∈ r.head?, plain c = false
theorem tw : ∀ (cs r : List Nat), cs.all plain = true → Behind r → (cs ++ r).takeWhile plain = cs
  | [], r, _, h => by
    cases r with
    | nil => rfl
    | cons c r => simp [h c (by simp)]
  | c :: cs, r, hc, h => by
    simp only [List.all_cons, Bool.and_eq_true] at hc
    rw [List.cons_append, List.takeWhile_cons, if_pos hc.1, tw cs r hc.2 h]
def X0 : List Nat := [88, 48]
inductive Good : List Nat → Prop where
  | word (c : Nat) (cs : List Nat) (h : plain c = true) (hs : cs.all plain = true) : Good (c :: cs)
  | sign (c : Nat) (h : plain c = false) (h2 : c ≠ 32) : Good [c]
  | odd : Good X0
def tks (w : List Nat) (p : Nat) : List (List Nat × Nat) := if w = X0 then [([88], p), ([48], p + 1)] else [(w, p)]
theorem p88 : plain 88 = false := by decide +kernel
theorem p48 : plain 48 = true := by decide +kernel
theorem tok_good {w : List Nat} (h : Good w) (r : List Nat) (hr : Behind r) (p : Nat) : tok (w ++ r) p = tks w p ++ tok r (p + w.length) := by
  cases h with
  | word c cs h hs =>
    have hc : c ≠ 32 := fun z => by subst z; rw [plain_sp] at h; cases h
    have hx : (c :: cs) ≠ X0 := fun z => by
      have : c = 88 := by unfold X0 at z; cases z; rfl
      subst this
      rw [p88] at h
      cases h
    have hl : tkLen c (cs ++ r) = (c :: cs).length := by
      unfold tkLen
      rw [if_pos h, tw cs r hs hr, List.length_cons, Nat.add_comm]
    rw [List.cons_append, tok_wd _ _ hc, hl]
    unfold tks
    rw [if_neg hx, ← List.cons_append, List.take_left, List.drop_left]
    rfl
  | sign c h h2 =>
    have hx : [c] ≠ X0 := fun z => by unfold X0 at z; cases z
    have hl : tkLen c r = 1 := by
      unfold tkLen
      rw [h]
      rfl
    rw [List.cons_append, List.nil_append, tok_wd _ _ h2, hl]
    unfold tks
    rw [if_neg hx]
    rfl
  | odd =>
    have hl : tkLen 88 (48 :: r) = 1 := by
      unfold tkLen
      rw [p88]
      rfl
    have hl2 : tkLen 48 r = 1 := by
      unfold tkLen
      rw [if_pos p48]
      cases r with
      | nil => rfl
      | cons d r =>
        have : plain d = false := hr d (by simp)
        simp [this]
    have e : X0 ++ r = 88 :: 48 :: r := rfl
    rw [e, tok_wd _ _ (by decide), hl]
    simp only [List.drop_succ_cons, List.drop_zero, List.take_succ_cons, List.take_zero]
    rw [tok_wd _ _ (by decide), hl2]
    rfl
def txt : List (Nat × List Nat) → List Nat
  | [] => []
  | (k, w) :: g => List.replicate k 32 ++ (w ++ txt g)
def toks : List (Nat × List Nat) → Nat → List (List Nat × Nat)
  | [], _ => []
  | (k, w) :: g, p => tks w (p + k) ++ toks g (p + k + w.length)
def pls : List (Nat × List Nat) → Nat → List Nat
  | [], _ => []
  | (k, w) :: g, p => (p + k) :: pls g (p + k + w.length)
theorem behind_txt {g : List (Nat × List Nat)} (e : Nat) (h : ∀ q ∈ g, 1 ≤ q.1) : Behind (txt g ++ List.replicate e 32) := by
  intro c hc
  cases g with
  | nil =>
    cases e with
    | zero => simp [txt] at hc
    | succ e =>
      simp [txt, List.replicate_succ] at hc
      subst hc
      exact plain_sp
  | cons q g =>
    obtain ⟨k, w⟩ := q
    have : 1 ≤ k := h _ List.mem_cons_self
    obtain ⟨k', rfl⟩ : ∃ k', k = k' + 1 := ⟨k - 1, by omega⟩
    simp [txt, List.replicate_succ] at hc
    subst hc
    exact plain_sp
theorem tok_txt (e : Nat) : ∀ (g : List (Nat × List Nat)) (p : Nat), (∀ q ∈ g, 1 ≤ q.1 ∧ Good q.2) → tok (txt g ++ List.replicate e 32) p = toks g p
  | [], p, _ => by
    have := tok_sps [] e p
    rw [List.append_nil] at this
    simp only [txt, List.nil_append, toks]
    rw [this]
    rfl
  | (k, w) :: g, p, h => by
    obtain ⟨h1, h2⟩ := h _ List.mem_cons_self
    have hr := behind_txt e (g := g) fun q hq => (h q (List.mem_cons_of_mem _ hq)).1
    simp only [txt, toks, List.append_assoc]
    rw [tok_sps, tok_good h2 _ hr, tok_txt e g _ fun q hq => h q (List.mem_cons_of_mem _ hq)]
/-! ### the machine does not feel how the odd word is parted -/
def sx (z : List Nat) : Str := mk z
theorem bad_odd {n : Nat} (hn : n < 10) : (mk X0 : Str) ≠ "not" ∧ (mk X0 : Str) ≠ "(" ∧ (mk X0 : Str) ≠ ")" ∧ mk X0 ∉ ops ∧ (mk [88] : Str) ≠ "not" ∧ (mk [88] : Str) ≠ "(" ∧ (mk [88] : Str) ≠ ")" ∧ mk [88] ∉ ops ∧ mk X0 ∉ xs n ∧ mk [88] ∉ xs n := by
  refine ⟨by decide +kernel, by decide +kernel, by decide +kernel, by decide +kernel, by decide +kernel, by decide +kernel, by decide +kernel, by decide +kernel, ?_, ?_⟩
  · intro h
    obtain ⟨j, _, e⟩ := List.mem_map.mp h
    have e2 : mk [120, 48 + j] = mk X0 := e
    have := mk_inj.mp e2
    simp [X0] at this
  · intro h
    obtain ⟨j, _, e⟩ := List.mem_map.mp h
    have e2 : mk [120, 48 + j] = mk [88] := e
    have := mk_inj.mp e2
    simp at this
theorem mc_odd {n : Nat} (hn : n < 10) (k : Nat) (w : List Wn) (r r' : List Str) : mc n k w (mk X0 :: r) = some k ∧ mc n k w (mk [88] :: r') = some k := by
  obtain ⟨a1, a2, a3, a4, b1, b2, b3, b4, a5, b5⟩ := bad_odd hn
  cases w with
  | nil => simp [mc]
  | cons a w => cases a <;> simp [mc, a1, a2, a3, a4, a5, b1, b2, b3, b4, b5]
theorem mc_toks {n : Nat} (hn : n < 10) : ∀ (g : List (Nat × List Nat)) (p k : Nat) (w : List Wn), mc n k w ((toks g p).map fun q => mk q.1) = mc n k w (g.map fun q => mk q.2) ∧
    ∀ j, mc n k w (g.map fun q => mk q.2) = some j → ∃ i, j = k + i ∧ ((toks g p).map (·.2))[i]? = (pls g p)[i]?
  | [], p, k, w => by
    refine ⟨rfl, fun j h => ?_⟩
    cases w with
    | nil => simp [mc] at h
    | cons a w =>
      have : j = k := by cases a <;> simp [mc] at h <;> exact h.symm
      subst this
      exact ⟨0, rfl, rfl⟩
  | (m, z) :: g, p, k, w => by
    simp only [toks, List.map_cons, pls]
    by_cases hz : z = X0
    · subst hz
      obtain ⟨h1, h2⟩ := mc_odd hn k w (g.map fun q => mk q.2) (([48] : List Nat) |> fun y => mk y :: (toks g (p + m + X0.length)).map fun q => mk q.1)
      unfold tks
      rw [if_pos rfl]
      simp only [List.cons_append, List.nil_append, List.map_cons]
      refine ⟨h2.trans h1.symm, fun j h => ?_⟩
      rw [h1] at h
      cases h
      exact ⟨0, rfl, rfl⟩
    · unfold tks
      rw [if_neg hz]
      simp only [List.cons_append, List.nil_append, List.map_cons]
      have step : ∀ w', (mc n (k + 1) w' ((toks g (p + m + z.length)).map fun q => mk q.1) = mc n (k + 1) w' (g.map fun q => mk q.2) ∧
          ∀ j, mc n (k + 1) w' (g.map fun q => mk q.2) = some j → ∃ i, j = k + i ∧ ((p + m) :: (toks g (p + m + z.length)).map (·.2))[i]? = ((p + m) :: pls g (p + m + z.length))[i]?) := fun w' => by
        obtain ⟨e1, e2⟩ := mc_toks hn g (p + m + z.length) (k + 1) w'
        refine ⟨e1, fun j h => ?_⟩
        obtain ⟨i, h1, h2⟩ := e2 j h
        exact ⟨i + 1, by omega, by rw [List.getElem?_cons_succ, List.getElem?_cons_succ]; exact h2⟩
      have stop : ∀ j, some k = some j → ∃ i, j = k + i ∧ ((p + m) :: (toks g (p + m + z.length)).map (·.2))[i]? = ((p + m) :: pls g (p + m + z.length))[i]? := fun j h => by
        cases h
        exact ⟨0, rfl, rfl⟩
      cases w with
      | nil => exact ⟨by simp [mc], fun j h => stop j (by simpa [mc] using h)⟩
      | cons a w =>
        cases a with
        | E =>
          unfold mc
          by_cases c1 : mk z = "not"
          · rw [if_pos c1, if_pos c1]; exact step _
          · rw [if_neg c1, if_neg c1]
            by_cases c2 : mk z = "("
            · rw [if_pos c2, if_pos c2]; exact step _
            · rw [if_neg c2, if_neg c2]
              by_cases c3 : mk z ∈ xs n
              · rw [if_pos c3, if_pos c3]; exact step _
              · rw [if_neg c3, if_neg c3]; exact ⟨rfl, stop⟩
        | W =>
          unfold mc
          by_cases c1 : mk z ∈ ops
          · rw [if_pos c1, if_pos c1]; exact step _
          · rw [if_neg c1, if_neg c1]; exact ⟨rfl, stop⟩
        | C =>
          unfold mc
          by_cases c1 : mk z = ")"
          · rw [if_pos c1, if_pos c1]; exact step _
          · rw [if_neg c1, if_neg c1]; exact ⟨rfl, stop⟩
end K05
namespace K05
set_option autoImplicit false
open PySem L2 Rf

/-! ### the reader at work -/
def fs1 (F : List Nat) (n k : Nat) : List (Str × D) := [("signs", .str (mk F)), ("inputs", .int n), ("words", .ref 3), ("places", .ref 4), ("at", .int k)]
section
variable {x0 x1 : O} {F : List Nat} {n : Nat} {T : List Str} {P : List Int}
theorem f1_signs (k : Nat) : fldK "Reader" "signs" (.ref 2) (RS x0 x1 (fs1 F n k) T P) = .ok (.str (mk F)) (RS x0 x1 (fs1 F n k) T P) := fldK_ok rfl (by rfl)
theorem f1_inputs (k : Nat) : fldK "Reader" "inputs" (.ref 2) (RS x0 x1 (fs1 F n k) T P) = .ok (.int n) (RS x0 x1 (fs1 F n k) T P) := fldK_ok rfl (by rfl)
theorem f1_words (k : Nat) : fldK "Reader" "words" (.ref 2) (RS x0 x1 (fs1 F n k) T P) = .ok (.ref 3) (RS x0 x1 (fs1 F n k) T P) := fldK_ok rfl (by rfl)
theorem f1_places (k : Nat) : fldK "Reader" "places" (.ref 2) (RS x0 x1 (fs1 F n k) T P) = .ok (.ref 4) (RS x0 x1 (fs1 F n k) T P) := fldK_ok rfl (by rfl)
theorem f1_at (k : Nat) : fldK "Reader" "at" (.ref 2) (RS x0 x1 (fs1 F n k) T P) = .ok (.int k) (RS x0 x1 (fs1 F n k) T P) := fldK_ok rfl (by rfl)
theorem r1_word (k : Nat) : recvK "Reader" "word" (.ref 2) (RS x0 x1 (fs1 F n k) T P) = .ok (.ref 2) (RS x0 x1 (fs1 F n k) T P) := recvK_ok rfl (by rfl)
theorem r1_fail (k : Nat) : recvK "Reader" "fail" (.ref 2) (RS x0 x1 (fs1 F n k) T P) = .ok (.ref 2) (RS x0 x1 (fs1 F n k) T P) := recvK_ok rfl (by rfl)
theorem r1_formula (k : Nat) : recvK "Reader" "formula" (.ref 2) (RS x0 x1 (fs1 F n k) T P) = .ok (.ref 2) (RS x0 x1 (fs1 F n k) T P) := recvK_ok rfl (by rfl)
theorem r1_pair (k : Nat) : recvK "Reader" "pair" (.ref 2) (RS x0 x1 (fs1 F n k) T P) = .ok (.ref 2) (RS x0 x1 (fs1 F n k) T P) := recvK_ok rfl (by rfl)
theorem f1_on (k : Nat) (b : EM D) (l : Sl) : fldAK "Reader" "at" (fun i j => i + j) b l (.ref 2) (RS x0 x1 (fs1 F n k) T P) = (b l (RS x0 x1 (fs1 F n k) T P)).toS l (fldAJ "Reader" "at" (fun i j => i + j) 2 k l) := fldAK_ok _ _ rfl (by rfl)
theorem f1_on2 (k : Nat) (l : Sl) : fldAJ "Reader" "at" (fun i j => i + j) 2 k l (.int 1) (RS x0 x1 (fs1 F n k) T P) = .nx l (RS x0 x1 (fs1 F n (k + 1)) T P) := by
  have h : fldAJ "Reader" "at" (fun i j => i + j) 2 (k : Int) l (.int 1) (RS x0 x1 (fs1 F n k) T P) = .nx l ((RS x0 x1 (fs1 F n k) T P).set 2 (.ins "Reader" (putD "at" (.int ((k : Int) + 1)) (fs1 F n k)))) := fldAJ_ok (i := (k : Int)) (j := 1) l rfl (Nat.le_of_ble_eq_true rfl)
  rw [h]
  rfl
def wd (T : List Str) (k : Nat) : Str := (T[k]?).getD ""
def plc (T : List Str) (P : List Int) (F : List Nat) (k : Nat) : Int := if k < T.length then (P[k]?).getD 0 else F.length
theorem len_w (k : Nat) : lenM [.ref 3] (RS x0 x1 (fs1 F n k) T P) = .ok (.int T.length) (RS x0 x1 (fs1 F n k) T P) := by
  rw [lenM_ref (RS x0 x1 (fs1 F n k) T P) (sD T) (n := 3) rfl, sD_len]
theorem word_ok (k : Nat) : m_Reader_word [.ref 2] (RS x0 x1 (fs1 F n k) T P) = .ok (.str (wd T k)) (RS x0 x1 (fs1 F n k) T P) := by
  unfold m_Reader_word
  by_cases h : k < T.length
  · have h2 : (k : Int) < (T.length : Int) := by omega
    obtain ⟨z, hz⟩ : ∃ z, T[k]? = some z := ⟨T[k], List.getElem?_eq_getElem h⟩
    have e : ixM (.ref 3) (.int (k : Int)) (RS x0 x1 (fs1 F n k) T P) = .ok (.str z) (RS x0 x1 (fs1 F n k) T P) := by
      rw [ixM_ref (RS x0 x1 (fs1 F n k) T P) _ (sD T) (n := 3) rfl, Rf.atI_nat (sD_get hz), atK_s]
    simp [b_Reader_word, f1_at, f1_words, len_w, h2, e, wd, hz]
  · have h2 : ¬ (k : Int) < (T.length : Int) := by omega
    have hz : T[k]? = none := List.getElem?_eq_none (by omega)
    simp [b_Reader_word, f1_at, f1_words, len_w, h2, wd, hz]
theorem fail_ok (hF : F.length ≤ 90000) (hP : P.length = T.length) (k : Nat) : m_Reader_fail [.ref 2] (RS x0 x1 (fs1 F n k) T P) = .exc "BadSign" [("place", .int (plc T P F k))] (RS x0 x1 (fs1 F n k) T P) := by
  have hlen : lenM [.str (mk F)] (RS x0 x1 (fs1 F n k) T P) = .ok (.int F.length) (RS x0 x1 (fs1 F n k) T P) := by rw [lenM_str _ _ (by simp; omega)]; simp
  unfold m_Reader_fail
  by_cases h : k < T.length
  · have h2 : (k : Int) < (T.length : Int) := by omega
    obtain ⟨z, hz⟩ : ∃ z, P[k]? = some z := ⟨P[k], List.getElem?_eq_getElem (by omega)⟩
    have e : ixM (.ref 4) (.int (k : Int)) (RS x0 x1 (fs1 F n k) T P) = .ok (.int z) (RS x0 x1 (fs1 F n k) T P) := by
      rw [ixM_ref (RS x0 x1 (fs1 F n k) T P) _ (iD P) (n := 4) rfl, Rf.atI_nat (iD_get hz), atK_s]
    simp [b_Reader_fail, f1_at, f1_words, f1_places, len_w, h2, e, plc, hz, h]
  · have h2 : ¬ (k : Int) < (T.length : Int) := by omega
    simp [b_Reader_fail, f1_at, f1_words, f1_signs, len_w, h2, hlen, plc, h]
/-- the words that open something -/
def opn (l : List Str) : Nat := l.countP fun w => decide (w = ("not" : Str)) || decide (w = ("(" : Str))
theorem opn_cons (w : Str) (l : List Str) : opn (w :: l) = opn l + if w = "not" ∨ w = "(" then 1 else 0 := by
  unfold opn
  rw [List.countP_cons]
  by_cases h1 : w = "not" <;> by_cases h2 : w = "(" <;> simp [h1, h2]
theorem opn_drop (l : List Str) (k : Nat) : opn (l.drop k) ≤ opn l := List.Sublist.countP_le (List.drop_sublist k l)
theorem drop_le (T : List Str) {k k' : Nat} (h : k ≤ k') : opn (T.drop k') ≤ opn (T.drop k) := by
  obtain ⟨d, rfl⟩ : ∃ d, k' = k + d := ⟨k' - k, by omega⟩
  rw [← List.drop_drop]
  exact opn_drop _ _
/-- a word at k, and what stands behind it -/
theorem at_word (T : List Str) (k : Nat) : (∃ z, T[k]? = some z ∧ T.drop k = z :: T.drop (k + 1) ∧ wd T k = z ∧ k < T.length) ∨ (T.drop k = [] ∧ wd T k = "" ∧ T.length ≤ k) := by
  by_cases h : k < T.length
  · refine .inl ⟨T[k], List.getElem?_eq_getElem h, List.drop_eq_getElem_cons h, ?_, h⟩
    unfold wd
    rw [List.getElem?_eq_getElem h]
    rfl
  · refine .inr ⟨List.drop_eq_nil_iff.mpr (by omega), ?_, by omega⟩
    unfold wd
    rw [List.getElem?_eq_none (by omega)]
    rfl
/-! ### x0, x1, .. -/
theorem namesG {n : Nat} (h : n < 10) (i : Nat) (l : Sl) (st : Store) (el : EM D) (g : Nat → Str) (hel : ∀ j, j < n → el ((wipeD l [i]).set i (some (.int (j : Nat)))) st = .ok (.str (g j)) st) (a : EM (List D)) (ha : a l st = .ok [.int n] st) :
    lcM (itR1 a) (.nm i) yesM el [i] l st = .ok (sD ((List.range n).map g)) st := by
  have e := lcM_map (it := itR1 a) (t := .nm i) (el := el) (vs := [i]) (l := l) (st := st) (st1 := st) (s := ⟨rngD 0 n, none⟩) (f := fun d => match d with
    | .int j => .str (g j.toNat)
    | d => d) (by simp [ha, rngK_nat (show n ≤ 1000000 by omega)]) (by simp [rngD]; omega) rfl (fun d hd => ?_)
  · rw [e]
    simp only [rngD_get, sD, List.map_map]
    congr 1
  · simp only [rngD_get] at hd
    obtain ⟨j, hj, rfl⟩ := List.mem_map.mp hd
    have hj := List.mem_range.mp hj
    exact ⟨_, rfl, by rw [hel j hj]; simp⟩
theorem cut_s (z : Str) : (∀ st, z.length ≤ 1000000 → sliceM (.str z) none (some 1) st = .ok (.str (mk (z.cps.toList.take 1))) st) ∧ (∀ st, z.length ≤ 1000000 → sliceM (.str z) (some 1) none st = .ok (.str (mk (z.cps.toList.drop 1))) st) := by
  have hl : z.cps.toList.length = z.length := by show z.cps.toList.length = z.cps.size; simp
  constructor
  · intro st h
    have e : small z.length = true := Nat.ble_eq_true_of_le h
    have e2 : sliceM (.str z) none (some 1) st = if small z.length = true then .ok (.str (cutS z none (some 1))) st else .fail := rfl
    rw [e2, if_pos e]
    unfold cutS
    rw [show (1 : Int) = ((1 : Nat) : Int) from rfl, HT.sIx_nat, HT.sIx_none, List.drop_zero, Nat.sub_zero]
    congr 2
    unfold mk
    congr 2
    by_cases h1 : 1 ≤ z.length
    · rw [Nat.min_eq_left h1]
    · rw [Nat.min_eq_right (by omega), List.take_of_length_le (by omega), List.take_of_length_le (by omega)]
  · intro st h
    have e : small z.length = true := Nat.ble_eq_true_of_le h
    have e2 : sliceM (.str z) (some 1) none st = if small z.length = true then .ok (.str (cutS z (some 1) none)) st else .fail := rfl
    rw [e2, if_pos e]
    unfold cutS
    rw [show (1 : Int) = ((1 : Nat) : Int) from rfl, HT.sIx_nat, HT.sIx_none]
    congr 2
    unfold mk
    congr 2
    by_cases h1 : 1 ≤ z.length
    · rw [Nat.min_eq_left h1, List.take_of_length_le (by rw [List.length_drop, hl]; exact Nat.le_refl _)]
    · rw [Nat.min_eq_right (by omega), List.drop_of_length_le (l := z.cps.toList) (i := 1) (by omega), List.drop_of_length_le (by omega)]
      simp
theorem x_iff (n : Nat) (z : Str) : z ∈ xs n ↔ (mk (z.cps.toList.take 1) = "x" ∧ mk (z.cps.toList.drop 1) ∈ (List.range n).map fun j => (⟨#[48 + j]⟩ : Str)) := by
  have hx : ("x" : Str) = mk [120] := by decide +kernel
  constructor
  · intro h
    obtain ⟨j, hj, rfl⟩ := List.mem_map.mp h
    exact ⟨hx.symm, List.mem_map.mpr ⟨j, hj, rfl⟩⟩
  · rintro ⟨h1, h2⟩
    obtain ⟨j, hj, e⟩ := List.mem_map.mp h2
    rw [hx] at h1
    have h1 := mk_inj.mp h1
    have h2 : [48 + j] = z.cps.toList.drop 1 := mk_inj.mp (show mk [48 + j] = _ from e)
    refine List.mem_map.mpr ⟨j, hj, ?_⟩
    rw [mk_of z]
    have : z.cps.toList = [120, 48 + j] := by
      rw [← List.take_append_drop 1 z.cps.toList, h1, ← h2]
      rfl
    rw [this]
    rfl
theorem int_dig (j : Nat) (h : j < 10) : PySem.intText? (⟨#[48 + j]⟩ : Str) = some (j : Int) := (by decide +kernel : ∀ j : Fin 10, PySem.intText? (⟨#[48 + j.val]⟩ : Str) = some ((j.val : Nat) : Int)) ⟨j, h⟩
end
end K05
namespace K05
set_option autoImplicit false
open PySem L2 Rf

section
variable {x0 x1 : O} {F : List Nat} {n : Nat} {T : List Str} {P : List Int}
/-- what comes of reading a formula from k on -/
def Out (x0 x1 : O) (F : List Nat) (n : Nat) (T : List Str) (P : List Int) (f : FM) (deep : Int) (k : Nat) : Prop :=
  (∃ (t : Tr) (k' : Nat), f [.ref 2, .int deep] (RS x0 x1 (fs1 F n k) T P) = .ok t.d (RS x0 x1 (fs1 F n k') T P) ∧ k < k' ∧ k' ≤ T.length ∧ t.ok n ∧ t.dep ≤ opn (T.drop k) ∧ ∀ ws, mc n k (.E :: ws) (T.drop k) = mc n k' ws (T.drop k')) ∨
    ∃ j, f [.ref 2, .int deep] (RS x0 x1 (fs1 F n k) T P) = .exc "BadSign" [("place", .int (plc T P F j))] (RS x0 x1 (fs1 F n j) T P) ∧ ∀ ws, mc n k (.E :: ws) (T.drop k) = some j
theorem mcE (n k : Nat) (ws : List Wn) (t : Str) (ts : List Str) : mc n k (.E :: ws) (t :: ts) = if t = "not" then mc n (k + 1) (.E :: ws) ts else if t = "(" then mc n (k + 1) (.E :: .W :: .E :: .C :: ws) ts else if t ∈ xs n then mc n (k + 1) ws ts else some k := rfl
theorem mcW (n k : Nat) (ws : List Wn) (t : Str) (ts : List Str) : mc n k (.W :: ws) (t :: ts) = if t ∈ ops then mc n (k + 1) ws ts else some k := rfl
theorem mcC (n k : Nat) (ws : List Wn) (t : Str) (ts : List Str) : mc n k (.C :: ws) (t :: ts) = if t = ")" then mc n (k + 1) ws ts else some k := rfl
theorem ops_o (w : Str) (h : w ∈ ops) : ∃ o : Fin 3, w = opS o := by
  simp only [ops, List.mem_cons, List.not_mem_nil, or_false] at h
  rcases h with h | h | h
  · exact ⟨0, h⟩
  · exact ⟨1, h⟩
  · exact ⟨2, h⟩
@[simp] theorem e_1 : (("" : Str) = "not") = False := by decide +kernel
@[simp] theorem e_2 : (("" : Str) = "(") = False := by decide +kernel
@[simp] theorem e_3 : (("" : Str) = ")") = False := by decide +kernel
theorem e_4 : ("" : Str) ∉ ops := by decide +kernel
theorem e_5 (n : Nat) : ("" : Str) ∉ xs n := fun h => by
  obtain ⟨j, _, e⟩ := List.mem_map.mp h
  have e2 : mk [120, 48 + j] = mk [] := e.trans (by decide +kernel)
  exact nomatch mk_inj.mp e2
theorem parse (hF : F.length ≤ 90000) (hP : P.length = T.length) (hT : ∀ z ∈ T, z.length ≤ 1000) (hn : n < 10) : ∀ m : Nat,
    (∀ (deep : Int) (k : Nat), 2 * opn (T.drop k) + 1 ≤ m → deep + opn (T.drop k) ≤ 20 → Out x0 x1 F n T P (F_Reader_formula m) deep k) ∧
    (∀ (deep : Int) (k : Nat), T[k]? = some ("(" : Str) → 2 * opn (T.drop k) ≤ m → deep + opn (T.drop k) ≤ 20 → Out x0 x1 F n T P (F_Reader_pair m) deep k) := by
  intro m
  induction m with
  | zero =>
    refine ⟨fun deep k h _ => by omega, fun deep k hw h _ => ?_⟩
    rcases at_word T k with ⟨z, h1, h2, h3, h4⟩ | ⟨h1, h2, h3⟩
    · rw [hw] at h1
      cases h1
      rw [h2, opn_cons] at h
      simp at h
    · rw [List.getElem?_eq_none h3] at hw
      cases hw
  | succ m ih =>
    refine ⟨fun deep k hm hd => ?_, fun deep k hw hm hd => ?_⟩
    · have hdeep : ¬ 20 < deep := by omega
      have fl : ∀ k, m_Reader_fail [.ref 2] (RS x0 x1 (fs1 F n k) T P) = .exc "BadSign" [("place", .int (plc T P F k))] (RS x0 x1 (fs1 F n k) T P) := fun k => fail_ok hF hP k
      have wk : m_Reader_word [.ref 2] (RS x0 x1 (fs1 F n k) T P) = .ok (.str (wd T k)) (RS x0 x1 (fs1 F n k) T P) := word_ok k
      have zl : (wd T k).length ≤ 1000000 := by
        rcases at_word T k with ⟨z, h1, h2, h3, h4⟩ | ⟨h1, h2, h3⟩
        · rw [h3]
          have := hT z (List.mem_of_getElem? h1)
          omega
        · rw [h2]
          decide +kernel
      have c1 := (cut_s (wd T k)).1 (RS x0 x1 (fs1 F n k) T P) zl
      have c2 := (cut_s (wd T k)).2 (RS x0 x1 (fs1 F n k) T P) zl
      have nm := namesG hn 3 [some (.ref 2), some (.int deep), some (.str (wd T k)), none] (RS x0 x1 (fs1 F n k) T P) (callM strOf (consA (vr 3) nilA)) (fun j => ⟨#[48 + j]⟩) (fun j hj => by
        have e := strOf_i (RS x0 x1 (fs1 F n k) T P) (i := j) (by omega)
        rw [dig j (by omega)] at e
        simp [wipeD, e]) (consA (fldM "Reader" "inputs" (vr 0)) nilA) (by simp [f1_inputs])
      have xi := x_iff n (wd T k)
      by_cases w1 : wd T k = "not"
      · rcases at_word T k with ⟨z, h1, h2, h3, h4⟩ | ⟨h1, h2, h3⟩
        · rw [h3] at w1
          subst w1
          have ho : opn (T.drop k) = opn (T.drop (k + 1)) + 1 := by rw [h2, opn_cons]; simp
          rcases ih.1 (deep + 1) (k + 1) (by omega) (by omega) with ⟨t, k', e, a1, a2, a3, a4, a5⟩ | ⟨j, e, a5⟩
          · refine .inl ⟨.nt t, k', ?_, by omega, a2, a3, ?_, fun ws => ?_⟩
            · rw [F_Reader_formula_succ]
              simp [b_Reader_formula, r1_word, r1_formula, wk, h3, hdeep, f1_on, f1_on2, e, Tr.d]
            · show t.dep + 1 ≤ _
              omega
            · rw [h2]
              rw [mcE]
              rw [if_pos rfl]
              exact a5 ws
          · refine .inr ⟨j, ?_, fun ws => ?_⟩
            · rw [F_Reader_formula_succ]
              simp [b_Reader_formula, r1_word, r1_formula, wk, h3, hdeep, f1_on, f1_on2, e]
            · rw [h2]
              rw [mcE]
              rw [if_pos rfl]
              exact a5 ws
        · rw [h2] at w1
          simp at w1
      · by_cases w2 : wd T k = "("
        · rcases at_word T k with ⟨z, h1, h2, h3, h4⟩ | ⟨h1, h2, h3⟩
          · rw [h3] at w2
            subst w2
            rcases ih.2 deep k h1 (by omega) hd with ⟨t, k', e, a1, a2, a3, a4, a5⟩ | ⟨j, e, a5⟩
            · refine .inl ⟨t, k', ?_, a1, a2, a3, a4, a5⟩
              rw [F_Reader_formula_succ]
              simp [b_Reader_formula, r1_word, r1_pair, wk, h3, hdeep, e]
            · refine .inr ⟨j, ?_, a5⟩
              rw [F_Reader_formula_succ]
              simp [b_Reader_formula, r1_word, r1_pair, wk, h3, hdeep, e]
          · rw [h2] at w2
            simp at w2
        · by_cases w3 : wd T k ∈ xs n
          · rcases at_word T k with ⟨z, h1, h2, h3, h4⟩ | ⟨h1, h2, h3⟩
            · obtain ⟨x1', x2'⟩ := xi.mp w3
              obtain ⟨j, hj, ej⟩ := List.mem_map.mp w3
              have hj := List.mem_range.mp hj
              have edrop : mk ((wd T k).cps.toList.drop 1) = ⟨#[48 + j]⟩ := by rw [← ej]; rfl
              have ei : intOf [.str (⟨#[48 + j]⟩ : Str)] (RS x0 x1 (fs1 F n (k + 1)) T P) = .ok (.int (j : Nat)) (RS x0 x1 (fs1 F n (k + 1)) T P) := by
                unfold intOf
                simp only [int_dig j (by omega)]
                rfl
              have c2' := (cut_s (wd T k)).2 (RS x0 x1 (fs1 F n (k + 1)) T P) zl
              refine .inl ⟨.x j, k + 1, ?_, by omega, h4, hj, Nat.zero_le _, fun ws => ?_⟩
              · rw [F_Reader_formula_succ]
                rw [edrop] at c2 c2' x2'
                simp [b_Reader_formula, r1_word, wk, w1, w2, hdeep, c1, c2, c2', x1', nm, inM_fl, x2', f1_on, f1_on2, ei, Tr.d]
              · rw [h2]
                rw [mcE]
                rw [← h3, if_neg w1, if_neg w2, if_pos w3]
            · rw [h2] at w3
              exact absurd w3 (e_5 n)
          · refine .inr ⟨k, ?_, fun ws => ?_⟩
            · rw [F_Reader_formula_succ]
              by_cases y1 : mk ((wd T k).cps.toList.take 1) = "x"
              · have y2 : mk ((wd T k).cps.toList.drop 1) ∉ (List.range n).map fun j => (⟨#[48 + j]⟩ : Str) := fun h => w3 (xi.mpr ⟨y1, h⟩)
                simp only [b_Reader_formula, dfM_2, sq_s, setM_s, methM_s, vr_s, List.getElem?_cons_zero, List.getElem?_cons_succ, vrK_s, bind_ok, r1_word, methK_s, nilA_s, methJ_s, wk, toS_ok, setK_s, List.set_cons_succ, List.set_cons_zero, sqK_nx, ifS_s, tst_s, b2_s, b2K_s, cst_s, cmpM_i, decide_eq_false hdeep, tstK_s, ifK_f, nextM_s, eqM_str, decide_eq_false w1, decide_eq_false w2, andT_s, s3_s, s3K_s, noO_s, s3J_s, onO_s, onK_s, c1, decide_eq_true y1, andK_t, c2, fz_s, nm, flK_s, inM_fl, decide_eq_false y2, retM_s, r1_fail, fl, toS_exc, bind_exc, endD_exc, List.replicate]
              · simp [b_Reader_formula, r1_word, r1_fail, wk, w1, w2, hdeep, c1, y1, fl]
            · rcases at_word T k with ⟨z, h1, h2, h3, h4⟩ | ⟨h1, h2, h3⟩
              · rw [h2]
                rw [mcE]
                rw [← h3, if_neg w1, if_neg w2, if_neg w3]
              · rw [h1]
                rfl
    · have fl : ∀ k, m_Reader_fail [.ref 2] (RS x0 x1 (fs1 F n k) T P) = .exc "BadSign" [("place", .int (plc T P F k))] (RS x0 x1 (fs1 F n k) T P) := fun k => fail_ok hF hP k
      have wk : ∀ k, m_Reader_word [.ref 2] (RS x0 x1 (fs1 F n k) T P) = .ok (.str (wd T k)) (RS x0 x1 (fs1 F n k) T P) := fun k => word_ok k
      have ni : ∀ w st, ninM (.str w) (.tup [.str "and", .str "or", .str "xor"]) st = .ok (.bl (!decide (w ∈ ops))) st := fun w st => ninM_tup w ops st
      rcases at_word T k with ⟨z, h1, h2, h3, h4⟩ | ⟨h1, h2, h3⟩
      case inr =>
        rw [List.getElem?_eq_none h3] at hw
        cases hw
      rw [hw] at h1
      cases h1
      have ho : opn (T.drop k) = opn (T.drop (k + 1)) + 1 := by rw [h2, opn_cons]; simp
      have hmc : ∀ ws, mc n k (.E :: ws) (T.drop k) = mc n (k + 1) (.E :: .W :: .E :: .C :: ws) (T.drop (k + 1)) := fun ws => by
        rw [h2, mcE, if_neg (by decide +kernel), if_pos rfl]
      rcases ih.1 (deep + 1) (k + 1) (by omega) (by omega) with ⟨t, k2, e, a1, a2, a3, a4, a5⟩ | ⟨j, e, a5⟩
      case inr =>
        refine .inr ⟨j, ?_, fun ws => ?_⟩
        · rw [F_Reader_pair_succ]
          simp [b_Reader_pair, r1_formula, f1_on, f1_on2, e]
        · rw [hmc]
          exact a5 _
      by_cases w1 : wd T k2 ∈ ops
      case neg =>
        refine .inr ⟨k2, ?_, fun ws => ?_⟩
        · rw [F_Reader_pair_succ]
          simp [b_Reader_pair, r1_formula, r1_word, r1_fail, f1_on, f1_on2, e, wk, ni, w1, fl]
        · rw [hmc, a5]
          rcases at_word T k2 with ⟨z, h5, h6, h7, h8⟩ | ⟨h5, h6, h7⟩
          · rw [h6, mcW, ← h7, if_neg w1]
          · rw [h5]
            rfl
      rcases at_word T k2 with ⟨z, h5, h6, h7, h8⟩ | ⟨h5, h6, h7⟩
      case inr => rw [h6] at w1; exact absurd w1 e_4
      have hd2 := drop_le T (show k + 1 ≤ k2 + 1 by omega)
      rcases ih.1 (deep + 1) (k2 + 1) (by omega) (by omega) with ⟨u, k4, e', b1, b2, b3, b4, b5⟩ | ⟨j, e', b5⟩
      case inr =>
        refine .inr ⟨j, ?_, fun ws => ?_⟩
        · rw [F_Reader_pair_succ]
          simp [b_Reader_pair, r1_formula, r1_word, r1_fail, f1_on, f1_on2, e, wk, ni, w1, fl, e']
        · rw [hmc, a5, h6, mcW, ← h7, if_pos w1]
          exact b5 _
      by_cases w2 : wd T k4 = ")"
      case neg =>
        refine .inr ⟨k4, ?_, fun ws => ?_⟩
        · rw [F_Reader_pair_succ]
          simp [b_Reader_pair, r1_formula, r1_word, r1_fail, f1_on, f1_on2, e, wk, ni, w1, fl, e', w2]
        · rw [hmc, a5, h6, mcW, ← h7, if_pos w1, b5]
          rcases at_word T k4 with ⟨y, g1, g2, g3, g4⟩ | ⟨g1, g2, g3⟩
          · rw [g2, mcC, ← g3, if_neg w2]
          · rw [g1]
            rfl
      rcases at_word T k4 with ⟨y, g1, g2, g3, g4⟩ | ⟨g1, g2, g3⟩
      case inr => rw [g2] at w2; simp at w2
      obtain ⟨o, ho2⟩ := ops_o _ w1
      refine .inl ⟨.op o t u, k4 + 1, ?_, by omega, g4, ⟨a3, b3⟩, ?_, fun ws => ?_⟩
      · rw [F_Reader_pair_succ]
        rw [ho2] at w1
        simp [b_Reader_pair, r1_formula, r1_word, r1_fail, f1_on, f1_on2, e, wk, ni, w1, fl, e', w2, Tr.d, ho2]
      · show max t.dep u.dep + 1 ≤ _
        omega
      · rw [hmc, a5, h6, mcW, ← h7, if_pos w1, b5, g2, mcC, ← g3, if_pos w2]
end
end K05
namespace K05
set_option autoImplicit false
open PySem L2 Rf

theorem lcGo_ex {s : Src} {t : T} {el : EM D} {l : Sl} {st : Store} (hc : s.chk st = true) : ∀ (ds : List D), (∀ d ∈ ds, ∃ l1 r, t.put d l = some l1 ∧ el l1 st = .ok r st) → ∃ rs, lcGo s t yesM el l ds st = .ok rs st
  | [], _ => ⟨[], by simp [lcGo, hc]⟩
  | d :: ds, h => by
    obtain ⟨l1, r, h1, h2⟩ := h d List.mem_cons_self
    obtain ⟨rs, ih⟩ := lcGo_ex (el := el) hc ds fun x hx => h x (List.mem_cons_of_mem _ hx)
    exact ⟨r :: rs, by simp [lcGo, hc, h1, yesM, h2, ih]⟩
theorem lcM_ex {it : EM Src} {t : T} {el : EM D} {vs : List Nat} {l : Sl} {st st1 : Store} {s : Src} (hi : it l st = .ok s st1) (hs : s.items.length ≤ 1000000) (hc : s.chk st1 = true)
    (h : ∀ d ∈ s.items, ∃ l1 r, t.put d (wipeD l vs) = some l1 ∧ el l1 st1 = .ok r st1) : ∃ rs, lcM it t yesM el vs l st = .ok rs st1 := by
  obtain ⟨rs, e⟩ := lcGo_ex (el := el) hc s.items h
  refine ⟨rs, ?_⟩
  unfold lcM
  rw [hi]
  simp only [bind_ok]
  rw [if_pos (show small s.items.length = true from Nat.ble_eq_true_of_le hs), e]
section
variable {x0 x1 : O} {F : List Nat} {n : Nat}
theorem part_ok (hF : F.length ≤ 90000) : m_Reader_part [.ref 2] (RS x0 x1 (fs0 F n) [] []) = .ok .non (RS x0 x1 (fs0 F n) ((tok F 0).map fun q => mk q.1) ((tok F 0).map fun q => (q.2 : Int))) := by
  obtain ⟨z2, z3, e⟩ := outer (x0 := x0) (x1 := x1) (n := n) hF 99999 F 0 [] [] none none rfl (Nat.zero_le _) (by omega) (by simp; omega) (by simp; omega)
  rw [tk_tok 0 (by omega)] at e
  unfold m_Reader_part
  rw [part_eq]
  simp at e
  simp [e]
theorem init_ok (hF : F.length ≤ 90000) : m_Reader_init [.ref 2, .str (mk F), .int n] [x0, x1, .ins "Reader" []] = .ok .non (RS x0 x1 (fs1 F n 0) ((tok F 0).map fun q => mk q.1) ((tok F 0).map fun q => (q.2 : Int))) := by
  have s1 : ∀ l, fldSJ "Reader" "signs" l (.str (mk F)) (.ref 2) [x0, x1, .ins "Reader" []] = .nx l [x0, x1, .ins "Reader" [("signs", .str (mk F))]] := fun l => rfl
  have s2 : ∀ l, fldSJ "Reader" "inputs" l (.int n) (.ref 2) [x0, x1, .ins "Reader" [("signs", .str (mk F))]] = .nx l [x0, x1, .ins "Reader" [("signs", .str (mk F)), ("inputs", .int n)]] := fun l => rfl
  have s3 : ∀ l, fldSJ "Reader" "words" l (.ref 3) (.ref 2) [x0, x1, .ins "Reader" [("signs", .str (mk F)), ("inputs", .int n)], .lst []] = .nx l [x0, x1, .ins "Reader" [("signs", .str (mk F)), ("inputs", .int n), ("words", .ref 3)], .lst []] := fun l => rfl
  have s4 : ∀ l, fldSJ "Reader" "places" l (.ref 4) (.ref 2) [x0, x1, .ins "Reader" [("signs", .str (mk F)), ("inputs", .int n), ("words", .ref 3)], .lst [], .lst []] = .nx l (RS x0 x1 (fs0 F n) [] []) := fun l => rfl
  have r5 : recvK "Reader" "part" (.ref 2) (RS x0 x1 (fs0 F n) [] []) = .ok (.ref 2) (RS x0 x1 (fs0 F n) [] []) := recvK_ok rfl (by rfl)
  have s6 : ∀ l T P, fldSJ "Reader" "at" l (.int 0) (.ref 2) (RS x0 x1 (fs0 F n) T P) = .nx l (RS x0 x1 (fs1 F n 0) T P) := fun l T P => rfl
  unfold m_Reader_init
  simp [b_Reader_init, s1, s2, s3, s4, r5, s6, part_ok hF]
theorem number_ok (st : Store) (h0 : 1 ≤ n) (h1 : n ≤ 6) : m_need_number [.int n, .int 1, .int 6] st = .ok .non st := by
  have a1 : (1 : Int) ≤ (n : Int) := by omega
  have a2 : (n : Int) ≤ 6 := by omega
  have e : m_is_number [.int n, .int 1, .int 6] st = .ok (.bl true) st := by
    unfold m_is_number
    simp [b_is_number, isT, a1, a2]
  unfold m_need_number
  simp [b_need_number, e]
theorem tree_of_ok (hF : F.length ≤ 90000) (h0 : 1 ≤ n) (h1 : n ≤ 6) (T : List Str) (P : List Int) (eT : T = (tok F 0).map fun q => mk q.1) (eP : P = (tok F 0).map fun q => (q.2 : Int)) (hT : ∀ z ∈ T, z.length ≤ 1000 ∧ z ≠ "") (ho : opn T ≤ 14) :
    (mc n 0 [.E] T = none ∧ ∃ t st', m_tree_of [.int n, .str (mk F)] [x0, x1] = .ok (Tr.d t) st' ∧ t.ok n ∧ t.dep ≤ opn T) ∨
      ∃ j st', mc n 0 [.E] T = some j ∧ m_tree_of [.int n, .str (mk F)] [x0, x1] = .exc "BadSign" [("place", .int (plc T P F j))] st' := by
  have hP : P.length = T.length := by rw [eT, eP]; simp
  have ei := init_ok (x0 := x0) (x1 := x1) (n := n) hF
  rw [← eT, ← eP] at ei
  have en := number_ok (n := n) [x0, x1] h0 h1
  rcases (parse (x0 := x0) (x1 := x1) (n := n) hF hP (fun z hz => (hT z hz).1) (by omega) 30).1 0 0 (by rw [List.drop_zero]; omega) (by rw [List.drop_zero]; omega) with ⟨t, k, e, a1, a2, a3, a4, a5⟩ | ⟨j, e, a5⟩
  · have a6 := a5 []
    rw [List.drop_zero] at a6
    have wk := word_ok (x0 := x0) (x1 := x1) (F := F) (n := n) (T := T) (P := P) k
    have fl := fail_ok (x0 := x0) (x1 := x1) (n := n) hF hP k
    rcases at_word T k with ⟨z, h5, h6, h7, h8⟩ | ⟨h5, h6, h7⟩
    · refine .inr ⟨k, RS x0 x1 (fs1 F n k) T P, ?_, ?_⟩
      · rw [a6, h6]
        rfl
      · have hz := (hT z (List.mem_of_getElem? h5)).2
        unfold m_tree_of
        simp [b_tree_of, en, isT, ei, r1_formula, r1_word, r1_fail, e, wk, fl, h7, hz]
    · refine .inl ⟨?_, t, RS x0 x1 (fs1 F n k) T P, ?_, a3, by rw [List.drop_zero] at a4; exact a4⟩
      · rw [a6, h5]
        rfl
      · unfold m_tree_of
        simp [b_tree_of, en, isT, ei, r1_formula, r1_word, r1_fail, e, wk, h6]
  · refine .inr ⟨j, RS x0 x1 (fs1 F n j) T P, ?_, ?_⟩
    · have := a5 []
      rw [List.drop_zero] at this
      exact this
    · unfold m_tree_of
      simp [b_tree_of, en, isT, ei, r1_formula, r1_word, r1_fail, e]
end
/-! ### worths -/
theorem opS_and : ∀ o : Fin 3, (opS o = ("and" : Str)) = (o = 0) := by decide +kernel
theorem opS_or : ∀ o : Fin 3, (opS o = ("or" : Str)) = (o = 1) := by decide +kernel
def Bit (d : D) : Prop := d = .int 0 ∨ d = .int 1
theorem worth (st : Store) {n : Nat} {bits : List D} (hb : ∀ i, i < n → ∃ b, bits[i]? = some b ∧ Bit b) : ∀ (m : Nat) (t : Tr), t.dep < m → t.ok n → ∃ b, F_worth_of m [t.d, .tup bits] st = .ok b st ∧ Bit b := by
  intro m
  induction m with
  | zero => intro t h; omega
  | succ m ih =>
    intro t h ok
    rw [F_worth_of_succ]
    cases t with
    | x i =>
      obtain ⟨b, h1, h2⟩ := hb i ok
      refine ⟨b, ?_, h2⟩
      simp [b_worth_of, Tr.d, Rf.atI_nat h1]
    | nt t =>
      obtain ⟨b, h1, h2⟩ := ih t (by simp [Tr.dep] at h; omega) ok
      rcases h2 with rfl | rfl
      · exact ⟨.int 1, by simp [b_worth_of, Tr.d, h1], .inr rfl⟩
      · exact ⟨.int 0, by simp [b_worth_of, Tr.d, h1], .inl rfl⟩
    | op o a b =>
      obtain ⟨u, h1, h2⟩ := ih a (by simp [Tr.dep] at h; omega) ok.1
      obtain ⟨v, h3, h4⟩ := ih b (by simp [Tr.dep] at h; omega) ok.2
      have c1 := opS_x o
      have c2 := opS_not o
      have hm : ∀ z, modM (.int z) (.int 2) st = .ok (.int (z % 2)) st := fun z => modM_i st z 2 (by decide)
      have ht : ∀ z, timesM (.int z) (.int 0) st = .ok (.int (z * 0)) st := fun z => timesM_i st z 0 (.inr (by decide))
      have ht1 : ∀ z, timesM (.int z) (.int 1) st = .ok (.int (z * 1)) st := fun z => timesM_i st z 1 (.inr (by decide))
      by_cases o1 : o = 0
      · have c3 : (opS o = ("and" : Str)) = True := by rw [opS_and, o1]; simp
        rcases h2 with rfl | rfl <;> rcases h4 with rfl | rfl
        · exact ⟨.int 0, by simp [b_worth_of, Tr.d, h1, h3, c1, c2, c3, ht, ht1], .inl rfl⟩
        · exact ⟨.int 0, by simp [b_worth_of, Tr.d, h1, h3, c1, c2, c3, ht, ht1], .inl rfl⟩
        · exact ⟨.int 0, by simp [b_worth_of, Tr.d, h1, h3, c1, c2, c3, ht, ht1], .inl rfl⟩
        · exact ⟨.int 1, by simp [b_worth_of, Tr.d, h1, h3, c1, c2, c3, ht, ht1], .inr rfl⟩
      · have c3 : (opS o = ("and" : Str)) = False := by rw [opS_and]; simp [o1]
        by_cases o2 : o = 1
        · have c4 : (opS o = ("or" : Str)) = True := by rw [opS_or, o2]; simp
          rcases h2 with rfl | rfl <;> rcases h4 with rfl | rfl
          · exact ⟨.int 0, by simp [b_worth_of, Tr.d, h1, h3, c1, c2, c3, c4], .inl rfl⟩
          · exact ⟨.int 1, by simp [b_worth_of, Tr.d, h1, h3, c1, c2, c3, c4], .inr rfl⟩
          · exact ⟨.int 1, by simp [b_worth_of, Tr.d, h1, h3, c1, c2, c3, c4], .inr rfl⟩
          · exact ⟨.int 1, by simp [b_worth_of, Tr.d, h1, h3, c1, c2, c3, c4], .inr rfl⟩
        · have c4 : (opS o = ("or" : Str)) = False := by rw [opS_or]; simp [o2]
          rcases h2 with rfl | rfl <;> rcases h4 with rfl | rfl
          · exact ⟨.int 0, by simp [b_worth_of, Tr.d, h1, h3, c1, c2, c3, c4, hm], .inl rfl⟩
          · exact ⟨.int 1, by simp [b_worth_of, Tr.d, h1, h3, c1, c2, c3, c4, hm], .inr rfl⟩
          · exact ⟨.int 1, by simp [b_worth_of, Tr.d, h1, h3, c1, c2, c3, c4, hm], .inr rfl⟩
          · exact ⟨.int 0, by simp [b_worth_of, Tr.d, h1, h3, c1, c2, c3, c4, hm], .inl rfl⟩
/-! ### all bits -/
def bl : Nat → List (List D)
  | 0 => [[]]
  | k + 1 => (bl k).map (· ++ [.int 0]) ++ (bl k).map (· ++ [.int 1])
theorem bl_len : ∀ k, (bl k).length = 2 ^ k
  | 0 => rfl
  | k + 1 => by simp [bl, bl_len k, Nat.pow_succ]; omega
theorem bl_bits : ∀ (k : Nat) (b : List D), b ∈ bl k → b.length = k ∧ ∀ d ∈ b, Bit d
  | 0, b, h => by simp [bl] at h; subst h; simp
  | k + 1, b, h => by
    simp only [bl, List.mem_append, List.mem_map] at h
    rcases h with ⟨c, hc, rfl⟩ | ⟨c, hc, rfl⟩
    · obtain ⟨h1, h2⟩ := bl_bits k c hc
      refine ⟨by simp [h1], fun d hd => ?_⟩
      rcases List.mem_append.mp hd with h | h
      · exact h2 d h
      · simp at h; exact .inl h
    · obtain ⟨h1, h2⟩ := bl_bits k c hc
      refine ⟨by simp [h1], fun d hd => ?_⟩
      rcases List.mem_append.mp hd with h | h
      · exact h2 d h
      · simp at h; exact .inr h
def tD (l : List (List D)) : List D := l.map .tup
theorem half (st : Store) (l : Sl) (k : Nat) (hk : k < 7) (z : D) (hl : l[1]? = some (some (.fl (tD (bl k))))) (h3 : l.length = 4) :
    lcM (itA (vr 1)) (.nm 3) yesM (b2 plusM (vr 3) (tupM (consA (cst z) nilA))) [3] l st = .ok (tD ((bl k).map (· ++ [z]))) st := by
  have hp : 2 ^ k ≤ 64 := Nat.pow_le_pow_right (n := 2) (by decide) (show k ≤ 6 by omega)
  have e := lcM_map (it := itA (vr 1)) (t := .nm 3) (el := b2 plusM (vr 3) (tupM (consA (cst z) nilA))) (vs := [3]) (l := l) (st := st) (st1 := st) (s := ⟨tD (bl k), none⟩) (f := fun d => match d with
    | .tup b => .tup (b ++ [z])
    | d => d) (by simp [hl]) (by simp [tD, bl_len]; omega) rfl (fun d hd => ?_)
  · rw [e]
    simp [tD]
  · obtain ⟨b, hb, rfl⟩ := List.mem_map.mp hd
    obtain ⟨h1, h2⟩ := bl_bits k b hb
    refine ⟨_, rfl, ?_⟩
    have e3 : ((wipeD l [3]).set 3 (some (D.tup b)))[3]? = some (some (.tup b)) := by
      rw [List.getElem?_set_self]
      simp [wipeD, h3]
    have e4 := plusM_tup st b [z] (by simp; omega)
    simp [e3, e4]
theorem bits_go (st : Store) (n : Nat) (s : Src) (hs : s.own = none) : ∀ (ds : List D) (k : Nat) (x2 x3 : Option D), k + ds.length ≤ 6 →
    ∃ y2 y3, forGo s (.nm 2) (setM 1 (b2 plusM (fz (lcM (itA (vr 1)) (.nm 3) yesM (b2 plusM (vr 3) (tupM (consA (cst (.int 0)) nilA))) [3])) (fz (lcM (itA (vr 1)) (.nm 3) yesM (b2 plusM (vr 3) (tupM (consA (cst (.int 1)) nilA))) [3]))))
      ds [some (.int n), some (.fl (tD (bl k))), x2, x3] st = .nx [some (.int n), some (.fl (tD (bl (k + ds.length)))), y2, y3] st := by
  have hc : s.chk st = true := by unfold Src.chk; rw [hs]
  intro ds
  induction ds with
  | nil => intro k x2 x3 h; exact ⟨x2, x3, forGo_nil hc⟩
  | cons d ds ih =>
    intro k x2 x3 h
    simp only [List.length_cons] at h
    have hp : 2 ^ k ≤ 64 := Nat.pow_le_pow_right (n := 2) (by decide) (show k ≤ 6 by omega)
    have h0 := half st [some (.int n), some (.fl (tD (bl k))), some d, x3] k (by omega) (.int 0) rfl rfl
    have h1 := half st [some (.int n), some (.fl (tD (bl k))), some d, x3] k (by omega) (.int 1) rfl rfl
    have e2 := plusM_fl st (tD ((bl k).map (· ++ [.int 0]))) (tD ((bl k).map (· ++ [.int 1]))) (by simp [tD, bl_len]; omega)
    have e3 : tD ((bl k).map (· ++ [.int 0])) ++ tD ((bl k).map (· ++ [.int 1])) = tD (bl (k + 1)) := by simp [tD, bl]
    obtain ⟨y2, y3, e⟩ := ih (k + 1) (some d) x3 (by omega)
    refine ⟨y2, y3, ?_⟩
    rw [forGo_cons hc (show T.put (.nm 2) d [some (.int n), some (.fl (tD (bl k))), x2, x3] = some [some (.int n), some (.fl (tD (bl k))), some d, x3] from rfl)]
    rw [e3] at e2
    simp only [setM_s, b2_s, fz_s, h0, bind_ok, flK_s, b2K_s, h1, e2, toS_ok, setK_s, List.set_cons_succ, List.set_cons_zero, forK2_nx, e, List.length_cons]
    rw [show k + 1 + ds.length = k + (ds.length + 1) by omega]
theorem all_bits_ok (st : Store) (n : Nat) (h : n ≤ 6) : m_all_bits [.int n] st = .ok (.fl (tD (bl n))) st := by
  obtain ⟨y2, y3, e⟩ := bits_go st n ⟨rngD 0 n, none⟩ rfl (rngD 0 n) 0 none none (by simp [rngD]; omega)
  have hl : (rngD 0 n).length = n := by simp [rngD]
  rw [hl, Nat.zero_add] at e
  have e0 : tD (bl 0) = [.tup []] := rfl
  rw [e0] at e
  unfold m_all_bits
  simp [b_all_bits, rngK_nat (show n ≤ 1000000 by omega), e]
theorem table_ok (st st' : Store) {n : Nat} (h1 : n ≤ 6) (x : D) (t : Tr) (ht : t.dep < 20) (ok : t.ok n) (e : m_tree_of [.int n, x] st = .ok t.d st') : ∃ r, m_table_of [.int n, x] st = .ok r st' := by
  have eb := all_bits_ok st' n h1
  have hp : 2 ^ n ≤ 64 := Nat.pow_le_pow_right (n := 2) (by decide) (show n ≤ 6 by omega)
  obtain ⟨rs, er⟩ := lcM_ex (it := itA (callM m_all_bits (consA (vr 0) nilA))) (t := .nm 3) (el := callM (F_worth_of 20) (consA (vr 2) (consA (vr 3) nilA))) (vs := [3]) (l := [some (.int n), some x, some t.d, none]) (st := st') (st1 := st') (s := ⟨tD (bl n), none⟩) (by simp [eb]) (by simp [tD, bl_len]; omega) rfl (fun d hd => by
    obtain ⟨b, hb, rfl⟩ := List.mem_map.mp hd
    obtain ⟨h2, h3⟩ := bl_bits n b hb
    obtain ⟨v, e1, e2⟩ := worth st' (n := n) (bits := b) (fun i hi => ⟨b[i]'(by omega), List.getElem?_eq_getElem _, h3 _ (List.getElem_mem _)⟩) 20 t ht ok
    exact ⟨_, v, rfl, by simp [wipeD, e1]⟩)
  refine ⟨.tup rs, ?_⟩
  unfold m_table_of
  simp [b_table_of, e, er]
theorem table_exc (st st' : Store) {n : Nat} (x : D) (c : Str) (fs : List (Str × D)) (e : m_tree_of [.int n, x] st = .exc c fs st') : m_table_of [.int n, x] st = .exc c fs st' := by
  unfold m_table_of
  simp [b_table_of, e]
end K05
namespace K05
set_option autoImplicit false
open PySem L2 Rf

/-! ### words that part well -/
def goodB (w : List Nat) : Bool := decide (w = X0) || (match w with
  | [] => false
  | [c] => plain c || decide (c ≠ 32)
  | c :: cs => plain c && cs.all plain)
theorem good_of {w : List Nat} (h : goodB w = true) : Good w := by
  unfold goodB at h
  rw [Bool.or_eq_true] at h
  rcases h with h | h
  · have := of_decide_eq_true h
    subst this
    exact .odd
  · split at h
    · cases h
    · rename_i c
      by_cases hp : plain c = true
      · exact .word c [] hp rfl
      · have hp' : plain c = false := by simpa using hp
        rw [hp'] at h
        exact .sign c hp' (by simpa using h)
    · rename_i c cs _
      rw [Bool.and_eq_true] at h
      exact .word c cs h.1 h.2
def gw (z : Str) : Bool := goodB z.cps.toList && decide (z.cps.toList.length ≤ 5)
theorem gw_x (i : Nat) (h : i < 10) : gw (xS i) = true := (by decide +kernel : ∀ j : Fin 10, gw (xS j.val) = true) ⟨i, h⟩
theorem gw_op : ∀ o : Fin 3, gw (opS o) = true := by decide +kernel
theorem gw_sp {n : Nat} (hn : n < 10) : ∀ (t : Tr), t.ok n → ∀ z ∈ t.sp, gw z = true
  | .x i, h, z, hz => by
    simp [Tr.sp] at hz
    subst hz
    have : i < n := h
    exact gw_x i (by omega)
  | .nt t, h, z, hz => by
    simp only [Tr.sp, List.mem_cons] at hz
    rcases hz with rfl | hz
    · decide +kernel
    · exact gw_sp hn t h z hz
  | .op o a b, h, z, hz => by
    simp only [Tr.sp, List.mem_cons, List.mem_append, List.not_mem_nil, or_false] at hz
    rcases hz with rfl | hz | rfl | hz | rfl
    · decide +kernel
    · exact gw_sp hn a h.1 z hz
    · exact gw_op o
    · exact gw_sp hn b h.2 z hz
    · decide +kernel
theorem opn_app (a b : List Str) : opn (a ++ b) = opn a + opn b := by simp [opn]
theorem opn_one (z : Str) : opn [z] ≤ 1 := by rw [opn_cons]; split <;> simp [opn]
theorem opn_xS (i : Nat) : opn [xS i] = 0 := by
  have h1 : xS i ≠ "not" := fun h => by
    have : mk [120, 48 + i] = mk [110, 111, 116] := h.trans (by decide +kernel)
    have := mk_inj.mp this
    simp at this
  have h2 : xS i ≠ "(" := fun h => by
    have : mk [120, 48 + i] = mk [40] := h.trans (by decide +kernel)
    have := mk_inj.mp this
    simp at this
  rw [opn_cons]
  simp [h1, h2, opn]
theorem opn_op : ∀ o : Fin 3, opn [opS o] = 0 := by decide +kernel
theorem opn_sp : ∀ t : Tr, opn t.sp + 1 ≤ 2 ^ t.dep
  | .x i => by
    simp only [Tr.sp, Tr.dep, opn_xS]
    decide
  | .nt t => by
    have := opn_sp t
    simp only [Tr.sp, Tr.dep, opn_cons, Nat.pow_succ]
    simp
    have h := Nat.one_le_two_pow (n := t.dep)
    omega
  | .op o a b => by
    have h1 := opn_sp a
    have h2 := opn_sp b
    have h3 : 2 ^ a.dep ≤ 2 ^ (max a.dep b.dep) := Nat.pow_le_pow_right (by decide) (Nat.le_max_left _ _)
    have h4 : 2 ^ b.dep ≤ 2 ^ (max a.dep b.dep) := Nat.pow_le_pow_right (by decide) (Nat.le_max_right _ _)
    have h5 : opn ((opS o) :: (b.sp ++ [(")" : Str)])) = opn b.sp := by
      rw [show (opS o) :: (b.sp ++ [(")" : Str)]) = [opS o] ++ b.sp ++ [(")" : Str)] by simp, opn_app, opn_app, opn_op, show opn [(")" : Str)] = 0 by decide +kernel]
      omega
    have h6 : opn (("(" : Str) :: (a.sp ++ (opS o) :: (b.sp ++ [(")" : Str)]))) = opn a.sp + opn b.sp + 1 := by
      rw [opn_cons, opn_app, h5]
      simp
    simp only [Tr.sp, Tr.dep, Nat.pow_succ]
    rw [h6]
    omega
/-! ### the words, bent -/
def odds (n : Nat) : List Str := ["x9", "x", "not", "and", "(", ")", "xor", "nor", "x00", "0", "+", xS n, "X0"]
theorem gw_odds (n : Nat) (h : n < 10) : ∀ z ∈ odds n, gw z = true := (by decide +kernel : ∀ j : Fin 10, ∀ z ∈ odds j.val, gw z = true) ⟨n, h⟩
def bend (ws : List Str) (at_ way : Nat) (odd : Str) : List Str :=
  if way = 0 then ws.take at_ ++ [odd] ++ ws.drop (at_ + 1) else if way = 1 then ws.take at_ ++ ws.drop (at_ + 1) else if way = 2 then ws.take at_ ++ [odd] ++ ws.drop at_ else ws
theorem bend_ok {ws : List Str} {at_ way : Nat} {odd : Str} (h : ∀ z ∈ ws, gw z = true) (ho : gw odd = true) : (∀ z ∈ bend ws at_ way odd, gw z = true) ∧ (bend ws at_ way odd).length ≤ ws.length + 1 ∧ opn (bend ws at_ way odd) ≤ opn ws + 1 := by
  have t1 : ∀ k, ∀ z ∈ ws.take k, gw z = true := fun k z hz => h z (List.mem_of_mem_take hz)
  have d1 : ∀ k, ∀ z ∈ ws.drop k, gw z = true := fun k z hz => h z (List.mem_of_mem_drop hz)
  have e0 : opn (ws.take at_) + opn (ws.drop at_) = opn ws := by rw [← opn_app, List.take_append_drop]
  have e1 : opn (ws.drop (at_ + 1)) ≤ opn (ws.drop at_) := drop_le ws (by omega)
  have e2 := opn_one odd
  unfold bend
  split
  · refine ⟨fun z hz => ?_, by simp; omega, by rw [opn_app, opn_app]; omega⟩
    simp only [List.mem_append, List.mem_singleton] at hz
    rcases hz with (hz | rfl) | hz
    · exact t1 _ z hz
    · exact ho
    · exact d1 _ z hz
  · split
    · refine ⟨fun z hz => ?_, by simp; omega, by rw [opn_app]; omega⟩
      simp only [List.mem_append] at hz
      rcases hz with hz | hz
      · exact t1 _ z hz
      · exact d1 _ z hz
    · split
      · refine ⟨fun z hz => ?_, by simp; omega, by rw [opn_app, opn_app]; omega⟩
        simp only [List.mem_append, List.mem_singleton] at hz
        rcases hz with (hz | rfl) | hz
        · exact t1 _ z hz
        · exact ho
        · exact d1 _ z hz
      · exact ⟨h, by omega, by omega⟩
/-! ### the text -/
def tB : SM := (sq (setM 7 (b2 plusM (vr 7) (b2 timesM (cst (.str " ")) (b2 plusM (cst (.int 1)) (callM m__law_taken (consA (vr 1) (consA (cst (.int 2)) nilA)))))))
    (sq (exprM (appM (vr 8) (callM lenM (consA (vr 7) nilA))))
    (setM 7 (b2 plusM (vr 7) (vr 9)))))
def nI (l : List Nat) : List Int := l.map fun (i : Nat) => (i : Int)
theorem blanks (v : Nat) (h : v < 3) : Txt.mul (" " : Str) (v : Int) = mk (List.replicate v 32) := (by decide +kernel : ∀ j : Fin 3, Txt.mul (" " : Str) ((j.val : Nat) : Int) = mk (List.replicate j.val 32)) ⟨v, h⟩
theorem text_go {s : List Int} (src : Src) (hs : src.own = none) (a0 a2 a3 a4 a5 a6 a10 a11 : Option D) : ∀ (ts : List Str) (x : O) (Tx : List Nat) (P : List Int) (y : Option D), (∀ z ∈ ts, gw z = true) → Row s x → Tx.length + 7 * ts.length ≤ 80000 → P.length + ts.length ≤ 1000 →
    ∃ g x' y9, g.map (·.2) = ts.map (·.cps.toList) ∧ (∀ q ∈ g, 1 ≤ q.1 ∧ q.1 ≤ 2) ∧ Row s x' ∧ forGo src (.nm 9) tB (sD ts) [a0, some (.ref 0), a2, a3, a4, a5, a6, some (.str (mk Tx)), some (.ref 1), y, a10, a11] [x, .lst (iD P)] =
      .nx [a0, some (.ref 0), a2, a3, a4, a5, a6, some (.str (mk (Tx ++ txt g))), some (.ref 1), y9, a10, a11] [x', .lst (iD (P ++ nI (pls g Tx.length)))] := by
  have hc : ∀ st, src.chk st = true := fun st => by unfold Src.chk; rw [hs]
  intro ts
  induction ts with
  | nil =>
    intro x Tx P y h hx _ _
    refine ⟨[], x, y, rfl, by simp, hx, ?_⟩
    have : forGo src (.nm 9) tB (sD []) [a0, some (.ref 0), a2, a3, a4, a5, a6, some (.str (mk Tx)), some (.ref 1), y, a10, a11] [x, .lst (iD P)] = _ := forGo_nil (hc _)
    rw [this]
    simp [txt, pls, nI]
  | cons z ts ih =>
    intro x Tx P y h hx h1 h2
    simp only [List.length_cons] at h1 h2
    have hz : gw z = true := h z List.mem_cons_self
    unfold gw at hz
    rw [Bool.and_eq_true, decide_eq_true_eq] at hz
    have hzs : z.cps.size ≤ 5 := by simpa using hz.2
    obtain ⟨v, x1, e1, hx1, hv⟩ := taken [.lst (iD P)] (many := 2) hx (by decide) (by decide)
    have hv2 : v < 2 := by omega
    have eb := blanks (v + 1) (by omega)
    have ec : ((v + 1 : Nat) : Int) = 1 + (v : Int) := by omega
    rw [ec] at eb
    obtain ⟨g, x', y9, g1, g2, g3, g4⟩ := ih x1 (Tx ++ List.replicate (v + 1) 32 ++ z.cps.toList) (P ++ [((Tx.length + (v + 1) : Nat) : Int)]) (some (.str z)) (fun w hw => h w (List.mem_cons_of_mem _ hw)) hx1 (by simp; omega) (by simp; omega)
    refine ⟨(v + 1, z.cps.toList) :: g, x', y9, by simp [g1], fun q hq => ?_, g3, ?_⟩
    · rcases List.mem_cons.mp hq with rfl | hq
      · exact ⟨by simp, by simp; omega⟩
      · exact g2 q hq
    have et : timesM (.str " ") (.int (1 + (v : Int))) [x1, .lst (iD P)] = .ok (.str (mk (List.replicate (v + 1) 32))) [x1, .lst (iD P)] := by
      rw [timesM_str _ _ _ ⟨by omega, by omega, by decide +kernel⟩, eb]
    have ep : plusM (.str (mk Tx)) (.str (mk (List.replicate (v + 1) 32))) [x1, .lst (iD P)] = .ok (.str (mk (Tx ++ List.replicate (v + 1) 32))) [x1, .lst (iD P)] := by
      rw [plusM_str _ _ _ (by simp; omega), mk_app]
    have el : lenM [.str (mk (Tx ++ List.replicate (v + 1) 32))] [x1, .lst (iD P)] = .ok (.int ((Tx.length + (v + 1) : Nat) : Int)) [x1, .lst (iD P)] := by
      rw [lenM_str _ _ (by simp; omega)]
      simp
    have ea : appK (callM lenM (consA (vr 7) nilA)) [a0, some (.ref 0), a2, a3, a4, a5, a6, some (.str (mk (Tx ++ List.replicate (v + 1) 32))), some (.ref 1), some (.str z), a10, a11] (.ref 1) [x1, .lst (iD P)] = .ok .non [x1, .lst (iD (P ++ [((Tx.length + (v + 1) : Nat) : Int)]))] := by
      rw [appK_ok (ds := iD P) _ _ rfl]
      simp only [callM_s, consA_s, vr_s, List.getElem?_cons_succ, List.getElem?_cons_zero, vrK_s, bind_ok, consK_s, nilA_s, consJ_s, el]
      rw [appJ_ok (ds := iD P) rfl (by simp; omega)]
      simp [iD]
    have eq : plusM (.str (mk (Tx ++ List.replicate (v + 1) 32))) (.str z) [x1, .lst (iD (P ++ [((Tx.length + (v + 1) : Nat) : Int)]))] = .ok (.str (mk (Tx ++ List.replicate (v + 1) 32 ++ z.cps.toList))) [x1, .lst (iD (P ++ [((Tx.length + (v + 1) : Nat) : Int)]))] := by
      conv => lhs; rw [mk_of z]
      rw [plusM_str _ _ _ (by simp only [mk_len, List.length_append, List.length_replicate]; omega), mk_app]
    have hb : tB [a0, some (.ref 0), a2, a3, a4, a5, a6, some (.str (mk Tx)), some (.ref 1), some (.str z), a10, a11] [x, .lst (iD P)] = .nx [a0, some (.ref 0), a2, a3, a4, a5, a6, some (.str (mk (Tx ++ List.replicate (v + 1) 32 ++ z.cps.toList))), some (.ref 1), some (.str z), a10, a11] [x1, .lst (iD (P ++ [((Tx.length + (v + 1) : Nat) : Int)]))] := by
      simp only [tB, sq_s, setM_s, b2_s, vr_s, List.getElem?_cons_succ, List.getElem?_cons_zero, vrK_s, bind_ok, b2K_s, cst_s, callM_s, consA_s, consK_s, nilA_s, consJ_s, e1, plusM_i, et, ep, toS_ok, setK_s, List.set_cons_succ, List.set_cons_zero, sqK_nx, exprM_s, appM_s, ea, exK_s, eq]
    rw [sD_cons, forGo_cons (hc _) (show T.put (.nm 9) (.str z) [a0, some (.ref 0), a2, a3, a4, a5, a6, some (.str (mk Tx)), some (.ref 1), y, a10, a11] = some [a0, some (.ref 0), a2, a3, a4, a5, a6, some (.str (mk Tx)), some (.ref 1), some (.str z), a10, a11] from rfl), hb, forK2_nx, g4]
    simp [txt, pls, nI, Nat.add_assoc]
end K05
namespace K05
set_option autoImplicit false
open PySem L2 Rf

theorem toks_ok : ∀ (g : List (Nat × List Nat)) (p : Nat), (∀ q ∈ g, Good q.2 ∧ q.2.length ≤ 5) → (∀ q ∈ toks g p, q.1.length ≤ 5 ∧ q.1 ≠ []) ∧ opn ((toks g p).map fun q => mk q.1) ≤ opn (g.map fun q => mk q.2)
  | [], p, _ => ⟨by simp [toks], by simp [toks, opn]⟩
  | (k, w) :: g, p, h => by
    obtain ⟨h1, h2⟩ := toks_ok g (p + k + w.length) fun q hq => h q (List.mem_cons_of_mem _ hq)
    obtain ⟨hg, hl⟩ := h _ List.mem_cons_self
    simp only [toks, List.map_append, List.map_cons, opn_app]
    have e : opn (mk w :: g.map fun q => mk q.2) = opn [mk w] + opn (g.map fun q => mk q.2) := by rw [show mk w :: (g.map fun q => mk q.2) = [mk w] ++ g.map fun q => mk q.2 from rfl, opn_app]
    rw [e]
    unfold tks
    by_cases hx : w = X0
    · subst hx
      rw [if_pos rfl]
      have e0 : opn (([([88], p + k), ([48], p + k + 1)] : List (List Nat × Nat)).map fun q => mk q.1) = 0 := by
        simp only [List.map_cons, List.map_nil]
        decide +kernel
      rw [e0]
      refine ⟨fun q hq => ?_, by omega⟩
      rcases List.mem_append.mp hq with hq | hq
      · simp at hq
        rcases hq with rfl | rfl <;> simp
      · exact h1 q hq
    · rw [if_neg hx]
      refine ⟨fun q hq => ?_, by simp only [List.map_cons, List.map_nil]; omega⟩
      rcases List.mem_append.mp hq with hq | hq
      · simp at hq
        subst hq
        exact ⟨hl, fun z => by simp only at z; subst z; cases hg⟩
      · exact h1 q hq
theorem txt_len : ∀ (g : List (Nat × List Nat)), (∀ q ∈ g, q.1 ≤ 2 ∧ q.2.length ≤ 5) → (txt g).length ≤ 7 * g.length
  | [], _ => by simp [txt]
  | (k, w) :: g, h => by
    have h1 := txt_len g fun q hq => h q (List.mem_cons_of_mem _ hq)
    obtain ⟨h2, h3⟩ := h _ List.mem_cons_self
    simp only [txt, List.length_append, List.length_replicate, List.length_cons] at h2 h3 ⊢
    omega
theorem pls_len : ∀ (g : List (Nat × List Nat)) (p : Nat), (pls g p).length = g.length
  | [], _ => rfl
  | (k, w) :: g, p => by simp [pls, pls_len g]
theorem picked {s : List Int} {x : O} (h : Row s x) (n : Nat) : ∃ (o : Str) (x' : O), m__law_pick [.ref 0, .fl (sD (odds n))] [x] = .ok (.str o) [x'] ∧ Row s x' ∧ o ∈ odds n := by
  obtain ⟨v, x1, e1, hx1, hv⟩ := taken [] (many := 13) h (by decide) (by decide)
  have hlen : (odds n).length = 13 := rfl
  have hlt : v < (odds n).length := by rw [hlen]; omega
  refine ⟨(odds n)[v], x1, ?_, hx1, List.getElem_mem _⟩
  have ha : atI (sD (odds n)) (v : Int) = some (.str (odds n)[v]) := Rf.atI_nat (sD_get (List.getElem?_eq_getElem hlt))
  unfold m__law_pick
  simp only [b__law_pick, dfM_2, retM_s, b2_s, vr_s, List.getElem?_cons_succ, List.getElem?_cons_zero, vrK_s, bind_ok, b2K_s, callM_s, consA_s, consK_s, nilA_s, consJ_s, lenM_fl, sD_len, hlen]
  rw [show ((13 : Nat) : Int) = 13 from rfl, e1]
  simp only [bind_ok, ixM_fl, ha, atK_s, toS_ok, rtK_s, endD_rt]
section
variable {s : List Int} (a6 a7 a8 a9 a10 a11 : Option D)
/-- the words are bent -/
theorem bent (st : Store) (n : D) (ws : List Str) (hw : ws.length ≤ 1000) (at_ way : Nat) (odd : Str) :
    ∃ W1 W2, q_law_5 [some (.rd (s.map .int)), some (.ref 0), some n, some (.fl (sD ws)), some (.int at_), some (.int way), some (.str odd), a7, a8, a9, a10, a11] st = .nx [some (.rd (s.map .int)), some (.ref 0), some n, some (.fl (sD W1)), some (.int at_), some (.int way), some (.str odd), a7, a8, a9, a10, a11] st ∧
      q_law_6 [some (.rd (s.map .int)), some (.ref 0), some n, some (.fl (sD W1)), some (.int at_), some (.int way), some (.str odd), a7, a8, a9, a10, a11] st = .nx [some (.rd (s.map .int)), some (.ref 0), some n, some (.fl (sD W2)), some (.int at_), some (.int way), some (.str odd), a7, a8, a9, a10, a11] st ∧
      q_law_7 [some (.rd (s.map .int)), some (.ref 0), some n, some (.fl (sD W2)), some (.int at_), some (.int way), some (.str odd), a7, a8, a9, a10, a11] st = .nx [some (.rd (s.map .int)), some (.ref 0), some n, some (.fl (sD (bend ws at_ way odd))), some (.int at_), some (.int way), some (.str odd), a7, a8, a9, a10, a11] st := by
  have c1 : sliceM (.fl (sD ws)) none (some (at_ : Int)) st = .ok (.fl (sD (ws.take at_))) st := by rw [sliceM_fl, cut_to]; simp [sD, List.map_take]
  have c2 : sliceM (.fl (sD ws)) (some ((at_ : Int) + 1)) none st = .ok (.fl (sD (ws.drop (at_ + 1)))) st := by
    rw [sliceM_fl, show (at_ : Int) + 1 = ((at_ + 1 : Nat) : Int) by omega, cut_from]
    simp [sD, List.map_drop]
  have c3 : sliceM (.fl (sD ws)) (some (at_ : Int)) none st = .ok (.fl (sD (ws.drop at_))) st := by
    rw [sliceM_fl, cut_from]
    simp [sD, List.map_drop]
  have lt : (ws.take at_).length ≤ 1000 := by simp; omega
  have ld : ∀ k, (ws.drop k).length ≤ 1000 := fun k => by simp; omega
  have p1 : plusM (.fl (sD (ws.take at_))) (.fl [.str odd]) st = .ok (.fl (sD (ws.take at_ ++ [odd]))) st := plus_fl st (ws.take at_) [odd] (by simp only [List.length_cons, List.length_nil]; omega)
  have p2 : ∀ k, plusM (.fl (sD (ws.take at_ ++ [odd]))) (.fl (sD (ws.drop k))) st = .ok (.fl (sD (ws.take at_ ++ [odd] ++ ws.drop k))) st := fun k => plus_fl st _ _ (by have := ld k; simp only [List.length_append, List.length_cons, List.length_nil]; omega)
  have p3 : ∀ k, plusM (.fl (sD (ws.take at_))) (.fl (sD (ws.drop k))) st = .ok (.fl (sD (ws.take at_ ++ ws.drop k))) st := fun k => plus_fl st _ _ (by have := ld k; omega)
  by_cases w0 : way = 0
  · subst w0
    refine ⟨ws.take at_ ++ [odd] ++ ws.drop (at_ + 1), ws.take at_ ++ [odd] ++ ws.drop (at_ + 1), ?_, ?_, ?_⟩
    · simp only [q_law_5, ifS_s, tst_s, b2_s, vr_s, List.getElem?_cons_succ, List.getElem?_cons_zero, vrK_s, bind_ok, b2K_s, cst_s, eqM_int, Int.ofNat_eq_natCast, Int.natCast_zero, decide_true, tstK_s, toS_ok, ifK_t, setM_s, s3_s, s3K_s, noO_s, s3J_s, onO_s, onK_s, c1, c2, fz_s, disp_s, consA_s, consK_s, nilA_s, consJ_s, dispK_1, flK_s, p1, p2, plusM_i, setK_s, List.set_cons_succ, List.set_cons_zero]
    · simp [q_law_6]
    · simp [q_law_7, bend]
  · have w0' : ¬ (way : Int) = 0 := by omega
    by_cases w1 : way = 1
    · subst w1
      refine ⟨ws, ws.take at_ ++ ws.drop (at_ + 1), ?_, ?_, ?_⟩
      · simp [q_law_5]
      · simp only [q_law_6, ifS_s, tst_s, b2_s, vr_s, List.getElem?_cons_succ, List.getElem?_cons_zero, vrK_s, bind_ok, b2K_s, cst_s, eqM_int, show ((1 : Nat) : Int) = 1 from rfl, decide_true, tstK_s, toS_ok, ifK_t, setM_s, s3_s, s3K_s, noO_s, s3J_s, onO_s, onK_s, c1, c2, p3, plusM_i, setK_s, List.set_cons_succ, List.set_cons_zero]
      · simp [q_law_7, bend]
    · have w1' : ¬ (way : Int) = 1 := by omega
      by_cases w2 : way = 2
      · subst w2
        refine ⟨ws, ws, ?_, ?_, ?_⟩
        · simp [q_law_5]
        · simp [q_law_6]
        · simp only [q_law_7, ifS_s, tst_s, b2_s, vr_s, List.getElem?_cons_succ, List.getElem?_cons_zero, vrK_s, bind_ok, b2K_s, cst_s, eqM_int, show ((2 : Nat) : Int) = 2 from rfl, decide_true, tstK_s, toS_ok, ifK_t, setM_s, s3_s, s3K_s, noO_s, s3J_s, onO_s, onK_s, c1, c3, fz_s, disp_s, consA_s, consK_s, nilA_s, consJ_s, dispK_1, flK_s, p1, p2, setK_s, List.set_cons_succ, List.set_cons_zero]
          rfl
      · have w2' : ¬ (way : Int) = 2 := by omega
        refine ⟨ws, ws, ?_, ?_, ?_⟩
        · simp [q_law_5, w0]
        · simp [q_law_6, w1, w1']
        · simp [q_law_7, bend, w0, w1, w2, w2']
end
theorem law_true (ns : List Int) (hl : ns.length ≤ 63) : ∃ st', m_law [.rd (ns.map D.int)] [] = .ok (.bl true) st' := by
  have h0 : Row ns (rowO ns 0 7705 0) := ⟨0, 7705, 0, rfl⟩
  obtain ⟨v1, x1, e1, hx1, hv1⟩ := taken [] (many := 4) h0 (by decide) (by decide)
  have hn : v1 + 1 ≤ 4 := by omega
  have ec1 : (1 : Int) + (v1 : Int) = ((v1 + 1 : Nat) : Int) := by omega
  generalize hnn : v1 + 1 = n at hn ec1
  have hn0 : 0 < n := by omega
  obtain ⟨t, x2, e2, hx2, ok2, dp2⟩ := tree (s := ns) n [] hn0 (by omega) 6 3 (by omega) x1 hx1
  have e3 := spelled (inputs := n) (by omega) [x2] (.ref 0) 8 t (by omega) (by omega) ok2
  have hsl := sp_len t
  have hp : 4 * 2 ^ t.dep ≤ 4 * 2 ^ 3 := Nat.mul_le_mul_left 4 (Nat.pow_le_pow_right (by decide) dp2)
  have hso := opn_sp t
  have hp2 : 2 ^ t.dep ≤ 2 ^ 3 := Nat.pow_le_pow_right (by decide) dp2
  have hs0 : 0 < t.sp.length := by cases t <;> simp [Tr.sp]
  obtain ⟨at_, x3, e4, hx3, hv4⟩ := taken [] (many := (t.sp.length : Int)) hx2 (by omega) (by omega)
  obtain ⟨way, x4, e5, hx4, hv5⟩ := taken [] (many := 4) hx3 (by decide) (by decide)
  obtain ⟨odd, x5, e6, hx5, ho⟩ := picked hx4 n
  obtain ⟨g1, g2, g3⟩ := bend_ok (ws := t.sp) (at_ := at_) (way := way) (odd := odd) (gw_sp (show n < 10 by omega) t ok2) (gw_odds n (by omega) odd ho)
  obtain ⟨W1, W2, s5, s6, s7⟩ := bent (s := ns) none none none none none [x5] (.int n) t.sp (by omega) at_ way odd
  generalize hws : bend t.sp at_ way odd = ws at g1 g2 g3 s7
  obtain ⟨g, x6, y9, i1, i2, hx6, e9⟩ := text_go (s := ns) ⟨sD ws, none⟩ rfl (some (.rd (ns.map .int))) (some (.int n)) (some (.fl (sD ws))) (some (.int at_)) (some (.int way)) (some (.str odd)) none none ws x5 [] [] none g1 hx5 (by simp; omega) (by simp; omega)
  have hgl : g.length = ws.length := by have := congrArg List.length i1; simpa using this
  have igw : ∀ q ∈ g, gw (mk q.2) = true := fun q hq => by
    have : q.2 ∈ g.map (·.2) := List.mem_map.mpr ⟨q, hq, rfl⟩
    rw [i1] at this
    obtain ⟨z, hz, ez⟩ := List.mem_map.mp this
    rw [← ez, ← mk_of]
    exact g1 z hz
  have ig : ∀ q ∈ g, Good q.2 ∧ q.2.length ≤ 5 := fun q hq => by
    have := igw q hq
    unfold gw at this
    rw [mk_cps, Bool.and_eq_true, decide_eq_true_eq] at this
    exact ⟨good_of this.1, this.2⟩
  have ews : (g.map fun q => mk q.2) = ws := by
    have : (g.map fun q => mk q.2) = (g.map (·.2)).map mk := by simp
    rw [this, i1, List.map_map]
    conv => rhs; rw [← List.map_id ws]
    exact List.map_congr_left fun z _ => (mk_of z).symm
  obtain ⟨v2, x7, e10, hx7, hv10⟩ := taken [.lst (iD (nI (pls g 0)))] (many := 2) hx6 (by decide) (by decide)
  have hv10' : v2 < 2 := by omega
  generalize hF : txt g ++ List.replicate v2 32 = F
  have htl := txt_len g fun q hq => ⟨(i2 q hq).2, (ig q hq).2⟩
  have hFl : F.length ≤ 400 := by rw [← hF]; simp; omega
  have htok : tok F 0 = toks g 0 := by
    rw [← hF]
    exact tok_txt v2 g 0 fun q hq => ⟨(i2 q hq).1, (ig q hq).1⟩
  generalize hT : ((toks g 0).map fun q => mk q.1) = T
  generalize hP : ((toks g 0).map fun q => (q.2 : Int)) = P
  obtain ⟨j1, j2⟩ := toks_ok g 0 ig
  rw [ews, hT] at j2
  have hTz : ∀ z ∈ T, z.length ≤ 1000 ∧ z ≠ "" := fun z hz => by
    rw [← hT] at hz
    obtain ⟨q, hq, rfl⟩ := List.mem_map.mp hz
    obtain ⟨k1, k2⟩ := j1 q hq
    refine ⟨by simp; omega, fun h => k2 (mk_inj.mp (h.trans (by decide +kernel : ("" : Str) = mk [])))⟩
  obtain ⟨m1, m2⟩ := mc_toks (n := n) (by omega) g 0 0 [.E]
  rw [ews, hT] at m1
  rw [ews] at m2
  have efirst := first (n := n) (by omega) [x7, .lst (iD (nI (pls g 0)))] ws (by omega)
  have etree := tree_of_ok (x0 := x7) (x1 := .lst (iD (nI (pls g 0)))) (F := F) (n := n) (by omega) (by omega) (by omega) T P (by rw [htok, hT]) (by rw [htok, hP]) hTz (by omega)
  rw [m1] at etree
  -- the steps
  have b0 : q_law_0 [some (.rd (ns.map .int)), none, none, none, none, none, none, none, none, none, none, none] [] = .nx [some (.rd (ns.map .int)), some (.ref 0), none, none, none, none, none, none, none, none, none, none] [rowO ns 0 7705 0] := rfl
  have b1 : q_law_1 [some (.rd (ns.map .int)), some (.ref 0), none, none, none, none, none, none, none, none, none, none] [rowO ns 0 7705 0] = .nx [some (.rd (ns.map .int)), some (.ref 0), some (.int n), none, none, none, none, none, none, none, none, none] [x1] := by
    simp [q_law_1, e1, ec1]
  have e2' : F__law_tree 6 [.ref 0, .int n, .int 3] [x1] = .ok t.d [x2] := e2
  have b2' : q_law_2 [some (.rd (ns.map .int)), some (.ref 0), some (.int n), none, none, none, none, none, none, none, none, none] [x1] = .nx [some (.rd (ns.map .int)), some (.ref 0), some (.int n), some (.fl (sD t.sp)), none, none, none, none, none, none, none, none] [x2] := by
    simp [q_law_2, e2', e3]
  have b3 : q_law_3 [some (.rd (ns.map .int)), some (.ref 0), some (.int n), some (.fl (sD t.sp)), none, none, none, none, none, none, none, none] [x2] = .nx [some (.rd (ns.map .int)), some (.ref 0), some (.int n), some (.fl (sD t.sp)), some (.int at_), some (.int way), none, none, none, none, none, none] [x4] := by
    simp [q_law_3, e4, e5]
  have eodd : plusM (.str "x") (.str ⟨#[48 + n]⟩) [x4] = .ok (.str (xS n)) [x4] := by
    rw [plusM_str _ _ _ (by show (Str.ofString "x").cps.size + 1 ≤ _; decide), xS_eq]
  have estr : strOf [.int n] [x4] = .ok (.str ⟨#[48 + n]⟩) [x4] := by
    rw [strOf_i _ _ (by omega), dig n (by omega)]
  have b4 : q_law_4 [some (.rd (ns.map .int)), some (.ref 0), some (.int n), some (.fl (sD t.sp)), some (.int at_), some (.int way), none, none, none, none, none, none] [x4] = .nx [some (.rd (ns.map .int)), some (.ref 0), some (.int n), some (.fl (sD t.sp)), some (.int at_), some (.int way), some (.str odd), none, none, none, none, none] [x5] := by
    have e6' : m__law_pick [.ref 0, .fl [.str "x9", .str "x", .str "not", .str "and", .str "(", .str ")", .str "xor", .str "nor", .str "x00", .str "0", .str "+", .str (xS n), .str "X0"]] [x4] = .ok (.str odd) [x5] := e6
    simp [q_law_4, estr, eodd, e6']
  have b8 : q_law_8 [some (.rd (ns.map .int)), some (.ref 0), some (.int n), some (.fl (sD ws)), some (.int at_), some (.int way), some (.str odd), none, none, none, none, none] [x5] = .nx [some (.rd (ns.map .int)), some (.ref 0), some (.int n), some (.fl (sD ws)), some (.int at_), some (.int way), some (.str odd), some (.str (mk [])), some (.ref 1), none, none, none] [x5, .lst (iD [])] := by
    have em : ("" : Str) = mk [] := by decide +kernel
    simp [q_law_8, em]
  have b9 : q_law_9 [some (.rd (ns.map .int)), some (.ref 0), some (.int n), some (.fl (sD ws)), some (.int at_), some (.int way), some (.str odd), some (.str (mk [])), some (.ref 1), none, none, none] [x5, .lst (iD [])] = .nx [some (.rd (ns.map .int)), some (.ref 0), some (.int n), some (.fl (sD ws)), some (.int at_), some (.int way), some (.str odd), some (.str (mk (txt g))), some (.ref 1), y9, none, none] [x6, .lst (iD (nI (pls g 0)))] := by
    have q9 : q_law_9 = forM (itA (vr 3)) (.nm 9) tB := rfl
    rw [q9]
    simp only [forM_s, itA_s, vr_s, List.getElem?_cons_succ, List.getElem?_cons_zero, vrK_s, bind_ok, itAK_fl, toS_ok, forK_s]
    rw [e9]
    simp
  have b10 : q_law_10 [some (.rd (ns.map .int)), some (.ref 0), some (.int n), some (.fl (sD ws)), some (.int at_), some (.int way), some (.str odd), some (.str (mk (txt g))), some (.ref 1), y9, none, none] [x6, .lst (iD (nI (pls g 0)))] = .nx [some (.rd (ns.map .int)), some (.ref 0), some (.int n), some (.fl (sD ws)), some (.int at_), some (.int way), some (.str odd), some (.str (mk F)), some (.ref 1), y9, none, none] [x7, .lst (iD (nI (pls g 0)))] := by
    have et : timesM (.str " ") (.int (v2 : Int)) [x7, .lst (iD (nI (pls g 0)))] = .ok (.str (mk (List.replicate v2 32))) [x7, .lst (iD (nI (pls g 0)))] := by
      rw [timesM_str _ _ _ ⟨by omega, by omega, by decide +kernel⟩, blanks v2 (by omega)]
    have ep : plusM (.str (mk (txt g))) (.str (mk (List.replicate v2 32))) [x7, .lst (iD (nI (pls g 0)))] = .ok (.str (mk F)) [x7, .lst (iD (nI (pls g 0)))] := by
      rw [plusM_str _ _ _ (by simp; omega), mk_app, hF]
    simp [q_law_10, e10, et, ep]
  have b11 : q_law_11 [some (.rd (ns.map .int)), some (.ref 0), some (.int n), some (.fl (sD ws)), some (.int at_), some (.int way), some (.str odd), some (.str (mk F)), some (.ref 1), y9, none, none] [x7, .lst (iD (nI (pls g 0)))] = .nx [some (.rd (ns.map .int)), some (.ref 0), some (.int n), some (.fl (sD ws)), some (.int at_), some (.int way), some (.str odd), some (.str (mk F)), some (.ref 1), y9, some (oD (mc n 0 [.E] ws)), none] [x7, .lst (iD (nI (pls g 0)))] := by
    simp [q_law_11, efirst]
  have hrun : ∀ {R : Rz D}, endD (sq q_law_12 q_law_13 [some (.rd (ns.map .int)), some (.ref 0), some (.int n), some (.fl (sD ws)), some (.int at_), some (.int way), some (.str odd), some (.str (mk F)), some (.ref 1), y9, some (oD (mc n 0 [.E] ws)), none] [x7, .lst (iD (nI (pls g 0)))]) = R → m_law [.rd (ns.map D.int)] [] = R := fun {R} h => by
    unfold m_law b_law
    rw [dfM_1]
    simp only [List.replicate, sq_s, b0, b1, b2', b3, b4, s5, s6, s7, b8, b9, b10, b11, sqK_nx] at h ⊢
    exact h
  rcases etree with ⟨hm, t', st', et, ok', dp'⟩ | ⟨j, st', hm, et⟩
  · obtain ⟨r, er⟩ := table_ok [x7, .lst (iD (nI (pls g 0)))] st' (n := n) (by omega) (.str (mk F)) t' (by omega) ok' et
    refine ⟨st', hrun ?_⟩
    rw [hm]
    simp only [oD]
    simp [q_law_12, q_law_13, tryM, er]
  · have er := table_exc [x7, .lst (iD (nI (pls g 0)))] st' (n := n) (.str (mk F)) _ _ et
    obtain ⟨i, rfl, hi⟩ := m2 j hm
    rw [Nat.zero_add] at hm er
    have hplace : ∃ z : Int, plc T P F i = z ∧ q_law_12 [some (.rd (ns.map .int)), some (.ref 0), some (.int n), some (.fl (sD ws)), some (.int at_), some (.int way), some (.str odd), some (.str (mk F)), some (.ref 1), y9, some (.int (i : Nat)), none] [x7, .lst (iD (nI (pls g 0)))] = .nx [some (.rd (ns.map .int)), some (.ref 0), some (.int n), some (.fl (sD ws)), some (.int at_), some (.int way), some (.str odd), some (.str (mk F)), some (.ref 1), y9, some (.int z), none] [x7, .lst (iD (nI (pls g 0)))] := by
      have hTP : T.length = (toks g 0).length := by rw [← hT]; simp
      have hPi : P[i]? = ((pls g 0)[i]?).map fun (z : Nat) => (z : Int) := by
        rw [← hi, ← hP, List.getElem?_map, List.getElem?_map, Option.map_map]
        rfl
      by_cases hlt : i < ws.length
      · obtain ⟨p, hp⟩ : ∃ p, (pls g 0)[i]? = some p := ⟨_, List.getElem?_eq_getElem (by rw [pls_len, hgl]; exact hlt)⟩
        rw [hp] at hPi
        have hPl : i < P.length := (List.getElem?_eq_some_iff.mp hPi).1
        have hTl : i < T.length := by rw [hTP]; rw [← hP] at hPl; simpa using hPl
        refine ⟨(p : Int), ?_, ?_⟩
        · unfold plc
          rw [if_pos hTl, hPi]
          rfl
        · have hlt' : (i : Int) < (ws.length : Int) := by omega
          have hix : ixM (.ref 1) (.int (i : Int)) [x7, .lst (iD (nI (pls g 0)))] = .ok (.int (p : Int)) [x7, .lst (iD (nI (pls g 0)))] := by
            rw [ixM_ref _ _ (iD (nI (pls g 0))) (n := 1) rfl, Rf.atI_nat (iD_get (x := (p : Int)) (by simp [nI, hp])), atK_s]
          simp [q_law_12, hlt', hix]
      · have hno : (pls g 0)[i]? = none := List.getElem?_eq_none (by rw [pls_len, hgl]; omega)
        rw [hno] at hPi
        have hPl : P.length ≤ i := List.getElem?_eq_none_iff.mp hPi
        have hTl : ¬ i < T.length := by rw [hTP]; rw [← hP] at hPl; simp at hPl; omega
        refine ⟨(F.length : Int), ?_, ?_⟩
        · unfold plc
          rw [if_neg hTl]
        · have hlt' : ¬ (i : Int) < (ws.length : Int) := by omega
          have hlen : lenM [.str (mk F)] [x7, .lst (iD (nI (pls g 0)))] = .ok (.int F.length) [x7, .lst (iD (nI (pls g 0)))] := by rw [lenM_str _ _ (by simp; omega)]; simp
          simp [q_law_12, hlt', hlen]
    obtain ⟨z, hz, h12⟩ := hplace
    rw [hz] at er
    refine ⟨st', hrun ?_⟩
    rw [hm]
    simp only [oD, sq_s, h12, sqK_nx]
    have hx : x_law_BadSign "BadSign" = some true := rfl
    have hlk : List.lookup ("place" : Str) [(("place" : Str), D.int z)] = some (D.int z) := by rfl
    simp [q_law_13, tryM, er, hx, xEnd, xfM, hlk, sv]
end K05
namespace K05
open PySem PySem.Spec PyProof.Rows L2 Rf
abbrev lR : PySem.W.OpenRow := PySem.W.OpenLaw.row PySem.Challenge.rw_lockturns_k05_bent_formulas
abbrev lH : PySem.W.Hook := hookR 6 fa fx fn
def lO (s : PySem.W.SharedT) : AlR := obsRG 6 fa fx fn (HandSHeadRun.getT s)
theorem lO_eq (s : PySem.W.SharedT) : lO s = lH.obs s.abs := obsRG_eq (HandSHeadRun.getT_eq s)
def lN : List Str := ["LockError", "BadNumber", "BadString", "BadSign", "is_number", "MOST_INPUTS", "MOST_DEEP", "need_number", "all_bits", "Reader", "is_plain", "tree_of", "worth_of", "table_of", "_law_taken", "_law_pick", "_law_tree", "_law_spelled", "_law_first"]
theorem lrun (w : World) : HandSHeadRun.RunEq lR (PySem.W.view lR.prog [23]) lH lO 4000 lN w := by
  intro os
  kernel_rfl
/-- the law's def keeps its promise -/
theorem lfacts {P : Program} {w : World} {K : PySem.W.Frag} {h : Heap} {mg : Str → Option Value} {f : Addr} (X : K.In h) (G : h.Ns mainGlobals mg) (hfa : mg ("law" : Str) = some (.ref f)) (c : SaysR fa fx fn K) :
    ∃ fd : FuncData, (∀ (s : Shared) (v : Value), BindsTo s fd ⟨[v], []⟩ [("_law_script", v)]) ∧ ∀ base : Heap, FnOk P w K mg base (fun _ _ _ _ _ _ => False) 36 f fd ["_law_script"] (fun vs H Q _ => spF K 1 m_law vs H Q fun _ _ _ => False) := by
  have T : Tp fa fx fn K mg := ⟨c, h, X, G⟩
  obtain ⟨fd, F⟩ := T.def_ lawD
  have e := hfa.symm.trans (T.glo lawG)
  cases e
  have b := FunD.bindsA (ps := ["_law_script"]) F fun _ _ _ _ _ _ us hl => match us, hl with | [_], _ => rfl
  exact ⟨fd, fun s v => b s [v] rfl, fun base => fn_closed (law_fn T F)⟩
theorem lpost {K : PySem.W.Frag} {H : Hp} {a : Addr} {ns : List Int} (hS : SqL K H a (ns.map V.int)) (hl : ns.length ≤ 63) : spF K 1 m_law [.ref a] H (fun v _ => v = .bl true) fun _ _ _ => False := by
  obtain ⟨st', e⟩ := law_true ns hl
  refine ⟨rfl, [], [], [.rd (ns.map D.int)], [], ⟨_, _, rfl, ⟨a, _, rfl, ?_, Reps.of_ints ns⟩, rfl⟩, ⟨rfl, List.nodup_nil, fun n o h => by simp at h, fun a h => by simp at h⟩, ?_⟩
  · rcases hS with h | h
    · exact .inl ⟨by simp, by simp, h⟩
    · exact .inr fun H' => .inr h
  · rw [e]
    intro io' H' v _ _ r
    exact r
end K05
open PySem PySem.W PySem.Calls PyProof.Rows
theorem PySem.Challenge.cw_lockturns_k05_bent_formulas_holds : PySem.Challenge.rw_lockturns_k05_bent_formulas.Holds := by
  w_on; o_law
  refine HandSHeadRun.head_any (r := OpenLaw.row PySem.Challenge.rw_lockturns_k05_bent_formulas) (q := view (OpenLaw.row PySem.Challenge.rw_lockturns_k05_bent_formulas).prog [23]) (H := K05.lH) (ob := K05.lO) (M := 4000) (loose := K05.lN) (d := HandSHeadRun.topDef (OpenLaw.row PySem.Challenge.rw_lockturns_k05_bent_formulas).prog 23) (kwd := []) K05.lO_eq
    (by kernel_rfl) (fun s => by kernel_rfl) K05.lrun (by kernel_rfl) (by kernel_rfl) (by kernel_rfl) (by rfl) (by first | assumption | decide +kernel) (by decide +kernel) ⟨rfl, rfl, rfl, rfl, rfl, by decide +kernel⟩ ?hw ?hc
  case hw => w_witness2
  case hc =>
    refine L2.walk_ofE (l := PySem.Challenge.rw_lockturns_k05_bent_formulas) (n := 63) (k := 36) (x := "_law_script") (CX := fun _ _ _ _ _ _ => False) rfl (by decide) (by kernel_rfl) ⟨rfl, by decide, by decide⟩ ?F (fun _ _ _ _ h => h)
    case F =>
      intro w mg fa h Y G hmg0
      obtain ⟨K, KX, c⟩ := Y
      have hmg : mg ("law" : PySem.Str) = some (.ref fa) := by
        have e : (HandSHeadRun.topDef (OpenLaw.row PySem.Challenge.rw_lockturns_k05_bent_formulas).prog 23).name = ("law" : PySem.Str) := by kernel_rfl
        rw [← e]
        exact hmg0
      obtain ⟨fd, hb, hF⟩ := K05.lfacts (P := (PySem.Challenge.rw_lockturns_k05_bent_formulas).prog) (w := w) KX G hmg c
      exact ⟨K, fd, fun vs H Q _ => Rf.spF K 1 K05.m_law vs H Q fun _ _ _ => False, KX, hb, fun H a ns hl _ hS => K05.lpost hS hl, fun base _ _ => hF base⟩
