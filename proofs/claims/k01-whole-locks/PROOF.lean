import PyProof.Rows.All
import Wide.All
import OpenK.AllK
import Wide.FinOn
import HandS.ForMost
import HandS.ExcInit
import HandS.TryOnly
import HandS.TryMany
import HandS.ExcOwn
import HandS.WordsExc
import HandS.Defaults
import HandS.Flow
import HandS.Style
import HandS.IsInst
import HandS.TupAny
import HandS.TupMul
import HandS.HeadHook1
import HandS.HeadHook2
import HandS.HeadHook4
import KE.KDictKeyed
import KE.KeyNested
import HandS.Lambda
import KE.KDflt
import HandS.Conv
import HandS.Deep
import HandS.TupLen
import HandS.ExcField
import KE.KStateDown
import HandS.RaiseMore
import HandS.Head0
import HandS.Head1
import HandS.Head2
import HandS.HeadEnd
import PyProof.GenQ
import HandS.GenOver
import HandS.GenList
import HandS.AnyAll
import HandS.HeadWalk
import HandS.Zip
import KE.SortData
import KE.KDictCopyH
import KE.KIndexOf
import KE.KIndexWalk
import KE.KDictDisplayH
import HandS.TupSets
import HandS.Records
import HandS.SetFor
import KE.GoesEnum
import HandS.WordsDict
import PyProof.IsRules
import PySem.Challenge.RW_lockturns_k01_whole_locks
set_option Elab.async false
set_option linter.all false
set_option maxRecDepth 100000
set_option maxHeartbeats 0
namespace Rf
set_option autoImplicit false
open PySem PySem.Spec L2

/-! ### data, objects, stores -/
inductive D where
  | non | bl (b : Bool) | int (i : Int) | str (x : Str) | tup (l : List D) | tw (l : List D) | fl (l : List D) | rd (l : List D) | ref (n : Nat) | any | cod | lam (j : List Nat) (cl : List (Str × Addr))
mutual
def D.eqb : D → D → Bool
  | .non, .non => true
  | .bl a, .bl b => a == b
  | .int a, .int b => decide (a = b)
  | .str a, .str b => decide (a = b)
  | .tup a, .tup b => D.eqbs a b
  | .tw a, .tw b => D.eqbs a b
  | .fl a, .fl b => D.eqbs a b
  | .rd a, .rd b => D.eqbs a b
  | .ref a, .ref b => Nat.beq a b
  | .any, .any => true
  | .cod, .cod => true
  | .lam a b, .lam c d => decide (a = c) && decide (b = d)
  | _, _ => false
def D.eqbs : List D → List D → Bool
  | [], [] => true
  | a :: l, b :: r => D.eqb a b && D.eqbs l r
  | _, _ => false
end
mutual
theorem D.eqb_eq : ∀ (a b : D), D.eqb a b = true ↔ a = b
  | .non, b => by cases b <;> simp [D.eqb]
  | .bl a, b => by cases b <;> simp [D.eqb]
  | .int a, b => by cases b <;> simp [D.eqb]
  | .str a, b => by cases b <;> simp [D.eqb]
  | .tup a, b => by
    cases b with
    | tup b => simp [D.eqb, D.eqbs_eq a b]
    | _ => simp [D.eqb]
  | .tw a, b => by
    cases b with
    | tw b => simp [D.eqb, D.eqbs_eq a b]
    | _ => simp [D.eqb]
  | .fl a, b => by
    cases b with
    | fl b => simp [D.eqb, D.eqbs_eq a b]
    | _ => simp [D.eqb]
  | .rd a, b => by
    cases b with
    | rd b => simp [D.eqb, D.eqbs_eq a b]
    | _ => simp [D.eqb]
  | .ref a, b => by
    cases b with
    | ref b =>
      simp only [D.eqb, D.ref.injEq]
      exact ⟨Nat.eq_of_beq_eq_true, fun h => by subst h; exact Nat.beq_refl _⟩
    | _ => simp [D.eqb]
  | .any, b => by cases b <;> simp [D.eqb]
  | .cod, b => by cases b <;> simp [D.eqb]
  | .lam i j, b => by cases b <;> simp [D.eqb]
theorem D.eqbs_eq : ∀ (a b : List D), D.eqbs a b = true ↔ a = b
  | [], b => by cases b <;> simp [D.eqbs]
  | x :: l, b => by
    cases b with
    | nil => simp [D.eqbs]
    | cons y r => simp [D.eqbs, D.eqb_eq x y, D.eqbs_eq l r]
end
instance : DecidableEq D := fun a b => if h : D.eqb a b = true then isTrue ((D.eqb_eq a b).mp h) else isFalse fun e => h ((D.eqb_eq a b).mpr e)

inductive O where
  | lst (l : List D) | dK (l : List (Key × D)) | dN (l : List (D × D)) | ins (c : Str) (fs : List (Str × D)) | tb (p : Str × Option Str) | tl (p : Str × Option Str)
abbrev Store := List O
abbrev Sl := List (Option D)

/-! ### what represents what -/
/-- the written part, the program, the world -/
structure KW where
  K : PySem.W.Frag
  P : Program
  w : World
instance : Coe KW PySem.W.Frag := ⟨KW.K⟩
abbrev _root_.L2.Cx.kw (X : Cx) : KW := ⟨X.K, X.prog, X.w⟩
/-- at p stands a tuple whose very object is known, without a dict -/
structure TupF (H : Hp) (p : Addr) (xs : List V) : Prop where
  ex : ∃ o : Obj, H p = some (.frz o (.tup xs)) ∧ o.dict = none
theorem TupF.sq {K : PySem.W.Frag} {H : Hp} {p : Addr} {xs : List V} (h : TupF H p xs) : SqT K H p xs := by
  obtain ⟨o, e, _⟩ := h.ex
  exact .inl (.inr ⟨o, e⟩)
theorem TupF.sm {H : Hp} {p : Addr} {xs : List V} (h : TupF H p xs) : ∃ u, H p = some u := by
  obtain ⟨o, e, _⟩ := h.ex
  exact ⟨_, e⟩
theorem TupF.ne {H : Hp} {p q : Addr} {xs : List V} (h : TupF H p xs) (hq : H q = none) : p ≠ q := by
  obtain ⟨u, e⟩ := h.sm
  exact ne_of_none e hq
theorem TupF.eq {H : Hp} {p : Addr} {xs ys : List V} (h : TupF H p xs) (g : TupF H p ys) : xs = ys := by
  obtain ⟨o, e, _⟩ := h.ex
  obtain ⟨o', e', _⟩ := g.ex
  rw [e] at e'
  cases e'
  rfl
theorem TupF.keep {H H' : Hp} {p : Addr} {xs : List V} (h : TupF H p xs) (k : ∀ u, H p = some u → H' p = some u) : TupF H' p xs := by
  obtain ⟨o, e, d⟩ := h.ex
  exact ⟨o, k _ e, d⟩
theorem TupF.at {H : Hp} {p : Addr} {xs : List V} {o : Obj} (d : o.dict = none) : TupF (upd H p (.frz o (.tup xs))) p xs := ⟨o, upd_same, d⟩
/-! ### lambdas: where they stand in the program, what they are made of -/
structure LamSyn where
  params : Arguments
  body : Expr
  scope : Scope
inductive Nd where
  | e (x : Expr) | s (x : Stmt)
def Nd.kids : Nd → List Nd
  | .s (.FunctionDef (body := b) ..) => b.map Nd.s
  | .s (.Assign _ v _) => [.e v]
  | .s (.Expr v _) => [.e v]
  | .s (.Return (some v) _) => [.e v]
  | .s (.For _ it b c _) => .e it :: (b.map Nd.s ++ c.map Nd.s)
  | .s (.If c a b _) => .e c :: (a.map Nd.s ++ b.map Nd.s)
  | .s (.Try b _ _ _ _) => b.map Nd.s
  | .e (.List es _) => es.map Nd.e
  | .e (.Tuple es _ _) => es.map Nd.e
  | .e (.BinOp a _ b _) => [.e a, .e b]
  | .e (.BoolOp _ es _) => es.map Nd.e
  | .e (.UnaryOp _ a _) => [.e a]
  | .e (.Compare a _ bs _) => .e a :: bs.map Nd.e
  | .e (.Call f as _ _) => .e f :: as.map Nd.e
  | .e (.Attribute v _ _) => [.e v]
  | _ => []
def Nd.at : List Nat → Nd → Option LamSyn
  | [], .e (.Lambda ps bd sc _) => some ⟨ps, bd, sc⟩
  | [], _ => none
  | i :: r, x => match x.kids[i]? with
    | some y => Nd.at r y
    | none => none
/-- the lambda at a place of the program's text -/
def lamAt (P : Program) : List Nat → Option LamSyn
  | i :: r => (match P.main.body[i]? with
    | some y => Nd.at r (.s y)
    | none => none)
  | [] => none
def lamQ : Str := "law.<locals>.<lambda>"
/-- at f stands a function made of the lambda at j -/
def LamO (P : Program) (j : List Nat) (cl : List (Str × Addr)) (f c' : Addr) (dv : Value) : HO := .ext fun h => ∃ (y : LamSyn) (pm doc ctv : Value), lamAt P j = some y ∧ (y.params.defaults.isEmpty = true ↔ dv = .none) ∧
  h.get? f = some (PySem.W.kdv_obj "<lambda>" lamQ y.params (.expr y.body) y.scope (cloFrom cl y.scope.names []) dv doc pm c' ctv)
/-- nothing, or the one number 0 -/
def DvOk (io N : List Addr) (H : Hp) (dv : Value) : Prop := dv = .none ∨ ∃ d, dv = .ref d ∧ d ∉ io ∧ d ∉ N ∧ TupF H d [.int 0]
mutual
def Rep (K : KW) (io N : List Addr) (H : Hp) : D → V → Prop
  | .non, v => v = .non
  | .bl b, v => v = .bl b
  | .int i, v => v = .int i
  | .str x, v => v = .str x
  | .tup l, v => ∃ p xs, v = .ref p ∧ (p ∉ io ∧ p ∉ N ∧ TupF H p xs) ∧ Reps K io N H l xs
  | .tw l, v => ∃ p xs, v = .ref p ∧ (p ∉ io ∧ p ∉ N ∧ H p = some (.tup xs)) ∧ Reps K io N H l xs
  | .fl l, v => ∃ p xs, v = .ref p ∧ (p ∉ io ∧ p ∉ N ∧ H p = some (.lst xs)) ∧ Reps K io N H l xs
  | .rd l, v => ∃ p xs, v = .ref p ∧ ((p ∉ io ∧ p ∉ N ∧ (H p = some (.lst xs) ∨ ∃ o, H p = some (.frz o (.lst xs)))) ∨ ∀ H', SqL K H' p xs) ∧ Reps K io N H l xs
  | .ref n, v => ∃ a, io[n]? = some a ∧ v = .ref a
  | .any, _ => True
  | .cod, v => ∃ c, v = .ref c ∧ (c ∉ io ∧ c ∉ N ∧ H c = some (LamX.CodeO c lamQ))
  | .lam j cl, v => ∃ f c' dv, v = .ref f ∧ (f ∉ io ∧ f ∉ N ∧ H f = some (LamO K.P j cl f c' dv)) ∧ (c' ∉ io ∧ c' ∉ N ∧ H c' = some (LamX.CodeO c' lamQ)) ∧ DvOk io N H dv
def Reps (K : KW) (io N : List Addr) (H : Hp) : List D → List V → Prop
  | [], xs => xs = []
  | d :: l, xs => ∃ v ys, xs = v :: ys ∧ Rep K io N H d v ∧ Reps K io N H l ys
end
/-- pairs with keys -/
def RepP (K : KW) (io N : List Addr) (H : Hp) {k : Type} : List (k × D) → List (k × V) → Prop
  | [], xs => xs = []
  | d :: l, xs => ∃ v ys, xs = (d.1, v) :: ys ∧ Rep K io N H d.2 v ∧ RepP K io N H l ys
mutual
/-- a datum as a key -/
def nk : D → Option NestedKey
  | .non => some .none
  | .int i => some (.num i)
  | .str x => some (.text x)
  | .tup l => (nks l).map .tup
  | _ => none
def nks : List D → Option (List NestedKey)
  | [] => some []
  | d :: l => match nk d, nks l with
    | some k, some ks => some (k :: ks)
    | _, _ => none
end
/-- a dict's entries: keys by value -/
def RepN (K : KW) (io N : List Addr) (H : Hp) : List (D × D) → List (NestedKey × Addr × V) → Prop
  | [], xs => xs = []
  | d :: l, xs => ∃ k p v ys, xs = (k, p, v) :: ys ∧ (nk d.1 = some k ∧ k.depth ≤ 8) ∧ Rep K io N H d.1 (.ref p) ∧ Rep K io N H d.2 v ∧ RepN K io N H l ys
/-- the dict's own object -/
def DicO (P : Program) (w : World) (a : Addr) (xs : List (NestedKey × Addr × V)) : HO := .ext fun h => xs.length ≤ 1000000 ∧ (a == sysModules) = false ∧ ∃ ys : List (NestedKey × Addr × Value),
  Paired (fun (p : NestedKey × Addr × V) (q : NestedKey × Addr × Value) => p.1 = q.1 ∧ p.2.1 = q.2.1 ∧ RelV p.2.2 q.2.2) xs ys ∧ ∃ o es ep, h.get? a = some o ∧ o.ExactDict ∧ o.data = .dict es ep ∧ es.toList = ys.map (entryOfKey (nestedKind P w)) ∧ (ys.map (·.1)).Nodup
def RepU (K : KW) (io N : List Addr) (H : Hp) (a : Addr) : O → HO → Prop
  | .lst l, u => ∃ xs, u = .lst xs ∧ Reps K io N H l xs
  | .dK l, u => ∃ xs, u = .dK xs ∧ RepP K io N H l xs
  | .dN l, u => ∃ xs, u = DicO K.P K.w a xs ∧ RepN K io N H l xs
  | .ins c fs, u => ∃ dx xs, u = .ins (He.ga K c) dx xs ∧ RepP K io N H fs xs
  | .tb p, u => a = (He.cT K p).2 ∧ ∃ ps : Array Value, u = .tbl ps ∧ TriplesOk ps.toList
  | .tl p, u => a = (He.cT K p).2 ∧ ∃ ps : Array Value, u = .tbl ps ∧ TriplesOk ps.toList ∧ ∀ (pos : Pos) (cv : Value), codeAmong pos ps.toList = some cv → ∃ c, cv = .ref c ∧ Rep K io N H .cod (.ref c)
structure RSt (K : KW) (io N : List Addr) (H : Hp) (st : Store) : Prop where
  len : io.length = st.length
  nd : io.Nodup
  ob : ∀ (n : Nat) (o : O), st[n]? = some o → ∃ a u, io[n]? = some a ∧ H a = some u ∧ RepU K io N H a o u
  tr : ∀ a ∈ N, H a ≠ none
def REn0 (K : KW) (io N : List Addr) (H : Hp) : Sl → St → Prop
  | [], s => s = []
  | none :: e, s => ∃ o r, s = o :: r ∧ REn0 K io N H e r
  | some d :: e, s => ∃ v r, s = some v :: r ∧ Rep K io N H d v ∧ REn0 K io N H e r
/-- an exception: its class by name, its fields -/
def RepX (K : KW) (io N : List Addr) (H : Hp) (c : Str) (fs : List (Str × D)) (cls : Value) (dd : Option Addr) : Prop :=
  cls = .ref (He.ga K c) ∧ (fs = [] ∨ ∃ d xs, dd = some d ∧ H d = some (.xd xs) ∧ RepP K io N H fs xs)

structure Ext (io : List Addr) (H : Hp) (io' : List Addr) (H' : Hp) : Prop where
  pre : ∃ r, io' = io ++ r ∧ ∀ a ∈ r, H a = none
  keep : ∀ p o, p ∉ io → H p = some o → H' p = some o
  trk : ∀ p, H' p = none → H p = none

section
variable {K : KW} {io io' io'' N N' : List Addr} {H H' H'' : Hp} {st : Store}
theorem Ext.refl (io : List Addr) (H : Hp) : Ext io H io H := ⟨⟨[], by simp, by simp⟩, fun _ _ _ e => e, fun _ e => e⟩
theorem Ext.notin (e : Ext io H io' H') {p : Addr} {o : HO} (h : p ∉ io) (q : H p = some o) : p ∉ io' := by
  obtain ⟨r, rfl, hr⟩ := e.pre
  intro hm
  rcases List.mem_append.mp hm with z | z
  · exact h z
  · rw [hr p z] at q; cases q
theorem Ext.trans (a : Ext io H io' H') (b : Ext io' H' io'' H'') : Ext io H io'' H'' := by
  refine ⟨?_, fun p o h q => b.keep p o (a.notin h q) (a.keep p o h q), fun p h => a.trk p (b.trk p h)⟩
  obtain ⟨r, rfl, hr⟩ := a.pre
  obtain ⟨r', rfl, hr'⟩ := b.pre
  refine ⟨r ++ r', by rw [List.append_assoc], fun x hx => ?_⟩
  rcases List.mem_append.mp hx with z | z
  · exact hr x z
  · exact a.trk x (hr' x z)
theorem Ext.idx (e : Ext io H io' H') {n : Nat} {a : Addr} (h : io[n]? = some a) : io'[n]? = some a := by
  obtain ⟨r, rfl, _⟩ := e.pre
  exact List.getElem?_append_left (List.getElem?_eq_some_iff.mp h).1 ▸ h
mutual
theorem Rep.mono (e : Ext io H io' H') : ∀ (d : D) (v : V), Rep K io N H d v → Rep K io' N H' d v
  | .non, _, h => h
  | .bl _, _, h => h
  | .int _, _, h => h
  | .str _, _, h => h
  | .tup l, _, h => by
    obtain ⟨p, xs, rfl, ⟨c1, c2, c3⟩, r⟩ := h
    obtain ⟨u, c4⟩ := c3.sm
    exact ⟨p, xs, rfl, ⟨e.notin c1 c4, c2, c3.keep fun u q => e.keep _ _ c1 q⟩, Reps.mono e l xs r⟩
  | .tw l, _, h => by
    obtain ⟨p, xs, rfl, ⟨c1, c2, c3⟩, r⟩ := h
    exact ⟨p, xs, rfl, ⟨e.notin c1 c3, c2, e.keep _ _ c1 c3⟩, Reps.mono e l xs r⟩
  | .fl l, _, h => by
    obtain ⟨p, xs, rfl, ⟨c1, c2, c3⟩, r⟩ := h
    exact ⟨p, xs, rfl, ⟨e.notin c1 c3, c2, e.keep _ _ c1 c3⟩, Reps.mono e l xs r⟩
  | .rd l, _, h => by
    obtain ⟨p, xs, rfl, c, r⟩ := h
    refine ⟨p, xs, rfl, ?_, Reps.mono e l xs r⟩
    rcases c with ⟨c1, c2, c3 | ⟨o, c3⟩⟩ | c
    · exact .inl ⟨e.notin c1 c3, c2, .inl (e.keep _ _ c1 c3)⟩
    · exact .inl ⟨e.notin c1 c3, c2, .inr ⟨o, e.keep _ _ c1 c3⟩⟩
    · exact .inr c
  | .ref _, _, h => by
    obtain ⟨a, q, rfl⟩ := h
    exact ⟨a, e.idx q, rfl⟩
  | .any, _, _ => True.intro
  | .cod, _, h => by
    obtain ⟨c, rfl, c1, c2, c3⟩ := h
    exact ⟨c, rfl, e.notin c1 c3, c2, e.keep _ _ c1 c3⟩
  | .lam j cl, _, h => by
    obtain ⟨c, f, dv, rfl, ⟨c1, c2, c3⟩, ⟨d1, d2, d3⟩, dk⟩ := h
    refine ⟨c, f, dv, rfl, ⟨e.notin c1 c3, c2, e.keep _ _ c1 c3⟩, ⟨e.notin d1 d3, d2, e.keep _ _ d1 d3⟩, ?_⟩
    rcases dk with dk | ⟨d, e1, e2, e3, e4⟩
    · exact .inl dk
    · exact .inr ⟨d, e1, (by obtain ⟨u, e5⟩ := e4.sm; exact e.notin e2 e5), e3, e4.keep fun u q => e.keep _ _ e2 q⟩
theorem Reps.mono (e : Ext io H io' H') : ∀ (l : List D) (xs : List V), Reps K io N H l xs → Reps K io' N H' l xs
  | [], _, h => h
  | d :: l, _, h => by
    obtain ⟨v, ys, rfl, a, b⟩ := h
    exact ⟨v, ys, rfl, Rep.mono e d v a, Reps.mono e l ys b⟩
end
/-- the same, what is shunned may change -/
structure ExtS (N : List Addr) (io : List Addr) (H : Hp) (io' : List Addr) (H' : Hp) : Prop where
  pre : ∃ r, io' = io ++ r ∧ ∀ a ∈ r, H a = none
  keep : ∀ p o, p ∉ io → p ∉ N → H p = some o → H' p = some o
  trk : ∀ p, H' p = none → H p = none
theorem Ext.s (e : Ext io H io' H') : ExtS N io H io' H' := ⟨e.pre, fun p o h _ q => e.keep p o h q, e.trk⟩
theorem ExtS.notin (e : ExtS N io H io' H') {p : Addr} {o : HO} (h : p ∉ io) (q : H p = some o) : p ∉ io' := by
  obtain ⟨r, rfl, hr⟩ := e.pre
  intro hm
  rcases List.mem_append.mp hm with z | z
  · exact h z
  · rw [hr p z] at q; cases q
theorem ExtS.idx (e : ExtS N io H io' H') {n : Nat} {a : Addr} (h : io[n]? = some a) : io'[n]? = some a := by
  obtain ⟨r, rfl, _⟩ := e.pre
  exact List.getElem?_append_left (List.getElem?_eq_some_iff.mp h).1 ▸ h
theorem ExtS.weak (e : ExtS N io H io' H') {M : List Addr} : ExtS (M ++ N) io H io' H' := ⟨e.pre, fun p o h h2 q => e.keep p o h (fun z => h2 (List.mem_append_right _ z)) q, e.trk⟩
theorem Ext.transS (a : Ext io H io' H') (b : ExtS N io' H' io'' H'') : ExtS N io H io'' H'' := by
  refine ⟨?_, fun p o h n q => b.keep p o (a.notin h q) n (a.keep p o h q), fun p h => a.trk p (b.trk p h)⟩
  obtain ⟨r, rfl, hr⟩ := a.pre
  obtain ⟨r', rfl, hr'⟩ := b.pre
  refine ⟨r ++ r', by rw [List.append_assoc], fun x hx => ?_⟩
  rcases List.mem_append.mp hx with z | z
  · exact hr x z
  · exact a.trk x (hr' x z)
theorem ExtS.trans (a : ExtS N io H io' H') (b : Ext io' H' io'' H'') : ExtS N io H io'' H'' := by
  refine ⟨?_, fun p o h n q => b.keep p o (a.notin h q) (a.keep p o h n q), fun p h => a.trk p (b.trk p h)⟩
  obtain ⟨r, rfl, hr⟩ := a.pre
  obtain ⟨r', rfl, hr'⟩ := b.pre
  refine ⟨r ++ r', by rw [List.append_assoc], fun x hx => ?_⟩
  rcases List.mem_append.mp hx with z | z
  · exact hr x z
  · exact a.trk x (hr' x z)
theorem ExtS.own {p : Addr} {u : HO} (a : ExtS N io H io' H') (hp : p ∈ N) : ExtS N io H io' (upd H' p u) :=
  ⟨a.pre, fun q o h n z => by rw [upd_ne (fun e => n (by rw [e]; exact hp))]; exact a.keep q o h n z, fun q h => by
    by_cases z : q = p
    · rw [z, upd_same] at h; cases h
    · rw [upd_ne z] at h; exact a.trk q h⟩
mutual
theorem Rep.monoS (e : ExtS N io H io' H') : ∀ (d : D) (v : V), Rep K io N H d v → Rep K io' N H' d v
  | .non, _, h => h
  | .bl _, _, h => h
  | .int _, _, h => h
  | .str _, _, h => h
  | .tup l, _, h => by
    obtain ⟨p, xs, rfl, ⟨c1, c2, c3⟩, r⟩ := h
    obtain ⟨u, c4⟩ := c3.sm
    exact ⟨p, xs, rfl, ⟨e.notin c1 c4, c2, c3.keep fun u q => e.keep _ _ c1 c2 q⟩, Reps.monoS e l xs r⟩
  | .tw l, _, h => by
    obtain ⟨p, xs, rfl, ⟨c1, c2, c3⟩, r⟩ := h
    exact ⟨p, xs, rfl, ⟨e.notin c1 c3, c2, e.keep _ _ c1 c2 c3⟩, Reps.monoS e l xs r⟩
  | .fl l, _, h => by
    obtain ⟨p, xs, rfl, ⟨c1, c2, c3⟩, r⟩ := h
    exact ⟨p, xs, rfl, ⟨e.notin c1 c3, c2, e.keep _ _ c1 c2 c3⟩, Reps.monoS e l xs r⟩
  | .rd l, _, h => by
    obtain ⟨p, xs, rfl, c, r⟩ := h
    refine ⟨p, xs, rfl, ?_, Reps.monoS e l xs r⟩
    rcases c with ⟨c1, c2, c3 | ⟨o, c3⟩⟩ | c
    · exact .inl ⟨e.notin c1 c3, c2, .inl (e.keep _ _ c1 c2 c3)⟩
    · exact .inl ⟨e.notin c1 c3, c2, .inr ⟨o, e.keep _ _ c1 c2 c3⟩⟩
    · exact .inr c
  | .ref _, _, h => by
    obtain ⟨a, q, rfl⟩ := h
    exact ⟨a, e.idx q, rfl⟩
  | .any, _, _ => True.intro
  | .cod, _, h => by
    obtain ⟨c, rfl, c1, c2, c3⟩ := h
    exact ⟨c, rfl, e.notin c1 c3, c2, e.keep _ _ c1 c2 c3⟩
  | .lam j cl, _, h => by
    obtain ⟨c, f, dv, rfl, ⟨c1, c2, c3⟩, ⟨d1, d2, d3⟩, dk⟩ := h
    refine ⟨c, f, dv, rfl, ⟨e.notin c1 c3, c2, e.keep _ _ c1 c2 c3⟩, ⟨e.notin d1 d3, d2, e.keep _ _ d1 d2 d3⟩, ?_⟩
    rcases dk with dk | ⟨d, e1, e2, e3, e4⟩
    · exact .inl dk
    · exact .inr ⟨d, e1, (by obtain ⟨u, e5⟩ := e4.sm; exact e.notin e2 e5), e3, e4.keep fun u q => e.keep _ _ e2 e3 q⟩
theorem Reps.monoS (e : ExtS N io H io' H') : ∀ (l : List D) (xs : List V), Reps K io N H l xs → Reps K io' N H' l xs
  | [], _, h => h
  | d :: l, _, h => by
    obtain ⟨v, ys, rfl, a, b⟩ := h
    exact ⟨v, ys, rfl, Rep.monoS e d v a, Reps.monoS e l ys b⟩
end
mutual
/-- a free address may be shunned -/
theorem Rep.shun {p : Addr} (hp : H p = none) : ∀ (d : D) (v : V), Rep K io N H d v → Rep K io (p :: N) H d v
  | .non, _, h => h
  | .bl _, _, h => h
  | .int _, _, h => h
  | .str _, _, h => h
  | .tup l, _, h => by
    obtain ⟨q, xs, rfl, ⟨c1, c2, c3⟩, r⟩ := h
    exact ⟨q, xs, rfl, ⟨c1, by simpa using ⟨c3.ne hp, c2⟩, c3⟩, Reps.shun hp l xs r⟩
  | .tw l, _, h => by
    obtain ⟨q, xs, rfl, ⟨c1, c2, c3⟩, r⟩ := h
    exact ⟨q, xs, rfl, ⟨c1, by simpa using ⟨ne_of_none c3 hp, c2⟩, c3⟩, Reps.shun hp l xs r⟩
  | .fl l, _, h => by
    obtain ⟨q, xs, rfl, ⟨c1, c2, c3⟩, r⟩ := h
    exact ⟨q, xs, rfl, ⟨c1, by simpa using ⟨ne_of_none c3 hp, c2⟩, c3⟩, Reps.shun hp l xs r⟩
  | .rd l, _, h => by
    obtain ⟨q, xs, rfl, c, r⟩ := h
    refine ⟨q, xs, rfl, ?_, Reps.shun hp l xs r⟩
    rcases c with ⟨c1, c2, c3⟩ | c
    · refine .inl ⟨c1, ?_, c3⟩
      rcases c3 with c3 | ⟨o, c3⟩
      · simpa using ⟨ne_of_none c3 hp, c2⟩
      · simpa using ⟨ne_of_none c3 hp, c2⟩
    · exact .inr c
  | .ref _, _, h => h
  | .any, _, _ => True.intro
  | .cod, _, h => by
    obtain ⟨c, rfl, c1, c2, c3⟩ := h
    exact ⟨c, rfl, c1, by simpa using ⟨ne_of_none c3 hp, c2⟩, c3⟩
  | .lam j cl, _, h => by
    obtain ⟨c, f, dv, rfl, ⟨c1, c2, c3⟩, ⟨d1, d2, d3⟩, dk⟩ := h
    refine ⟨c, f, dv, rfl, ⟨c1, by simpa using ⟨ne_of_none c3 hp, c2⟩, c3⟩, ⟨d1, by simpa using ⟨ne_of_none d3 hp, d2⟩, d3⟩, ?_⟩
    rcases dk with dk | ⟨d, e1, e2, e3, e4⟩
    · exact .inl dk
    · exact .inr ⟨d, e1, e2, by simpa using ⟨e4.ne hp, e3⟩, e4⟩
theorem Reps.shun {p : Addr} (hp : H p = none) : ∀ (l : List D) (xs : List V), Reps K io N H l xs → Reps K io (p :: N) H l xs
  | [], _, h => h
  | d :: l, _, h => by
    obtain ⟨v, ys, rfl, a, b⟩ := h
    exact ⟨v, ys, rfl, Rep.shun hp d v a, Reps.shun hp l ys b⟩
end
mutual
theorem Rep.weak : ∀ (d : D) (v : V), Rep K io (N' ++ N) H d v → Rep K io N H d v
  | .non, _, h => h
  | .bl _, _, h => h
  | .int _, _, h => h
  | .str _, _, h => h
  | .tup l, _, h => by
    obtain ⟨q, xs, rfl, ⟨c1, c2, c3⟩, r⟩ := h
    exact ⟨q, xs, rfl, ⟨c1, fun z => c2 (List.mem_append_right _ z), c3⟩, Reps.weak l xs r⟩
  | .tw l, _, h => by
    obtain ⟨q, xs, rfl, ⟨c1, c2, c3⟩, r⟩ := h
    exact ⟨q, xs, rfl, ⟨c1, fun z => c2 (List.mem_append_right _ z), c3⟩, Reps.weak l xs r⟩
  | .fl l, _, h => by
    obtain ⟨q, xs, rfl, ⟨c1, c2, c3⟩, r⟩ := h
    exact ⟨q, xs, rfl, ⟨c1, fun z => c2 (List.mem_append_right _ z), c3⟩, Reps.weak l xs r⟩
  | .rd l, _, h => by
    obtain ⟨q, xs, rfl, c, r⟩ := h
    refine ⟨q, xs, rfl, ?_, Reps.weak l xs r⟩
    rcases c with ⟨c1, c2, c3⟩ | c
    · exact .inl ⟨c1, fun z => c2 (List.mem_append_right _ z), c3⟩
    · exact .inr c
  | .ref _, _, h => h
  | .any, _, _ => True.intro
  | .cod, _, h => by
    obtain ⟨c, rfl, c1, c2, c3⟩ := h
    exact ⟨c, rfl, c1, fun z => c2 (List.mem_append_right _ z), c3⟩
  | .lam j cl, _, h => by
    obtain ⟨c, f, dv, rfl, ⟨c1, c2, c3⟩, ⟨d1, d2, d3⟩, dk⟩ := h
    refine ⟨c, f, dv, rfl, ⟨c1, fun z => c2 (List.mem_append_right _ z), c3⟩, ⟨d1, fun z => d2 (List.mem_append_right _ z), d3⟩, ?_⟩
    rcases dk with dk | ⟨d, e1, e2, e3, e4⟩
    · exact .inl dk
    · exact .inr ⟨d, e1, e2, fun z => e3 (List.mem_append_right _ z), e4⟩
theorem Reps.weak : ∀ (l : List D) (xs : List V), Reps K io (N' ++ N) H l xs → Reps K io N H l xs
  | [], _, h => h
  | d :: l, _, h => by
    obtain ⟨v, ys, rfl, a, b⟩ := h
    exact ⟨v, ys, rfl, Rep.weak d v a, Reps.weak l ys b⟩
end
mutual
/-- a shunned address is taken into the store -/
theorem Rep.take {p : Addr} : ∀ (d : D) (v : V), Rep K io (p :: N) H d v → Rep K (io ++ [p]) N H d v
  | .non, _, h => h
  | .bl _, _, h => h
  | .int _, _, h => h
  | .str _, _, h => h
  | .tup l, _, h => by
    obtain ⟨q, xs, rfl, ⟨c1, c2, c3⟩, r⟩ := h
    exact ⟨q, xs, rfl, ⟨by simp at c2; simp [c1, c2], fun z => c2 (List.mem_cons_of_mem _ z), c3⟩, Reps.take l xs r⟩
  | .tw l, _, h => by
    obtain ⟨q, xs, rfl, ⟨c1, c2, c3⟩, r⟩ := h
    exact ⟨q, xs, rfl, ⟨by simp at c2; simp [c1, c2], fun z => c2 (List.mem_cons_of_mem _ z), c3⟩, Reps.take l xs r⟩
  | .fl l, _, h => by
    obtain ⟨q, xs, rfl, ⟨c1, c2, c3⟩, r⟩ := h
    exact ⟨q, xs, rfl, ⟨by simp at c2; simp [c1, c2], fun z => c2 (List.mem_cons_of_mem _ z), c3⟩, Reps.take l xs r⟩
  | .rd l, _, h => by
    obtain ⟨q, xs, rfl, c, r⟩ := h
    refine ⟨q, xs, rfl, ?_, Reps.take l xs r⟩
    rcases c with ⟨c1, c2, c3⟩ | c
    · exact .inl ⟨by simp at c2; simp [c1, c2], fun z => c2 (List.mem_cons_of_mem _ z), c3⟩
    · exact .inr c
  | .ref _, _, h => by
    obtain ⟨a, q, rfl⟩ := h
    exact ⟨a, List.getElem?_append_left (List.getElem?_eq_some_iff.mp q).1 ▸ q, rfl⟩
  | .any, _, _ => True.intro
  | .cod, _, h => by
    obtain ⟨c, rfl, c1, c2, c3⟩ := h
    exact ⟨c, rfl, by simp at c2; simp [c1, c2], fun z => c2 (List.mem_cons_of_mem _ z), c3⟩
  | .lam j cl, _, h => by
    obtain ⟨c, f, dv, rfl, ⟨c1, c2, c3⟩, ⟨d1, d2, d3⟩, dk⟩ := h
    refine ⟨c, f, dv, rfl, ⟨by simp at c2; simp [c1, c2], fun z => c2 (List.mem_cons_of_mem _ z), c3⟩, ⟨by simp at d2; simp [d1, d2], fun z => d2 (List.mem_cons_of_mem _ z), d3⟩, ?_⟩
    rcases dk with dk | ⟨d, e1, e2, e3, e4⟩
    · exact .inl dk
    · exact .inr ⟨d, e1, by simp at e3; simp [e2, e3], fun z => e3 (List.mem_cons_of_mem _ z), e4⟩
theorem Reps.take {p : Addr} : ∀ (l : List D) (xs : List V), Reps K io (p :: N) H l xs → Reps K (io ++ [p]) N H l xs
  | [], _, h => h
  | d :: l, _, h => by
    obtain ⟨v, ys, rfl, a, b⟩ := h
    exact ⟨v, ys, rfl, Rep.take d v a, Reps.take l ys b⟩
end
theorem Rep.shuns {d : D} {v : V} : ∀ (M : List Addr), (∀ a ∈ M, H a = none) → Rep K io N H d v → Rep K io (M ++ N) H d v
  | [], _, h => h
  | p :: M, hm, h => Rep.shun (hm p List.mem_cons_self) d v (Rep.shuns M (fun a ha => hm a (List.mem_cons_of_mem _ ha)) h)
theorem Reps.shuns {d : List D} {v : List V} : ∀ (M : List Addr), (∀ a ∈ M, H a = none) → Reps K io N H d v → Reps K io (M ++ N) H d v
  | [], _, h => h
  | p :: M, hm, h => Reps.shun (hm p List.mem_cons_self) d v (Reps.shuns M (fun a ha => hm a (List.mem_cons_of_mem _ ha)) h)
theorem RepP.mono {k : Type} (e : Ext io H io' H') : ∀ {l : List (k × D)} {xs : List (k × V)}, RepP K io N H l xs → RepP K io' N H' l xs
  | [], _, h => h
  | d :: l, _, h => by
    obtain ⟨v, ys, rfl, a, b⟩ := h
    exact ⟨v, ys, rfl, a.mono e, RepP.mono e b⟩
theorem RepP.shun {k : Type} {p : Addr} (hp : H p = none) : ∀ {l : List (k × D)} {xs : List (k × V)}, RepP K io N H l xs → RepP K io (p :: N) H l xs
  | [], _, h => h
  | d :: l, _, h => by
    obtain ⟨v, ys, rfl, a, b⟩ := h
    exact ⟨v, ys, rfl, a.shun hp, RepP.shun hp b⟩
theorem RepP.weak {k : Type} : ∀ {l : List (k × D)} {xs : List (k × V)}, RepP K io (N' ++ N) H l xs → RepP K io N H l xs
  | [], _, h => h
  | d :: l, _, h => by
    obtain ⟨v, ys, rfl, a, b⟩ := h
    exact ⟨v, ys, rfl, a.weak, RepP.weak b⟩
theorem RepP.take {k : Type} {p : Addr} : ∀ {l : List (k × D)} {xs : List (k × V)}, RepP K io (p :: N) H l xs → RepP K (io ++ [p]) N H l xs
  | [], _, h => h
  | d :: l, _, h => by
    obtain ⟨v, ys, rfl, a, b⟩ := h
    exact ⟨v, ys, rfl, a.take, RepP.take b⟩
theorem RepN.imp (f : ∀ d v, Rep K io N H d v → Rep K io' N' H' d v) : ∀ {l : List (D × D)} {xs : List (NestedKey × Addr × V)}, RepN K io N H l xs → RepN K io' N' H' l xs
  | [], _, h => h
  | d :: l, _, h => by
    obtain ⟨k, p, v, ys, rfl, hk, a, b, c⟩ := h
    exact ⟨k, p, v, ys, rfl, hk, f _ _ a, f _ _ b, RepN.imp f c⟩
/-- what is true of every datum's representation is true of an object's -/
theorem RepU.imp {a : Addr} (f : ∀ d v, Rep K io N H d v → Rep K io' N' H' d v) (g : ∀ d v, Reps K io N H d v → Reps K io' N' H' d v) (p : ∀ (k : Type) (l : List (k × D)) (xs : List (k × V)), RepP K io N H l xs → RepP K io' N' H' l xs) : ∀ (o : O) (u : HO), RepU K io N H a o u → RepU K io' N' H' a o u
  | .lst _, _, h => by obtain ⟨xs, rfl, r⟩ := h; exact ⟨xs, rfl, g _ _ r⟩
  | .dK _, _, h => by obtain ⟨xs, rfl, r⟩ := h; exact ⟨xs, rfl, p _ _ _ r⟩
  | .dN _, _, h => by obtain ⟨xs, rfl, r⟩ := h; exact ⟨xs, rfl, r.imp f⟩
  | .ins _ _, _, h => by obtain ⟨dx, xs, rfl, r⟩ := h; exact ⟨dx, xs, rfl, p _ _ _ r⟩
  | .tb _, _, h => h
  | .tl _, _, h => by
    obtain ⟨h1, ps, h2, h3, h4⟩ := h
    exact ⟨h1, ps, h2, h3, fun pos cv hc => by
      obtain ⟨c, e, r⟩ := h4 pos cv hc
      exact ⟨c, e, f _ _ r⟩⟩
theorem RepU.mono {a : Addr} (e : Ext io H io' H') (o : O) (u : HO) (h : RepU K io N H a o u) : RepU K io' N H' a o u := RepU.imp (fun _ _ r => r.mono e) (fun _ _ r => r.mono e) (fun _ _ _ r => r.mono e) o u h
theorem RepU.shun {a p : Addr} (hp : H p = none) (o : O) (u : HO) (h : RepU K io N H a o u) : RepU K io (p :: N) H a o u := RepU.imp (fun _ _ r => r.shun hp) (fun _ _ r => r.shun hp) (fun _ _ _ r => r.shun hp) o u h
theorem RepU.weak {a : Addr} (o : O) (u : HO) (h : RepU K io (N' ++ N) H a o u) : RepU K io N H a o u := RepU.imp (fun _ _ r => r.weak) (fun _ _ r => r.weak) (fun _ _ _ r => r.weak) o u h
theorem RepU.take {a p : Addr} (o : O) (u : HO) (h : RepU K io (p :: N) H a o u) : RepU K (io ++ [p]) N H a o u := RepU.imp (fun _ _ r => r.take) (fun _ _ r => r.take) (fun _ _ _ r => r.take) o u h
theorem REn0.mono (e : Ext io H io' H') : ∀ {l : Sl} {s : St}, REn0 K io N H l s → REn0 K io' N H' l s
  | [], _, h => h
  | none :: _, _, h => by obtain ⟨o, r, rfl, q⟩ := h; exact ⟨o, r, rfl, q.mono e⟩
  | some _ :: _, _, h => by obtain ⟨v, r, rfl, a, q⟩ := h; exact ⟨v, r, rfl, a.mono e, q.mono e⟩
theorem RepX.mono {c : Str} {fs : List (Str × D)} {cls : Value} {dd : Option Addr} (e : Ext io H io' H') (hd : ∀ d xs, dd = some d → H d = some (.xd xs) → d ∉ io) (h : RepX K io N H c fs cls dd) : RepX K io' N H' c fs cls dd := by
  obtain ⟨a, b | ⟨d, xs, e1, e2, e3⟩⟩ := h
  · exact ⟨a, .inl b⟩
  · exact ⟨a, .inr ⟨d, xs, e1, e.keep _ _ (hd d xs e1 e2) e2, e3.mono e⟩⟩
theorem REn0.shun {p : Addr} (hp : H p = none) : ∀ {l : Sl} {s : St}, REn0 K io N H l s → REn0 K io (p :: N) H l s
  | [], _, h => h
  | none :: _, _, h => by obtain ⟨o, r, rfl, q⟩ := h; exact ⟨o, r, rfl, q.shun hp⟩
  | some _ :: _, _, h => by obtain ⟨v, r, rfl, a, q⟩ := h; exact ⟨v, r, rfl, a.shun hp, q.shun hp⟩
theorem REn0.get : ∀ {l : Sl} {s : St} {i : Nat} {d : D}, REn0 K io N H l s → l[i]? = some (some d) → ∃ v, s[i]? = some (some v) ∧ Rep K io N H d v
  | [], _, _, _, _, e => by simp at e
  | none :: _, _, 0, _, _, e => by simp at e
  | none :: _, _, i + 1, d, h, e => by
    obtain ⟨o, r, rfl, q⟩ := h
    obtain ⟨v, a, b⟩ := q.get (i := i) (d := d) (by simpa using e)
    exact ⟨v, by simpa using a, b⟩
  | some c :: _, _, 0, d, h, e => by
    obtain ⟨v, r, rfl, a, q⟩ := h
    simp at e
    subst e
    exact ⟨v, rfl, a⟩
  | some _ :: _, _, i + 1, d, h, e => by
    obtain ⟨o, r, rfl, _, q⟩ := h
    obtain ⟨v, a, b⟩ := q.get (i := i) (d := d) (by simpa using e)
    exact ⟨v, by simpa using a, b⟩
theorem REn0.set : ∀ {l : Sl} {s : St} (i : Nat) {d : D} {v : V}, REn0 K io N H l s → Rep K io N H d v → REn0 K io N H (l.set i (some d)) (s.set i (some v))
  | [], _, _, _, _, h, _ => by cases h; simp [REn0]
  | none :: _, _, 0, _, v, h, a => by obtain ⟨o, r, rfl, q⟩ := h; exact ⟨v, r, rfl, a, q⟩
  | none :: _, _, i + 1, _, _, h, a => by obtain ⟨o, r, rfl, q⟩ := h; exact ⟨o, _, rfl, q.set i a⟩
  | some _ :: _, _, 0, _, v, h, a => by obtain ⟨o, r, rfl, _, q⟩ := h; exact ⟨v, r, rfl, a, q⟩
  | some _ :: _, _, i + 1, _, _, h, a => by obtain ⟨o, r, rfl, b, q⟩ := h; exact ⟨o, _, rfl, b, q.set i a⟩
theorem REn0.unset : ∀ {l : Sl} {s : St} (i : Nat) {o : Option V}, REn0 K io N H l s → REn0 K io N H (l.set i none) (s.set i o)
  | [], _, _, _, h => by cases h; simp [REn0]
  | none :: _, _, 0, o, h => by obtain ⟨_, r, rfl, q⟩ := h; exact ⟨o, r, rfl, q⟩
  | none :: _, _, i + 1, _, h => by obtain ⟨o, r, rfl, q⟩ := h; exact ⟨o, _, rfl, q.unset i⟩
  | some _ :: _, _, 0, o, h => by obtain ⟨_, r, rfl, _, q⟩ := h; exact ⟨o, r, rfl, q⟩
  | some _ :: _, _, i + 1, _, h => by obtain ⟨o, r, rfl, b, q⟩ := h; exact ⟨o, _, rfl, b, q.unset i⟩
theorem REn0.len : ∀ {l : Sl} {s : St}, REn0 K io N H l s → s.length = l.length
  | [], _, h => by cases h; rfl
  | none :: _, _, h => by obtain ⟨_, r, rfl, q⟩ := h; simp [q.len]
  | some _ :: _, _, h => by obtain ⟨_, r, rfl, _, q⟩ := h; simp [q.len]
theorem Reps.len : ∀ {l : List D} {xs : List V}, Reps K io N H l xs → xs.length = l.length
  | [], _, h => by cases h; rfl
  | _ :: _, _, h => by obtain ⟨_, r, rfl, _, q⟩ := h; simp [q.len]
theorem Reps.get : ∀ {l : List D} {xs : List V} {i : Nat} {d : D}, Reps K io N H l xs → l[i]? = some d → ∃ v, xs[i]? = some v ∧ Rep K io N H d v
  | [], _, _, _, _, e => by simp at e
  | _ :: _, _, 0, _, h, e => by
    obtain ⟨v, r, rfl, a, q⟩ := h
    simp at e
    subst e
    exact ⟨v, rfl, a⟩
  | _ :: _, _, i + 1, d, h, e => by
    obtain ⟨o, r, rfl, _, q⟩ := h
    obtain ⟨v, a, b⟩ := q.get (i := i) (d := d) (by simpa using e)
    exact ⟨v, by simpa using a, b⟩
theorem Reps.get' : ∀ {l : List D} {xs : List V} {i : Nat} {v : V}, Reps K io N H l xs → xs[i]? = some v → ∃ d, l[i]? = some d ∧ Rep K io N H d v
  | [], _, _, _, h, e => by cases h; simp at e
  | d :: _, _, 0, _, h, e => by
    obtain ⟨v, r, rfl, a, q⟩ := h
    simp at e
    subst e
    exact ⟨d, rfl, a⟩
  | _ :: _, _, i + 1, v, h, e => by
    obtain ⟨o, r, rfl, _, q⟩ := h
    obtain ⟨d, a, b⟩ := q.get' (i := i) (v := v) (by simpa using e)
    exact ⟨d, by simpa using a, b⟩
theorem Reps.app : ∀ {l r : List D} {xs ys : List V}, Reps K io N H l xs → Reps K io N H r ys → Reps K io N H (l ++ r) (xs ++ ys)
  | [], _, _, _, h, g => by cases h; exact g
  | _ :: _, _, _, _, h, g => by
    obtain ⟨v, q, rfl, a, b⟩ := h
    exact ⟨v, _, rfl, a, b.app g⟩
theorem Reps.drop : ∀ (n : Nat) {l : List D} {xs : List V}, Reps K io N H l xs → Reps K io N H (l.drop n) (xs.drop n)
  | 0, _, _, h => h
  | _ + 1, [], _, h => by cases h; simp [Reps]
  | n + 1, _ :: _, _, h => by obtain ⟨v, q, rfl, a, b⟩ := h; simpa using b.drop n
theorem Reps.takeN : ∀ (n : Nat) {l : List D} {xs : List V}, Reps K io N H l xs → Reps K io N H (l.take n) (xs.take n)
  | 0, _, _, _ => by simp [Reps]
  | _ + 1, [], _, h => by cases h; simp [Reps]
  | n + 1, _ :: _, _, h => by obtain ⟨v, q, rfl, a, b⟩ := h; exact ⟨v, _, rfl, a, b.takeN n⟩
theorem Reps.setN : ∀ (n : Nat) {l : List D} {xs : List V} {d : D} {v : V}, Reps K io N H l xs → Rep K io N H d v → Reps K io N H (l.set n d) (xs.set n v)
  | _, [], _, _, _, h, _ => by cases h; simp [Reps]
  | 0, _ :: _, _, _, v, h, r => by obtain ⟨_, q, rfl, a, b⟩ := h; exact ⟨v, q, rfl, r, b⟩
  | n + 1, _ :: _, _, _, _, h, r => by obtain ⟨v, q, rfl, a, b⟩ := h; exact ⟨v, _, rfl, a, b.setN n r⟩
theorem Reps.one {d : D} {v : V} (h : Rep K io N H d v) : Reps K io N H [d] [v] := ⟨v, [], rfl, h, rfl⟩
theorem Reps.rev : ∀ {l : List D} {xs : List V}, Reps K io N H l xs → Reps K io N H l.reverse xs.reverse
  | [], _, h => by cases h; simp [Reps]
  | _ :: _, _, h => by obtain ⟨v, q, rfl, a, b⟩ := h; simpa using b.rev.app (Reps.one a)
theorem Reps.erase : ∀ (n : Nat) {l : List D} {xs : List V}, Reps K io N H l xs → Reps K io N H (l.eraseIdx n) (xs.eraseIdx n)
  | _, [], _, h => by cases h; simp [Reps]
  | 0, _ :: _, _, h => by obtain ⟨v, q, rfl, a, b⟩ := h; exact b
  | n + 1, _ :: _, _, h => by obtain ⟨v, q, rfl, a, b⟩ := h; exact ⟨v, _, rfl, a, b.erase n⟩
theorem Reps.ints : ∀ {ns : List Int} {xs : List V}, Reps K io N H (ns.map D.int) xs → xs = ns.map V.int
  | [], _, h => h
  | n :: ns, _, h => by
    obtain ⟨v, q, rfl, a, b⟩ := h
    rw [show v = V.int n from a, b.ints] <;> rfl
theorem Reps.of_ints : ∀ (ns : List Int), Reps K io N H (ns.map D.int) (ns.map V.int)
  | [] => rfl
  | _ :: ns => ⟨_, _, rfl, rfl, Reps.of_ints ns⟩
theorem RSt.mem (S : RSt K io N H st) {a : Addr} (h : a ∈ io) : ∃ u, H a = some u := by
  obtain ⟨n, hn⟩ := List.mem_iff_getElem?.mp h
  have hl : n < st.length := by rw [← S.len]; exact (List.getElem?_eq_some_iff.mp hn).1
  obtain ⟨b, u, e1, e2, _⟩ := S.ob n _ (List.getElem?_eq_getElem hl)
  rw [hn] at e1
  cases e1
  exact ⟨u, e2⟩
theorem RSt.out (S : RSt K io N H st) {p : Addr} (h : H p = none) : p ∉ io := fun m => by
  obtain ⟨u, e⟩ := S.mem m
  rw [h] at e
  cases e
theorem RSt.mono (S : RSt K io N H st) (e : Ext io H io H') (k : ∀ a ∈ io, H' a = H a) : RSt K io N H' st := ⟨S.len, S.nd, fun n o h => by
  obtain ⟨a, u, e1, e2, e3⟩ := S.ob n o h
  exact ⟨a, u, e1, by rw [k a (List.mem_of_getElem? e1)]; exact e2, e3.mono e⟩, fun a ha z => S.tr a ha (e.trk a z)⟩
theorem RSt.weak (S : RSt K io (N' ++ N) H st) : RSt K io N H st := ⟨S.len, S.nd, fun n o h => by
  obtain ⟨a, u, e1, e2, e3⟩ := S.ob n o h
  exact ⟨a, u, e1, e2, RepU.weak _ _ e3⟩, fun a ha => S.tr a (List.mem_append_right _ ha)⟩
theorem RSt.outN (S : RSt K io N H st) {p : Addr} (h : H p = none) : p ∉ N := fun m => S.tr p m h
/-- a new thing outside the store -/
theorem Ext.new {p : Addr} {u : HO} (hp : H p = none) : Ext io H io (upd H p u) := ⟨⟨[], by simp, by simp⟩, fun q o _ h => by rw [upd_ne (ne_of_none h hp)]; exact h, fun q h => by
  by_cases e : q = p
  · subst e; exact hp
  · rw [upd_ne e] at h; exact h⟩
theorem RSt.new {p : Addr} {u : HO} (S : RSt K io N H st) (hp : H p = none) : RSt K io N (upd H p u) st := S.mono (Ext.new hp) fun a ha => by
  obtain ⟨v, e⟩ := S.mem ha
  rw [upd_ne (ne_of_none e hp)]
/-- the same, shunned from now on -/
theorem RSt.fresh {p : Addr} {u : HO} (S : RSt K io N H st) (hp : H p = none) : RSt K io (p :: N) (upd H p u) st := ⟨S.len, S.nd, fun n o h => by
  obtain ⟨a, v, e1, e2, e3⟩ := S.ob n o h
  exact ⟨a, v, e1, by rw [upd_ne (ne_of_none e2 hp)]; exact e2, (e3.shun hp).mono (Ext.new hp)⟩, fun a ha z => by
  rcases List.mem_cons.mp ha with rfl | ha
  · rw [upd_same] at z; cases z
  · exact S.tr a ha ((Ext.new (io := []) hp).trk a z)⟩
/-- a thing of one's own is taken into the store -/
theorem RSt.push {p : Addr} {u : HO} {o : O} (S : RSt K io (p :: N) H st) (hp : p ∉ io) (hu : H p = some u) (r : RepU K io (p :: N) H p o u) : RSt K (io ++ [p]) N H (st ++ [o]) := by
  refine ⟨by simp [S.len], List.nodup_append.mpr ⟨S.nd, by simp, by simpa using fun a ha (e : a = p) => hp (e ▸ ha)⟩, fun n o' h => ?_, fun a ha => S.tr a (List.mem_cons_of_mem _ ha)⟩
  by_cases hn : n < st.length
  · rw [List.getElem?_append_left hn] at h
    obtain ⟨a, w, e1, e2, e3⟩ := S.ob n o' h
    exact ⟨a, w, by rw [List.getElem?_append_left (by rw [S.len]; exact hn)]; exact e1, e2, e3.take⟩
  · have hn' : n = st.length := by
      have z := (List.getElem?_eq_some_iff.mp h).1
      simp at z
      omega
    subst hn'
    rw [List.getElem?_concat_length] at h
    cases h
    exact ⟨p, u, by rw [← S.len, List.getElem?_concat_length], hu, r.take⟩
theorem Ext.push {p : Addr} (e : Ext io H io' H') (hp : H p = none) : Ext io H (io' ++ [p]) H' := by
  obtain ⟨r, rfl, hr⟩ := e.pre
  exact ⟨⟨r ++ [p], by rw [List.append_assoc], fun a ha => (List.mem_append.mp ha).elim (hr a) fun z => by rw [List.mem_singleton.mp z]; exact hp⟩, e.keep, e.trk⟩
/-- an object of the store is changed -/
theorem RSt.set {n : Nat} {a : Addr} {u : HO} {o : O} (S : RSt K io N H st) (ha : io[n]? = some a) (r : RepU K io N (upd H a u) a o u) : RSt K io N (upd H a u) (st.set n o) ∧ Ext io H io (upd H a u) := by
  have hm : a ∈ io := List.mem_of_getElem? ha
  have ex : Ext io H io (upd H a u) := ⟨⟨[], by simp, by simp⟩, fun p v hp e => by rw [upd_ne fun z => hp (by rw [z]; exact hm)]; exact e, fun p e => by
    by_cases z : p = a
    · subst z; rw [upd_same] at e; cases e
    · rw [upd_ne z] at e; exact e⟩
  refine ⟨⟨by simp [S.len], S.nd, fun m o' h => ?_, fun a ha z => S.tr a ha (ex.trk a z)⟩, ex⟩
  by_cases e : m = n
  · subst e
    have hl : m < st.length := by rw [← S.len]; exact (List.getElem?_eq_some_iff.mp ha).1
    rw [List.getElem?_set_self hl] at h
    cases h
    exact ⟨a, u, ha, upd_same, r⟩
  · rw [List.getElem?_set_ne (fun z => e z.symm)] at h
    obtain ⟨b, w, e1, e2, e3⟩ := S.ob m o' h
    have nb : b ≠ a := fun z => by
      subst z
      exact e ((List.getElem?_inj (List.getElem?_eq_some_iff.mp e1).1 S.nd).mp (e1.trans ha.symm))
    exact ⟨b, w, e1, by rw [upd_ne nb]; exact e2, e3.mono ex⟩
end

/-! ### where one stands: what is wished of exceptions, what holds all the while -/
structure Wi where
  w : WX
  /-- what holds all the while, of the heap and of the slots at pr, that nobody writes -/
  I : List Addr → Hp → St → Prop
  pr : List Nat
  mono : ∀ {io H io' H' s}, Ext io H io' H' → I io H s → I io' H' s
  set : ∀ {io H s i o}, pr.contains i = false → I io H s → I io H (s.set i o)
/-- these slots may be written -/
def Wi.may (W : Wi) (l : List Nat) : Bool := l.all fun i => !W.pr.contains i
theorem Wi.may_of {W : Wi} {l : List Nat} (h : W.may l = true) {i : Nat} (hi : i ∈ l) : W.pr.contains i = false := by
  have := List.all_eq_true.mp h i hi
  simpa using this
def REnv (K : KW) (W : Wi) (io N : List Addr) (H : Hp) (l : Sl) (s : St) : Prop := W.I io H s ∧ REn0 K io N H l s
section
variable {K : KW} {W : Wi} {io io' N : List Addr} {H H' : Hp} {l : Sl} {s : St}
theorem REnv.mono (h : REnv K W io N H l s) (e : Ext io H io' H') : REnv K W io' N H' l s := ⟨W.mono e h.1, REn0.mono e h.2⟩
theorem REnv.get (h : REnv K W io N H l s) {i : Nat} {d : D} (e : l[i]? = some (some d)) : ∃ v, s[i]? = some (some v) ∧ Rep K io N H d v := REn0.get h.2 e
theorem REnv.set (h : REnv K W io N H l s) (i : Nat) {d : D} {v : V} (hi : W.pr.contains i = false) (r : Rep K io N H d v) : REnv K W io N H (l.set i (some d)) (s.set i (some v)) := ⟨W.set hi h.1, REn0.set i h.2 r⟩
theorem REnv.unset (h : REnv K W io N H l s) (i : Nat) {o : Option V} (hi : W.pr.contains i = false) : REnv K W io N H (l.set i none) (s.set i o) := ⟨W.set hi h.1, REn0.unset i h.2⟩
theorem REnv.len (h : REnv K W io N H l s) : s.length = l.length := REn0.len h.2
theorem REnv.shun (h : REnv K W io N H l s) {p : Addr} (hp : H p = none) : REnv K W io (p :: N) H l s := ⟨h.1, REn0.shun hp h.2⟩
/-- the same, nothing wished of exceptions -/
def Wi.inn (W : Wi) : Wi := { W with w := fun _ _ _ _ => False }
/-- the same, another wish -/
def Wi.wi (W : Wi) (Y : WX) : Wi := { W with w := Y }
theorem REnv.inn (h : REnv K W io N H l s) : REnv K W.inn io N H l s := h
end

/-! ### results -/
inductive Rz (A : Type) where
  | ok (a : A) (st : Store) | exc (c : Str) (fs : List (Str × D)) (st : Store) | fail
def Rz.bind {A B : Type} (z : Rz A) (k : A → Store → Rz B) : Rz B := match z with
  | .ok a st => k a st
  | .exc c fs st => .exc c fs st
  | .fail => .fail
abbrev EM (A : Type) := Sl → Store → Rz A
structure Rp (A B : Type) where
  r : KW → Hp → List Addr → List Addr → Hp → A → B → Prop
  back : ∀ {K H0 H1 io N H a b}, (∀ p, H1 p = none → H0 p = none) → r K H1 io N H a b → r K H0 io N H a b
  sh : B → List Addr
def rD : Rp D V := ⟨fun K _ io N H d v => Rep K io N H d v, fun _ h => h, fun _ => []⟩
def rA : Rp (List D) (List V) := ⟨fun K _ io N H d v => Reps K io N H d v, fun _ h => h, fun _ => []⟩
def rE (A : Type) : Rp A A := ⟨fun _ _ _ _ _ a b => a = b, fun _ h => h, fun _ => []⟩
/-- a list that nobody else holds -/
def rL : Rp (List D) V := ⟨fun K H0 io N H l v => ∃ p xs, v = .ref p ∧ H0 p = none ∧ p ∉ io ∧ H p = some (.lst xs) ∧ Reps K io (p :: N) H l xs, fun t ⟨p, xs, a, b, c⟩ => ⟨p, xs, a, t p b, c⟩, fun v => match v with | .ref p => [p] | _ => []⟩
def Post {A B : Type} (K : KW) (R : Rp A B) (io N : List Addr) (H : Hp) (z : Rz A) (Q : B → Hp → Prop) (W : XK) : Prop := match z with
  | .ok a st => ∀ io' H' b, Ext io H io' H' → RSt K io' (R.sh b ++ N) H' st → R.r K H io' N H' a b → Q b H'
  | .exc c fs st => ∀ io' H' cls dd, Ext io H io' H' → RSt K io' N H' st → RepX K io' N H' c fs cls dd → W cls dd H'
  | .fail => False
theorem Post.step {A B : Type} {K : KW} {R : Rp A B} {io io1 N : List Addr} {H H1 : Hp} {z : Rz A} {Q : B → Hp → Prop} {W : XK} (e : Ext io H io1 H1) (h : Post K R io N H z Q W) : Post K R io1 N H1 z Q W := by
  cases z with
  | ok a st => exact fun io' H' b e' S r => h io' H' b (e.trans e') S (R.back e.trk r)
  | exc c fs st => exact fun io' H' cls dd e' S r => h io' H' cls dd (e.trans e') S r
  | fail => exact h
def RG {A B : Type} (K : KW) (R : Rp A B) (W : Wi) (t : St → Hp → (B → Hp → Prop) → Prop) (m : EM A) : Prop :=
  ∀ (io N : List Addr) (H : Hp) (s : St) (l : Sl) (st : Store) (Q : B → Hp → Prop), REnv K W io N H l s → RSt K io N H st → Post K R io N H (m l st) Q (fun c d H' => W.w c d s H') → t s H Q
theorem RG.seq {A B C E : Type} {K : KW} {R : Rp A B} {R2 : Rp C E} {W : Wi} {t : St → Hp → (B → Hp → Prop) → Prop} {m : EM A} (h : RG K R W t m) {io N : List Addr} {H : Hp} {s : St} {l : Sl} {st : Store} (hl : REnv K W io N H l s) (hs : RSt K io N H st)
    {k : A → Store → Rz C} {Q : E → Hp → Prop} {Z : B → Hp → Prop} (p : Post K R2 io N H ((m l st).bind k) Q (fun c d H' => W.w c d s H'))
    (hk : ∀ io' H' a b st', Ext io H io' H' → RSt K io' (R.sh b ++ N) H' st' → R.r K H io' N H' a b → Post K R2 io' N H' (k a st') Q (fun c d H' => W.w c d s H') → Z b H') : t s H Z := by
  refine h io N H s l st Z hl hs ?_
  cases e : m l st with
  | ok a st' =>
    rw [e] at p
    exact fun io' H' b ex S r => hk io' H' a b st' ex S r (Post.step ex p)
  | exc c fs st' =>
    rw [e] at p
    exact p
  | fail =>
    rw [e] at p
    exact p
theorem Post.ok_ {A B : Type} {K : KW} {R : Rp A B} {io N : List Addr} {H : Hp} {a : A} {st : Store} {Q : B → Hp → Prop} {W : XK} {b : B} (p : Post K R io N H (.ok a st) Q W) (S : RSt K io (R.sh b ++ N) H st) (r : R.r K H io N H a b) : Q b H := p io H b (Ext.refl _ _) S r

/-! ### the judgements -/
def ME (X : Cx) (W : Wi) (e : Expr) (m : EM D) : Prop := ∃ t, PE X e t ∧ RG X.kw rD W t m
def ML (X : Cx) (W : Wi) (e : Expr) (m : EM (List D)) : Prop := ∃ t, PE X e t ∧ RG X.kw rL W t m
def MT (X : Cx) (W : Wi) (e : Expr) (m : EM Bool) : Prop := ∃ t, PT X e t ∧ RG X.kw (rE Bool) W t m
def MW (X : Cx) (W : Wi) (e : Expr) (m : EM Bool) : Prop := ∃ t, PW X e t ∧ RG X.kw (rE Bool) W t m
def MA (X : Cx) (W : Wi) (es : List Expr) (m : EM (List D)) : Prop := ∃ t, PA X es t ∧ RG X.kw rA W t m
def MO (X : Cx) (W : Wi) (e : Option Expr) (m : EM (Option Int)) : Prop := ∃ t, PO X e t ∧ RG X.kw (rE (Option Int)) W t m
end Rf
namespace Rf
set_option autoImplicit false
open PySem PySem.Spec L2 PyProof.Rows

/-! ### tuples are made: the very object is known -/
abbrev tobj (its : List Value) : Obj := { cls := .type "tuple", data := .seq its.toArray }
section
variable {X : Cx} {pins : List (Addr × Obj)} {σ : L2.St} {H : Hp} {s : Shared} {pos : Pos}
theorem tup_laid {xs : List V} {its : List Value} {t' : Nat} (I : Inv X pins σ H s) (r : Vals xs its) (hz : xs.length ≤ sizeLine) :
    Inv X pins σ (upd H s.heap.objs.size (.frz (tobj its) (.tup xs))) { s with heap := s.heap.push (tobj its), toks := t' } :=
  I.laid (fun b u e => Heap.get?_push_of_some _ e) (Nat.le_refl _) ⟨Heap.get?_push_size _ rfl, hz, its, r, ⟨_, Heap.get?_push_size _ rfl, rfl, _, rfl⟩⟩
/-- what is asked where a tuple is made -/
def NewT (Q : VK) (H : Hp) (xs : List V) : Prop := ∀ (p : Addr) (o : Obj), o.dict = none → H p = none → Q (.ref p) (upd H p (.frz o (.tup xs)))
theorem NewT.at {xs : List V} {its : List Value} {t' : Nat} {Q : VK} (q : NewT Q H xs) (I : Inv X pins σ H s) (r : Vals xs its) (hz : xs.length ≤ sizeLine) : EP X pins σ Q (.ref s.heap.objs.size) { s with heap := s.heap.push (tobj its), toks := t' } :=
  ⟨.ref s.heap.objs.size, _, tup_laid I r hz, rfl, q _ _ rfl (I.hok.fresh (Nat.le_refl _))⟩
def tTupF (t : TA) : TE := fun σ H Q => t σ H fun xs H1 => xs.length ≤ sizeLine ∧ NewT Q H1 xs
theorem pe_tupF {es : List Expr} {t : TA} {x1} (h : PA X es t) : PE X (.Tuple es x1 pos) (tTupF t) := by
  refine ⟨fun pins s σ H Q I hq => wpAny_Tuple_spliced (thn (h.run pos pins s σ H _ I hq) fun us s1 hh => ?_)⟩
  obtain ⟨xs, H1, I1, r, z, q⟩ := hh
  refine ⟨by rw [← r.length]; exact z, ?_⟩
  have g := NewT.at (t' := s1.toks) q I1 r z
  exact g
def rCatF (K : PySem.W.Frag) : R2 := fun x y H Q => ∃ a b xs ys, x = .ref a ∧ y = .ref b ∧ SqT K H a xs ∧ SqT K H b ys ∧ xs.length + ys.length ≤ sizeLine ∧
  (xs = [] → Q (.ref b) H) ∧ (xs ≠ [] → ys = [] → Q (.ref a) H) ∧ (xs ≠ [] → ys ≠ [] → NewT Q H (xs ++ ys))
theorem op_catF : OpR X (binaryOp .Add) (rCatF X.K) := by
  rintro pins s σ H x y v u Q I rx ry ⟨a, b, xs, ys, rfl, rfl, ha, hb, hz, q0, q1, q2⟩
  obtain ⟨i1, r1, p1, _⟩ := I.tuple ha
  obtain ⟨i2, r2, p2, _⟩ := I.tuple hb
  by_cases hx : xs = []
  · subst hx
    cases rx; cases ry; cases r1
    exact cat_tup0 p1 p2 ⟨.ref b, H, I, rfl, q0 rfl⟩
  · cases rx; cases ry
    refine HT.cat_tup p1 p2 (fun z => hx (r1.nil_iff.mp z)) (fun z => ⟨.ref a, H, I, rfl, q1 hx (r2.nil_iff.mp z)⟩) (fun z => ?_) (by rw [← r1.length, ← r2.length]; exact hz)
    exact NewT.at (t' := s.toks) (q2 hx fun w => z (r2.nil_iff.mpr w)) I (r1.append r2) (by rw [List.length_append]; exact hz)
def rSlF (K : PySem.W.Frag) : V → Option Int → Option Int → Hp → VK → Prop := fun x lo hi H Q => ∃ a xs, x = .ref a ∧ SqT K H a xs ∧
  (HT.sIx xs.length 0 lo = 0 ∧ HT.sIx xs.length xs.length hi = xs.length → Q (.ref a) H) ∧ (¬ (HT.sIx xs.length 0 lo = 0 ∧ HT.sIx xs.length xs.length hi = xs.length) → NewT Q H (cutV xs lo hi))
theorem sl_tupF : SlR X (rSlF X.K) := by
  rintro pins s σ H x v vl vu lo hi sl Q I rx hs pl pu ⟨a, xs, rfl, hx, q1, q2⟩
  cases rx
  obtain ⟨its, rr, ht, hz⟩ := I.tuple hx
  have hsz : its.toArray.size = xs.length := by rw [List.size_toArray]; exact rr.length.symm
  refine ⟨"tuple", _, PyProof.Rows.slot_tuple_getitem.lookup, ht.typeIs, ?_⟩
  by_cases hw : HT.sIx xs.length 0 lo = 0 ∧ HT.sIx xs.length xs.length hi = xs.length
  · exact getItem_tuple_whole ht hs pl pu (by rw [hsz]; exact hw) ⟨.ref a, H, I, rfl, q1 hw⟩
  · refine HT.getItem_tuple_cut ht hs pl pu (by rw [hsz]; exact hw) ?_ (by rw [hsz]; exact hz)
    rw [hsz]
    exact NewT.at (t' := s.toks) (q2 hw) I ((rr.drop _).take _) (Nat.le_trans (cutV_length xs lo hi) hz)
def rTupF (K : PySem.W.Frag) : List V → Hp → VK → Prop := fun xs H Q => ∃ p ys, xs = [.ref p] ∧ ((SqL K H p ys ∧ NewT Q H ys) ∨ (SqT K H p ys ∧ Q (.ref p) H))
theorem call_tupF : CallR X (.type "tuple") (rTupF X.K) := by
  rintro pins s σ H xs us Q I r ⟨p, ys, rfl, h⟩
  rw [Vals.ref1 r]
  rcases h with ⟨hq, q⟩ | ⟨hq, q⟩
  · obtain ⟨its, r', pl, hz⟩ := I.list hq
    have hlen := r'.length
    refine call_tuple_list pl.isList (fun h' kp => ?_) (by simp only [List.size_toArray] <;> omega)
    exact NewT.at (s := { s with heap := h' }) (t' := s.toks) q (I.kept (t' := s.toks) kp) r' hz
  · obtain ⟨its, _, pl, _⟩ := I.tuple hq
    exact call_tuple_same pl ⟨.ref p, H, I, rfl, q⟩
/-- t * 1 is t itself -/
theorem tuple_mul1 (l : Addr) (items : Array Value) (n : Nat) (dd : Option Addr) (sl : Array (Option Value)) (u : Tok) :
    Meets (Builtin.«tuple.__mul__» ⟨[.ref l, .int 1 u], []⟩) (fun _ R s => s.heap.get? l = some { cls := .type "tuple", dict := dd, data := .seq items n, slots := sl } ∧ R (.ok (.ret (Value.ref l))) s) :=
  .of_wp fun prog w A R s hh => by
    obtain ⟨hp, g, d, tk, os⟩ := s
    obtain ⟨hl, hr⟩ := hh
    have f1 := AutoSeq1.idx_int
    have c1 : (items.isEmpty || (1 : Int) == 1) = true := by simp
    wp_walk using wpAny_loadPart' hl
    repeat (first
      | (refine wpAny_ite_false (by decide) ?_; wp_walk using wpAny_loadPart' hl)
      | (refine wpAny_ite_true (decide_eq_true c1) ?_; wp_walk using wpAny_loadPart' hl))
    exact ⟨_, rfl, hr⟩
theorem flat_len (its : List Value) : ∀ m : Nat, (List.replicate m its).flatten.length = m * its.length
  | 0 => by simp
  | m + 1 => by rw [List.replicate_succ, List.flatten_cons, List.length_append, flat_len its m, Nat.succ_mul, Nat.add_comm]
theorem vals_rep {xs : List V} {us : List Value} (r : Vals xs us) : ∀ m : Nat, Vals (List.replicate m xs).flatten (List.replicate m us).flatten
  | 0 => .nil
  | m + 1 => by
    rw [List.replicate_succ, List.replicate_succ, List.flatten_cons, List.flatten_cons]
    exact Vals.append r (vals_rep r m)
def rRepF (K : PySem.W.Frag) : R2 := fun x y H Q => ∃ l k xs, x = .ref l ∧ y = .int k ∧ SqT K H l xs ∧ xs ≠ [] ∧ xs.length ≤ 1000 ∧ ((k = 1 ∧ Q (.ref l) H) ∨ (2 ≤ k ∧ k ≤ 1000 ∧ NewT Q H (List.replicate k.toNat xs).flatten))
theorem op_repF : OpR X (binaryOp .Mult) (rRepF X.K) := by
  rintro pins s σ H x y v u Q I rx ry ⟨l, k, xs, rfl, rfl, hT, hne, hz, hk⟩
  cases rx
  obtain ⟨t, rfl⟩ := ry
  obtain ⟨its, r, ⟨⟨cls, dd, data, sl⟩, ho, hc, n, hd⟩, hs⟩ := I.tuple hT
  simp only at hc hd
  subst hc hd
  have typ : s.TypeIs (.ref l) "tuple" := ⟨_, ho, rfl⟩
  have le0 : its.length = xs.length := r.length.symm
  rcases hk with ⟨rfl, q⟩ | ⟨h1, h2, q⟩
  · refine wpAny_binaryOp_repeat_ref (T := "tuple") (U := "int") (by decide) typ (fun s' => typeIs_int s' 1 t) noFill_tuple_mul F.fills_int_mul F.slot_int_rmul repeat_tuple F.slot_int_index.lookup
      (call_meets F.slot_int_rmul (typeIs_int s 1 t) F.entry_int_rmul (F.args_int_rmul_2 _ _) (int_rmul_tuple 1 t l its.toArray n dd sl)
        ⟨ho, rfl, typ, call_meets F.slot_tuple_mul typ F.entry_tuple_mul (F.args_tuple_mul_2 _ _) (tuple_mul1 l its.toArray n dd sl t) ⟨ho, ?_⟩⟩)
    exact ⟨.ref l, H, I, rfl, q⟩
  · have ne0 : its ≠ [] := fun e => by
      rw [e] at le0
      exact hne (List.eq_nil_of_length_eq_zero le0.symm)
    have em : its.toArray.isEmpty = false := by
      cases its with
      | nil => exact absurd rfl ne0
      | cons _ _ => rfl
    have sz : its.toArray.size = xs.length := by rw [List.size_toArray, le0]
    have big : ((its.toArray.size : Nat) : Int) * k ≤ 1000000 := by
      rw [sz]
      have z : ((xs.length : Nat) : Int) * k ≤ 1000 * k := Int.mul_le_mul_of_nonneg_right (by omega) (by omega)
      omega
    have prd : k.toNat * xs.length ≤ 1000 * 1000 := Nat.mul_le_mul (by omega) hz
    have fl : (List.replicate k.toNat its).flatten.length ≤ sizeLine := by
      rw [flat_len, le0, sizeLine_eq]
      omega
    have eq0 : (List.foldl (fun x1 x2 => x1 ++ x2) #[] (List.replicate k.toNat its.toArray)) = (List.replicate k.toNat its).flatten.toArray := L2.size_rep its k.toNat
    have no1 : (k == 1) = false := beq_eq_false_iff_ne.mpr (by omega)
    refine wpAny_binaryOp_repeat_ref (T := "tuple") (U := "int") (by decide) typ (fun s' => typeIs_int s' k t) noFill_tuple_mul F.fills_int_mul F.slot_int_rmul repeat_tuple F.slot_int_index.lookup
      (call_meets F.slot_int_rmul (typeIs_int s k t) F.entry_int_rmul (F.args_int_rmul_2 _ _) (int_rmul_tuple k t l its.toArray n dd sl)
        ⟨ho, rfl, typ, call_meets F.slot_tuple_mul typ F.entry_tuple_mul (F.args_tuple_mul_2 _ _) (tuple_mulW l its.toArray n dd sl k t (by rw [decide_eq_false (by omega), decide_eq_false (by omega)] <;> rfl) (by rw [em, no1] <;> rfl)
          (by rw [em, decide_eq_false (by omega)] <;> rfl) (by omega) (by unfold Builtin.Tuple.tupleTooMany; rw [sizeLine_eq]; exact decide_eq_false (by omega)) (by rw [eq0, List.size_toArray]; exact fl)) ⟨ho, ?_⟩⟩)
    rw [eq0]
    exact NewT.at (t' := s.toks) q I (vals_rep r _) (by rw [show (List.replicate k.toNat xs).flatten.length = k.toNat * xs.length from by simp, sizeLine_eq]; omega)
def tTupRgF (te : L2.St → Hp → (Int → Int → Hp → Prop) → Prop) : TE := fun σ H Q => te σ H fun a b H1 => RgOk a b ∧ NewT Q H1 (rgV a b)
theorem pe_tupRgF {e : Expr} {te : L2.St → Hp → (Int → Int → Hp → Prop) → Prop} {p : Pos} (hc : X.calm = true) (hg : Gl X "tuple") (hm : X.mg "tuple" = none) (he : PRg X e te) (na : starEach [e] X.env = (false, eval e X.env) :: starEach [] X.env := by rfl) :
    PE X (.Call (.Name "tuple" p) [e] [] pos) (tTupRgF te) := by
  refine ⟨fun pins s σ H Q I h => Call_ (ld_blt I hg hm boot_tuple (PyProof.Rows.callWith_type1 (args_cons (thn (he pins s σ H _ I h) fun x s1 hh => args_nil ?_) na) na))⟩
  obtain ⟨r, a, b, t, u, v, H1, rfl, hr, I1, ⟨b1, b2, b3, b4, b5⟩, q⟩ := hh
  refine call_tuple_range (n := (b - a).toNat) (I1.ok.hd hc) hr (small_one b1 b2 b3 b4) (rangeSize_nat a b) b5 fun h' tk acc hk hi => ?_
  have g := NewT.at (s := { s1 with heap := h', toks := tk }) (t' := tk) q (I1.kept hk) (vals_rg hi) (by rw [rgV_length, sizeLine_eq]; omega)
  rw [show tobj acc.toList = { cls := .type "tuple", data := .seq acc } from by simp [tobj]] at g
  exact g
end
end Rf
namespace Rf
set_option autoImplicit false
open PySem PySem.Spec L2

section
variable {K : KW} {X : Cx} {W : Wi} {pos : Pos}

/-! ### names and constants -/
def vr (i : Nat) : EM D := fun l st => match l[i]? with
  | some (some d) => .ok d st
  | _ => .fail
def cst (d : D) : EM D := fun _ st => .ok d st
theorem rg_var (i : Nat) : RG K rD W (tVar i) (vr i) := by
  intro io N H s l st Q hl hs p
  unfold vr at p
  split at p
  · rename_i d e
    obtain ⟨v, e1, r⟩ := hl.get e
    exact ⟨v, e1, p io H v (Ext.refl _ _) hs r⟩
  · exact p.elim
theorem rg_c {d : D} {v : V} (h : ∀ io N H, Rep K io N H d v) : RG K rD W (tC v) (cst d) := fun io N H s l st Q hl hs p => p io H v (Ext.refl _ _) hs (h io N H)
theorem me_var (i : Nat) {x : Str} (hN : X.N[i]? = some x := by rfl) (hv : Vis X.env.scope x := by first | exact Or.inl rfl | exact Or.inr (Or.inl rfl) | exact Or.inr (Or.inr rfl)) (hd : (x == ("__debug__" : Str)) = false := by decide)
    (hcd : (x == ("__classdict__" : Str)) = false := by decide) : ME X W (.Name x pos) (vr i) := ⟨_, pe_var hN hv hd hcd, rg_var i⟩
theorem me_int {i : Int} {j} : ME X W (.Constant (.int i) j pos) (cst (.int i)) := ⟨_, pe_int, rg_c fun _ _ _ => rfl⟩
theorem me_bl {b : Bool} {j} : ME X W (.Constant (.bool b) j pos) (cst (.bl b)) := ⟨_, pe_bl, rg_c fun _ _ _ => rfl⟩
theorem me_non {j} : ME X W (.Constant .none j pos) (cst .non) := ⟨_, pe_non, rg_c fun _ _ _ => rfl⟩
theorem me_str {x : Str} {j} : ME X W (.Constant (.str x) j pos) (cst (.str x)) := ⟨_, pe_str, rg_c fun _ _ _ => rfl⟩
theorem me_gint {x : Str} {i : Int} (hm : ∃ t, X.mg x = some (.int i t)) (hg : Gl X x := by rfl) (hd : (x == ("__debug__" : Str)) = false := by decide) : ME X W (.Name x pos) (cst (.int i)) := by
  obtain ⟨t, e⟩ := hm
  exact ⟨_, pe_glob (v := .int i) hg e ⟨t, rfl⟩ hd, rg_c fun _ _ _ => rfl⟩

/-! ### argument lists, displays -/
def nilA : EM (List D) := fun _ st => .ok [] st
def consA (a : EM D) (r : EM (List D)) : EM (List D) := fun l st => (a l st).bind fun d st1 => (r l st1).bind fun ds st2 => .ok (d :: ds) st2
theorem ma_nil : MA X W [] nilA := ⟨_, pa_nil, fun io N H s l st Q hl hs p => p io H [] (Ext.refl _ _) hs rfl⟩
theorem ma_cons {e : Expr} {es : List Expr} {a : EM D} {r : EM (List D)} (ha : ME X W e a) (hr : MA X W es r) (hs : starEach (e :: es) X.env = (false, eval e X.env) :: starEach es X.env := by rfl) : MA X W (e :: es) (consA a r) := by
  obtain ⟨t1, p1, r1⟩ := ha
  obtain ⟨t2, p2, r2⟩ := hr
  refine ⟨_, pa_cons p1 p2 hs, fun io N H s l st Q hl hs p => ?_⟩
  refine r1.seq hl hs p fun io1 H1 d v st1 e1 S1 q1 p1 => ?_
  refine r2.seq (hl.mono e1) S1 p1 fun io2 H2 ds vs st2 e2 S2 q2 p2 => ?_
  exact p2 io2 H2 _ (Ext.refl _ _) S2 ⟨v, vs, rfl, q1.mono e2, q2⟩
def small (n : Nat) : Bool := Nat.ble n 1000000
theorem small_ok {n : Nat} (h : small n = true) : n ≤ sizeLine := Nat.le_trans (Nat.le_of_ble_eq_true h) (by rw [sizeLine_eq]; decide)
theorem small_lt {n : Nat} (h : small n = true) : n < sizeLine := Nat.lt_of_le_of_lt (Nat.le_of_ble_eq_true h) (by rw [sizeLine_eq]; decide)
/-- a display's items -/
def disp (a : EM (List D)) : EM (List D) := fun l st => (a l st).bind fun ds st1 => if small ds.length = true then .ok ds st1 else .fail
def tupM (a : EM (List D)) : EM D := fun l st => (disp a l st).bind fun ds st1 => .ok (.tup ds) st1
/-- a temporary list is held as a value -/
def fz (a : EM (List D)) : EM D := fun l st => (a l st).bind fun ds st1 => .ok (.fl ds) st1
/-- a temporary list is laid into the store -/
def al (a : EM (List D)) : EM D := fun l st => (a l st).bind fun ds st1 => .ok (.ref st1.length) (st1 ++ [.lst ds])
theorem Rz.bind_bind {A B C : Type} (z : Rz A) (f : A → Store → Rz B) (g : B → Store → Rz C) : (z.bind f).bind g = z.bind fun a st => (f a st).bind g := by
  cases z <;> rfl
theorem post_if {A B : Type} {R : Rp A B} {io N : List Addr} {H : Hp} {c : Prop} [Decidable c] {z : Rz A} {Q : B → Hp → Prop} {Y : XK} (p : Post K R io N H (if c then z else .fail) Q Y) : c ∧ Post K R io N H z Q Y := by
  by_cases h : c
  · rw [if_pos h] at p; exact ⟨h, p⟩
  · rw [if_neg h] at p; exact p.elim
/-- a tuple that is made, held by value -/
theorem post_tup {io N : List Addr} {H : Hp} {st : Store} {l : List D} {xs : List V} {Q : VK} {Y : XK} (p : Post K rD io N H (.ok (.tup l) st) Q Y) (S : RSt K io N H st) (r : Reps K io N H l xs) : NewT Q H xs := fun a o ho ha =>
  p io _ _ (Ext.new ha) (S.new ha) ⟨a, xs, rfl, ⟨S.out ha, S.outN ha, .at ho⟩, r.mono (Ext.new ha)⟩
theorem me_tup {es : List Expr} {a : EM (List D)} {x1} (ha : MA X W es a) : ME X W (.Tuple es x1 pos) (tupM a) := by
  obtain ⟨t, p, r⟩ := ha
  refine ⟨_, pe_tupF p, fun io N H s l st Q hl hs p => ?_⟩
  unfold tupM disp at p
  rw [Rz.bind_bind] at p
  refine r.seq hl hs p fun io1 H1 ds vs st1 e1 S1 q1 p1 => ?_
  by_cases hc : small ds.length = true
  · rw [if_pos hc] at p1
    exact ⟨by rw [q1.len]; exact small_ok hc, post_tup p1 S1 q1⟩
  · rw [if_neg hc] at p1
    exact p1.elim
theorem fresh_list {io N : List Addr} {H H0 : Hp} {st : Store} {l : List D} {xs : List V} {p : Addr} (S : RSt K io N H st) (q : Reps K io N H l xs) (hp : H p = none) (t : ∀ p, H p = none → H0 p = none) :
    RSt K io (p :: N) (upd H p (.lst xs)) st ∧ rL.r K H0 io N (upd H p (.lst xs)) l (.ref p) :=
  ⟨S.fresh hp, ⟨p, xs, rfl, t p hp, S.out hp, upd_same, (q.shun hp).mono (Ext.new hp)⟩⟩
theorem ml_disp {es : List Expr} {a : EM (List D)} (ha : MA X W es a) : ML X W (.List es pos) (disp a) := by
  obtain ⟨t, p, r⟩ := ha
  refine ⟨_, pe_lst p, fun io N H s l st Q hl hs p => ?_⟩
  unfold disp at p
  refine r.seq hl hs p fun io1 H1 ds vs st1 e1 S1 q1 p1 => ?_
  obtain ⟨hc, p1⟩ := post_if p1
  refine ⟨by rw [q1.len]; exact small_ok hc, fun a ha => ?_⟩
  obtain ⟨S2, q2⟩ := fresh_list S1 q1 ha fun _ h => h
  exact p1 io1 _ _ (Ext.new ha) S2 q2
theorem rg_fz {t : TE} {a : EM (List D)} (r : RG K rL W t a) : RG K rD W t (fz a) := by
  intro io N H s l st Q hl hs p
  refine r.seq hl hs p fun io1 H1 ds v st1 e1 S1 q1 p1 => ?_
  obtain ⟨a, xs, rfl, h0, h1, h2, h3⟩ := q1
  exact p1 io1 H1 _ (Ext.refl _ _) (RSt.weak (N' := [a]) S1) ⟨a, xs, rfl, ⟨h1, hs.outN h0, h2⟩, Reps.weak (N' := [a]) _ _ h3⟩
theorem rg_al {t : TE} {a : EM (List D)} (r : RG K rL W t a) : RG K rD W t (al a) := by
  intro io N H s l st Q hl hs p
  unfold al at p
  refine r io N H s l st Q hl hs ?_
  cases e : a l st with
  | ok ds st1 =>
    rw [e] at p
    intro io1 H1 v e1 S1 q1
    obtain ⟨a, xs, rfl, h0, h1, h2, h3⟩ := q1
    refine p (io1 ++ [a]) H1 _ (e1.push h0) (S1.push h1 h2 ⟨xs, rfl, h3⟩) ⟨a, ?_, rfl⟩
    rw [← (S1.len), List.getElem?_concat_length]
  | exc c fs st1 =>
    rw [e] at p
    exact p
  | fail =>
    rw [e] at p
    exact p
theorem me_fz {e : Expr} {a : EM (List D)} (h : ML X W e a) : ME X W e (fz a) := by
  obtain ⟨t, p, r⟩ := h
  exact ⟨t, p, rg_fz r⟩
theorem me_al {e : Expr} {a : EM (List D)} (h : ML X W e a) : ME X W e (al a) := by
  obtain ⟨t, p, r⟩ := h
  exact ⟨t, p, rg_al r⟩

/-! ### lists by value or in the store -/
def lof (d : D) (st : Store) : Option (List D) := match d with
  | .fl l => some l
  | .rd l => some l
  | .ref n => match st[n]? with
    | some (.lst l) => some l
    | _ => none
  | _ => none
theorem lof_ok {io N : List Addr} {H : Hp} {st : Store} {d : D} {v : V} {l : List D} (S : RSt K io N H st) (r : Rep K io N H d v) (h : lof d st = some l) : ∃ p xs, v = .ref p ∧ SqL K H p xs ∧ Reps K io N H l xs := by
  unfold lof at h
  split at h
  · cases h
    obtain ⟨p, xs, rfl, ⟨_, _, c⟩, q⟩ := r
    exact ⟨p, xs, rfl, SqL.of c, q⟩
  · cases h
    obtain ⟨p, xs, rfl, c, q⟩ := r
    rcases c with ⟨_, _, c | ⟨o, c⟩⟩ | c
    · exact ⟨p, xs, rfl, SqL.of c, q⟩
    · exact ⟨p, xs, rfl, .inl (.inr ⟨o, c⟩), q⟩
    · exact ⟨p, xs, rfl, c H, q⟩
  · split at h
    · rename_i l' e
      cases h
      obtain ⟨a, e1, rfl⟩ := r
      obtain ⟨b, u, e2, e3, xs, rfl, e4⟩ := S.ob _ _ e
      rw [e1] at e2
      cases e2
      exact ⟨a, xs, rfl, SqL.of e3, e4⟩
    · cases h
  · cases h
/-- a list that is tracked as such (no locked one) -/
def lofM (d : D) (st : Store) : Option (List D) := match d with
  | .fl l => some l
  | .ref n => match st[n]? with
    | some (.lst l) => some l
    | _ => none
  | _ => none
theorem lofM_ok {io N : List Addr} {H : Hp} {st : Store} {d : D} {v : V} {l : List D} (S : RSt K io N H st) (r : Rep K io N H d v) (h : lofM d st = some l) : ∃ p xs, v = .ref p ∧ H p = some (.lst xs) ∧ Reps K io N H l xs := by
  unfold lofM at h
  split at h
  · cases h
    obtain ⟨p, xs, rfl, ⟨_, _, c⟩, q⟩ := r
    exact ⟨p, xs, rfl, c, q⟩
  · split at h
    · rename_i l' e
      cases h
      obtain ⟨a, e1, rfl⟩ := r
      obtain ⟨b, u, e2, e3, xs, rfl, e4⟩ := S.ob _ _ e
      rw [e1] at e2
      cases e2
      exact ⟨a, xs, rfl, e3, e4⟩
    · cases h
  · cases h
theorem tup_ok {io N : List Addr} {H : Hp} {v : V} {l : List D} (r : Rep K io N H (.tup l) v) : ∃ p xs, v = .ref p ∧ SqT K H p xs ∧ Reps K io N H l xs := by
  obtain ⟨p, xs, rfl, ⟨_, _, c⟩, q⟩ := r
  exact ⟨p, xs, rfl, c.sq, q⟩
theorem tupw_ok {io N : List Addr} {H : Hp} {v : V} {l : List D} (r : Rep K io N H (.tw l) v) : ∃ p xs, v = .ref p ∧ SqT K H p xs ∧ Reps K io N H l xs := by
  obtain ⟨p, xs, rfl, ⟨_, _, c⟩, q⟩ := r
  exact ⟨p, xs, rfl, SqT.of c, q⟩
/-- a tuple or a list -/
def sqof (d : D) (st : Store) : Option (List D) := match d with
  | .tup l => some l
  | d => lof d st
theorem sqof_ok {io N : List Addr} {H : Hp} {st : Store} {d : D} {v : V} {l : List D} (S : RSt K io N H st) (r : Rep K io N H d v) (h : sqof d st = some l) : ∃ p xs, v = .ref p ∧ (SqL K H p xs ∨ SqT K H p xs) ∧ Reps K io N H l xs := by
  unfold sqof at h
  split at h
  · cases h
    obtain ⟨p, xs, e, c, q⟩ := tup_ok r
    exact ⟨p, xs, e, .inr c, q⟩
  · obtain ⟨p, xs, e, c, q⟩ := lof_ok S r h
    exact ⟨p, xs, e, .inl c, q⟩

/-! ### operators by values -/
def OpM (K : KW) (r : R2) (f : D → D → Store → Rz D) : Prop := ∀ (io N : List Addr) (H : Hp) (x y : V) (d e : D) (st : Store) (Q : VK) (Y : XK), RSt K io N H st → Rep K io N H d x → Rep K io N H e y → Post K rD io N H (f d e st) Q Y → r x y H Q
def b2 {A : Type} (f : D → D → Store → Rz A) (a b : EM D) : EM A := fun l st => (a l st).bind fun d st1 => (b l st1).bind fun e st2 => f d e st2
theorem rg_op {r : R2} {f : D → D → Store → Rz D} {ta tb : TE} {a b : EM D} (h : OpM K r f) (h1 : RG K rD W ta a) (h2 : RG K rD W tb b) : RG K rD W (tOp r ta tb) (b2 f a b) := fun io N H s l st Q hl hs p =>
  h1.seq hl hs p fun io1 H1 d v st1 e1 S1 q1 p1 => h2.seq (hl.mono e1) S1 p1 fun io2 H2 e w st2 e2 S2 q2 p2 => h io2 N H2 v w d e st2 Q _ S2 (q1.mono e2) q2 p2
theorem me_op {op : Operator} {r : R2} {f : D → D → Store → Rz D} {ea eb : Expr} {a b : EM D} (ho : OpR X (binaryOp op) r) (h : OpM X.kw r f) (h1 : ME X W ea a) (h2 : ME X W eb b) : ME X W (.BinOp ea op eb pos) (b2 f a b) := by
  obtain ⟨t1, p1, r1⟩ := h1
  obtain ⟨t2, p2, r2⟩ := h2
  exact ⟨_, pe_op ho p1 p2, rg_op h r1 r2⟩
theorem me_cmp {op : CmpOp} {r : R2} {f : D → D → Store → Rz D} {ea eb : Expr} {a b : EM D} (ho : OpR X (compareOp op) r) (h : OpM X.kw r f) (hm : behindInMarks op eb = false) (h1 : ME X W ea a) (h2 : ME X W eb b) : ME X W (.Compare ea [op] [eb] pos) (b2 f a b) := by
  obtain ⟨t1, p1, r1⟩ := h1
  obtain ⟨t2, p2, r2⟩ := h2
  exact ⟨_, pe_cmpR ho p1 p2 hm, rg_op h r1 r2⟩
/-- a bool as a test -/
def tst (a : EM D) : EM Bool := fun l st => (a l st).bind fun d st1 => match d with
  | .bl b => .ok b st1
  | _ => .fail
theorem rg_tst {t : TE} {a : EM D} (h : RG K rD W t a) : RG K (rE Bool) W (fun s H Q => t s H fun x H' => ∃ k, x = .bl k ∧ Q k H') (tst a) := fun io N H s l st Q hl hs p =>
  h.seq hl hs p fun io1 H1 d v st1 e1 S1 q1 p1 => by
    cases d with
    | bl b => exact ⟨b, q1, p1 io1 H1 b (Ext.refl _ _) S1 rfl⟩
    | _ => exact p1.elim
theorem mt_cmp {op : CmpOp} {r : R2} {f : D → D → Store → Rz D} {ea eb : Expr} {a b : EM D} (ho : OpR X (compareOp op) r) (h : OpM X.kw r f) (hm : behindInMarks op eb = false) (h1 : ME X W ea a) (h2 : ME X W eb b) : MT X W (.Compare ea [op] [eb] pos) (tst (b2 f a b)) := by
  obtain ⟨t1, p1, r1⟩ := h1
  obtain ⟨t2, p2, r2⟩ := h2
  exact ⟨_, pt_cmpR ho p1 p2 hm, rg_tst (rg_op h r1 r2)⟩
/-- an expression that gives a bool (a call, a value) as a test -/
theorem mt_val {e : Expr} {a : EM D} (h : ME X W e a) (he : ∀ whole, isTrue e X.env whole = (do let v ← whole; standAt e.pos; holding [v] (truthy v)) := by intro _; rfl) : MT X W e (tst a) := by
  obtain ⟨t, p, r⟩ := h
  exact ⟨_, pt_val p he, rg_tst r⟩

/-! ### numbers, texts, tuples -/
theorem post_val {io N : List Addr} {H : Hp} {d : D} {st : Store} {Q : VK} {Y : XK} {v : V} (p : Post K rD io N H (.ok d st) Q Y) (S : RSt K io N H st) (r : Rep K io N H d v) : Q v H := p io H v (Ext.refl _ _) S r
def addM (d e : D) (st : Store) : Rz D := match d, e with
  | .int i, .int j => .ok (.int (i + j)) st
  | .str x, .str y => if small (x.length + y.length) = true then .ok (.str (x ++ y)) st else .fail
  | .tup a, .tup b => if small (a.length + b.length) = true then .ok (.tup (a ++ b)) st else .fail
  | _, _ => .fail
theorem opm_add : OpM K (fun x y H Q => rI0 (fun i j => .int (i + j)) x y H Q ∨ ((∃ i j, x = .str i ∧ y = .str j ∧ i.length + j.length ≤ sizeLine ∧ Q (.str (i ++ j)) H) ∨ rCatF K x y H Q)) addM := by
  intro io N H x y d e st Q Y S r1 r2 p
  unfold addM at p
  split at p
  · exact .inl ⟨_, _, r1, r2, post_val p S rfl⟩
  · obtain ⟨hc, p⟩ := post_if p
    exact .inr (.inl ⟨_, _, r1, r2, small_ok hc, post_val p S rfl⟩)
  · rename_i la lb
    obtain ⟨hc, p⟩ := post_if p
    obtain ⟨a, xs', rfl, ca', qa'⟩ := tup_ok r1
    obtain ⟨b, ys', rfl, cb', qb'⟩ := tup_ok r2
    refine .inr (.inr ⟨a, b, xs', ys', rfl, rfl, ca', cb', by rw [qa'.len, qb'.len]; exact small_ok hc, fun h => ?_, fun _ h => ?_, fun _ _ => ?_⟩)
    · subst h
      have : la = [] := by have z := qa'.len; simp at z; exact List.eq_nil_of_length_eq_zero z.symm
      subst this
      exact post_val p S r2
    · subst h
      have : lb = [] := by have z := qb'.len; simp at z; exact List.eq_nil_of_length_eq_zero z.symm
      subst this
      rw [List.append_nil] at p
      exact post_val p S r1
    · exact post_tup p S (qa'.app qb')
  · exact p.elim
theorem me_add {ea eb : Expr} {a b : EM D} (h1 : ME X W ea a) (h2 : ME X W eb b) : ME X W (.BinOp ea .Add eb pos) (b2 addM a b) := me_op (op_add.or (op_add_str.or op_catF)) opm_add h1 h2
def subM (d e : D) (st : Store) : Rz D := match d, e with
  | .int i, .int j => .ok (.int (i - j)) st
  | _, _ => .fail
theorem me_sub {ea eb : Expr} {a b : EM D} (h1 : ME X W ea a) (h2 : ME X W eb b) : ME X W (.BinOp ea .Sub eb pos) (b2 subM a b) := me_op op_sub (by
  intro io N H x y d e st Q Y S r1 r2 p
  unfold subM at p
  split at p
  · exact ⟨_, _, r1, r2, post_val p S rfl⟩
  · exact p.elim) h1 h2
def mod0 (i j : Int) : Bool := decide (0 < j)
def modM (d e : D) (st : Store) : Rz D := match d, e with
  | .int i, .int j => if 0 < j then .ok (.int (i % j)) st else .fail
  | _, _ => .fail
theorem me_mod {ea eb : Expr} {a b : EM D} (h1 : ME X W ea a) (h2 : ME X W eb b) : ME X W (.BinOp ea .Mod eb pos) (b2 modM a b) := me_op op_mod (by
  intro io N H x y d e st Q Y S r1 r2 p
  unfold modM at p
  split at p
  · obtain ⟨hc, p⟩ := post_if p
    exact ⟨_, _, r1, r2, hc, post_val p S rfl⟩
  · exact p.elim) h1 h2
def fdivM (d e : D) (st : Store) : Rz D := match d, e with
  | .int i, .int j => if 0 < j ∧ j < 1073741824 then .ok (.int (i / j)) st else .fail
  | _, _ => .fail
theorem me_fdiv {ea eb : Expr} {a b : EM D} (h1 : ME X W ea a) (h2 : ME X W eb b) : ME X W (.BinOp ea .FloorDiv eb pos) (b2 fdivM a b) := me_op op_fdiv (by
  intro io N H x y d e st Q Y S r1 r2 p
  unfold fdivM at p
  split at p
  · obtain ⟨hc, p⟩ := post_if p
    exact ⟨_, _, r1, r2, hc, post_val p S rfl⟩
  · exact p.elim) h1 h2
def powM (d e : D) (st : Store) : Rz D := match d, e with
  | .int i, .int j => if 0 ≤ j ∧ j ≤ 1000000 ∧ i.natAbs < 18446744073709551616 then .ok (.int (i ^ j.toNat)) st else .fail
  | _, _ => .fail
theorem me_pow {ea eb : Expr} {a b : EM D} (h1 : ME X W ea a) (h2 : ME X W eb b) : ME X W (.BinOp ea .Pow eb pos) (b2 powM a b) := me_op op_pow (by
  intro io N H x y d e st Q Y S r1 r2 p
  unfold powM at p
  split at p
  · obtain ⟨hc, p⟩ := post_if p
    exact ⟨_, _, r1, r2, hc, post_val p S rfl⟩
  · exact p.elim) h1 h2
/-- text * number -/
theorem op_rpS : OpR X (binaryOp .Mult) (fun x y H Q => ∃ z i, x = .str z ∧ y = .int i ∧ MulOk z i ∧ Q (.str (Txt.mul z i)) H) := by
  intro pins s σ H x y v u Q I rx ry h
  obtain ⟨z, i, rfl, rfl, hc, q⟩ := h
  obtain ⟨t, rfl⟩ := rx
  obtain ⟨t', rfl⟩ := ry
  exact SB.mul hc fun t'' k => ⟨.str (Txt.mul z i), H, I.tok _, ⟨_, rfl⟩, q⟩
theorem mulOk_small {z : Str} {i : Int} (h : 0 ≤ i ∧ i ≤ 1000 ∧ z.length ≤ 1000) : MulOk z i := by
  obtain ⟨h0, h1, h2⟩ := h
  refine ⟨?_, fun _ _ hc => ?_, fun _ _ => ?_⟩
  · rw [decide_eq_false (by omega), decide_eq_false (by omega)] <;> rfl
  · rename_i hn _
    have h3 : (1000 : Int) ≤ (2 ^ 63 - 1) / i := (Int.le_ediv_iff_mul_le (by omega)).mpr (by omega)
    omega
  · show decide (_ > sizeLine) = false
    have h4 : z.length * i.toNat ≤ 1000 * 1000 := Nat.mul_le_mul h2 (by omega)
    simp only [sizeLine_eq]
    exact decide_eq_false (by omega)
def rep (l : List D) (k : Nat) : List D := (List.replicate k l).flatten
def mulM (d e : D) (st : Store) : Rz D := match d, e with
  | .int i, .int j => if (-18446744073709551616 < i ∧ i < 18446744073709551616) ∨ (-18446744073709551616 < j ∧ j < 18446744073709551616) then .ok (.int (i * j)) st else .fail
  | .str x, .int i => if 0 ≤ i ∧ i ≤ 1000 ∧ x.length ≤ 1000 then .ok (.str (Txt.mul x i)) st else .fail
  | _, _ => .fail
theorem me_mul {ea eb : Expr} {a b : EM D} (h1 : ME X W ea a) (h2 : ME X W eb b) : ME X W (.BinOp ea .Mult eb pos) (b2 mulM a b) := me_op (op_mul.or op_rpS) (by
  intro io N H x y d e st Q Y S r1 r2 p
  unfold mulM at p
  split at p
  · obtain ⟨hc, p⟩ := post_if p
    exact .inl ⟨_, _, r1, r2, hc, post_val p S rfl⟩
  · obtain ⟨hc, p⟩ := post_if p
    exact .inr ⟨_, _, r1, r2, mulOk_small hc, post_val p S rfl⟩
  · exact p.elim) h1 h2
/-- int comparisons -/
def cmpM (g : Int → Int → Bool) (d e : D) (st : Store) : Rz D := match d, e with
  | .int i, .int j => .ok (.bl (g i j)) st
  | _, _ => .fail
theorem opm_cmp {g : Int → Int → Bool} : OpM K (rI0 fun i j => .bl (g i j)) (cmpM g) := by
  intro io N H x y d e st Q Y S r1 r2 p
  unfold cmpM at p
  split at p
  · exact ⟨_, _, r1, r2, post_val p S rfl⟩
  · exact p.elim
abbrev ltM := cmpM fun i j => decide (i < j)
abbrev leM := cmpM fun i j => decide (i ≤ j)
abbrev gtM := cmpM fun i j => decide (j < i)
abbrev geM := cmpM fun i j => decide (j ≤ i)
end
end Rf
namespace Rf
set_option autoImplicit false
open PySem PySem.Spec L2

/-! ### equality -/
mutual
def pd : D → Option PyData
  | .non => some .none
  | .bl b => some (.bool b)
  | .int i => some (.int i)
  | .str x => some (.str x)
  | .tup l => (pdAll l).map .tuple
  | .tw _ => none
  | .fl l => (pdAll l).map .list
  | .rd l => (pdAll l).map .list
  | .ref _ => none
  | .any => none
  | .cod => none
  | .lam _ _ => none
def pdAll : List D → Option (List PyData)
  | [] => some []
  | d :: l => match pd d, pdAll l with
    | some p, some q => some (p :: q)
    | _, _ => none
end
def sv : D → Option V
  | .non => some .non
  | .bl b => some (.bl b)
  | .int i => some (.int i)
  | .str x => some (.str x)
  | _ => none
/-- what stands behind a reference to a list -/
def rs (st : Store) (d : D) : D := match d with
  | .ref n => (match st[n]? with
    | some (.lst l) => .fl l
    | _ => .ref n)
  | d => d
def eqD (st : Store) (d e : D) : Option Bool := match sv d, sv e with
  | some x, some y => if scal x y = true then some (decide (x = y)) else (match pd d, pd e with
    | some p, some q => if SeqAt.shaped p = true ∧ SeqAt.shaped q = true then some (PyData.eqv p q) else none
    | _, _ => none)
  | _, _ => (match pd (rs st d), pd (rs st e) with
    | some p, some q => if SeqAt.shaped p = true ∧ SeqAt.shaped q = true then some (PyData.eqv p q) else none
    | _, _ => none)
def eqM (d e : D) (st : Store) : Rz D := match eqD st d e with
  | some b => .ok (.bl b) st
  | none => .fail
def neM (d e : D) (st : Store) : Rz D := match eqD st d e with
  | some b => .ok (.bl (!b)) st
  | none => .fail
section
variable {K : KW} {X : Cx} {W : Wi} {pos : Pos} {io N : List Addr} {H : Hp} {st : Store}
mutual
theorem dp_of : ∀ (d : D) (v : V) (p : PyData), Rep K io N H d v → pd d = some p → Dp K H v p
  | .non, _, _, r, e => by cases r; cases e; exact .non
  | .bl b, _, _, r, e => by cases r; cases e; exact .bl b
  | .int i, _, _, r, e => by cases r; cases e; exact .int i
  | .str x, _, _, r, e => by cases r; cases e; exact .str x
  | .tup l, v, p, r, e => by
    obtain ⟨q, h, rfl⟩ := Option.map_eq_some_iff.mp (show (pdAll l).map PyData.tuple = some p from e)
    obtain ⟨a, xs, rfl, c, rr⟩ := tup_ok r
    exact .tup c (dp_all l xs q rr h)
  | .tw _, _, _, _, e => by cases e
  | .cod, _, _, _, e => by cases e
  | .lam _ _, _, _, _, e => by cases e
  | .fl l, v, p, r, e => by
    obtain ⟨q, h, rfl⟩ := Option.map_eq_some_iff.mp (show (pdAll l).map PyData.list = some p from e)
    obtain ⟨a, xs, rfl, ⟨_, _, c⟩, rr⟩ := r
    exact .lst (SqL.of c) (dp_all l xs q rr h)
  | .rd l, v, p, r, e => by
    obtain ⟨q, h, rfl⟩ := Option.map_eq_some_iff.mp (show (pdAll l).map PyData.list = some p from e)
    obtain ⟨a, xs, rfl, c, rr⟩ := r
    have sq : SqL K H a xs := by
      rcases c with ⟨_, _, c | ⟨o, c⟩⟩ | c
      · exact SqL.of c
      · exact .inl (.inr ⟨o, c⟩)
      · exact c H
    exact .lst sq (dp_all l xs q rr h)
  | .ref _, _, _, _, e => by cases e
  | .any, _, _, _, e => by cases e
theorem dp_all : ∀ (l : List D) (xs : List V) (p : List PyData), Reps K io N H l xs → pdAll l = some p → DpAll K H xs p
  | [], _, _, r, e => by cases r; cases e; exact .nil
  | d :: l, xs, p, r, e => by
    obtain ⟨v, ys, rfl, a, b⟩ := r
    unfold pdAll at e
    split at e
    · rename_i p1 p2 e1 e2
      cases e
      exact .cons (dp_of d v p1 a e1) (dp_all l ys p2 b e2)
    · cases e
end
theorem dp_rs (S : RSt K io N H st) {d : D} {v : V} {p : PyData} (r : Rep K io N H d v) (e : pd (rs st d) = some p) : Dp K H v p := by
  unfold rs at e
  split at e
  · split at e
    · rename_i n l h
      obtain ⟨a, e1, rfl⟩ := r
      obtain ⟨b, u, e2, e3, xs, rfl, e4⟩ := S.ob _ _ h
      rw [e1] at e2
      cases e2
      obtain ⟨q, h, rfl⟩ := Option.map_eq_some_iff.mp (show (pdAll l).map PyData.list = some p from e)
      exact .lst (SqL.of e3) (dp_all l xs q e4 h)
    · cases e
  · exact dp_of _ v p r e
theorem sv_ok {d : D} {v x : V} (r : Rep K io N H d v) (e : sv d = some x) : v = x := by
  cases d <;> simp [sv] at e <;> subst e <;> exact r
theorem eqD_ok (S : RSt K io N H st) {d e : D} {x y : V} {b : Bool} (r1 : Rep K io N H d x) (r2 : Rep K io N H e y) (h : eqD st d e = some b) :
    (∃ p q, Dp K H x p ∧ Dp K H y q ∧ SeqAt.shaped p = true ∧ SeqAt.shaped q = true ∧ b = PyData.eqv p q) ∨ (scal x y = true ∧ b = decide (x = y)) := by
  unfold eqD at h
  split at h
  · rename_i x' y' e1 e2
    have z1 := sv_ok r1 e1
    have z2 := sv_ok r2 e2
    subst z1 z2
    split at h
    · cases h
      rename_i hs
      exact .inr ⟨hs, rfl⟩
    · split at h
      · rename_i p q f1 f2
        split at h
        · cases h
          rename_i hh
          exact .inl ⟨p, q, dp_of _ _ _ r1 f1, dp_of _ _ _ r2 f2, hh.1, hh.2, rfl⟩
        · cases h
      · cases h
  · split at h
    · rename_i p q f1 f2
      split at h
      · cases h
        rename_i hh
        exact .inl ⟨p, q, dp_rs S r1 f1, dp_rs S r2 f2, hh.1, hh.2, rfl⟩
      · cases h
    · cases h
theorem opm_eq : OpM K (fun x y H Q => rEqD K x y H Q ∨ rEq x y H Q) eqM := by
  intro io N H x y d e st Q Y S r1 r2 p
  unfold eqM at p
  split at p
  · rename_i b hb
    rcases eqD_ok S r1 r2 hb with ⟨p1, q1, a1, a2, a3, a4, rfl⟩ | ⟨a1, rfl⟩
    · exact .inl ⟨p1, q1, a1, a2, a3, a4, post_val p S rfl⟩
    · exact .inr ⟨a1, post_val p S rfl⟩
  · exact p.elim
theorem opm_ne : OpM K (fun x y H Q => rNeD K x y H Q ∨ rNe x y H Q) neM := by
  intro io N H x y d e st Q Y S r1 r2 p
  unfold neM at p
  split at p
  · rename_i b hb
    rcases eqD_ok S r1 r2 hb with ⟨p1, q1, a1, a2, a3, a4, rfl⟩ | ⟨a1, rfl⟩
    · exact .inl ⟨p1, q1, a1, a2, a3, a4, post_val p S rfl⟩
    · exact .inr ⟨a1, post_val p S rfl⟩
  · exact p.elim
/-! ### in -/
/-- what of a list d stands in is equal to e -/
def inD (st : Store) (d : D) (l : List D) : Option Bool := match pd (rs st d), pdAll l with
  | some p, some q => if SeqAt.shaped p = true ∧ SeqAt.shaped (.list q) = true then some (q.any fun z => PyData.eqv z p) else none
  | _, _ => none
def svAll : List D → Option (List V)
  | [] => some []
  | d :: l => match sv d, svAll l with
    | some p, some q => some (p :: q)
    | _, _ => none
theorem sv_flat {d : D} {x : V} (e : sv d = some x) : flatV x = true := by
  cases d <;> simp [sv] at e <;> subst e <;> rfl
theorem svAll_ok : ∀ {l : List D} {xs ys : List V}, Reps K io N H l xs → svAll l = some ys → xs = ys ∧ xs.all flatV = true
  | [], _, _, r, e => by cases r; cases e; exact ⟨rfl, rfl⟩
  | d :: l, _, _, r, e => by
    obtain ⟨v, ys, rfl, a, b⟩ := r
    unfold svAll at e
    split at e
    · rename_i p1 p2 e1 e2
      cases e
      obtain ⟨rfl, h⟩ := svAll_ok b e2
      have z := sv_ok a e1
      subst z
      exact ⟨rfl, by rw [List.all_cons, sv_flat e1, h] <;> rfl⟩
    · cases e
def isIn (d e : D) (st : Store) : Option Bool := match e with
  | .str z => (match d with
    | .str x => (match x.cps.toList with
      | [c] => some (decide (c ∈ z.cps.toList))
      | _ => none)
    | _ => none)
  | .tup l => (match sv d, svAll l with
    | some x, some ys => some (inV x ys)
    | _, _ => none)
  | e => (match lof e st with
    | some l => (match sv d, svAll l with
      | some x, some ys => some (inV x ys)
      | _, _ => inD st d l)
    | none => none)
def inM (d e : D) (st : Store) : Rz D := match isIn d e st with
  | some b => .ok (.bl b) st
  | none => .fail
def ninM (d e : D) (st : Store) : Rz D := match isIn d e st with
  | some b => .ok (.bl (!b)) st
  | none => .fail
theorem one_sign {z : Str} {c : Nat} (h : z.cps.toList = [c]) : z = ⟨#[c]⟩ := by
  cases z with
  | mk a =>
    have : a = #[c] := Array.ext' h
    rw [this]
theorem isIn_ok (S : RSt K io N H st) {d e : D} {x y : V} {b : Bool} (r1 : Rep K io N H d x) (r2 : Rep K io N H e y) (h : isIn d e st = some b) :
    (∃ p q, Dp K H x p ∧ Dp K H y (.list q) ∧ SeqAt.shaped p = true ∧ SeqAt.shaped (.list q) = true ∧ b = q.any fun z => PyData.eqv z p) ∨
      (∃ p xs, y = .ref p ∧ (SqL K H p xs ∨ SqT K H p xs) ∧ flatV x = true ∧ xs.all flatV = true ∧ b = inV x xs) ∨ (∃ (c : Nat) (z : Str), x = .str ⟨#[c]⟩ ∧ y = .str z ∧ b = decide (c ∈ z.cps.toList)) := by
  unfold isIn at h
  split at h
  · split at h
    · split at h
      · cases h
        rename_i c hc
        exact .inr (.inr ⟨c, _, (show x = V.str _ from r1).trans (congrArg V.str (one_sign hc)), r2, rfl⟩)
      · cases h
    · cases h
  · split at h
    · cases h
      rename_i l x' ys e1 e2
      obtain ⟨p, xs, rfl, c, q⟩ := tup_ok r2
      obtain ⟨rfl, f⟩ := svAll_ok q e2
      have z := sv_ok r1 e1
      subst z
      exact .inr (.inl ⟨p, xs, rfl, .inr c, sv_flat e1, f, rfl⟩)
    · cases h
  · split at h
    · rename_i l hl
      obtain ⟨p, xs, rfl, c, q⟩ := lof_ok S r2 hl
      split at h
      · cases h
        rename_i x' ys e1 e2
        obtain ⟨rfl, f⟩ := svAll_ok q e2
        have z := sv_ok r1 e1
        subst z
        exact .inr (.inl ⟨p, xs, rfl, .inl c, sv_flat e1, f, rfl⟩)
      · unfold inD at h
        split at h
        · rename_i p1 q1 f1 f2
          split at h
          · cases h
            rename_i hh
            exact .inl ⟨p1, q1, dp_rs S r1 f1, .lst c (dp_all _ _ _ q f2), hh.1, hh.2, rfl⟩
          · cases h
        · cases h
    · cases h
theorem opm_in : OpM K (fun x y H Q => rInD K x y H Q ∨ (rIn K false x y H Q ∨ (∃ (c : Nat) (z : Str), x = .str ⟨#[c]⟩ ∧ y = .str z ∧ Q (.bl (decide (c ∈ z.cps.toList))) H))) inM := by
  intro io N H x y d e st Q Y S r1 r2 p
  unfold inM at p
  split at p
  · rename_i b hb
    rcases isIn_ok S r1 r2 hb with ⟨p1, q1, a1, a2, a3, a4, rfl⟩ | ⟨p1, xs, a1, a2, a3, a4, rfl⟩ | ⟨c, z, a1, a2, rfl⟩
    · exact .inl ⟨p1, q1, a1, a2, a3, a4, post_val p S rfl⟩
    · exact .inr (.inl ⟨p1, xs, a1, a2, a3, a4, post_val p S rfl⟩)
    · exact .inr (.inr ⟨c, z, a1, a2, post_val p S rfl⟩)
  · exact p.elim
theorem opm_nin : OpM K (fun x y H Q => rNotInD K x y H Q ∨ (rIn K true x y H Q ∨ (∃ (c : Nat) (z : Str), x = .str ⟨#[c]⟩ ∧ y = .str z ∧ Q (.bl (!decide (c ∈ z.cps.toList))) H))) ninM := by
  intro io N H x y d e st Q Y S r1 r2 p
  unfold ninM at p
  split at p
  · rename_i b hb
    rcases isIn_ok S r1 r2 hb with ⟨p1, q1, a1, a2, a3, a4, rfl⟩ | ⟨p1, xs, a1, a2, a3, a4, rfl⟩ | ⟨c, z, a1, a2, rfl⟩
    · exact .inl ⟨p1, q1, a1, a2, a3, a4, post_val p S rfl⟩
    · exact .inr (.inl ⟨p1, xs, a1, a2, a3, a4, post_val p S rfl⟩)
    · exact .inr (.inr ⟨c, z, a1, a2, post_val p S rfl⟩)
  · exact p.elim
/-! ### is None -/
def isNM (d e : D) (st : Store) : Rz D := match d, e with
  | .any, _ => .fail
  | .non, .non => .ok (.bl true) st
  | _, .non => .ok (.bl false) st
  | _, _ => .fail
def notNM (d e : D) (st : Store) : Rz D := match d, e with
  | .any, _ => .fail
  | .non, .non => .ok (.bl false) st
  | _, .non => .ok (.bl true) st
  | _, _ => .fail
theorem rep_non {d : D} {v : V} (r : Rep K io N H d v) (h : d ≠ .any) : decide (v = .non) = decide (d = .non) := by
  cases d with
  | non => cases r; rfl
  | bl _ => cases r; rfl
  | int _ => cases r; rfl
  | str _ => cases r; rfl
  | tup _ => obtain ⟨_, _, rfl, _⟩ := r; rfl
  | tw _ => obtain ⟨_, _, rfl, _⟩ := r; rfl
  | fl _ => obtain ⟨_, _, rfl, _⟩ := r; rfl
  | rd _ => obtain ⟨_, _, rfl, _⟩ := r; rfl
  | ref _ => obtain ⟨_, _, rfl⟩ := r; rfl
  | any => exact absurd rfl h
  | cod => obtain ⟨_, rfl, _⟩ := r; rfl
  | lam _ _ => obtain ⟨_, _, _, rfl, _⟩ := r; rfl
theorem opm_isN : OpM K (fun x y H Q => y = .non ∧ Q (.bl (decide (x = .non))) H) isNM := by
  intro io N H x y d e st Q Y S r1 r2 p
  cases e with
  | non =>
    refine ⟨r2, ?_⟩
    cases d with
    | any => exact p.elim
    | _ =>
      rw [rep_non r1 (by intro z; cases z)]
      exact post_val p S rfl
  | _ => cases d <;> exact p.elim
theorem opm_notN : OpM K (fun x y H Q => y = .non ∧ Q (.bl (!decide (x = .non))) H) notNM := by
  intro io N H x y d e st Q Y S r1 r2 p
  cases e with
  | non =>
    refine ⟨r2, ?_⟩
    cases d with
    | any => exact p.elim
    | _ =>
      rw [rep_non r1 (by intro z; cases z)]
      exact post_val p S rfl
  | _ => cases d <;> exact p.elim
/-! ### and, or, not, if .. else -/
def andT (a b : EM Bool) : EM Bool := fun l st => (a l st).bind fun c st1 => if c = true then b l st1 else .ok false st1
def orT (a b : EM Bool) : EM Bool := fun l st => (a l st).bind fun c st1 => if c = true then .ok true st1 else b l st1
def notT (a : EM Bool) : EM Bool := fun l st => (a l st).bind fun c st1 => .ok (!c) st1
theorem mw_one_and {e : Expr} {a : EM Bool} (h : MT X W e a) : MW X W (.BoolOp .And [e] pos) a := by
  obtain ⟨t, p, r⟩ := h
  exact ⟨t, pw_and1 p, r⟩
theorem mw_one_or {e : Expr} {a : EM Bool} (h : MT X W e a) : MW X W (.BoolOp .Or [e] pos) a := by
  obtain ⟨t, p, r⟩ := h
  exact ⟨t, pw_or1 p, r⟩
theorem mw_and {e f : Expr} {r : List Expr} {a b : EM Bool} (h : MT X W e a) (g : MW X W (.BoolOp .And (f :: r) pos) b) : MW X W (.BoolOp .And (e :: f :: r) pos) (andT a b) := by
  obtain ⟨t, p, q⟩ := h
  obtain ⟨t2, p2, q2⟩ := g
  refine ⟨_, pw_and p p2, fun io N H s l st Q hl hs p => ?_⟩
  refine q.seq hl hs p fun io1 H1 c v st1 e1 S1 r1 p1 => ?_
  obtain rfl : c = v := r1
  cases c with
  | true => exact q2 io1 N H1 s l st1 Q (hl.mono e1) S1 p1
  | false => exact p1 io1 H1 false (Ext.refl _ _) S1 rfl
theorem mw_or {e f : Expr} {r : List Expr} {a b : EM Bool} (h : MT X W e a) (g : MW X W (.BoolOp .Or (f :: r) pos) b) : MW X W (.BoolOp .Or (e :: f :: r) pos) (orT a b) := by
  obtain ⟨t, p, q⟩ := h
  obtain ⟨t2, p2, q2⟩ := g
  refine ⟨_, pw_or p p2, fun io N H s l st Q hl hs p => ?_⟩
  refine q.seq hl hs p fun io1 H1 c v st1 e1 S1 r1 p1 => ?_
  obtain rfl : c = v := r1
  cases c with
  | false => exact q2 io1 N H1 s l st1 Q (hl.mono e1) S1 p1
  | true => exact p1 io1 H1 true (Ext.refl _ _) S1 rfl
theorem mt_w {e : Expr} {a : EM Bool} (h : MW X W e a) : MT X W e a := by
  obtain ⟨t, p, r⟩ := h
  exact ⟨t, p.pt, r⟩
theorem mt_not {e : Expr} {a : EM Bool} (h : MT X W e a) : MT X W (.UnaryOp .Not e pos) (notT a) := by
  obtain ⟨t, p, q⟩ := h
  refine ⟨_, pt_not p, fun io N H s l st Q hl hs p => ?_⟩
  refine q.seq hl hs p fun io1 H1 c v st1 e1 S1 r1 p1 => ?_
  obtain rfl : c = v := r1
  exact p1 io1 H1 _ (Ext.refl _ _) S1 rfl
/-- as values -/
def andV (a b : EM D) : EM D := fun l st => (a l st).bind fun d st1 => match d with
  | .bl true => b l st1
  | .bl false => .ok (.bl false) st1
  | _ => .fail
def orV (a b : EM D) : EM D := fun l st => (a l st).bind fun d st1 => match d with
  | .bl true => .ok (.bl true) st1
  | .bl false => b l st1
  | _ => .fail
def notV (a : EM D) : EM D := fun l st => (a l st).bind fun d st1 => match d with
  | .bl c => .ok (.bl (!c)) st1
  | _ => .fail
theorem me_one {op} {e : Expr} {a : EM D} (h : ME X W e a) : ME X W (.BoolOp op [e] pos) a := by
  obtain ⟨t, p, r⟩ := h
  exact ⟨t, pe_one p, r⟩
theorem me_and {e f : Expr} {r : List Expr} {a b : EM D} (h : ME X W e a) (g : ME X W (.BoolOp .And (f :: r) pos) b) : ME X W (.BoolOp .And (e :: f :: r) pos) (andV a b) := by
  obtain ⟨t, p, q⟩ := h
  obtain ⟨t2, p2, q2⟩ := g
  refine ⟨_, pe_and p p2, fun io N H s l st Q hl hs p => ?_⟩
  refine q.seq hl hs p fun io1 H1 d v st1 e1 S1 r1 p1 => ?_
  cases d with
  | bl c =>
    refine ⟨c, r1, ?_⟩
    cases c with
    | true => exact q2 io1 N H1 s l st1 Q (hl.mono e1) S1 p1
    | false => exact post_val p1 S1 rfl
  | _ => exact p1.elim
theorem me_or {e f : Expr} {r : List Expr} {a b : EM D} (h : ME X W e a) (g : ME X W (.BoolOp .Or (f :: r) pos) b) : ME X W (.BoolOp .Or (e :: f :: r) pos) (orV a b) := by
  obtain ⟨t, p, q⟩ := h
  obtain ⟨t2, p2, q2⟩ := g
  refine ⟨_, pe_or p p2, fun io N H s l st Q hl hs p => ?_⟩
  refine q.seq hl hs p fun io1 H1 d v st1 e1 S1 r1 p1 => ?_
  cases d with
  | bl c =>
    refine ⟨c, r1, ?_⟩
    cases c with
    | false => exact q2 io1 N H1 s l st1 Q (hl.mono e1) S1 p1
    | true => exact post_val p1 S1 rfl
  | _ => exact p1.elim
theorem me_not {e : Expr} {a : EM D} (h : ME X W e a) : ME X W (.UnaryOp .Not e pos) (notV a) := by
  obtain ⟨t, p, q⟩ := h
  refine ⟨_, pe_not p, fun io N H s l st Q hl hs p => ?_⟩
  refine q.seq hl hs p fun io1 H1 d v st1 e1 S1 r1 p1 => ?_
  cases d with
  | bl c => exact ⟨c, r1, post_val p1 S1 rfl⟩
  | _ => exact p1.elim
def ifM {A : Type} (c : EM Bool) (a b : EM A) : EM A := fun l st => (c l st).bind fun k st1 => if k = true then a l st1 else b l st1
theorem me_if {c e f : Expr} {t : EM Bool} {a b : EM D} (hc : MT X W c t) (h : ME X W e a) (g : ME X W f b) : ME X W (.IfExp c e f pos) (ifM t a b) := by
  obtain ⟨t0, p0, q0⟩ := hc
  obtain ⟨t, p, q⟩ := h
  obtain ⟨t2, p2, q2⟩ := g
  refine ⟨_, pe_ifExp p0 p p2, fun io N H s l st Q hl hs p => ?_⟩
  refine q0.seq hl hs p fun io1 H1 c v st1 e1 S1 r1 p1 => ?_
  obtain rfl : c = v := r1
  cases c with
  | true => exact q io1 N H1 s l st1 Q (hl.mono e1) S1 p1
  | false => exact q2 io1 N H1 s l st1 Q (hl.mono e1) S1 p1
/-! ### subscripts -/
def ixM (d e : D) (st : Store) : Rz D := match e with
  | .int i => (match d with
    | .str z => if small z.length = true then (match atI z.cps.toList i with
      | some c => .ok (.str ⟨#[c]⟩) st
      | none => .fail) else .fail
    | d => (match sqof d st with
      | some l => (match atI l i with
        | some x => .ok x st
        | none => .fail)
      | none => .fail))
  | _ => .fail
theorem at_rep {l : List D} {xs : List V} {i : Int} {d : D} (r : Reps K io N H l xs) (h : atI l i = some d) : ∃ v, atI xs i = some v ∧ Rep K io N H d v := by
  unfold atI at h ⊢
  rw [r.len]
  cases e : ixN l.length i with
  | none => rw [e] at h; cases h
  | some j =>
    rw [e] at h
    exact r.get h
theorem opm_ix : OpM K (rIx K) ixM := by
  intro io N H x y d e st Q Y S r1 r2 p
  unfold ixM at p
  split at p
  · split at p
    · obtain ⟨hc, p⟩ := post_if p
      split at p
      · rename_i c hc2
        exact .inr (.inr ⟨_, _, c, r1, r2, small_ok hc, hc2, post_val p S rfl⟩)
      · exact p.elim
    · split at p
      · rename_i l hl
        split at p
        · rename_i z hz
          obtain ⟨a, xs, rfl, c, q⟩ := sqof_ok S r1 hl
          obtain ⟨v, e1, r3⟩ := at_rep q hz
          rcases c with c | c
          · exact .inl ⟨a, xs, _, v, rfl, r2, c, e1, post_val p S r3⟩
          · exact .inr (.inl ⟨a, xs, _, v, rfl, r2, c, e1, post_val p S r3⟩)
        · exact p.elim
      · exact p.elim
  · exact p.elim
theorem me_ix {ea eb : Expr} {a b : EM D} (h1 : ME X W ea a) (h2 : ME X W eb b) (hs : PlainIx eb := by exact fun _ _ => rfl) : ME X W (.Subscript ea eb pos) (b2 ixM a b) := by
  obtain ⟨t1, p1, r1⟩ := h1
  obtain ⟨t2, p2, r2⟩ := h2
  exact ⟨_, pe_ix ix_seq p1 p2 hs, rg_op opm_ix r1 r2⟩
def noO : EM (Option Int) := fun _ st => .ok none st
def onO (a : EM D) : EM (Option Int) := fun l st => (a l st).bind fun d st1 => match d with
  | .int i => .ok (some i) st1
  | _ => .fail
theorem mo_none : MO X W none noO := ⟨_, po_none, fun io N H s l st Q hl hs p => p io H none (Ext.refl _ _) hs rfl⟩
theorem mo_some {e : Expr} {a : EM D} (h : ME X W e a) : MO X W (some e) (onO a) := by
  obtain ⟨t, p, q⟩ := h
  refine ⟨_, po_some p, fun io N H s l st Q hl hs p => ?_⟩
  refine q.seq hl hs p fun io1 H1 d v st1 e1 S1 r1 p1 => ?_
  cases d with
  | int i => exact ⟨i, r1, p1 io1 H1 _ (Ext.refl _ _) S1 rfl⟩
  | _ => exact p1.elim
/-- what a slice takes -/
def cutD (xs : List D) (lo hi : Option Int) : List D := (xs.drop (HT.sIx xs.length 0 lo)).take (HT.sIx xs.length xs.length hi - HT.sIx xs.length 0 lo)
theorem Reps.cut {l : List D} {xs : List V} (r : Reps K io N H l xs) (lo hi : Option Int) : Reps K io N H (cutD l lo hi) (cutV xs lo hi) := by
  unfold cutD cutV
  rw [r.len]
  exact (r.drop _).takeN _
def s3 {A : Type} (f : D → Option Int → Option Int → Store → Rz A) (a : EM D) (lo hi : EM (Option Int)) : EM A := fun l st => (a l st).bind fun d st1 => (lo l st1).bind fun i st2 => (hi l st2).bind fun j st3 => f d i j st3
/-- of a text, a tuple -/
def slM (d : D) (i j : Option Int) (st : Store) : Rz D := match d with
  | .str z => if small z.length = true then .ok (.str (cutS z i j)) st else .fail
  | .tup l => .ok (.tup (cutD l i j)) st
  | _ => .fail
def slL (d : D) (i j : Option Int) (st : Store) : Rz (List D) := match lof d st with
  | some l => .ok (cutD l i j) st
  | none => .fail
theorem me_sl {e : Expr} {lo hi : Option Expr} {a : EM D} {i j : EM (Option Int)} {p2 : Pos} (h : ME X W e a) (h1 : MO X W lo i) (h2 : MO X W hi j) : ME X W (.Subscript e (.Slice lo hi none p2) pos) (s3 slM a i j) := by
  obtain ⟨t, p, q⟩ := h
  obtain ⟨t1, p1, q1⟩ := h1
  obtain ⟨t2, p2, q2⟩ := h2
  refine ⟨_, pe_slice (sl_str.or sl_tupF) p p1 p2, fun io N H s l st Q hl hs p => ?_⟩
  refine q.seq hl hs p fun io1 H1 d v st1 e1 S1 r1 p => q1.seq (hl.mono e1) S1 p fun io2 H2 x x' st2 e2 S2 r2 p => q2.seq ((hl.mono e1).mono e2) S2 p fun io3 H3 y y' st3 e3 S3 r3 p => ?_
  obtain rfl : x = x' := r2
  obtain rfl : y = y' := r3
  have r := (r1.mono e2).mono e3
  cases d with
  | str z =>
    obtain ⟨hc, p⟩ := post_if p
    exact .inl ⟨_, r, small_ok hc, post_val p S3 rfl⟩
  | tup L =>
    obtain ⟨b, xs, rfl, c, qq⟩ := tup_ok r
    refine .inr ⟨b, xs, rfl, c, fun hw => ?_, fun hw => ?_⟩
    · have e : cutD L x y = L := by
        unfold cutD
        rw [qq.len] at hw
        rw [hw.1, hw.2, List.drop_zero, Nat.sub_zero, List.take_length]
      refine post_val (d := .tup (cutD L x y)) p S3 ?_
      rw [e]
      exact r
    · exact post_tup p S3 (qq.cut x y)
  | _ => exact p.elim
theorem ml_sl {e : Expr} {lo hi : Option Expr} {a : EM D} {i j : EM (Option Int)} {p2 : Pos} (h : ME X W e a) (h1 : MO X W lo i) (h2 : MO X W hi j) : ML X W (.Subscript e (.Slice lo hi none p2) pos) (s3 slL a i j) := by
  obtain ⟨t, p, q⟩ := h
  obtain ⟨t1, p1, q1⟩ := h1
  obtain ⟨t2, p2, q2⟩ := h2
  refine ⟨_, pe_slice sl_list p p1 p2, fun io N H s l st Q hl hs p => ?_⟩
  refine q.seq hl hs p fun io1 H1 d v st1 e1 S1 r1 p => q1.seq (hl.mono e1) S1 p fun io2 H2 x x' st2 e2 S2 r2 p => q2.seq ((hl.mono e1).mono e2) S2 p fun io3 H3 y y' st3 e3 S3 r3 p => ?_
  obtain rfl : x = x' := r2
  obtain rfl : y = y' := r3
  have r := (r1.mono e2).mono e3
  unfold slL at p
  split at p
  · rename_i L hL
    obtain ⟨b, xs, rfl, c, qq⟩ := lof_ok S3 r hL
    refine ⟨b, xs, rfl, c, fun a ha => ?_⟩
    obtain ⟨S4, q4⟩ := fresh_list S3 (qq.cut x y) ha fun _ h => h
    exact p io3 _ _ (Ext.new ha) S4 q4
  · exact p.elim
/-- list + list -/
def catL (d e : D) (st : Store) : Rz (List D) := match lofM d st, lofM e st with
  | some a, some b => if small (a.length + b.length) = true then .ok (a ++ b) st else .fail
  | _, _ => .fail
theorem ml_cat {ea eb : Expr} {a b : EM D} (h1 : ME X W ea a) (h2 : ME X W eb b) : ML X W (.BinOp ea .Add eb pos) (b2 catL a b) := by
  obtain ⟨t1, p1, r1⟩ := h1
  obtain ⟨t2, p2, r2⟩ := h2
  refine ⟨_, pe_op op_cat p1 p2, fun io N H s l st Q hl hs p => ?_⟩
  refine r1.seq hl hs p fun io1 H1 d v st1 e1 S1 q1 p => r2.seq (hl.mono e1) S1 p fun io2 H2 e w st2 e2 S2 q2 p => ?_
  unfold catL at p
  split at p
  · rename_i la lb f1 f2
    obtain ⟨hc, p⟩ := post_if p
    obtain ⟨x, xs, rfl, c1, g1⟩ := lofM_ok S2 (q1.mono e2) f1
    obtain ⟨y, ys, rfl, c2, g2⟩ := lofM_ok S2 q2 f2
    refine ⟨x, y, xs, ys, rfl, rfl, c1, c2, by rw [g1.len, g2.len]; exact small_ok hc, fun a ha => ?_⟩
    obtain ⟨S3, q3⟩ := fresh_list S2 (g1.app g2) ha fun _ h => h
    exact p io2 _ _ (Ext.new ha) S3 q3
  · exact p.elim
end
end Rf
namespace Rf
set_option autoImplicit false
open PySem PySem.Spec L2

/-! ### statements -/
inductive Sz where
  | nx (l : Sl) (st : Store) | rt (d : D) (st : Store) | bk (l : Sl) (st : Store) | ct (l : Sl) (st : Store) | exc (c : Str) (fs : List (Str × D)) (l : Sl) (st : Store) | fail
abbrev SM := Sl → Store → Sz
def Rz.toS {A : Type} (z : Rz A) (l : Sl) (k : A → Store → Sz) : Sz := match z with
  | .ok a st => k a st
  | .exc c fs st => .exc c fs l st
  | .fail => .fail
def PostS (K : KW) (io N : List Addr) (H : Hp) (z : Sz) (D : Ends) (W : Wi) : Prop := match z with
  | .nx l st => ∀ io' H' s', Ext io H io' H' → REnv K W io' N H' l s' → RSt K io' N H' st → D.nx s' H'
  | .bk l st => ∀ io' H' s', Ext io H io' H' → REnv K W io' N H' l s' → RSt K io' N H' st → D.bk s' H'
  | .ct l st => ∀ io' H' s', Ext io H io' H' → REnv K W io' N H' l s' → RSt K io' N H' st → D.ct s' H'
  | .rt d st => ∀ io' H' v, Ext io H io' H' → RSt K io' N H' st → Rep K io' N H' d v → D.rt v H'
  | .exc c fs l st => ∀ io' H' s' cls dd, Ext io H io' H' → REnv K W io' N H' l s' → RSt K io' N H' st → RepX K io' N H' c fs cls dd → W.w cls dd s' H'
  | .fail => False
def RS (K : KW) (W : Wi) (t : TS) (m : SM) : Prop :=
  ∀ (io N : List Addr) (H : Hp) (s : St) (l : Sl) (st : Store) (D : Ends), REnv K W io N H l s → RSt K io N H st → PostS K io N H (m l st) D W → t D s H
def MS (X : Cx) (W : Wi) (s : Stmt) (m : SM) : Prop := ∃ t, PS X s t ∧ RS X.kw W t m
def MSs (X : Cx) (W : Wi) (s : List Stmt) (m : SM) : Prop := ∃ t, PSs X s t ∧ RS X.kw W t m

section
variable {K : KW} {X : Cx} {W : Wi} {pos : Pos} {io io1 N : List Addr} {H H1 : Hp} {st : Store} {D : Ends}
theorem PostS.step {z : Sz} (e : Ext io H io1 H1) (h : PostS K io N H z D W) : PostS K io1 N H1 z D W := by
  cases z with
  | nx l st => exact fun io' H' s' e' a b => h io' H' s' (e.trans e') a b
  | bk l st => exact fun io' H' s' e' a b => h io' H' s' (e.trans e') a b
  | ct l st => exact fun io' H' s' e' a b => h io' H' s' (e.trans e') a b
  | rt d st => exact fun io' H' v e' a b => h io' H' v (e.trans e') a b
  | exc c fs l st => exact fun io' H' s' cls dd e' a b r => h io' H' s' cls dd (e.trans e') a b r
  | fail => exact h
theorem RG.seqS {A B : Type} {R : Rp A B} {t : St → Hp → (B → Hp → Prop) → Prop} {m : EM A} (h : RG K R W t m) {s : St} {l : Sl} (hl : REnv K W io N H l s) (hs : RSt K io N H st)
    {k : A → Store → Sz} {Z : B → Hp → Prop} (p : PostS K io N H ((m l st).toS l k) D W)
    (hk : ∀ io' H' a b st', Ext io H io' H' → RSt K io' (R.sh b ++ N) H' st' → R.r K H io' N H' a b → PostS K io' N H' (k a st') D W → Z b H') : t s H Z := by
  refine h io N H s l st Z hl hs ?_
  cases e : m l st with
  | ok a st' =>
    rw [e] at p
    exact fun io' H' b ex S r => hk io' H' a b st' ex S r (PostS.step ex p)
  | exc c fs st' =>
    rw [e] at p
    exact fun io' H' cls dd ex S r => p io' H' s cls dd ex (hl.mono ex) S r
  | fail =>
    rw [e] at p
    exact p
def nextM : SM := fun l st => .nx l st
def sq (a b : SM) : SM := fun l st => match a l st with
  | .nx l' st' => b l' st'
  | z => z
theorem mss_nil : MSs X W [] nextM := ⟨_, pss_nil, fun io N H s l st D hl hs p => p io H s (Ext.refl _ _) hl hs⟩
theorem rs_sq {t u : TS} {a b : SM} (ha : RS K W t a) (hb : RS K W u b) : RS K W (tSeq t u) (sq a b) := by
  intro io N H s l st D hl hs p
  refine ha io N H s l st _ hl hs ?_
  unfold sq at p
  cases e : a l st with
  | nx l' st' =>
    rw [e] at p
    exact fun io' H' s' ex r S => hb io' N H' s' l' st' D r S (PostS.step ex p)
  | bk l' st' => rw [e] at p; exact p
  | ct l' st' => rw [e] at p; exact p
  | rt d st' => rw [e] at p; exact p
  | exc c fs l' st' => rw [e] at p; exact p
  | fail => rw [e] at p; exact p
theorem mss_cons {s : Stmt} {r : List Stmt} {a b : SM} (h1 : MS X W s a) (h2 : MSs X W r b) : MSs X W (s :: r) (sq a b) := by
  obtain ⟨t, p, q⟩ := h1
  obtain ⟨u, p2, q2⟩ := h2
  exact ⟨_, pss_cons p p2, rs_sq q q2⟩
theorem mss_one {s : Stmt} {a : SM} (h1 : MS X W s a) : MSs X W [s] a := by
  obtain ⟨t, p, q⟩ := h1
  exact ⟨_, pss_one p, q⟩
def breakM : SM := fun l st => .bk l st
def contM : SM := fun l st => .ct l st
theorem ms_pass : MS X W (.Pass pos) nextM := ⟨_, ps_pass, fun io N H s l st D hl hs p => p io H s (Ext.refl _ _) hl hs⟩
theorem ms_break : MS X W (.Break pos) breakM := ⟨_, ps_break, fun io N H s l st D hl hs p => p io H s (Ext.refl _ _) hl hs⟩
theorem ms_cont : MS X W (.Continue pos) contM := ⟨_, ps_continue, fun io N H s l st D hl hs p => p io H s (Ext.refl _ _) hl hs⟩
def exprM (a : EM Rf.D) : SM := fun l st => (a l st).toS l fun _ st1 => .nx l st1
theorem ms_expr {e : Expr} {a : EM Rf.D} (h : ME X W e a) (hs : swapsWith e none pos.line X.env = pure false := by rfl) : MS X W (.Expr e pos) (exprM a) := by
  obtain ⟨t, p, q⟩ := h
  refine ⟨_, ps_expr p hs, fun io N H s l st D hl hs p => ?_⟩
  refine q.seqS hl hs p fun io1 H1 d v st1 e1 S1 r1 p1 => ?_
  exact p1 io1 H1 s (Ext.refl _ _) (hl.mono e1) S1
def retM (a : EM Rf.D) : SM := fun l st => (a l st).toS l fun d st1 => .rt d st1
theorem ms_ret {e : Expr} {a : EM Rf.D} (h : ME X W e a) : MS X W (.Return (some e) pos) (retM a) := by
  obtain ⟨t, p, q⟩ := h
  refine ⟨_, ps_ret p, fun io N H s l st D hl hs p => ?_⟩
  refine q.seqS hl hs p fun io1 H1 d v st1 e1 S1 r1 p1 => ?_
  exact p1 io1 H1 v (Ext.refl _ _) S1 r1
theorem ms_retN : MS X W (.Return none pos) (retM (cst .non)) := ⟨_, ps_retN, fun io N H s l st D hl hs p => p io H .non (Ext.refl _ _) hs rfl⟩
def ifS (c : EM Bool) (a b : SM) : SM := fun l st => (c l st).toS l fun k st1 => if k = true then a l st1 else b l st1
theorem ms_if {c : Expr} {a b : List Stmt} {t : EM Bool} {ma mb : SM} (hc : MT X W c t) (ha : MSs X W a ma) (hb : MSs X W b mb) : MS X W (.If c a b pos) (ifS t ma mb) := by
  obtain ⟨t0, p0, q0⟩ := hc
  obtain ⟨t, p, q⟩ := ha
  obtain ⟨t2, p2, q2⟩ := hb
  refine ⟨_, ps_if p0 p p2, fun io N H s l st D hl hs p => ?_⟩
  refine q0.seqS hl hs p fun io1 H1 c v st1 e1 S1 r1 p1 => ?_
  obtain rfl : c = v := r1
  cases c with
  | true => exact q io1 N H1 s l st1 D (hl.mono e1) S1 p1
  | false => exact q2 io1 N H1 s l st1 D (hl.mono e1) S1 p1
/-! ### stores -/
def setM (i : Nat) (a : EM Rf.D) : SM := fun l st => (a l st).toS l fun d st1 => .nx (l.set i (some d)) st1
theorem rs_set {t : TE} {a : EM Rf.D} (i : Nat) (hp : W.may [i] = true) (q : RG K rD W t a) : RS K W (tAsg t (gName i)) (setM i a) := fun io N H s l st D hl hs p =>
  q.seqS hl hs p fun io1 H1 d v st1 e1 S1 r1 p1 => p1 io1 H1 _ (Ext.refl _ _) ((hl.mono e1).set i (Wi.may_of hp (by simp)) r1) S1
theorem ms_set (i : Nat) {x : Str} {e : Expr} {a : EM Rf.D} {pos' : Pos} (h : ME X W e a) (hN : X.N.Nodup) (hi : X.N[i]? = some x := by rfl) (hx : Loc X.env.scope x := by first | exact Or.inl rfl | exact Or.inr rfl) (hs : swapsWith e (some (.Name x pos')) pos.line X.env = pure false := by rfl)
    (hf : X.fn x = true ∨ X.env.scope.names.lookup x = some .local := by first | exact .inl rfl | exact .inr rfl) (hp : W.may [i] = true := by rfl) : MS X W (.Assign [.Name x pos'] e pos) (setM i a) := by
  obtain ⟨t, p, q⟩ := h
  refine ⟨_, ps_set hN hi hx p hs hf, fun io N H s l st D hl hs p => ?_⟩
  refine q.seqS hl hs p fun io1 H1 d v st1 e1 S1 r1 p1 => ?_
  exact p1 io1 H1 _ (Ext.refl _ _) ((hl.mono e1).set i (Wi.may_of hp (by simp)) r1) S1
/-! ### targets -/
inductive T where
  | nm (i : Nat) | tp (l : List T)
mutual
def T.put : T → Rf.D → Sl → Option Sl
  | .nm i, d, l => some (l.set i (some d))
  | .tp ts, d, l => match d with
    | .tup ds => T.puts ts ds l
    | .tw ds => T.puts ts ds l
    | _ => none
def T.puts : List T → List Rf.D → Sl → Option Sl
  | [], [], l => some l
  | t :: ts, d :: ds, l => match t.put d l with
    | some l' => T.puts ts ds l'
    | none => none
  | _, _, _ => none
end
mutual
def T.slots : T → List Nat
  | .nm i => [i]
  | .tp ts => T.slotsL ts
def T.slotsL : List T → List Nat
  | [] => []
  | t :: ts => t.slots ++ T.slotsL ts
end
/-- a target's store -/
def RT (K : KW) (g : TG) (t : T) : Prop := ∀ (W : Wi) (_ : W.may t.slots = true) (io N : List Addr) (H : Hp) (s : St) (l l' : Sl) (d : Rf.D) (v : V) (Q : St → Hp → Prop), REnv K W io N H l s → Rep K io N H d v → t.put d l = some l' →
  (∀ s', REnv K W io N H l' s' → (∀ vs : List Nat, (∀ i ∈ t.slots, i ∈ vs) → wipe s' vs = wipe s vs) → Q s' H) → g v s H Q
def RTs (K : KW) (g : TGs) (t : List T) : Prop := ∀ (W : Wi) (_ : W.may (T.slotsL t) = true) (io N : List Addr) (H : Hp) (s : St) (l l' : Sl) (d : List Rf.D) (v : List V) (Q : St → Hp → Prop), REnv K W io N H l s → Reps K io N H d v → T.puts t d l = some l' →
  (∀ s', REnv K W io N H l' s' → (∀ vs : List Nat, (∀ i ∈ T.slotsL t, i ∈ vs) → wipe s' vs = wipe s vs) → Q s' H) → g v s H Q
theorem wipe_none {s : St} {i : Nat} : ∀ {vs : List Nat}, i ∈ vs → (wipe s vs).set i none = wipe s vs
  | [], h => by simp at h
  | v :: vs, h => by
    unfold wipe
    by_cases e : i = v
    · subst e; rw [List.set_set]
    · have h' : i ∈ vs := by simpa [e] using h
      rw [List.set_comm _ _ (fun z => e z.symm), wipe_none h']
theorem wipe_set {s : St} {i : Nat} {o : Option V} : ∀ {vs : List Nat}, i ∈ vs → wipe (s.set i o) vs = wipe s vs
  | [], h => by simp at h
  | v :: vs, h => by
    unfold wipe
    by_cases h' : i ∈ vs
    · rw [wipe_set h']
    · have e : i = v := by simpa [h'] using h
      subst e
      have : ∀ (vs : List Nat), i ∉ vs → wipe (s.set i o) vs = (wipe s vs).set i o := by
        intro vs
        induction vs with
        | nil => intro _; rfl
        | cons w ws ih =>
          intro hn
          have hw : w ≠ i := fun z => hn (by simp [z])
          have hn' : i ∉ ws := fun z => hn (by simp [z])
          show (wipe (s.set i o) ws).set w none = ((wipe s ws).set w none).set i o
          rw [ih hn', List.set_comm _ _ hw]
      rw [this vs h', List.set_set]
def MG (X : Cx) (e : Expr) (t : T) : Prop := ∃ g, PG X e g ∧ RT X.kw g t
def MGs (X : Cx) (e : List Expr) (t : List T) (n : Nat) : Prop := t.length = n ∧ ∃ g, PGs X e g ∧ RTs X.kw g t
theorem mg_nm (i : Nat) {x : Str} (hN : X.N.Nodup) (hi : X.N[i]? = some x := by rfl) (hx : Loc X.env.scope x := by first | exact Or.inl rfl | exact Or.inr rfl) (hf : X.fn x = true ∨ X.env.scope.names.lookup x = some .local := by first | exact .inl rfl | exact .inr rfl) : MG X (.Name x pos) (.nm i) := by
  refine ⟨_, pg_name hN hi hx hf, fun W hp io N H s l l' d v Q hl r h q => ?_⟩
  cases h
  exact q _ (hl.set i (Wi.may_of hp (by simp [T.slots])) r) fun vs hv => wipe_set (hv i (by simp [T.slots]))
theorem may_app1 {a b : List Nat} (h : W.may (a ++ b) = true) : W.may a = true := by
  unfold Wi.may at h ⊢
  rw [List.all_append, Bool.and_eq_true] at h
  exact h.1
theorem may_app2 {a b : List Nat} (h : W.may (a ++ b) = true) : W.may b = true := by
  unfold Wi.may at h ⊢
  rw [List.all_append, Bool.and_eq_true] at h
  exact h.2
theorem mgs_nil : MGs X [] [] 0 := ⟨rfl, _, pgs_nil, fun W hp io N H s l l' d v Q hl r h q => by
  cases d with
  | nil =>
    cases h
    cases r
    exact ⟨rfl, q s hl fun _ _ => rfl⟩
  | cons _ _ => cases h⟩
theorem mgs_cons {e : Expr} {es : List Expr} {t : T} {ts : List T} {n : Nat} (h1 : MG X e t) (h2 : MGs X es ts n)
    (he : (assignEach (e :: es) X.env).map (·.2) = assign e X.env :: (assignEach es X.env).map (·.2) := by rfl) : MGs X (e :: es) (t :: ts) (n + 1) := by
  obtain ⟨g, p, q⟩ := h1
  obtain ⟨hn, g2, p2, q2⟩ := h2
  refine ⟨by rw [List.length_cons, hn], _, pgs_cons p p2 he, fun W hp io N H s l l' d v Q hl r h k => ?_⟩
  cases d with
  | nil => cases h
  | cons d ds =>
    obtain ⟨v, vs, rfl, a, b⟩ := r
    unfold T.puts at h
    split at h
    · rename_i l1 h1
      refine ⟨v, vs, rfl, q W (may_app1 hp) io N H s l l1 d v _ hl a h1 fun s1 hl1 w1 => ?_⟩
      refine q2 W (may_app2 hp) io N H s1 l1 l' ds vs _ hl1 b h fun s2 hl2 w2 => k s2 hl2 fun vs hv => ?_
      rw [w2 vs fun i hi => hv i (by simp [T.slotsL, hi]), w1 vs fun i hi => hv i (by simp [T.slotsL, hi])]
    · cases h
theorem T.puts_len : ∀ {ts : List T} {ds : List Rf.D} {l l' : Sl}, T.puts ts ds l = some l' → ds.length = ts.length
  | [], [], _, _, _ => rfl
  | [], _ :: _, _, _, h => by cases h
  | _ :: _, [], _, _, h => by cases h
  | t :: ts, d :: ds, l, l', h => by
    unfold T.puts at h
    split at h
    · rw [List.length_cons, List.length_cons, T.puts_len h]
    · cases h
theorem mg_tup {es : List Expr} {k : Nat} {ts : List T} {n : Nat} (hc : X.calm = true) (h : MGs X es ts n) (hn : (assignEach es X.env).length = n := by rfl) (hst : (assignEach es X.env).findIdx? (·.1) = none := by rfl) : MG X (.Tuple es k pos) (.tp ts) := by
  obtain ⟨hl0, g, p, q⟩ := h
  refine ⟨_, pg_tup hc p hn hst, fun W hp io N H s l l' d v Q hl r h k => ?_⟩
  cases d with
  | tup ds =>
    obtain ⟨a, xs, rfl, c, rr⟩ := tup_ok r
    exact ⟨a, xs, rfl, c, by rw [rr.len, T.puts_len h, hl0], q W hp io N H s l l' ds xs Q hl rr h k⟩
  | tw ds =>
    obtain ⟨a, xs, rfl, c, rr⟩ := tupw_ok r
    exact ⟨a, xs, rfl, c, by rw [rr.len, T.puts_len h, hl0], q W hp io N H s l l' ds xs Q hl rr h k⟩
  | _ => cases h
/-- a target = an expression -/
def asgM (t : T) (a : EM Rf.D) : SM := fun l st => (a l st).toS l fun d st1 => match t.put d l with
  | some l' => .nx l' st1
  | none => .fail
theorem ms_asg {tg e : Expr} {a : EM Rf.D} {t : T} (h : ME X W e a) (g : MG X tg t) (hs : swapsWithSole [tg] e pos.line X.env = pure false := by rfl) (hw : swappedStores [tg] e X.env = pure none := by rfl) (he : (assignEach [tg] X.env).map (·.2) = [assign tg X.env] := by rfl) (hp : W.may t.slots = true := by rfl) : MS X W (.Assign [tg] e pos) (asgM t a) := by
  obtain ⟨t0, p, q⟩ := h
  obtain ⟨g0, p1, q1⟩ := g
  refine ⟨_, ps_asg p p1 hs hw he, fun io N H s l st D hl hs p => ?_⟩
  refine q.seqS hl hs p fun io1 H1 d v st1 e1 S1 r1 p1 => ?_
  cases hh : t.put d l with
  | some l' =>
    rw [hh] at p1
    exact q1 W hp io1 N H1 s l l' d v _ (hl.mono e1) r1 hh fun s' hl' _ => p1 io1 H1 s' (Ext.refl _ _) hl' S1
  | none =>
    rw [hh] at p1
    exact p1.elim
/-- a, b = x, y with two plain local names -/
def parM (i j : Nat) (a : EM (List Rf.D)) : SM := fun l st => (a l st).toS l fun ds st1 => match ds with
  | [d, e] => .nx ((l.set i (some d)).set j (some e)) st1
  | _ => .fail
theorem ms_par (i j : Nat) {x y : Str} {a b : Expr} {m : EM (List Rf.D)} {px py pt : Pos} {kt k2 pt2} (h : MA X W [a, b] m) (hc : X.calm = true) (hN : X.N.Nodup) (hi : X.N[i]? = some x := by rfl) (hj : X.N[j]? = some y := by rfl) (hij : i ≠ j := by decide)
    (hx : X.env.scope.names.lookup x = some .local := by rfl) (hy : X.env.scope.names.lookup y = some .local := by rfl)
    (hw : swappedStores [.Tuple [.Name x px, .Name y py] kt pt] (.Tuple [a, b] k2 pt2) X.env = pure (some [x, y]) := by rfl)
    (hs : swapsWithSole [.Tuple [.Name x px, .Name y py] kt pt] (.Tuple [a, b] k2 pt2) pos.line X.env = pure false := by rfl) (hp : W.may [i, j] = true := by rfl) :
    MS X W (.Assign [.Tuple [.Name x px, .Name y py] kt pt] (.Tuple [a, b] k2 pt2) pos) (parM i j m) := by
  obtain ⟨t, p, q⟩ := h
  refine ⟨_, ps_par hc hN hi hj hij hx hy p hw hs, fun io N H s l st D hl hs p => ?_⟩
  refine q.seqS hl hs p fun io1 H1 ds vs st1 e1 S1 r1 p1 => ?_
  match ds, p1, r1 with
  | [d, e], p1, ⟨v, _, e2, r2, w, _, e3, r3, e4⟩ =>
    subst e4 e3 e2
    exact ⟨v, w, rfl, p1 io1 H1 _ (Ext.refl _ _) (((hl.mono e1).set i (Wi.may_of hp (by simp)) r2).set j (Wi.may_of hp (by simp)) r3) S1⟩
  | [], p1, _ => exact p1.elim
  | [_], p1, _ => exact p1.elim
  | _ :: _ :: _ :: _, p1, _ => exact p1.elim
end

/-! ### what is walked -/
structure Src where
  items : List D
  own : Option (Nat × List D)
/-- the list that is walked stands in the store as it stood -/
def Src.chk (s : Src) (st : Store) : Bool := match s.own with
  | none => true
  | some (n, l) => (match st[n]? with
    | some (.lst l') => decide (l' = l)
    | _ => false)
/-- from (io, H) on J walks s -/
def IR (K : KW) (io N : List Addr) (H : Hp) (J : It) (s : Src) : Prop := ∀ (io' M : List Addr) (H' : Hp) (st : Store), (∀ a ∈ M, H a = none) → ExtS N io H io' H' → RSt K io' (M ++ N) H' st → s.chk st = true → ∀ i : Nat,
  (i < s.items.length → J.go i H' ∧ ∀ x H2, J.yld i H' x H2 → ∃ d, s.items[i]? = some d ∧ Rep K io' (M ++ N) H2 d x ∧ Ext io' H' io' H2 ∧ RSt K io' (M ++ N) H2 st) ∧ (i = s.items.length → J.stop i H')
theorem IR.step {K : KW} {io io1 N : List Addr} {H H1 : Hp} {J : It} {s : Src} (e : Ext io H io1 H1) (h : IR K io N H J s) : IR K io1 N H1 J s := fun io' M H' st hm e' S c i => h io' M H' st (fun a ha => e.trk a (hm a ha)) (e.transS e') S c i
def rI : Rp Src It := ⟨fun K _ io N H s J => IR K io N H J s, fun _ h => h, fun _ => []⟩
def MI (X : Cx) (W : Wi) (tg e : Expr) (m : EM Src) : Prop := ∃ t, PI X tg e t ∧ RG X.kw rI W t m

section
variable {K : KW} {X : Cx} {W : Wi} {pos : Pos} {io io1 N : List Addr} {H H1 : Hp} {st : Store} {tg : Expr}
/-- the source of a list -/
def srcL (d : D) (l : List D) : Src := match d with
  | .ref n => ⟨l, some (n, l)⟩
  | _ => ⟨l, none⟩
theorem srcL_items (d : D) (l : List D) : (srcL d l).items = l := by cases d <;> rfl
/-- a list that was read stands as it stood -/
theorem lof_stays {d : D} {v : V} {l : List D} (S : RSt K io N H st) (r : Rep K io N H d v) (h : lof d st = some l) : ∃ p, v = .ref p ∧ ∀ (io' M : List Addr) (H' : Hp) (st' : Store), (∀ a ∈ M, H a = none) → ExtS N io H io' H' → RSt K io' (M ++ N) H' st' → (srcL d l).chk st' = true → ∃ xs, SqL K H' p xs ∧ Reps K io' (M ++ N) H' l xs := by
  obtain ⟨p, xs0, rfl, _, _⟩ := lof_ok S r h
  refine ⟨p, rfl, fun io' M H' st' hm e S' c => ?_⟩
  have r' := Rep.monoS e.weak _ _ (r.shuns M hm)
  have : lof d st' = some l := by
    unfold lof at h ⊢
    unfold srcL Src.chk at c
    cases d with
    | fl l' => exact h
    | rd l' => exact h
    | ref n =>
      simp only at c
      split at c
      · rename_i l' e'
        have := of_decide_eq_true c
        subst this
        simp only [e']
      · cases c
    | _ => cases h
  obtain ⟨p', xs, e1, c1, q⟩ := lof_ok S' r' this
  cases e1
  exact ⟨xs, c1, q⟩
def itL (a : EM D) : EM Src := fun l st => (a l st).bind fun d st1 => match lof d st1 with
  | some ds => .ok (srcL d ds) st1
  | none => .fail
theorem mi_list {e : Expr} {a : EM D} (h : ME X W e a) : MI X W tg e (itL a) := by
  obtain ⟨t, p, q⟩ := h
  refine ⟨_, pi_list p, fun io N H s l st Q hl hs p => ?_⟩
  refine q.seq hl hs p fun io1 H1 d v st1 e1 S1 r1 p1 => ?_
  cases hh : lof d st1 with
  | none => rw [hh] at p1; exact p1.elim
  | some ds =>
    rw [hh] at p1
    obtain ⟨a, rfl, stays⟩ := lof_stays S1 r1 hh
    obtain ⟨a', xs0, e0, c0, _⟩ := lof_ok S1 r1 hh
    cases e0
    refine ⟨a, rfl, ⟨xs0, c0⟩, p1 io1 H1 _ (Ext.refl _ _) S1 fun io' M H' st' hm ex S' c i => ?_⟩
    obtain ⟨xs, c1, rr⟩ := stays io' M H' st' hm ex S' c
    rw [srcL_items]
    refine ⟨fun hi => ⟨⟨xs, xs[i]'(by rw [rr.len]; exact hi), c1, List.getElem?_eq_getElem _⟩, fun x H2 y => ?_⟩, fun hi => ⟨xs, c1, by rw [rr.len]; exact Nat.le_of_eq hi.symm⟩⟩
    obtain ⟨rfl, y⟩ := y
    obtain ⟨d', e', r'⟩ := rr.get' (y xs c1)
    exact ⟨d', e', r', Ext.refl _ _, S'⟩
def itT (a : EM D) : EM Src := fun l st => (a l st).bind fun d st1 => match d with
  | .tup ds => .ok ⟨ds, none⟩ st1
  | _ => .fail
theorem mi_tup {e : Expr} {a : EM D} (h : ME X W e a) : MI X W tg e (itT a) := by
  obtain ⟨t, p, q⟩ := h
  refine ⟨_, pi_tup p, fun io N H s l st Q hl hs p => ?_⟩
  refine q.seq hl hs p fun io1 H1 d v st1 e1 S1 r1 p1 => ?_
  cases d with
  | tup ds =>
    obtain ⟨a, xs0, rfl, c0, _⟩ := tup_ok r1
    refine ⟨a, rfl, ⟨xs0, c0⟩, p1 io1 H1 _ (Ext.refl _ _) S1 fun io' M H' st' hm ex S' c i => ?_⟩
    obtain ⟨a', xs, e0, c1, rr⟩ := tup_ok (Rep.monoS ex.weak _ _ (r1.shuns M hm))
    cases e0
    refine ⟨fun hi => ⟨⟨xs, xs[i]'(by rw [rr.len]; exact hi), c1, List.getElem?_eq_getElem _⟩, fun x H2 y => ?_⟩, fun hi => ⟨xs, c1, by rw [rr.len]; exact Nat.le_of_eq hi.symm⟩⟩
    obtain ⟨rfl, y⟩ := y
    obtain ⟨d', e', r'⟩ := rr.get' (y xs c1)
    exact ⟨d', e', r', Ext.refl _ _, S'⟩
  | _ => exact p1.elim
/-- lo, lo + 1, .. -/
def rngD (lo : Int) (n : Nat) : List D := (List.range n).map fun (i : Nat) => D.int (lo + (i : Int))
theorem ir_rng (lo : Int) (n : Nat) : IR K io N H (Itr lo n) ⟨rngD lo n, none⟩ := by
  intro io' M H' st hm ex S c i
  have hl : (rngD lo n).length = n := by simp [rngD]
  refine ⟨fun hi => ?_, fun hi => ?_⟩
  · have hi' : i < n := by simpa [hl] using hi
    refine ⟨hi', fun x H2 y => ?_⟩
    obtain ⟨rfl, rfl⟩ := y
    exact ⟨.int (lo + i), by simp [rngD, hi'], rfl, Ext.refl _ _, S⟩
  · have hi' : i = n := by simpa [hl] using hi
    subst hi'
    exact Nat.le_refl _
def itR1 (a : EM (List D)) : EM Src := fun l st => (a l st).bind fun ds st1 => match ds with
  | [.int j] => if -1000000 ≤ j ∧ j ≤ 1000000 then .ok ⟨rngD 0 j.toNat, none⟩ st1 else .fail
  | _ => .fail
def itR2 (a : EM (List D)) : EM Src := fun l st => (a l st).bind fun ds st1 => match ds with
  | [.int i, .int j] => if -1000000 ≤ i ∧ i ≤ 1000000 ∧ -1000000 ≤ j ∧ j ≤ 1000000 then .ok ⟨rngD i (j - i).toNat, none⟩ st1 else .fail
  | _ => .fail
theorem mi_range1 {e : Expr} {a : EM (List D)} {p pos : Pos} (hm : X.mg "range" = none) (h : MA X W [e] a) (hg : Gl X "range" := by rfl) (hs : starEach [e] X.env = [(false, eval e X.env)] := by rfl) : MI X W tg (.Call (.Name "range" p) [e] [] pos) (itR1 a) := by
  obtain ⟨t, p, q⟩ := h
  refine ⟨_, pi_range1 hg hm p hs, fun io N H s l st Q hl hs p => ?_⟩
  refine q.seq hl hs p fun io1 H1 ds vs st1 e1 S1 r1 p1 => ?_
  match ds, p1, r1 with
  | [.int j], p1, r1 =>
    obtain ⟨hc, p1⟩ := post_if p1
    obtain ⟨v, ys, rfl, rfl, rfl⟩ := r1
    exact ⟨j, rfl, by omega, by omega, p1 io1 H1 _ (Ext.refl _ _) S1 (ir_rng _ _)⟩
theorem mi_range2 {e f : Expr} {a : EM (List D)} {p pos : Pos} (hm : X.mg "range" = none) (h : MA X W [e, f] a) (hg : Gl X "range" := by rfl) (hs : starEach [e, f] X.env = [(false, eval e X.env), (false, eval f X.env)] := by rfl) (hs2 : starEach [f] X.env = [(false, eval f X.env)] := by rfl) : MI X W tg (.Call (.Name "range" p) [e, f] [] pos) (itR2 a) := by
  obtain ⟨t, p, q⟩ := h
  refine ⟨_, pi_range2 hg hm p hs hs2, fun io N H s l st Q hl hs p => ?_⟩
  refine q.seq hl hs p fun io1 H1 ds vs st1 e1 S1 r1 p1 => ?_
  match ds, p1, r1 with
  | [.int i, .int j], p1, r1 =>
    obtain ⟨hc, p1⟩ := post_if p1
    obtain ⟨v, ys, rfl, rfl, w, zs, rfl, rfl, rfl⟩ := r1
    exact ⟨i, j, rfl, ⟨by omega, by omega, by omega, by omega⟩, p1 io1 H1 _ (Ext.refl _ _) S1 (ir_rng _ _)⟩
end
end Rf
namespace Rf
set_option autoImplicit false
open PySem PySem.Spec L2

/-- where one stands: room, the wish about exceptions -/
structure Ctx (X : Cx) (W : Wi) (k : Nat) : Prop where
  room : Room k X.A
  tk : ∀ s, PassesAt (L2.CX X.prog X.w) X s (WE W.w s)
  tx : Takes X W.w
  po : PassesOwn (model X.prog X.w) X.A X.env X.xe
  nd : X.N.Nodup
  calm : X.calm = true

section
variable {K : KW} {X : Cx} {W : Wi} {pos : Pos} {k : Nat}
theorem Ctx.of (room : Room k X.A) (tx : Takes X W.w) (po : PassesOwn (model X.prog X.w) X.A X.env X.xe) (nd : X.N.Nodup) (calm : X.calm = true) : Ctx X W k := ⟨room, fun s => passAt tx s, tx, po, nd, calm⟩
theorem Ctx.blk (c : Ctx X W k) (s : Shared) (H : Hp) (scope : Scope) (cenv : PySem.Env) (fp : List Addr) : Ctx (X.blk s H scope cenv fp) W.inn k :=
  .of c.room takes0 PassesOwn.never c.nd c.calm
theorem Ctx.mono {j : Nat} (c : Ctx X W k) (h : j ≤ k) : Ctx X W j := ⟨c.room.mono h, c.tk, c.tx, c.po, c.nd, c.calm⟩

/-! ### for -/
def forGo (s : Src) (t : T) (body : SM) : List D → SM
  | [], l, st => if s.chk st = true then .nx l st else .fail
  | d :: r, l, st => if s.chk st = true then (match t.put d l with
    | none => .fail
    | some l1 => (match body l1 st with
      | .nx l2 st2 => forGo s t body r l2 st2
      | .ct l2 st2 => forGo s t body r l2 st2
      | .bk l2 st2 => .nx l2 st2
      | .rt d st2 => .rt d st2
      | .exc c fs l2 st2 => .exc c fs l2 st2
      | .fail => .fail)) else .fail
def forM (it : EM Src) (t : T) (body : SM) : SM := fun l st => (it l st).toS l fun s st1 => forGo s t body s.items l st1
theorem postS_if {io N : List Addr} {H : Hp} {D : Ends} {c : Prop} [Decidable c] {z : Sz} (p : PostS K io N H (if c then z else .fail) D W) : c ∧ PostS K io N H z D W := by
  by_cases h : c
  · rw [if_pos h] at p; exact ⟨h, p⟩
  · rw [if_neg h] at p; exact p.elim
theorem rs_for {wi : TI} {g : TG} {tb : TS} {it : EM Src} {t : T} {body : SM} (h1 : RG K rI W wi it) (h2 : RT K g t) (hp : W.may t.slots = true) (h3 : RS K W tb body) : RS K W (tFor wi g tb) (forM it t body) := by
  intro io N H s l st D hl hs p
  refine h1.seqS hl hs p fun io1 H1 src J st1 e1 S1 ir p1 => ?_
  have ir : IR K io1 N H1 J src := ir
  have p1 : PostS K io1 N H1 (forGo src t body src.items l st1) D W := p1
  refine ⟨fun i m s' H' => m = src.items.length - i ∧ i ≤ src.items.length ∧ ∃ io' l' st', Ext io1 H1 io' H' ∧ REnv K W io' N H' l' s' ∧ RSt K io' N H' st' ∧ PostS K io' N H' (forGo src t body (src.items.drop i) l' st') D W,
    ⟨src.items.length, rfl, Nat.zero_le _, io1, l, st1, Ext.refl _ _, hl.mono e1, S1, p1⟩, ?_⟩
  rintro i m s' H' ⟨rfl, hi, io', l', st', ex, hl', S', p'⟩
  by_cases hlt : i < src.items.length
  · rw [List.drop_eq_getElem_cons hlt] at p'
    unfold forGo at p'
    obtain ⟨hc, p'⟩ := postS_if p'
    obtain ⟨go, yl⟩ := (ir io' [] H' st' (by simp) ex.s S' hc i).1 hlt
    refine .inr ⟨go, fun s2 H2 => ∃ m', m' < src.items.length - i ∧ (m' = src.items.length - (i + 1) ∧ i + 1 ≤ src.items.length ∧ ∃ io' l' st', Ext io1 H1 io' H2 ∧ REnv K W io' N H2 l' s2 ∧ RSt K io' N H2 st' ∧ PostS K io' N H2 (forGo src t body (src.items.drop (i + 1)) l' st') D W), fun s2 H2 h => h, fun x H2 y => ?_⟩
    obtain ⟨d, ed, rd, ex2, S2⟩ := yl x H2 y
    rw [List.getElem?_eq_getElem hlt] at ed
    cases ed
    cases hpu : t.put src.items[i] l' with
    | none => rw [hpu] at p'; exact p'.elim
    | some l1 =>
      rw [hpu] at p'
      have hp2 : t.put src.items[i] l' = some l1 := hpu
      refine h2 W hp io' N H2 s' l' l1 _ x _ (hl'.mono ex2) rd hp2 fun s3 hl3 _ => ?_
      refine h3 io' N H2 s3 l1 st' _ hl3 S2 ?_
      have p2 := PostS.step ex2 p'
      simp only at p2
      have ex3 := ex.trans ex2
      cases hb : body l1 st' with
      | nx l2 st2 =>
        rw [hb] at p2
        exact fun io4 H4 s4 e4 r4 S4 => ⟨_, by omega, rfl, hlt, io4, l2, st2, ex3.trans e4, r4, S4, PostS.step e4 p2⟩
      | ct l2 st2 =>
        rw [hb] at p2
        exact fun io4 H4 s4 e4 r4 S4 => ⟨_, by omega, rfl, hlt, io4, l2, st2, ex3.trans e4, r4, S4, PostS.step e4 p2⟩
      | bk l2 st2 => rw [hb] at p2; exact p2
      | rt d st2 => rw [hb] at p2; exact p2
      | exc c fs l2 st2 => rw [hb] at p2; exact p2
      | fail => rw [hb] at p2; exact p2
  · have e : i = src.items.length := by omega
    subst e
    rw [List.drop_length] at p'
    unfold forGo at p'
    obtain ⟨hc, p'⟩ := postS_if p'
    exact .inl ⟨(ir io' [] H' st' (by simp) ex.s S' hc _).2 rfl, p' io' H' s' (Ext.refl _ _) hl' S'⟩
theorem ms_for {tg iter : Expr} {body : List Stmt} {it : EM Src} {t : T} {mb : SM} (c : Ctx X W k) (hi : MI X W tg iter it) (hg : MG X tg t) (hb : MSs X W body mb) (hp : W.may t.slots = true := by rfl) (hs : ∀ x, foldedSetIterable iter X.env x = pure x := by intro _; rfl) : MS X W (.For tg iter body [] pos) (forM it t mb) := by
  obtain ⟨wi, p1, q1⟩ := hi
  obtain ⟨g, p2, q2⟩ := hg
  obtain ⟨tb, p3, q3⟩ := hb
  exact ⟨_, ps_for c.po c.calm p1 p2 p3 hs, rs_for q1 q2 hp q3⟩
/-! ### while -/
def whGo (c : EM Bool) (body : SM) : Nat → SM
  | 0, _, _ => .fail
  | n + 1, l, st => (c l st).toS l fun b st1 => if b = true then (match body l st1 with
    | .nx l2 st2 => whGo c body n l2 st2
    | .ct l2 st2 => whGo c body n l2 st2
    | .bk l2 st2 => .nx l2 st2
    | .rt d st2 => .rt d st2
    | .exc e fs l2 st2 => .exc e fs l2 st2
    | .fail => .fail) else .nx l st1
theorem rs_while {tc : TT} {tb : TS} {c : EM Bool} {body : SM} (n : Nat) (h1 : RG K (rE Bool) W tc c) (h3 : RS K W tb body) : RS K W (tWhile tc tb) (whGo c body n) := by
  intro io N H s l st D hl hs p
  refine ⟨fun m s' H' => ∃ io' l' st', Ext io H io' H' ∧ REnv K W io' N H' l' s' ∧ RSt K io' N H' st' ∧ PostS K io' N H' (whGo c body m l' st') D W, ⟨n, io, l, st, Ext.refl _ _, hl, hs, p⟩, ?_⟩
  rintro m s' H' ⟨io', l', st', ex, hl', S', p'⟩
  cases m with
  | zero => exact p'.elim
  | succ m =>
    unfold whGo at p'
    refine h1.seqS hl' S' p' fun io1 H1 b b' st1 e1 S1 r1 p1 => ?_
    obtain rfl : b = b' := r1
    cases b with
    | false => exact p1 io1 H1 s' (Ext.refl _ _) (hl'.mono e1) S1
    | true =>
      refine ⟨fun s2 H2 => ∃ m', m' < m + 1 ∧ ∃ io' l' st', Ext io H io' H2 ∧ REnv K W io' N H2 l' s2 ∧ RSt K io' N H2 st' ∧ PostS K io' N H2 (whGo c body m' l' st') D W, fun _ _ h => h, ?_⟩
      refine h3 io1 N H1 s' l' st1 _ (hl'.mono e1) S1 ?_
      have ex3 := ex.trans e1
      rw [if_pos rfl] at p1
      cases hb : body l' st1 with
      | nx l2 st2 =>
        rw [hb] at p1
        exact fun io4 H4 s4 e4 r4 S4 => ⟨m, Nat.lt_succ_self _, io4, l2, st2, ex3.trans e4, r4, S4, PostS.step e4 p1⟩
      | ct l2 st2 =>
        rw [hb] at p1
        exact fun io4 H4 s4 e4 r4 S4 => ⟨m, Nat.lt_succ_self _, io4, l2, st2, ex3.trans e4, r4, S4, PostS.step e4 p1⟩
      | bk l2 st2 => rw [hb] at p1; exact p1
      | rt d st2 => rw [hb] at p1; exact p1
      | exc c fs l2 st2 => rw [hb] at p1; exact p1
      | fail => rw [hb] at p1; exact p1
theorem ms_while {e : Expr} {body : List Stmt} {t : EM Bool} {mb : SM} (c : Ctx X W k) (n : Nat) (hc : MT X W e t) (hb : MSs X W body mb) : MS X W (.While e body [] pos) (whGo t mb n) := by
  obtain ⟨tc, p1, q1⟩ := hc
  obtain ⟨tb, p3, q3⟩ := hb
  exact ⟨_, ps_while c.po p1 p3, rs_while n q1 q3⟩
/-! ### comprehensions -/
/-- what raises is not served -/
def Rz.nox {A : Type} (z : Rz A) : Rz A := match z with
  | .exc _ _ _ => .fail
  | z => z
def lcGo (s : Src) (t : T) (c : EM Bool) (el : EM D) (l : Sl) : List D → Store → Rz (List D)
  | [], st => if s.chk st = true then .ok [] st else .fail
  | d :: r, st => if s.chk st = true then (match t.put d l with
    | none => .fail
    | some l1 => (c l1 st).nox.bind fun b st1 => if b = true then (el l1 st1).nox.bind fun e st2 => (lcGo s t c el l r st2).bind fun es st3 => .ok (e :: es) st3 else lcGo s t c el l r st1) else .fail
def wipeD (l : Sl) : List Nat → Sl
  | [] => l
  | v :: vs => (wipeD l vs).set v none
theorem REnv.wipe {io N : List Addr} {H : Hp} {l : Sl} {s : St} (h : REnv K W io N H l s) : ∀ vs : List Nat, W.may vs = true → REnv K W io N H (wipeD l vs) (wipe s vs)
  | [], _ => h
  | v :: vs, hp => (h.wipe vs (may_app2 (a := [v]) hp)).unset v (Wi.may_of hp (by simp))
def lcM (it : EM Src) (t : T) (c : EM Bool) (el : EM D) (vs : List Nat) : EM (List D) := fun l st => (it l st).bind fun s st1 => if small s.items.length = true then lcGo s t c el (wipeD l vs) s.items st1 else .fail
def yesM : EM Bool := fun _ st => .ok true st
theorem Rz.bind_ok {A : Type} (z : Rz A) : (z.bind fun a st => .ok a st) = z := by cases z <;> rfl
theorem wipe_sub {s : St} {vs : List Nat} : ∀ ws : List Nat, (∀ i ∈ ws, i ∈ vs) → wipe (wipe s ws) vs = wipe s vs
  | [], _ => rfl
  | w :: ws, h => by
    show wipe ((wipe s ws).set w none) vs = wipe s vs
    rw [wipe_set (h w List.mem_cons_self), wipe_sub ws fun i hi => h i (List.mem_cons_of_mem _ hi)]
/-- what is shunned changes: nothing else feels it -/
theorem Ext.trans_own {io io' : List Addr} {H H' : Hp} {p : Addr} {u : HO} (e : Ext io H io' H') (hp : H p = none) : Ext io H io' (upd H' p u) :=
  ⟨e.pre, fun q o h z => by rw [upd_ne (ne_of_none z hp)]; exact e.keep q o h z, fun q h => by
    by_cases z : q = p
    · rw [z]; exact hp
    · rw [upd_ne z] at h; exact e.trk q h⟩
mutual
theorem Rep.own {io N : List Addr} {H : Hp} {p : Addr} {u : HO} : ∀ (d : D) (v : V), Rep K io (p :: N) H d v → Rep K io (p :: N) (upd H p u) d v
  | .non, _, h => h
  | .bl _, _, h => h
  | .int _, _, h => h
  | .str _, _, h => h
  | .tup l, _, h => by
    obtain ⟨q, xs, rfl, ⟨c1, c2, c3⟩, r⟩ := h
    exact ⟨q, xs, rfl, ⟨c1, c2, c3.keep fun u z => by rw [upd_ne (fun z => c2 (by rw [z]; exact List.mem_cons_self))]; exact z⟩, Reps.own l xs r⟩
  | .tw l, _, h => by
    obtain ⟨q, xs, rfl, ⟨c1, c2, c3⟩, r⟩ := h
    exact ⟨q, xs, rfl, ⟨c1, c2, by rw [upd_ne (fun z => c2 (by rw [z]; exact List.mem_cons_self))]; exact c3⟩, Reps.own l xs r⟩
  | .fl l, _, h => by
    obtain ⟨q, xs, rfl, ⟨c1, c2, c3⟩, r⟩ := h
    exact ⟨q, xs, rfl, ⟨c1, c2, by rw [upd_ne (fun z => c2 (by rw [z]; exact List.mem_cons_self))]; exact c3⟩, Reps.own l xs r⟩
  | .rd l, _, h => by
    obtain ⟨q, xs, rfl, c, r⟩ := h
    refine ⟨q, xs, rfl, ?_, Reps.own l xs r⟩
    rcases c with ⟨c1, c2, c3⟩ | c
    · have ne : q ≠ p := fun z => c2 (by rw [z]; exact List.mem_cons_self)
      exact .inl ⟨c1, c2, by rw [upd_ne ne]; exact c3⟩
    · exact .inr c
  | .ref _, _, h => h
  | .any, _, _ => True.intro
  | .cod, _, h => by
    obtain ⟨c, rfl, c1, c2, c3⟩ := h
    exact ⟨c, rfl, c1, c2, by rw [upd_ne (fun z => c2 (by rw [z]; exact List.mem_cons_self))]; exact c3⟩
  | .lam j cl, _, h => by
    obtain ⟨c, f, dv, rfl, ⟨c1, c2, c3⟩, ⟨d1, d2, d3⟩, dk⟩ := h
    refine ⟨c, f, dv, rfl, ⟨c1, c2, by rw [upd_ne (fun z => c2 (by rw [z]; exact List.mem_cons_self))]; exact c3⟩, ⟨d1, d2, by rw [upd_ne (fun z => d2 (by rw [z]; exact List.mem_cons_self))]; exact d3⟩, ?_⟩
    rcases dk with dk | ⟨d, e1, e2, e3, e4⟩
    · exact .inl dk
    · exact .inr ⟨d, e1, e2, e3, e4.keep fun u z => by rw [upd_ne (fun z => e3 (by rw [z]; exact List.mem_cons_self))]; exact z⟩
theorem Reps.own {io N : List Addr} {H : Hp} {p : Addr} {u : HO} : ∀ (l : List D) (xs : List V), Reps K io (p :: N) H l xs → Reps K io (p :: N) (upd H p u) l xs
  | [], _, h => h
  | d :: l, _, h => by
    obtain ⟨v, ys, rfl, a, b⟩ := h
    exact ⟨v, ys, rfl, Rep.own d v a, Reps.own l ys b⟩
end
theorem RepP.own {io N : List Addr} {H : Hp} {p : Addr} {u : HO} {k : Type} : ∀ {l : List (k × D)} {xs : List (k × V)}, RepP K io (p :: N) H l xs → RepP K io (p :: N) (upd H p u) l xs
  | [], _, h => h
  | d :: l, _, h => by
    obtain ⟨v, ys, rfl, a, b⟩ := h
    exact ⟨v, ys, rfl, Rep.own _ _ a, RepP.own b⟩
theorem RSt.own {io N : List Addr} {H : Hp} {p : Addr} {u : HO} {st : Store} (S : RSt K io (p :: N) H st) (hp : p ∉ io) : RSt K io (p :: N) (upd H p u) st := ⟨S.len, S.nd, fun n o h => by
  obtain ⟨a, v, e1, e2, e3⟩ := S.ob n o h
  exact ⟨a, v, e1, by rw [upd_ne (fun z => hp (by rw [← z]; exact List.mem_of_getElem? e1))]; exact e2, RepU.imp (fun _ _ r => r.own) (fun _ _ r => r.own) (fun _ _ _ r => r.own) o v e3⟩, fun a ha z => by
  by_cases h : a = p
  · rw [h, upd_same] at z; cases z
  · rw [upd_ne h] at z; exact S.tr a ha z⟩
/-- the block's own wish is nothing -/
theorem RG.inner {A B C E : Type} {R : Rp A B} {R2 : Rp C E} {t : St → Hp → (B → Hp → Prop) → Prop} {m : EM A} (h : RG K R W.inn t m) {io io0 N N0 : List Addr} {H H0 : Hp} {s : St} {l : Sl} {st : Store} (hl : REnv K W.inn io N H l s) (hs : RSt K io N H st)
    {k : A → Store → Rz C} {Q : E → Hp → Prop} {Z : B → Hp → Prop} {Y : XK} (p : Post K R2 io0 N0 H0 ((m l st).nox.bind k) Q Y)
    (hk : ∀ io' H' a b st', Ext io H io' H' → RSt K io' (R.sh b ++ N) H' st' → R.r K H io' N H' a b → Post K R2 io0 N0 H0 (k a st') Q Y → Z b H') : t s H Z := by
  refine h io N H s l st Z hl hs ?_
  cases e : m l st with
  | ok a st' =>
    rw [e] at p
    exact fun io' H' b ex S r => hk io' H' a b st' ex S r p
  | exc c fs st' =>
    rw [e] at p
    exact p.elim
  | fail =>
    rw [e] at p
    exact p.elim
theorem may_sub {a b : List Nat} (h : W.may b = true) (hs : ∀ i ∈ a, i ∈ b) : W.may a = true := List.all_eq_true.mpr fun i hi => List.all_eq_true.mp h i (hs i hi)
theorem rg_lc {wi : TI} {g : TG} {tt : TT} {te : TE} {it : EM Src} {t : T} {c : EM Bool} {el : EM D} {vs : List Nat} (h1 : RG K rI W wi it) (h2 : RT K g t) (h3 : RG K (rE Bool) W.inn tt c) (h4 : RG K rD W.inn te el) (hv : ∀ i ∈ t.slots, i ∈ vs) (hp : W.may vs = true) : RG K rL W (tLc wi g tt te vs) (lcM it t c el vs) := by
  intro io N H s l st Q hl hs p
  refine h1.seq hl hs p fun io1 H1 src J st1 e1 S1 ir p1 => ?_
  have ir : IR K io1 N H1 J src := ir
  obtain ⟨hsm, p1⟩ := post_if p1
  have hsm := Nat.le_of_ble_eq_true hsm
  have p1 : Post K rL io1 N H1 (lcGo src t c el (wipeD l vs) src.items st1) Q (fun c d H' => W.w c d s H') := p1
  intro Dl hD
  have hM : ∀ a ∈ [Dl], H1 a = none := fun a ha => by rw [List.mem_singleton.mp ha]; exact hD
  have hlD : ∀ {io' H'}, Ext io1 H1 io' H' → REnv K W.inn io' (Dl :: N) H' (wipeD l vs) (wipe s vs) := fun ex => (((REnv.inn (hl.mono e1)).shun hD).wipe vs hp).mono ex
  refine ⟨fun i m H' => m = src.items.length - i ∧ i ≤ src.items.length ∧ ∃ io' st' acc xs, Ext io1 H1 io' H' ∧ RSt K io' (Dl :: N) H' st' ∧ Dl ∉ io' ∧ H' Dl = some (.lst xs) ∧ Reps K io' (Dl :: N) H' acc xs ∧ acc.length ≤ i ∧
      Post K rL io1 N H1 ((lcGo src t c el (wipeD l vs) (src.items.drop i) st').bind fun es st2 => .ok (acc ++ es) st2) Q (fun c d H' => W.w c d s H'),
    ⟨src.items.length, rfl, Nat.zero_le _, io1, st1, [], [], Ext.new hD, S1.fresh hD, S1.out hD, upd_same, rfl, Nat.zero_le _, ?_⟩, ?_⟩
  · have e0 : ((lcGo src t c el (wipeD l vs) (src.items.drop 0) st1).bind fun es st2 => .ok ([] ++ es) st2) = lcGo src t c el (wipeD l vs) src.items st1 := by
      rw [List.drop_zero]
      exact Rz.bind_ok _
    rw [e0]
    exact p1
  rintro i m H' ⟨rfl, hi, io', st', acc, xs, ex, S', nD, hDl, rr, hacc, p'⟩
  by_cases hlt : i < src.items.length
  · rw [List.drop_eq_getElem_cons hlt] at p'
    unfold lcGo at p'
    by_cases hc : src.chk st' = true
    · rw [if_pos hc] at p'
      obtain ⟨go, yl⟩ := (ir io' [Dl] H' st' hM ex.s S' hc i).1 hlt
      refine .inr ⟨go, fun H2 => ∃ m', m' < src.items.length - i ∧ (m' = src.items.length - (i + 1) ∧ i + 1 ≤ src.items.length ∧ ∃ io' st' acc xs, Ext io1 H1 io' H2 ∧ RSt K io' (Dl :: N) H2 st' ∧ Dl ∉ io' ∧ H2 Dl = some (.lst xs) ∧ Reps K io' (Dl :: N) H2 acc xs ∧ acc.length ≤ i + 1 ∧
        Post K rL io1 N H1 ((lcGo src t c el (wipeD l vs) (src.items.drop (i + 1)) st').bind fun es st2 => .ok (acc ++ es) st2) Q (fun c d H' => W.w c d s H')), fun H2 h => h, fun x H2 y => ?_⟩
      obtain ⟨d, ed, rd, ex2, S2⟩ := yl x H2 y
      rw [List.getElem?_eq_getElem hlt] at ed
      cases ed
      cases hpu : t.put src.items[i] (wipeD l vs) with
      | none => rw [hpu] at p'; exact p'.elim
      | some l1 =>
        rw [hpu] at p'
        have p' : Post K rL io1 N H1 (((c l1 st').nox.bind fun b st1 => if b = true then (el l1 st1).nox.bind fun e st2 => (lcGo src t c el (wipeD l vs) (src.items.drop (i + 1)) st2).bind fun es st3 => .ok (e :: es) st3 else lcGo src t c el (wipeD l vs) (src.items.drop (i + 1)) st1).bind fun es st2 => .ok (acc ++ es) st2) Q (fun c d H' => W.w c d s H') := p'
        refine h2 W.inn (may_sub hp hv) io' (Dl :: N) H2 _ _ l1 _ x _ (hlD (ex.trans ex2)) rd hpu fun s3 hl3 hw => ?_
        refine ⟨(hw vs hv).trans (wipe_sub vs fun i hi => hi), ?_⟩
        rw [Rz.bind_bind] at p'
        refine h3.inner hl3 S2 p' fun io3 H3 b b' st3 e3 S3 rb p3 => ?_
        obtain rfl : b = b' := rb
        have ex3 := (ex.trans ex2).trans e3
        cases b with
        | false => exact ⟨_, by omega, rfl, hlt, io3, st3, acc, xs, ex3, S3, e3.notin (ex2.notin nD hDl) (ex2.keep _ _ nD hDl), e3.keep _ _ (ex2.notin nD hDl) (ex2.keep _ _ nD hDl), (rr.mono ex2).mono e3, by omega, p3⟩
        | true =>
          have p3 : Post K rL io1 N H1 (((el l1 st3).nox.bind fun e st2 => (lcGo src t c el (wipeD l vs) (src.items.drop (i + 1)) st2).bind fun es st3 => .ok (e :: es) st3).bind fun es st2 => .ok (acc ++ es) st2) Q (fun c d H' => W.w c d s H') := p3
          rw [Rz.bind_bind] at p3
          rw [if_pos rfl]
          refine h4.inner (hl3.mono e3) S3 p3 fun io4 H4 d4 v4 st4 e4 S4 r4 p4 => ?_
          have nD2 := ex2.notin nD hDl
          have hD2 := ex2.keep _ _ nD hDl
          have nD3 := e3.notin nD2 hD2
          have hD3 := e3.keep _ _ nD2 hD2
          have nD4 := e4.notin nD3 hD3
          have hD4 := e4.keep _ _ nD3 hD3
          have rr4 := ((rr.mono ex2).mono e3).mono e4
          have r4 : Rep K io4 (Dl :: N) H4 d4 v4 := r4
          have S4 : RSt K io4 (Dl :: N) H4 st4 := S4
          rw [Rz.bind_bind] at p4
          refine ⟨xs, hD4, by rw [rr4.len, sizeLine_eq]; omega, ?_⟩
          refine ⟨_, by omega, rfl, hlt, io4, st4, acc ++ [d4], xs ++ [v4], (ex3.trans e4).trans_own hD, S4.own nD4, nD4, upd_same, Reps.own _ _ (rr4.app (Reps.one r4)), by rw [List.length_append, List.length_singleton]; omega, ?_⟩
          have e5 : ((lcGo src t c el (wipeD l vs) (src.items.drop (i + 1)) st4).bind fun es st2 => Rz.ok ((acc ++ [d4]) ++ es) st2) = ((lcGo src t c el (wipeD l vs) (src.items.drop (i + 1)) st4).bind fun a st => (Rz.ok (d4 :: a) st).bind fun es st2 => .ok (acc ++ es) st2) := by
            congr 1
            funext a st
            show Rz.ok ((acc ++ [d4]) ++ a) st = Rz.ok (acc ++ d4 :: a) st
            rw [List.append_assoc] <;> rfl
          rw [e5]
          exact p4
    · rw [if_neg hc] at p'
      exact p'.elim
  · have e : i = src.items.length := by omega
    subst e
    rw [List.drop_length] at p'
    unfold lcGo at p'
    by_cases hc : src.chk st' = true
    · rw [if_pos hc] at p'
      refine .inl ⟨(ir io' [Dl] H' st' hM ex.s S' hc _).2 rfl, ?_⟩
      have p2 : Post K rL io1 N H1 (.ok (acc ++ []) st') Q (fun c d H' => W.w c d s H') := p'
      rw [List.append_nil] at p2
      exact p2 io' H' (.ref Dl) ex S' ⟨Dl, xs, rfl, hD, nD, hDl, rr⟩
    · rw [if_neg hc] at p'
      exact p'.elim
end
end Rf
namespace Rf
set_option autoImplicit false
open PySem PySem.Spec L2

/-! ### the reading that a mirror says -/
def cE {A B : Type} (K : KW) (R : Rp A B) (W : Wi) (m : EM A) : St → Hp → (B → Hp → Prop) → Prop := fun s H Q => ∃ (io N : List Addr) (l : Sl) (st : Store), REnv K W io N H l s ∧ RSt K io N H st ∧ Post K R io N H (m l st) Q (fun c d H' => W.w c d s H')
theorem rg_cE {A B : Type} {K : KW} {R : Rp A B} {W : Wi} {m : EM A} : RG K R W (cE K R W m) m := fun io N H s l st Q hl hs p => ⟨io, N, l, st, hl, hs, p⟩
def cG (K : KW) (t : T) : TG := fun v s H Q => ∃ (W : Wi) (_ : W.may t.slots = true) (io N : List Addr) (l l' : Sl) (d : D), REnv K W io N H l s ∧ Rep K io N H d v ∧ t.put d l = some l' ∧ ∀ s', REnv K W io N H l' s' → (∀ vs : List Nat, (∀ i ∈ t.slots, i ∈ vs) → wipe s' vs = wipe s vs) → Q s' H
theorem rt_cG {K : KW} {t : T} : RT K (cG K t) t := fun W hp io N H s l l' d v Q hl r h q => ⟨W, hp, io, N, l, l', d, hl, r, h, q⟩
section
variable {K : KW} {X : Cx} {W : Wi} {pos : Pos} {k : Nat}
theorem ME.pe {e : Expr} {m : EM D} (h : ME X W e m) : PE X e (cE X.kw rD W m) := by
  obtain ⟨t, p, r⟩ := h
  exact ⟨fun pins s σ H Q I ⟨io, N, l, st, hl, hs, q⟩ => p.run pins s σ H Q I (r io N H σ l st Q hl hs q)⟩
theorem MT.pt {e : Expr} {m : EM Bool} (h : MT X W e m) : PT X e (cE X.kw (rE Bool) W m) := by
  obtain ⟨t, p, r⟩ := h
  exact ⟨fun pins s σ H Q I ⟨io, N, l, st, hl, hs, q⟩ => p.run pins s σ H Q I (r io N H σ l st Q hl hs q)⟩
theorem MG.pg {e : Expr} {t : T} (h : MG X e t) : PG X e (cG X.kw t) := by
  obtain ⟨g, p, r⟩ := h
  exact ⟨fun pins s σ H v u Q I rv ⟨W, hpr, io, N, l, l', d, hl, rd, hp, q⟩ => p.run pins s σ H v u Q I rv (r W hpr io N H σ l l' d v Q hl rd hp q)⟩
/-! ### comprehensions as expressions -/
/-- a comprehension's tests: none, or one -/
def MTs (X : Cx) (W : Wi) (ifs : List Expr) (m : EM Bool) : Prop := PTs X ifs (cE X.kw (rE Bool) W.inn m)
theorem mts_nil : MTs X W [] yesM := ⟨fun pins s σ H Q I ⟨io, N, l, st, hl, hs, q⟩ => pts_nil.run pins s σ H Q I (q io H true (Ext.refl _ _) hs rfl)⟩
theorem mts_one {c : Expr} {m : EM Bool} (h : MT X W.inn c m) : MTs X W [c] m := pts_one h.pt
theorem ml_lc {elt tg iter : Expr} {ifs : List Expr} {scope : Scope} (own : List (Str × Nat)) {it : EM Src} {t : T} {tt : EM Bool} {el : EM D} (c : Ctx X W k) (hi : MI X W tg iter it)
    (hg : ∀ (s : Shared) (H : Hp) (C : Addr) (cl : List (Str × Addr)) (fp : List Addr), MG (X.blk s H scope (compEnvC scope cl C X.env) fp) tg t)
    (ht : ∀ (s : Shared) (H : Hp) (C : Addr) (cl : List (Str × Addr)) (fp : List Addr), MTs (X.blk s H scope (compEnvC scope cl C X.env) fp) W ifs tt)
    (he : ∀ (s : Shared) (H : Hp) (C : Addr) (cl : List (Str × Addr)) (fp : List Addr), Ctx (X.blk s H scope (compEnvC scope cl C X.env) fp) W.inn k → ME (X.blk s H scope (compEnvC scope cl C X.env) fp) W.inn elt el)
    (ok : blkC X.N X.env.scope scope own = true := by decide +kernel) (hv : ∀ i ∈ t.slots, i ∈ own.map (·.2) := by decide) (hp : W.may (own.map (·.2)) = true := by rfl) (hs : ∀ x, foldedSetIterable iter X.env x = pure x := by intro _; rfl) :
    ML X W (.ListComp elt [⟨tg, iter, ifs, 0⟩] scope pos) (lcM it t tt el (own.map (·.2))) := by
  obtain ⟨wi, p1, q1⟩ := hi
  exact ⟨_, pe_lc (g := cG X.kw t) (tt := cE X.kw (rE Bool) W.inn tt) (te := cE X.kw rD W.inn el) c.calm c.nd p1 (blkOk_by ok) (fun s H C cl fp => (hg s H C cl fp).pg) ht (fun s H C cl fp => (he s H C cl fp (c.blk _ _ _ _ _)).pe) hs, rg_lc q1 rt_cG rg_cE rg_cE hv hp⟩
/-- name = [..] on one line, the name a plain local -/
theorem ms_setLc (i : Nat) {y : Str} {py : Pos} {elt tg iter : Expr} {ifs : List Expr} {scope : Scope} (own : List (Str × Nat)) {spos : Pos} {it : EM Src} {t : T} {tt : EM Bool} {el : EM D} {a : EM D} (c : Ctx X W k) (hi : MI X W tg iter it)
    (hg : ∀ (s : Shared) (H : Hp) (C : Addr) (cl : List (Str × Addr)) (fp : List Addr), MG (X.blk s H scope (compEnvC scope cl C X.env) fp) tg t)
    (ht : ∀ (s : Shared) (H : Hp) (C : Addr) (cl : List (Str × Addr)) (fp : List Addr), MTs (X.blk s H scope (compEnvC scope cl C X.env) fp) W ifs tt)
    (he : ∀ (s : Shared) (H : Hp) (C : Addr) (cl : List (Str × Addr)) (fp : List Addr), Ctx (X.blk s H scope (compEnvC scope cl C X.env) fp) W.inn k → ME (X.blk s H scope (compEnvC scope cl C X.env) fp) W.inn elt el)
    (conv : ∀ te, RG X.kw rL W te (lcM it t tt el (own.map (·.2))) → RG X.kw rD W te a)
    (hpi : W.may [i] = true := by rfl) (hy : X.N[i]? = some y := by rfl) (hyl : X.env.scope.names.lookup y = some .local := by rfl) (hsw : swapsWith (.ListComp elt [⟨tg, iter, ifs, 0⟩] scope pos) (some (.Name y py)) spos.line X.env = pure true := by exact sw_true rfl rfl rfl (by decide +kernel))
    (ok : blkC X.N X.env.scope scope own = true := by decide +kernel) (hv : ∀ i ∈ t.slots, i ∈ own.map (·.2) := by decide) (hp : W.may (own.map (·.2)) = true := by rfl) (hs : ∀ x, foldedSetIterable iter X.env x = pure x := by intro _; rfl) :
    MS X W (.Assign [.Name y py] (.ListComp elt [⟨tg, iter, ifs, 0⟩] scope pos) spos) (setM i a) := by
  obtain ⟨wi, p1, q1⟩ := hi
  exact ⟨_, ps_setLc (g := cG X.kw t) (tt := cE X.kw (rE Bool) W.inn tt) (te := cE X.kw rD W.inn el) c.calm c.nd hy hyl hsw p1 (blkOk_by ok) (fun s H C cl fp => (hg s H C cl fp).pg) ht (fun s H C cl fp => (he s H C cl fp (c.blk _ _ _ _ _)).pe) hs, rs_set i hpi (conv _ (rg_lc q1 rt_cG rg_cE rg_cE hv hp))⟩

/-! ### defs -/
abbrev FM := List D → Store → Rz D
def dfM (np nN : Nat) (body : SM) : FM := fun ds st => if ds.length = np then (match body (ds.map some ++ List.replicate (nN - np) none) st with
  | .nx _ st' => .ok .non st'
  | .rt d st' => .ok d st'
  | .exc c fs _ st' => .exc c fs st'
  | _ => .fail) else .fail
def spF (K : KW) (n : Nat) (m : FM) : Sp := fun vs H Q E => vs.length = n ∧ ∃ (io N : List Addr) (ds : List D) (st : Store), Reps K io N H ds vs ∧ RSt K io N H st ∧ Post K rD io N H (m ds st) Q E
/-- a def's body: what is wished of exceptions -/
def wD (E : XK) : Wi := ⟨fun cls d _ H => E cls d H, fun _ _ _ => True, [], fun _ _ => trivial, fun _ _ => trivial⟩
theorem env_start {io N : List Addr} {H : Hp} : ∀ {ds : List D} {vs : List V} (n : Nat), Reps K io N H ds vs → REn0 K io N H (ds.map some ++ List.replicate n none) (vs.map some ++ List.replicate n none)
  | [], _, n, h => by
    cases h
    induction n with
    | zero => rfl
    | succ n ih => exact ⟨none, _, rfl, ih⟩
  | _ :: _, _, n, h => by
    obtain ⟨v, ys, rfl, a, b⟩ := h
    exact ⟨v, _, rfl, a, env_start n b⟩
theorem fn_mk {P : Program} {w : World} {K : PySem.W.Frag} {mg : Str → Option Value} {base : Heap} {x qual : Str} {params : Arguments} {body : List Stmt} {scope : Scope} {f : Addr} {fd : FuncData} {Ns ps : List Str} {j : Nat} {m : SM} (F : FunD K x qual params body scope [] [] f fd) (S : FnScope Ns ps scope)
    (h : ∀ (cdv : Value) (A : Around) (outer : List PySem.Env) (s : Shared) (H : Hp) (E : XK), Ctx (cxOf (L2.CX P w) P w K mg base Ns qual scope f cdv A outer s H E) (wD E) j →
      MSs (cxOf (L2.CX P w) P w K mg base Ns qual scope f cdv A outer s H E) (wD E) body m) : FnOk P w K mg base (L2.CX P w) (j + 1) f fd ps (spF ⟨K, P, w⟩ ps.length (dfM ps.length Ns.length m)) := by
  refine F.ok S (fun vs H Q E h => h.1) fun cdv A outer s H vs Q E hr ⟨hlen, io, N, ds, st, r, hs, p⟩ => ?_
  obtain ⟨t, p1, q1⟩ := h cdv A outer s H E (.of hr (takes_of rfl rfl rfl rfl) (passes_of rfl) S.nd rfl)
  refine ⟨t, p1, ?_⟩
  have hd : ds.length = ps.length := by rw [← r.len]; exact hlen
  unfold dfM at p
  rw [if_pos hd] at p
  have hl : REnv ⟨K, P, w⟩ (wD E) io N H (ds.map some ++ List.replicate (Ns.length - ps.length) none) (L2.start Ns vs) := by
    unfold L2.start
    rw [hlen]
    exact ⟨trivial, env_start _ r⟩
  refine q1 io N H _ _ st _ hl hs ?_
  cases e : m (ds.map some ++ List.replicate (Ns.length - ps.length) none) st with
  | nx l' st' =>
    rw [e] at p
    exact fun io' H' s' ex rl S' => p io' H' .non ex S' rfl
  | rt d st' =>
    rw [e] at p
    exact p
  | exc c fs l' st' =>
    rw [e] at p
    exact fun io' H' s' cls dd ex rl S' rx => p io' H' cls dd ex S' rx
  | bk l' st' =>
    rw [e] at p
    exact p.elim
  | ct l' st' =>
    rw [e] at p
    exact p.elim
  | fail =>
    rw [e] at p
    exact p.elim
/-- a def by its name: the module holds it, it keeps its mirror's promise -/
structure Dfn (P : Program) (w : World) (K : PySem.W.Frag) (mg : Str → Option Value) (base : Heap) (x : Str) (n k : Nat) (m : FM) : Prop where
  ex : ∃ f fd ps, ps.length = n ∧ FnOk P w K mg base (L2.CX P w) k f fd ps (spF ⟨K, P, w⟩ n m) ∧ mg x = some (.ref f) ∧ PySem.W.keepIn K (.ref f) = true ∧ Binds K fd ps []
/-- a method of a class -/
structure Mfn (P : Program) (w : World) (K : PySem.W.Frag) (mg : Str → Option Value) (base : Heap) (C m : Str) (n k : Nat) (f : FM) : Prop where
  cls : Cls K (He.ga K C)
  ex : ∃ fa fd ps, ps.length = n ∧ FnOk P w K mg base (L2.CX P w) k fa fd ps (spF ⟨K, P, w⟩ n f) ∧ Meth K (He.ga K C) m fa ∧ Binds K fd ps []
def callM (m : FM) (a : EM (List D)) : EM D := fun l st => (a l st).bind fun ds st1 => m ds st1
theorem rg_call {n : Nat} {m : FM} {ta : TA} {a : EM (List D)} (h : RG K rA W ta a) (hn : ∀ l st ds st', a l st = .ok ds st' → ds.length = n) : RG K rD W (tCallS (spF K n m) (WE W.w) ta) (callM m a) := by
  intro io N H s l st Q hl hs p
  refine h io N H s l st _ hl hs ?_
  unfold callM at p
  cases e : a l st with
  | ok ds st1 =>
    rw [e] at p
    exact fun io1 H1 vs e1 S1 r1 => ⟨by rw [Reps.len r1, hn l st ds st1 e], io1, N, ds, st1, r1, S1, Post.step e1 p⟩
  | exc c fs st1 => rw [e] at p; exact p
  | fail => rw [e] at p; exact p
/-- so many arguments -/
def argN (n : Nat) (a : EM (List D)) : Prop := ∀ l st ds st', a l st = .ok ds st' → ds.length = n
theorem argN_nil : argN 0 nilA := fun l st ds st' h => by cases h; rfl
theorem argN_cons {n : Nat} {a : EM D} {r : EM (List D)} (h : argN n r) : argN (n + 1) (consA a r) := fun l st ds st' e => by
  unfold consA at e
  cases h1 : a l st with
  | ok d st1 =>
    rw [h1] at e
    have e : ((r l st1).bind fun ds st2 => Rz.ok (d :: ds) st2) = .ok ds st' := e
    cases h2 : r l st1 with
    | ok es st2 =>
      rw [h2] at e
      cases e
      rw [List.length_cons, h l st1 es _ h2]
    | exc _ _ _ => rw [h2] at e; cases e
    | fail => rw [h2] at e; cases e
  | exc _ _ _ => rw [h1] at e; cases e
  | fail => rw [h1] at e; cases e
theorem me_call {x : Str} {n j : Nat} {m : FM} {e : Expr} {es : List Expr} {a : EM (List D)} {p : Pos} (c : Ctx X W k) (F : Dfn X.prog X.w X.K X.mg X.base x n j m) (ha : MA X W (e :: es) a) (hn : argN n a) (hj : j ≤ k := by decide) (hg : Gl X x := by rfl) (hdb : (x == ("__debug__" : Str)) = false := by decide)
    (he : starEach (e :: es) X.env = (false, eval e X.env) :: starEach es X.env := by rfl) (hpl : (backTo pos (starEach es X.env)).any (·.1) = false := by rfl) : ME X W (.Call (.Name x p) (e :: es) [] pos) (callM m a) := by
  obtain ⟨f, fd, ps, hl, fo, hm, hk, hb⟩ := F.ex
  obtain ⟨t, p1, q1⟩ := ha
  exact ⟨_, pe_callS fo (c.room.mono hj) hg hm hk hb c.tk p1 hdb he hpl, rg_call q1 hn⟩
theorem me_call0 {x : Str} {j : Nat} {m : FM} {p : Pos} (c : Ctx X W k) (F : Dfn X.prog X.w X.K X.mg X.base x 0 j m) (hj : j ≤ k := by decide) (hg : Gl X x := by rfl) (hdb : (x == ("__debug__" : Str)) = false := by decide) : ME X W (.Call (.Name x p) [] [] pos) (callM m nilA) := by
  obtain ⟨f, fd, ps, hl, fo, hm, hk, hb⟩ := F.ex
  refine ⟨tCallS (spF X.kw 0 m) (WE W.w) tNil, ⟨fun pins s σ H Q I h => ?_⟩, rg_call (fun io N H s l st Q hl hs p => p io H [] (Ext.refl _ _) hs rfl) argN_nil⟩
  exact wpAny_Call_Name_kw (ld_glob I hg hm (PySem.W.callWith_K0 I.kIn hk (run_fnS (us := []) fo (c.room.mono hj) hb (c.tk σ) I .nil h)) hdb)
/-! ### methods -/
/-- a receiver of the class c, its attributes without the method's name -/
def recv (C m : Str) (a : EM D) : EM D := fun l st => (a l st).bind fun d st1 => match d with
  | .ref n => (match st1[n]? with
    | some (.ins c fs) => if c = C ∧ fs.lookup m = none then .ok (.ref n) st1 else .fail
    | _ => .fail)
  | _ => .fail
theorem RepP.look {io N : List Addr} {H : Hp} {f : Str} : ∀ {l : List (Str × D)} {xs : List (Str × V)}, RepP K io N H l xs → (l.lookup f = none → xs.lookup f = none) ∧ ∀ d, l.lookup f = some d → ∃ v, xs.lookup f = some v ∧ Rep K io N H d v
  | [], _, h => by cases h; exact ⟨fun _ => rfl, fun d e => (by cases e)⟩
  | (g, c) :: l, _, h => by
    obtain ⟨v, ys, rfl, a, b⟩ := h
    rw [List.lookup_cons, List.lookup_cons]
    cases hb : f == g with
    | true => exact ⟨fun e => (by cases e), fun d e => (by cases e; exact ⟨v, rfl, a⟩)⟩
    | false => exact b.look
theorem rs_ins {io N : List Addr} {H : Hp} {st : Store} {n : Nat} {c : Str} {fs : List (Str × D)} {v : V} (S : RSt K io N H st) (r : Rep K io N H (.ref n) v) (h : st[n]? = some (.ins c fs)) : ∃ a dx xs, v = .ref a ∧ io[n]? = some a ∧ H a = some (.ins (He.ga K c) dx xs) ∧ RepP K io N H fs xs := by
  obtain ⟨a, e1, rfl⟩ := r
  obtain ⟨b, u, e2, e3, dx, xs, rfl, e4⟩ := S.ob _ _ h
  rw [e1] at e2
  cases e2
  exact ⟨a, dx, xs, rfl, e1, e3, e4⟩
/-- o.m(..): E where one stands -/
def tMethS (C : Addr) (m : Str) (sp : Sp) (E : St → XK) (ta : TE) (t : TA) : TE := fun σ H Q => ta σ H fun x H1 => ∃ a dx fs, x = .ref a ∧ H1 a = some (.ins C dx fs) ∧ fs.lookup m = none ∧ t σ H1 fun vs H2 => sp (x :: vs) H2 Q (E σ)
theorem pe_methS {C fa : Addr} {fd : FuncData} {ps : List Str} {j : Nat} {sp : Sp} {m : Str} {E : St → XK} {o e : Expr} {es : List Expr} {ta : TE} {t : TA} {apos : Pos} {pl : Sem Bool} (he : PE X o ta) (c : Cls X.K C) (hm : Meth X.K C m fa)
    (F : FnOk X.prog X.w X.K X.mg X.base (L2.CX X.prog X.w) j fa fd ps sp) (hr : Room j X.A) (hb : Binds X.K fd ps []) (hx : ∀ σ, PassesAt (L2.CX X.prog X.w) X σ (E σ)) (ha : PA X (e :: es) t)
    (hst : starEach (e :: es) X.env = (false, eval e X.env) :: starEach es X.env) (hpl : (backTo pos (starEach es X.env)).any (·.1) = false)
    (ht : eval (.Call (.Attribute o m apos) (e :: es) [] pos) X.env = (do let ov ← eval o X.env; standAt apos.atName; let (f, first) ← holding [ov] (getMethod ov m pl); callWith pos f first (backTo pos (starEach (e :: es) X.env)) (backToKw pos (keywordEach [] X.env)))) :
    PE X (.Call (.Attribute o m apos) (e :: es) [] pos) (tMethS C m sp E ta t) := ⟨fun pins s σ H Q I h =>
  PySem.W.methodCall_KW (pl := pl) (thn (he.run pins s σ H _ I h) fun u s1 hh => by
    obtain ⟨x, H1, I1, rx, a, dx, fs, ex, ea, l, q⟩ := hh
    cases ex
    cases (show u = Value.ref a from rx)
    exact getmeth_ok I1 ea c hm l (PySem.W.callWith_K (first := [.ref a]) (h₀ := X.base) I.ok.mod.kin hm.kp (thn (ha.run pos pins s1 σ H1 _ I1 q) fun us s2 hh => by
      obtain ⟨vs, H2, I2, r, q2⟩ := hh
      exact ⟨I2.kIn, run_fnS (us := .ref a :: us) (vs := .ref a :: vs) F hr hb (hx σ) I2 (.cons rfl r) q2⟩) hst hpl)) ht⟩
theorem pe_methS0 {C fa : Addr} {fd : FuncData} {ps : List Str} {j : Nat} {sp : Sp} {m : Str} {E : St → XK} {o : Expr} {ta : TE} {apos : Pos} {pl : Sem Bool} (he : PE X o ta) (c : Cls X.K C) (hm : Meth X.K C m fa)
    (F : FnOk X.prog X.w X.K X.mg X.base (L2.CX X.prog X.w) j fa fd ps sp) (hr : Room j X.A) (hb : Binds X.K fd ps []) (hx : ∀ σ, PassesAt (L2.CX X.prog X.w) X σ (E σ))
    (ht : eval (.Call (.Attribute o m apos) [] [] pos) X.env = (do let ov ← eval o X.env; standAt apos.atName; let (f, first) ← holding [ov] (getMethod ov m pl); callWith pos f first (backTo pos (starEach [] X.env)) (backToKw pos (keywordEach [] X.env)))) :
    PE X (.Call (.Attribute o m apos) [] [] pos) (tMethS C m sp E ta tNil) := ⟨fun pins s σ H Q I h =>
  PySem.W.methodCall_KW (pl := pl) (thn (he.run pins s σ H _ I h) fun u s1 hh => by
    obtain ⟨x, H1, I1, rx, a, dx, fs, ex, ea, l, q⟩ := hh
    cases ex
    cases (show u = Value.ref a from rx)
    exact getmeth_ok I1 ea c hm l (PySem.W.callWith_K0 (first := [.ref a]) I1.kIn hm.kp (run_fnS (us := [.ref a]) (vs := [.ref a]) F hr hb (hx σ) I1 (.cons rfl .nil) q))) ht⟩
def methM (C m : Str) (f : FM) (o : EM D) (a : EM (List D)) : EM D := fun l st => (recv C m o l st).bind fun d st1 => (a l st1).bind fun ds st2 => f (d :: ds) st2
theorem rg_meth {C m : Str} {n : Nat} {f : FM} {o : EM D} {a : EM (List D)} {ta : TE} {t : TA} (h1 : RG K rD W ta o) (h2 : RG K rA W t a) (hn : argN n a) : RG K rD W (tMethS (He.ga K C) m (spF K (n + 1) f) (WE W.w) ta t) (methM C m f o a) := by
  intro io N H s l st Q hl hs p
  unfold methM recv at p
  rw [Rz.bind_bind] at p
  refine h1.seq hl hs p fun io1 H1 d v st1 e1 S1 r1 p1 => ?_
  cases d with
  | ref nn =>
    cases hh : st1[nn]? with
    | none => simp only [hh] at p1; exact p1.elim
    | some oo =>
      simp only [hh] at p1
      cases oo with
      | ins c fs =>
        simp only at p1
        by_cases hc : c = C ∧ fs.lookup m = none
        · rw [if_pos hc] at p1
          obtain ⟨rfl, hnone⟩ := hc
          obtain ⟨b, dx, xs, rfl, eio, eH, rp⟩ := rs_ins S1 r1 hh
          refine ⟨b, dx, xs, rfl, eH, rp.look.1 hnone, ?_⟩
          have p1 : Post K rD io1 N H1 ((a l st1).bind fun ds st2 => f (.ref nn :: ds) st2) Q (fun c d H' => W.w c d s H') := p1
          refine h2 io1 N H1 s l st1 _ (hl.mono e1) S1 ?_
          cases e : a l st1 with
          | ok ds st2 =>
            rw [e] at p1
            exact fun io2 H2 vs e2 S2 r2 => ⟨by rw [List.length_cons, Reps.len r2, hn l st1 ds st2 e], io2, N, .ref nn :: ds, st2, ⟨_, _, rfl, r1.mono e2, r2⟩, S2, Post.step e2 p1⟩
          | exc c fs st2 => rw [e] at p1; exact p1
          | fail => rw [e] at p1; exact p1
        · rw [if_neg hc] at p1; exact p1.elim
      | _ => exact p1.elim
  | _ => exact p1.elim
theorem me_meth {C m : Str} {n j : Nat} {f : FM} {o e : Expr} {es : List Expr} {mo : EM D} {a : EM (List D)} {apos : Pos} (pl : Sem Bool) (c : Ctx X W k) (F : Mfn X.prog X.w X.K X.mg X.base C m (n + 1) j f) (ho : ME X W o mo) (ha : MA X W (e :: es) a) (hn : argN n a) (hj : j ≤ k := by decide)
    (hst : starEach (e :: es) X.env = (false, eval e X.env) :: starEach es X.env := by rfl) (hpl : (backTo pos (starEach es X.env)).any (·.1) = false := by rfl)
    (ht : eval (.Call (.Attribute o m apos) (e :: es) [] pos) X.env = (do let ov ← eval o X.env; standAt apos.atName; let (f, first) ← holding [ov] (getMethod ov m pl); callWith pos f first (backTo pos (starEach (e :: es) X.env)) (backToKw pos (keywordEach [] X.env))) := by rfl) :
    ME X W (.Call (.Attribute o m apos) (e :: es) [] pos) (methM C m f mo a) := by
  obtain ⟨fa, fd, ps, hl, fo, hm, hb⟩ := F.ex
  obtain ⟨t, p1, q1⟩ := ho
  obtain ⟨t2, p2, q2⟩ := ha
  exact ⟨_, pe_methS p1 F.cls hm fo (c.room.mono hj) hb c.tk p2 hst hpl ht, rg_meth q1 q2 hn⟩
theorem me_meth0 {C m : Str} {j : Nat} {f : FM} {o : Expr} {mo : EM D} {apos : Pos} (pl : Sem Bool) (c : Ctx X W k) (F : Mfn X.prog X.w X.K X.mg X.base C m 1 j f) (ho : ME X W o mo) (hj : j ≤ k := by decide)
    (ht : eval (.Call (.Attribute o m apos) [] [] pos) X.env = (do let ov ← eval o X.env; standAt apos.atName; let (f, first) ← holding [ov] (getMethod ov m pl); callWith pos f first (backTo pos (starEach [] X.env)) (backToKw pos (keywordEach [] X.env))) := by rfl) :
    ME X W (.Call (.Attribute o m apos) [] [] pos) (methM C m f mo nilA) := by
  obtain ⟨fa, fd, ps, hl, fo, hm, hb⟩ := F.ex
  obtain ⟨t, p1, q1⟩ := ho
  exact ⟨_, pe_methS0 p1 F.cls hm fo (c.room.mono hj) hb c.tk ht, rg_meth (n := 0) q1 (fun io N H s l st Q hl hs p => p io H [] (Ext.refl _ _) hs rfl) argN_nil⟩
/-! ### attributes -/
def fldM (C f : Str) (a : EM D) : EM D := fun l st => (a l st).bind fun d st1 => match d with
  | .ref n => (match st1[n]? with
    | some (.ins c fs) => if c = C then (match fs.lookup f with
      | some v => .ok v st1
      | none => .fail) else .fail
    | _ => .fail)
  | _ => .fail
theorem me_fld {C f : Str} {o : Expr} {mo : EM D} (c : Cls X.K (He.ga X.K C)) (n : NoAttr X.K (He.ga X.K C) f) (ho : ME X W o mo) (hb : attributeBase o f X.env (eval o X.env) = eval o X.env := by rfl) : ME X W (.Attribute o f pos) (fldM C f mo) := by
  obtain ⟨t, p1, q1⟩ := ho
  refine ⟨_, pe_fld p1 hb, fun io N H s l st Q hl hs p => ?_⟩
  refine q1.seq hl hs p fun io1 H1 d v st1 e1 S1 r1 p1 => ?_
  cases d with
  | ref nn =>
    cases hh : st1[nn]? with
    | none => simp only [hh] at p1; exact p1.elim
    | some oo =>
      simp only [hh] at p1
      cases oo with
      | ins c fs =>
        simp only at p1
        obtain ⟨rfl, p1⟩ := post_if p1
        obtain ⟨b, dx, xs, rfl, eio, eH, rp⟩ := rs_ins S1 r1 hh
        cases hf : fs.lookup f with
        | none => simp only [hf] at p1; exact p1.elim
        | some d =>
          simp only [hf] at p1
          obtain ⟨v, e2, r2⟩ := rp.look.2 d hf
          exact ⟨b, _, dx, xs, v, rfl, eH, c, n, e2, post_val p1 S1 r2⟩
      | _ => exact p1.elim
  | _ => exact p1.elim
def putD (f : Str) (d : D) : List (Str × D) → List (Str × D)
  | [] => [(f, d)]
  | (g, e) :: r => if g = f then (g, d) :: r else (g, e) :: putD f d r
end
end Rf
namespace Rf
set_option autoImplicit false
open PySem PySem.Spec L2

section
variable {K : KW} {X : Cx} {W : Wi} {pos : Pos} {k : Nat} {io N : List Addr} {H : Hp} {st : Store}
theorem Ext.upd {a : Addr} {u : HO} (hm : a ∈ io) : Ext io H io (upd H a u) := ⟨⟨[], by simp, by simp⟩, fun p v hp e => by rw [upd_ne fun z => hp (by rw [z]; exact hm)]; exact e, fun p e => by
  by_cases z : p = a
  · subst z; rw [upd_same] at e; cases e
  · rw [upd_ne z] at e; exact e⟩
theorem RepP.len {t : Type} : ∀ {l : List (t × D)} {xs : List (t × V)}, RepP K io N H l xs → xs.length = l.length
  | [], _, h => by cases h; rfl
  | _ :: _, _, h => by obtain ⟨_, r, rfl, _, q⟩ := h; simp [q.len]
theorem RepP.put {f : Str} {d : D} {v : V} (r : Rep K io N H d v) : ∀ {l : List (Str × D)} {xs : List (Str × V)}, RepP K io N H l xs → RepP K io N H (putD f d l) (putF f v xs)
  | [], _, h => by cases h; exact ⟨v, [], rfl, r, rfl⟩
  | (g, c) :: l, _, h => by
    obtain ⟨w, ys, rfl, a, b⟩ := h
    unfold putD putF
    by_cases e : g = f
    · rw [if_pos e, if_pos e]
      exact ⟨v, ys, rfl, r, b⟩
    · rw [if_neg e, if_neg e]
      exact ⟨w, _, rfl, a, b.put r⟩
/-- an object's attribute is stored -/
def putM (C f : Str) (d x : D) (st : Store) : Option Store := match x with
  | .ref n => (match st[n]? with
    | some (.ins c fs) => if c = C ∧ fs.length < 900 then some (st.set n (.ins c (putD f d fs))) else none
    | _ => none)
  | _ => none
theorem putM_ok {C f : Str} {d x : D} {v w : V} {st' : Store} (S : RSt K io N H st) (r : Rep K io N H d v) (rx : Rep K io N H x w) (h : putM C f d x st = some st') :
    ∃ a dx xs, w = .ref a ∧ a ∈ io ∧ H a = some (.ins (He.ga K C) dx xs) ∧ xs.length < 1000 ∧ RSt K io N (upd H a (.ins (He.ga K C) dx (putF f v xs))) st' ∧ Ext io H io (upd H a (.ins (He.ga K C) dx (putF f v xs))) := by
  unfold putM at h
  split at h
  · rename_i n
    split at h
    · rename_i c fs e
      split at h
      · rename_i hc
        obtain ⟨rfl, hl⟩ := hc
        cases h
        obtain ⟨a, dx, xs, rfl, eio, eH, rp⟩ := rs_ins S rx e
        have hm := List.mem_of_getElem? eio
        have ex : Ext io H io (upd H a (.ins (He.ga K c) dx (putF f v xs))) := Ext.upd hm
        exact ⟨a, dx, xs, rfl, hm, eH, by rw [rp.len]; omega, (S.set (o := .ins c (putD f d fs)) eio ⟨dx, _, rfl, (rp.put r).mono ex⟩).1, ex⟩
      · cases h
    · cases h
  · cases h
def fldS (C f : Str) (v o : EM D) : SM := fun l st => (v l st).toS l fun d st1 => (o l st1).toS l fun x st2 => match putM C f d x st2 with
  | some st3 => .nx l st3
  | none => .fail
theorem ms_fld {C f : Str} {o value : Expr} {mo mv : EM D} {pos' : Pos} (c : Cls X.K (He.ga X.K C)) (n : NoAttr X.K (He.ga X.K C) f) (ho : ME X W o mo) (hv : ME X W value mv) (hs : swapsWith value (some (.Attribute o f pos')) pos.line X.env = pure false := by rfl) : MS X W (.Assign [.Attribute o f pos'] value pos) (fldS C f mv mo) := by
  obtain ⟨t, p1, q1⟩ := ho
  obtain ⟨t2, p2, q2⟩ := hv
  refine ⟨_, ps_fld p1 p2 hs, fun io N H s l st D hl hs p => ?_⟩
  refine q2.seqS hl hs p fun io1 H1 d v st1 e1 S1 r1 p => q1.seqS (hl.mono e1) S1 p fun io2 H2 x w st2 e2 S2 r2 p => ?_
  cases h : putM C f d x st2 with
  | none => rw [h] at p; exact p.elim
  | some st3 =>
    rw [h] at p
    obtain ⟨a, dx, xs, rfl, hm, eH, hl2, S3, ex⟩ := putM_ok S2 (r1.mono e2) r2 h
    exact ⟨a, _, dx, xs, rfl, eH, c, n, hl2, p io2 _ s ex (((hl.mono e1).mono e2).mono ex) S3⟩
/-- o.f += a number -/
def fldAug (C f : Str) (g : Int → Int → Int) (o v : EM D) : SM := fun l st => (o l st).toS l fun x st1 => match x with
  | .ref n => (match st1[n]? with
    | some (.ins c fs) => if c = C then (match fs.lookup f with
      | some (.int i) => (v l st1).toS l fun d st2 => (match d with
        | .int j => (match putM C f (.int (g i j)) (.ref n) st2 with
          | some st3 => .nx l st3
          | none => .fail)
        | _ => .fail)
      | _ => .fail) else .fail
    | _ => .fail)
  | _ => .fail
theorem ms_fldaug {C f : Str} {op : Operator} {g : Int → Int → Int} {o value : Expr} {mo mv : EM D} {tpos : Pos} (hop : InOp X op (fun x y H Q => ∃ i j, x = .int i ∧ y = .int j ∧ Q (.int (g i j)) H)) (c : Cls X.K (He.ga X.K C)) (n : NoAttr X.K (He.ga X.K C) f) (ho : ME X W o mo) (hv : ME X W value mv) :
    MS X W (.AugAssign (.Attribute o f tpos) op value pos) (fldAug C f g mo mv) := by
  obtain ⟨t, p1, q1⟩ := ho
  obtain ⟨t2, p2, q2⟩ := hv
  refine ⟨_, ps_fldaug p1 p2 hop, fun io N H s l st D hl hs p => ?_⟩
  refine q1.seqS hl hs p fun io1 H1 x w st1 e1 S1 r1 p => ?_
  cases x with
  | ref nn =>
    cases hh : st1[nn]? with
    | none => simp only [hh] at p; exact p.elim
    | some oo =>
      simp only [hh] at p
      cases oo with
      | ins cc fs =>
        simp only at p
        obtain ⟨rfl, p⟩ := postS_if p
        obtain ⟨a, dx, xs, rfl, eio, eH, rp⟩ := rs_ins S1 r1 hh
        cases hf : fs.lookup f with
        | none => simp only [hf] at p; exact p.elim
        | some d =>
          simp only [hf] at p
          cases d with
          | int i =>
            simp only at p
            obtain ⟨v0, e3, r3⟩ := rp.look.2 _ hf
            refine ⟨a, _, dx, xs, v0, rfl, eH, c, n, e3, ?_⟩
            refine q2.seqS (hl.mono e1) S1 p fun io2 H2 d v st2 e2 S2 r2 p => ?_
            cases d with
            | int j =>
              simp only at p
              refine ⟨i, j, r3, r2, ?_⟩
              cases h : putM cc f (.int (g i j)) (.ref nn) st2 with
              | none => rw [h] at p; exact p.elim
              | some st3 =>
                rw [h] at p
                have rv : Rep X.kw io2 N H2 (.int (g i j)) (.int (g i j)) := rfl
                obtain ⟨a', dx', xs', ea, hm, eH', hl2, S3, ex⟩ := putM_ok S2 rv (r1.mono e2) h
                cases ea
                exact ⟨dx', xs', eH', hl2, p io2 _ s ex (((hl.mono e1).mono e2).mono ex) S3⟩
            | _ => exact p.elim
          | _ => exact p.elim
      | _ => exact p.elim
  | _ => exact p.elim
/-- x op= e, x a name -/
def augM (i : Nat) (g : D → D → Store → Rz D) (a : EM D) : SM := fun l st => match l[i]? with
  | some (some x) => (a l st).toS l fun d st1 => (g x d st1).toS l fun y st2 => .nx (l.set i (some y)) st2
  | _ => .fail
theorem ms_aug (i : Nat) {x : Str} {e : Expr} {a : EM D} {op : Operator} {r : R2} {g : D → D → Store → Rz D} {pos' : Pos} (ho : OpR X (inplaceOp op) r) (h : OpM X.kw r g) (ha : ME X W e a) (hN : X.N.Nodup) (hi : X.N[i]? = some x := by rfl) (hx : Loc X.env.scope x := by first | exact Or.inl rfl | exact Or.inr rfl)
    (hf : X.fn x = true ∨ X.env.scope.names.lookup x = some .local := by first | exact .inl rfl | exact .inr rfl) (hp : W.may [i] = true := by rfl) : MS X W (.AugAssign (.Name x pos') op e pos) (augM i g a) := by
  obtain ⟨t, p1, q1⟩ := ha
  refine ⟨_, ps_aug (ti := r) hN hi hx p1 ho hf, fun io N H s l st D hl hs p => ?_⟩
  unfold augM at p
  split at p
  · rename_i xd e0
    obtain ⟨xv, e1, rx⟩ := hl.get e0
    refine ⟨xv, e1, ?_⟩
    refine q1.seqS hl hs p fun io1 H1 d v st1 ex1 S1 r1 p => ?_
    refine h io1 N H1 xv v xd d st1 _ (fun c dd H' => W.w c dd s H') S1 (rx.mono ex1) r1 ?_
    cases hg : g xd d st1 with
    | ok y st2 =>
      rw [hg] at p
      exact fun io2 H2 w ex2 S2 r2 => p io2 H2 _ ex2 (((hl.mono ex1).mono ex2).set i (Wi.may_of hp (by simp)) r2) S2
    | exc c fs st2 =>
      rw [hg] at p
      exact fun io2 H2 cls dd ex2 S2 r2 => p io2 H2 s cls dd ex2 ((hl.mono ex1).mono ex2) S2 r2
    | fail => rw [hg] at p; exact p
  · exact p.elim
def intM (g : Int → Int → Int) (d e : D) (st : Store) : Rz D := match d, e with
  | .int i, .int j => .ok (.int (g i j)) st
  | _, _ => .fail
theorem opm_int {g : Int → Int → Int} : OpM K (rI0 fun i j => .int (g i j)) (intM g) := by
  intro io N H x y d e st Q Y S r1 r2 p
  unfold intM at p
  split at p
  · exact ⟨_, _, r1, r2, post_val p S rfl⟩
  · exact p.elim
def intC (c : Int → Int → Bool) (g : Int → Int → Int) (d e : D) (st : Store) : Rz D := match d, e with
  | .int i, .int j => if c i j = true then .ok (.int (g i j)) st else .fail
  | _, _ => .fail
theorem opm_intC {C : Int → Int → Prop} {c : Int → Int → Bool} {g : Int → Int → Int} (hc : ∀ i j, c i j = true → C i j) : OpM K (L2.rI C fun i j => .int (g i j)) (intC c g) := by
  intro io N H x y d e st Q Y S r1 r2 p
  unfold intC at p
  split at p
  · obtain ⟨h, p⟩ := post_if p
    exact ⟨_, _, r1, r2, hc _ _ h, post_val p S rfl⟩
  · exact p.elim
abbrev iaddM := intM fun i j => i + j
abbrev isubM := intM fun i j => i - j
abbrev imulM := intC (fun i j => decide ((-18446744073709551616 < i ∧ i < 18446744073709551616) ∨ (-18446744073709551616 < j ∧ j < 18446744073709551616))) fun i j => i * j
abbrev ifdivM := intC (fun i j => decide (0 < j ∧ j < 1073741824)) fun i j => i / j
theorem imul_c : ∀ i j, (fun (i j : Int) => decide ((-18446744073709551616 < i ∧ i < 18446744073709551616) ∨ (-18446744073709551616 < j ∧ j < 18446744073709551616))) i j = true → CMul i j := fun i j h => by
  have q : (-18446744073709551616 < i ∧ i < 18446744073709551616) ∨ (-18446744073709551616 < j ∧ j < 18446744073709551616) := of_decide_eq_true h
  exact q
theorem ifdiv_c : ∀ i j, (fun (i j : Int) => decide (0 < j ∧ j < 1073741824)) i j = true → CDiv i j := fun i j h => by
  have q : 0 < j ∧ j < 1073741824 := of_decide_eq_true h
  exact q

/-! ### lists of the store, changed -/
/-- o.append(e) -/
def appM (o a : EM D) : EM D := fun l st => (o l st).bind fun x st1 => match x with
  | .ref n => (match st1[n]? with
    | some (.lst _) => (a l st1).bind fun d st2 => (match st2[n]? with
      | some (.lst ds) => if small ds.length = true then .ok .non (st2.set n (.lst (ds ++ [d]))) else .fail
      | _ => .fail)
    | _ => .fail)
  | _ => .fail
theorem rs_lst {n : Nat} {l : List D} {v : V} (S : RSt K io N H st) (r : Rep K io N H (.ref n) v) (h : st[n]? = some (.lst l)) : ∃ a xs, v = .ref a ∧ io[n]? = some a ∧ H a = some (.lst xs) ∧ Reps K io N H l xs := by
  obtain ⟨a, e1, rfl⟩ := r
  obtain ⟨b, u, e2, e3, xs, rfl, e4⟩ := S.ob _ _ h
  rw [e1] at e2
  cases e2
  exact ⟨a, xs, rfl, e1, e3, e4⟩
theorem rs_lstSet {n : Nat} {a : Addr} {l : List D} {xs : List V} (S : RSt K io N H st) (e : io[n]? = some a) (r : Reps K io N H l xs) : RSt K io N (upd H a (.lst xs)) (st.set n (.lst l)) ∧ Ext io H io (upd H a (.lst xs)) := by
  have ex : Ext io H io (upd H a (.lst xs)) := Ext.upd (List.mem_of_getElem? e)
  exact S.set e ⟨xs, rfl, r.mono ex⟩
theorem me_app {o e : Expr} {mo ma : EM D} {apos : Pos} (ho : ME X W o mo) (ha : ME X W e ma) (hs1 : starEach (e :: []) X.env = (false, eval e X.env) :: starEach [] X.env := by rfl) (hbase : attributeBase o "append" X.env (eval o X.env) = eval o X.env := by rfl)
    (hfew : ((backTo pos (starEach (e :: []) X.env)).all (fun x => !x.1) && (backToKw pos (keywordEach [] X.env)).all (fun x => x.1.isSome) && decide ((e :: ([] : List Expr)).length + ([] : List Keyword).length + (if ([] : List Keyword).isEmpty then 0 else 1) < 30)) = true := by rfl)
    (hline : (apos.endLine == pos.line) = true := by rfl) (hplain : (backTo pos (starEach [] X.env)).any (·.1) = false := by rfl) : ME X W (.Call (.Attribute o "append" apos) [e] [] pos) (appM mo ma) := by
  obtain ⟨t1, p1, q1⟩ := ho
  obtain ⟨t2, p2, q2⟩ := ha
  refine ⟨_, pe_bm PySem.F.plainAttrs_list PySem.F.slot_list_append PySem.F.type_list_append mt_append p1 (pa_cons p2 pa_nil hs1) hbase hfew hline hs1 hplain, fun io N H s l st Q hl hs p => ?_⟩
  refine q1.seq hl hs p fun io1 H1 x w st1 e1 S1 r1 p => ?_
  cases x with
  | ref n =>
    cases hh : st1[n]? with
    | none => simp only [hh] at p; exact p.elim
    | some oo =>
      cases oo with
      | lst l0 =>
        simp only [hh] at p
        obtain ⟨b, xs0, rfl, eio, eH, rr0⟩ := rs_lst S1 r1 hh
        refine ⟨.inl ⟨rfl, xs0, SqL.of eH⟩, ?_⟩
        refine q2.seq (hl.mono e1) S1 p fun io2 H2 d v st2 e2 S2 r2 p => ?_
        cases h2 : st2[n]? with
        | none => simp only [h2] at p; exact p.elim
        | some oo =>
          cases oo with
          | lst ds =>
            simp only [h2] at p
            obtain ⟨hc, p⟩ := post_if p
            obtain ⟨b', xs, eb, eio2, eH2, rr⟩ := rs_lst S2 (r1.mono e2) h2
            cases eb
            obtain ⟨S3, ex⟩ := rs_lstSet S2 eio2 (rr.app (Reps.one r2))
            exact ⟨b, xs, v, rfl, rfl, eH2, by rw [rr.len]; exact small_lt hc, p io2 _ .non ex S3 rfl⟩
          | _ => simp only [h2] at p; exact p.elim
      | _ => simp only [hh] at p; exact p.elim
  | _ => exact p.elim
/-- x[i] = e, x a list of the store -/
def setIx (a o i : EM D) : SM := fun l st => (a l st).toS l fun d st1 => (o l st1).toS l fun x st2 => (i l st2).toS l fun j st3 => match x, j with
  | .ref n, .int z => (match st3[n]? with
    | some (.lst ds) => (match ixN ds.length z with
      | some m => .nx l (st3.set n (.lst (ds.set m d)))
      | none => .fail)
    | _ => .fail)
  | _, _ => .fail
theorem ms_setIx {o i e : Expr} {mo mi ma : EM D} {spos : Pos} (ha : ME X W e ma) (ho : ME X W o mo) (hi : ME X W i mi) (hs : swapsWithSole [.Subscript o i spos] e pos.line X.env = pure false := by rfl) (hw : swappedStores [.Subscript o i spos] e X.env = pure none := by rfl) (he : (assignEach [.Subscript o i spos] X.env).map (·.2) = [assign (.Subscript o i spos) X.env] := by rfl)
    (hq : ∀ v, assign (.Subscript o i spos) X.env v = (do let ov ← holding [v] (eval o X.env); let iv ← holding [v, ov] (eval i X.env); standAt spos; holding [v, ov, iv] (setItem ov iv v); release [v, ov, iv] []) := by intro _; rfl) :
    MS X W (.Assign [.Subscript o i spos] e pos) (setIx ma mo mi) := by
  obtain ⟨t1, p1, q1⟩ := ha
  obtain ⟨t2, p2, q2⟩ := ho
  obtain ⟨t3, p3, q3⟩ := hi
  refine ⟨_, ps_asg p1 (pg_sub p2 p3 set_list hq) hs hw he, fun io N H s l st D hl hs p => ?_⟩
  refine q1.seqS hl hs p fun io1 H1 d v st1 e1 S1 r1 p => q2.seqS (hl.mono e1) S1 p fun io2 H2 x w st2 e2 S2 r2 p => q3.seqS ((hl.mono e1).mono e2) S2 p fun io3 H3 j u st3 e3 S3 r3 p => ?_
  cases x with
  | ref n =>
    cases j with
    | int z =>
      cases h2 : st3[n]? with
      | none => simp only [h2] at p; exact p.elim
      | some oo =>
        cases oo with
        | lst ds =>
          simp only [h2] at p
          cases h3 : ixN ds.length z with
          | none => simp only [h3] at p; exact p.elim
          | some m =>
            simp only [h3] at p
            obtain ⟨b, xs, rfl, eio2, eH2, rr⟩ := rs_lst S3 (r2.mono e3) h2
            obtain ⟨S4, ex⟩ := rs_lstSet S3 eio2 (rr.setN m ((r1.mono e2).mono e3))
            exact ⟨b, xs, z, m, rfl, r3, eH2, by rw [rr.len]; exact h3, p io3 _ s ex ((((hl.mono e1).mono e2).mono e3).mono ex) S4⟩
        | _ => simp only [h2] at p; exact p.elim
    | _ => exact p.elim
  | _ => exact p.elim

/-! ### exceptions that are raised -/
/-- C(): an own class without __init__ -/
theorem pmk_own0 {x : Str} {p pos : Pos} {C : Addr} {bmB : List Value} {B newId initId : String} (F : ExcBaseFacts B newId initId bmB) (q : PySem.W.excIn X.K C bmB newId = true) (gC : X.mg x = some (.ref C)) (kC : PySem.W.keepIn X.K (.ref C) = true) (r : Raises X (.ref C)) (hg : Gl X x)
    (hdb : (x == ("__debug__" : Str)) = false) : PMk X (.Call (.Name x p) [] [] pos) (fun _ H Q => Q (.ref C) none H) := fun pins s σ H Q I h => by
  refine wpAny_Call_Name_kw (ld_glob I hg gC (PySem.W.callWith_K0 I.kIn kC ?_) hdb)
  obtain ⟨bm, N, nm, qn, bs, hdct, sn, sub, ab, col, dd, k0, k1, k2, k3, k5, mN, hC, hN, hni, T⟩ := exc_obj I.kIn q
  show wpAny (model X.prog X.w) X.A (call (.ref C) []) _ _ _
  refine wpAny_call_exc_subT F T hC hN hni (fun h' e hm => mk_of I hm r h (I.hok.gone hm.new)) (Nat.zero_le _)
/-- what the top says of a class without fields -/
structure Exc0 (K : PySem.W.Frag) (mg : Str → Option Value) (c : Str) : Prop where
  q : PySem.W.excIn K (He.ga K c) He.veBase "ValueError.__new__" = true
  g : mg c = some (.ref (He.ga K c))
  kp : PySem.W.keepIn K (.ref (He.ga K c)) = true
  ex : PySem.W.subIn K (.ref (He.ga K c)) (.type "BaseException") = some true
  ty : PySem.W.typeIn K (.ref (He.ga K c)) = some (.type "type")
def raise0 (c : Str) : SM := fun l st => .exc c [] l st
theorem ms_raise0 {c : Str} {p pos2 : Pos} (cx : Ctx X W k) (T : Exc0 X.K X.mg c) (hg : Gl X c := by rfl) (hdb : (c == ("__debug__" : Str)) = false := by decide) : MS X W (.Raise (some (.Call (.Name c p) [] [] pos)) none pos2) (raise0 c) :=
  ⟨_, ps_raise cx.calm cx.tx (pmk_own0 PySem.F.excBase_ValueError T.q T.g T.kp (raises_own T.ex T.ty) hg hdb), fun io N H s l st D hl hs p => p io H s _ _ (Ext.refl _ _) hl hs ⟨rfl, .inl rfl⟩⟩
/-- self.f = f -/
def spI1 (K : PySem.W.Frag) (c f : Str) : Sp := fun vs H Q _ => ∃ (a : Addr) (v : V), vs = [.ref a, v] ∧ OexC K (He.ga K c) ∧ PySem.W.findIn K (.ref (He.ga K c)) f = some none ∧ H a = some (exo a (He.ga K c) none) ∧ ∀ dx, H dx = none → dx ≠ a → Q .non (upd (upd H dx (exd dx [(f, v)])) a (exo a (He.ga K c) (some dx)))
/-- self.f = f; self.g = g -/
def spI2 (K : PySem.W.Frag) (c f g : Str) : Sp := fun vs H Q _ => ∃ (a : Addr) (v u : V), vs = [.ref a, v, u] ∧ OexC K (He.ga K c) ∧ PySem.W.findIn K (.ref (He.ga K c)) f = some none ∧ PySem.W.findIn K (.ref (He.ga K c)) g = some none ∧ H a = some (exo a (He.ga K c) none) ∧
  ∀ dx, H dx = none → dx ≠ a → Q .non (upd (upd (upd H dx (exd dx [(f, v)])) a (exo a (He.ga K c) (some dx))) dx (exd dx [(g, u), (f, v)]))
/-- a class whose __init__ keeps sp -/
structure ExcI (P : Program) (w : World) (K : PySem.W.Frag) (mg : Str → Option Value) (base : Heap) (c : Str) (n j : Nat) (sp : Sp) : Prop where
  o : OexC K (He.ga K c)
  g : mg c = some (.ref (He.ga K c))
  ex : ∃ fI fd ps, ps.length = n + 1 ∧ PySem.W.findIn K (.ref (He.ga K c)) "__init__" = some (some (.ref fI)) ∧ PySem.W.typeIn K (.ref fI) = some (.type "function") ∧ FnOk P w K mg base (L2.CX P w) j fI fd ps sp ∧ Binds K fd ps []
def raise1 (c f : Str) (a : EM (List D)) : SM := fun l st => (a l st).toS l fun ds st1 => match ds with
  | [d] => .exc c [(f, d)] l st1
  | _ => .fail
def raise2 (c f g : Str) (a : EM (List D)) : SM := fun l st => (a l st).toS l fun ds st1 => match ds with
  | [d, e] => .exc c [(g, e), (f, d)] l st1
  | _ => .fail
theorem upd_exc {H : Hp} {a dx : Addr} {o1 o2 o3 : HO} (ha : H a = none) (ne : dx ≠ a) : upd (del (upd (upd H dx o1) a o2) a) dx o3 = upd H dx o3 := by
  funext b
  by_cases h : b = dx
  · rw [h, upd_same, upd_same]
  · rw [upd_ne h, upd_ne h]
    by_cases h2 : b = a
    · rw [h2, del_same, ha]
    · rw [del_ne h2, upd_ne h2, upd_ne h]
theorem ms_raise1 {c f : Str} {j : Nat} {e : Expr} {a : EM (List D)} {p pos2 : Pos} (cx : Ctx X W k) (T : ExcI X.prog X.w X.K X.mg X.base c 1 j (spI1 X.K c f)) (hno : PySem.W.findIn X.K (.ref (He.ga X.K c)) f = some none) (ha : MA X W [e] a) (hj : j + 1 ≤ k := by decide) (hg : Gl X c := by rfl) (hdb : (c == ("__debug__" : Str)) = false := by decide)
    (he : starEach (e :: []) X.env = (false, eval e X.env) :: starEach [] X.env := by rfl) (hpl : (backTo pos (starEach [] X.env)).any (·.1) = false := by rfl) : MS X W (.Raise (some (.Call (.Name c p) [e] [] pos)) none pos2) (raise1 c f a) := by
  obtain ⟨fI, fd, ps, hn, iC, tI, fo, hb⟩ := T.ex
  obtain ⟨t, p1, q1⟩ := ha
  refine ⟨_, ps_raise cx.calm cx.tx (pmk_oex T.o iC tI fo (cx.room.mono hj) hb .nil passL hg T.g p1 hdb he hpl), fun io N H s l st D hl hs p => ?_⟩
  refine q1.seqS hl hs p fun io1 H1 ds vs st1 e1 S1 r1 p => ?_
  match ds, p, r1 with
  | [d], p, ⟨v, _, e2, r2, e3⟩ =>
    subst e3 e2
    refine ⟨by show 1 ≤ 1000; decide, fun b hbn => ⟨b, v, rfl, T.o, hno, upd_same, fun dx hd ne => ⟨rfl, dx, [(f, v)], upd_same, ?_, ?_, ?_⟩⟩⟩
    · rw [upd_ne ne, upd_same]
    · rw [upd_ne ne] at hd
      exact hd
    · rw [upd_ne ne] at hd
      have e4 : upd (del (upd (upd (upd H1 b (exo b (He.ga X.K c) none)) dx (exd dx [(f, v)])) b (exo b (He.ga X.K c) (some dx))) b) dx (.xd [(f, v)]) = upd H1 dx (.xd [(f, v)]) := by
        funext z
        by_cases h : z = dx
        · rw [h, upd_same, upd_same]
        · rw [upd_ne h, upd_ne h]
          by_cases h2 : z = b
          · rw [h2, del_same, hbn]
          · rw [del_ne h2, upd_ne h2, upd_ne h, upd_ne h2]
      rw [e4]
      exact p io1 _ s _ _ (Ext.new hd) ((hl.mono e1).mono (Ext.new hd)) (S1.new hd) ⟨rfl, .inr ⟨dx, _, rfl, upd_same, v, [], rfl, r2.mono (Ext.new hd), rfl⟩⟩
  | [], p, _ => exact p.elim
  | _ :: _ :: _, p, _ => exact p.elim
end
end Rf
namespace Rf
set_option autoImplicit false
open PySem PySem.Spec L2

section
variable {K : KW} {X : Cx} {W : Wi} {pos : Pos} {k : Nat} {io N : List Addr} {H : Hp} {st : Store}
/-- the reading of a statement that its mirror says -/
def cS (K : KW) (W : Wi) (m : SM) : TS := fun D s H => ∃ (io N : List Addr) (l : Sl) (st : Store), REnv K W io N H l s ∧ RSt K io N H st ∧ PostS K io N H (m l st) D W
theorem MSs.ps {b : List Stmt} {m : SM} (h : MSs X W b m) : PSs X b (cS X.kw W m) := by
  obtain ⟨t, p, r⟩ := h
  exact ⟨fun pins s σ H D I ⟨io, N, l, st, hl, hs, q⟩ => p.run pins s σ H D I (r io N H σ l st D hl hs q)⟩
/-! ### try: .. except C as e: .. -/
/-- what holds in the suite: e is the exception, its fields stand -/
def wX (K : KW) (W : Wi) (i : Nat) (a : Addr) (cls : Value) (d : Option Addr) (c : Str) (fs : List (Str × D)) : Wi where
  w := fun _ _ _ _ => False
  I := fun io H s => W.I io H s ∧ s[i]? = some (some (.ref a)) ∧ cls = .ref (He.ga K c) ∧ (fs = [] ∨ ∃ dd xs, d = some dd ∧ dd ∉ io ∧ H dd = some (.xd xs) ∧ ∀ f v w, fs.lookup f = some v → sv v = some w → xs.lookup f = some w)
  pr := i :: W.pr
  mono := fun e h => ⟨W.mono e h.1, h.2.1, h.2.2.1, h.2.2.2.imp id fun ⟨dd, xs, h1, h2, h3, h4⟩ => ⟨dd, xs, h1, e.notin h2 h3, e.keep _ _ h2 h3, h4⟩⟩
  set := fun {io H s j o} hj h => by
    have hn : j ≠ i := fun z => by subst z; simp at hj
    have hw : W.pr.contains j = false := by
      simp only [List.contains_cons, Bool.or_eq_false_iff] at hj
      exact hj.2
    exact ⟨W.set hw h.1, by rw [List.getElem?_set_ne hn]; exact h.2.1, h.2.2⟩
/-- a field of the exception that is handled -/
def xfM (c : Str) (fs : List (Str × D)) (C f : Str) : EM D := fun _ st => if c = C then (match fs.lookup f with
  | some v => (match sv v with
    | some _ => .ok v st
    | none => .fail)
  | none => .fail) else .fail
theorem sv_rep {d : D} {v : V} (h : sv d = some v) : Rep K io N H d v := by
  cases d <;> simp [sv] at h <;> subst h <;> rfl
theorem me_xf {C f n : Str} {i : Nat} {a : Addr} {oe : Obj} {cls : Value} {d : Option Addr} {pn : List (Addr × Obj)} {c : Str} {fs : List (Str × D)} {p2 : Pos} (T : XfC X.K (He.ga X.K C)) (hno : PySem.W.findIn X.K (.ref (He.ga X.K C)) f = some none) (hz : Zc cls d oe) (hf : ∃ vs, oe.data = .fields vs)
    (hN : (X.suite a ((a, oe) :: pn)).N[i]? = some n := by rfl) (hv : Vis (X.suite a ((a, oe) :: pn)).env.scope n := by first | exact Or.inl rfl | exact Or.inr (Or.inl rfl) | exact Or.inr (Or.inr rfl)) (hd : (n == ("__debug__" : Str)) = false := by decide) (hcd : (n == ("__classdict__" : Str)) = false := by decide)
    (hb : attributeBase (.Name n p2) f X.env (eval (.Name n p2) X.env) = eval (.Name n p2) X.env := by rfl) : ME (X.suite a ((a, oe) :: pn)) (wX X.kw W i a cls d c fs) (.Attribute (.Name n p2) f pos) (xfM c fs C f) := by
  refine ⟨_, pe_xf T hno hz hf (pe_var hN hv hd hcd) hb, fun io N H s l st Q hl hs p => ?_⟩
  unfold xfM at p
  by_cases hcC : c = C
  case neg =>
    rw [if_neg hcC] at p
    exact p.elim
  subst hcC
  rw [if_pos rfl] at p
  cases hv2 : fs.lookup f with
  | none => rw [hv2] at p; exact p.elim
  | some v =>
    rw [hv2] at p
    cases hw : sv v with
    | none => simp only [hw] at p; exact p.elim
    | some w =>
      simp only [hw] at p
      obtain ⟨_, h1, h2, h3⟩ := hl.1
      refine ⟨_, h1, rfl, h2, ?_⟩
      rcases h3 with h3 | ⟨dd, xs, e1, e2, e3, e4⟩
      · rw [h3] at hv2; cases hv2
      · exact ⟨dd, xs, w, e1, e3, e4 _ _ _ hv2 hw, post_val p hs (sv_rep hw)⟩
/-- the suite's end: e is gone -/
def xEnd (i : Nat) (z : Sz) : Sz := match z with
  | .nx l st => .nx (l.set i none) st
  | .bk l st => .bk (l.set i none) st
  | .ct l st => .ct (l.set i none) st
  | .rt d st => .rt d st
  | .exc _ _ _ _ => .fail
  | .fail => .fail
def tryM (body : SM) (exm : Str → Option Bool) (i : Nat) (suite : Str → List (Str × D) → SM) : SM := fun l st => match body l st with
  | .exc c fs l' st' => (match exm c with
    | some true => if i < l'.length then xEnd i (suite c fs (l'.set i none) st') else .fail
    | some false => .exc c fs l' st'
    | none => .fail)
  | z => z
theorem rst_xd (S : RSt K io N H st) {d : Addr} {xs : List (Str × V)} (h : H d = some (.xd xs)) : d ∉ io := fun hm => by
  obtain ⟨n, hn⟩ := List.mem_iff_getElem?.mp hm
  have hl : n < st.length := by rw [← S.len]; exact (List.getElem?_eq_some_iff.mp hn).1
  obtain ⟨b, u, e1, e2, e3⟩ := S.ob n _ (List.getElem?_eq_getElem hl)
  rw [hn] at e1
  cases e1
  rw [h] at e2
  cases e2
  generalize st[n] = o at e3
  cases o with
  | lst l => obtain ⟨_, z, _⟩ := e3; cases z
  | dK l => obtain ⟨_, z, _⟩ := e3; cases z
  | dN l => obtain ⟨_, z, _⟩ := e3; cases z
  | ins c fs => obtain ⟨_, _, z, _⟩ := e3; cases z
  | tb q => obtain ⟨_, _, z, _⟩ := e3; cases z
  | tl q => obtain ⟨_, _, z, _⟩ := e3; cases z
theorem ms_try_as (i : Nat) {x n : Str} {body : List Stmt} {b0 : Stmt} {rest : List Stmt} {mb : SM} {exm : Str → Option Bool} {suite : Str → List (Str × D) → SM} {np pos' : Pos} (cx : Ctx X W k)
    (hc : Names X x (.ref (He.ga X.K x))) (hx : ∀ c b, exm c = some b → PySem.W.exmOne X.K (.ref (He.ga X.K c)) (.ref (He.ga X.K x)) = some b)
    (hb : ∀ (Y : WX) (pn : List (Addr × Obj)) (xe : Value → Shared → Prop), Ctx (X.tr pn xe) (W.wi Y) k → MSs (X.tr pn xe) (W.wi Y) body mb)
    (hsu : ∀ (a : Addr) (oe : Obj) (cls : Value) (d : Option Addr) (pn : List (Addr × Obj)) (c : Str) (fs : List (Str × D)), Zc cls d oe → (∃ vs, oe.data = .fields vs) → MSs (X.suite a ((a, oe) :: pn)) (wX X.kw W i a cls d c fs) (b0 :: rest) (suite c fs))
    (hs : X.stack = X.env :: X.outer := by rfl) (hf : X.env.frame = some X.env.locals := by rfl) (hi : X.N[i]? = some n := by rfl) (hln : X.env.kindOf n = some .local := by rfl) (hp : W.may [i] = true := by rfl) :
    MS X W (.Try body [.ExceptHandler (some (.Name x np)) (some n) (b0 :: rest) pos'] [] [] pos) (tryM mb exm i suite) := by
  have hpi := Wi.may_of hp (i := i) (by simp)
  refine ⟨_, ps_try_as (tb := fun Y => cS X.kw (W.wi Y) mb) (ts := fun a cls d D s H => ∃ c fs, cS X.kw (wX X.kw W i a cls d c fs) (suite c fs) D s H) hs hf cx.nd hi hln hc cx.tx
    (fun Y pn xe tk po => (hb Y pn xe (.of cx.room tk po cx.nd cx.calm)).ps) (fun a oe cls d pn hz hff => ⟨fun pins s σ H D I hh => by
      obtain ⟨c, fs, h⟩ := hh
      exact (hsu a oe cls d pn c fs hz hff).ps.run pins s σ H D I h⟩), fun io N H s l st D hl hs p => ?_⟩
  refine ⟨io, N, l, st, hl, hs, ?_⟩
  unfold tryM at p
  cases e : mb l st with
  | exc c fs l' st' =>
    simp only [e] at p
    intro io1 H1 s1 cls dd ex1 r1 S1 rx
    obtain ⟨hcls, hfs⟩ := id rx
    have hfacts : fs = [] ∨ ∃ d2 xs, dd = some d2 ∧ d2 ∉ io1 ∧ H1 d2 = some (.xd xs) ∧ ∀ f v w, fs.lookup f = some v → sv v = some w → xs.lookup f = some w := hfs.imp id fun ⟨d2, xs, h1, h2, h3⟩ => ⟨d2, xs, h1, rst_xd S1 h2, h2, fun f v w q1 q2 => by
      obtain ⟨v', q3, q4⟩ := h3.look.2 v q1
      rw [q3, sv_ok q4 q2]⟩
    cases hx1 : exm c with
    | none => rw [hx1] at p; exact p.elim
    | some b =>
      rw [hx1] at p
      refine ⟨b, by rw [hcls]; exact hx c b hx1, fun hb2 a ha => ?_, fun hb2 => ?_⟩
      · subst hb2
        obtain ⟨hlen, p⟩ := postS_if p
        have hlen : i < s1.length := by rw [r1.len]; exact hlen
        have I2 : REnv X.kw (wX X.kw W i a cls dd c fs) io1 N H1 (l'.set i none) (s1.set i (some (.ref a))) := ⟨⟨W.set hpi r1.1, List.getElem?_set_self hlen, hcls, hfacts⟩, REn0.unset i r1.2⟩
        refine ⟨c, fs, io1, N, _, st', I2, S1, ?_⟩
        have p2 := PostS.step ex1 p
        cases e3 : suite c fs (l'.set i none) st' with
        | nx l2 st2 =>
          simp only [e3, xEnd] at p2
          exact fun io2 H2 s2 ex2 r2 S2 => p2 io2 H2 _ ex2 ⟨W.set hpi r2.1.1, REn0.unset i r2.2⟩ S2
        | bk l2 st2 =>
          simp only [e3, xEnd] at p2
          exact fun io2 H2 s2 ex2 r2 S2 => p2 io2 H2 _ ex2 ⟨W.set hpi r2.1.1, REn0.unset i r2.2⟩ S2
        | ct l2 st2 =>
          simp only [e3, xEnd] at p2
          exact fun io2 H2 s2 ex2 r2 S2 => p2 io2 H2 _ ex2 ⟨W.set hpi r2.1.1, REn0.unset i r2.2⟩ S2
        | rt d st2 =>
          simp only [e3, xEnd] at p2
          exact p2
        | exc c2 fs2 l2 st2 =>
          simp only [e3, xEnd] at p2
          exact p2.elim
        | fail =>
          simp only [e3, xEnd] at p2
          exact p2.elim
      · subst hb2
        exact p io1 H1 s1 cls dd ex1 r1 S1 rx
  | nx l' st' => simp only [e] at p; exact p
  | bk l' st' => simp only [e] at p; exact p
  | ct l' st' => simp only [e] at p; exact p
  | rt d st' => simp only [e] at p; exact p
  | fail => simp only [e] at p; exact p
end
end Rf
namespace Rf
set_option autoImplicit false
open PySem PySem.Spec L2

section
variable {K : KW} {X : Cx} {W : Wi} {pos : Pos} {k : Nat} {io N : List Addr} {H : Hp} {st : Store}
/-! ### built-in functions and types by values -/
def CalM (K : KW) (r : List V → Hp → VK → Prop) (g : FM) : Prop := ∀ (io N : List Addr) (H : Hp) (vs : List V) (ds : List D) (st : Store) (Q : VK) (Y : XK), RSt K io N H st → Reps K io N H ds vs → Post K rD io N H (g ds st) Q Y → r vs H Q
theorem rg_blt {r : List V → Hp → VK → Prop} {g : FM} {t : TA} {a : EM (List D)} (h : CalM K r g) (h1 : RG K rA W t a) : RG K rD W (tCB r t) (callM g a) := fun io N H s l st Q hl hs p =>
  h1.seq hl hs p fun io1 H1 ds vs st1 e1 S1 r1 p1 => h io1 N H1 vs ds st1 Q _ S1 r1 p1
theorem me_blt {x : Str} {id : String} {r : List V → Hp → VK → Prop} {g : FM} {e : Expr} {es : List Expr} {a : EM (List D)} {p : Pos} (hc : CallR X (.builtin id) r) (h : CalM X.kw r g) (hv : bootBuiltins x = some (.builtin id)) (hm : X.mg x = none) (ha : MA X W (e :: es) a) (hg : Gl X x := by rfl) (hn : x ≠ "__name__" := by decide) (hdb : (x == ("__debug__" : Str)) = false := by decide)
    (he : starEach (e :: es) X.env = (false, eval e X.env) :: starEach es X.env := by rfl) (hpl : (backTo pos (starEach es X.env)).any (·.1) = false := by rfl) : ME X W (.Call (.Name x p) (e :: es) [] pos) (callM g a) := by
  obtain ⟨t, p1, q1⟩ := ha
  exact ⟨_, pe_callB hc hg hm hv p1 hn hdb he hpl, rg_blt h q1⟩
theorem me_ty {x : Str} {T : String} {r : List V → Hp → VK → Prop} {g : FM} {e : Expr} {es : List Expr} {a : EM (List D)} {p : Pos} (hc : CallR X (.type T) r) (h : CalM X.kw r g) (hv : bootBuiltins x = some (.type T)) (hm : X.mg x = none) (ha : MA X W (e :: es) a) (hg : Gl X x := by rfl) (hn : x ≠ "__name__" := by decide) (hdb : (x == ("__debug__" : Str)) = false := by decide)
    (he : starEach (e :: es) X.env = (false, eval e X.env) :: starEach es X.env := by rfl) (hpl : (backTo pos (starEach es X.env)).any (·.1) = false := by rfl) : ME X W (.Call (.Name x p) (e :: es) [] pos) (callM g a) := by
  obtain ⟨t, p1, q1⟩ := ha
  exact ⟨_, pe_callTy hc hg hm hv p1 hn hdb he hpl, rg_blt h q1⟩
/-- len -/
def lenM : FM := fun ds st => match ds with
  | [.str y] => if small y.length = true then .ok (.int y.length) st else .fail
  | [d] => (match sqof d st with
    | some l => .ok (.int l.length) st
    | none => .fail)
  | _ => .fail
theorem cal_len : CalM K (fun xs H Q => ∃ x n, xs = [x] ∧ LenV K x H n ∧ Q (.int n) H) lenM := by
  intro io N H vs ds st Q Y S r p
  match ds, r with
  | [], _ => exact p.elim
  | _ :: _ :: _, _ => unfold lenM at p; split at p <;> first | exact p.elim | simp_all
  | [d], ⟨v, _, e1, r1, e2⟩ =>
    subst e2 e1
    unfold lenM at p
    split at p
    · rename_i y hy
      cases hy
      obtain ⟨hc, p⟩ := post_if p
      cases r1
      exact ⟨_, _, rfl, ⟨small_ok hc, rfl⟩, post_val p S rfl⟩
    · rename_i d' _ hd
      cases hd
      split at p
      · rename_i l hl
        obtain ⟨a, xs, rfl, c, q⟩ := sqof_ok S r1 hl
        refine ⟨_, l.length, rfl, ?_, post_val p S rfl⟩
        rcases c with c | c
        · exact .inl ⟨xs, c, q.len.symm⟩
        · exact .inr ⟨xs, c, q.len.symm⟩
      · exact p.elim
    · exact p.elim
/-- max, min of two numbers -/
def int2 (f : Int → Int → Int) : FM := fun ds st => match ds with
  | [.int i, .int j] => .ok (.int (f i j)) st
  | _ => .fail
theorem cal_int2 {f : Int → Int → Int} : CalM K (fun xs H Q => ∃ i j, xs = [.int i, .int j] ∧ Q (.int (f i j)) H) (int2 f) := by
  intro io N H vs ds st Q Y S r p
  unfold int2 at p
  split at p
  · obtain ⟨v, _, rfl, rfl, w, _, rfl, rfl, rfl⟩ := r
    exact ⟨_, _, rfl, post_val p S rfl⟩
  · exact p.elim
abbrev maxM := int2 fun i j => if j > i then j else i
abbrev minM := int2 fun i j => if j < i then j else i
/-- abs -/
def absM : FM := fun ds st => match ds with
  | [.int i] => .ok (.int (if i < 0 then -i else i)) st
  | _ => .fail
theorem cal_abs : CalM K (fun xs H Q => ∃ i, xs = [.int i] ∧ Q (.int (if i < 0 then -i else i)) H) absM := by
  intro io N H vs ds st Q Y S r p
  unfold absM at p
  split at p
  · obtain ⟨v, _, rfl, rfl, rfl⟩ := r
    exact ⟨_, rfl, post_val p S rfl⟩
  · exact p.elim
/-- int(x) -/
def intOf : FM := fun ds st => match ds with
  | [.int i] => .ok (.int i) st
  | [.bl b] => .ok (.int (if b then 1 else 0)) st
  | [.str a] => if a.length ≤ 640 then (match PySem.intText? a with
    | some n => .ok (.int n) st
    | none => .fail) else .fail
  | _ => .fail
theorem cal_int : CalM K (fun xs H Q => ((∃ i, xs = [.int i] ∧ Q (.int i) H) ∨ ∃ k, xs = [.bl k] ∧ Q (.int (if k then 1 else 0)) H) ∨ ∃ a n, xs = [.str a] ∧ PySem.intText? a = some n ∧ a.length ≤ 640 ∧ Q (.int n) H) intOf := by
  intro io N H vs ds st Q Y S r p
  unfold intOf at p
  split at p
  · obtain ⟨v, _, rfl, rfl, rfl⟩ := r
    exact .inl (.inl ⟨_, rfl, post_val p S rfl⟩)
  · obtain ⟨v, _, rfl, rfl, rfl⟩ := r
    exact .inl (.inr ⟨_, rfl, post_val p S rfl⟩)
  · obtain ⟨hc, p⟩ := post_if p
    obtain ⟨v, _, rfl, rfl, rfl⟩ := r
    split at p
    · rename_i n hn
      exact .inr ⟨_, n, rfl, hn, hc, post_val p S rfl⟩
    · exact p.elim
  · exact p.elim
/-- str(x) -/
def strOf : FM := fun ds st => match ds with
  | [.int i] => if i.natAbs < 18446744073709551616 then .ok (.str (toString i)) st else .fail
  | [.str a] => .ok (.str a) st
  | _ => .fail
theorem log_small {n : Nat} (h : n < 18446744073709551616) : n.log2 < 1920 := by
  by_cases hn : n = 0
  · subst hn; decide
  · exact Nat.lt_of_lt_of_le ((Nat.log2_lt hn).mpr (show n < 2 ^ 64 from h)) (by decide)
theorem cal_str : CalM K (fun xs H Q => (∃ i, xs = [.int i] ∧ i.natAbs.log2 < 1920 ∧ Q (.str (toString i)) H) ∨ ∃ a, xs = [.str a] ∧ Q (.str a) H) strOf := by
  intro io N H vs ds st Q Y S r p
  unfold strOf at p
  split at p
  · obtain ⟨hc, p⟩ := post_if p
    obtain ⟨v, _, rfl, rfl, rfl⟩ := r
    exact .inl ⟨_, rfl, log_small hc, post_val p S rfl⟩
  · obtain ⟨v, _, rfl, rfl, rfl⟩ := r
    exact .inr ⟨_, rfl, post_val p S rfl⟩
  · exact p.elim
/-- tuple(a list) -/
def tupOf : FM := fun ds st => match ds with
  | [.tup l] => .ok (.tup l) st
  | [d] => (match lof d st with
    | some l => .ok (.tup l) st
    | none => .fail)
  | _ => .fail
theorem cal_tup : CalM K (fun xs H Q => ∃ p ys, xs = [.ref p] ∧ ((SqL K H p ys ∧ NewT Q H ys) ∨ (SqT K H p ys ∧ Q (.ref p) H))) tupOf := by
  intro io N H vs ds st Q Y S r p
  unfold tupOf at p
  split at p
  · obtain ⟨v, _, rfl, r, rfl⟩ := r
    obtain ⟨a, xs, rfl, c, q⟩ := tup_ok r
    exact ⟨a, xs, rfl, .inr ⟨c, post_val p S r⟩⟩
  · obtain ⟨v, _, rfl, r, rfl⟩ := r
    split at p
    · rename_i l hl
      obtain ⟨a, xs, rfl, c, q⟩ := lof_ok S r hl
      exact ⟨a, xs, rfl, .inl ⟨c, post_tup p S q⟩⟩
    · exact p.elim
  · exact p.elim
/-! ### isinstance with a built-in type -/
inductive Ty where
  | non | bl | int | str | lst | tup | dct
def Ty.nm : Ty → String
  | .non => "NoneType" | .bl => "bool" | .int => "int" | .str => "str" | .lst => "list" | .tup => "tuple" | .dct => "dict"
def isT : Ty → Ty → Bool
  | .non, .non => true | .bl, .bl => true | .int, .int => true | .str, .str => true | .lst, .lst => true | .tup, .tup => true | .dct, .dct => true
  | .bl, .int => true
  | _, _ => false
theorem isT_ok (a b : Ty) : kitB a.nm b.nm = some (isT a b) := by
  cases a <;> cases b <;> decide +kernel
def tyD (d : D) (st : Store) : Option Ty := match d with
  | .non => some .non
  | .bl _ => some .bl
  | .int _ => some .int
  | .str _ => some .str
  | .tup _ => some .tup
  | .fl _ => some .lst
  | .rd _ => some .lst
  | .ref n => (match st[n]? with
    | some (.lst _) => some .lst
    | some (.dK _) => some .dct
    | _ => none)
  | _ => none
theorem ty_tup {a : Addr} {xs : List V} (c : SqT K H a xs) : TyX K H (.ref a) (.type "tuple") := by
  rcases c with (c | ⟨o, c⟩) | ⟨o, its, n, h1, h2, _⟩
  · exact .base (.tup c)
  · exact .fTuple c
  · exact .kTuple h1 h2
theorem ty_lst {a : Addr} {xs : List V} (c : SqL K H a xs) : TyX K H (.ref a) (.type "list") := by
  rcases c with (c | ⟨o, c⟩) | ⟨o, its, n, h1, h2, _⟩
  · exact .base (.lst c)
  · exact .base (.frz c)
  · exact .kList h1 h2
theorem tyD_ok {d : D} {v : V} {t : Ty} (S : RSt K io N H st) (r : Rep K io N H d v) (h : tyD d st = some t) : TyX K H v (.type t.nm) := by
  cases d with
  | non => cases h; cases r; exact .base .non
  | bl b => cases h; cases r; exact .base (.bl b)
  | int i => cases h; cases r; exact .base (.int i)
  | str x => cases h; cases r; exact .base (.str x)
  | tup l =>
    cases h
    obtain ⟨a, xs, rfl, c, q⟩ := tup_ok r
    exact ty_tup c
  | fl l =>
    cases h
    obtain ⟨a, xs, rfl, ⟨_, _, c⟩, q⟩ := r
    exact .base (.lst c)
  | rd l =>
    cases h
    obtain ⟨a, xs, rfl, c, q⟩ := lof_ok (d := .rd l) S r rfl
    exact ty_lst c
  | any => cases h
  | tw _ => cases h
  | cod => cases h
  | lam _ _ => cases h
  | ref n =>
    simp only [tyD] at h
    cases e : st[n]? with
    | none => simp only [e] at h; cases h
    | some o =>
      simp only [e] at h
      obtain ⟨a, e1, rfl⟩ := r
      obtain ⟨b, u, e2, e3, e4⟩ := S.ob _ _ e
      rw [e1] at e2
      cases e2
      cases o with
      | lst l => cases h; obtain ⟨xs, rfl, _⟩ := e4; exact .base (.lst e3)
      | dK l => cases h; obtain ⟨xs, rfl, _⟩ := e4; exact .base (.dK e3)
      | _ => cases h
def isiM (T : Ty) (a : EM D) : EM D := fun l st => (a l st).bind fun d st1 => match tyD d st1 with
  | some t => .ok (.bl (isT t T)) st1
  | none => .fail
theorem me_isi {e : Expr} {a : EM D} {T : Ty} {nm : Str} {p p2 : Pos} (h : ME X W e a) (hm : X.mg "isinstance" = none) (hm2 : X.mg nm = none) (hv : bootBuiltins nm = some (.type T.nm)) (hg : Gl X "isinstance" := by rfl) (hg2 : Gl X nm := by rfl) (hn : nm ≠ "__name__" := by decide) (hd : (nm == ("__debug__" : Str)) = false := by decide)
    (he : starEach [e, .Name nm p2] X.env = (false, eval e X.env) :: starEach [.Name nm p2] X.env := by rfl) (he2 : starEach [.Name nm p2] X.env = (false, eval (.Name nm p2) X.env) :: starEach [] X.env := by rfl) (hpl : (backTo pos (starEach [.Name nm p2] X.env)).any (·.1) = false := by rfl) :
    ME X W (.Call (.Name "isinstance" p) [e, .Name nm p2] [] pos) (isiM T a) := by
  obtain ⟨t, p1, q1⟩ := h
  refine ⟨_, pe_callB call_isi hg hm PyProof.Rows.boot_isinstance (pa_cons p1 (pa_cons (pe_bltn (v := .ty T.nm) hg2 hm2 hv rfl hn hd) pa_nil he2) he) (by decide) (by decide) he hpl, fun io N H s l st Q hl hs p => ?_⟩
  refine q1.seq hl hs p fun io1 H1 d v st1 e1 S1 r1 p1 => ?_
  cases ht : tyD d st1 with
  | none => rw [ht] at p1; exact p1.elim
  | some t0 =>
    rw [ht] at p1
    exact ⟨v, _, _, _, _, rfl, .ty _, tyD_ok S1 r1 ht, kit_ty (isT_ok t0 T), post_val p1 S1 rfl⟩
/-! ### enumerate -/
def pairsD : Nat → List D → List D
  | _, [] => []
  | i, d :: l => .tw [.int (i : Nat), d] :: pairsD (i + 1) l
theorem pairsD_len : ∀ (l : List D) (i : Nat), (pairsD i l).length = l.length
  | [], _ => rfl
  | _ :: l, i => by rw [pairsD, List.length_cons, List.length_cons, pairsD_len l]
theorem pairsD_get : ∀ (l : List D) (i j : Nat) (d : D), l[j]? = some d → (pairsD i l)[j]? = some (.tw [.int ((i + j : Nat) : Int), d])
  | [], _, j, _, h => by simp at h
  | e :: l, i, 0, d, h => by
    cases h
    rfl
  | e :: l, i, j + 1, d, h => by
    have h2 : l[j]? = some d := h
    have := pairsD_get l (i + 1) j d h2
    rw [pairsD, List.getElem?_cons_succ, this, show i + 1 + j = i + (j + 1) by omega]
def srcE (d : D) (l : List D) : Src := match d with
  | .ref n => ⟨pairsD 0 l, some (n, l)⟩
  | _ => ⟨pairsD 0 l, none⟩
theorem srcE_items (d : D) (l : List D) : (srcE d l).items = pairsD 0 l := by cases d <;> rfl
theorem srcE_chk (d : D) (l : List D) (st : Store) : (srcE d l).chk st = (srcL d l).chk st := by cases d <;> rfl
def itE (a : EM D) : EM Src := fun l st => (a l st).bind fun d st1 => match lof d st1 with
  | some ds => .ok (srcE d ds) st1
  | none => .fail
theorem mi_enum {e : Expr} {a : EM D} {p tpos : Pos} {elts : List Expr} {kk : Nat} (hm : X.mg "enumerate" = none) (h : ME X W e a) (hg : Gl X "enumerate" := by rfl) (hs : starEach [e] X.env = [(false, eval e X.env)] := by rfl) : MI X W (.Tuple elts kk tpos) (.Call (.Name "enumerate" p) [e] [] pos) (itE a) := by
  obtain ⟨t, p, q⟩ := h
  refine ⟨_, pi_enum hg hm (pa_cons p pa_nil hs) hs, fun io N H s l st Q hl hs p => ?_⟩
  refine q.seq hl hs p fun io1 H1 d v st1 e1 S1 r1 p1 => ?_
  cases hh : lof d st1 with
  | none => rw [hh] at p1; exact p1.elim
  | some ds =>
    rw [hh] at p1
    obtain ⟨a, rfl, stays⟩ := lof_stays S1 r1 hh
    obtain ⟨a', xs0, e0, c0, _⟩ := lof_ok S1 r1 hh
    cases e0
    refine ⟨a, xs0, rfl, c0, p1 io1 H1 _ (Ext.refl _ _) S1 fun io' M H' st' hm ex S' c i => ?_⟩
    rw [srcE_chk] at c
    obtain ⟨xs, c1, rr⟩ := stays io' M H' st' hm ex S' c
    rw [srcE_items, pairsD_len]
    refine ⟨fun hi => ⟨⟨xs, xs[i]'(by rw [rr.len]; exact hi), c1, List.getElem?_eq_getElem _⟩, fun x H2 y => ?_⟩, fun hi => ⟨xs, c1, by rw [rr.len]; exact Nat.le_of_eq hi.symm⟩⟩
    obtain ⟨T, y0, rfl, hT, rfl, y⟩ := y
    obtain ⟨d', e', r'⟩ := rr.get' (y xs c1)
    refine ⟨_, pairsD_get ds 0 i d' e', ⟨T, [.int (i : Nat), y0], rfl, ⟨S'.out hT, S'.outN hT, upd_same⟩, _, _, rfl, by rw [Nat.zero_add]; rfl, _, _, rfl, r'.mono (Ext.new hT), rfl⟩, Ext.new hT, S'.new hT⟩

/-! ### C(..): an object is made -/
structure Mkn (P : Program) (w : World) (K : PySem.W.Frag) (mg : Str → Option Value) (base : Heap) (C : Str) (n k : Nat) (f : FM) : Prop where
  g : mg C = some (.ref (He.ga K C))
  ex : ∃ fa fd ps, ps.length = n ∧ Mk K (He.ga K C) fa ∧ FnOk P w K mg base (L2.CX P w) k fa fd ps (spF ⟨K, P, w⟩ n f) ∧ Binds K fd ps []
theorem run_makeS {CX : CXT} {j : Nat} {C f : Addr} {fd : FuncData} {ps : List Str} {sp : Sp} {E : XK} {pins : List (Addr × Obj)} {σ : St} {s : Shared} {Q : VK} {us : List Value} {vs : List V} (M : Mk X.K C f) (F : FnOk X.prog X.w X.K X.mg X.base CX j f fd ps sp) (hr : Room (j + 1) X.A) (hb : Binds X.K fd ps [])
    (hx : PassesAt CX X σ E) (I : Inv X pins σ H s) (r : Vals vs us)
    (h : ∀ x dx, H x = none → H dx = none → dx ≠ x → sp (.ref x :: vs) (upd (upd H dx (.own x)) x (.ins C dx [])) (fun v H2 => v = .non ∧ Q (.ref x) H2) E) :
    wpAny (model X.prog X.w) X.A (call (.ref C) us) (EP X pins σ Q) X.xe s := by
  have hq := h (s.heap.objs.size + 1) s.heap.objs.size (I.hok.fresh (Nat.le_succ _)) (I.hok.fresh (Nat.le_refl _)) (Nat.ne_of_lt (Nat.lt_succ_self _))
  have I2 := Inv.made (C := C) I
  have r2 : Vals (V.ref (s.heap.objs.size + 1) :: vs) (Value.ref (s.heap.objs.size + 1) :: us) := .cons rfl r
  have hl : (Value.ref (s.heap.objs.size + 1) :: us).length = ps.length := by
    have e := r2.length
    rw [F.len _ _ _ _ hq] at e
    exact e.symm
  have hb2 := hb _ (Value.ref (s.heap.objs.size + 1) :: us) I2.kIn (by rw [List.append_nil]; exact hl)
  rw [List.append_nil] at hb2
  refine wpAny_call (make_map (f := f) I.kIn M.makes M.init (beq_iff_eq.mp M.fn) (codeAny_mono (F.run _ X.stack _ _ ⟨Value.ref (s.heap.objs.size + 1) :: us, []⟩ (Value.ref (s.heap.objs.size + 1) :: us) _ _ E (hr.make C us [])
    (I2.env0.make C us []) hb2 r2 hq) fun r s' hq' => ?_))
  cases r with
  | error e => exact hx pins _ _ e s' I2 hq'
  | ok fl =>
    cases fl with
    | ret u =>
      obtain ⟨v, H', I3, rv, ev, q3⟩ := I2.after hq'
      subst ev
      exact ⟨rv, ⟨V.ref (s.heap.objs.size + 1), H', I3, rfl, q3⟩⟩
    | next => exact False.elim hq'
    | brk => exact False.elim hq'
    | cont => exact False.elim hq'
def tMakeS (C : Addr) (sp : Sp) (E : St → XK) (t : TA) : TE := fun σ H Q => t σ H fun vs H1 => ∀ x dx, H1 x = none → H1 dx = none → dx ≠ x →
  sp (.ref x :: vs) (upd (upd H1 dx (.own x)) x (.ins C dx [])) (fun v H2 => v = .non ∧ Q (.ref x) H2) (E σ)
/-- the wish of exceptions from a new object on, as before -/
def mkM (C : Str) (f : FM) (a : EM (List D)) : EM D := fun l st => (a l st).bind fun ds st1 => (f (.ref st1.length :: ds) (st1 ++ [.ins C []])).bind fun d st2 => match d with
  | .non => .ok (.ref st1.length) st2
  | _ => .fail
theorem rg_mk {C : Str} {n : Nat} {f : FM} {t : TA} {a : EM (List D)} (h : RG K rA W t a) (hn : argN n a) : RG K rD W (tMakeS (He.ga K C) (spF K (n + 1) f) (WE W.w) t) (mkM C f a) := by
  intro io N H s l st Q hl hs p
  refine h io N H s l st _ hl hs ?_
  unfold mkM at p
  cases e : a l st with
  | ok ds st1 =>
    rw [e] at p
    intro io1 H1 vs e1 S1 r1 x dx hx hdx ne
    have h2 : (upd H1 dx (.own x)) x = none := by rw [upd_ne (Ne.symm ne)]; exact hx
    have S2 := (S1.new (u := .own x) hdx)
    have x2 : Ext io1 H1 io1 (upd H1 dx (.own x)) := Ext.new hdx
    have S3 := S2.fresh (u := .ins (He.ga K C) dx []) h2
    have S4 := S3.push (o := .ins C []) (S2.out h2) upd_same ⟨dx, [], rfl, rfl⟩
    have x4 : Ext io1 H1 (io1 ++ [x]) (upd (upd H1 dx (.own x)) x (.ins (He.ga K C) dx [])) := (x2.trans (Ext.new h2)).push hx
    refine ⟨by rw [List.length_cons, Reps.len r1, hn l st ds st1 e], io1 ++ [x], N, .ref st1.length :: ds, _, ⟨_, _, rfl, ⟨x, by rw [← S1.len, List.getElem?_concat_length], rfl⟩, Reps.mono x4 _ _ r1⟩, S4, ?_⟩
    have p2 := Post.step (e1.trans x4) p
    simp only [Rz.bind] at p2
    cases e2 : f (.ref st1.length :: ds) (st1 ++ [.ins C []]) with
    | ok d st2 =>
      rw [e2] at p2
      intro io3 H3 v e3 S5 r3
      cases d with
      | non =>
        refine ⟨r3, p2 io3 H3 _ e3 S5 ⟨x, ?_, rfl⟩⟩
        refine e3.idx ?_
        rw [← S1.len, List.getElem?_concat_length]
      | _ => exact p2.elim
    | exc c fs st2 => rw [e2] at p2; exact p2
    | fail => rw [e2] at p2; exact p2
  | exc c fs st1 => rw [e] at p; exact p
  | fail => rw [e] at p; exact p
theorem me_mk {C : Str} {n j : Nat} {f : FM} {e : Expr} {es : List Expr} {a : EM (List D)} {p : Pos} (c : Ctx X W k) (F : Mkn X.prog X.w X.K X.mg X.base C (n + 1) j f) (ha : MA X W (e :: es) a) (hn : argN n a) (hj : j + 1 ≤ k := by decide) (hg : Gl X C := by rfl) (hdb : (C == ("__debug__" : Str)) = false := by decide)
    (he : starEach (e :: es) X.env = (false, eval e X.env) :: starEach es X.env := by rfl) (hpl : (backTo pos (starEach es X.env)).any (·.1) = false := by rfl) : ME X W (.Call (.Name C p) (e :: es) [] pos) (mkM C f a) := by
  obtain ⟨fa, fd, ps, hl, M, fo, hb⟩ := F.ex
  obtain ⟨t, p1, q1⟩ := ha
  refine ⟨_, (⟨fun pins s σ H Q I h => ?_⟩ : PE X _ (tMakeS (He.ga X.K C) (spF X.kw (n + 1) f) (WE W.w) t)), rg_mk q1 hn⟩
  refine wpAny_Call_Name_kw (ld_glob I hg F.g ?_ hdb)
  refine PySem.W.callWith_K (h₀ := X.base) I.ok.mod.kin M.kp (thn (p1.run pos pins s σ H _ I h) fun us s1 ⟨vs, H1, I1, r, q⟩ => ⟨I1.kIn, ?_⟩) he hpl
  exact run_makeS M fo (c.room.mono hj) hb (c.tk σ) I1 r q
theorem me_mk0 {C : Str} {j : Nat} {f : FM} {p : Pos} (c : Ctx X W k) (F : Mkn X.prog X.w X.K X.mg X.base C 1 j f) (hj : j + 1 ≤ k := by decide) (hg : Gl X C := by rfl) (hdb : (C == ("__debug__" : Str)) = false := by decide) : ME X W (.Call (.Name C p) [] [] pos) (mkM C f nilA) := by
  obtain ⟨fa, fd, ps, hl, M, fo, hb⟩ := F.ex
  refine ⟨_, (⟨fun pins s σ H Q I h => ?_⟩ : PE X _ (tMakeS (He.ga X.K C) (spF X.kw (0 + 1) f) (WE W.w) tNil)), rg_mk (fun io N H s l st Q hl hs p => p io H [] (Ext.refl _ _) hs rfl) argN_nil⟩
  refine wpAny_Call_Name_kw (ld_glob I hg F.g ?_ hdb)
  exact PySem.W.callWith_K0 I.kIn M.kp (run_makeS (us := []) M fo (c.room.mono hj) hb (c.tk σ) I .nil h)

/-! ### __init__ of an exception -/
theorem init1_ok {P : Program} {w : World} {mg : Str → Option Value} {base : Heap} {x qual : Str} {params : Arguments} {body : List Stmt} {scope : Scope} {f : Addr} {fd : FuncData} {Ns ps : List Str} {j : Nat} {c fl : Str} (F : FunD K x qual params body scope [] [] f fd) (S : FnScope Ns ps scope) (hp : ps.length = 2)
    (h : ∀ (cdv : Value) (A : Around) (outer : List PySem.Env) (s : Shared) (H : Hp) (E : XK), PSs (cxOf (L2.CX P w) P w K mg base Ns qual scope f cdv A outer s H E) body (tOst K fl (tVar 0) (tVar 1))) : FnOk P w K mg base (L2.CX P w) (j + 1) f fd ps (spI1 K c fl) := by
  refine F.ok S (fun vs H Q E h => by obtain ⟨a, v, rfl, _⟩ := h; exact hp.symm) fun cdv A outer s H vs Q E hr hh => ?_
  obtain ⟨a, v, rfl, T, hno, ea, q⟩ := hh
  refine ⟨_, h cdv A outer s H E, ⟨v, rfl, .ref a, rfl, a, He.ga K c, rfl, T, hno, .inl ⟨ea, fun dx hd ne => ?_⟩⟩⟩
  exact q dx hd ne
theorem init2_ok {P : Program} {w : World} {mg : Str → Option Value} {base : Heap} {x qual : Str} {params : Arguments} {body : List Stmt} {scope : Scope} {f : Addr} {fd : FuncData} {Ns ps : List Str} {j : Nat} {c fl gl : Str} (F : FunD K x qual params body scope [] [] f fd) (S : FnScope Ns ps scope) (hp : ps.length = 3)
    (h : ∀ (cdv : Value) (A : Around) (outer : List PySem.Env) (s : Shared) (H : Hp) (E : XK), PSs (cxOf (L2.CX P w) P w K mg base Ns qual scope f cdv A outer s H E) body (tSeq (tOst K fl (tVar 0) (tVar 1)) (tOst K gl (tVar 0) (tVar 2)))) : FnOk P w K mg base (L2.CX P w) (j + 1) f fd ps (spI2 K c fl gl) := by
  refine F.ok S (fun vs H Q E h => by obtain ⟨a, v, u, rfl, _⟩ := h; exact hp.symm) fun cdv A outer s H vs Q E hr hh => ?_
  obtain ⟨a, v, u, rfl, T, hno, hno2, ea, q⟩ := hh
  refine ⟨_, h cdv A outer s H E, ⟨v, rfl, .ref a, rfl, a, He.ga K c, rfl, T, hno, .inl ⟨ea, fun dx hd ne => ?_⟩⟩⟩
  refine ⟨u, rfl, .ref a, rfl, a, He.ga K c, rfl, T, hno2, .inr ⟨dx, [(fl, v)], by rw [upd_same], by rw [upd_ne ne, upd_same], Nat.le_of_ble_eq_true rfl, ?_⟩⟩
  exact q dx hd ne
end
end Rf
namespace Rf
set_option autoImplicit false
open PySem PySem.Spec L2

section
variable {K : KW} {X : Cx} {W : Wi} {pos : Pos} {k : Nat} {io N : List Addr} {H : Hp} {st : Store} {tg : Expr}
/-- a fresh list held by value -/
theorem post_fl {io N : List Addr} {H : Hp} {st : Store} {l : List D} {xs : List V} {Q : VK} {Y : XK} (p : Post K rD io N H (.ok (.fl l) st) Q Y) (S : RSt K io N H st) (r : Reps K io N H l xs) : ∀ a, H a = none → Q (.ref a) (upd H a (.lst xs)) := fun a ha =>
  p io _ _ (Ext.new ha) (S.new ha) ⟨a, xs, rfl, ⟨S.out ha, S.outN ha, upd_same⟩, r.mono (Ext.new ha)⟩
/-! ### + of numbers, texts, tuples, lists -/
def plusM (d e : D) (st : Store) : Rz D := match d, e with
  | .int i, .int j => .ok (.int (i + j)) st
  | .str x, .str y => if small (x.length + y.length) = true then .ok (.str (x ++ y)) st else .fail
  | .tup a, .tup b => if small (a.length + b.length) = true then .ok (.tup (a ++ b)) st else .fail
  | d, e => (match lofM d st, lofM e st with
    | some a, some b => if small (a.length + b.length) = true then .ok (.fl (a ++ b)) st else .fail
    | _, _ => .fail)
theorem opm_plus : OpM K (fun x y H Q => (rI0 (fun i j => .int (i + j)) x y H Q ∨ ((∃ i j, x = .str i ∧ y = .str j ∧ i.length + j.length ≤ sizeLine ∧ Q (.str (i ++ j)) H) ∨ rCatF K x y H Q)) ∨ rCat x y H Q) plusM := by
  intro io N H x y d e st Q Y S r1 r2 p
  by_cases hc : ∃ a b, lofM d st = some a ∧ lofM e st = some b
  · obtain ⟨a, b, ha, hb⟩ := hc
    have p : Post K rD io N H (if small (a.length + b.length) = true then .ok (.fl (a ++ b)) st else .fail) Q Y := by
      unfold plusM at p
      split at p
      · cases ha
      · cases ha
      · cases ha
      · rw [ha, hb] at p
        exact p
    obtain ⟨hs, p⟩ := post_if p
    obtain ⟨u, xs, rfl, c1, g1⟩ := lofM_ok S r1 ha
    obtain ⟨v, ys, rfl, c2, g2⟩ := lofM_ok S r2 hb
    exact .inr ⟨u, v, xs, ys, rfl, rfl, c1, c2, by rw [g1.len, g2.len]; exact small_ok hs, post_fl p S (g1.app g2)⟩
  · refine .inl (opm_add io N H x y d e st Q Y S r1 r2 ?_)
    unfold plusM at p
    unfold addM
    split at p
    · exact p
    · exact p
    · exact p
    · split at p
      · rename_i a b ha hb
        exact absurd ⟨a, b, ha, hb⟩ hc
      · exact p.elim
theorem me_plus {ea eb : Expr} {a b : EM D} (h1 : ME X W ea a) (h2 : ME X W eb b) : ME X W (.BinOp ea .Add eb pos) (b2 plusM a b) := me_op ((op_add.or (op_add_str.or op_catF)).or op_cat) opm_plus h1 h2
/-! ### * -/
def timesM (d e : D) (st : Store) : Rz D := match d, e with
  | .int i, .int j => if (-18446744073709551616 < i ∧ i < 18446744073709551616) ∨ (-18446744073709551616 < j ∧ j < 18446744073709551616) then .ok (.int (i * j)) st else .fail
  | .str x, .int i => if 0 ≤ i ∧ i ≤ 1000 ∧ x.length ≤ 1000 then .ok (.str (Txt.mul x i)) st else .fail
  | .tup l, .int i => if l ≠ [] ∧ 1 ≤ i ∧ i ≤ 1000 ∧ l.length ≤ 1000 then .ok (.tup (rep l i.toNat)) st else .fail
  | d, .int i => (match lofM d st with
    | some l => if 0 ≤ i ∧ i ≤ 1000 ∧ l.length ≤ 1000 then .ok (.fl (rep l i.toNat)) st else .fail
    | none => .fail)
  | _, _ => .fail
theorem Reps.rep {l : List D} {xs : List V} (r : Reps K io N H l xs) : ∀ n : Nat, Reps K io N H (rep l n) (List.replicate n xs).flatten
  | 0 => rfl
  | n + 1 => by
    show Reps K io N H (List.replicate (n + 1) l).flatten _
    rw [List.replicate_succ, List.replicate_succ, List.flatten_cons, List.flatten_cons]
    exact r.app (Reps.rep r n)
theorem opm_times : OpM K (fun x y H Q => (L2.rI CMul (fun i j => .int (i * j)) x y H Q ∨ ∃ z i, x = .str z ∧ y = .int i ∧ MulOk z i ∧ Q (.str (Txt.mul z i)) H) ∨ (rRepF K x y H Q ∨ rRep x y H Q)) timesM := by
  intro io N H x y d e st Q Y S r1 r2 p
  unfold timesM at p
  split at p
  · obtain ⟨hc, p⟩ := post_if p
    exact .inl (.inl ⟨_, _, r1, r2, hc, post_val p S rfl⟩)
  · obtain ⟨hc, p⟩ := post_if p
    exact .inl (.inr ⟨_, _, r1, r2, mulOk_small hc, post_val p S rfl⟩)
  · obtain ⟨hc, p⟩ := post_if p
    obtain ⟨a, xs, rfl, c, q⟩ := tup_ok r1
    have hne : xs ≠ [] := fun z => hc.1 (by
      have := q.len
      rw [z] at this
      exact List.eq_nil_of_length_eq_zero this.symm)
    rename_i l i _
    by_cases hi : i = 1
    · subst hi
      refine .inr (.inl ⟨a, _, xs, rfl, r2, c, hne, by rw [q.len]; exact hc.2.2.2, .inl ⟨rfl, ?_⟩⟩)
      have e1 : Rf.rep l (Int.toNat 1) = l := by simp [Rf.rep]
      rw [e1] at p
      exact post_val p S r1
    · exact .inr (.inl ⟨a, _, xs, rfl, r2, c, hne, by rw [q.len]; exact hc.2.2.2, .inr ⟨by omega, hc.2.2.1, post_tup p S (q.rep _)⟩⟩)
  · split at p
    · rename_i l hl
      obtain ⟨hc, p⟩ := post_if p
      obtain ⟨a, xs, rfl, c, q⟩ := lofM_ok S r1 hl
      refine .inr (.inr ⟨a, _, xs, rfl, r2, c, by omega, by omega, ?_, post_fl p S (q.rep _)⟩)
      rw [q.len]
      exact Nat.le_trans (Nat.mul_le_mul hc.2.2 (Int.toNat_le.mpr hc.2.1 : _ ≤ 1000)) (by rw [sizeLine_eq]; decide)
    · exact p.elim
  · exact p.elim
theorem me_times {ea eb : Expr} {a b : EM D} (h1 : ME X W ea a) (h2 : ME X W eb b) : ME X W (.BinOp ea .Mult eb pos) (b2 timesM a b) := me_op ((op_mul.or op_rpS).or (op_repF.or op_rep)) opm_times h1 h2
/-! ### slices -/
def sliceM (d : D) (i j : Option Int) (st : Store) : Rz D := match lof d st with
  | some l => .ok (.fl (cutD l i j)) st
  | none => slM d i j st
theorem me_slice {e : Expr} {lo hi : Option Expr} {a : EM D} {i j : EM (Option Int)} {p2 : Pos} (h : ME X W e a) (h1 : MO X W lo i) (h2 : MO X W hi j) : ME X W (.Subscript e (.Slice lo hi none p2) pos) (s3 sliceM a i j) := by
  obtain ⟨t, p, q⟩ := h
  obtain ⟨t1, p1, q1⟩ := h1
  obtain ⟨t2, p2, q2⟩ := h2
  refine ⟨_, pe_slice (sl_list.or (sl_str.or sl_tupF)) p p1 p2, fun io N H s l st Q hl hs p => ?_⟩
  refine q.seq hl hs p fun io1 H1 d v st1 e1 S1 r1 p => q1.seq (hl.mono e1) S1 p fun io2 H2 x x' st2 e2 S2 r2 p => q2.seq ((hl.mono e1).mono e2) S2 p fun io3 H3 y y' st3 e3 S3 r3 p => ?_
  obtain rfl : x = x' := r2
  obtain rfl : y = y' := r3
  have r := (r1.mono e2).mono e3
  unfold sliceM at p
  split at p
  · rename_i L hL
    obtain ⟨b, xs, rfl, c, qq⟩ := lof_ok S3 r hL
    exact .inl ⟨b, xs, rfl, c, post_fl p S3 (qq.cut x y)⟩
  · unfold slM at p
    cases d with
    | str z =>
      obtain ⟨hc, p⟩ := post_if p
      exact .inr (.inl ⟨_, r, small_ok hc, post_val p S3 rfl⟩)
    | tup L =>
      obtain ⟨b, xs, rfl, c, qq⟩ := tup_ok r
      refine .inr (.inr ⟨b, xs, rfl, c, fun hw => ?_, fun hw => ?_⟩)
      · have e : cutD L x y = L := by
          unfold cutD
          rw [qq.len] at hw
          rw [hw.1, hw.2, List.drop_zero, Nat.sub_zero, List.take_length]
        refine post_val (d := .tup (cutD L x y)) p S3 ?_
        rw [e]
        exact r
      · exact post_tup p S3 (qq.cut x y)
    | _ => exact p.elim
/-! ### a < b < c -/
def chM (f g : D → D → Store → Rz D) (a b c : EM D) : EM D := fun l st => (a l st).bind fun x st1 => (b l st1).bind fun y st2 => (f x y st2).bind fun z st3 => match z with
  | .bl true => (c l st3).bind fun w st4 => g y w st4
  | .bl false => .ok (.bl false) st3
  | _ => .fail
theorem rg_chain {r r' : R2} {f g : D → D → Store → Rz D} {ta tb tc : TE} {a b c : EM D} (hf : OpM K r f) (hg : OpM K r' g) (h1 : RG K rD W ta a) (h2 : RG K rD W tb b) (h3 : RG K rD W tc c) (hx : ∀ x y st, f x y st = .fail ∨ ∃ b, f x y st = .ok (.bl b) st) : RG K rD W (tChain r r' ta tb tc) (chM f g a b c) := by
  intro io N H s l st Q hl hs p
  refine h1.seq hl hs p fun io1 H1 x v st1 e1 S1 r1 p => h2.seq (hl.mono e1) S1 p fun io2 H2 y w st2 e2 S2 r2 p => ?_
  rcases hx x y st2 with hx | ⟨bb, hx⟩
  · rw [hx] at p; exact p.elim
  rw [hx] at p
  refine hf io2 N H2 v w x y st2 _ (fun _ _ _ => False) S2 (r1.mono e2) r2 ?_
  rw [hx]
  intro io3 H3 z e3 S3 r3
  refine ⟨bb, r3, ?_⟩
  cases bb with
  | false => exact p io3 H3 _ e3 S3 rfl
  | true =>
    rw [if_pos rfl]
    have p := Post.step e3 p
    refine h3.seq (((hl.mono e1).mono e2).mono e3) S3 p fun io4 H4 u u' st4 e4 S4 r4 p => ?_
    exact hg io4 N H4 w u' y u st4 Q _ S4 ((r2.mono e3).mono e4) r4 p
theorem cmp_bl {g : Int → Int → Bool} : ∀ x y st, cmpM g x y st = .fail ∨ ∃ b, cmpM g x y st = .ok (.bl b) st := by
  intro x y st
  unfold cmpM
  split
  · exact .inr ⟨_, rfl⟩
  · exact .inl rfl
theorem eq_bl : ∀ x y st, eqM x y st = .fail ∨ ∃ b, eqM x y st = .ok (.bl b) st := by
  intro x y st
  unfold eqM
  split
  · exact .inr ⟨_, rfl⟩
  · exact .inl rfl
theorem me_chain {op op' : CmpOp} {r r' : R2} {f g : D → D → Store → Rz D} {ea eb ec : Expr} {a b c : EM D} (ho : OpR X (compareOp op) r) (ho' : OpR X (compareOp op') r') (hf : OpM X.kw r f) (hg : OpM X.kw r' g) (hx : ∀ x y st, f x y st = .fail ∨ ∃ b, f x y st = .ok (.bl b) st) (h1 : ME X W ea a) (h2 : ME X W eb b) (h3 : ME X W ec c)
    (hm : lastMarks [op, op'] [eb, ec] = false := by with_unfolding_all rfl) : ME X W (.Compare ea [op, op'] [eb, ec] pos) (chM f g a b c) := by
  obtain ⟨t1, p1, q1⟩ := h1
  obtain ⟨t2, p2, q2⟩ := h2
  obtain ⟨t3, p3, q3⟩ := h3
  exact ⟨_, pe_chain ho ho' p1 p2 p3 hm, rg_chain hf hg q1 q2 q3 hx⟩
theorem mt_chain {op op' : CmpOp} {r r' : R2} {f g : D → D → Store → Rz D} {ea eb ec : Expr} {a b c : EM D} (ho : OpR X (compareOp op) r) (ho' : OpR X (compareOp op') r') (hf : OpM X.kw r f) (hg : OpM X.kw r' g) (hx : ∀ x y st, f x y st = .fail ∨ ∃ b, f x y st = .ok (.bl b) st) (h1 : ME X W ea a) (h2 : ME X W eb b) (h3 : ME X W ec c)
    (hm : lastMarks [op, op'] [eb, ec] = false := by with_unfolding_all rfl) : MT X W (.Compare ea [op, op'] [eb, ec] pos) (tst (chM f g a b c)) := by
  obtain ⟨t1, p1, q1⟩ := h1
  obtain ⟨t2, p2, q2⟩ := h2
  obtain ⟨t3, p3, q3⟩ := h3
  exact ⟨_, pt_chain ho ho' p1 p2 p3 hm, rg_tst (rg_chain hf hg q1 q2 q3 hx)⟩
/-! ### walking a list, a tuple, a text -/
def signsD (x : Str) : List D := x.cps.toList.map fun c => .str ⟨#[c]⟩
def itA (a : EM D) : EM Src := fun l st => (a l st).bind fun d st1 => match d with
  | .tup ds => .ok ⟨ds, none⟩ st1
  | .str x => .ok ⟨signsD x, none⟩ st1
  | d => (match lof d st1 with
    | some ds => .ok (srcL d ds) st1
    | none => .fail)
theorem pi_or {tg e : Expr} {t t' : TI} (h : PI X tg e t) (h' : PI X tg e t') : PI X tg e (fun s H R => t s H R ∨ t' s H R) := ⟨fun pins s σ H R I q => by
  rcases q with q | q
  · exact h.run pins s σ H R I q
  · exact h'.run pins s σ H R I q⟩
theorem rg_itL {a : EM D} {t : TE} (q : RG K rD W t a) : RG K rI W (iList K t) (itL a) := fun io N H s l st Q hl hs p => by
  refine q.seq hl hs p fun io1 H1 d v st1 e1 S1 r1 p1 => ?_
  cases hh : lof d st1 with
  | none => rw [hh] at p1; exact p1.elim
  | some ds =>
    rw [hh] at p1
    obtain ⟨a, rfl, stays⟩ := lof_stays S1 r1 hh
    obtain ⟨a', xs0, e0, c0, _⟩ := lof_ok S1 r1 hh
    cases e0
    refine ⟨a, rfl, ⟨xs0, c0⟩, p1 io1 H1 _ (Ext.refl _ _) S1 fun io' M H' st' hm ex S' c i => ?_⟩
    obtain ⟨xs, c1, rr⟩ := stays io' M H' st' hm ex S' c
    rw [srcL_items]
    refine ⟨fun hi => ⟨⟨xs, xs[i]'(by rw [rr.len]; exact hi), c1, List.getElem?_eq_getElem _⟩, fun x H2 y => ?_⟩, fun hi => ⟨xs, c1, by rw [rr.len]; exact Nat.le_of_eq hi.symm⟩⟩
    obtain ⟨rfl, y⟩ := y
    obtain ⟨d', e', r'⟩ := rr.get' (y xs c1)
    exact ⟨d', e', r', Ext.refl _ _, S'⟩
theorem rg_itT {a : EM D} {t : TE} (q : RG K rD W t a) : RG K rI W (iTup K t) (itT a) := fun io N H s l st Q hl hs p => by
  refine q.seq hl hs p fun io1 H1 d v st1 e1 S1 r1 p1 => ?_
  cases d with
  | tup ds =>
    obtain ⟨a, xs0, rfl, c0, _⟩ := tup_ok r1
    refine ⟨a, rfl, ⟨xs0, c0⟩, p1 io1 H1 _ (Ext.refl _ _) S1 fun io' M H' st' hm ex S' c i => ?_⟩
    obtain ⟨a', xs, e0, c1, rr⟩ := tup_ok (Rep.monoS ex.weak _ _ (r1.shuns M hm))
    cases e0
    refine ⟨fun hi => ⟨⟨xs, xs[i]'(by rw [rr.len]; exact hi), c1, List.getElem?_eq_getElem _⟩, fun x H2 y => ?_⟩, fun hi => ⟨xs, c1, by rw [rr.len]; exact Nat.le_of_eq hi.symm⟩⟩
    obtain ⟨rfl, y⟩ := y
    obtain ⟨d', e', r'⟩ := rr.get' (y xs c1)
    exact ⟨d', e', r', Ext.refl _ _, S'⟩
  | _ => exact p1.elim
def itS (a : EM D) : EM Src := fun l st => (a l st).bind fun d st1 => match d with
  | .str x => .ok ⟨signsD x, none⟩ st1
  | _ => .fail
theorem rg_itS {a : EM D} {t : TE} (q : RG K rD W t a) : RG K rI W (iStr t) (itS a) := fun io N H s l st Q hl hs p => by
  refine q.seq hl hs p fun io1 H1 d v st1 e1 S1 r1 p1 => ?_
  cases d with
  | str x =>
    refine ⟨x, r1, p1 io1 H1 _ (Ext.refl _ _) S1 fun io' M H' st' hm ex S' c i => ?_⟩
    have hn : (signsD x).length = x.cps.size := by simp [signsD]
    refine ⟨fun hi => ⟨(show i < x.cps.size from by rw [← hn]; exact hi), fun y H2 yy => ?_⟩, fun hi => (show x.cps.size ≤ i from by rw [hi]; exact Nat.le_of_eq hn.symm)⟩
    obtain ⟨rfl, c, e, rfl⟩ := yy
    refine ⟨.str ⟨#[c]⟩, ?_, rfl, Ext.refl _ _, S'⟩
    show (signsD x)[i]? = _
    unfold signsD
    rw [List.getElem?_map, Array.getElem?_toList, e]
    rfl
  | _ => exact p1.elim
theorem mi_any {e : Expr} {a : EM D} (h : ME X W e a) : MI X W tg e (itA a) := by
  obtain ⟨t, p, q⟩ := h
  refine ⟨_, pi_or (pi_list p) (pi_or (pi_tup p) (pi_str p)), fun io N H s l st Q hl hs pp => ?_⟩
  unfold itA at pp
  by_cases h1 : ∃ ds st1, a l st = .ok (.tup ds) st1
  · obtain ⟨ds, st1, e⟩ := h1
    refine .inr (.inl (rg_itT q io N H s l st Q hl hs ?_))
    unfold itT
    rw [e] at pp ⊢
    exact pp
  by_cases h2 : ∃ x st1, a l st = .ok (.str x) st1
  · obtain ⟨x, st1, e⟩ := h2
    refine .inr (.inr (rg_itS q io N H s l st Q hl hs ?_))
    unfold itS
    rw [e] at pp ⊢
    exact pp
  refine .inl (rg_itL q io N H s l st Q hl hs ?_)
  unfold itL
  cases e : a l st with
  | ok d st1 =>
    rw [e] at pp
    cases d with
    | tup ds => exact absurd ⟨ds, st1, e⟩ h1
    | str x => exact absurd ⟨x, st1, e⟩ h2
    | _ => exact pp
  | exc c fs st1 => rw [e] at pp; exact pp
  | fail => rw [e] at pp; exact pp
end
end Rf
namespace Rf
set_option autoImplicit false
open PySem PySem.Spec L2

/-! ### what the top says, wider -/
inductive Fx where
  | oex (c : Str)
  | xf (c : Str)
  | tup (x : Str) (vs : List He.Dv)
def oexB (K : PySem.W.Frag) (C : Addr) : Bool := (match K.lookup C with
  | some ⟨.type t, _, .cls cd, sl⟩ => decide (t = "type") && (match cd.mro, sl.toList with
    | .ref a :: bm, [_, _, _, _, some (.builtin n), _] => decide (a = C) && (decide (n = "ValueError.__new__") && (!cd.hasDel && (cd.hasDict && PySem.HandSPX.refsVE bm)))
    | _, _ => false)
  | _ => false) && (decide (PySem.W.findIn K (.ref C) "__setattr__" = some (some (.builtin "object.__setattr__"))) && (decide (PySem.W.subIn K (.ref C) (.type "BaseException") = some true) &&
    (decide (PySem.W.typeIn K (.ref C) = some (.type "type")) && PySem.W.keepIn K (.ref C))))
theorem oexB_ok {K : PySem.W.Frag} {C : Addr} (h : oexB K C = true) : OexC K C := by
  unfold oexB at h
  simp only [Bool.and_eq_true, decide_eq_true_eq] at h
  obtain ⟨h1, h2, h3, h4, h5⟩ := h
  refine ⟨?_, h2, h3, h4, h5⟩
  split at h1
  · rename_i t dd cd sl e
    simp only [Bool.and_eq_true, decide_eq_true_eq] at h1
    obtain ⟨rfl, h1⟩ := h1
    split at h1
    · rename_i a bm k0 k1 k2 k3 n k5 e1 e2
      simp only [Bool.and_eq_true, decide_eq_true_eq, Bool.not_eq_true'] at h1
      obtain ⟨rfl, rfl, d1, d2, d3⟩ := h1
      cases cd with
      | mk nm bs mro ns q hd sn sub ab col del =>
        simp only at e1 d1 d2
        subst e1 d1 d2
        cases sl with
        | mk l =>
          simp only at e2
          subst e2
          exact ⟨nm, q, ns, bs, bm, sn, sub, ab, col, dd, k0, k1, k2, k3, k5, e, d3⟩
    · cases h1
  · cases h1
def Fx.ok (K : PySem.W.Frag) : Fx → Bool
  | .oex c => oexB K (He.ga K c)
  | .xf c => xfB K (He.ga K c)
  | .tup x vs => He.tupB K x vs
abbrev AlR : Type := Bool × He.AlD
def obsR (fa : List He.Fa) (fx : List Fx) (fn : List He.DefD) (K : PySem.W.Frag) : AlR := (fx.all fun f => f.ok K, He.obsD fa fn K)
def valR (fn : List He.DefD) : AlR := (true, He.valD fn)
def SaysR (fa : List He.Fa) (fx : List Fx) (fn : List He.DefD) (K : PySem.W.Frag) : Prop := obsR fa fx fn K = valR fn
def obsRG (n : Nat) (fa : List He.Fa) (fx : List Fx) (fn : List He.DefD) (g : Addr → Option Obj) : AlR := obsR fa fx fn (He.frG g (He.asD g n))
def hookR (n : Nat) (fa : List He.Fa) (fx : List Fx) (fn : List He.DefD) : PySem.W.Hook where
  α := AlR
  obs := fun s => obsRG n fa fx fn s.heap.get?
  val := fun _ => valR fn
  says := fun _ h => ∃ K : PySem.W.Frag, K.In h ∧ SaysR fa fx fn K
  of := fun _ _ e => ⟨_, He.frG_in, e⟩
  keeps := fun _ _ _ ⟨K, hK, c⟩ k => ⟨K, PySem.W.Frag.In.keeps hK k, c⟩
theorem obsRG_eq {n : Nat} {fa : List He.Fa} {fx : List Fx} {fn : List He.DefD} {g : Addr → Option Obj} {s : Shared} (h : ∀ a, g a = s.heap.get? a) : obsRG n fa fx fn g = (hookR n fa fx fn).obs s := by
  have e : g = s.heap.get? := funext h
  rw [e] <;> rfl
/-- what holds of the written part and the module's names -/
structure Tp (fa : List He.Fa) (fx : List Fx) (fn : List He.DefD) (K : PySem.W.Frag) (mg : Str → Option Value) : Prop where
  c : SaysR fa fx fn K
  g : ∃ h : Heap, K.In h ∧ h.Ns mainGlobals mg
section
variable {fa : List He.Fa} {fx : List Fx} {fn : List He.DefD} {K : PySem.W.Frag} {mg : Str → Option Value}
theorem Tp.d (T : Tp fa fx fn K mg) : He.SaysD fa fn K := congrArg (fun z : AlR => z.2) T.c
theorem Tp.glo (T : Tp fa fx fn K mg) (i : Nat) {x : Str} (h : fa[i]? = some (.glo x) := by rfl) : mg x = some (.ref (He.ga K x)) := by
  obtain ⟨h0, X, G⟩ := T.g
  exact He.glo_ok X G (T.d.fact i h)
theorem Tp.free (T : Tp fa fx fn K mg) (i : Nat) {x : Str} (h : fa[i]? = some (.free x) := by rfl) : mg x = none := by
  obtain ⟨h0, X, G⟩ := T.g
  exact He.free_ok X G (T.d.fact i h)
theorem Tp.int (T : Tp fa fx fn K mg) (i : Nat) {x : Str} {n : Int} (h : fa[i]? = some (.int x n) := by rfl) : ∃ t, mg x = some (.int n t) := by
  obtain ⟨h0, X, G⟩ := T.g
  exact He.int_ok X G (T.d.fact i h)
theorem Tp.str (T : Tp fa fx fn K mg) (i : Nat) {x z : Str} (h : fa[i]? = some (.str x z) := by rfl) : ∃ t, mg x = some (.str z t) := by
  obtain ⟨h0, X, G⟩ := T.g
  exact He.str_ok X G (T.d.fact i h)
theorem Tp.cls (T : Tp fa fx fn K mg) (i : Nat) {x : Str} (h : fa[i]? = some (.cls x) := by rfl) : Cls K (He.ga K x) := He.cls_ok (T.d.fact i h)
theorem Tp.noat (T : Tp fa fx fn K mg) (i : Nat) {x f : Str} (h : fa[i]? = some (.noat x f) := by rfl) : NoAttr K (He.ga K x) f := He.noat_ok (T.d.fact i h)
theorem Tp.meth (T : Tp fa fx fn K mg) (i : Nat) {x m : Str} (h : fa[i]? = some (.meth x m) := by rfl) : Meth K (He.ga K x) m (He.ma K (He.ga K x) m) := He.meth_ok (T.d.fact i h)
theorem Tp.mkr (T : Tp fa fx fn K mg) (i : Nat) {x : Str} (h : fa[i]? = some (.mkr x) := by rfl) : Mk K (He.ga K x) (He.ma K (He.ga K x) "__init__") := He.mkr_ok (T.d.fact i h)
theorem Tp.exm (T : Tp fa fx fn K mg) (i : Nat) {x y : Str} {b : Bool} (h : fa[i]? = some (.exm x y b) := by rfl) : PySem.W.exmOne K (.ref (He.ga K x)) (.ref (He.ga K y)) = some b := He.exm_ok (T.d.fact i h)
theorem Tp.exc0 (T : Tp fa fx fn K mg) (i j : Nat) {x : Str} (h : fa[i]? = some (.exc x) := by rfl) (h2 : fa[j]? = some (.glo x) := by rfl) : Exc0 K mg x := by
  obtain ⟨a, b, c, d⟩ := He.exc_ok (T.d.fact i h)
  exact ⟨a, T.glo j h2, b, c, d⟩
theorem Tp.fact2 (T : Tp fa fx fn K mg) (i : Nat) {f : Fx} (h : fx[i]? = some f) : f.ok K = true :=
  List.all_eq_true.mp (show (fx.all fun f => f.ok K) = true from congrArg (fun z : AlR => z.1) T.c) f (List.mem_of_getElem? h)
theorem Tp.oex (T : Tp fa fx fn K mg) (i : Nat) {c : Str} (h : fx[i]? = some (.oex c) := by rfl) : OexC K (He.ga K c) := oexB_ok (T.fact2 i h)
theorem Tp.xf (T : Tp fa fx fn K mg) (i : Nat) {c : Str} (h : fx[i]? = some (.xf c) := by rfl) : XfC K (He.ga K c) := xfB_ok (T.fact2 i h)
theorem Tp.tup (T : Tp fa fx fn K mg) (i : Nat) {x : Str} {vs : List He.Dv} (h : fx[i]? = some (.tup x vs) := by rfl) (H : Hp) : SqT K H (He.ga K x) (vs.map (He.Dv.v K)) := He.tupB_ok (T.fact2 i h) H
theorem Tp.def_ (T : Tp fa fx fn K mg) (i : Nat) {d : He.DefD} (h : fn[i]? = some d := by rfl) : ∃ fd, FunD K d.name d.qual d.params d.body d.scope (d.dvs K) (d.kws K) (He.fAd K d.at_) fd := T.d.def_ i h
end
/-- a class's own statements -/
def clsB : Stmt → List Stmt
  | .ClassDef (body := b) .. => b
  | _ => []
/-- nothing is known of this end -/
theorem mss_fail {X : Cx} {W : Wi} {b : List Stmt} : MSs X W b (fun _ _ => .fail) :=
  ⟨fun _ _ _ => False, ⟨fun _ _ _ _ _ _ h => h.elim⟩, fun io N H s l st D hl hs p => p.elim⟩
/-- a def is one of the module's -/
theorem Dfn.mk1 {P : Program} {w : World} {K : PySem.W.Frag} {mg : Str → Option Value} {base : Heap} {x : Str} {n k : Nat} {m : FM} {f : Addr} {fd : FuncData} {ps : List Str} (hl : ps.length = n) (F : FnOk P w K mg base (L2.CX P w) k f fd ps (spF ⟨K, P, w⟩ ps.length m)) (g : mg x = some (.ref f)) (kp : PySem.W.keepIn K (.ref f) = true) (b : Binds K fd ps []) : Dfn P w K mg base x n k m := by
  subst hl
  exact ⟨f, fd, ps, rfl, F, g, kp, b⟩
theorem Mfn.mk1 {P : Program} {w : World} {K : PySem.W.Frag} {mg : Str → Option Value} {base : Heap} {C x : Str} {n k : Nat} {m : FM} {f : Addr} {fd : FuncData} {ps : List Str} (hl : ps.length = n) (c : Cls K (He.ga K C)) (F : FnOk P w K mg base (L2.CX P w) k f fd ps (spF ⟨K, P, w⟩ ps.length m)) (g : Meth K (He.ga K C) x f) (b : Binds K fd ps []) : Mfn P w K mg base C x n k m := by
  subst hl
  exact ⟨c, f, fd, ps, rfl, F, g, b⟩
theorem Mkn.mk1 {P : Program} {w : World} {K : PySem.W.Frag} {mg : Str → Option Value} {base : Heap} {C : Str} {n k : Nat} {m : FM} {f : Addr} {fd : FuncData} {ps : List Str} (hl : ps.length = n) (g : mg C = some (.ref (He.ga K C))) (M : Mk K (He.ga K C) f) (F : FnOk P w K mg base (L2.CX P w) k f fd ps (spF ⟨K, P, w⟩ ps.length m)) (b : Binds K fd ps []) : Mkn P w K mg base C n k m := by
  subst hl
  exact ⟨g, f, fd, ps, rfl, M, F, b⟩
theorem bt_len : bootBuiltins "len" = some (.builtin "len") := by decide +kernel
theorem bt_max : bootBuiltins "max" = some (.builtin "max") := by decide +kernel
theorem bt_min : bootBuiltins "min" = some (.builtin "min") := by decide +kernel
theorem bt_abs : bootBuiltins "abs" = some (.builtin "abs") := by decide +kernel
theorem bt_int : bootBuiltins "int" = some (.type "int") := by decide +kernel
theorem bt_str : bootBuiltins "str" = some (.type "str") := by decide +kernel
theorem bt_bool : bootBuiltins "bool" = some (.type "bool") := by decide +kernel
theorem bt_list : bootBuiltins "list" = some (.type "list") := by decide +kernel
theorem bt_tuple : bootBuiltins "tuple" = some (.type "tuple") := by decide +kernel
theorem bt_dict : bootBuiltins "dict" = some (.type "dict") := by decide +kernel
theorem bt_set : bootBuiltins "set" = some (.type "set") := by decide +kernel
theorem bt_sum : bootBuiltins "sum" = some (.builtin "sum") := by decide +kernel
theorem bt_all : bootBuiltins "all" = some (.builtin "all") := by decide +kernel
theorem bt_any : bootBuiltins "any" = some (.builtin "any") := by decide +kernel
theorem bt_sorted : bootBuiltins "sorted" = some (.builtin "sorted") := by decide +kernel
theorem un64 {X : Cx} {W : Wi} {k : Nat} (c : Ctx X W k) : X.A.units + 64 < cLine := by have := c.room.un; omega
theorem un65 {X : Cx} {W : Wi} {k : Nat} (c : Ctx X W k) : X.A.units + 65 < cLine := by have := c.room.un; omega
/-- - a number -/
def negM (a : EM D) : EM D := fun l st => (a l st).bind fun d st1 => match d with
  | .int i => .ok (.int (-i)) st1
  | _ => .fail
theorem me_neg {X : Cx} {W : Wi} {e : Expr} {a : EM D} {pos : Pos} (h : ME X W e a) : ME X W (.UnaryOp .USub e pos) (negM a) := by
  obtain ⟨t, p, q⟩ := h
  refine ⟨_, pe_un un_neg p, fun io N H s l st Q hl hs p => ?_⟩
  refine q.seq hl hs p fun io1 H1 d v st1 e1 S1 r1 p1 => ?_
  cases d with
  | int i => exact ⟨i, r1, post_val p1 S1 rfl⟩
  | _ => exact p1.elim
/-- nothing leaves the def: what may be let out does not matter -/
theorem fn_closed {P : Program} {w : World} {K : PySem.W.Frag} {mg : Str → Option Value} {base : Heap} {k : Nat} {f : Addr} {fd : FuncData} {ps : List Str} {sp : Sp} (F : FnOk P w K mg base (L2.CX P w) k f fd ps sp) : FnOk P w K mg base (fun _ _ _ _ _ _ => False) k f fd ps (fun vs H Q _ => sp vs H Q fun _ _ _ => False) :=
  ⟨fun vs H Q _ h => F.len vs H Q _ h, fun A outer s H args us vs Q E hr e b r h => codeAny_mono (F.run A outer s H args us vs Q (fun _ _ _ => False) hr e b r h) fun r s' hq => by
    cases r with
    | error e =>
      obtain ⟨_, _, _, _, _, _, _, _, _, _, _, _, z⟩ := hq
      exact z.elim
    | ok fl => cases fl <;> exact hq⟩
end Rf
namespace Rf
set_option autoImplicit false
open PySem PySem.Spec L2

section
variable {prog : Program} {w : World} {A : Around} {R : Result → Shared → Prop} {I : Addr} {s : Shared}
/-- all over what yields truth values: J says where one stands, by a measure -/
theorem all_loop (J : Nat → Shared → Prop)
    (turn : ∀ n s, J n s → wpAny (model prog w) A.in1 (pyNext (.ref I)) (fun r s1 => (r = none ∧ R (.ok (.ret (.bool true))) s1) ∨ (r = some (.bool false) ∧ R (.ok (.ret (.bool false))) s1) ∨ (r = some (.bool true) ∧ ∃ m, m < n ∧ J m s1)) (fun _ _ => False) s) :
    ∀ n s, J n s → codeAny (model prog w) A (.builtin "all.loop" ⟨[.ref I], []⟩) R s := by
  intro n
  induction n using Nat.strongRecOn with
  | ind n ih =>
    intro s hJ
    refine codeAny_builtin F.entry_all_loop ?_
    rw [Around.under_plainId F.plain_all_loop _]
    show wpAny _ A.in1 (pyNext (.ref I) >>= _) _ _ s
    refine wpAny_bind (thnF (turn n s hJ) fun r s1 h => ?_)
    rcases h with ⟨rfl, h⟩ | ⟨rfl, h⟩ | ⟨rfl, m, hm, h⟩
    · exact wpAny_bind (wpAny_rule (wpAny_pure h))
    · refine wpAny_bind (wpAny_holding (wpAny_truthy_bool ?_))
      refine wpAny_bind (wpAny_letGo ?_)
      simp only [Bool.false_eq_true, if_false]
      exact wpAny_bind (wpAny_rule (wpAny_pure h))
    · refine wpAny_bind (wpAny_holding (wpAny_truthy_bool ?_))
      refine wpAny_bind (wpAny_letGo ?_)
      simp only [if_true]
      exact wpAny_pure ⟨plainId_quiet F.plain_all_loop _, ih m hm s1 h⟩
theorem any_loop (J : Nat → Shared → Prop)
    (turn : ∀ n s, J n s → wpAny (model prog w) A.in1 (pyNext (.ref I)) (fun r s1 => (r = none ∧ R (.ok (.ret (.bool false))) s1) ∨ (r = some (.bool true) ∧ R (.ok (.ret (.bool true))) s1) ∨ (r = some (.bool false) ∧ ∃ m, m < n ∧ J m s1)) (fun _ _ => False) s) :
    ∀ n s, J n s → codeAny (model prog w) A (.builtin "any.loop" ⟨[.ref I], []⟩) R s := by
  intro n
  induction n using Nat.strongRecOn with
  | ind n ih =>
    intro s hJ
    refine codeAny_builtin F.entry_any_loop ?_
    rw [Around.under_plainId F.plain_any_loop _]
    show wpAny _ A.in1 (pyNext (.ref I) >>= _) _ _ s
    refine wpAny_bind (thnF (turn n s hJ) fun r s1 h => ?_)
    rcases h with ⟨rfl, h⟩ | ⟨rfl, h⟩ | ⟨rfl, m, hm, h⟩
    · exact wpAny_bind (wpAny_rule (wpAny_pure h))
    · refine wpAny_bind (wpAny_holding (wpAny_truthy_bool ?_))
      refine wpAny_bind (wpAny_letGo ?_)
      simp only [if_true]
      exact wpAny_bind (wpAny_rule (wpAny_pure h))
    · refine wpAny_bind (wpAny_holding (wpAny_truthy_bool ?_))
      refine wpAny_bind (wpAny_letGo ?_)
      simp only [Bool.false_eq_true, if_false]
      exact wpAny_pure ⟨plainId_quiet F.plain_any_loop _, ih m hm s1 h⟩
end
section
variable {prog : Program} {w : World} {A : Around} {E : Value → Shared → Prop} {s : Shared}
/-- all(x) -/
theorem call_allJ {x : Value} {Q : Value → Shared → Prop} (h : wpAny (model prog w) A.in1 (pyIter x) (fun it s2 => ∃ (I : Addr) (n : Nat) (J : Nat → Shared → Prop), it = .ref I ∧ J n s2 ∧
    ∀ n s, J n s → wpAny (model prog w) A.in1 (pyNext (.ref I)) (fun r s1 => (r = none ∧ Q (.bool true) s1) ∨ (r = some (.bool false) ∧ Q (.bool false) s1) ∨ (r = some (.bool true) ∧ ∃ m, m < n ∧ J m s1)) (fun _ _ => False) s) E s) :
    wpAny (model prog w) A (call (.builtin "all") [x]) Q E s := by
  refine call_function_tree F.kind_all F.plain_all F.entry_all (F.args_all1 _) ?_
  unfold Builtin.«all»
  refine wpAny_bind (m := oneArg "all" _) (wpAny_pure ?_)
  refine wpAny_bind (wpAny_mono h (fun it s2 h2 => ?_) fun _ _ e => e)
  obtain ⟨I, n, J, rfl, hJ, turn⟩ := h2
  exact wpAny_pure ⟨plainId_quiet F.plain_all_loop _, all_loop J turn n s2 hJ⟩
end
end Rf
namespace Rf
set_option autoImplicit false
open PySem PySem.Spec L2

theorem over_gen {A : Around} {elt tg iter : Expr} {ifs : List Expr} {scope : Scope} {gpos : Pos} {it acc : Value} {env : PySem.Env} : A.over (.compLoop (.GeneratorExp elt [⟨tg, iter, ifs, 0⟩] scope gpos) 0 it acc env) [] = A.deeper env := by
  obtain ⟨hd, d, fr, gs, u⟩ := A
  first
    | rfl
    | simp [Around.over, Around.deeper, marksOver, frameCount, unitsOf, envsOf, guardsOf, pushEnvs, pushGuards, Code.envs, Code.env?, Code.isFrame, Code.guards, Code.isGuard, Code.weight, Code.frames, Code.isCreation, Code.isCaller, Code.cUnits]
/-- the context of a generator expression's frame, woken in the around A -/
abbrev gcx (X : Cx) (A : Around) (s : Shared) (H : Hp) (cenv : PySem.Env) (fp : List Addr) (pn : List (Addr × Obj)) : Cx := { X with A := A.deeper cenv, s_0 := s, H_0 := H, env := cenv, outer := X.stack, stack := cenv :: X.stack, ex := fp, fn := fun _ => false, pn := pn, xe := fun _ _ => False }
section
variable {X : Cx} {pins : List (Addr × Obj)} {σ : St} {H : Hp} {s : Shared}
theorem gen_start {scope : Scope} {own : List (Str × Nat)} {fp : List Addr} {pn : List (Addr × Obj)} {A : Around} {code it : Value} {h5 : Heap} {g5 : Array GenState} {t5 : Nat} {cenv : PySem.Env} (I : Inv X pins σ H s) (ok : BlkOk X.N X.env.scope scope own) (hN : X.N.Nodup) (hcell : ∀ y ∈ scope.names, y.2 ≠ .cell)
    (hfp : ∀ b ∈ fp, FpOk X pins H b ∧ b < s.heap.objs.size) (hA : A.frames = X.A.frames) (hh : A.handled = X.A.handled) (hce : cenv = genEnv scope (cloFrom X.env.cells scope.names []) s.heap.objs.size code builtinsNs X.env)
    (kp : ∀ b o, s.heap.get? b = some o → h5.get? b = some o) (hns : h5.Ns s.heap.objs.size (fun y => if y = ".0" then some it else none)) (hdot : (".0" : Str) ∉ X.N) (hg : PyProof.Rows.AllBare g5)
    (hpn : ∀ p ∈ pn, h5.get? p.1 = some p.2 ∧ s.heap.objs.size < p.1 ∧ ∀ v, p.2.data ≠ .cell v) :
    Inv (gcx X A s H cenv fp pn) [] (wipe σ (own.map (·.2))) H { s with heap := h5, gens := g5, toks := t5 } := by
  have hfree : ∀ y ∈ scope.names, y.2 = .free → ∃ c, X.env.cells.lookup y.1 = some c := fun y hy e => by
    rcases ok.free y hy e with k | k
    · exact I.ok.has _ (.inl k)
    · exact I.ok.has _ (.inr k)
  have hL : cenv.locals = s.heap.objs.size := by rw [hce]; rfl
  have hcl : cenv.cells = cloFrom X.env.cells scope.names [] := by rw [hce]; rfl
  have hsc : cenv.scope = scope := by rw [hce]; rfl
  have cm : ∀ {y c}, (y, c) ∈ cloFrom X.env.cells scope.names [] → X.env.cells.lookup y = some c ∧ c < s.heap.objs.size := fun {y c} hm => by
    rcases cloFrom_mem hm with hm | ⟨h1, rfl⟩
    · cases hm
    · obtain ⟨c, hc⟩ := hfree _ h1 rfl
      rw [hc]
      obtain ⟨w, z⟩ := I.cell _ _ hc
      exact ⟨rfl, z.lt⟩
  have mem : ∀ {y c}, cenv.cells.lookup y = some c → X.env.cells.lookup y = some c ∧ c < s.heap.objs.size := fun {y c} e => by
    rw [hcl] at e
    exact cm (PySem.mem_of_lookup e)
  have look : ∀ {y}, scope.names.lookup y = some .free → ∃ c, cenv.cells.lookup y = some c ∧ X.env.cells.lookup y = some c := fun {y} hl => by
    have hy : (y, NameKind.free) ∈ scope.names := PySem.mem_of_lookup hl
    obtain ⟨c', e'⟩ := mem_lookup (cloFrom_has (cells := X.env.cells) (acc := []) hy)
    rw [← hcl] at e'
    exact ⟨c', e', (mem e').1⟩
  have okB : (gcx X A s H cenv fp pn).Ok := by
    refine ⟨I.ok.mod, by show cenv.scope.kind = _; rw [hsc]; exact ok.kind, by show cenv.globals = _; rw [hce]; exact I.ok.glob, by show cenv.builtins = _; rw [hce]; rfl, by show s.heap.objs.size ≤ cenv.locals; rw [hL]; exact Nat.le_refl _,
      fun y z c e1 e2 => ?_, fun y hy => ?_, fun y c z e => (by cases z), fun q => ?_, ?_, .inr ⟨rfl, by show cenv.frame = some cenv.locals; rw [hce]; rfl⟩, fun b hb => ⟨?_, fun y c e z => ?_⟩, I.bs, Nat.le_trans I.ok.bsz I.sz, fun b o e hb => ?_, fun b hb z => ?_, I.stack, I.stkFree⟩
    · exact I.ok.inj y z c (mem e1).1 (mem e2).1
    · show ∃ c, cenv.cells.lookup y = some c
      have hy : cenv.scope.names.lookup y = some .cell ∨ cenv.scope.names.lookup y = some .free := hy
      rw [hsc] at hy
      rcases hy with hy | hy
      · exact absurd rfl (hcell _ (PySem.mem_of_lookup hy))
      · obtain ⟨c, h1, _⟩ := look hy
        exact ⟨c, h1⟩
    · show A.handled = none
      rw [hh]
      exact I.ok.hd q
    · show (A.deeper cenv).frames = some (cenv :: X.stack)
      have e : A.frames = some X.stack := hA.trans I.ok.frames
      obtain ⟨hd, d, fr, gs, u⟩ := A
      subst e
      rfl
    · show b ≠ cenv.locals
      rw [hL]; exact Nat.ne_of_lt (hfp b hb).2
    · exact (hfp b hb).1.2.2.2.2.1 y c (mem e).1 z
    · rcases (hfp b hb).1.2.2.2.1 with z | z
      · exact I.ok.noex b o e z
      · exact absurd (Nat.lt_of_lt_of_le (Heap.lt_size e) (Nat.le_trans I.ok.bsz z)) (Nat.lt_irrefl _)
    · rcases List.mem_cons.mp (I.stkSub b z) with z | z
      · exact (hfp b hb).1.2.1 z
      · exact (hfp b hb).1.2.2.1 z
  refine ⟨okB, rfl, hg, Un.kept kp, ⟨_, by show h5.Ns cenv.locals _; rw [hL]; exact hns, fun i y av e1 e2 e3 => ?_⟩, fun y c e => ?_, ?_, fun y c e => ?_, fun p hp => ?_, I.hok.kept kp, by rw [wipe_length]; exact I.len⟩
  · obtain ⟨e2, hne⟩ := wipe_some e2
    have hfr : scope.names.lookup y = some .free := by
      have key : ∀ k, scope.names.lookup y = some k → k = .local ∨ k = .cell ∨ k = .free → scope.names.lookup y = some .free := fun k hk hk' => by
        have no : ¬ (k = .local ∨ k = .cell) := fun hh => by
          rcases ok.own _ (PySem.mem_of_lookup hk) hh with e' | e'
          · obtain ⟨p, hp, hpy⟩ := List.mem_map.mp e'
            have e3 := ok.ix p hp
            have : p.1 = y := hpy
            rw [this] at e3
            exact hne (List.mem_map.mpr ⟨p, hp, nodup_ix hN e3 e1⟩)
          · exact e' (List.mem_of_getElem? e1)
        rcases hk' with rfl | rfl | rfl
        · exact absurd (.inl rfl) no
        · exact absurd (.inr rfl) no
        · exact hk
      have e3 : cenv.scope.names.lookup y = some .local ∨ cenv.scope.names.lookup y = some .cell ∨ cenv.scope.names.lookup y = some .free := e3
      rw [hsc] at e3
      rcases e3 with e3 | e3 | e3
      · exact key _ e3 (.inl rfl)
      · exact key _ e3 (.inr (.inl rfl))
      · exact e3
    obtain ⟨m, hn, hl⟩ := I.loc
    have hvis : Vis X.env.scope y := (ok.free _ (PySem.mem_of_lookup hfr) rfl).elim (fun k => .inr (.inl k)) (fun k => .inr (.inr k))
    obtain ⟨w, r, q⟩ := hl i y av e1 e2 hvis
    have hk : cenv.kindOf y = some .free := by show cenv.scope.names.lookup y = _; rw [hsc]; exact hfr
    refine ⟨w, r, .inr ⟨.inr hk, ?_⟩⟩
    obtain ⟨c, h1, h2⟩ := look hfr
    rcases q with ⟨k, _⟩ | ⟨_, c', e', z⟩
    · have k : X.env.scope.names.lookup y = some .local := k
      rcases ok.free _ (PySem.mem_of_lookup hfr) rfl with k' | k' <;> rw [show X.env.scope.names.lookup y = _ from k'] at k <;> cases k
    · rw [h2] at e'; cases e'
      exact ⟨c, h1, z.keeps kp⟩
  · obtain ⟨w, z⟩ := I.cell y c (mem e).1
    exact ⟨w, z.keeps kp⟩
  · show H cenv.locals = none
    rw [hL]; exact I.hok.fresh (Nat.le_refl _)
  · exact I.freeC y c (mem e).1
  · have hp : p ∈ pn ++ [] := hp
    rw [List.append_nil] at hp
    obtain ⟨e1, e2, e3⟩ := hpn p hp
    have hn : H p.1 = none := I.hok.fresh (Nat.le_of_lt e2)
    obtain ⟨_, f1, f2, _⟩ := I.fpOk (b := p.1) (Nat.le_of_lt e2) hn
    refine ⟨e1, hn, by show p.1 ≠ cenv.locals; rw [hL]; exact Nat.ne_of_gt e2, fun z => ?_, e3⟩
    rcases List.mem_cons.mp (I.stkSub _ z) with z | z
    · exact f1 z
    · exact f2 z
end

/-! ### what a generator expression over truth values does, turn by turn; kb: what does not end the walk -/
section
variable {X : Cx}
/-- where the frame stands behind i turns -/
def GAt (B : Cx) (fp : List Addr) (tn : Nat → Heap → Prop) (σw : St) (W : Nat → Nat → Hp → Prop) (i m : Nat) (s : Shared) : Prop :=
  ∃ H', Inv B [] σw H' s ∧ tn i s.heap ∧ (∀ b ∈ fp, H' b = none) ∧ W i m H'
/-- the frame's end, or its last word -/
def GEnd (B : Cx) (Q : Hp → Prop) (s : Shared) : Prop := ∃ (σ : St) (pins : List (Addr × Obj)) (H' : Hp), Inv B pins σ H' s ∧ Q H'
def GY (B : Cx) (fp : List Addr) (tn : Nat → Heap → Prop) (σw : St) (W : Nat → Nat → Hp → Prop) (kb : Bool) (Qf : Hp → Prop) : Protocol := fun n _ v s1 kap =>
  ∃ k : Bool, v = .bool k ∧ (k ≠ kb → GEnd B Qf s1) ∧ (k = kb → ∃ i m, m + 1 ≤ n ∧ GAt B fp tn σw W i m s1 ∧ ∀ s2 : Shared, s2.heap = s1.heap → s2.os = s1.os → PyProof.Rows.AllBare s2.gens → kap (.send .none) s2)
def GR (B : Cx) (Qt : Hp → Prop) : GenEnd := fun _ _ r s1 => r = .ok .next ∧ GEnd B Qt s1
theorem inv_gens {B : Cx} {pins : List (Addr × Obj)} {σ : St} {H : Hp} {s s2 : Shared} (I : Inv B pins σ H s) (h1 : s2.heap = s.heap) (h2 : s2.os = s.os) (h3 : PyProof.Rows.AllBare s2.gens) : Inv B pins σ H s2 := by
  obtain ⟨hp, g, d, t, o⟩ := s
  obtain ⟨hp2, g2, d2, t2, o2⟩ := s2
  simp only at h1 h2
  subst h1 h2
  exact ⟨I.ok, I.os, h3, I.base, I.loc, I.cell, I.free, I.freeC, I.pin, I.hok, I.len⟩
theorem gen_seg {pn : List (Addr × Obj)} {elt tg iter : Expr} {ifs : List Expr} {scope : Scope} {gpos : Pos} {A : Around} {cenv : PySem.Env} {it : Addr} {fp : List Addr} {tn : Nat → Heap → Prop} {J : It} {s4 : Shared} {H4 : Hp} {g : TG} {tt : TT} {te : TE} {vs : List Nat} {σ : St} {kb : Bool} {Qt Qf : Hp → Prop} {W : Nat → Nat → Hp → Prop}
    (hc : X.calm = true) (T : Turn X.prog X.w X.K tg J fp it tn) (pg : PG (gcx X A s4 H4 cenv fp pn) tg g) (pt : PTs (gcx X A s4 H4 cenv fp pn) ifs tt) (pe : PE (gcx X A s4 H4 cenv fp pn) elt te) (hco : cenv.scope.isCoroutine = false) (hpf : ∀ p ∈ pn, ∀ b ∈ fp, p.1 ≠ b)
    (turn : ∀ i m H, W i m H → (J.stop i H ∧ Qt H) ∨ (J.go i H ∧ ∃ Nx : Hp → Prop, (∀ H', Nx H' → ∃ m', m' < m ∧ W (i + 1) m' H') ∧ ∀ x H', J.yld i H x H' → g x (wipe σ vs) H' fun σ2 H2 => wipe σ2 vs = wipe σ vs ∧ tt σ2 H2 fun b H3 =>
      if b = true then te σ2 H3 fun y H4 => ∃ k, y = .bl k ∧ (if k = kb then Nx H4 else Qf H4) else Nx H3)) :
    ∀ (m n i : Nat) (s0 s : Shared), m + 1 ≤ n → GAt (gcx X A s4 H4 cenv fp pn) fp tn (wipe σ vs) W i m s →
      Seg (model X.prog X.w) A (GR (gcx X A s4 H4 cenv fp pn) Qt) (GY (gcx X A s4 H4 cenv fp pn) fp tn (wipe σ vs) W kb Qf) n s0 (.compLoop (.GeneratorExp elt [⟨tg, iter, ifs, 0⟩] scope gpos) 0 (.ref it) .none cenv)
        ((model X.prog X.w).den (.compLoop (.GeneratorExp elt [⟨tg, iter, ifs, 0⟩] scope gpos) 0 (.ref it) .none cenv)) [] s := by
  have stat : ∀ {σ' : St} {H' : Hp} {s' : Shared}, Inv (gcx X A s4 H4 cenv fp pn) [] σ' H' s' → (∀ b ∈ fp, H' b = none) → ∀ b ∈ fp, FpOk (gcx X A s4 H4 cenv fp pn) [] H' b := fun {σ' H' s'} I' hn b hb =>
    ⟨hn b hb, (I'.ok.exf b hb).1, I'.ok.exfs b hb, .inl hb, fun x c e => (I'.ok.exf b hb).2 x c e, fun p hp => hpf p (by have hp : p ∈ pn ++ [] := hp; rwa [List.append_nil] at hp) b hb⟩
  have ov : A.over (.compLoop (.GeneratorExp elt [⟨tg, iter, ifs, 0⟩] scope gpos) 0 (.ref it) .none cenv) [] = A.deeper cenv := over_gen
  intro m
  induction m using Nat.strongRecOn with
  | ind m ih =>
    intro n i s0 s5 hmn ⟨H5, I5, st5, n5, w5⟩
    show Seg _ A _ _ _ s0 _ ((compTurn (.GeneratorExp elt [⟨tg, iter, ifs, 0⟩] scope gpos) 0 (.ref it) .none cenv).onRaise (leaving cenv)) [] s5
    rw [compTurn_gen, Sem.onRaise_eq_wrap]
    refine seg_bind_wrap (wpAny_standAt ?_)
    rcases turn i m H5 w5 with ⟨stop, qq⟩ | ⟨go, Nx, hNx, step⟩
    · have td := T.done (gcx X A s4 H4 cenv fp pn) rfl rfl rfl hc i [] s5 _ H5 (fun _ _ => False) I5 (stat I5 n5) st5 stop
      refine seg_bind_wrap ?_
      rw [ov]
      refine thnF td fun r s6 ⟨hr, I6⟩ => ?_
      subst hr
      exact seg_end (.ok .next) ⟨rfl, _, _, _, I6, qq⟩
    · have ti := T.item (gcx X A s4 H4 cenv fp pn) rfl rfl rfl hc i [] s5 _ H5 (fun _ _ => False) I5 (stat I5 n5) st5 go
      refine seg_bind_wrap ?_
      rw [ov]
      refine thnF ti fun r s6 ⟨u, hr, h6⟩ => ?_
      subst hr
      refine seg_bind_wrap ?_
      rw [ov]
      refine thnF h6 fun _ s7 ⟨x, H7, I7, r7, y7, st7, n7⟩ => ?_
      have I7' := I7.pinned (stat I7 n7) (T.obj _ _ st7)
      refine seg_bind_wrap ?_
      rw [ov]
      refine thnF (pg.run _ s7 _ H7 x u _ I7' r7 (step x H7 y7)) fun _ s8 ⟨σ8, H8, I8, hw8, q8⟩ => ?_
      refine seg_bind_wrap ?_
      rw [ov]
      refine thnF (pt.run _ s8 σ8 H8 _ I8 q8) fun b s9 ⟨H9, I9, q9⟩ => ?_
      have fin : ∀ {s' : Shared} {H' : Hp}, Inv (gcx X A s4 H4 cenv fp pn) ([] ++ pinsAt fp s7.heap) σ8 H' s' → Nx H' → ∃ m', m' < m ∧ GAt (gcx X A s4 H4 cenv fp pn) fp tn (wipe σ vs) W (i + 1) m' s' := fun {s' H'} I' nx => by
        obtain ⟨m', hm, w'⟩ := hNx H' nx
        have pin' : ∀ b ∈ fp, ∀ o, s7.heap.get? b = some o → s'.heap.get? b = some o ∧ H' b = none := fun b hb o e =>
          let z := I'.pin (b, o) (List.mem_append_right _ (List.mem_append_right _ (mem_pinsAt hb e)))
          ⟨z.1, z.2.1⟩
        have hl : (wipe σ vs).length = σ8.length := by rw [← hw8, wipe_length]
        refine ⟨m', hm, H', (I'.unpinned (pins := [])).weak hl (fun j v e => ?_), T.keep _ _ _ st7 fun b hb o e => (pin' b hb o e).1, fun b hb => ?_, w'⟩
        · rw [← hw8] at e
          exact (wipe_some e).1
        · obtain ⟨o, e, _⟩ := T.obj _ _ st7 b hb
          exact (pin' b hb o e).2
      cases b with
      | false =>
        simp only [Bool.false_eq_true, if_false] at q9 ⊢
        obtain ⟨m', hm, ga⟩ := fin I9 q9
        exact seg_again rfl (ih m' hm n (i + 1) s0 s9 (by omega) ga)
      | true =>
        simp only [if_true] at q9 ⊢
        have hy : ∀ v, yieldOut cenv v = yieldValue v := fun v => by simp only [yieldOut, hco, Bool.false_eq_true, if_false]
        simp only [hy]
        rw [Sem.bind_eq_wrap', Sem.bind_eq_wrap', Sem.wrap_wrap, Sem.wrap_wrap]
        refine seg_wrap ?_
        rw [ov]
        refine thnF (pe.run _ s9 σ8 H9 _ I9 q9) fun z s10 ⟨yv, H10, I10, r10, k, ek, nx⟩ => ?_
        subst ek
        have r10 : z = .bool k := r10
        subst r10
        obtain ⟨n', rfl⟩ : ∃ n', n = n' + 1 := ⟨n - 1, by omega⟩
        refine seg_at (seg_yield rfl rfl rfl ⟨k, rfl, fun hk => ?_, fun hk => ?_⟩)
        · rw [if_neg hk] at nx
          exact ⟨_, _, _, I10, nx⟩
        · rw [if_pos hk] at nx
          obtain ⟨m', hm, ga⟩ := fin I10 nx
          refine ⟨i + 1, m', by omega, ga, fun s2 e1 e2 e3 => ?_⟩
          obtain ⟨H', J', st', nn', w'⟩ := ga
          exact seg_again rfl (ih m' hm n' (i + 1) s2 s2 (by omega) ⟨H', inv_gens J' e1 e2 e3, by rw [e1]; exact st', nn', w'⟩)

/-- the generator a is at rest and may be woken n times -/
def GJ (B : Cx) (A : Around) (g : Nat) (fp : List Addr) (tn : Nat → Heap → Prop) (σw : St) (W : Nat → Nat → Hp → Prop) (kb : Bool) (Qt Qf : Hp → Prop) (n : Nat) (s : Shared) : Prop :=
  GEnd B (fun _ => True) s ∧ ∃ gs, s.gens[g]? = some gs ∧ ∀ s2 : Shared, s2.heap = s.heap → s2.os = s.os → PyProof.Rows.AllBare s2.gens → gs.Goes (model B.prog B.w) A (GR B Qt) (GY B fp tn σw W kb Qf) n (.send .none) s2
theorem bare_set {s : Shared} {g : Nat} {x : GenState} (h : PyProof.Rows.AllBare s.gens) (hx : x.bare = true) : PyProof.Rows.AllBare (s.setGen g x).gens := fun y hy => by
  have e2 : (s.setGen g x).gens = s.gens.setIfInBounds g x := rfl
  rw [e2] at hy
  rcases Array.mem_or_eq_of_mem_setIfInBounds hy with hy | rfl
  · exact h y hy
  · exact hx
theorem gen_next {A : Around} {cenv : PySem.Env} {fp : List Addr} {tn : Nat → Heap → Prop} {s4 : Shared} {H4 : Hp} {σw σ : St} {pins : List (Addr × Obj)} {W : Nat → Nat → Hp → Prop} {kb : Bool} {Qt Qf : Hp → Prop} {a : Addr} {oa : Obj} {g n : Nat} {s : Shared}
    (hh : A.handled = none) (hroom : A.depth < recursionLimit) (I4 : Inv X pins σ H4 s4) (f4 : ∀ b ∈ fp, FpOk X pins H4 b) (hoa : ∀ h : Heap, h.get? a = some oa → h.IsGen a g)
    (J : GJ (gcx X A.in1 s4 H4 cenv fp [(a, oa)]) A.in1 g fp tn σw W kb Qt Qf n s) :
    wpAny (model X.prog X.w) A (pyNext (.ref a)) (fun r s1 => (r = none ∧ ∃ H', Inv X pins σ H' s1 ∧ Qt H') ∨ (∃ k : Bool, r = some (.bool k) ∧ k ≠ kb ∧ ∃ H', Inv X pins σ H' s1 ∧ Qf H') ∨
      (r = some (.bool kb) ∧ ∃ m, m < n ∧ GJ (gcx X A.in1 s4 H4 cenv fp [(a, oa)]) A.in1 g fp tn σw W kb Qt Qf m s1)) (fun _ _ => False) s := by
  have toX : ∀ {pins' : List (Addr × Obj)} {σ' : St} {H' : Hp} {s1 : Shared}, Inv (gcx X A.in1 s4 H4 cenv fp [(a, oa)]) pins' σ' H' s1 → Inv X pins σ H' s1 := fun {pins' σ' H' s1} I =>
    I4.call' (ch := fp) I.os I.base I.hok I.bare fun b hb => ⟨(f4 b hb).2.2.2.1, (f4 b hb).2.1, (f4 b hb).2.2.2.2.1, (f4 b hb).2.2.2.2.2⟩
  obtain ⟨⟨σ', pins', H', I, _⟩, gs, hgs, hgo⟩ := J
  have hpin := (I.pin (a, oa) (List.mem_append_left _ (List.mem_singleton.mpr rfl))).1
  have hlt : g < s.gens.size := (Array.getElem?_eq_some_iff.mp hgs).1
  refine GenW.wpAny_gsz (n := g + 1) hlt (wpAny_pyNext_genexpQ (P := fun _ _ s1 => GEnd (gcx X A.in1 s4 H4 cenv fp [(a, oa)]) Qt s1) hh I.nolimit hroom (hoa _ hpin) hgs (hgo _ rfl rfl (bare_set I.bare rfl)) (fun v s1 gs' hb hv hsz => ?_) (fun s1 hp h' hk hsz => ?_))
  · obtain ⟨k, rfl, hne, heq⟩ := hv
    by_cases hk : k = kb
    · subst hk
      obtain ⟨i, m, hm, ga, kap⟩ := heq rfl
      obtain ⟨n', rfl⟩ : ∃ n', n = n' + 1 := ⟨n - 1, by omega⟩
      obtain ⟨H2, J2, _⟩ := ga
      refine .inr (.inr ⟨rfl, n', Nat.lt_succ_self _, ⟨_, _, H2, inv_gens J2 rfl rfl (bare_set J2.bare hb), trivial⟩, gs', ?_, fun s2 e1 e2 e3 => kap s2 e1 e2 e3⟩)
      have e2 : (s1.setGen g gs').gens = s1.gens.setIfInBounds g gs' := rfl
      rw [e2] at hsz ⊢
      rw [Array.size_setIfInBounds] at hsz
      rw [Array.getElem?_setIfInBounds_self_of_lt (by omega)]
    · obtain ⟨_, _, H2, J2, q⟩ := hne hk
      exact .inr (.inl ⟨k, rfl, hk, H2, inv_gens (toX J2) rfl rfl (bare_set J2.bare hb), q⟩)
  · obtain ⟨_, _, H2, J2, q⟩ := hp
    have J3 := (toX J2).kept (t' := s1.toks) hk
    exact .inl ⟨rfl, H2, inv_gens J3 rfl rfl (bare_set J2.bare rfl), q⟩

theorem gen_seg0 {B : Cx} {elt tg iter : Expr} {ifs : List Expr} {scope : Scope} {gpos : Pos} {A : Around} {cenv : PySem.Env} {it : Addr} {fp : List Addr} {tn : Nat → Heap → Prop} {J : It} {R : GenEnd} {Y : Protocol} {n : Nat} {s0 s : Shared}
    (T : Turn B.prog B.w B.K tg J fp it tn) (st : tn 0 s.heap)
    (loop : Seg (model B.prog B.w) A R Y n s0 (.compLoop (.GeneratorExp elt [⟨tg, iter, ifs, 0⟩] scope gpos) 0 (.ref it) .none cenv) ((model B.prog B.w).den (.compLoop (.GeneratorExp elt [⟨tg, iter, ifs, 0⟩] scope gpos) 0 (.ref it) .none cenv)) [] s) :
    Seg (model B.prog B.w) A R Y n s0 (.compStart (.GeneratorExp elt [⟨tg, iter, ifs, 0⟩] scope gpos) 0 (.ref it) .none cenv) ((model B.prog B.w).den (.compStart (.GeneratorExp elt [⟨tg, iter, ifs, 0⟩] scope gpos) 0 (.ref it) .none cenv)) [] s := by
  show Seg _ A _ _ _ s0 _ ((compStart (.GeneratorExp elt [⟨tg, iter, ifs, 0⟩] scope gpos) 0 (.ref it) .none cenv).onRaise (leaving cenv)) [] s
  unfold compStart
  rw [Sem.onRaise_eq_wrap]
  show Seg _ A _ _ _ s0 _ ((ask >>= _).wrap _ _ _ _) [] s
  refine seg_bind_wrap (wpAny_askSetting ?_)
  split
  · exact seg_again rfl loop
  · first
      | exact seg_bind_wrap (wpAny_rule (seg_bind_wrap (wpAny_standAt (seg_bind_wrap (T.self _ 0 s _ _ st (seg_again rfl loop))))))
      | (refine seg_bind_wrap (wpAny_rule ?_); show Seg _ A _ _ _ s0 _ ((standAt iter.pos >>= _).wrap _ _ _ _) [] s; exact seg_bind_wrap (wpAny_standAt (seg_bind_wrap (T.self _ 0 s _ _ st (seg_again rfl loop)))))
/-- all(elt for tg in iter if ..) (kb = true), any(..) (kb = false): P the table of the def's code -/
def tAll (kb : Bool) (P : Addr) (wi : TI) (g : TG) (tt : TT) (te : TE) (vs : List Nat) : TE := fun σ H Q => wi σ H fun J H1 => GxR.TabG H1 P ∧ ∀ H2, GxR.Tabbed P H1 H2 → ∃ W : Nat → Nat → Hp → Prop, (∃ m, W 0 m H2) ∧ ∀ i m H, W i m H →
  (J.stop i H ∧ Q (.bl kb) H) ∨ (J.go i H ∧ ∃ Nx : Hp → Prop, (∀ H', Nx H' → ∃ m', m' < m ∧ W (i + 1) m' H') ∧ ∀ x H', J.yld i H x H' → g x (wipe σ vs) H' fun σ2 H2 => wipe σ2 vs = wipe σ vs ∧ tt σ2 H2 fun b H3 =>
      if b = true then te σ2 H3 fun y H4 => ∃ k, y = .bl k ∧ (if k = kb then Nx H4 else Q (.bl (!kb)) H4) else Nx H3)
/-- the generator stands ready -/
def GReady (X : Cx) (pins : List (Addr × Obj)) (σ : St) (Q : VK) (kb : Bool) (a : Addr) (s5 : Shared) : Prop := ∃ (g n : Nat) (J : Nat → Shared → Prop), s5.heap.IsGen a g ∧ J n s5 ∧
  ∀ n s, J n s → wpAny (model X.prog X.w) X.A.in1 (pyNext (.ref a)) (fun r s1 => (r = none ∧ EP X pins σ Q (.bool kb) s1) ∨ (r = some (.bool (!kb)) ∧ EP X pins σ Q (.bool (!kb)) s1) ∨ (r = some (.bool kb) ∧ ∃ m, m < n ∧ J m s1)) (fun _ _ => False) s
theorem gen_made {elt tg iter : Expr} {ifs : List Expr} {scope : Scope} {own : List (Str × Nat)} {gpos : Pos} {wi : TI} {g : TG} {tt : TT} {te : TE} {kb : Bool} {c P : Addr} {k : Nat} {pins : List (Addr × Obj)} {σ : St} {H : Hp} {s : Shared} {Q : VK} {Q' : Value → Shared → Prop}
    (hc : X.calm = true) (hr : Room (k + 1) X.A) (hN : X.N.Nodup) (TB : GxR.TabB X.base X.mg c P) (hcode : X.env.code = .ref c) (hi : PI X tg iter wi) (ok : BlkOk X.N X.env.scope scope own) (hcell : ∀ y ∈ scope.names, y.2 ≠ .cell) (hco : scope.isCoroutine = false) (h0 : scope.names.lookup (".0" : Str) = some NameKind.local) (hdot : (".0" : Str) ∉ X.N)
    (hg : ∀ (A : Around) (s : Shared) (H : Hp) (C : Addr) (cl : List (Str × Addr)) (code : Value) (fp : List Addr) (pn : List (Addr × Obj)), PG (gcx X A s H (genEnv scope cl C code builtinsNs X.env) fp pn) tg g)
    (ht : ∀ (s : Shared) (H : Hp) (C : Addr) (cl : List (Str × Addr)) (code : Value) (fp : List Addr) (pn : List (Addr × Obj)), PTs (gcx X X.A.in1.in1 s H (genEnv scope cl C code builtinsNs X.env) fp pn) ifs tt)
    (he : ∀ (s : Shared) (H : Hp) (C : Addr) (cl : List (Str × Addr)) (code : Value) (fp : List Addr) (pn : List (Addr × Obj)), PE (gcx X X.A.in1.in1 s H (genEnv scope cl C code builtinsNs X.env) fp pn) elt te)
    (hs : ∀ v, genFold iter X.env v = pure v) (I : Inv X pins σ H s) (h : tAll kb P wi g tt te (own.map (·.2)) σ H Q) (hQ : ∀ a s5, GReady X pins σ Q kb a s5 → Q' (.ref a) s5) :
    wpAny (model X.prog X.w) X.A (eval (.GeneratorExp elt [⟨tg, iter, ifs, 0⟩] scope gpos) X.env) Q' X.xe s := by
  have hfree : ∀ y ∈ scope.names, y.2 = .free → ∃ c, X.env.cells.lookup y.1 = some c := fun y hy e => by
    rcases ok.free y hy e with k | k
    · exact I.ok.has _ (.inl k)
    · exact I.ok.has _ (.inr k)
  refine wpAny_GeneratorExp_make hco (closure_ok hfree) hcell h0 ok.kind (by have := hr.dp; omega) ?_ hs
  refine thn (hi.run pins s σ H _ I h) fun xv s1 hx => thn hx fun itv s2 h2 => ?_
  obtain ⟨it, fp, tn, J, H2, rfl, I2, T, st2, f2, ⟨ps, hP, htr⟩, q⟩ := h2
  have hPs : s2.heap.get? P = some { cls := .none, data := .fields ps } := I2.hok P _ hP
  have cd : PySem.W.CodeHd s2.heap c P := TB.code.keeps fun b u e => I2.bk b u e
  have sz : ∀ b ∈ fp, b < s2.heap.objs.size := fun b hb => by
    obtain ⟨o, e, _⟩ := T.obj _ _ st2 b hb
    exact Heap.lt_size e
  have nP : ∀ b ∈ fp, b ≠ P := fun b hb z => by
    have := (f2 b hb).1
    rw [z, hP] at this
    cases this
  refine ⟨I2.nolimit, ?_⟩
  have cont : ∀ (code : Value) (h3 : Heap) (tk : Nat) (ps' : Array Value), Heap.ExtBut P s2.heap h3 → s2.heap.objs.size ≤ h3.objs.size → h3.get? P = some { cls := .none, data := .fields ps' } → (∃ more, ps' = ps ++ more) → TriplesOk ps'.toList →
      wpAny (model X.prog X.w) X.A (builtinsFor X.env.globals X.env.builtins) (fun bi s₄ =>
        ∀ h', h'.Ns s₄.heap.objs.size (fun y => if y = ".0" then some (.ref it) else none) → Heap.SameBut s₄.heap.objs.size (s₄.heap.push { cls := .type "frame", data := .dict #[] }) h' →
          Q' (.ref h'.objs.size) { s₄ with
            gens := s₄.gens.push (.fresh (.compStart (.GeneratorExp elt [⟨tg, iter, ifs, 0⟩] scope gpos) 0 (.ref it) .none (genEnv scope (cloFrom X.env.cells scope.names []) s₄.heap.objs.size code bi X.env))),
            toks := s₄.toks + 1 + 1 + 1,
            heap := h'.push { cls := .type "generator", data := .fields #[.int s₄.gens.size 0, .str "<genexpr>" (s₄.toks + 1), .str (X.env.qual ++ "<genexpr>") (s₄.toks + 1 + 1)] } }) X.xe { s2 with heap := h3, toks := tk } := by
    rintro code h3 tk ps' hx hsz hP3 ⟨more, rfl⟩ htr3
    obtain ⟨bm, ob, e1, e2, e3, e4, e5, e6, e7, e8⟩ := TB.bm
    have keep3 : ∀ b u, b ≠ P → s2.heap.get? b = some u → h3.get? b = some u := fun b u hb e => hx b u hb e
    refine wpAny_builtinsFor (m := X.mg) (by rw [I2.ok.glob]; exact (I2.mod.glob.keeps I2.bk).extBut hx TB.gP) e1 e2 (keep3 _ _ e4 (I2.bk _ _ e5)) e6 e7 e8 ?_
    intro h' hn' hs'
    have I3 := GxR.inv_tab (more := more) (h' := h3) (g' := s2.gens) (d' := s2.drawn) (t' := tk) I2 hP keep3 hP3 I2.bare
    generalize hH3 : upd H2 P (.tbl (ps ++ more)) = H3 at I3
    have f3 : ∀ b ∈ fp, FpOk X pins H3 b ∧ b < h3.objs.size := fun b hb => ⟨⟨by rw [← hH3, upd_ne (nP b hb)]; exact (f2 b hb).1, (f2 b hb).2⟩, Nat.lt_of_lt_of_le (sz b hb) hsz⟩
    obtain ⟨W, ⟨m0, w0⟩, turn⟩ := q H3 ⟨⟨ps ++ more, by rw [← hH3]; exact upd_same, htr3⟩, fun b hb => by rw [← hH3]; exact upd_ne hb⟩
    have hsz' : h'.objs.size = h3.objs.size + 1 := by rw [hs'.1, Heap.size_push]
    have keep5 : ∀ b o, h3.get? b = some o → (h'.push { cls := .type "generator", data := .fields #[.int s2.gens.size 0, .str "<genexpr>" (tk + 1), .str (X.env.qual ++ "<genexpr>") (tk + 1 + 1)] }).get? b = some o :=
      fun b o e => Heap.get?_push_of_some _ (hs'.extBut b o (Nat.ne_of_lt (Heap.lt_size e)) (Heap.get?_push_of_some _ e))
    have IB := gen_start (A := X.A.in1.in1) (code := code) (it := .ref it) (g5 := s2.gens.push (.fresh (.compStart (.GeneratorExp elt [⟨tg, iter, ifs, 0⟩] scope gpos) 0 (.ref it) .none (genEnv scope (cloFrom X.env.cells scope.names []) h3.objs.size code builtinsNs X.env)))) (t5 := tk + 1 + 1 + 1)
      (pn := [(h'.objs.size, { cls := .type "generator", data := .fields #[.int s2.gens.size 0, .str "<genexpr>" (tk + 1), .str (X.env.qual ++ "<genexpr>") (tk + 1 + 1)] })])
      I3 ok hN hcell f3 rfl rfl rfl keep5 (hn'.push _) hdot (I2.bare.push rfl) (fun p hp => by
        rw [List.mem_singleton.mp hp]
        exact ⟨Heap.get?_push_size _ rfl, by show h3.objs.size < h'.objs.size; omega, fun v z => nomatch z⟩)
    refine hQ _ _ ⟨s2.gens.size, m0 + 1, GJ (gcx X X.A.in1.in1 { s2 with heap := h3, toks := tk } H3 (genEnv scope (cloFrom X.env.cells scope.names []) h3.objs.size code builtinsNs X.env) fp [(h'.objs.size, { cls := .type "generator", data := .fields #[.int s2.gens.size 0, .str "<genexpr>" (tk + 1), .str (X.env.qual ++ "<genexpr>") (tk + 1 + 1)] })]) X.A.in1.in1 s2.gens.size fp tn (wipe σ (own.map (·.2))) W kb (fun H => Q (.bl kb) H) (fun H => Q (.bl (!kb)) H), ⟨_, _, _, Heap.get?_push_size _ rfl, rfl, rfl, rfl⟩, ?_, ?_⟩
    · refine ⟨⟨_, _, _, IB, trivial⟩, _, Array.getElem?_push_size .., fun s2' e1 e2 e3 => ⟨rfl, ?_⟩⟩
      have IB2 := inv_gens IB e1 e2 e3
      have st5 : tn 0 s2'.heap := by
        rw [e1]
        exact T.keep _ _ _ st2 fun b hb o e => keep5 b o (keep3 b o (nP b hb) e)
      refine gen_seg0 (B := X) T st5 (gen_seg hc T (hg _ _ _ _ _ _ _ _) (ht _ _ _ _ _ _ _) (he _ _ _ _ _ _ _) hco (fun p hp b hb => ?_) turn m0 (m0 + 1) 0 _ _ (Nat.le_refl _) ⟨H3, IB2, st5, fun b hb => (f3 b hb).1.1, w0⟩)
      rw [List.mem_singleton.mp hp]
      have hb2 := (f3 b hb).2
      exact Nat.ne_of_gt (show b < h'.objs.size by rw [hsz']; exact Nat.lt_succ_of_lt hb2)
    · intro n s hJ
      refine wpAny_mono (gen_next (A := X.A.in1) (I4 := I3) (f4 := fun b hb => (f3 b hb).1) (hh := I3.ok.hd hc) (hroom := by have := hr.dp; show X.A.depth < recursionLimit; omega) (hoa := fun h e => ⟨_, _, _, e, rfl, rfl, rfl⟩) hJ) (fun r s1 hh => ?_) fun _ _ z => z.elim
      rcases hh with ⟨rfl, H', J', q'⟩ | ⟨k, rfl, hk, H', J', q'⟩ | ⟨rfl, hm⟩
      · exact .inl ⟨rfl, .bl kb, H', J', rfl, q'⟩
      · refine .inr (.inl ⟨?_, .bl (!kb), H', J', rfl, q'⟩)
        have ek : k = !kb := by cases k <;> cases kb <;> first | rfl | exact absurd rfl hk
        rw [ek]
      · exact .inr (.inr ⟨rfl, hm⟩)
  cases hf : codeAmong gpos ps.toList with
  | none =>
    refine wpAny_genexprCodeX hcode (cd.code hPs htr) (cd.tab hPs) hf fun c' h' tk hx hge hlt hco' _ htab' _ => ?_
    obtain ⟨o1, vs, f1, tf, fl, tg, inF, tx, tt, op, _, _, _, _, _, _, _, _, _, htr2, _⟩ := hco'
    exact cont _ h' tk _ hx (Nat.le_trans hge (Nat.le_of_lt hlt)) htab'.2 ⟨_, rfl⟩ htr2
  | some cv =>
    refine wpAny_genexprCode_hit hcode (cd.code hPs htr) hf ?_
    exact cont cv s2.heap s2.toks ps (Heap.ExtBut.refl _ _) (Nat.le_refl _) hPs ⟨#[], by simp⟩ htr

theorem pe_all {elt tg iter : Expr} {ifs : List Expr} {scope : Scope} {own : List (Str × Nat)} {p gpos pos : Pos} {wi : TI} {g : TG} {tt : TT} {te : TE} {c P : Addr} {k : Nat}
    (hc : X.calm = true) (hr : Room (k + 1) X.A) (hN : X.N.Nodup) (hgl : Gl X "all") (hm : X.mg "all" = none) (TB : GxR.TabB X.base X.mg c P) (hcode : X.env.code = .ref c) (hi : PI X tg iter wi) (ok : BlkOk X.N X.env.scope scope own) (hcell : ∀ y ∈ scope.names, y.2 ≠ .cell) (hco : scope.isCoroutine = false) (h0 : scope.names.lookup (".0" : Str) = some NameKind.local) (hdot : (".0" : Str) ∉ X.N)
    (hg : ∀ (A : Around) (s : Shared) (H : Hp) (C : Addr) (cl : List (Str × Addr)) (code : Value) (fp : List Addr) (pn : List (Addr × Obj)), PG (gcx X A s H (genEnv scope cl C code builtinsNs X.env) fp pn) tg g)
    (ht : ∀ (s : Shared) (H : Hp) (C : Addr) (cl : List (Str × Addr)) (code : Value) (fp : List Addr) (pn : List (Addr × Obj)), PTs (gcx X X.A.in1.in1 s H (genEnv scope cl C code builtinsNs X.env) fp pn) ifs tt)
    (he : ∀ (s : Shared) (H : Hp) (C : Addr) (cl : List (Str × Addr)) (code : Value) (fp : List Addr) (pn : List (Addr × Obj)), PE (gcx X X.A.in1.in1 s H (genEnv scope cl C code builtinsNs X.env) fp pn) elt te)
    (hs : ∀ v, genFold iter X.env v = pure v)
    (hst : starEach [.GeneratorExp elt [⟨tg, iter, ifs, 0⟩] scope gpos] X.env = (false, eval (.GeneratorExp elt [⟨tg, iter, ifs, 0⟩] scope gpos) X.env) :: starEach [] X.env := by rfl) :
    PE X (.Call (.Name "all" p) [.GeneratorExp elt [⟨tg, iter, ifs, 0⟩] scope gpos] [] pos) (tAll true P wi g tt te (own.map (·.2))) := ⟨fun pins s σ H Q I h => by
  refine wpAny_Call_Name_kw (ld_blt I hgl hm bt_all ?_)
  refine PyProof.Rows.callWith_builtin1 ?_ hst (by rfl)
  rw [hst]
  show wpAny _ _ (spliced ((false, eval (.GeneratorExp elt [⟨tg, iter, ifs, 0⟩] scope gpos) X.env) :: backTo pos (starEach [] X.env))) _ _ s
  refine Calls.spliced_cons (gen_made hc hr hN TB hcode hi ok hcell hco h0 hdot hg ht he hs I h fun a s5 ⟨gi, n, J, hgen, hJ, turn⟩ => ?_)
  refine Calls.spliced_nil ?_
  refine call_allJ (wpAny_pyIter_gen hgen ⟨a, n, J, rfl, hJ, fun n s hJ => wpAny_mono (turn n s hJ) (fun r s1 hh => ?_) fun _ _ z => z⟩)
  rcases hh with ⟨h1, h2⟩ | ⟨h1, h2⟩ | ⟨h1, h2⟩
  · exact .inl ⟨h1, h2⟩
  · exact .inr (.inl ⟨h1, h2⟩)
  · exact .inr (.inr ⟨h1, h2⟩)⟩
end
end Rf
namespace Rf
set_option autoImplicit false
open PySem PySem.Spec L2

section
variable {K : KW} {X : Cx} {W : Wi} {pos : Pos} {k : Nat}
/-- a table has grown -/
theorem RSt.tab {io N : List Addr} {H H2 : Hp} {st : Store} {n : Nat} {p : Str × Option Str} (S : RSt K io N H st) (h : st[n]? = some (.tb p)) (h2 : GxR.Tabbed (He.cT K p).2 H H2) : RSt K io N H2 st ∧ Ext io H io H2 := by
  obtain ⟨⟨ps, hP, ht⟩, ho⟩ := h2
  have hn : io[n]? = some (He.cT K p).2 := by
    obtain ⟨a, u, e1, _, e3, _⟩ := S.ob n _ h
    rw [← e3]
    exact e1
  have e : H2 = upd H (He.cT K p).2 (.tbl ps) := by
    funext b
    by_cases hb : b = (He.cT K p).2
    · rw [hb, upd_same, hP]
    · rw [upd_ne hb, ho b hb]
  have ex : Ext io H io H2 := by rw [e]; exact Ext.upd (List.mem_of_getElem? hn)
  refine ⟨⟨S.len, S.nd, fun m o hm => ?_, fun a ha z => S.tr a ha (ex.trk a z)⟩, ex⟩
  obtain ⟨a, u, e1, e2, e3⟩ := S.ob m o hm
  by_cases hb : a = (He.cT K p).2
  · subst hb
    have hmn : m = n := (List.getElem?_inj (List.getElem?_eq_some_iff.mp e1).1 S.nd).mp (e1.trans hn.symm)
    subst hmn
    rw [h] at hm
    cases hm
    exact ⟨_, _, e1, hP, rfl, ps, rfl, ht⟩
  · exact ⟨a, u, e1, by rw [ho a hb]; exact e2, e3.mono ex⟩
theorem RSt.tabG {io N : List Addr} {H : Hp} {st : Store} {n : Nat} {p : Str × Option Str} (S : RSt K io N H st) (h : st[n]? = some (.tb p)) : GxR.TabG H (He.cT K p).2 := by
  obtain ⟨a, u, e1, e2, e3, ps, rfl, ht⟩ := S.ob n _ h
  subst e3
  exact ⟨ps, e2, ht⟩
/-! ### all(..), any(..) of a generator expression -/
def allGo (kb : Bool) (s : Src) (t : T) (c : EM Bool) (el : EM D) (l : Sl) : List D → Store → Rz D
  | [], st => if s.chk st = true then .ok (.bl kb) st else .fail
  | d :: r, st => if s.chk st = true then (match t.put d l with
    | none => .fail
    | some l1 => (c l1 st).nox.bind fun b st1 => if b = true then (el l1 st1).nox.bind fun e st2 => (match e with
      | .bl k => if k = kb then allGo kb s t c el l r st2 else .ok (.bl (!kb)) st2
      | _ => .fail) else allGo kb s t c el l r st1) else .fail
/-- n: where the def's table stands -/
def allM (kb : Bool) (n : Nat) (p : Str × Option Str) (it : EM Src) (t : T) (c : EM Bool) (el : EM D) (vs : List Nat) : EM D := fun l st => (it l st).bind fun s st1 => match st1[n]? with
  | some (.tb q) => if q = p then allGo kb s t c el (wipeD l vs) s.items st1 else .fail
  | _ => .fail
theorem rg_all {kb : Bool} {n : Nat} {p : Str × Option Str} {wi : TI} {g : TG} {tt : TT} {te : TE} {it : EM Src} {t : T} {c : EM Bool} {el : EM D} {vs : List Nat} (h1 : RG K rI W wi it) (h2 : RT K g t) (h3 : RG K (rE Bool) W.inn tt c) (h4 : RG K rD W.inn te el) (hv : ∀ i ∈ t.slots, i ∈ vs) (hp : W.may vs = true) :
    RG K rD W (tAll kb (He.cT K p).2 wi g tt te vs) (allM kb n p it t c el vs) := by
  intro io N H s l st Q hl hs pp
  refine h1.seq hl hs pp fun io1 H1 src J st1 e1 S1 ir p1 => ?_
  have ir : IR K io1 N H1 J src := ir
  cases htb : st1[n]? with
  | none => rw [htb] at p1; exact p1.elim
  | some oo =>
    rw [htb] at p1
    cases oo with
    | tb q =>
      have p1 : Post K rD io1 N H1 (if q = p then allGo kb src t c el (wipeD l vs) src.items st1 else .fail) Q (fun c d H' => W.w c d s H') := p1
      obtain ⟨hq, p2⟩ := post_if p1
      have pA : Post K rD io1 N H1 (allGo kb src t c el (wipeD l vs) src.items st1) Q (fun c d H' => W.w c d s H') := p2
      subst hq
      refine ⟨S1.tabG htb, fun H2 hH2 => ?_⟩
      obtain ⟨S2, ex0⟩ := S1.tab htb hH2
      have hlD : ∀ {io' H'}, Ext io1 H1 io' H' → REnv K W.inn io' N H' (wipeD l vs) (wipe s vs) := fun ex => ((REnv.inn (hl.mono e1)).wipe vs hp).mono ex
      refine ⟨fun i m H' => m = src.items.length - i ∧ i ≤ src.items.length ∧ ∃ io' st', Ext io1 H1 io' H' ∧ RSt K io' N H' st' ∧ Post K rD io1 N H1 (allGo kb src t c el (wipeD l vs) (src.items.drop i) st') Q (fun c d H' => W.w c d s H'),
        ⟨src.items.length, rfl, Nat.zero_le _, io1, st1, ex0, S2, pA⟩, ?_⟩
      rintro i m H' ⟨rfl, hi, io', st', ex, S', p'⟩
      by_cases hlt : i < src.items.length
      · rw [List.drop_eq_getElem_cons hlt] at p'
        unfold allGo at p'
        obtain ⟨hc, p'⟩ := post_if p'
        obtain ⟨go, yl⟩ := (ir io' [] H' st' (by simp) ex.s S' hc i).1 hlt
        refine .inr ⟨go, fun H2 => ∃ m', m' < src.items.length - i ∧ (m' = src.items.length - (i + 1) ∧ i + 1 ≤ src.items.length ∧ ∃ io' st', Ext io1 H1 io' H2 ∧ RSt K io' N H2 st' ∧ Post K rD io1 N H1 (allGo kb src t c el (wipeD l vs) (src.items.drop (i + 1)) st') Q (fun c d H' => W.w c d s H')), fun H2 h => h, fun x H2 y => ?_⟩
        obtain ⟨d, ed, rd, ex2, S2⟩ := yl x H2 y
        rw [List.getElem?_eq_getElem hlt] at ed
        cases ed
        cases hpu : t.put src.items[i] (wipeD l vs) with
        | none => rw [hpu] at p'; exact p'.elim
        | some l1 =>
          rw [hpu] at p'
          simp only at p'
          refine h2 W.inn (may_sub hp hv) io' N H2 _ _ l1 _ x _ (hlD (ex.trans ex2)) rd hpu fun s3 hl3 hw => ?_
          refine ⟨(hw vs hv).trans (wipe_sub vs fun i hi => hi), ?_⟩
          refine h3.inner hl3 S2 p' fun io3 H3 b b' st3 e3 S3 rb p3 => ?_
          obtain rfl : b = b' := rb
          have ex3 := (ex.trans ex2).trans e3
          cases b with
          | false => exact ⟨_, by omega, rfl, hlt, io3, st3, ex3, S3, p3⟩
          | true =>
            rw [if_pos rfl] at p3
            rw [if_pos rfl]
            refine h4.inner (hl3.mono e3) S3 p3 fun io4 H4 d4 v4 st4 e4 S4 r4 p4 => ?_
            cases d4 with
            | bl kk =>
              refine ⟨kk, r4, ?_⟩
              simp only at p4
              by_cases hk : kk = kb
              · rw [if_pos hk] at p4 ⊢
                exact ⟨_, by omega, rfl, hlt, io4, st4, ex3.trans e4, S4, p4⟩
              · rw [if_neg hk] at p4 ⊢
                exact p4 io4 H4 (.bl (!kb)) (ex3.trans e4) S4 rfl
            | _ => exact p4.elim
      · have e : i = src.items.length := by omega
        subst e
        rw [List.drop_length] at p'
        unfold allGo at p'
        obtain ⟨hc, p'⟩ := post_if p'
        exact .inl ⟨(ir io' [] H' st' (by simp) ex.s S' hc _).2 rfl, p' io' H' (.bl kb) ex S' rfl⟩
    | _ => exact p1.elim
theorem Ctx.gen (c : Ctx X W (k + 1)) (s : Shared) (H : Hp) (scope : Scope) (C : Addr) (cl : List (Str × Addr)) (code : Value) (fp : List Addr) (pn : List (Addr × Obj)) : Ctx (gcx X X.A.in1.in1 s H (genEnv scope cl C code builtinsNs X.env) fp pn) W.inn k :=
  .of ⟨c.room.hd, by have := c.room.dp; show X.A.depth + 1 + 3 * k + 5 < _; omega, by have := c.room.un; show X.A.units + 1 + 1 + 3 + 16 * k + 200 < _; omega⟩ takes0 PassesOwn.never c.nd c.calm
theorem me_all {elt tg iter : Expr} {ifs : List Expr} {scope : Scope} (own : List (Str × Nat)) {p0 gpos : Pos} {it : EM Src} {t : T} {tt : EM Bool} {el : EM D} (n : Nat) (p : Str × Option Str) (c : Ctx X W (k + 1)) (hm : X.mg "all" = none) (TB : GxR.TabB X.base X.mg (He.cT X.K p).1 (He.cT X.K p).2) (hcode : X.env.code = .ref (He.cT X.K p).1) (hi : MI X W tg iter it)
    (hg : ∀ (A : Around) (s : Shared) (H : Hp) (C : Addr) (cl : List (Str × Addr)) (code : Value) (fp : List Addr) (pn : List (Addr × Obj)), MG (gcx X A s H (genEnv scope cl C code builtinsNs X.env) fp pn) tg t)
    (ht : ∀ (s : Shared) (H : Hp) (C : Addr) (cl : List (Str × Addr)) (code : Value) (fp : List Addr) (pn : List (Addr × Obj)), MTs (gcx X X.A.in1.in1 s H (genEnv scope cl C code builtinsNs X.env) fp pn) W ifs tt)
    (he : ∀ (s : Shared) (H : Hp) (C : Addr) (cl : List (Str × Addr)) (code : Value) (fp : List Addr) (pn : List (Addr × Obj)), Ctx (gcx X X.A.in1.in1 s H (genEnv scope cl C code builtinsNs X.env) fp pn) W.inn k → ME (gcx X X.A.in1.in1 s H (genEnv scope cl C code builtinsNs X.env) fp pn) W.inn elt el)
    (hgl : Gl X "all" := by rfl) (ok : blkC X.N X.env.scope scope own = true := by decide +kernel) (hcell : ∀ y ∈ scope.names, y.2 ≠ .cell := by decide) (hco : scope.isCoroutine = false := by rfl) (h0 : scope.names.lookup (".0" : Str) = some NameKind.local := by rfl) (hdot : (".0" : Str) ∉ X.N := by decide +kernel)
    (hv : ∀ i ∈ t.slots, i ∈ own.map (·.2) := by decide) (hp : W.may (own.map (·.2)) = true := by rfl) (hs : ∀ v, genFold iter X.env v = pure v := by intro _; rfl)
    (hst : starEach [.GeneratorExp elt [⟨tg, iter, ifs, 0⟩] scope gpos] X.env = (false, eval (.GeneratorExp elt [⟨tg, iter, ifs, 0⟩] scope gpos) X.env) :: starEach [] X.env := by rfl) :
    ME X W (.Call (.Name "all" p0) [.GeneratorExp elt [⟨tg, iter, ifs, 0⟩] scope gpos] [] pos) (allM true n p it t tt el (own.map (·.2))) := by
  obtain ⟨wi, p1, q1⟩ := hi
  exact ⟨_, pe_all (g := cG X.kw t) (tt := cE X.kw (rE Bool) W.inn tt) (te := cE X.kw rD W.inn el) c.calm c.room c.nd hgl hm TB hcode p1 (blkOk_by ok) hcell hco h0 hdot (fun A s H C cl code fp pn => (hg A s H C cl code fp pn).pg) (fun s H C cl code fp pn => ht s H C cl code fp pn) (fun s H C cl code fp pn => (he s H C cl code fp pn (c.gen s H scope C cl code fp pn)).pe) hs hst,
    rg_all q1 rt_cG rg_cE rg_cE hv hp⟩

/-- fn_mk, the running code object known -/
theorem fn_mkT {P : Program} {w : World} {K : PySem.W.Frag} {mg : Str → Option Value} {base : Heap} {x qual : Str} {params : Arguments} {body : List Stmt} {scope : Scope} {at_ : Str × Option Str} {fd : FuncData} {Ns ps : List Str} {j : Nat} {m : SM} (F : FunD K x qual params body scope [] [] (He.fAd K at_) fd) (S : FnScope Ns ps scope)
    (h : ∀ (cdv : Value) (A : Around) (outer : List PySem.Env) (s : Shared) (H : Hp) (E : XK), cdv = .ref (He.cT K at_).1 → Ctx (cxOf (L2.CX P w) P w K mg base Ns qual scope (He.fAd K at_) cdv A outer s H E) (wD E) j →
      MSs (cxOf (L2.CX P w) P w K mg base Ns qual scope (He.fAd K at_) cdv A outer s H E) (wD E) body m) : FnOk P w K mg base (L2.CX P w) (j + 1) (He.fAd K at_) fd ps (spF ⟨K, P, w⟩ ps.length (dfM ps.length Ns.length m)) := by
  obtain ⟨oc, od, dV, kV, doc, pm, an, cdv, ct, osl, rfl, lk, hcd, _, _⟩ := F.ex
  have ecd : cdv = .ref (He.cT K at_).1 := by
    obtain ⟨c, rfl⟩ := He.codeIn_ref hcd
    have := He.codeOf_eq lk (c := c) rfl
    show Value.ref c = .ref (He.codeOf K at_)
    rw [this]
  refine fn_of lk hcd S (fun vs H Q E h => h.1) fun A outer s H vs Q E hr ⟨hlen, io, N, ds, st, r, hs, p⟩ => ?_
  obtain ⟨t, p1, q1⟩ := h cdv A outer s H E ecd (.of hr (takes_of rfl rfl rfl rfl) (passes_of rfl) S.nd rfl)
  refine ⟨t, p1, ?_⟩
  have hd : ds.length = ps.length := by rw [← r.len]; exact hlen
  unfold dfM at p
  rw [if_pos hd] at p
  have hl : REnv ⟨K, P, w⟩ (wD E) io N H (ds.map some ++ List.replicate (Ns.length - ps.length) none) (L2.start Ns vs) := by
    unfold L2.start
    rw [hlen]
    exact ⟨trivial, env_start _ r⟩
  refine q1 io N H _ _ st _ hl hs ?_
  cases e : m (ds.map some ++ List.replicate (Ns.length - ps.length) none) st with
  | nx l' st' =>
    rw [e] at p
    exact fun io' H' s' ex rl S' => p io' H' .non ex S' rfl
  | rt d st' =>
    rw [e] at p
    exact p
  | exc c fs l' st' =>
    rw [e] at p
    exact fun io' H' s' cls dd ex rl S' rx => p io' H' cls dd ex S' rx
  | bk l' st' =>
    rw [e] at p
    exact p.elim
  | ct l' st' =>
    rw [e] at p
    exact p.elim
  | fail =>
    rw [e] at p
    exact p.elim
end
end Rf
namespace Rf
set_option autoImplicit false
open PySem PySem.Spec L2

section
variable {K : PySem.W.Frag} {fa : List He.Fa} {fx : List Fx} {fn : List He.DefD} {tf : List He.Defn} {w : World} {h : Heap}
/-- what the top tells beyond names and defs: wider facts; the tables stand apart -/
def exB (fx : List Fx) (tf : List He.Defn) (K : PySem.W.Frag) : Bool := (fx.all fun f => f.ok K) && decide ((tf.map fun p => (He.cT K p).2).Nodup)
theorem saysR_of (c : He.SaysX fa fn [] tf (exB fx tf) w h K) : SaysR fa fx fn K := by
  have h1 : (fx.all fun f => f.ok K) = true := (Bool.and_eq_true_iff.mp c.more).1
  have h2 : He.obsD fa fn K = He.valD fn := c.t.d
  show ((fx.all fun f => f.ok K), He.obsD fa fn K) = (true, He.valD fn)
  rw [h1, h2]
theorem tabs_nodup (c : He.SaysX fa fn [] tf (exB fx tf) w h K) : (tf.map fun p => (He.cT K p).2).Nodup := of_decide_eq_true (Bool.and_eq_true_iff.mp c.more).2
/-- the law's promise over a start store of tables -/
theorem lpostT {P : Program} {H : Hp} {a : Addr} {ns : List Int} {m : FM} {st' : Store} (hS : SqL K H a (ns.map V.int)) (hT : ∀ p ∈ tf, H (He.cT K p).2 = some (.tbl #[])) (nd : (tf.map fun p => (He.cT K p).2).Nodup)
    (e : m [.rd (ns.map D.int)] (tf.map O.tb) = .ok (.bl true) st') : spF ⟨K, P, w⟩ 1 m [.ref a] H (fun v _ => v = .bl true) fun _ _ _ => False := by
  have hio : ∀ b ∈ tf.map fun p => (He.cT K p).2, H b = some (.tbl #[]) := fun b hb => by
    obtain ⟨p, hp, rfl⟩ := List.mem_map.mp hb
    exact hT p hp
  refine ⟨rfl, tf.map fun p => (He.cT K p).2, [], [.rd (ns.map D.int)], tf.map O.tb, ⟨_, _, rfl, ⟨a, _, rfl, ?_, Reps.of_ints ns⟩, rfl⟩, ⟨by simp, nd, fun n o ho => ?_, fun a h => by simp at h⟩, ?_⟩
  · rcases hS with hS | hS
    · refine .inl ⟨fun hb => ?_, by simp, hS⟩
      have := hio a hb
      rcases hS with z | ⟨o, z⟩ <;> rw [this] at z <;> cases z
    · exact .inr fun H' => .inr hS
  · rw [List.getElem?_map] at ho
    obtain ⟨p, hp, rfl⟩ := Option.map_eq_some_iff.mp ho
    exact ⟨_, _, by rw [List.getElem?_map, hp]; rfl, hT p (List.mem_of_getElem? hp), rfl, #[], rfl, trivial⟩
  · rw [e]
    intro io' H' v _ _ r
    exact r
end
end Rf
namespace Rf
open PySem PySem.Spec PyProof.Rows L2
section
variable {X : Cx} {W : Wi} {pos : Pos}
/-- isinstance(x, (A, B)), two built-in types -/
def isi2M (T U : Ty) (a : EM D) : EM D := fun l st => (a l st).bind fun d st1 => match tyD d st1 with
  | some t => .ok (.bl (isT t T || isT t U)) st1
  | none => .fail
theorem kit_ty2 {K : PySem.W.Frag} (t T U : Ty) : PySem.W.kitAny K (.type t.nm) [.type T.nm, .type U.nm] = some (isT t T || isT t U) := by
  refine kitAny_cons (kit_ty (isT_ok t T)) (fun h => ?_) (fun h => by rw [h]; rfl)
  refine kitAny_cons (kit_ty (isT_ok t U)) (fun h2 => ?_) (fun h2 => by rw [h, h2]; rfl)
  rw [h, h2]
  exact kitAny_nil
theorem me_isi2 {e : Expr} {a : EM D} {T U : Ty} {nm nm2 : Str} {p p2 p3 tpos : Pos} {kk : Nat} (h : ME X W e a) (hm : X.mg "isinstance" = none) (hm2 : X.mg nm = none) (hm3 : X.mg nm2 = none)
    (hv : bootBuiltins nm = some (.type T.nm)) (hv2 : bootBuiltins nm2 = some (.type U.nm)) (hg : Gl X "isinstance" := by rfl) (hg2 : Gl X nm := by rfl) (hg3 : Gl X nm2 := by rfl)
    (hn : nm ≠ "__name__" := by decide) (hd : (nm == ("__debug__" : Str)) = false := by decide) (hn2 : nm2 ≠ "__name__" := by decide) (hd2 : (nm2 == ("__debug__" : Str)) = false := by decide)
    (ha : starEach [.Name nm p2, .Name nm2 p3] X.env = (false, eval (.Name nm p2) X.env) :: starEach [.Name nm2 p3] X.env := by rfl) (ha2 : starEach [.Name nm2 p3] X.env = (false, eval (.Name nm2 p3) X.env) :: starEach [] X.env := by rfl)
    (he : starEach [e, .Tuple [.Name nm p2, .Name nm2 p3] kk tpos] X.env = (false, eval e X.env) :: starEach [.Tuple [.Name nm p2, .Name nm2 p3] kk tpos] X.env := by rfl)
    (he2 : starEach [.Tuple [.Name nm p2, .Name nm2 p3] kk tpos] X.env = (false, eval (.Tuple [.Name nm p2, .Name nm2 p3] kk tpos) X.env) :: starEach [] X.env := by rfl)
    (hpl : (backTo pos (starEach [.Tuple [.Name nm p2, .Name nm2 p3] kk tpos] X.env)).any (·.1) = false := by rfl) :
    ME X W (.Call (.Name "isinstance" p) [e, .Tuple [.Name nm p2, .Name nm2 p3] kk tpos] [] pos) (isi2M T U a) := by
  obtain ⟨t, p1, q1⟩ := h
  refine ⟨_, pe_callB call_isiT hg hm PyProof.Rows.boot_isinstance (pa_cons p1 (pa_cons (pe_tup (pa_cons (pe_bltn (v := .ty T.nm) hg2 hm2 hv rfl hn hd) (pa_cons (pe_bltn (v := .ty U.nm) hg3 hm3 hv2 rfl hn2 hd2) pa_nil ha2) ha)) pa_nil he2) he) (by decide) (by decide) he hpl, fun io N H s l st Q hl hs p => ?_⟩
  refine q1.seq hl hs p fun io1 H1 d v st1 e1 S1 r1 p1 => ?_
  cases ht : tyD d st1 with
  | none => rw [ht] at p1; exact p1.elim
  | some t0 =>
    rw [ht] at p1
    refine ⟨by show 2 ≤ sizeLine; rw [sizeLine_eq]; omega, fun b hb => ?_⟩
    have ex := Ext.new (io := io1) (u := .tup [.ty T.nm, .ty U.nm]) hb
    exact ⟨v, b, _, _, _, _, rfl, upd_same, .cons (.ty _) (.cons (.ty _) .nil), tyD_ok (S1.new hb) (r1.mono ex) ht, kit_ty2 t0 T U, p1 io1 _ _ ex (S1.new hb) rfl⟩
theorem seqIdx_nat {n j : Nat} (h : j < n) : seqIndex? (j : Int) n = some j := by
  unfold seqIndex?
  split <;> simp_all <;> omega
/-- o.pop(i), o a list of the store, i from the front -/
def popI (d : D) (n : Nat) (st : Store) : Rz D := match d, st[n]? with
  | .int (.ofNat j), some (.lst ds) => (match ds[j]? with
    | some y => if small ds.length = true then .ok y (st.set n (.lst (ds.eraseIdx j))) else .fail
    | none => .fail)
  | _, _ => .fail
def popM (o a : EM D) : EM D := fun l st => (o l st).bind fun x st1 => match x with
  | .ref n => (match st1[n]? with
    | some (.lst _) => (a l st1).bind fun d st2 => popI d n st2
    | _ => .fail)
  | _ => .fail
theorem me_popI {o e : Expr} {mo ma : EM D} {apos : Pos} (ho : ME X W o mo) (ha : ME X W e ma) (hs1 : starEach (e :: []) X.env = (false, eval e X.env) :: starEach [] X.env := by rfl) (hbase : attributeBase o "pop" X.env (eval o X.env) = eval o X.env := by rfl)
    (hfew : ((backTo pos (starEach (e :: []) X.env)).all (fun x => !x.1) && (backToKw pos (keywordEach [] X.env)).all (fun x => x.1.isSome) && decide ((e :: ([] : List Expr)).length + ([] : List Keyword).length + (if ([] : List Keyword).isEmpty then 0 else 1) < 30)) = true := by rfl)
    (hline : (apos.endLine == pos.line) = true := by rfl) (hplain : (backTo pos (starEach [] X.env)).any (·.1) = false := by rfl) : ME X W (.Call (.Attribute o "pop" apos) [e] [] pos) (popM mo ma) := by
  obtain ⟨t1, p1, q1⟩ := ho
  obtain ⟨t2, p2, q2⟩ := ha
  refine ⟨_, pe_bm PySem.F.plainAttrs_list PySem.F.slot_list_pop PySem.F.type_list_pop mt_popAt p1 (pa_cons p2 pa_nil hs1) hbase hfew hline hs1 hplain, fun io N H s l st Q hl hs p => ?_⟩
  refine q1.seq hl hs p fun io1 H1 x w st1 e1 S1 r1 p => ?_
  cases x with
  | ref n =>
    cases hh : st1[n]? with
    | none => simp only [hh] at p; exact p.elim
    | some oo =>
      cases oo with
      | lst l0 =>
        simp only [hh] at p
        obtain ⟨b, xs0, rfl, eio, eH, rr0⟩ := rs_lst S1 r1 hh
        refine ⟨.inl ⟨rfl, xs0, SqL.of eH⟩, ?_⟩
        refine q2.seq (hl.mono e1) S1 p fun io2 H2 d v st2 e2 S2 r2 p => ?_
        unfold popI at p
        split at p
        · rename_i _ j ds h2
          split at p
          · rename_i y hy
            obtain ⟨hc, p⟩ := post_if p
            obtain ⟨b', xs, eb, eio2, eH2, rr⟩ := rs_lst S2 (r1.mono e2) h2
            cases eb
            obtain ⟨S3, ex⟩ := rs_lstSet S2 eio2 (rr.erase j)
            obtain ⟨u, hu, ru⟩ := rr.get hy
            have hj : j < xs.length := (List.getElem?_eq_some_iff.mp hu).1
            have hb : xs.length ≤ sizeLine := by rw [rr.len]; exact small_ok hc
            rw [sizeLine_eq] at hb
            obtain rfl := r2
            exact ⟨b, xs, (j : Int), j, u, rfl, rfl, eH2, by omega, by omega, seqIdx_nat hj, hu, p io2 _ u ex S3 (ru.mono ex)⟩
          · exact p.elim
        · exact p.elim
      | _ => simp only [hh] at p; exact p.elim
  | _ => exact p.elim
/-! ### list(range(n)), tuple(range(n)) -/
theorem reps_map (g : Nat → Int) {io N : List Addr} {H : Hp} {K : KW} : ∀ l : List Nat, Reps K io N H (l.map fun i => D.int (g i)) (l.map fun i => V.int (g i))
  | [] => rfl
  | _ :: l => ⟨_, _, rfl, rfl, reps_map g l⟩
theorem rgV_rng (n : Nat) {io N : List Addr} {H : Hp} {K : KW} : Reps K io N H (rngD 0 n) (rgV 0 (n : Int)) := by
  have e2 : rgV 0 (n : Int) = (List.range n).map fun (i : Nat) => V.int (0 + (i : Int)) := by
    unfold rgV
    rw [show ((n : Int) - 0).toNat = n by omega]
  rw [e2]
  exact reps_map (fun i => 0 + (i : Int)) _
def rgM (a : EM D) : EM (List D) := fun l st => (a l st).bind fun d st1 => match d with
  | .int (.ofNat j) => if j ≤ 1000000 then .ok (rngD 0 j) st1 else .fail
  | _ => .fail
theorem ml_lrng {e : Expr} {a : EM D} {p p2 pos2 : Pos} (hc : X.calm = true) (hm : X.mg "list" = none) (hm2 : X.mg "range" = none) (h : ME X W e a) (hg : Gl X "list" := by rfl) (hg2 : Gl X "range" := by rfl)
    (na : starEach [e] X.env = (false, eval e X.env) :: starEach [] X.env := by rfl) (na2 : starEach [.Call (.Name "range" p2) [e] [] pos2] X.env = (false, eval (.Call (.Name "range" p2) [e] [] pos2) X.env) :: starEach [] X.env := by rfl) :
    ML X W (.Call (.Name "list" p) [.Call (.Name "range" p2) [e] [] pos2] [] pos) (rgM a) := by
  obtain ⟨t, p1, q1⟩ := h
  refine ⟨_, pe_listRg hc hg hm (prg_1 hg2 hm2 p1 na) na2, fun io N H s l st Q hl hs p => ?_⟩
  refine q1.seq hl hs p fun io1 H1 d v st1 e1 S1 r1 p => ?_
  split at p
  · rename_i j
    obtain ⟨hj, p⟩ := post_if p
    obtain rfl := r1
    refine ⟨(j : Int), rfl, RgOk.of_le (by omega) (by omega) (by omega) (by omega), fun q hq => ?_⟩
    obtain ⟨S2, q2⟩ := fresh_list S1 (rgV_rng j) hq fun _ h => h
    exact p io1 _ _ (Ext.new hq) S2 q2
  · exact p.elim
def trgM (a : EM D) : EM D := fun l st => (a l st).bind fun d st1 => match d with
  | .int (.ofNat j) => if j ≤ 1000000 then .ok (.tup (rngD 0 j)) st1 else .fail
  | _ => .fail
theorem me_trng {e : Expr} {a : EM D} {p p2 pos2 : Pos} (hc : X.calm = true) (hm : X.mg "tuple" = none) (hm2 : X.mg "range" = none) (h : ME X W e a) (hg : Gl X "tuple" := by rfl) (hg2 : Gl X "range" := by rfl)
    (na : starEach [e] X.env = (false, eval e X.env) :: starEach [] X.env := by rfl) (na2 : starEach [.Call (.Name "range" p2) [e] [] pos2] X.env = (false, eval (.Call (.Name "range" p2) [e] [] pos2) X.env) :: starEach [] X.env := by rfl) :
    ME X W (.Call (.Name "tuple" p) [.Call (.Name "range" p2) [e] [] pos2] [] pos) (trgM a) := by
  obtain ⟨t, p1, q1⟩ := h
  refine ⟨_, pe_tupRgF hc hg hm (prg_1 hg2 hm2 p1 na) na2, fun io N H s l st Q hl hs p => ?_⟩
  refine q1.seq hl hs p fun io1 H1 d v st1 e1 S1 r1 p => ?_
  split at p
  · rename_i j
    obtain ⟨hj, p⟩ := post_if p
    obtain rfl := r1
    exact ⟨(j : Int), rfl, RgOk.of_le (by omega) (by omega) (by omega) (by omega), post_tup p S1 (rgV_rng j)⟩
  · exact p.elim
/-! ### list.index, ints -/
def asInts : List D → Option (List Int)
  | [] => some []
  | .int i :: l => (asInts l).map (i :: ·)
  | _ => none
theorem asInts_ok : ∀ {l : List D} {ns : List Int}, asInts l = some ns → l = ns.map D.int
  | [], ns, h => by cases h; rfl
  | d :: l, ns, h => by
    cases d with
    | int i =>
      simp only [asInts, Option.map_eq_some_iff] at h
      obtain ⟨m, h1, rfl⟩ := h
      rw [asInts_ok h1]
      rfl
    | _ => cases h
def idxI (ns : List Int) (z : Int) : Option Nat := ns.findIdx? (· == z)
theorem idxI_ok {ns : List Int} {z : Int} {j : Nat} (h : idxI ns z = some j) : ns[j]? = some z ∧ ∀ m, m < j → ∀ w, ns[m]? = some w → (w == z) = false := by
  unfold idxI at h
  rw [List.findIdx?_eq_some_iff_getElem] at h
  obtain ⟨hj, h1, h2⟩ := h
  refine ⟨?_, fun m hm w hw => ?_⟩
  · rw [List.getElem?_eq_getElem hj, beq_iff_eq.mp h1]
  · have hl := (List.getElem?_eq_some_iff.mp hw).1
    have := h2 m hm
    rw [(List.getElem?_eq_some_iff.mp hw).2] at this
    simpa using this
def indexM (o a : EM D) : EM D := fun l st => (o l st).bind fun x st1 => match lof x st1 with
  | none => .fail
  | some _ => (a l st1).bind fun d st2 => match d, lof x st2 with
    | .int z, some ds => (match asInts ds with
      | some ns => (match idxI ns z with
        | some j => .ok (.int (j : Nat)) st2
        | none => .fail)
      | none => .fail)
    | _, _ => .fail
theorem flat_ints (ns : List Int) : (ns.map V.int).all flatV = true := by
  rw [List.all_map]
  exact List.all_eq_true.mpr fun _ _ => rfl
theorem me_lindex {o e : Expr} {mo ma : EM D} {apos : Pos} (ho : ME X W o mo) (ha : ME X W e ma) (hs1 : starEach (e :: []) X.env = (false, eval e X.env) :: starEach [] X.env := by rfl) (hbase : attributeBase o "index" X.env (eval o X.env) = eval o X.env := by rfl)
    (hfew : ((backTo pos (starEach (e :: []) X.env)).all (fun x => !x.1) && (backToKw pos (keywordEach [] X.env)).all (fun x => x.1.isSome) && decide ((e :: ([] : List Expr)).length + ([] : List Keyword).length + (if ([] : List Keyword).isEmpty then 0 else 1) < 30)) = true := by rfl)
    (hline : (apos.endLine == pos.line) = true := by rfl) (hplain : (backTo pos (starEach [] X.env)).any (·.1) = false := by rfl) : ME X W (.Call (.Attribute o "index" apos) [e] [] pos) (indexM mo ma) := by
  obtain ⟨t1, p1, q1⟩ := ho
  obtain ⟨t2, p2, q2⟩ := ha
  refine ⟨_, pe_bm PySem.F.plainAttrs_list PySem.F.slot_list_index PySem.F.type_list_index mt_index p1 (pa_cons p2 pa_nil hs1) hbase hfew hline hs1 hplain, fun io N H s l st Q hl hs p => ?_⟩
  refine q1.seq hl hs p fun io1 H1 x w st1 e1 S1 r1 p => ?_
  cases hh : lof x st1 with
  | none => simp only [hh] at p; exact p.elim
  | some l0 =>
    simp only [hh] at p
    obtain ⟨b, xs0, rfl, eH, rr0⟩ := lof_ok S1 r1 hh
    refine ⟨.inl ⟨rfl, xs0, eH⟩, ?_⟩
    refine q2.seq (hl.mono e1) S1 p fun io2 H2 d v st2 e2 S2 r2 p => ?_
    split at p
    · rename_i z ds h2
      split at p
      · rename_i ns h3
        split at p
        · rename_i j h4
          obtain ⟨b', xs, eb, eH2, rr⟩ := lof_ok S2 (r1.mono e2) h2
          cases eb
          obtain rfl := asInts_ok h3
          have ex := rr.ints
          subst ex
          obtain rfl := r2
          obtain ⟨k1, k2⟩ := idxI_ok h4
          refine ⟨b, _, .int z, j, .int z, rfl, rfl, eH2, rfl, flat_ints ns, by rw [List.getElem?_map, k1] <;> rfl, beq_self_eq_true z, fun m z' hm hz => ?_, post_val p S2 rfl⟩
          rw [List.getElem?_map] at hz
          obtain ⟨w, hw, rfl⟩ := Option.map_eq_some_iff.mp hz
          exact k2 m hm w hw
        · exact p.elim
      · exact p.elim
    · exact p.elim
/-! ### zip of two tuples -/
def zipD (l r : List D) : List D := List.zipWith (fun x y => D.tw [x, y]) l r
def itZ (a : EM (List D)) : EM Src := fun l st => (a l st).bind fun ds st1 => match ds with
  | [.tup x, .tup y] => .ok ⟨zipD x y, none⟩ st1
  | _ => .fail
theorem tup_stays {K : KW} {io N : List Addr} {H : Hp} {v : V} {l : List D} (r : Rep K io N H (.tup l) v) : ∃ p xs0, v = .ref p ∧ SqT K H p xs0 ∧ ∀ (io' M : List Addr) (H' : Hp), (∀ a ∈ M, H a = none) → ExtS N io H io' H' → ∃ xs, SqT K H' p xs ∧ Reps K io' (M ++ N) H' l xs := by
  obtain ⟨p, xs0, rfl, c0, _⟩ := tup_ok r
  refine ⟨p, xs0, rfl, c0, fun io' M H' hm e => ?_⟩
  obtain ⟨p', xs, e1, c1, q⟩ := tup_ok (Rep.monoS e.weak _ _ (r.shuns M hm))
  cases e1
  exact ⟨xs, c1, q⟩
theorem mi_zipT {e f : Expr} {a : EM (List D)} {p tpos : Pos} {elts : List Expr} {kk : Nat} (hm : X.mg "zip" = none) (h : MA X W [e, f] a) (hg : Gl X "zip" := by rfl)
    (hs : starEach [e, f] X.env = (false, eval e X.env) :: starEach [f] X.env := by rfl) (hpl : (backTo pos (starEach [f] X.env)).any (·.1) = false := by rfl) :
    MI X W (.Tuple elts kk tpos) (.Call (.Name "zip" p) [e, f] [] pos) (itZ a) := by
  obtain ⟨t, p, q⟩ := h
  refine ⟨_, RZ.pi_zipA hg hm p hs hpl, fun io N H s l st Q hl hs p => ?_⟩
  refine q.seq hl hs p fun io1 H1 ds vs st1 e1 S1 r1 p1 => ?_
  split at p1
  · rename_i x y
    obtain ⟨v1, _, rfl, ra, v2, _, rfl, rb, rfl⟩ := r1
    obtain ⟨a, xs0, rfl, ca, sa⟩ := tup_stays ra
    obtain ⟨b, ys0, rfl, cb, sb⟩ := tup_stays rb
    refine ⟨a, b, xs0, ys0, rfl, .inr ⟨ca, cb, p1 io1 H1 _ (Ext.refl _ _) S1 fun io' M H' st' hm ex S' c i => ?_⟩⟩
    obtain ⟨xs, c1, rr⟩ := sa io' M H' hm ex
    obtain ⟨ys, c2, rr2⟩ := sb io' M H' hm ex
    have hz : (zipD x y).length = min x.length y.length := List.length_zipWith
    have l1 := rr.len
    have l2 := rr2.len
    refine ⟨fun hi => ?_, fun hi => ⟨xs, ys, c1, c2, ?_⟩⟩
    · have hi : i < (zipD x y).length := hi
      have h1 : i < xs.length := by omega
      have h2 : i < ys.length := by omega
      refine ⟨⟨xs, ys, xs[i], ys[i], c1, c2, List.getElem?_eq_getElem h1, List.getElem?_eq_getElem h2⟩, fun z H2 yy => ?_⟩
      obtain ⟨T, u, w, rfl, hT, rfl, y1, y2⟩ := yy
      obtain ⟨d1, g1, k1⟩ := rr.get' (y1 xs c1)
      obtain ⟨d2, g2, k2⟩ := rr2.get' (y2 ys c2)
      refine ⟨.tw [d1, d2], ?_, ⟨T, [u, w], rfl, ⟨S'.out hT, S'.outN hT, upd_same⟩, _, _, rfl, k1.mono (Ext.new hT), _, _, rfl, k2.mono (Ext.new hT), rfl⟩, Ext.new hT, S'.new hT⟩
      show (zipD x y)[i]? = _
      unfold zipD
      rw [List.getElem?_zipWith, g1, g2]
    · have hi : i = (zipD x y).length := hi
      omega
  · exact p1.elim
/-! ### list(a tuple or a list), sum of ints -/
def lstOf (a : EM (List D)) : EM (List D) := fun l st => (a l st).bind fun ds st1 => match ds with
  | [d] => (match sqof d st1 with
    | some l => .ok l st1
    | none => .fail)
  | _ => .fail
theorem ml_lof {e : Expr} {a : EM (List D)} {p : Pos} (hm : X.mg "list" = none) (ha : MA X W [e] a) (hg : Gl X "list" := by rfl)
    (he : starEach [e] X.env = (false, eval e X.env) :: starEach [] X.env := by rfl) (hpl : (backTo pos (starEach [] X.env)).any (·.1) = false := by rfl) : ML X W (.Call (.Name "list" p) [e] [] pos) (lstOf a) := by
  obtain ⟨t, p1, q1⟩ := ha
  refine ⟨_, pe_callTy call_list_of hg hm PyProof.Rows.boot_list p1 (by decide) (by decide) he hpl, fun io N H s l st Q hl hs p => ?_⟩
  refine q1.seq hl hs p fun io1 H1 ds vs st1 e1 S1 r1 p => ?_
  split at p
  · obtain ⟨v, _, rfl, r, rfl⟩ := r1
    split at p
    · rename_i l hl
      obtain ⟨a, xs, rfl, c, q⟩ := sqof_ok S1 r hl
      refine ⟨a, xs, rfl, c, fun q' hq => ?_⟩
      obtain ⟨S2, q2⟩ := fresh_list (N := N) S1 q hq fun _ h => h
      exact p io1 _ _ (Ext.new hq) S2 q2
    · exact p.elim
  · exact p.elim
def sumM : FM := fun ds st => match ds with
  | [d] => (match lof d st with
    | some l => (match asInts l with
      | some ns => .ok (.int ns.sum) st
      | none => .fail)
    | none => .fail)
  | _ => .fail
theorem cal_sum {K : KW} : CalM K (rSum K) sumM := by
  intro io N H vs ds st Q Y S r p
  unfold sumM at p
  split at p
  · obtain ⟨v, _, rfl, r, rfl⟩ := r
    split at p
    · rename_i l hl
      split at p
      · rename_i ns hn
        obtain ⟨a, xs, rfl, c, q⟩ := lof_ok S r hl
        obtain rfl := asInts_ok hn
        have ex := q.ints
        subst ex
        exact ⟨a, ns, rfl, c, post_val p S rfl⟩
      · exact p.elim
    · exact p.elim
  · exact p.elim
theorem sum_tupG {prog : Program} {w : World} {A : Around} {E : Value → Shared → Prop} {s : Shared} {l : Addr} {xs : Array (Int × Tok)} {Q : Value → Shared → Prop} (hh : A.handled = none) (hl : s.heap.IsTuple l (intItems xs))
    (h : ∀ h' tk t', (∀ b o, s.heap.get? b = some o → h'.get? b = some o) → Q (.int (preSum (numAt xs) xs.size) t') { s with heap := h', toks := tk }) :
    wpAny (model prog w) A (call (.builtin "sum") [.ref l]) Q E s := by
  have hlt : l < s.heap.objs.size := by obtain ⟨o, ho, _⟩ := hl; exact Heap.lt_size ho
  refine call_sum_walkG (wpAny_pyIter_tuple hl ?_)
  refine ⟨_, _, _, _, _, _, numAt xs, rfl, Walks.tuple (A := A.in1) hh s.heap.objs.size l (Nat.ne_of_lt hlt) (intItems xs), ⟨⟨_, Heap.get?_push_size _ rfl, rfl, rfl⟩, hl.at fun o e => Heap.get?_push_of_some _ e⟩, fun b hb => ?_, (fun _ _ => intItems_at), fun h' tk t' hk => ?_⟩
  · show b < (s.heap.push _).objs.size
    rw [Heap.size_push]
    rcases List.mem_cons.mp hb with e | hb
    · rw [e]; exact Nat.lt_succ_self _
    · rw [List.mem_singleton.mp hb]; exact Nat.lt_succ_of_lt hlt
  · have := h h' tk t' fun b o e => hk b o (fun hmem => by
      have e1 : b = s.heap.objs.size := List.mem_singleton.mp hmem
      have e2 := Heap.lt_size e
      rw [e1] at e2
      exact absurd e2 (Nat.lt_irrefl _)) (Heap.get?_push_of_some _ e)
    simpa [intItems] using this
/-- sum(a tuple of ints) -/
theorem cr_sumT (hc : X.calm = true) : CallR X (.builtin "sum") (fun vs H Q => ∃ (a : Addr) (ns : List Int), vs = [V.ref a] ∧ SqT X.K H a (ns.map V.int) ∧ Q (.int ns.sum) H) := by
  intro pins s σ H vs us Q I r h
  obtain ⟨a, ns, rfl, hs, q⟩ := h
  obtain ⟨its, rv, hl, _⟩ := I.tuple hs
  rw [Vals.ref1 r]
  obtain ⟨xs, e⟩ := rv.ints.allInts.items
  have hn : numsOf (intItems xs).toList = ns := by rw [← e]; exact rv.ints.numsOf
  rw [nums_intItems] at hn
  have hl2 : s.heap.IsTuple a (intItems xs) := by rw [← e]; exact hl
  refine sum_tupG (I.ok.hd hc) hl2 fun h' tk t' hk => ⟨.int _, H, I.kept hk, ⟨_, rfl⟩, ?_⟩
  rw [preSum_eq, List.take_of_length_le (by simp), hn]
  exact q
def sumA : FM := fun ds st => match ds with
  | [d] => (match sqof d st with
    | some l => (match asInts l with
      | some ns => .ok (.int ns.sum) st
      | none => .fail)
    | none => .fail)
  | _ => .fail
theorem cal_sumA {K : KW} : CalM K (fun vs H Q => rSum K vs H Q ∨ ∃ (a : Addr) (ns : List Int), vs = [V.ref a] ∧ SqT K H a (ns.map V.int) ∧ Q (.int ns.sum) H) sumA := by
  intro io N H vs ds st Q Y S r p
  unfold sumA at p
  split at p
  · obtain ⟨v, _, rfl, r, rfl⟩ := r
    split at p
    · rename_i l hl
      split at p
      · rename_i ns hn
        obtain ⟨a, xs, rfl, c, q⟩ := sqof_ok S r hl
        obtain rfl := asInts_ok hn
        have ex := q.ints
        subst ex
        rcases c with c | c
        · exact .inl ⟨a, ns, rfl, c, post_val p S rfl⟩
        · exact .inr ⟨a, ns, rfl, c, post_val p S rfl⟩
      · exact p.elim
    · exact p.elim
  · exact p.elim
end
end Rf
namespace Rf
set_option autoImplicit false
open PySem PySem.Spec L2

/-! ### data as keys -/
mutual
theorem nk_inj : ∀ (a b : D) (k : NestedKey), nk a = some k → nk b = some k → a = b
  | .non, b, k, h, g => by
    cases h
    cases b <;> simp [nk] at g ⊢
  | .int i, b, k, h, g => by
    cases h
    cases b <;> simp [nk] at g ⊢
    exact g.symm
  | .str x, b, k, h, g => by
    cases h
    cases b <;> simp [nk] at g ⊢
    exact g.symm
  | .tup l, b, k, h, g => by
    simp only [nk, Option.map_eq_some_iff] at h
    obtain ⟨ks, h1, rfl⟩ := h
    cases b with
    | tup m =>
      simp only [nk, Option.map_eq_some_iff] at g
      obtain ⟨ks', g1, e⟩ := g
      cases e
      rw [nks_inj l m ks h1 g1]
    | _ => simp [nk] at g
  | .bl _, _, _, h, _ => by simp [nk] at h
  | .tw _, _, _, h, _ => by simp [nk] at h
  | .fl _, _, _, h, _ => by simp [nk] at h
  | .rd _, _, _, h, _ => by simp [nk] at h
  | .ref _, _, _, h, _ => by simp [nk] at h
  | .any, _, _, h, _ => by simp [nk] at h
  | .cod, _, _, h, _ => by simp [nk] at h
  | .lam _ _, _, _, h, _ => by simp [nk] at h
theorem nks_inj : ∀ (a b : List D) (k : List NestedKey), nks a = some k → nks b = some k → a = b
  | [], b, k, h, g => by
    cases h
    cases b with
    | nil => rfl
    | cons d l =>
      simp only [nks] at g
      split at g <;> cases g
  | d :: l, b, k, h, g => by
    simp only [nks] at h
    split at h
    · rename_i k1 k2 h1 h2
      cases h
      cases b with
      | nil => cases g
      | cons e m =>
        simp only [nks] at g
        split at g
        · rename_i k3 k4 g1 g2
          cases g
          rw [nk_inj d e k1 h1 g1, nks_inj l m k2 h2 g2]
        · cases g
    · cases h
end
section
variable {X : Cx} {W : Wi} {pos : Pos} {pins : List (Addr × Obj)} {σ : L2.St} {io N : List Addr} {H : Hp} {s : Shared} {st : Store}
mutual
theorem nest_of (I : Inv X pins σ H s) : ∀ (d : D) (v : V) (u : Value) (k : NestedKey), Rep X.kw io N H d v → RelV v u → nk d = some k → NestedIs s.heap k u
  | .non, v, u, k, r, rv, h => by cases h; cases r; cases rv; exact .none
  | .int i, v, u, k, r, rv, h => by cases h; cases r; obtain ⟨t, rfl⟩ := rv; exact .int i t
  | .str x, v, u, k, r, rv, h => by cases h; cases r; obtain ⟨t, rfl⟩ := rv; exact .text x t
  | .tup l, v, u, k, r, rv, h => by
    simp only [nk, Option.map_eq_some_iff] at h
    obtain ⟨ks, h1, rfl⟩ := h
    obtain ⟨p, xs, rfl, c, q⟩ := tup_ok r
    cases rv
    obtain ⟨its, rr, ⟨o, ho, hc, n, hd⟩, _⟩ := I.tuple c
    exact .tup ho hc hd (by simpa using nests_of I l xs its ks q rr h1)
  | .bl _, _, _, _, _, _, h => by simp [nk] at h
  | .tw _, _, _, _, _, _, h => by simp [nk] at h
  | .fl _, _, _, _, _, _, h => by simp [nk] at h
  | .rd _, _, _, _, _, _, h => by simp [nk] at h
  | .ref _, _, _, _, _, _, h => by simp [nk] at h
  | .any, _, _, _, _, _, h => by simp [nk] at h
  | .cod, _, _, _, _, _, h => by simp [nk] at h
  | .lam _ _, _, _, _, _, _, h => by simp [nk] at h
theorem nests_of (I : Inv X pins σ H s) : ∀ (l : List D) (xs : List V) (us : List Value) (ks : List NestedKey), Reps X.kw io N H l xs → Vals xs us → nks l = some ks → NestedAll s.heap ks us
  | [], xs, us, ks, r, rv, h => by cases h; cases r; cases rv; exact .nil
  | d :: l, xs, us, ks, r, rv, h => by
    obtain ⟨v, ys, rfl, a, b⟩ := r
    simp only [nks] at h
    split at h
    · rename_i k1 k2 h1 h2
      cases h
      cases rv with
      | cons r1 r2 => exact .cons (nest_of I d v _ k1 a r1 h1) (nests_of I l ys _ k2 b r2 h2)
    · cases h
end
/-! ### dicts with such keys -/
def dfind : List (D × D) → D → Option D
  | [], _ => none
  | p :: r, d => if p.1 = d then some p.2 else dfind r d
def dput : List (D × D) → D → D → List (D × D)
  | [], d, e => [(d, e)]
  | p :: r, d, e => if p.1 = d then (p.1, e) :: r else p :: dput r d e
abbrev PX : List (NestedKey × Addr × V) → List (NestedKey × Addr × Value) → Prop := Paired fun p q => p.1 = q.1 ∧ p.2.1 = q.2.1 ∧ RelV p.2.2 q.2.2
theorem dic_is (I : Inv X pins σ H s) : ∀ {l : List (D × D)} {xs : List (NestedKey × Addr × V)} {ys : List (NestedKey × Addr × Value)}, RepN X.kw io N H l xs → PX xs ys → ∀ y ∈ ys, (nestedKind X.prog X.w).is s.heap y.1 y.2.1
  | [], _, _, r, p, y, hy => by cases r; cases p; simp at hy
  | d :: l, _, _, r, p, y, hy => by
    obtain ⟨k, q, v, zs, rfl, ⟨hk, hd⟩, a, b, c⟩ := r
    cases p with
    | cons e t =>
      obtain ⟨e1, e2, e3⟩ := e
      rcases List.mem_cons.mp hy with rfl | hy
      · have e1 : k = y.1 := e1
        have e2 : q = y.2.1 := e2
        rw [← e1, ← e2]
        exact ⟨nest_of I _ _ _ _ a rfl hk, hd⟩
      · exact dic_is I c t y hy
theorem dic_raw {a : Addr} {l : List (D × D)} {xs : List (NestedKey × Addr × V)} (I : Inv X pins σ H s) (h : H a = some (DicO X.prog X.w a xs)) (r : RepN X.kw io N H l xs) :
    xs.length ≤ 1000000 ∧ (a == sysModules) = false ∧ ∃ ys, PX xs ys ∧ s.heap.DictOfH (nestedKind X.prog X.w) a ys := by
  obtain ⟨⟨h1, h2, ys, pp, o, es, ep, ho, hx, hd, he, hn⟩, _⟩ := I.hok a _ h
  exact ⟨h1, h2, ys, pp, o, es, ep, ho, hx, hd, he, dic_is I r pp, hn⟩
theorem dic_new {P : Program} {w : World} {H' : Hp} {h' : Heap} {a : Addr} {xs : List (NestedKey × Addr × V)} {ys : List (NestedKey × Addr × Value)} (h1 : xs.length ≤ 1000000) (h2 : (a == sysModules) = false) (pp : PX xs ys) (dd : h'.DictOfH (nestedKind P w) a ys) : ObjOk P w H' h' a (DicO P w a xs) := by
  obtain ⟨o, es, ep, ho, hx, hd, he, hi, hn⟩ := dd
  refine ⟨⟨h1, h2, ys, pp, o, es, ep, ho, hx, hd, he, hn⟩, ⟨o, ho⟩, fun g1 g2 hh k => ?_⟩
  obtain ⟨q1, q2, zs, qq, o', es', ep', ho', r⟩ := hh
  exact ⟨q1, q2, zs, qq, o', es', ep', k _ ho', r⟩
theorem dic_len {l : List (D × D)} {xs : List (NestedKey × Addr × V)} (r : RepN X.kw io N H l xs) : xs.length = l.length := by
  induction l generalizing xs with
  | nil => cases r; rfl
  | cons d l ih =>
    obtain ⟨k, q, v, zs, rfl, _, _, _, c⟩ := r
    rw [List.length_cons, List.length_cons, ih c]
theorem dic_find {d : D} {k : NestedKey} (hk : nk d = some k) : ∀ {l : List (D × D)} {xs : List (NestedKey × Addr × V)} {ys : List (NestedKey × Addr × Value)}, RepN X.kw io N H l xs → PX xs ys →
    (dfind l d = none → atKey ys k = none) ∧ ∀ e, dfind l d = some e → ∃ p u v, atKey ys k = some (p, u) ∧ RelV v u ∧ Rep X.kw io N H e v
  | [], _, _, r, p => by cases r; cases p; exact ⟨fun _ => rfl, fun e h => by cases h⟩
  | (d1, e1) :: l, _, _, r, p => by
    obtain ⟨k1, q, v, zs, rfl, ⟨hk1, hd1⟩, a, b, c⟩ := r
    cases p with
    | @cons _ y _ ys2 e t =>
      obtain ⟨yk, ya, yu⟩ := y
      obtain ⟨z1, z2, z3⟩ := e
      simp only at z1 z2 z3
      subst z1 z2
      have ih := dic_find hk c t
      by_cases hh : d1 = d
      · subst hh
        have : k1 = k := by rw [hk] at hk1; exact (Option.some.inj hk1).symm
        subst this
        have e2 : atKey ((k1, q, yu) :: ys2) k1 = some (q, yu) := by simp [atKey]
        refine ⟨fun z => by simp [dfind] at z, fun e z => ?_⟩
        simp only [dfind, if_pos rfl] at z
        cases z
        exact ⟨q, yu, v, e2, z3, b⟩
      · have hne : ¬ k1 = k := fun z => hh (nk_inj d1 d k (by rw [← z]; exact hk1) hk)
        have e2 : atKey ((k1, q, yu) :: ys2) k = atKey ys2 k := by simp [atKey, List.find?_cons, hne]
        rw [e2]
        simp only [dfind, if_neg hh]
        exact ih
theorem dic_put {d e : D} {k : NestedKey} {b : Addr} {v : V} {u : Value} (hk : nk d = some k) (hd : k.depth ≤ 8) (rd : Rep X.kw io N H d (.ref b)) (re : Rep X.kw io N H e v) (ru : RelV v u) : ∀ {l : List (D × D)} {xs : List (NestedKey × Addr × V)} {ys : List (NestedKey × Addr × Value)}, RepN X.kw io N H l xs → PX xs ys → (ys.map (·.1)).Nodup →
    ∃ xs', RepN X.kw io N H (dput l d e) xs' ∧ PX xs' (storedH ys k b u) ∧ xs'.length ≤ xs.length + 1
  | [], _, _, r, p, _ => by
    cases r
    cases p
    exact ⟨[(k, b, v)], ⟨k, b, v, [], rfl, ⟨hk, hd⟩, rd, re, rfl⟩, .cons ⟨rfl, rfl, ru⟩ .nil, Nat.le_refl _⟩
  | (d1, e1) :: l, _, _, r, p, hn => by
    obtain ⟨k1, q, w, zs, rfl, ⟨hk1, hd1⟩, a, c, f⟩ := r
    cases p with
    | @cons _ y _ ys2 ee t =>
      obtain ⟨yk, ya, yu⟩ := y
      obtain ⟨z1, z2, z3⟩ := ee
      simp only at z1 z2 z3
      subst z1 z2
      rw [List.map_cons, List.nodup_cons] at hn
      by_cases hh : d1 = d
      · subst hh
        have : k1 = k := by rw [hk] at hk1; exact (Option.some.inj hk1).symm
        subst this
        have e2 : atKey ((k1, q, yu) :: ys2) k1 = some (q, yu) := by simp [atKey]
        refine ⟨(k1, q, v) :: zs, ?_, ?_, by simp⟩
        · simp only [dput, if_pos rfl]
          exact ⟨k1, q, v, zs, rfl, ⟨hk, hd⟩, a, re, f⟩
        · rw [storedH_old e2, List.map_cons, map_putAt_of_not_mem ys2 k1 u hn.1]
          have e3 : putAt k1 u (k1, q, yu) = (k1, q, u) := by unfold putAt; rw [if_pos rfl]
          rw [e3]
          exact .cons ⟨rfl, rfl, ru⟩ t
      · have hne : ¬ k1 = k := fun z => hh (nk_inj d1 d k (by rw [← z]; exact hk1) hk)
        have e2 : atKey ((k1, q, yu) :: ys2) k = atKey ys2 k := by simp [atKey, List.find?_cons, hne]
        obtain ⟨xs', h1, h2, h3⟩ := dic_put hk hd rd re ru f t hn.2
        refine ⟨(k1, q, w) :: xs', ?_, ?_, by simp only [List.length_cons]; omega⟩
        · simp only [dput, if_neg hh]
          exact ⟨k1, q, w, xs', rfl, ⟨hk1, hd1⟩, a, c, h1⟩
        · have e3 : storedH ((k1, q, yu) :: ys2) k b u = (k1, q, yu) :: storedH ys2 k b u := by
            unfold storedH
            rw [e2]
            split
            · rw [List.map_cons]
              have e4 : putAt k u (k1, q, yu) = (k1, q, yu) := by unfold putAt; rw [if_neg hne]
              rw [e4]
            · rfl
          rw [e3]
          exact .cons ⟨rfl, rfl, z3⟩ h2
theorem room_nest {A : Around} (h : A.units + 60 < cLine) : (nestedKind X.prog X.w).room A.in1 := by
  show A.in1.units + 8 < cLine
  have : A.in1.units = A.units + 1 := rfl
  omega
/-- the dict of the store at n -/
def dnOf (d : D) (st : Store) : Option (List (D × D)) := match d with
  | .ref n => (match st[n]? with
    | some (.dN l) => some l
    | _ => none)
  | _ => none
theorem dnOf_ok {d : D} {v : V} {l : List (D × D)} (S : RSt X.kw io N H st) (r : Rep X.kw io N H d v) (h : dnOf d st = some l) : ∃ n a xs, d = .ref n ∧ st[n]? = some (.dN l) ∧ v = .ref a ∧ io[n]? = some a ∧ H a = some (DicO X.prog X.w a xs) ∧ RepN X.kw io N H l xs := by
  unfold dnOf at h
  split at h
  · rename_i n
    split at h
    · rename_i l' e
      cases h
      obtain ⟨a, e1, rfl⟩ := r
      obtain ⟨b, u, e2, e3, xs, rfl, e4⟩ := S.ob _ _ e
      rw [e1] at e2
      cases e2
      exact ⟨n, a, xs, rfl, e, rfl, e1, e3, e4⟩
    · cases h
  · cases h
/-- a tuple that may be a key -/
def keyD (d : D) : Bool := match d with
  | .tup _ => (match nk d with
    | some k => Nat.ble k.depth 8
    | none => false)
  | _ => false
theorem keyD_ok {d : D} {v : V} (r : Rep X.kw io N H d v) (h : keyD d = true) : ∃ k b, nk d = some k ∧ k.depth ≤ 8 ∧ v = .ref b := by
  unfold keyD at h
  split at h
  · split at h
    · rename_i k hk
      obtain ⟨p, xs, rfl, _⟩ := tup_ok r
      exact ⟨k, p, hk, Nat.le_of_ble_eq_true h, rfl⟩
    · cases h
  · cases h
/-- in, not in -/
def rInN (X : Cx) (neg : Bool) : R2 := fun x y H Q => ∃ (io N : List Addr) (st : Store) (d e : D) (l : List (D × D)), RSt X.kw io N H st ∧ Rep X.kw io N H d x ∧ Rep X.kw io N H e y ∧ dnOf e st = some l ∧ keyD d = true ∧ Q (.bl (neg != (dfind l d).isSome)) H
theorem find_some {d : D} {k : NestedKey} {l : List (D × D)} {xs : List (NestedKey × Addr × V)} {ys : List (NestedKey × Addr × Value)} (hk : nk d = some k) (r : RepN X.kw io N H l xs) (p : PX xs ys) : (atKey ys k).isSome = (dfind l d).isSome := by
  obtain ⟨h1, h2⟩ := dic_find hk r p
  cases h : dfind l d with
  | none => rw [h1 h]; rfl
  | some e =>
    obtain ⟨a, u, v, e1, _⟩ := h2 e h
    rw [e1]
    rfl
theorem op_inN (hu : X.A.units + 65 < cLine) : OpR X (compareOp .In) (rInN X false) := by
  rintro pins s σ H x y v u Q I rx ry ⟨io, N, st, d, e, l, S, rd, re, hl, hk, q⟩
  obtain ⟨n, a, xs, rfl, hst, rfl, hio, hH, rN⟩ := dnOf_ok S re hl
  obtain ⟨k, b, h1, h2, rfl⟩ := keyD_ok rd hk
  cases rx
  cases ry
  obtain ⟨g1, g2, ys, pp, dd⟩ := dic_raw I hH rN
  refine wpAny_in_heap (room_nest (by omega)) ⟨nest_of I _ _ _ _ rd rfl h1, h2⟩ g2 dd ?_
  rw [find_some h1 rN pp]
  exact ⟨.bl _, H, I.tok _, rfl, by simpa using q⟩
theorem op_ninN (hu : X.A.units + 65 < cLine) : OpR X (compareOp .NotIn) (rInN X true) := by
  rintro pins s σ H x y v u Q I rx ry ⟨io, N, st, d, e, l, S, rd, re, hl, hk, q⟩
  obtain ⟨n, a, xs, rfl, hst, rfl, hio, hH, rN⟩ := dnOf_ok S re hl
  obtain ⟨k, b, h1, h2, rfl⟩ := keyD_ok rd hk
  cases rx
  cases ry
  obtain ⟨g1, g2, ys, pp, dd⟩ := dic_raw I hH rN
  refine PyProof.Rows.wpAny_notIn_heap (room_nest (by omega)) ⟨nest_of I _ _ _ _ rd rfl h1, h2⟩ g2 dd ?_
  rw [find_some h1 rN pp]
  exact ⟨.bl _, H, I.tok _, rfl, by simpa using q⟩
end
end Rf
namespace Rf
set_option autoImplicit false
open PySem PySem.Spec L2

section
variable {X : Cx} {W : Wi} {pos : Pos} {pins : List (Addr × Obj)} {σ : L2.St} {io N : List Addr} {H : Hp} {s : Shared} {st : Store} {k : Nat}
/-! ### in, not in -/
def inM2 (d e : D) (st : Store) : Rz D := match dnOf e st with
  | some l => if keyD d = true then .ok (.bl (dfind l d).isSome) st else .fail
  | none => inM d e st
def ninM2 (d e : D) (st : Store) : Rz D := match dnOf e st with
  | some l => if keyD d = true then .ok (.bl (!(dfind l d).isSome)) st else .fail
  | none => ninM d e st
theorem opm_in2 : OpM X.kw (fun x y H Q => (rInD X.K x y H Q ∨ (rIn X.K false x y H Q ∨ (∃ (c : Nat) (z : Str), x = .str ⟨#[c]⟩ ∧ y = .str z ∧ Q (.bl (decide (c ∈ z.cps.toList))) H))) ∨ rInN X false x y H Q) inM2 := by
  intro io N H x y d e st Q Y S r1 r2 p
  unfold inM2 at p
  cases h : dnOf e st with
  | none =>
    rw [h] at p
    exact .inl (opm_in io N H x y d e st Q Y S r1 r2 p)
  | some l =>
    rw [h] at p
    obtain ⟨hk, p⟩ := post_if p
    exact .inr ⟨io, N, st, d, e, l, S, r1, r2, h, hk, by simpa using post_val p S rfl⟩
theorem opm_nin2 : OpM X.kw (fun x y H Q => (rNotInD X.K x y H Q ∨ (rIn X.K true x y H Q ∨ (∃ (c : Nat) (z : Str), x = .str ⟨#[c]⟩ ∧ y = .str z ∧ Q (.bl (!decide (c ∈ z.cps.toList))) H))) ∨ rInN X true x y H Q) ninM2 := by
  intro io N H x y d e st Q Y S r1 r2 p
  unfold ninM2 at p
  cases h : dnOf e st with
  | none =>
    rw [h] at p
    exact .inl (opm_nin io N H x y d e st Q Y S r1 r2 p)
  | some l =>
    rw [h] at p
    obtain ⟨hk, p⟩ := post_if p
    exact .inr ⟨io, N, st, d, e, l, S, r1, r2, h, hk, by simpa using post_val p S rfl⟩
/-! ### d[k] -/
def keyK : D → Option Key
  | .int i => some (.inl i)
  | .str x => some (.inr x)
  | _ => none
theorem keyK_ok {d : D} {v : V} {k : Key} (r : Rep X.kw io N H d v) (h : keyK d = some k) : v = kV k := by
  cases d <;> simp [keyK] at h <;> subst h <;> exact r
def dkOf (d : D) (st : Store) : Option (List (Key × D)) := match d with
  | .ref n => (match st[n]? with
    | some (.dK l) => some l
    | _ => none)
  | _ => none
theorem dkOf_ok {d : D} {v : V} {l : List (Key × D)} (S : RSt X.kw io N H st) (r : Rep X.kw io N H d v) (h : dkOf d st = some l) : ∃ n a xs, d = .ref n ∧ st[n]? = some (.dK l) ∧ v = .ref a ∧ io[n]? = some a ∧ H a = some (.dK xs) ∧ RepP X.kw io N H l xs := by
  unfold dkOf at h
  split at h
  · rename_i n
    split at h
    · rename_i l' e
      cases h
      obtain ⟨a, e1, rfl⟩ := r
      obtain ⟨b, u, e2, e3, xs, rfl, e4⟩ := S.ob _ _ e
      rw [e1] at e2
      cases e2
      exact ⟨n, a, xs, rfl, e, rfl, e1, e3, e4⟩
    · cases h
  · cases h
def kfind {κ : Type} [DecidableEq κ] : List (κ × D) → κ → Option D
  | [], _ => none
  | p :: r, k => if p.1 = k then some p.2 else kfind r k
theorem kfind_ok {κ : Type} [DecidableEq κ] {k : κ} : ∀ {l : List (κ × D)} {xs : List (κ × V)}, RepP X.kw io N H l xs → (kfind l k = none → valV xs k = none) ∧ ∀ e, kfind l k = some e → ∃ v, valV xs k = some v ∧ Rep X.kw io N H e v
  | [], _, r => by cases r; exact ⟨fun _ => rfl, fun e h => by cases h⟩
  | (k1, e1) :: l, _, r => by
    obtain ⟨v, ys, rfl, a, b⟩ := r
    have ih := kfind_ok (k := k) b
    by_cases h : k1 = k
    · subst h
      refine ⟨fun z => by simp [kfind] at z, fun e z => ?_⟩
      simp only [kfind, if_pos rfl] at z
      cases z
      exact ⟨v, by simp [valV], a⟩
    · have e2 : valV ((k1, v) :: ys) k = valV ys k := by simp [valV, List.find?_cons, h]
      simp only [e2, kfind, if_neg h]
      exact ih
def rIxN (X : Cx) : R2 := fun x y H Q => ∃ (io N : List Addr) (st : Store) (e d : D) (l : List (D × D)) (r : D), RSt X.kw io N H st ∧ Rep X.kw io N H e x ∧ Rep X.kw io N H d y ∧ dnOf e st = some l ∧ keyD d = true ∧ dfind l d = some r ∧ ∀ v, Rep X.kw io N H r v → Q v H
theorem ix_dN (hu : X.A.units + 65 < cLine) : IxR X (rIxN X) := by
  rintro value slice pins s σ H x y v u Q I rx ry ⟨io, N, st, e, d, l, r, S, re, rd, hl, hk, hf, q⟩ hs
  obtain ⟨n, a, xs, rfl, hst, rfl, hio, hH, rN⟩ := dnOf_ok S re hl
  obtain ⟨k, b, h1, h2, rfl⟩ := keyD_ok rd hk
  cases rx
  cases ry
  obtain ⟨g1, g2, ys, pp, dd⟩ := dic_raw I hH rN
  obtain ⟨p, w, v, e1, rv, rr⟩ := (dic_find h1 rN pp).2 r hf
  have go : EP X pins σ Q w { s with toks := s.toks + (nestedKind X.prog X.w).draws k } := ⟨v, H, I.tok _, rv, q v rr⟩
  exact PyProof.Rows.subscriptTail_builtinR (x := w) dd.typeIs PySem.F.slot_dict_getitem.lookup (wpAny_getItem_heap (Q := fun r s' => r = w ∧ EP X pins σ Q r s') (room_nest (by omega)) ⟨nest_of I _ _ _ _ rd rfl h1, h2⟩ dd e1 ⟨rfl, go⟩) hs
def rIxK (X : Cx) : R2 := fun x y H Q => ∃ (io N : List Addr) (st : Store) (e d : D) (l : List (Key × D)) (k : Key) (r : D), RSt X.kw io N H st ∧ Rep X.kw io N H e x ∧ Rep X.kw io N H d y ∧ dkOf e st = some l ∧ keyK d = some k ∧ kfind l k = some r ∧ ∀ v, Rep X.kw io N H r v → Q v H
theorem ix_dK (hu : X.A.units + 65 < cLine) : IxR X (rIxK X) := by
  rintro value slice pins s σ H x y v u Q I rx ry ⟨io, N, st, e, d, l, k, r, S, re, rd, hl, hk, hf, q⟩ hs
  obtain ⟨n, a, xs, rfl, hst, rfl, hio, hH, rP⟩ := dkOf_ok S re hl
  obtain rfl := keyK_ok rd hk
  cases rx
  obtain ⟨v, e1, rr⟩ := (kfind_ok rP).2 r hf
  obtain ⟨_, _, vs, rel, dd⟩ := dk_rd I.hok (Rd.of hH)
  obtain ⟨w, hw, rw'⟩ := RelO.some_of (v := v) (o := valueAt vs k) (by rw [← e1]; exact rel.val k)
  have go : EP X pins σ Q w { s with toks := s.toks } := ⟨v, H, I.tok _, rw', q v rr⟩
  refine PyProof.Rows.subscriptTail_builtinR (x := w) dd.typeIs PySem.F.slot_dict_getitem.lookup (wpAny_getItem_of (Q := fun r s' => r = w ∧ EP X pins σ Q r s') (kV_is ry) dd.mapOf hw ⟨rfl, ?_⟩) hs
  exact ⟨v, H, I.tok _, rw', q v rr⟩
def ixM2 (e d : D) (st : Store) : Rz D := match dnOf e st with
  | some l => if keyD d = true then (match dfind l d with
    | some r => .ok r st
    | none => .fail) else .fail
  | none => match dkOf e st with
    | some l => (match keyK d with
      | some k => (match kfind l k with
        | some r => .ok r st
        | none => .fail)
      | none => .fail)
    | none => ixM e d st
theorem opm_ix2 : OpM X.kw (fun x y H Q => rIx X.K x y H Q ∨ (rIxN X x y H Q ∨ rIxK X x y H Q)) ixM2 := by
  intro io N H x y e d st Q Y S r1 r2 p
  unfold ixM2 at p
  split at p
  · rename_i l hl
    obtain ⟨hk, p⟩ := post_if p
    split at p
    · rename_i r hr
      exact .inr (.inl ⟨io, N, st, e, d, l, r, S, r1, r2, hl, hk, hr, fun v rv => post_val p S rv⟩)
    · exact p.elim
  · split at p
    · rename_i l hl
      split at p
      · rename_i k hk
        split at p
        · rename_i r hr
          exact .inr (.inr ⟨io, N, st, e, d, l, k, r, S, r1, r2, hl, hk, hr, fun v rv => post_val p S rv⟩)
        · exact p.elim
      · exact p.elim
    · exact .inl (opm_ix io N H x y e d st Q Y S r1 r2 p)
theorem me_ix2 {ea eb : Expr} {a b : EM D} (c : Ctx X W k) (h1 : ME X W ea a) (h2 : ME X W eb b) (hs : PlainIx eb := by exact fun _ _ => rfl) : ME X W (.Subscript ea eb pos) (b2 ixM2 a b) := by
  obtain ⟨t1, p1, r1⟩ := h1
  obtain ⟨t2, p2, r2⟩ := h2
  exact ⟨_, pe_ix (ix_seq.or ((ix_dN (un65 c)).or (ix_dK (un65 c)))) p1 p2 hs, rg_op opm_ix2 r1 r2⟩
/-! ### d[k] = v -/
/-- an item is stored: a list's, a dict's -/
def putIx (d x j : D) (st : Store) : Option Store := match x, j with
  | .ref n, j => (match st[n]? with
    | some (.lst ds) => (match j with
      | .int z => (match ixN ds.length z with
        | some m => some (st.set n (.lst (ds.set m d)))
        | none => none)
      | _ => none)
    | some (.dN l) => if keyD j = true ∧ l.length < 1000000 then some (st.set n (.dN (dput l j d))) else none
    | some (.dK l) => (match keyK j with
      | some k => if l.length < 1000000 then some (st.set n (.dK (putKD l k d))) else none
      | none => none)
    | _ => none)
  | _, _ => none
where
  putKD : List (Key × D) → Key → D → List (Key × D)
    | [], k, d => [(k, d)]
    | p :: r, k, d => if p.1 = k then (p.1, d) :: r else p :: putKD r k d
def rSetN (X : Cx) : V → V → V → Hp → (Hp → Prop) → Prop := fun o i v H Q => ∃ (io N : List Addr) (st : Store) (e d r : D) (l : List (D × D)) (n : Nat), RSt X.kw io N H st ∧ e = .ref n ∧ st[n]? = some (.dN l) ∧ Rep X.kw io N H e o ∧ Rep X.kw io N H d i ∧ Rep X.kw io N H r v ∧ keyD d = true ∧ l.length < 1000000 ∧
  ∀ H', Ext io H io H' → RSt X.kw io N H' (st.set n (.dN (dput l d r))) → Q H'
theorem set_dN (hu : X.A.units + 65 < cLine) : PSet X (rSetN X) := by
  rintro pins s σ H o i v ov iv u Q I ro ri rv ⟨io, N, st, e, d, r, l, n, S, rfl, hn, re, rd, rr, hk, hlen, q⟩
  obtain ⟨n', a, xs, e1, hst, rfl, hio, hH, rN⟩ := dnOf_ok (l := l) S re (by simp [dnOf, hn])
  cases e1
  obtain ⟨k, b, h1, h2, rfl⟩ := keyD_ok rd hk
  cases ro
  cases ri
  obtain ⟨g1, g2, ys, pp, dd⟩ := dic_raw I hH rN
  have hnd : (ys.map (·.1)).Nodup := let ⟨_, _, _, _, _, _, _, _, hn⟩ := dd; hn
  obtain ⟨xs', m1, m2, m3⟩ := dic_put h1 h2 rd rr rv rN pp hnd
  have l1 := dic_len rN
  have lx : ys.length = xs.length := (Paired.length pp).symm
  refine wpAny_setItem_heap (hsz := by rw [lx, l1, sizeLine_eq]; omega) (room_nest (by omega)) ⟨nest_of I _ _ _ _ rd rfl h1, h2⟩ dd fun h' dd' hs => ?_
  have hm : a ∈ io := List.mem_of_getElem? hio
  have ex : Ext io H io (upd H a (DicO X.prog X.w a xs')) := Ext.upd hm
  refine ⟨upd H a (DicO X.prog X.w a xs'), d_write I (by rw [hH]; exact True.intro) hs (let ⟨q, _, _, hq, _⟩ := dd'; ⟨q, hq⟩) (dic_new (by omega) g2 m2 dd'), q _ ex ?_⟩
  exact (S.set (o := .dN (dput l d r)) hio ⟨xs', rfl, m1.imp fun _ _ z => z.mono ex⟩).1
end
end Rf
namespace Rf
set_option autoImplicit false
open PySem PySem.Spec L2

section
variable {X : Cx} {W : Wi} {pos : Pos} {pins : List (Addr × Obj)} {σ : L2.St} {io N : List Addr} {H : Hp} {s : Shared} {st : Store} {k : Nat}
/-! ### items stored -/
/-- in its place, or at the end -/
def putKD (l : List (Key × D)) (k : Key) (d : D) : List (Key × D) := if (l.any fun p => decide (p.1 = k)) = true then l.map (fun p => if p.1 = k then (p.1, d) else p) else l ++ [(k, d)]
theorem RepP.any {l : List (Key × D)} {xs : List (Key × V)} (r : RepP X.kw io N H l xs) (k : Key) : (xs.any fun p => decide (p.1 = k)) = l.any fun p => decide (p.1 = k) := by
  induction l generalizing xs with
  | nil => cases r; rfl
  | cons d l ih =>
    obtain ⟨v, ys, rfl, a, b⟩ := r
    rw [List.any_cons, List.any_cons, ih b]
theorem RepP.mapK {l : List (Key × D)} {xs : List (Key × V)} {k : Key} {d : D} {v : V} (r : RepP X.kw io N H l xs) (rd : Rep X.kw io N H d v) : RepP X.kw io N H (l.map fun p => if p.1 = k then (p.1, d) else p) (xs.map fun p => if p.1 = k then (p.1, v) else p) := by
  induction l generalizing xs with
  | nil => cases r; rfl
  | cons e l ih =>
    obtain ⟨u, ys, rfl, a, b⟩ := r
    rw [List.map_cons, List.map_cons]
    by_cases h : e.1 = k
    · simp only [if_pos h]
      exact ⟨v, _, rfl, rd, ih b⟩
    · simp only [if_neg h]
      exact ⟨u, _, rfl, a, ih b⟩
theorem RepP.app {κ : Type} {l m : List (κ × D)} {xs ys : List (κ × V)} (r : RepP X.kw io N H l xs) (q : RepP X.kw io N H m ys) : RepP X.kw io N H (l ++ m) (xs ++ ys) := by
  induction l generalizing xs with
  | nil => cases r; exact q
  | cons e l ih =>
    obtain ⟨u, zs, rfl, a, b⟩ := r
    exact ⟨u, _, rfl, a, ih b⟩
theorem RepP.putK {l : List (Key × D)} {xs : List (Key × V)} {k : Key} {d : D} {v : V} (r : RepP X.kw io N H l xs) (rd : Rep X.kw io N H d v) : RepP X.kw io N H (putKD l k d) (L2.putK xs k v) := by
  unfold putKD L2.putK
  rw [r.any k]
  split
  · exact r.mapK rd
  · exact r.app ⟨v, [], rfl, rd, rfl⟩
/-- an item is stored: a list's, a dict's -/
def putAt (d x j : D) (st : Store) : Option Store := match x with
  | .ref n => (match st[n]? with
    | some (.lst ds) => (match j with
      | .int z => (match ixN ds.length z with
        | some m => some (st.set n (.lst (ds.set m d)))
        | none => none)
      | _ => none)
    | some (.dN l) => if keyD j = true ∧ l.length < 1000000 then some (st.set n (.dN (dput l j d))) else none
    | some (.dK l) => (match keyK j with
      | some k => if l.length < 1000000 then some (st.set n (.dK (putKD l k d))) else none
      | none => none)
    | _ => none)
  | _ => none
/-- what is asked of a store: all that the mirror says comes to be -/
def rPut (X : Cx) : V → V → V → Hp → (Hp → Prop) → Prop := fun o i v H Q => ∃ (io N : List Addr) (st st' : Store) (d x j : D), RSt X.kw io N H st ∧ Rep X.kw io N H x o ∧ Rep X.kw io N H j i ∧ Rep X.kw io N H d v ∧ putAt d x j st = some st' ∧ ∀ H', Ext io H io H' → RSt X.kw io N H' st' → Q H'
theorem set_any (hu : X.A.units + 65 < cLine) : PSet X (rPut X) := by
  rintro pins s σ H o i v ov iv u Q I ro ri rv ⟨io, N, st, st', d, x, j, S, rx, rj, rd, hp, q⟩
  unfold putAt at hp
  split at hp
  · rename_i n
    split at hp
    · rename_i ds hn
      split at hp
      · rename_i z
        split at hp
        · rename_i m hm
          cases hp
          obtain ⟨b, xs, rfl, eio, eH, rr⟩ := rs_lst S rx hn
          obtain ⟨S4, ex⟩ := rs_lstSet S eio (rr.setN m rd)
          exact set_list pins s σ H _ _ _ _ _ _ Q I ro ri rv ⟨b, xs, z, m, rfl, rj, eH, by rw [rr.len]; exact hm, q _ ex S4⟩
        · cases hp
      · cases hp
    · rename_i l hn
      split at hp
      · rename_i hc
        cases hp
        exact set_dN hu pins s σ H _ _ _ _ _ _ Q I ro ri rv ⟨io, N, st, .ref n, j, d, l, n, S, rfl, hn, rx, rj, rd, hc.1, hc.2, q⟩
      · cases hp
    · rename_i l hn
      split at hp
      · rename_i k hk
        split at hp
        · rename_i hc
          cases hp
          obtain ⟨n', a, xs, e1, hst, rfl, hio, hH, rP⟩ := dkOf_ok (l := l) S rx (by simp [dkOf, hn])
          cases e1
          obtain rfl := keyK_ok rj hk
          cases ro
          have hm : a ∈ io := List.mem_of_getElem? hio
          have ex : Ext io H io (upd H a (.dK (L2.putK xs k v))) := Ext.upd hm
          refine d_setItem (by omega) I (DPut.k hH (by rw [rP.len, sizeLine_eq]; omega)) ri rv fun s' I' => ⟨_, I', q _ ex ?_⟩
          exact (S.set (o := .dK (putKD l k d)) hio ⟨_, rfl, (rP.putK rd).mono ex⟩).1
        · cases hp
      · cases hp
    · cases hp
  · cases hp
def setAt (a o i : EM D) : SM := fun l st => (a l st).toS l fun d st1 => (o l st1).toS l fun x st2 => (i l st2).toS l fun j st3 => match putAt d x j st3 with
  | some st4 => .nx l st4
  | none => .fail
theorem ms_setAt {o i e : Expr} {mo mi ma : EM D} {spos : Pos} (c : Ctx X W k) (ha : ME X W e ma) (ho : ME X W o mo) (hi : ME X W i mi) (hs : swapsWithSole [.Subscript o i spos] e pos.line X.env = pure false := by rfl) (hw : swappedStores [.Subscript o i spos] e X.env = pure none := by rfl) (he : (assignEach [.Subscript o i spos] X.env).map (·.2) = [assign (.Subscript o i spos) X.env] := by rfl)
    (hq : ∀ v, assign (.Subscript o i spos) X.env v = (do let ov ← holding [v] (eval o X.env); let iv ← holding [v, ov] (eval i X.env); standAt spos; holding [v, ov, iv] (setItem ov iv v); release [v, ov, iv] []) := by intro _; rfl) :
    MS X W (.Assign [.Subscript o i spos] e pos) (setAt ma mo mi) := by
  obtain ⟨t1, p1, q1⟩ := ha
  obtain ⟨t2, p2, q2⟩ := ho
  obtain ⟨t3, p3, q3⟩ := hi
  refine ⟨_, ps_asg p1 (pg_sub p2 p3 (set_any (un65 c)) hq) hs hw he, fun io N H s l st D hl hs p => ?_⟩
  refine q1.seqS hl hs p fun io1 H1 d v st1 e1 S1 r1 p => q2.seqS (hl.mono e1) S1 p fun io2 H2 x w st2 e2 S2 r2 p => q3.seqS ((hl.mono e1).mono e2) S2 p fun io3 H3 j u st3 e3 S3 r3 p => ?_
  cases h : putAt d x j st3 with
  | none => rw [h] at p; exact p.elim
  | some st4 =>
    rw [h] at p
    exact ⟨io3, N, st3, st4, d, x, j, S3, r2.mono e3, r3, (r1.mono e2).mono e3, h, fun H' ex S4 => p io3 H' s ex ((((hl.mono e1).mono e2).mono e3).mono ex) S4⟩
/-! ### displays of dicts -/
def flatP : List (V × V) → List V
  | [] => []
  | p :: r => p.1 :: p.2 :: flatP r
def rPP : Rp (List D) (List (V × V)) := ⟨fun K _ io N H ds ps => Reps K io N H ds (flatP ps), fun _ h => h, fun _ => []⟩
def MPs (X : Cx) (W : Wi) (pos : Pos) (keys : List (Option Expr)) (values : List Expr) (m : EM (List D)) : Prop := ∃ trs, PPs X pos keys values trs ∧ RG X.kw rPP W (tPairs trs) m
theorem mps_nil : MPs X W pos [] [] nilA := ⟨[], pps_nil, fun io N H s l st Q hl hs p => p io H [] (Ext.refl _ _) hs rfl⟩
theorem mps_cons {ek ev : Expr} {ks : List (Option Expr)} {vs : List Expr} {a b : EM D} {r : EM (List D)} (h1 : ME X W ek a) (h2 : ME X W ev b) (h3 : MPs X W pos ks vs r) : MPs X W pos (some ek :: ks) (ev :: vs) (consA a (consA b r)) := by
  obtain ⟨t1, p1, q1⟩ := h1
  obtain ⟨t2, p2, q2⟩ := h2
  obtain ⟨t3, p3, q3⟩ := h3
  refine ⟨_, pps_cons p1 p2 p3, fun io N H s l st Q hl hs p => ?_⟩
  unfold consA at p
  refine q1.seq hl hs p fun io1 H1 d v st1 e1 S1 r1 p => ?_
  rw [Rz.bind_bind] at p
  refine q2.seq (hl.mono e1) S1 p fun io2 H2 d2 v2 st2 e2 S2 r2 p => ?_
  rw [Rz.bind_bind] at p
  refine q3.seq ((hl.mono e1).mono e2) S2 p fun io3 H3 ds ps st3 e3 S3 r3 p => ?_
  exact p io3 H3 _ (Ext.refl _ _) S3 ⟨v, _, rfl, (r1.mono e2).mono e3, v2, _, rfl, r2.mono e3, r3⟩
def pairK : List D → Option (List (Key × D))
  | [] => some []
  | k :: v :: r => match keyK k, pairK r with
    | some k', some r' => some ((k', v) :: r')
    | _, _ => none
  | _ => none
theorem pairK_ok : ∀ {ds : List D} {ps : List (V × V)} {l : List (Key × D)}, Reps X.kw io N H ds (flatP ps) → pairK ds = some l → ∃ kvs : List (Key × V), ps = kvs.map (fun kv => (kV kv.1, kv.2)) ∧ RepP X.kw io N H l kvs
  | [], ps, l, r, h => by
    cases h
    cases ps with
    | nil => exact ⟨[], rfl, rfl⟩
    | cons p ps => cases r
  | [_], _, _, _, h => by cases h
  | k :: v :: ds, ps, l, r, h => by
    simp only [pairK] at h
    split at h
    · rename_i k' r' h1 h2
      cases h
      obtain ⟨x, _, e1, a, y, _, e2, b, q⟩ := r
      cases ps with
      | nil => cases e1
      | cons p ps =>
        cases e1
        cases e2
        obtain ⟨kvs, e3, q2⟩ := pairK_ok q h2
        obtain ⟨p1, p2⟩ := p
        have e4 := keyK_ok a h1
        refine ⟨(k', p2) :: kvs, ?_, p2, kvs, rfl, b, q2⟩
        rw [List.map_cons, ← e3]
        show (p1, p2) :: ps = (kV k', p2) :: ps
        rw [show p1 = kV k' from e4]
    · cases h
theorem mergeK_nodup : ∀ (more kvs : List (Key × V)), ((kvs ++ more).map (·.1)).Nodup → mergeK kvs more = kvs ++ more
  | [], kvs, _ => by simp [mergeK]
  | p :: r, kvs, h => by
    have hn : (kvs.any fun kv => decide (kv.1 = p.1)) = false := by
      rw [List.any_eq_false]
      intro q hq
      rw [List.map_append, List.nodup_append] at h
      have := h.2.2 q.1 (List.mem_map.mpr ⟨q, hq, rfl⟩) p.1 (by simp)
      simpa using this
    have e : putK kvs p.1 p.2 = kvs ++ [p] := by
      unfold putK
      rw [hn]
      simp
    show mergeK (putK kvs p.1 p.2) r = _
    rw [e, mergeK_nodup r (kvs ++ [p]) (by simpa using h)]
    simp
theorem RepP.keys {κ : Type} {l : List (κ × D)} {xs : List (κ × V)} (r : RepP X.kw io N H l xs) : xs.map (·.1) = l.map (·.1) := by
  induction l generalizing xs with
  | nil => cases r; rfl
  | cons e l ih =>
    obtain ⟨u, zs, rfl, a, b⟩ := r
    rw [List.map_cons, List.map_cons, ih b]
/-- {k: v, ..}, the keys texts or numbers, unlike -/
def dctK (a : EM (List D)) : EM D := fun l st => (a l (st ++ [.dK []])).bind fun ds st1 => match pairK ds, st1[st.length]? with
  | some kvs, some (.dK []) => if kvs.length ≤ 15 ∧ (kvs.map (·.1)).Nodup then .ok (.ref st.length) (st1.set st.length (.dK kvs)) else .fail
  | _, _ => .fail
theorem fresh_dict {p : Addr} {u : HO} {o : O} (S : RSt X.kw io N H st) (hp : H p = none) (r : RepU X.kw io (p :: N) (upd H p u) p o u) : RSt X.kw (io ++ [p]) N (upd H p u) (st ++ [o]) ∧ Ext io H (io ++ [p]) (upd H p u) :=
  ⟨(S.fresh hp).push (S.out hp) upd_same r, (Ext.new hp).push hp⟩
theorem me_dctK {keys : List (Option Expr)} {values : List Expr} {a : EM (List D)} (h : MPs X W pos keys values a) (hall : keys.all (·.isSome) = true := by rfl) (hl : keys.length = values.length := by rfl) (h0 : keys ≠ [] := by exact fun z => nomatch z) (h15 : keys.length ≤ 15 := by decide) : ME X W (.Dict keys values pos) (dctK a) := by
  obtain ⟨trs, p1, q1⟩ := h
  refine ⟨_, pe_disp p1 hall hl h0 h15, fun io N H s l st Q hl hs p p0 hp0 => ?_⟩
  obtain ⟨S1, e1⟩ := fresh_dict (o := .dK []) hs hp0 ⟨[], rfl, rfl⟩
  have hidx : (io ++ [p0])[st.length]? = some p0 := by rw [← hs.len, List.getElem?_concat_length]
  refine q1.seq (hl.mono e1) S1 (Post.step e1 p) fun io2 H2 ds ps st2 e2 S2 r2 p => ?_
  split at p
  · rename_i kvs hk hst
    obtain ⟨hc, p⟩ := post_if p
    obtain ⟨xs, rfl, rP⟩ := pairK_ok r2 hk
    obtain ⟨b, u, f1, f2, ys, rfl, f3⟩ := S2.ob _ _ hst
    cases f3
    rw [e2.idx hidx] at f1
    cases f1
    have hn : ((([] : List (Key × V)) ++ xs).map (·.1)).Nodup := by rw [List.nil_append, rP.keys]; exact hc.2
    refine ⟨f2, xs, rfl, by rw [rP.len]; exact hc.1, ?_⟩
    rw [mergeK_nodup xs [] hn, List.nil_append]
    have ex : Ext io2 H2 io2 (upd H2 p0 (.dK xs)) := Ext.upd (List.mem_of_getElem? (e2.idx hidx))
    exact p io2 _ _ ex (S2.set (o := .dK kvs) (e2.idx hidx) ⟨xs, rfl, rP.mono ex⟩).1 ⟨p0, e2.idx hidx, rfl⟩
  · exact p.elim
/-- {k: v}, the key a tuple -/
def dctN (a b : EM D) : EM D := fun l st => (a l (st ++ [.dN []])).bind fun d st1 => (b l st1).bind fun e st2 => match st2[st.length]? with
  | some (.dN []) => if keyD d = true then .ok (.ref st.length) (st2.set st.length (.dN [(d, e)])) else .fail
  | _ => .fail
def tDispN (X : Cx) (tk tv : TE) : TE := fun σ H Q => ∀ p, H p = none → tk σ (upd H p (DicO X.prog X.w p [])) fun x H1 => tv σ H1 fun y H2 => ∃ (io N : List Addr) (d e : D), Rep X.kw io N H2 d x ∧ Rep X.kw io N H2 e y ∧ keyD d = true ∧ H2 p = some (DicO X.prog X.w p []) ∧ ∀ k b, x = .ref b → nk d = some k → k.depth ≤ 8 → Q (.ref p) (upd H2 p (DicO X.prog X.w p [(k, b, y)]))
theorem dic_empty {P : Program} {w : World} {H : Hp} (h : Heap) (hb : sysModules < h.objs.size) : ObjOk P w H (h.push { cls := .type "dict", data := .dict #[] }) h.objs.size (DicO P w h.objs.size []) :=
  dic_new (Nat.zero_le _) (beq_eq_false_iff_ne.mpr (Ne.symm (Nat.ne_of_lt hb))) .nil (Heap.DictOfH.new h)
/-- a display, told by its entries -/
theorem dict_entries {K : Type} [DecidableEq K] {knd : HeapKind X.prog X.w K} {A : Around} {E : Value → Shared → Prop} {env : PySem.Env} {keys : List (Option Expr)} {values : List Expr} {pairs : List (Sem Value × Sem Value)} {Q : Value → Shared → Prop} (hu : knd.room A)
    (hsh : (evalEachOpt keys env).zip ((evalEach values env).map fun v => do let x ← v; standAt pos; pure x) = pairs.map fun p => (some p.1, p.2)) (h0 : pairs ≠ []) (hlen : pairs.length ≤ 15)
    (h : wpAny (model X.prog X.w) A (evalPairs pairs) (fun vs s₁ => ∃ ps, CarriesH knd s₁.heap vs ps ∧ s₁.heap.DictOfH knd s.heap.objs.size [] ∧
      ∀ h' tk, h'.DictOfH knd s.heap.objs.size (storedAllH [] ps) → Heap.SameBut s.heap.objs.size s₁.heap h' → Q (.ref s.heap.objs.size) { s₁ with heap := h', toks := tk }) E { s with heap := s.heap.push { cls := .type "dict", data := .dict #[] } }) :
    wpAny (model X.prog X.w) A (eval (.Dict keys values pos) env) Q E s := by
  rw [arm_eval_Dict, hsh, dictDisplay_pairs pairs h0 (by omega)]
  refine wpAny_bind (wpAny_standAt (wpAny_bind (wpAny_subDictH (knd := knd) (Q := fun d s' => wpAny (model X.prog X.w) A (pure (Value.ref d)) Q E s') hu hlen (wpAny_mono h (fun vs s₁ hh => ?_) fun _ _ e => e))))
  obtain ⟨ps, hc, hm, hq⟩ := hh
  exact ⟨ps, hc, hm, fun h' tk a b => wpAny_pure (hq h' tk a b)⟩
theorem pe_dispN {ek ev : Expr} {tk tv : TE} (hu : X.A.units + 65 < cLine) (hk : PE X ek tk) (hv : PE X ev tv) : PE X (.Dict [some ek] [ev] pos) (tDispN X tk tv) := by
  refine ⟨fun pins s σ H Q I q => ?_⟩
  have hn := I.hok.fresh (Nat.le_refl s.heap.objs.size)
  have I1 := I.laid (a := s.heap.objs.size) (o := DicO X.prog X.w s.heap.objs.size []) (h' := s.heap.push { cls := .type "dict", data := .dict #[] }) (t' := s.toks) (fun _ _ q => Heap.get?_push_of_some _ q) (Nat.le_refl _) (dic_empty s.heap I.big)
  have rm : (nestedKind X.prog X.w).room X.A := by
    show X.A.units + 8 < cLine
    omega
  refine dict_entries (knd := nestedKind X.prog X.w) rm (pairs := pairTrees [some ek] [ev] X.env pos) (zip_pairTrees _ _ _ _ rfl rfl) (by simp [pairTrees]) (by simp [pairTrees])
    (pairTrees_cons_walk (thn (hk.run pins _ σ _ _ I1 (q _ hn)) fun ku s1 ⟨x, H1, I1', rx, q1⟩ => thn (hv.run pins s1 σ H1 _ I1' q1) fun vu s2 ⟨y, H2, I2, ry, io, N, d, e, rd, re, hkd, hH, q2⟩ => pairTrees_nil_walk ?_))
  obtain ⟨k, b, h1, h2, rfl⟩ := keyD_ok rd hkd
  cases rx
  obtain ⟨g1, g2, ys, pp, dd⟩ := dic_raw (io := io) (N := N) (l := []) I2 hH rfl
  cases pp
  refine ⟨[(k, b, vu)], ⟨rfl, rfl, ⟨nest_of I2 _ _ _ _ rd rfl h1, h2⟩, trivial⟩, dd, fun h' tk dd' hs => ⟨.ref s.heap.objs.size, upd H2 s.heap.objs.size (DicO X.prog X.w s.heap.objs.size [(k, b, y)]), ?_, rfl, q2 k b rfl h1 h2⟩⟩
  exact d_write I2 (by rw [hH]; exact True.intro) hs (let ⟨q, _, _, hq, _⟩ := dd'; ⟨q, hq⟩) (dic_new (by simp) g2 (.cons ⟨rfl, rfl, ry⟩ .nil) dd')
theorem me_dctN {ek ev : Expr} {a b : EM D} (c : Ctx X W k) (h1 : ME X W ek a) (h2 : ME X W ev b) : ME X W (.Dict [some ek] [ev] pos) (dctN a b) := by
  obtain ⟨t1, p1, q1⟩ := h1
  obtain ⟨t2, p2, q2⟩ := h2
  refine ⟨_, pe_dispN (un65 c) p1 p2, fun io N H s l st Q hl hs p p0 hp0 => ?_⟩
  obtain ⟨S0, e0⟩ := fresh_dict (u := DicO X.prog X.w p0 []) (o := .dN []) hs hp0 ⟨[], rfl, rfl⟩
  have hidx : (io ++ [p0])[st.length]? = some p0 := by rw [← hs.len, List.getElem?_concat_length]
  refine q1.seq (hl.mono e0) S0 (Post.step e0 p) fun io1 H1 d x st1 e1 S1 r1 p => ?_
  refine q2.seq ((hl.mono e0).mono e1) S1 p fun io2 H2 e y st2 e2 S2 r2 p => ?_
  split at p
  · rename_i hst
    obtain ⟨hk, p⟩ := post_if p
    obtain ⟨f0, u, f1, f2, ys, rfl, f3⟩ := S2.ob _ _ hst
    cases f3
    have hi2 := e2.idx (e1.idx hidx)
    rw [hi2] at f1
    cases f1
    refine ⟨io2, N, d, e, r1.mono e2, r2, hk, f2, fun kk b hx hkk hd => ?_⟩
    have ex : Ext io2 H2 io2 (upd H2 p0 (DicO X.prog X.w p0 [(kk, b, y)])) := Ext.upd (List.mem_of_getElem? hi2)
    have r1' := r1.mono e2
    rw [hx] at r1'
    exact p io2 _ _ ex (S2.set (o := .dN [(d, e)]) hi2 ⟨[(kk, b, y)], rfl, kk, b, y, [], rfl, ⟨hkk, hd⟩, r1'.mono ex, r2.mono ex, rfl⟩).1 ⟨p0, hi2, rfl⟩
  · exact p.elim
/-- {} -/
def dct0 : EM D := fun _ st => .ok (.ref st.length) (st ++ [.dN []])
theorem me_dct0 : ME X W (.Dict [] [] pos) dct0 := by
  refine ⟨fun _ H Q => ∀ p, H p = none → Q (.ref p) (upd H p (DicO X.prog X.w p [])), ⟨fun pins s σ H Q I h => ?_⟩, fun io N H s l st Q hl hs p p0 hp0 => ?_⟩
  · exact wpAny_Dict_empty ⟨.ref s.heap.objs.size, _, I.laid (a := s.heap.objs.size) (t' := s.toks) (fun _ _ q => Heap.get?_push_of_some _ q) (Nat.le_refl _) (dic_empty s.heap I.big), rfl, h _ (I.hok.fresh (Nat.le_refl _))⟩
  · obtain ⟨S0, e0⟩ := fresh_dict (u := DicO X.prog X.w p0 []) (o := .dN []) hs hp0 ⟨[], rfl, rfl⟩
    exact p _ _ _ e0 S0 ⟨p0, by rw [← hs.len, List.getElem?_concat_length], rfl⟩
end
end Rf
namespace Rf
set_option autoImplicit false
open PySem PySem.Spec L2

section
variable {X : Cx} {W : Wi} {pos : Pos} {pins : List (Addr × Obj)} {σ : L2.St} {io N : List Addr} {H : Hp} {s : Shared} {st : Store} {k : Nat}
/-! ### methods of built-in types, the receiver's type by its data -/
def TyN (X : Cx) (T : String) (x : V) (H : Hp) : Prop := ∀ (pins : List (Addr × Obj)) (σ : L2.St) (s : Shared) (v : Value), Inv X pins σ H s → RelV x v → s.TypeIs v T ∧ ∀ a, v = .ref a → ∃ ob, s.heap.get? a = some ob ∧ ob.dict = none
theorem tyN_tup {l : List D} {v : V} (r : Rep X.kw io N H (.tup l) v) : TyN X "tuple" v H := by
  obtain ⟨p, xs, rfl, ⟨_, _, ⟨o, e, hd⟩⟩, _⟩ := r
  intro pins σ s v I rv
  cases rv
  obtain ⟨h1, h2, its, h3, o', h4, h5, _⟩ := I.hok p _ e
  rw [h1] at h4
  cases h4
  exact ⟨⟨o, h1, h5⟩, fun a ea => by cases ea; exact ⟨o, h1, hd⟩⟩
theorem tyN_lst {p : Addr} {xs : List V} (h : SqL X.K H p xs) : TyN X "list" (.ref p) H := by
  intro pins σ s v I rv
  cases rv
  obtain ⟨its, r, ⟨o, n, e, hc, hd, hdat⟩, hz⟩ := I.list h
  exact ⟨⟨o, e, hc⟩, fun a ea => by cases ea; exact ⟨o, e, hd⟩⟩
theorem tyN_dic {p : Addr} {xs : List (NestedKey × Addr × V)} (h : H p = some (DicO X.prog X.w p xs)) : TyN X "dict" (.ref p) H := by
  intro pins σ s v I rv
  cases rv
  obtain ⟨⟨h1, h2, ys, pp, o, es, ep, ho, hx, hd, he, hn⟩, _⟩ := I.hok p _ h
  exact ⟨⟨o, ho, hx.1⟩, fun a ea => by cases ea; exact ⟨o, ho, hx.2.1⟩⟩
def tBMX (X : Cx) (T : String) (r : V → List V → Hp → VK → Prop) (to : TE) (t : TA) : TE := fun σ H Q => to σ H fun x H1 => TyN X T x H1 ∧ t σ H1 fun xs H2 => r x xs H2 Q
theorem pe_bmX {o e : Expr} {es : List Expr} {to : TE} {t : TA} {name : Str} {apos cpos : Pos} {T id : String} {r : V → List V → Hp → VK → Prop} (pa : PlainAttrs T) (slot : Slot T name id) (hty : typeOf (.builtin id) = pure (.type "method_descriptor")) (hm : MtR X id r) (ho : PE X o to) (ha : PA X (e :: es) t)
    (hbase : attributeBase o name X.env (eval o X.env) = eval o X.env)
    (hfew : ((backTo cpos (starEach (e :: es) X.env)).all (fun x => !x.1) && (backToKw cpos (keywordEach [] X.env)).all (fun x => x.1.isSome) && decide ((e :: es).length + ([] : List Keyword).length + (if ([] : List Keyword).isEmpty then 0 else 1) < 30)) = true)
    (hline : (apos.endLine == cpos.line) = true) (hs : starEach (e :: es) X.env = (false, eval e X.env) :: starEach es X.env) (hpl : (backTo cpos (starEach es X.env)).any (·.1) = false) :
    PE X (.Call (.Attribute o name apos) (e :: es) [] cpos) (tBMX X T r to t) := by
  refine ⟨fun pins s σ H Q I h => wpAny_Call_method_late hbase hfew hline rfl (thn (ho.run pins s σ H _ I h) fun v s1 ⟨x, H1, I1, r1, ty, q1⟩ => ?_)⟩
  obtain ⟨h1, h2⟩ := ty pins σ s1 v I1 r1
  refine ⟨T, id, pa, slot, hty, h1, h2, ?_⟩
  have hA := ha.run cpos pins s1 σ H1 _ I1 q1
  rw [hs] at hA ⊢
  refine Calls.callWith_builtin (by show (false || (backTo cpos (starEach es X.env)).any (·.1)) = false; rw [hpl] <;> rfl) (Calls.evalArgs_plain (thn hA fun us s2 ⟨vs, H2, I2, r2, q2⟩ => ?_))
  exact hm pins s2 σ H2 x vs v us Q I2 r1 r2 q2
/-! ### x.index(e) of tuples and lists -/
def idxD (l : List D) (d : D) : Option Nat := match nks l, nk d with
  | some ks, some k => if k.depth ≤ 8 ∧ k ∈ ks then some (ks.idxOf k) else none
  | _, _ => none
def rIdx (X : Cx) (b : Bool) : V → List V → Hp → VK → Prop := fun x xs H Q => ∃ (io N : List Addr) (p : Addr) (ys : List V) (l : List D) (d : D) (y : V) (ks : List NestedKey) (kk : NestedKey), x = .ref p ∧ xs = [y] ∧ (if b = true then SqT X.K H p ys else SqL X.K H p ys) ∧ Reps X.kw io N H l ys ∧ Rep X.kw io N H d y ∧
  nks l = some ks ∧ nk d = some kk ∧ kk.depth ≤ 8 ∧ kk ∈ ks ∧ Q (.int (ks.idxOf kk : Nat)) H
theorem mt_tidx (hu : X.A.units + 65 < cLine) : MtR X "tuple.index" (rIdx X true) := by
  rintro pins s σ H x xs v us Q I rx rxs ⟨io, N, p, ys, l, d, y, ks, kk, rfl, rfl, hs, rl, rd, h1, h2, h3, h4, q⟩
  cases rx
  cases rxs with
  | cons ry rt =>
    cases rt
    obtain ⟨its, r, hT, hz⟩ := I.tuple hs
    refine PySem.SeqAt.call_tuple_index hT (PySem.SeqAt.ItemsEq.nested (nests_of I _ _ _ _ rl r h1) (nest_of I _ _ _ _ rd ry h2) ?_) h4 ⟨.int _, H, I.tok _, ⟨_, rfl⟩, q⟩
    show X.A.in1.units + kk.depth < cLine
    have : X.A.in1.units = X.A.units + 1 := rfl
    omega
theorem mt_lidx (hu : X.A.units + 65 < cLine) : MtR X "list.index" (rIdx X false) := by
  rintro pins s σ H x xs v us Q I rx rxs ⟨io, N, p, ys, l, d, y, ks, kk, rfl, rfl, hs, rl, rd, h1, h2, h3, h4, q⟩
  cases rx
  cases rxs with
  | cons ry rt =>
    cases rt
    obtain ⟨its, r, hT, hz⟩ := I.list hs
    have hn := nests_of I _ _ _ _ rl r h1
    have hl : ks.length = ys.length := by
      have a1 := NestedAll.length _ _ hn
      have a2 := r.length
      omega
    refine PySem.SeqAt.call_list_index hT.isList (PySem.SeqAt.ItemsEq.nested hn (nest_of I _ _ _ _ rd ry h2) ?_) (by rw [hl]; exact hz) h4 ⟨.int _, H, I.tok _, ⟨_, rfl⟩, q⟩
    show X.A.in1.units + kk.depth < cLine
    have : X.A.in1.units = X.A.units + 1 := rfl
    omega
/-- o.index(e), o a tuple -/
def tidxM (o a : EM D) : EM D := fun l st => (o l st).bind fun x st1 => (match x with
  | .tup ds => (a l st1).bind fun d st2 => (match idxD ds d with
    | some j => .ok (.int (j : Nat)) st2
    | none => .fail)
  | _ => .fail)
theorem idxD_ok {l : List D} {d : D} {j : Nat} (h : idxD l d = some j) : ∃ ks kk, nks l = some ks ∧ nk d = some kk ∧ kk.depth ≤ 8 ∧ kk ∈ ks ∧ j = ks.idxOf kk := by
  unfold idxD at h
  split at h
  · rename_i ks kk h1 h2
    split at h
    · rename_i hc
      cases h
      exact ⟨ks, kk, h1, h2, hc.1, hc.2, rfl⟩
    · cases h
  · cases h
theorem me_tidx {o e : Expr} {mo ma : EM D} {apos : Pos} (c : Ctx X W k) (ho : ME X W o mo) (ha : ME X W e ma) (hs1 : starEach (e :: []) X.env = (false, eval e X.env) :: starEach [] X.env := by rfl) (hbase : attributeBase o "index" X.env (eval o X.env) = eval o X.env := by rfl)
    (hfew : ((backTo pos (starEach (e :: []) X.env)).all (fun x => !x.1) && (backToKw pos (keywordEach [] X.env)).all (fun x => x.1.isSome) && decide ((e :: ([] : List Expr)).length + ([] : List Keyword).length + (if ([] : List Keyword).isEmpty then 0 else 1) < 30)) = true := by rfl)
    (hline : (apos.endLine == pos.line) = true := by rfl) (hpl : (backTo pos (starEach [] X.env)).any (·.1) = false := by rfl) : ME X W (.Call (.Attribute o "index" apos) [e] [] pos) (tidxM mo ma) := by
  obtain ⟨t1, p1, q1⟩ := ho
  obtain ⟨t2, p2, q2⟩ := ha
  refine ⟨_, pe_bmX PySem.F.plainAttrs_tuple PySem.F.slot_tuple_index PySem.F.type_tuple_index (mt_tidx (un65 c)) p1 (pa_cons p2 pa_nil hs1) hbase hfew hline hs1 hpl, fun io N H s l st Q hl hs p => ?_⟩
  refine q1.seq hl hs p fun io1 H1 x w st1 e1 S1 r1 p => ?_
  cases x with
  | tup ds =>
    simp only at p
    refine ⟨tyN_tup r1, q2.seq (hl.mono e1) S1 p fun io2 H2 d v st2 e2 S2 r2 p => ?_⟩
    cases hj : idxD ds d with
    | none => simp only [hj] at p; exact p.elim
    | some j =>
      simp only [hj] at p
      obtain ⟨ks, kk, h1, h2, h3, h4, rfl⟩ := idxD_ok hj
      obtain ⟨b, ys, rfl, cs, rr⟩ := tup_ok (r1.mono e2)
      exact ⟨io2, N, b, ys, ds, d, v, ks, kk, rfl, rfl, cs, rr, r2, h1, h2, h3, h4, post_val p S2 rfl⟩
  | _ => exact p.elim
/-- o.index(e), o a list -/
def lidxM (o a : EM D) : EM D := fun l st => (o l st).bind fun x st1 => (match lof x st1 with
  | some _ => (a l st1).bind fun d st2 => (match lof x st2 with
    | some ds => (match idxD ds d with
      | some j => .ok (.int (j : Nat)) st2
      | none => .fail)
    | none => .fail)
  | none => .fail)
theorem me_lidx {o e : Expr} {mo ma : EM D} {apos : Pos} (c : Ctx X W k) (ho : ME X W o mo) (ha : ME X W e ma) (hs1 : starEach (e :: []) X.env = (false, eval e X.env) :: starEach [] X.env := by rfl) (hbase : attributeBase o "index" X.env (eval o X.env) = eval o X.env := by rfl)
    (hfew : ((backTo pos (starEach (e :: []) X.env)).all (fun x => !x.1) && (backToKw pos (keywordEach [] X.env)).all (fun x => x.1.isSome) && decide ((e :: ([] : List Expr)).length + ([] : List Keyword).length + (if ([] : List Keyword).isEmpty then 0 else 1) < 30)) = true := by rfl)
    (hline : (apos.endLine == pos.line) = true := by rfl) (hpl : (backTo pos (starEach [] X.env)).any (·.1) = false := by rfl) : ME X W (.Call (.Attribute o "index" apos) [e] [] pos) (lidxM mo ma) := by
  obtain ⟨t1, p1, q1⟩ := ho
  obtain ⟨t2, p2, q2⟩ := ha
  refine ⟨_, pe_bmX PySem.F.plainAttrs_list PySem.F.slot_list_index PySem.F.type_list_index (mt_lidx (un65 c)) p1 (pa_cons p2 pa_nil hs1) hbase hfew hline hs1 hpl, fun io N H s l st Q hl hs p => ?_⟩
  refine q1.seq hl hs p fun io1 H1 x w st1 e1 S1 r1 p => ?_
  cases h0 : lof x st1 with
  | none => simp only [h0] at p; exact p.elim
  | some l0 =>
    simp only [h0] at p
    obtain ⟨b0, ys0, rfl, cs0, _⟩ := lof_ok S1 r1 h0
    refine ⟨tyN_lst cs0, q2.seq (hl.mono e1) S1 p fun io2 H2 d v st2 e2 S2 r2 p => ?_⟩
    cases hl2 : lof x st2 with
    | none => simp only [hl2] at p; exact p.elim
    | some ds =>
      simp only [hl2] at p
      cases hj : idxD ds d with
      | none => simp only [hj] at p; exact p.elim
      | some j =>
        simp only [hj] at p
        obtain ⟨ks, kk, h1, h2, h3, h4, rfl⟩ := idxD_ok hj
        obtain ⟨b, ys, eb, cs, rr⟩ := lof_ok S2 (r1.mono e2) hl2
        cases eb
        exact ⟨io2, N, b0, ys, ds, d, v, ks, kk, rfl, rfl, cs, rr, r2, h1, h2, h3, h4, post_val p S2 rfl⟩
/-! ### truth of lists, tuples, numbers, texts -/
def truM (d : D) (st : Store) : Option Bool := match d with
  | .non => some false
  | .bl b => some b
  | .int i => some (i != 0)
  | .str x => if small x.length = true then some ((x.length : Int) != 0) else none
  | d => (match sqof d st with
    | some l => some (!l.isEmpty)
    | none => none)
def truT (a : EM D) : EM Bool := fun l st => (a l st).bind fun d st1 => match truM d st1 with
  | some b => .ok b st1
  | none => .fail
theorem Reps.emp {l : List D} {xs : List V} (r : Reps X.kw io N H l xs) : xs.isEmpty = l.isEmpty := by
  have := r.len
  cases l <;> cases xs <;> simp_all
theorem tru_ok2 {d : D} {v : V} {b : Bool} (S : RSt X.kw io N H st) (r : Rep X.kw io N H d v) (h : truM d st = some b) : TruV X.K v H b := by
  unfold truM at h
  split at h
  · cases h; cases r; exact rfl
  · cases h; cases r; exact rfl
  · cases h; cases r; exact rfl
  · split at h
    · rename_i hs
      cases h
      cases r
      exact ⟨small_ok hs, rfl⟩
    · cases h
  · split at h
    · rename_i l hl
      cases h
      obtain ⟨p, xs, rfl, c, q⟩ := sqof_ok S r hl
      rcases c with c | c
      · exact .inl ⟨xs, c, by rw [q.emp]⟩
      · exact .inr (.inl ⟨xs, c, by rw [q.emp]⟩)
    · cases h
theorem mt_tru {e : Expr} {a : EM D} (h : ME X W e a) (he : ∀ whole, isTrue e X.env whole = (do let v ← whole; standAt e.pos; holding [v] (truthy v)) := by intro _; rfl) : MT X W e (truT a) := by
  obtain ⟨t, p, r⟩ := h
  refine ⟨_, pt_truth p he, fun io N H s l st Q hl hs p => ?_⟩
  refine r.seq hl hs p fun io1 H1 d v st1 e1 S1 r1 p1 => ?_
  cases ht : truM d st1 with
  | none => rw [ht] at p1; exact p1.elim
  | some b =>
    rw [ht] at p1
    exact ⟨b, tru_ok2 S1 r1 ht, p1 io1 H1 b (Ext.refl _ _) S1 rfl⟩
/-! ### len of dicts too -/
def lenM2 : FM := fun ds st => match ds with
  | [d] => (match dnOf d st with
    | some l => .ok (.int l.length) st
    | none => (match dkOf d st with
      | some l => .ok (.int l.length) st
      | none => lenM [d] st))
  | _ => .fail
def rLenN (X : Cx) : List V → Hp → VK → Prop := fun xs H Q => ∃ (io N : List Addr) (a : Addr) (l : List (D × D)) (ys : List (NestedKey × Addr × V)), xs = [.ref a] ∧ H a = some (DicO X.prog X.w a ys) ∧ RepN X.kw io N H l ys ∧ Q (.int l.length) H
theorem len_raw {d : Addr} {es : Array DictEntry} {ep : Nat} {A : Around} {E : Value → Shared → Prop} {Q : Value → Shared → Prop} (hd : (d == sysModules) = false) (hm : s.heap.DictRaw d es ep) (hfit : (es.size : Int) < 2 ^ 63)
    (h : Q (.int es.size (s.toks + 1)) { s with toks := s.toks + 1 + 1 }) : wpAny (model X.prog X.w) A (call (.builtin "len") [.ref d]) Q E s := by
  refine Calls.call_function_entry PySem.kind_len PySem.plain_len PySem.entry_len (PySem.args_len1 _) ?_
  unfold Builtin.«len»
  refine wpAny_bind (m := oneArg "len" _) (wpAny_pure ?_)
  refine wpAny_bind (m := callSpecial? (.ref d) (Str.ofString "__len__")) (wpAny_callSpecial?_slot (name := Str.ofString "__len__") hm.typeIs F.slot_dict_len (call_len_raw hd hm ?_))
  refine wpAny_bind (wpAny_holding (wpAny_pure ?_))
  refine wpAny_bind (wpAny_letGo ?_)
  show wpAny _ _ (if ((es.size : Nat) : Int) < 0 then _ else _) _ _ _
  rw [if_neg (by omega)]
  show wpAny _ _ (if ((es.size : Nat) : Int) ≥ 2 ^ 63 then _ else _) _ _ _
  rw [if_neg (by omega)]
  exact wpAny_bind (wpAny_mkInt (wpAny_pure ⟨_, rfl, h⟩))
theorem cr_lenN : CallR X (.builtin "len") (rLenN X) := by
  rintro pins s σ H xs us Q I r ⟨io, N, a, l, ys, rfl, hH, rN, q⟩
  rw [Vals.ref1 r]
  obtain ⟨g1, g2, zs, pp, dd⟩ := dic_raw I hH rN
  obtain ⟨es, ep, hr, hs, _⟩ := dd.raw
  have hl : es.size = l.length := by rw [hs, ← Paired.length pp, dic_len rN]
  have hb : l.length ≤ 1000000 := by rw [← dic_len rN]; exact g1
  refine len_raw g2 hr (by omega) ⟨.int l.length, H, I.tok _, ⟨_, by rw [hl]⟩, q⟩
theorem cal_len2 : CalM X.kw (fun xs H Q => (∃ x n, xs = [x] ∧ LenV X.K x H n ∧ Q (.int n) H) ∨ (rLenN X xs H Q ∨ ∃ a kvs, xs = [V.ref a] ∧ H a = some (.dK kvs) ∧ Q (.int kvs.length) H)) lenM2 := by
  intro io N H vs ds st Q Y S r p
  unfold lenM2 at p
  split at p
  · rename_i d
    obtain ⟨v, _, rfl, rd, rfl⟩ := id r
    split at p
    · rename_i l hl
      obtain ⟨n, a, xs, rfl, hst, rfl, hio, hH, rN⟩ := dnOf_ok S rd hl
      exact .inr (.inl ⟨io, N, a, l, xs, rfl, hH, rN, post_val p S rfl⟩)
    · split at p
      · rename_i l hl
        obtain ⟨n, a, xs, rfl, hst, rfl, hio, hH, rP⟩ := dkOf_ok S rd hl
        refine .inr (.inr ⟨a, xs, rfl, hH, ?_⟩)
        rw [rP.len]
        exact post_val p S rfl
      · exact .inl (cal_len io N H _ [d] st Q Y S r p)
  · exact p.elim
end
end Rf
namespace Rf
set_option autoImplicit false
open PySem PySem.Spec L2 PyProof.Rows

/-! ### set(xs) of any length, few of them unlike -/
section
variable {P : Program} {w : World} {A : Around} {E : Value → Shared → Prop}
/-- fewer than 63 unlike ones -/
def Few (ks : List (Addr × List Int)) : Prop := ∀ L : List (List Int), L.Nodup → (∀ x ∈ L, x ∈ ks.map (·.2)) → L.length < 63
/-- how the set at S stands behind the first i items -/
def SetUp (P : Program) (w : World) (ks : List (Addr × List Int)) (S i : Nat) (h : Heap) : Prop := ∃ L es ep t, SetTR P w h S L es ep t ∧ Got ks i L
theorem SetUp.keep {ks : List (Addr × List Int)} {S i : Nat} {h h' h0 : Heap} (x : SetUp P w ks S i h) (hS : ∀ o, h.get? S = some o → h'.get? S = some o) (hk : ∀ p ∈ ks, IsT P w h0 p.2 p.1) (k0 : ∀ b o, h0.get? b = some o → h'.get? b = some o) : SetUp P w ks S i h' := by
  obtain ⟨L, es, ep, t, R, g⟩ := x
  exact ⟨L, es, ep, t, R.keep hS fun p hp => isT_keep (hk p (List.mem_of_mem_take (g.sub p hp))) k0, g⟩
/-- one more item goes in -/
theorem SetUp.add {ks : List (Addr × List Int)} {S i : Nat} {s : Shared} {p : Addr × List Int} {Q : Bool → Shared → Prop} (x : SetUp P w ks S i s.heap) (hp : ks[i]? = some p) (hx : IsT P w s.heap p.2 p.1) (few : Few ks) (hu : A.units < cLine)
    (q : ∀ b h', Heap.SameBut S s.heap h' → SetUp P w ks S (i + 1) h' → Q b { s with heap := h' }) : wpAny (model P w) A (setAddHashed S (.ref p.1) (thash P w p.2)) Q E s := by
  obtain ⟨L, es, ep, t, R, g⟩ := x
  have room : L.length < 63 := by
    have z := few (L.map (·.2)) R.nd fun y hy => by
      obtain ⟨r, hr, rfl⟩ := List.mem_map.mp hy
      exact List.mem_map.mpr ⟨r, List.mem_of_mem_take (g.sub r hr), rfl⟩
    simpa using z
  refine add_at R hx hu (by omega) fun b h' L' es' ep' t' sb R' c1 c2 => q b h' sb ⟨L', es', ep', t', R', ?_⟩
  by_cases c : p.2 ∈ L.map (·.2)
  · rw [c1 c]
    exact g.same hp c
  · exact g.more hp (c2 c)
/-- the items of an iterator go into the set -/
theorem set_fill {I S : Addr} {fp wr : List Addr} {G : Array GenState → Array GenState → Prop} {n : Nat} {Pv : Nat → Value → Prop} {St : Nat → Shared → Prop} {R : Result → Shared → Prop} (W : WalksS P w A.in1 I fp wr G n Pv St) (nS : S ∉ fp) {ks : List (Addr × List Int)} (hn : n = ks.length)
    (few : Few ks) (hv : ∀ i v, Pv i v → ∃ p, ks[i]? = some p ∧ v = .ref p.1) {h0 : Heap} (hk : ∀ p ∈ ks, IsT P w h0 p.2 p.1) (no : h0.get? S = none) (now : ∀ b ∈ wr, h0.get? b = none) (hu : A.in1.units < cLine) (i : Nat) (s : Shared) (hi : i ≤ n) (st : St i s)
    (k0 : ∀ b o, h0.get? b = some o → s.heap.get? b = some o) (up : SetUp P w ks S i s.heap)
    (fin : ∀ s', Moved (S :: wr) G s s' → SetUp P w ks S n s'.heap → (∀ b o, h0.get? b = some o → s'.heap.get? b = some o) → R (.ok (.ret .none)) s') :
    codeAny (model P w) A (.builtin "set.update.loop" ⟨[.ref S, .ref I], []⟩) R s := by
  have old : ∀ {u u' : Shared}, Moved wr G u u' → (∀ b o, h0.get? b = some o → u.heap.get? b = some o) → ∀ b o, h0.get? b = some o → u'.heap.get? b = some o := fun mv k b o e =>
    mv.heap b o (fun z => by rw [now b z] at e; cases e) (k b o e)
  have inS : ∀ b ∈ wr, b ∈ S :: wr := fun b z => List.mem_cons_of_mem _ z
  have nw : S ∉ wr := fun z => nS (W.sub _ z)
  induction hm : n - i generalizing i s with
  | zero =>
    obtain rfl : i = n := by omega
    refine codeAny_builtin F.entry_set_update_loop ?_
    rw [Around.under_plainId F.plain_set_update_loop _]
    refine wpAny_bind (m := pyNext (.ref I)) (W.done s _ _ st fun s' mv => ?_)
    exact wpAny_pure (fin s' (mv.mono inS) (up.keep (fun o e => mv.heap S o nw e) hk (old mv k0)) (old mv k0))
  | succ m ih =>
    have hlt : i < n := by omega
    refine codeAny_builtin F.entry_set_update_loop ?_
    rw [Around.under_plainId F.plain_set_update_loop _]
    refine wpAny_bind (m := pyNext (.ref I)) (W.item i s _ _ hlt st fun v s' pv st' mv => ?_)
    obtain ⟨p, hp, rfl⟩ := hv i v pv
    have k1 := old mv k0
    have up1 := up.keep (fun o e => mv.heap S o nw e) hk k1
    have hx : IsT P w s'.heap p.2 p.1 := isT_keep (hk p (List.mem_of_getElem? hp)) k1
    refine wpAny_bind (m := holding [Value.ref p.1] (setAdd S (.ref p.1))) (wpAny_holding ?_)
    unfold setAdd
    refine wpAny_holding (wpAny_bind (wpAny_pyHash_tuple hu hx ?_))
    refine SetUp.add (s := { s' with toks := s'.toks + (p.2.length + 1) }) up1 hp hx few hu fun b h' sb up2 => ?_
    have k2 : ∀ b o, h0.get? b = some o → h'.get? b = some o := fun b o e => (sb.2 b (fun z => by rw [z, no] at e; cases e)).trans (k1 b o e)
    have st2 := W.frame _ s' h' (s'.toks + (p.2.length + 1)) st' (Nat.le_add_right _ _) fun b hb o e => by
      rw [sb.2 b (fun z => nS (by rw [← z]; exact hb))]
      exact e
    refine wpAny_pure ⟨plainId_quiet F.plain_set_update_loop _, ih (i + 1) _ hlt st2 k2 up2 (fun s3 mv3 up3 k3 => fin s3 ?_ up3 k3) (by omega)⟩
    refine Moved.trans W.gtrans ((mv.mono inS).then_heap (Nat.le_add_right _ _) fun b o hb e => ?_) mv3
    rw [sb.2 b (fun z => hb (by rw [z]; exact List.mem_cons_self))]
    exact e
end
end Rf
namespace Rf
set_option autoImplicit false
open PySem PySem.Spec L2 PyProof.Rows

section
variable {P : Program} {w : World} {A : Around} {E : Value → Shared → Prop} {s : Shared}
abbrev nset (w : World) : Obj := { cls := .type "set", dict := none, data := .set #[] 0 (.fresh 0 0 (!w.params.followText "set-order")) }
/-- set(xs), xs a list: the set is new, its filling stands apart; Z: what the filled set is -/
theorem call_set_by {l : Addr} {items : Array Value} {Z : Heap → Prop} {Q : Value → Shared → Prop} (hh : A.handled = none) (hl : s.heap.IsList l items)
    (fill : ∀ (A3 : Around) (I : Addr) (s1 : Shared) (R : Result → Shared → Prop), A3.handled = none → A3.units ≤ A.units + 3 → s1.gens = s.gens → s1.os = s.os → s1.drawn = s.drawn → l ≠ I → s.heap.objs.size ≠ I → s.heap.get? I = none →
      (Value.ref I = Value.ref (s.heap.objs.size + 1)) → s1.heap = (s.heap.push (nset w)).push { cls := .type "list_iterator", data := .fields #[.ref l, .int 0 0] } →
      (∀ s', s'.gens = s.gens → s'.os = s.os → s'.drawn = s.drawn → Z s'.heap → (∀ b o, s.heap.get? b = some o → s'.heap.get? b = some o) → R (.ok (.ret .none)) s') →
      codeAny (model P w) A3 (.builtin "set.update.loop" ⟨[.ref s.heap.objs.size, .ref I], []⟩) R s1)
    (h : ∀ (h' : Heap) (tk : Nat), Z h' → (∀ b o, s.heap.get? b = some o → h'.get? b = some o) → Q (.ref s.heap.objs.size) { s with heap := h', toks := tk }) :
    wpAny (model P w) A (call (.type "set") [.ref l]) Q E s := by
  obtain ⟨c, tl, hmro⟩ := F.called_set.mro
  have hmade := F.called_set.made
  have hsub := F.called_set.sub
  refine wpAny_call (codeAny_of_tree (show wpAny _ _ (callAny (.type "set") _) _ _ _ from wpAny_pure ⟨Code.quiet_builtin _ (by decide +kernel), codeAny_builtin F.entry_type_call ?_⟩))
  rw [Around.under_plain (weight_type_call_type "set" [.ref l] []) rfl]
  have h1 := F.called_set.notType
  have h2 := F.called_set.canCreate
  have hct := F.typeCall_set_1 (.ref l)
  repeat (any_goals (first | assumption | wp_step))
  refine codeAny_mono (code_set_led1 (.ref l) (E := E) (Q₁ := fun v u => v = .ref s.heap.objs.size ∧ u = { s with heap := s.heap.push (nset w) }) ⟨rfl, rfl⟩) fun r s₁ hr => ?_
  match r, hr with
  | .error _, hr => exact hr
  | .ok .next, hr => exact hr.elim
  | .ok .brk, hr => exact hr.elim
  | .ok .cont, hr => exact hr.elim
  | .ok (.ret obj), ⟨e1, e2⟩ =>
    subst e1 e2
    have hS : (s.heap.push (nset w)).get? s.heap.objs.size = some (nset w) := Heap.get?_push_size _ rfl
    have hT : Shared.TypeIs { s with heap := s.heap.push (nset w) } (.ref s.heap.objs.size) "set" := ⟨_, hS, rfl⟩
    have hli := F.called_set.init.lookup
    have hbi := F.called_set.init.bind (.ref s.heap.objs.size)
    repeat (any_goals (first | assumption | wp_step))
    refine codeAny_mono (codeAny_call_builtin (R := wants (fun r u => r = .none ∧ ∃ h' tk, u = { s with heap := h', toks := tk } ∧ Z h' ∧ ∀ b o, s.heap.get? b = some o → h'.get? b = some o) E) F.called_set.init.plain F.entry_set_init (check_set_init_1 hT ?_)) fun r₂ s₂ hr₂ => ?_
    · obtain ⟨⟨ocls, odict, odata, oslots⟩, hol, hcl, nl, hdl⟩ := hl
      simp only at hcl hdl
      subst hcl hdl
      have hol' : (s.heap.push (nset w)).get? l = some { cls := .type "list", dict := odict, data := .seq items nl, slots := oslots } := Heap.get?_push_of_some _ hol
      have x1 := F.sub_list_set
      have x2 := F.sub_list_frozenset
      have x3 : (Value.type "list" == Value.type "dict") = false := by decide
      have hl1 : (s.heap.push (nset w)).IsList l items := ⟨_, hol', rfl, nl, rfl⟩
      unfold Builtin.«set.__init__» noKeywords Builtin.Frozenset.updateFrom
      generalize hPI : pyIter = PI
      wp_walk
      subst hPI
      refine wpAny_pyIter_list hl1 (wpAny_bind (wpAny_runValue ?_))
      have lt : l < s.heap.objs.size := Heap.lt_size hol
      have sz : (s.heap.push (nset w)).objs.size = s.heap.objs.size + 1 := Heap.size_push ..
      have nI : s.heap.get? (s.heap.objs.size + 1) = none := by
        cases q : s.heap.get? (s.heap.objs.size + 1) with
        | none => rfl
        | some o => exact absurd (Heap.lt_size q) (Nat.not_lt.mpr (Nat.le_succ _))
      rw [sz]
      refine fill _ (s.heap.objs.size + 1) _ _ (by simp [hh]) (by simp [Around.in1]) rfl rfl rfl (Nat.ne_of_lt (Nat.lt_succ_of_lt lt)) (Nat.ne_of_lt (Nat.lt_succ_self _)) nI rfl rfl fun s' eg eo ed z k => ?_
      obtain ⟨h', g2, d', tk', os'⟩ := s'
      simp only at eg eo ed
      subst eg eo ed
      refine wpAny_pure ?_
      show wpAny _ _ (ret Value.none) _ _ _
      exact wpAny_pure ⟨rfl, h', tk', rfl, z, k⟩
    · match r₂, hr₂ with
      | .error _, hr => exact hr
      | .ok .next, hr => exact hr.elim
      | .ok .brk, hr => exact hr.elim
      | .ok .cont, hr => exact hr.elim
      | .ok (.ret _), ⟨e1, h', tk, e2, z, k⟩ =>
        subst e1 e2
        repeat (any_goals (first | assumption | wp_step))
        exact h _ _ z k
end
end Rf
namespace Rf
set_option autoImplicit false
open PySem PySem.Spec L2 PyProof.Rows

section
variable {P : Program} {w : World} {A : Around} {E : Value → Shared → Prop} {s : Shared}
theorem setTR_new {h : Heap} {a : Addr} (ho : h.get? a = some (nset w)) : SetTR P w h a [] #[] 0 (.fresh 0 0 (!w.params.followText "set-order")) := setTR_fresh ho
/-- set(xs), xs a list of tuples of ints, few of them unlike -/
theorem call_set_few {l : Addr} {items : Array Value} {ks : List (Addr × List Int)} {Q : Value → Shared → Prop} (hh : A.handled = none) (hl : s.heap.IsList l items) (hit : items.toList = ks.map fun p => Value.ref p.1) (hk : ∀ p ∈ ks, IsT P w s.heap p.2 p.1) (few : Few ks) (hu : A.units + 4 < cLine)
    (h : ∀ (h' : Heap) (tk : Nat) L es ep t, SetTR P w h' s.heap.objs.size L es ep t → Got ks ks.length L → (∀ b o, s.heap.get? b = some o → h'.get? b = some o) → Q (.ref s.heap.objs.size) { s with heap := h', toks := tk }) :
    wpAny (model P w) A (call (.type "set") [.ref l]) Q E s := by
  have hll : l < s.heap.objs.size := by
    obtain ⟨o, ho, _⟩ := hl
    exact Heap.lt_size ho
  have isz : items.size = ks.length := by
    have q := congrArg List.length hit
    rwa [Array.length_toList, List.length_map] at q
  refine call_set_by (Z := fun h' => ∃ L es ep t, SetTR P w h' s.heap.objs.size L es ep t ∧ Got ks ks.length L) hh hl (fun A3 I s1 R ah au g1 o1 d1 lI SI nI eI eh fin => ?_) fun h' tk z k => by
    obtain ⟨L, es, ep, t, R, g⟩ := z
    exact h h' tk L es ep t R g k
  have eI : I = s.heap.objs.size + 1 := by injection eI
  have hS : ((s.heap.push (nset w)).push { cls := .type "list_iterator", data := .fields #[.ref l, .int 0 0] }).get? s.heap.objs.size = some (nset w) := Heap.get?_push_of_some _ (Heap.get?_push_size _ rfl)
  have hv : ∀ (i : Nat) (v : Value), items[i]? = some v → ∃ p, ks[i]? = some p ∧ v = .ref p.1 := fun i v e => by
    have q : items.toList[i]? = some v := by rw [Array.getElem?_toList]; exact e
    rw [hit, List.getElem?_map] at q
    obtain ⟨p, hp, e2⟩ := Option.map_eq_some_iff.mp q
    exact ⟨p, hp, e2.symm⟩
  have no : s.heap.get? s.heap.objs.size = none := by
    cases q : s.heap.get? s.heap.objs.size with
    | none => rfl
    | some o => exact absurd (Heap.lt_size q) (Nat.lt_irrefl _)
  have szI : (s.heap.push (nset w)).objs.size = I := by rw [eI]; exact Heap.size_push ..
  refine set_fill ((Walks.list (A := A3.in1) (by simp [ah]) I l lI items).toS) (S := s.heap.objs.size) (by simp only [List.mem_cons, List.not_mem_nil, or_false, not_or]; exact ⟨SI, fun z => absurd hll (by rw [← z]; exact Nat.lt_irrefl _)⟩) isz few hv (h0 := s.heap) hk no (fun b hb => by rw [List.mem_singleton.mp hb]; exact nI) ?_ 0 s1 (Nat.zero_le _) ?_ ?_ ?_ fun s' mv up k => ?_
  · show A3.units + 1 < cLine
    omega
  · rw [eh]
    have hg : ((s.heap.push (nset w)).push { cls := .type "list_iterator", data := .fields #[.ref l, .int 0 0] }).get? I = some { cls := .type "list_iterator", data := .fields #[.ref l, .int 0 0] } := by
      rw [← szI]
      exact Heap.get?_push_size _ rfl
    exact ⟨⟨_, hg, rfl, rfl⟩, ((hl.push _).push _)⟩
  · intro b o e
    rw [eh]
    exact Heap.get?_push_of_some _ (Heap.get?_push_of_some _ e)
  · rw [eh]
    exact ⟨[], #[], 0, _, setTR_new hS, Got.zero ks⟩
  · rw [isz] at up
    exact fin s' (mv.gens.trans g1) (mv.os.trans o1) (mv.drawn.trans d1) up k
end
end Rf
namespace Rf
set_option autoImplicit false
open PySem PySem.Spec L2

/-! ### rows of numbers in order -/
abbrev Row := List Int
def leL (a b : Row) : Bool := decide (a ≤ b)
theorem leL_trans (a b c : Row) (h : leL a b = true) (g : leL b c = true) : leL a c = true := decide_eq_true (List.le_trans (of_decide_eq_true h) (of_decide_eq_true g))
theorem leL_total (a b : Row) : (leL a b || leL b a) = true := by
  rcases List.le_total a b with h | h
  · simp [leL, h]
  · simp [leL, h]
theorem leL_antisymm {a b : Row} (h : leL a b = true) (g : leL b a = true) : a = b := List.le_antisymm (of_decide_eq_true h) (of_decide_eq_true g)
def srtI (x : Row) : List Row → List Row
  | [] => [x]
  | y :: l => if leL x y = true then x :: y :: l else y :: srtI x l
/-- by insertion: the kernel can run it -/
def srt : List Row → List Row
  | [] => []
  | x :: l => srtI x (srt l)
theorem srtI_perm (x : Row) : ∀ l : List Row, (srtI x l).Perm (x :: l)
  | [] => .refl _
  | y :: l => by
    unfold srtI
    split
    · exact .refl _
    · exact ((srtI_perm x l).cons y).trans (.swap x y l)
theorem srt_perm : ∀ l : List Row, (srt l).Perm l
  | [] => .refl _
  | x :: l => (srtI_perm x (srt l)).trans ((srt_perm l).cons x)
theorem srtI_ord (x : Row) : ∀ l : List Row, (l.Pairwise fun a b => leL a b = true) → (srtI x l).Pairwise fun a b => leL a b = true
  | [], _ => List.pairwise_singleton _ _
  | y :: l, h => by
    unfold srtI
    obtain ⟨h1, h2⟩ := List.pairwise_cons.mp h
    split
    · rename_i hx
      exact List.pairwise_cons.mpr ⟨fun z hz => by
        rcases List.mem_cons.mp hz with rfl | hz
        · exact hx
        · exact leL_trans _ _ _ hx (h1 z hz), h⟩
    · rename_i hx
      refine List.pairwise_cons.mpr ⟨fun z hz => ?_, srtI_ord x l h2⟩
      rcases List.mem_cons.mp ((srtI_perm x l).mem_iff.mp hz) with rfl | hz
      · have := leL_total z y
        rw [Bool.or_eq_true] at this
        rcases this with t | t
        · exact absurd t hx
        · exact t
      · exact h1 z hz
theorem srt_ord : ∀ l : List Row, (srt l).Pairwise fun a b => leL a b = true
  | [] => .nil
  | x :: l => srtI_ord x _ (srt_ord l)
/-- rows in order are told by what they hold -/
theorem ord_eq : ∀ {a b : List Row}, a.Perm b → (a.Pairwise fun x y => leL x y = true) → (b.Pairwise fun x y => leL x y = true) → a = b
  | [], b, p, _, _ => (List.Perm.nil_eq p)
  | x :: a, [], p, _, _ => by
    have := p.length_eq
    simp at this
  | x :: a, y :: b, p, h, g => by
    rw [List.pairwise_cons] at h g
    have e : x = y := by
      rcases List.mem_cons.mp (p.mem_iff.mp List.mem_cons_self) with z | z
      · exact z
      rcases List.mem_cons.mp (p.mem_iff.mpr List.mem_cons_self) with z' | z'
      · exact z'.symm
      exact leL_antisymm (h.1 y z') (g.1 x z)
    subst e
    rw [ord_eq (List.Perm.cons_inv p) h.2 g.2]
theorem srt_of {a b : List Row} (p : a.Perm b) (h : a.Pairwise fun x y => leL x y = true) : a = srt b := ord_eq (p.trans (srt_perm b).symm) h (srt_ord b)
def uniq {α : Type} [DecidableEq α] : List α → List α
  | [] => []
  | a :: l => if a ∈ l then uniq l else a :: uniq l
theorem mem_uniq {α : Type} [DecidableEq α] {x : α} : ∀ {l : List α}, x ∈ uniq l ↔ x ∈ l
  | [] => Iff.rfl
  | a :: l => by
    unfold uniq
    by_cases h : a ∈ l
    · rw [if_pos h, mem_uniq (l := l), List.mem_cons]
      exact ⟨.inr, fun z => z.elim (fun e => by rw [e]; exact h) id⟩
    · rw [if_neg h, List.mem_cons, List.mem_cons, mem_uniq (l := l)]
theorem nodup_uniq {α : Type} [DecidableEq α] : ∀ l : List α, (uniq l).Nodup
  | [] => List.nodup_nil
  | a :: l => by
    unfold uniq
    by_cases h : a ∈ l
    · rw [if_pos h]; exact nodup_uniq l
    · rw [if_neg h]; exact List.nodup_cons.mpr ⟨fun z => h (mem_uniq.mp z), nodup_uniq l⟩
theorem nodup_len {α : Type} [DecidableEq α] : ∀ {l m : List α}, l.Nodup → (∀ x ∈ l, x ∈ m) → l.length ≤ m.length
  | [], m, _, _ => Nat.zero_le _
  | x :: l, m, h, s => by
    rw [List.nodup_cons] at h
    have hx : x ∈ m := s x List.mem_cons_self
    have ih := nodup_len (m := m.erase x) h.2 fun y hy => by
      have ne : y ≠ x := fun e => h.1 (by rw [← e]; exact hy)
      exact (List.mem_erase_of_ne ne).mpr (s y (List.mem_cons_of_mem _ hy))
    have e := List.length_erase_of_mem hx
    have p : 0 < m.length := List.length_pos_of_mem hx
    rw [List.length_cons]
    omega
theorem perm_lift {α β : Type} {f : α → β} : ∀ {xs ys : List β}, xs.Perm ys → ∀ {l : List α}, ys = l.map f → ∃ m : List α, m.Perm l ∧ xs = m.map f := by
  intro xs ys p
  induction p with
  | nil =>
    intro l h
    cases l with
    | nil => exact ⟨[], .nil, rfl⟩
    | cons _ _ => cases h
  | cons x p ih =>
    intro l h
    cases l with
    | nil => cases h
    | cons a l =>
      rw [List.map_cons] at h
      cases h
      obtain ⟨m, h1, h2⟩ := ih rfl
      exact ⟨a :: m, h1.cons a, by rw [List.map_cons, h2]⟩
  | swap x y t =>
    intro l h
    match l, h with
    | a :: b :: l, h =>
      rw [List.map_cons, List.map_cons] at h
      cases h
      exact ⟨b :: a :: l, .swap _ _ _, rfl⟩
  | trans p q ihp ihq =>
    intro l h
    obtain ⟨m, h1, h2⟩ := ihq h
    obtain ⟨n, h3, h4⟩ := ihp h2
    exact ⟨n, h3.trans h1, h4⟩
/-! ### data: tuples of numbers -/
abbrev itup (ns : Row) : D := .tup (ns.map D.int)
def asTups : List D → Option (List Row)
  | [] => some []
  | .tup l :: r => (match asInts l, asTups r with
    | some ns, some rs => if ns = [] then none else some (ns :: rs)
    | _, _ => none)
  | _ => none
theorem asTups_ok : ∀ {l : List D} {ls : List Row}, asTups l = some ls → l = ls.map itup ∧ ∀ ns ∈ ls, ns ≠ []
  | [], ls, h => by cases h; exact ⟨rfl, fun _ z => by simp at z⟩
  | d :: l, ls, h => by
    cases d with
    | tup m =>
      simp only [asTups] at h
      split at h
      · rename_i ns rs h1 h2
        split at h
        · cases h
        · rename_i hne
          cases h
          obtain ⟨e1, e2⟩ := asTups_ok h2
          rw [asInts_ok h1, e1]
          refine ⟨rfl, fun x hx => ?_⟩
          rcases List.mem_cons.mp hx with rfl | hx
          · exact hne
          · exact e2 x hx
      · cases h
    | _ => cases h
section
variable {X : Cx} {W : Wi} {pos : Pos} {pins : List (Addr × Obj)} {σ : L2.St} {io N : List Addr} {H : Hp} {s : Shared} {st : Store} {k : Nat}
theorem tup_pairs : ∀ {ls : List Row} {xs : List V}, Reps X.kw io N H (ls.map itup) xs → ∃ bs : List (V × Row), bs.map (·.1) = xs ∧ bs.map (·.2) = ls ∧ ∀ b ∈ bs, Rep X.kw io N H (itup b.2) b.1
  | [], _, h => by cases h; exact ⟨[], rfl, rfl, fun _ z => by simp at z⟩
  | n :: ls, _, h => by
    obtain ⟨v, ys, rfl, a, b⟩ := h
    obtain ⟨bs, e1, e2, e3⟩ := tup_pairs b
    refine ⟨(v, n) :: bs, by rw [List.map_cons, e1], by rw [List.map_cons, e2], fun z hz => ?_⟩
    rcases List.mem_cons.mp hz with rfl | hz
    · exact a
    · exact e3 z hz
theorem reps_pairs : ∀ {bs : List (V × Row)}, (∀ b ∈ bs, Rep X.kw io N H (itup b.2) b.1) → Reps X.kw io N H ((bs.map (·.2)).map itup) (bs.map (·.1))
  | [], _ => rfl
  | b :: bs, h => ⟨_, _, rfl, h b List.mem_cons_self, reps_pairs fun z hz => h z (List.mem_cons_of_mem _ hz)⟩
theorem tup_sq {ns : Row} {v : V} (r : Rep X.kw io N H (itup ns) v) : ∃ t, v = .ref t ∧ SqT X.K H t (ns.map V.int) := by
  obtain ⟨p, xs, rfl, c, q⟩ := tup_ok r
  have := q.ints
  subst this
  exact ⟨p, rfl, c⟩
theorem reads_ints {h : Heap} : ∀ {ns : Row} {us : List Value}, Vals (ns.map V.int) us → PySem.ReadsAll h us (ns.map PyData.int) []
  | [], _, .nil => .nil
  | n :: ns, _, .cons r t => by
    obtain ⟨tk, rfl⟩ := r
    exact PySem.ReadsAll.cons (as := []) (bs := []) (.int n tk) (reads_ints t)
theorem reads_tup {ns : Row} {v : V} {u : Value} (I : Inv X pins σ H s) (r : Rep X.kw io N H (itup ns) v) (rv : RelV v u) : PySem.Reads s.heap u (.tuple (ns.map PyData.int)) [] := by
  obtain ⟨t, rfl, c⟩ := tup_sq r
  cases rv
  obtain ⟨its, rr, ⟨o, ho, hc, n, hd⟩, _⟩ := I.tuple c
  exact .tuple ho hc hd (by simpa using reads_ints rr)
theorem dataLe_tup : PySem.W.dataLe false (fun b : V × Row => PyData.tuple (b.2.map PyData.int)) = fun p q => leL p.2 q.2 := by
  funext p q
  show (!PySem.W.dataLt (.tuple (q.2.map .int)) (.tuple (p.2.map .int))) = _
  have e : PySem.W.dataLt (.tuple (q.2.map .int)) (.tuple (p.2.map .int)) = decide (q.2 < p.2) := by
    rw [← PySem.W.dataLt_ints]
    rfl
  rw [e]
  unfold leL
  by_cases h : q.2 < p.2
  · have h' : ¬ p.2 ≤ q.2 := fun r => List.not_lt.mpr r h
    simp [h, h']
  · have h' : p.2 ≤ q.2 := List.not_lt.mp h
    simp [h, h']
theorem each_vals : ∀ {us : List Value} {bs : List (V × Row)}, PySem.W.EachIs (fun u (b : V × Row) => RelV b.1 u) us bs → Vals (bs.map (·.1)) us
  | _, _, .nil => .nil
  | _, _, .cons r t => .cons r (each_vals t)
open PySem.W (EachIs each_mem list_sort_data AllAlike alike_ints depth_ints) in
open PyProof.Rows (seqObj) in
/-- sorted(x), whatever x is, its items being tuples of numbers -/
theorem sorted_col {arg : Value} {bs : List (V × Row)} {Q : VK} (I : Inv X pins σ H s) (hb : ∀ b ∈ bs, b.2 ≠ [] ∧ Rep X.kw io N H (itup b.2) b.1) (hL : bs.length ≤ 1000000) (hu : X.A.units + 65 < cLine)
    (hcol : ∀ R : List Value → Shared → Prop, (∀ s1 vs bs', Inv X pins σ H s1 → bs'.Perm bs → EachIs (fun u b => RelV b.1 u) vs bs' → R vs s1) → wpAny (model X.prog X.w) X.A.in1 (collect arg) R X.xe s)
    (q : ∀ (p : Addr) (bs2 : List (V × Row)), bs2.Perm bs → (bs2.Pairwise fun a b => leL a.2 b.2 = true) → H p = none → Q (.ref p) (upd H p (.lst (bs2.map (·.1))))) :
    wpAny (model X.prog X.w) X.A (call (.builtin "sorted") [arg]) (EP X pins σ Q) X.xe s := by
  refine Calls.call_function_entry PyProof.Rows.kind_sorted PyProof.Rows.plain_sorted PyProof.Rows.entry_sorted (PyProof.Rows.args_sorted1 _) ?_
  unfold Builtin.«sorted»
  refine wpAny_bind (m := checkCount "sorted" 1 1 _) (wpAny_pure (wpAny_bind (hcol _ fun s1 vs bs' I1 pm ea => ?_)))
  have hlen : vs.length = bs.length := by rw [ea.length, pm.length_eq]
  refine wpAny_bind (wpAny_newList ?_ (by rw [hlen, sizeLine_eq]; omega))
  have I2 : Inv X pins σ H { s1 with heap := s1.heap.push (seqObj "list" vs.toArray 0) } := I1.kept (t' := s1.toks) fun b u e => Heap.get?_push_of_some _ e
  have hoL : (s1.heap.push (seqObj "list" vs.toArray 0)).get? s1.heap.objs.size = some (seqObj "list" vs.toArray 0) := Heap.get?_push_size _ rfl
  have er : EachIs (fun v (b : V × Row) => ∃ as, PySem.Reads (s1.heap.push (seqObj "list" vs.toArray 0)) v (PyData.tuple (b.2.map PyData.int)) as ∧ s1.heap.objs.size ∉ as) vs bs' := by
    refine (each_mem ea).mono fun v b hh => ⟨[], reads_tup I2 (hb b (pm.mem_iff.mp hh.2)).2 hh.1, by simp⟩
  refine wpAny_bind (wpAny_holding (list_sort_data (s := { s1 with heap := s1.heap.push (seqObj "list" vs.toArray 0) }) hoL ea er (AllAlike.of fun b b' => alike_ints _ _) (.inl fun d hd => ?_) (by rw [pm.length_eq, sizeLine_eq]; omega) (fun b hb2 => ?_) fun out hol eo => ?_))
  · obtain ⟨b, hbm, rfl⟩ := List.mem_map.mp hd
    have hne := (hb b (pm.mem_iff.mp hbm)).1
    cases h : b.2 with
    | nil => exact absurd h hne
    | cons x r => exact ⟨_, _, rfl⟩
  · have : (PyData.tuple (b.2.map PyData.int)).depth = 1 := by
      show PyData.depthAll (b.2.map PyData.int) + 1 = 1
      rw [depth_ints]
    have e2 : X.A.in1.units = X.A.units + 1 := rfl
    omega
  · rw [dataLe_tup] at eo
    obtain ⟨ep, he'⟩ := PyProof.Rows.sortedHeap_at (vs := vs) (out := out.toArray) hoL
    have p2 : (bs'.mergeSort fun p q => leL p.2 q.2).Perm bs := (List.mergeSort_perm _ _).trans pm
    have hv : Vals ((bs'.mergeSort fun p q => leL p.2 q.2).map (·.1)) out := by
      exact each_vals eo
    have hz : ((bs'.mergeSort fun p q => leL p.2 q.2).map (·.1)).length ≤ sizeLine := by rw [List.length_map, p2.length_eq, sizeLine_eq]; omega
    refine wpAny_pure ⟨_, rfl, .ref s1.heap.objs.size, upd H s1.heap.objs.size (.lst ((bs'.mergeSort fun p q => leL p.2 q.2).map (·.1))), I1.laid (t' := s1.toks) (fun b u e => ?_) (Nat.le_refl _) ⟨hz, out, ep, hv, he'⟩, rfl, q _ _ p2 (List.pairwise_mergeSort (le := fun p q : V × Row => leL p.2 q.2) (fun a b c => leL_trans a.2 b.2 c.2) (fun a b => leL_total a.2 b.2) bs') (I1.hok.fresh (Nat.le_refl _))⟩
    have lt : b < s1.heap.objs.size := Heap.lt_size e
    rw [PyProof.Rows.sortedHeap_old (Nat.ne_of_lt lt) (by rw [PyProof.Rows.size_push']; exact Nat.lt_succ_of_lt lt)]
    exact Heap.get?_push_of_some _ e
end
end Rf
namespace Rf
set_option autoImplicit false
open PySem PySem.Spec L2
open PySem.W (EachIs)

section
variable {X : Cx} {W : Wi} {pos : Pos} {pins : List (Addr × Obj)} {σ : L2.St} {io N : List Addr} {H : Hp} {s : Shared} {st : Store} {k : Nat}
/-- what sorted gives -/
theorem srt_reps {bs bs2 : List (V × Row)} (hb : ∀ b ∈ bs, Rep X.kw io N H (itup b.2) b.1) (pm : bs2.Perm bs) (hs : bs2.Pairwise fun a b => leL a.2 b.2 = true) : Reps X.kw io N H ((srt (bs.map (·.2))).map itup) (bs2.map (·.1)) := by
  have e : bs2.map (·.2) = srt (bs.map (·.2)) := srt_of (pm.map (·.2)) (List.pairwise_map.mpr hs)
  rw [← e]
  exact reps_pairs fun b h => hb b (pm.mem_iff.mp h)
theorem each_of_vals : ∀ {bs : List (V × Row)} {us : List Value}, Vals (bs.map (·.1)) us → EachIs (fun u (b : V × Row) => RelV b.1 u) us bs
  | [], _, .nil => .nil
  | _ :: _, _, .cons r t => .cons r (each_of_vals t)
/-- collecting a dict's keys -/
theorem collect_dN {a : Addr} {ys : List (NestedKey × Addr × Value)} {A : Around} {R : List Value → Shared → Prop} {E : Value → Shared → Prop} (hh : A.handled = none) (lo : (a == sysModules) = false) (dd : s.heap.DictOfH (nestedKind X.prog X.w) a ys) (hz : ys.length ≤ 1000000)
    (h : ∀ h' tk, (∀ b o, s.heap.get? b = some o → h'.get? b = some o) → R (ys.map fun y => Value.ref y.2.1) { s with heap := h', toks := tk }) : wpAny (model X.prog X.w) A (collect (.ref a)) R E s := by
  obtain ⟨es, ep, hr, hs, he⟩ := dd.raw
  refine PySem.W.kdu_collect (KdlSrc.rawDict (es := es) (ep := ep) lo) hh hr (by rw [hs, sizeLine_eq]; omega) fun h' tk acc k ha => ?_
  have e : acc.toList = ys.map fun y => Value.ref y.2.1 := by
    apply List.ext_getElem?
    intro i
    rw [List.getElem?_map]
    by_cases hi : i < es.size
    · obtain ⟨y, h1, h2, _⟩ := he i hi
      have hi2 : i < acc.toList.length := by rw [Array.length_toList, ha.1]; exact hi
      obtain ⟨_, e2⟩ := ha.2 i acc.toList[i] (by rw [← Array.getElem?_toList, List.getElem?_eq_getElem hi2])
      rw [List.getElem?_eq_getElem hi2, e2, h2, h1]
      rfl
    · rw [List.getElem?_eq_none (by rw [Array.length_toList, ha.1]; omega), List.getElem?_eq_none (by omega)]
      rfl
  rw [e]
  exact h h' tk k
def srtM : FM := fun ds st => match ds with
  | [d] => (match lof d st with
    | some l => (match asTups l with
      | some ls => if small ls.length = true then .ok (.fl ((srt ls).map itup)) st else .fail
      | none => .fail)
    | none => (match dnOf d st with
      | some l => (match asTups (l.map (·.1)) with
        | some ls => .ok (.fl ((srt ls).map itup)) st
        | none => .fail)
      | none => .fail))
  | _ => .fail
def rSrt (X : Cx) : List V → Hp → VK → Prop := fun xs H Q => ∃ (io N : List Addr) (st : Store) (d : D) (v : V) (Y : XK), xs = [v] ∧ RSt X.kw io N H st ∧ Rep X.kw io N H d v ∧ Post X.kw rD io N H (srtM [d] st) Q Y
theorem cal_srt : CalM X.kw (rSrt X) srtM := by
  intro io N H vs ds st Q Y S r p
  match ds, r with
  | [d], ⟨v, _, e1, r1, e2⟩ =>
    subst e2 e1
    exact ⟨io, N, st, d, v, Y, rfl, S, r1, p⟩
  | [], _ => exact p.elim
  | _ :: _ :: _, _ => exact p.elim
theorem key_pairs : ∀ {l : List (D × D)} {xs : List (NestedKey × Addr × V)} {ys : List (NestedKey × Addr × Value)} {ls : List Row}, RepN X.kw io N H l xs → PX xs ys → l.map (·.1) = ls.map itup → ∃ bs : List (V × Row), bs.map (·.2) = ls ∧ (∀ b ∈ bs, Rep X.kw io N H (itup b.2) b.1) ∧ EachIs (fun u (b : V × Row) => RelV b.1 u) (ys.map fun y => Value.ref y.2.1) bs
  | [], _, _, ls, r, p, h => by
    cases r
    cases p
    cases ls with
    | nil => exact ⟨[], rfl, fun _ z => by simp at z, .nil⟩
    | cons _ _ => cases h
  | d :: l, _, _, ls, r, p, h => by
    obtain ⟨kk, q, v, zs, rfl, _, a, b, c⟩ := r
    cases p with
    | @cons _ y _ ys2 e t =>
      cases ls with
      | nil => cases h
      | cons n ls =>
        rw [List.map_cons, List.map_cons] at h
        obtain ⟨h1, h2⟩ := List.cons.inj h
        obtain ⟨bs, g1, g2, g3⟩ := key_pairs c t h2
        refine ⟨(.ref q, n) :: bs, by rw [List.map_cons, g1], fun z hz => ?_, .cons ?_ g3⟩
        · rcases List.mem_cons.mp hz with rfl | hz
          · rw [h1] at a; exact a
          · exact g2 z hz
        · obtain ⟨_, e2, _⟩ := e
          show Value.ref y.2.1 = Value.ref q
          rw [← e2]
theorem cr_srt (hc : X.calm = true) (hu : X.A.units + 65 < cLine) : CallR X (.builtin "sorted") (rSrt X) := by
  rintro pins s σ H xs us Q I r ⟨io, N, st, d, v, Y, rfl, S, rd, p⟩
  have fin : ∀ {bs : List (V × Row)}, (∀ b ∈ bs, Rep X.kw io N H (itup b.2) b.1) → Post X.kw rD io N H (.ok (.fl ((srt (bs.map (·.2))).map itup)) st) Q Y → ∀ (q : Addr) (bs2 : List (V × Row)), bs2.Perm bs → (bs2.Pairwise fun a b => leL a.2 b.2 = true) → H q = none → Q (.ref q) (upd H q (.lst (bs2.map (·.1)))) := fun hb p q bs2 pm hs hq => post_fl p S (srt_reps hb pm hs) q hq
  unfold srtM at p
  cases hl : lof d st with
  | some l =>
    simp only [hl] at p
    cases ht : asTups l with
    | none => simp only [ht] at p; exact p.elim
    | some ls =>
      simp only [ht] at p
      obtain ⟨hsm, p⟩ := post_if p
      obtain ⟨rfl, hne⟩ := asTups_ok ht
      obtain ⟨a, xs, rfl, c, rr⟩ := lof_ok S rd hl
      rw [Vals.ref1 r]
      obtain ⟨bs, e1, e2, e3⟩ := tup_pairs rr
      obtain ⟨its, rv, hT, hz⟩ := I.list c
      subst e1 e2
      have hlen : bs.length ≤ 1000000 := by
        have := Nat.le_of_ble_eq_true hsm
        simpa using this
      refine sorted_col (bs := bs) I (fun b hb => ⟨hne _ (List.mem_map.mpr ⟨b, hb, rfl⟩), e3 b hb⟩) hlen hu (fun R hR => ?_) (fin e3 p)
      refine PyProof.Rows.collect_list hT.isList ?_ (by rw [← rv.length]; simpa using hz)
      have key := hR { s with heap := (s.heap.push (PyProof.Rows.seqObj "list" #[] 0)).update s.heap.objs.size (Obj.mapSeq (· ++ its.toArray)) } its bs (I.kept (t' := s.toks) fun b u e => by
        rw [Heap.get?_update_ne _ _ _ _ (Nat.ne_of_lt (Heap.lt_size e))]
        exact Heap.get?_push_of_some _ e) (List.Perm.refl _) (each_of_vals rv)
      simpa using key
  | none =>
    simp only [hl] at p
    cases hd : dnOf d st with
    | none => simp only [hd] at p; exact p.elim
    | some l =>
      simp only [hd] at p
      cases ht : asTups (l.map (·.1)) with
      | none => simp only [ht] at p; exact p.elim
      | some ls =>
        simp only [ht] at p
        obtain ⟨e0, hne⟩ := asTups_ok ht
        obtain ⟨n, a, xs, rfl, hst, rfl, hio, hH, rN⟩ := dnOf_ok S rd hd
        rw [Vals.ref1 r]
        obtain ⟨g1, g2, ys, pp, dd⟩ := dic_raw I hH rN
        obtain ⟨bs, e2, e3, e4⟩ := key_pairs rN pp e0
        subst e2
        have hl2 : bs.length = l.length := by
          have := congrArg List.length e0
          simpa using this.symm
        have ly : ys.length ≤ 1000000 := by rw [← Paired.length pp]; exact g1
        refine sorted_col (bs := bs) I (fun b hb => ⟨hne _ (List.mem_map.mpr ⟨b, hb, rfl⟩), e3 b hb⟩) (by rw [hl2, ← dic_len rN]; exact g1) hu (fun R hR => ?_) (fin e3 p)
        exact collect_dN (A := X.A.in1) (I.ok.hd hc) g2 dd ly fun h' tk kp => hR { s with heap := h', toks := tk } _ bs (I.kept kp) (List.Perm.refl _) e4
/-! ### sorted(set(xs)) -/
def fewB (ls : List Row) : Bool := Nat.blt (uniq ls).length 63
def srtSet (a : EM D) : EM D := fun l st => (a l st).bind fun d st1 => match lof d st1 with
  | some xs => (match asTups xs with
    | some ls => if fewB ls = true then .ok (.fl ((srt (uniq ls)).map itup)) st1 else .fail
    | none => .fail)
  | none => .fail
theorem ref_pairs : ∀ {bs : List (V × Row)}, (∀ b ∈ bs, Rep X.kw io N H (itup b.2) b.1) → ∃ ks : List (Addr × Row), ks.map (fun p => V.ref p.1) = bs.map (·.1) ∧ ks.map (·.2) = bs.map (·.2) ∧ ∀ p ∈ ks, Rep X.kw io N H (itup p.2) (.ref p.1)
  | [], _ => ⟨[], rfl, rfl, fun _ z => by simp at z⟩
  | b :: bs, h => by
    obtain ⟨t, e, _⟩ := tup_sq (h b List.mem_cons_self)
    obtain ⟨ks, e1, e2, e3⟩ := ref_pairs fun z hz => h z (List.mem_cons_of_mem _ hz)
    refine ⟨(t, b.2) :: ks, by rw [List.map_cons, List.map_cons, e1, e], by rw [List.map_cons, List.map_cons, e2], fun p hp => ?_⟩
    rcases List.mem_cons.mp hp with rfl | hp
    · have := h b List.mem_cons_self
      rw [e] at this
      exact this
    · exact e3 p hp
def tSrtSet (X : Cx) (ta : TE) : TE := fun σ H Q => ta σ H fun x H1 => ∃ (io N : List Addr) (st : Store) (d : D) (xs : List D) (ls : List Row), RSt X.kw io N H1 st ∧ Rep X.kw io N H1 d x ∧ lof d st = some xs ∧ asTups xs = some ls ∧ fewB ls = true ∧
  ∀ (q : Addr) (ys : List V), Reps X.kw io N H1 ((srt (uniq ls)).map itup) ys → H1 q = none → Q (.ref q) (upd H1 q (.lst ys))
theorem vals_refs : ∀ (ks : List (Addr × Row)) (us : List Value), Vals (ks.map fun p => V.ref p.1) us → us = ks.map fun p => Value.ref p.1
  | [], _, .nil => rfl
  | p :: ks, _, .cons r t => by
    cases r
    rw [vals_refs ks _ t, List.map_cons]
theorem each_refs : ∀ (L : List (Addr × Row)), EachIs (fun u (b : V × Row) => RelV b.1 u) (L.map fun p => Value.ref p.1) (L.map fun p => ((V.ref p.1, p.2) : V × Row))
  | [] => .nil
  | p :: L => .cons rfl (each_refs L)
theorem pe_srtSet {a : Expr} {ta : TE} {p p2 q pos : Pos} (hc : X.calm = true) (hu : X.A.units + 65 < cLine) (hg : Gl X "sorted") (hm : X.mg "sorted" = none) (hg2 : Gl X "set") (hm2 : X.mg "set" = none) (ha : PE X a ta)
    (na : starEach [a] X.env = (false, eval a X.env) :: starEach [] X.env) : PE X (.Call (.Name "sorted" p) [.Call (.Name "set" p2) [a] [] q] [] pos) (tSrtSet X ta) := by
  refine ⟨fun pins s σ H Q I h => ?_⟩
  refine PyProof.Rows.Call_ (ld_blt I hg hm PyProof.Rows.boot_sorted (PyProof.Rows.callWith_builtin1 (PyProof.Rows.args_cons ?_ rfl) rfl rfl))
  refine PyProof.Rows.Call_ (ld_blt I hg2 hm2 PyProof.Rows.boot_set (PyProof.Rows.callWith_type1 (PyProof.Rows.args_cons (thn (ha.run pins s σ H _ I h) fun v s1 ⟨x, H1, I1, r1, hh⟩ => PyProof.Rows.args_nil ?_) na) na rfl))
  obtain ⟨io, N, st, d, xs, ls, S, rd, hl, ht, hf, qq⟩ := hh
  obtain ⟨rfl, hne⟩ := asTups_ok ht
  obtain ⟨l, xs, rfl, c, rr⟩ := lof_ok S rd hl
  cases r1
  obtain ⟨bs, e1, e2, e3⟩ := tup_pairs rr
  obtain ⟨ks, f1, f2, f3⟩ := ref_pairs e3
  subst e1 e2
  obtain ⟨its, rv, pl, hz⟩ := I1.list c
  have isT : ∀ p ∈ ks, IsT X.prog X.w s1.heap p.2 p.1 := fun p hp => by
    obtain ⟨t, et, ct⟩ := tup_sq (f3 p hp)
    cases et
    exact I1.isT ct
  have few : Few ks := fun L hn hs => Nat.lt_of_le_of_lt (nodup_len hn fun x hx => mem_uniq.mpr (by rw [← f2]; exact hs x hx)) (Nat.ble_eq.mp hf)
  have hrv : its = ks.map fun p => Value.ref p.1 := vals_refs ks its (by rw [f1]; exact rv)
  refine call_set_few (P := X.prog) (w := X.w) (I1.ok.hd hc) pl.isList (by simpa using hrv) isT few (by omega) fun h' tk L es ep t R g kp => PyProof.Rows.args_nil ?_
  have I2 : Inv X pins σ H1 { s1 with heap := h', toks := tk } := I1.kept kp
  have sub : ∀ p ∈ L, p ∈ ks := fun p hp => List.mem_of_mem_take (g.sub p hp)
  have mem : ∀ x, x ∈ L.map (·.2) ↔ x ∈ uniq (bs.map (·.2)) := fun x => by
    rw [mem_uniq, ← f2]
    constructor
    · intro z
      obtain ⟨p, hp, rfl⟩ := List.mem_map.mp z
      exact List.mem_map.mpr ⟨p, sub p hp, rfl⟩
    · intro z
      obtain ⟨p, hp, rfl⟩ := List.mem_map.mp z
      exact g.all p (by rw [List.take_length]; exact hp)
  have pmu : (L.map (·.2)).Perm (uniq (bs.map (·.2))) := (List.perm_ext_iff_of_nodup R.nd (nodup_uniq _)).mpr mem
  have hbs : ∀ b ∈ L.map (fun p => ((V.ref p.1, p.2) : V × Row)), b.2 ≠ [] ∧ Rep X.kw io N H1 (itup b.2) b.1 := fun b hb => by
    obtain ⟨p, hp, rfl⟩ := List.mem_map.mp hb
    exact ⟨hne p.2 (by rw [← f2]; exact List.mem_map.mpr ⟨p, sub p hp, rfl⟩), f3 p (sub p hp)⟩
  have e2 : (L.map (fun p => ((V.ref p.1, p.2) : V × Row))).map (·.2) = L.map (·.2) := by rw [List.map_map]; rfl
  refine sorted_col (bs := L.map fun p => (V.ref p.1, p.2)) I2 hbs (by rw [List.length_map]; have := R.few; omega) hu (fun R2 hR => ?_) fun q bs2 pm hs hq => ?_
  · obtain ⟨o, ho, hex, hd⟩ := R.ob
    refine collect_set (A := X.A.in1) (I2.ok.hd hc) ⟨o, ho, hex.1, hd⟩ (SetTR.fits (s := { s1 with heap := h', toks := tk }) R) (by have h1 := SetTR.size (s := { s1 with heap := h', toks := tk }) R; have h2 := R.few; unfold scanBound; omega) R.tab.ris R.led fun s3 vs k1 hz2 g1 o1 pm => ?_
    have I3 : Inv X pins σ H1 s3 := I2.call' (ch := []) o1 (Un.kept k1) (I2.hok.kept k1) (by rw [g1]; exact I2.bare) (fun _ z => nomatch z)
    have hes : es.toList.map (·.2) = L.map fun q => Value.ref q.1 := by
      rw [R.rows]
      unfold rowsOf
      rw [List.map_map]
      rfl
    rw [hes] at pm
    obtain ⟨L2, pL, eL⟩ := perm_lift pm rfl
    rw [eL]
    exact hR s3 _ (L2.map fun p => (V.ref p.1, p.2)) I3 (pL.map _) (each_refs L2)
  · have e3 : srt ((L.map (fun p => ((V.ref p.1, p.2) : V × Row))).map (·.2)) = srt (uniq (bs.map (·.2))) := by
      rw [e2]
      exact srt_of ((srt_perm _).trans pmu) (srt_ord _)
    have := srt_reps (fun b hb => (hbs b hb).2) pm hs
    rw [e3] at this
    exact qq q _ this hq
theorem me_srtSet {a : Expr} {ma : EM D} {p p2 q pos : Pos} (c : Ctx X W k) (hm : X.mg "sorted" = none) (hm2 : X.mg "set" = none) (ha : ME X W a ma) (hg : Gl X "sorted" := by rfl) (hg2 : Gl X "set" := by rfl)
    (na : starEach [a] X.env = (false, eval a X.env) :: starEach [] X.env := by rfl) : ME X W (.Call (.Name "sorted" p) [.Call (.Name "set" p2) [a] [] q] [] pos) (srtSet ma) := by
  obtain ⟨t1, p1, q1⟩ := ha
  refine ⟨_, pe_srtSet c.calm (un65 c) hg hm hg2 hm2 p1 na, fun io N H s l st Q hl hs p => ?_⟩
  refine q1.seq hl hs p fun io1 H1 d v st1 e1 S1 r1 p => ?_
  split at p
  · rename_i xs hx
    split at p
    · rename_i ls hls
      obtain ⟨hf, p⟩ := post_if p
      exact ⟨io1, N, st1, d, xs, ls, S1, r1, hx, hls, hf, fun q ys ry hq => post_fl p S1 ry q hq⟩
    · exact p.elim
  · exact p.elim
end
end Rf
namespace Rf
set_option autoImplicit false
open PySem PySem.Spec L2

section
variable {K : KW} {X : Cx} {W : Wi} {pos : Pos} {k : Nat}
/-! ### comprehensions of two clauses -/
def lc2Go (s : Src) (t : T) (c : EM Bool) (it1 : EM Src) (t1 : T) (c1 : EM Bool) (el : EM D) (vs1 : List Nat) (l : Sl) : Nat → List D → Store → Rz (List D)
  | _, [], st => if s.chk st = true then .ok [] st else .fail
  | n, d :: r, st => if s.chk st = true then (match t.put d l with
    | none => .fail
    | some l1 => (c l1 st).nox.bind fun b st1 => if b = true then (it1 l1 st1).nox.bind fun s1 st2 => (if small (n + s1.items.length) = true then (lcGo s1 t1 c1 el (wipeD l1 vs1) s1.items st2).bind fun es st3 => (lc2Go s t c it1 t1 c1 el vs1 l (n + s1.items.length) r st3).bind fun es' st4 => .ok (es ++ es') st4 else .fail) else lc2Go s t c it1 t1 c1 el vs1 l n r st1) else .fail
def lcM2 (it : EM Src) (t : T) (c : EM Bool) (it1 : EM Src) (t1 : T) (c1 : EM Bool) (el : EM D) (vs vs1 : List Nat) : EM (List D) := fun l st => (it l st).bind fun s st1 => lc2Go s t c it1 t1 c1 el vs1 (wipeD l vs) 0 s.items st1
/-- what is made so far stands at Dl -/
structure Acc (K : KW) (N : List Addr) (Dl : Addr) (n : Nat) (io' : List Addr) (H' : Hp) (st' : Store) (acc : List D) : Prop where
  S : RSt K io' (Dl :: N) H' st'
  nD : Dl ∉ io'
  ex : ∃ xs, H' Dl = some (.lst xs) ∧ Reps K io' (Dl :: N) H' acc xs
  len : acc.length ≤ n
theorem Acc.step {N : List Addr} {Dl : Addr} {n : Nat} {io io' : List Addr} {H H' : Hp} {st st' : Store} {acc : List D} (a : Acc K N Dl n io H st acc) (e : Ext io H io' H') (S : RSt K io' (Dl :: N) H' st') : Acc K N Dl n io' H' st' acc := by
  obtain ⟨xs, h1, h2⟩ := a.ex
  exact ⟨S, e.notin a.nD h1, ⟨xs, e.keep _ _ a.nD h1, h2.mono e⟩, a.len⟩
theorem Acc.mono {N : List Addr} {Dl : Addr} {n m : Nat} {io : List Addr} {H : Hp} {st : Store} {acc : List D} (a : Acc K N Dl n io H st acc) (h : n ≤ m) : Acc K N Dl m io H st acc := ⟨a.S, a.nD, a.ex, Nat.le_trans a.len h⟩
theorem unwipe (W : Wi) {io : List Addr} {H : Hp} {s : St} : ∀ vs : List Nat, W.may vs = true → W.I io H (wipe s vs) → W.I io H s
  | [], _, h => h
  | v :: vs, hp, h => by
    refine unwipe W vs (may_app2 (a := [v]) hp) ?_
    have h : W.I io H ((wipe s vs).set v none) := h
    by_cases hv : v < (wipe s vs).length
    · have z := W.set (o := (wipe s vs)[v]) (Wi.may_of hp (by simp : v ∈ v :: vs)) h
      rw [List.set_set, List.set_getElem_self] at z
      exact z
    · rw [List.set_eq_of_length_le (by omega)] at h
      exact h
theorem REn0.monoS {N io io' : List Addr} {H H' : Hp} (e : ExtS N io H io' H') : ∀ {l : Sl} {s : St}, REn0 K io N H l s → REn0 K io' N H' l s
  | [], _, h => h
  | none :: _, _, h => by obtain ⟨o, r, rfl, q⟩ := h; exact ⟨o, r, rfl, q.monoS e⟩
  | some _ :: _, _, h => by obtain ⟨v, r, rfl, a, q⟩ := h; exact ⟨v, r, rfl, Rep.monoS e _ _ a, q.monoS e⟩
theorem rg_lc2 {wi wi1 : TI} {g g1 : TG} {tt tt1 : TT} {te : TE} {it it1 : EM Src} {t t1 : T} {c c1 : EM Bool} {el : EM D} {vs vs1 : List Nat} (h1 : RG K rI W wi it) (h2 : RT K g t) (h3 : RG K (rE Bool) W.inn tt c) (g1' : RG K rI W.inn wi1 it1) (g2 : RT K g1 t1) (g3 : RG K (rE Bool) W.inn tt1 c1) (h4 : RG K rD W.inn te el) (hv : ∀ i ∈ t.slots, i ∈ vs) (hv1 : ∀ i ∈ t1.slots, i ∈ vs1) (hs1 : ∀ i ∈ vs1, i ∈ vs) (hp : W.may vs = true) :
    RG K rL W (tLc2 wi g tt wi1 g1 tt1 te vs vs1) (lcM2 it t c it1 t1 c1 el vs vs1) := by
  intro io N H s l st Q hl hs p
  refine h1.seq hl hs p fun io1 H1 src J st1 e1 S1 ir p1 => ?_
  have ir : IR K io1 N H1 J src := ir
  intro Dl hD
  have hM : ∀ a ∈ [Dl], H1 a = none := fun a ha => by rw [List.mem_singleton.mp ha]; exact hD
  have hlD : ∀ {io' H'}, Ext io1 H1 io' H' → REnv K W.inn io' (Dl :: N) H' (wipeD l vs) (wipe s vs) := fun ex => (((REnv.inn (hl.mono e1)).shun hD).wipe vs hp).mono ex
  refine ⟨fun i m H' => m = src.items.length - i ∧ i ≤ src.items.length ∧ ∃ n io' st' acc, Ext io1 H1 io' H' ∧ Acc K N Dl n io' H' st' acc ∧
      Post K rL io1 N H1 ((lc2Go src t c it1 t1 c1 el vs1 (wipeD l vs) n (src.items.drop i) st').bind fun es st2 => .ok (acc ++ es) st2) Q (fun c d H' => W.w c d s H'),
    ⟨src.items.length, rfl, Nat.zero_le _, 0, io1, st1, [], Ext.new hD, ⟨S1.fresh hD, S1.out hD, ⟨[], upd_same, rfl⟩, Nat.le_refl _⟩, ?_⟩, ?_⟩
  · have e0 : ((lc2Go src t c it1 t1 c1 el vs1 (wipeD l vs) 0 (src.items.drop 0) st1).bind fun es st2 => .ok ([] ++ es) st2) = lc2Go src t c it1 t1 c1 el vs1 (wipeD l vs) 0 src.items st1 := by
      rw [List.drop_zero]
      exact Rz.bind_ok _
    rw [e0]
    exact p1
  rintro i m H' ⟨rfl, hi, n, io', st', acc, ex, ac, p'⟩
  by_cases hlt : i < src.items.length
  · rw [List.drop_eq_getElem_cons hlt] at p'
    unfold lc2Go at p'
    by_cases hc : src.chk st' = true
    case neg => rw [if_neg hc] at p'; exact p'.elim
    rw [if_pos hc] at p'
    obtain ⟨go, yl⟩ := (ir io' [Dl] H' st' hM ex.s ac.S hc i).1 hlt
    refine .inr ⟨go, fun H2 => ∃ m', m' < src.items.length - i ∧ (m' = src.items.length - (i + 1) ∧ i + 1 ≤ src.items.length ∧ ∃ n io' st' acc, Ext io1 H1 io' H2 ∧ Acc K N Dl n io' H2 st' acc ∧
      Post K rL io1 N H1 ((lc2Go src t c it1 t1 c1 el vs1 (wipeD l vs) n (src.items.drop (i + 1)) st').bind fun es st2 => .ok (acc ++ es) st2) Q (fun c d H' => W.w c d s H')), fun H2 h => h, fun x H2 y => ?_⟩
    obtain ⟨d, ed, rd, ex2, S2⟩ := yl x H2 y
    rw [List.getElem?_eq_getElem hlt] at ed
    cases ed
    cases hpu : t.put src.items[i] (wipeD l vs) with
    | none => rw [hpu] at p'; exact p'.elim
    | some l1 =>
      rw [hpu] at p'
      simp only at p'
      refine h2 W.inn (may_sub hp hv) io' (Dl :: N) H2 _ _ l1 _ x _ (hlD (ex.trans ex2)) rd hpu fun s3 hl3 hw => ?_
      refine ⟨(hw vs hv).trans (wipe_sub vs fun i hi => hi), ?_⟩
      rw [Rz.bind_bind] at p'
      refine h3.inner hl3 S2 p' fun io3 H3 b b' st3 e3 S3 rb p3 => ?_
      obtain rfl : b = b' := rb
      have ex3 := (ex.trans ex2).trans e3
      have ac3 := ac.step (ex2.trans e3) S3
      cases b with
      | false => exact ⟨_, by omega, rfl, hlt, n, io3, st3, acc, ex3, ac3, p3⟩
      | true =>
        rw [if_pos rfl] at p3
        rw [if_pos rfl]
        rw [Rz.bind_bind] at p3
        refine g1'.inner (hl3.mono e3) S3 p3 fun io4 H4 s1 J1 st4 e4 S4 ir1 p4 => ?_
        have ir1 : IR K io4 (Dl :: N) H4 J1 s1 := ir1
        have ex4 := ex3.trans e4
        have ac4 := ac3.step e4 S4
        by_cases hsm : small (n + s1.items.length) = true
        case neg => rw [if_neg hsm] at p4; exact p4.elim
        rw [if_pos hsm] at p4
        have hsm' := Nat.le_of_ble_eq_true hsm
        have hl4 : ∀ {io' H'}, Ext io1 H1 io' H' → ExtS (Dl :: N) io4 H4 io' H' → REnv K W.inn io' (Dl :: N) H' (wipeD l1 vs1) (wipe s3 vs1) := fun {io' H'} eb es => by
          have z := (hlD eb).1
          rw [← wipe_sub vs fun i hi => hi, ← hw vs hv] at z
          exact REnv.wipe (W := W.inn) ⟨unwipe W.inn vs hp z, (hl3.mono (e3.trans e4)).2.monoS es⟩ vs1 (may_sub hp hs1)
        rw [Rz.bind_bind] at p4
        have p4 : Post K rL io1 N H1 ((lcGo s1 t1 c1 el (wipeD l1 vs1) s1.items st4).bind fun es st3 => (lc2Go src t c it1 t1 c1 el vs1 (wipeD l vs) (n + s1.items.length) (src.items.drop (i + 1)) st3).bind fun es' st4 => .ok (acc ++ (es ++ es')) st4) Q (fun c d H' => W.w c d s H') := by
          have e7 : (fun (a : List D) (st : Store) => ((lc2Go src t c it1 t1 c1 el vs1 (wipeD l vs) (n + s1.items.length) (src.items.drop (i + 1)) st).bind fun es' st4 => Rz.ok (a ++ es') st4).bind fun es st2 => Rz.ok (acc ++ es) st2) = fun es st3 => (lc2Go src t c it1 t1 c1 el vs1 (wipeD l vs) (n + s1.items.length) (src.items.drop (i + 1)) st3).bind fun es' st4 => .ok (acc ++ (es ++ es')) st4 := by
            funext a st
            rw [Rz.bind_bind]
            rfl
          rw [← e7]
          exact p4
        refine ⟨fun j k H => k = s1.items.length - j ∧ j ≤ s1.items.length ∧ ∃ io' st' acc, Ext io1 H1 io' H ∧ ExtS (Dl :: N) io4 H4 io' H ∧ Acc K N Dl (n + j) io' H st' acc ∧
          Post K rL io1 N H1 ((lcGo s1 t1 c1 el (wipeD l1 vs1) (s1.items.drop j) st').bind fun es st3 => (lc2Go src t c it1 t1 c1 el vs1 (wipeD l vs) (n + s1.items.length) (src.items.drop (i + 1)) st3).bind fun es' st4 => .ok (acc ++ (es ++ es')) st4) Q (fun c d H' => W.w c d s H'),
          ⟨s1.items.length, rfl, Nat.zero_le _, io4, st4, acc, ex4, Ext.s ⟨⟨[], by simp, by simp⟩, fun _ _ _ z => z, fun _ z => z⟩, ac4, by rw [List.drop_zero]; exact p4⟩, ?_⟩
        rintro j k Hj ⟨rfl, hj, ioj, stj, accj, exj, esj, acj, pj⟩
        by_cases hjl : j < s1.items.length
        · rw [List.drop_eq_getElem_cons hjl] at pj
          unfold lcGo at pj
          by_cases hcj : s1.chk stj = true
          case neg => rw [if_neg hcj] at pj; exact pj.elim
          rw [if_pos hcj] at pj
          obtain ⟨goj, ylj⟩ := (ir1 ioj [] Hj stj (fun a ha => by cases ha) esj acj.S hcj j).1 hjl
          refine .inr ⟨goj, fun H => ∃ k', k' < s1.items.length - j ∧ (k' = s1.items.length - (j + 1) ∧ j + 1 ≤ s1.items.length ∧ ∃ io' st' acc, Ext io1 H1 io' H ∧ ExtS (Dl :: N) io4 H4 io' H ∧ Acc K N Dl (n + (j + 1)) io' H st' acc ∧
            Post K rL io1 N H1 ((lcGo s1 t1 c1 el (wipeD l1 vs1) (s1.items.drop (j + 1)) st').bind fun es st3 => (lc2Go src t c it1 t1 c1 el vs1 (wipeD l vs) (n + s1.items.length) (src.items.drop (i + 1)) st3).bind fun es' st4 => .ok (acc ++ (es ++ es')) st4) Q (fun c d H' => W.w c d s H')), fun H h => h, fun x Hx y => ?_⟩
          obtain ⟨dj, edj, rdj, ex5, S5⟩ := ylj x Hx y
          rw [List.getElem?_eq_getElem hjl] at edj
          cases edj
          cases hpj : t1.put s1.items[j] (wipeD l1 vs1) with
          | none => rw [hpj] at pj; exact pj.elim
          | some l2 =>
            rw [hpj] at pj
            simp only at pj
            have ex5' := exj.trans ex5
            have es5 := esj.trans ex5
            refine g2 W.inn (may_sub (may_sub hp hs1) hv1) ioj (Dl :: N) Hx _ _ l2 _ x _ (hl4 ex5' es5) rdj hpj fun s4 hl5 hw5 => ?_
            refine ⟨(hw5 vs1 hv1).trans (wipe_sub vs1 fun i hi => hi), ?_⟩
            rw [Rz.bind_bind] at pj
            refine g3.inner hl5 S5 pj fun io6 H6 b b' st6 e6 S6 rb p6 => ?_
            obtain rfl : b = b' := rb
            have ac6 := acj.step (ex5.trans e6) S6
            cases b with
            | false => exact ⟨_, by omega, rfl, hjl, io6, st6, accj, ex5'.trans e6, es5.trans e6, ac6.mono (by omega), p6⟩
            | true =>
              rw [if_pos rfl] at p6
              rw [if_pos rfl]
              rw [Rz.bind_bind] at p6
              refine h4.inner (hl5.mono e6) S6 p6 fun io7 H7 d7 v7 st7 e7 S7 r7 p7 => ?_
              have ac7 := ac6.step e7 S7
              obtain ⟨xs, hx, rr⟩ := ac7.ex
              have r7 : Rep K io7 (Dl :: N) H7 d7 v7 := r7
              have S7 : RSt K io7 (Dl :: N) H7 st7 := S7
              refine ⟨xs, hx, by have := ac7.len; rw [rr.len, sizeLine_eq]; omega, ?_⟩
              refine ⟨_, by omega, rfl, hjl, io7, st7, accj ++ [d7], ((ex5'.trans e6).trans e7).trans_own hD, ((es5.trans e6).trans e7).own (List.mem_cons_self), ⟨S7.own ac7.nD, ac7.nD, ⟨xs ++ [v7], upd_same, Reps.own _ _ (rr.app (Reps.one r7))⟩, by have := ac7.len; rw [List.length_append, List.length_singleton]; omega⟩, ?_⟩
              rw [Rz.bind_bind] at p7
              have e8 : (fun (es : List D) (st3 : Store) => (lc2Go src t c it1 t1 c1 el vs1 (wipeD l vs) (n + s1.items.length) (src.items.drop (i + 1)) st3).bind fun es' st4 => Rz.ok ((accj ++ [d7]) ++ (es ++ es')) st4) = fun es st3 => (Rz.ok (d7 :: es) st3).bind fun es st3 => (lc2Go src t c it1 t1 c1 el vs1 (wipeD l vs) (n + s1.items.length) (src.items.drop (i + 1)) st3).bind fun es' st4 => .ok (accj ++ (es ++ es')) st4 := by
                funext es st3
                show _ = (lc2Go src t c it1 t1 c1 el vs1 (wipeD l vs) (n + s1.items.length) (src.items.drop (i + 1)) st3).bind fun es' st4 => Rz.ok (accj ++ (d7 :: es ++ es')) st4
                congr 1
                funext es' st4
                rw [List.append_assoc]
                rfl
              rw [e8]
              exact p7
        · have e9 : j = s1.items.length := by omega
          subst e9
          rw [List.drop_length] at pj
          unfold lcGo at pj
          by_cases hcj : s1.chk stj = true
          case neg => rw [if_neg hcj] at pj; exact pj.elim
          rw [if_pos hcj] at pj
          refine .inl ⟨(ir1 ioj [] Hj stj (fun a ha => by cases ha) esj acj.S hcj _).2 rfl, ?_⟩
          exact ⟨_, by omega, rfl, hlt, n + s1.items.length, ioj, stj, accj, exj, acj, pj⟩
  · have e : i = src.items.length := by omega
    subst e
    rw [List.drop_length] at p'
    unfold lc2Go at p'
    by_cases hc : src.chk st' = true
    case neg => rw [if_neg hc] at p'; exact p'.elim
    rw [if_pos hc] at p'
    obtain ⟨xs, hx, rr⟩ := ac.ex
    refine .inl ⟨(ir io' [Dl] H' st' hM ex.s ac.S hc _).2 rfl, ?_⟩
    have p2 : Post K rL io1 N H1 (.ok (acc ++ []) st') Q (fun c d H' => W.w c d s H') := p'
    rw [List.append_nil] at p2
    exact p2 io' H' (.ref Dl) ex ac.S ⟨Dl, xs, rfl, hD, ac.nD, hx, rr⟩
theorem MI.pi {tg iter : Expr} {it : EM Src} (h : MI X W tg iter it) : PI X tg iter (cE X.kw rI W it) := by
  obtain ⟨t, p, r⟩ := h
  exact ⟨fun pins s σ H Q I ⟨io, N, l, st, hl, hs, q⟩ => p.run pins s σ H Q I (r io N H σ l st Q hl hs q)⟩
section
variable {elt tg iter tg1 iter1 : Expr} {ifs ifs1 : List Expr} {scope : Scope} {it it1 : EM Src} {t t1 : T} {tt tt1 : EM Bool} {el : EM D}
theorem ml_lc2 (own : List (Str × Nat)) (vs1 : List Nat) (c : Ctx X W k) (hi : MI X W tg iter it)
    (hg : ∀ (s : Shared) (H : Hp) (C : Addr) (cl : List (Str × Addr)) (fp : List Addr), MG (X.blk s H scope (compEnvC scope cl C X.env) fp) tg t)
    (ht : ∀ (s : Shared) (H : Hp) (C : Addr) (cl : List (Str × Addr)) (fp : List Addr), MTs (X.blk s H scope (compEnvC scope cl C X.env) fp) W ifs tt)
    (hi1 : ∀ (s : Shared) (H : Hp) (C : Addr) (cl : List (Str × Addr)) (fp : List Addr), Ctx (X.blk s H scope (compEnvC scope cl C X.env) fp) W.inn k → MI (X.blk s H scope (compEnvC scope cl C X.env) fp) W.inn tg1 iter1 it1)
    (hg1 : ∀ (s : Shared) (H : Hp) (C : Addr) (cl : List (Str × Addr)) (fp : List Addr), MG (X.blk s H scope (compEnvC scope cl C X.env) fp) tg1 t1)
    (ht1 : ∀ (s : Shared) (H : Hp) (C : Addr) (cl : List (Str × Addr)) (fp : List Addr), MTs (X.blk s H scope (compEnvC scope cl C X.env) fp) W ifs1 tt1)
    (he : ∀ (s : Shared) (H : Hp) (C : Addr) (cl : List (Str × Addr)) (fp : List Addr), Ctx (X.blk s H scope (compEnvC scope cl C X.env) fp) W.inn k → ME (X.blk s H scope (compEnvC scope cl C X.env) fp) W.inn elt el)
    (ok : blkC X.N X.env.scope scope own = true := by decide +kernel) (hv : ∀ i ∈ t.slots, i ∈ own.map (·.2) := by decide) (hv1 : ∀ i ∈ t1.slots, i ∈ vs1 := by decide) (hs1 : ∀ i ∈ vs1, i ∈ own.map (·.2) := by decide) (hp : W.may (own.map (·.2)) = true := by rfl)
    (hs : ∀ x, foldedSetIterable iter X.env x = pure x := by intro _; rfl) (hs2 : ∀ env x, foldedSetIterable iter1 env x = pure x := by intro _ _; rfl) :
    ML X W (.ListComp elt [⟨tg, iter, ifs, 0⟩, ⟨tg1, iter1, ifs1, 0⟩] scope pos) (lcM2 it t tt it1 t1 tt1 el (own.map (·.2)) vs1) := by
  obtain ⟨wi, p1, q1⟩ := hi
  exact ⟨_, pe_lc2 (g := cG X.kw t) (tt := cE X.kw (rE Bool) W.inn tt) (wi1 := cE X.kw rI W.inn it1) (g1 := cG X.kw t1) (tt1 := cE X.kw (rE Bool) W.inn tt1) (te := cE X.kw rD W.inn el) (vs1 := vs1) c.calm c.nd p1 (blkOk_by ok) hs1 (fun s H C cl fp => (hg s H C cl fp).pg) ht
    (fun s H C cl fp => (hi1 s H C cl fp (c.blk _ _ _ _ _)).pi) (fun s H C cl fp => (hg1 s H C cl fp).pg) ht1 (fun s H C cl fp => (he s H C cl fp (c.blk _ _ _ _ _)).pe) hs hs2, rg_lc2 q1 rt_cG rg_cE rg_cE rt_cG rg_cE rg_cE hv hv1 hs1 hp⟩
theorem ms_setLc2 (i : Nat) {y : Str} {py : Pos} (own : List (Str × Nat)) (vs1 : List Nat) {spos : Pos} {a : EM D} (c : Ctx X W k) (hi : MI X W tg iter it)
    (hg : ∀ (s : Shared) (H : Hp) (C : Addr) (cl : List (Str × Addr)) (fp : List Addr), MG (X.blk s H scope (compEnvC scope cl C X.env) fp) tg t)
    (ht : ∀ (s : Shared) (H : Hp) (C : Addr) (cl : List (Str × Addr)) (fp : List Addr), MTs (X.blk s H scope (compEnvC scope cl C X.env) fp) W ifs tt)
    (hi1 : ∀ (s : Shared) (H : Hp) (C : Addr) (cl : List (Str × Addr)) (fp : List Addr), Ctx (X.blk s H scope (compEnvC scope cl C X.env) fp) W.inn k → MI (X.blk s H scope (compEnvC scope cl C X.env) fp) W.inn tg1 iter1 it1)
    (hg1 : ∀ (s : Shared) (H : Hp) (C : Addr) (cl : List (Str × Addr)) (fp : List Addr), MG (X.blk s H scope (compEnvC scope cl C X.env) fp) tg1 t1)
    (ht1 : ∀ (s : Shared) (H : Hp) (C : Addr) (cl : List (Str × Addr)) (fp : List Addr), MTs (X.blk s H scope (compEnvC scope cl C X.env) fp) W ifs1 tt1)
    (he : ∀ (s : Shared) (H : Hp) (C : Addr) (cl : List (Str × Addr)) (fp : List Addr), Ctx (X.blk s H scope (compEnvC scope cl C X.env) fp) W.inn k → ME (X.blk s H scope (compEnvC scope cl C X.env) fp) W.inn elt el)
    (conv : ∀ te, RG X.kw rL W te (lcM2 it t tt it1 t1 tt1 el (own.map (·.2)) vs1) → RG X.kw rD W te a)
    (hpi : W.may [i] = true := by rfl) (hy : X.N[i]? = some y := by rfl) (hyl : X.env.scope.names.lookup y = some .local := by rfl) (hsw : swapsWith (.ListComp elt [⟨tg, iter, ifs, 0⟩, ⟨tg1, iter1, ifs1, 0⟩] scope pos) (some (.Name y py)) spos.line X.env = pure true := by exact sw_true rfl rfl rfl (by decide +kernel))
    (ok : blkC X.N X.env.scope scope own = true := by decide +kernel) (hv : ∀ i ∈ t.slots, i ∈ own.map (·.2) := by decide) (hv1 : ∀ i ∈ t1.slots, i ∈ vs1 := by decide) (hs1 : ∀ i ∈ vs1, i ∈ own.map (·.2) := by decide) (hp : W.may (own.map (·.2)) = true := by rfl)
    (hs : ∀ x, foldedSetIterable iter X.env x = pure x := by intro _; rfl) (hs2 : ∀ env x, foldedSetIterable iter1 env x = pure x := by intro _ _; rfl) :
    MS X W (.Assign [.Name y py] (.ListComp elt [⟨tg, iter, ifs, 0⟩, ⟨tg1, iter1, ifs1, 0⟩] scope pos) spos) (setM i a) := by
  obtain ⟨wi, p1, q1⟩ := hi
  exact ⟨_, ps_setLc2 (g := cG X.kw t) (tt := cE X.kw (rE Bool) W.inn tt) (wi1 := cE X.kw rI W.inn it1) (g1 := cG X.kw t1) (tt1 := cE X.kw (rE Bool) W.inn tt1) (te := cE X.kw rD W.inn el) (vs1 := vs1) c.calm c.nd hy hyl hsw p1 (blkOk_by ok) hs1 (fun s H C cl fp => (hg s H C cl fp).pg) ht
    (fun s H C cl fp => (hi1 s H C cl fp (c.blk _ _ _ _ _)).pi) (fun s H C cl fp => (hg1 s H C cl fp).pg) ht1 (fun s H C cl fp => (he s H C cl fp (c.blk _ _ _ _ _)).pe) hs hs2, rs_set i hpi (conv _ (rg_lc2 q1 rt_cG rg_cE rg_cE rt_cG rg_cE rg_cE hv hv1 hs1 hp))⟩
end
end
end Rf
namespace Rf
set_option autoImplicit false
open PySem PySem.Spec L2

section
variable {prog : Program} {w : World} {A : Around} {E : Value → Shared → Prop} {s : Shared}
/-- any(x) -/
theorem call_anyJ {x : Value} {Q : Value → Shared → Prop} (h : wpAny (model prog w) A.in1 (pyIter x) (fun it s2 => ∃ (I : Addr) (n : Nat) (J : Nat → Shared → Prop), it = .ref I ∧ J n s2 ∧
    ∀ n s, J n s → wpAny (model prog w) A.in1 (pyNext (.ref I)) (fun r s1 => (r = none ∧ Q (.bool false) s1) ∨ (r = some (.bool true) ∧ Q (.bool true) s1) ∨ (r = some (.bool false) ∧ ∃ m, m < n ∧ J m s1)) (fun _ _ => False) s) E s) :
    wpAny (model prog w) A (call (.builtin "any") [x]) Q E s := by
  refine call_function_tree F.kind_any F.plain_any F.entry_any (F.args_any1 _) ?_
  unfold Builtin.«any»
  refine wpAny_bind (m := oneArg "any" _) (wpAny_pure ?_)
  refine wpAny_bind (wpAny_mono h (fun it s2 h2 => ?_) fun _ _ e => e)
  obtain ⟨I, n, J, rfl, hJ, turn⟩ := h2
  exact wpAny_pure ⟨plainId_quiet F.plain_any_loop _, any_loop J turn n s2 hJ⟩
end

section
variable {X : Cx}
theorem pe_any {elt tg iter : Expr} {ifs : List Expr} {scope : Scope} {own : List (Str × Nat)} {p gpos pos : Pos} {wi : TI} {g : TG} {tt : TT} {te : TE} {c P : Addr} {k : Nat}
    (hc : X.calm = true) (hr : Room (k + 1) X.A) (hN : X.N.Nodup) (hgl : Gl X "any") (hm : X.mg "any" = none) (TB : GxR.TabB X.base X.mg c P) (hcode : X.env.code = .ref c) (hi : PI X tg iter wi) (ok : BlkOk X.N X.env.scope scope own) (hcell : ∀ y ∈ scope.names, y.2 ≠ .cell) (hco : scope.isCoroutine = false) (h0 : scope.names.lookup (".0" : Str) = some NameKind.local) (hdot : (".0" : Str) ∉ X.N)
    (hg : ∀ (A : Around) (s : Shared) (H : Hp) (C : Addr) (cl : List (Str × Addr)) (code : Value) (fp : List Addr) (pn : List (Addr × Obj)), PG (gcx X A s H (genEnv scope cl C code builtinsNs X.env) fp pn) tg g)
    (ht : ∀ (s : Shared) (H : Hp) (C : Addr) (cl : List (Str × Addr)) (code : Value) (fp : List Addr) (pn : List (Addr × Obj)), PTs (gcx X X.A.in1.in1 s H (genEnv scope cl C code builtinsNs X.env) fp pn) ifs tt)
    (he : ∀ (s : Shared) (H : Hp) (C : Addr) (cl : List (Str × Addr)) (code : Value) (fp : List Addr) (pn : List (Addr × Obj)), PE (gcx X X.A.in1.in1 s H (genEnv scope cl C code builtinsNs X.env) fp pn) elt te)
    (hs : ∀ v, genFold iter X.env v = pure v)
    (hst : starEach [.GeneratorExp elt [⟨tg, iter, ifs, 0⟩] scope gpos] X.env = (false, eval (.GeneratorExp elt [⟨tg, iter, ifs, 0⟩] scope gpos) X.env) :: starEach [] X.env := by rfl) :
    PE X (.Call (.Name "any" p) [.GeneratorExp elt [⟨tg, iter, ifs, 0⟩] scope gpos] [] pos) (tAll false P wi g tt te (own.map (·.2))) := ⟨fun pins s σ H Q I h => by
  refine wpAny_Call_Name_kw (ld_blt I hgl hm bt_any ?_)
  refine PyProof.Rows.callWith_builtin1 ?_ hst (by rfl)
  rw [hst]
  show wpAny _ _ (spliced ((false, eval (.GeneratorExp elt [⟨tg, iter, ifs, 0⟩] scope gpos) X.env) :: backTo pos (starEach [] X.env))) _ _ s
  refine Calls.spliced_cons (gen_made hc hr hN TB hcode hi ok hcell hco h0 hdot hg ht he hs I h fun a s5 ⟨gi, n, J, hgen, hJ, turn⟩ => ?_)
  refine Calls.spliced_nil ?_
  refine call_anyJ (wpAny_pyIter_gen hgen ⟨a, n, J, rfl, hJ, fun n s hJ => wpAny_mono (turn n s hJ) (fun r s1 hh => ?_) fun _ _ z => z⟩)
  rcases hh with ⟨h1, h2⟩ | ⟨h1, h2⟩ | ⟨h1, h2⟩
  · exact .inl ⟨h1, h2⟩
  · exact .inr (.inl ⟨h1, h2⟩)
  · exact .inr (.inr ⟨h1, h2⟩)⟩
end
section
variable {K : KW} {X : Cx} {W : Wi} {pos : Pos} {k : Nat}
theorem me_any {elt tg iter : Expr} {ifs : List Expr} {scope : Scope} (own : List (Str × Nat)) {p0 gpos : Pos} {it : EM Src} {t : T} {tt : EM Bool} {el : EM D} (n : Nat) (p : Str × Option Str) (c : Ctx X W (k + 1)) (hm : X.mg "any" = none) (TB : GxR.TabB X.base X.mg (He.cT X.K p).1 (He.cT X.K p).2) (hcode : X.env.code = .ref (He.cT X.K p).1) (hi : MI X W tg iter it)
    (hg : ∀ (A : Around) (s : Shared) (H : Hp) (C : Addr) (cl : List (Str × Addr)) (code : Value) (fp : List Addr) (pn : List (Addr × Obj)), MG (gcx X A s H (genEnv scope cl C code builtinsNs X.env) fp pn) tg t)
    (ht : ∀ (s : Shared) (H : Hp) (C : Addr) (cl : List (Str × Addr)) (code : Value) (fp : List Addr) (pn : List (Addr × Obj)), MTs (gcx X X.A.in1.in1 s H (genEnv scope cl C code builtinsNs X.env) fp pn) W ifs tt)
    (he : ∀ (s : Shared) (H : Hp) (C : Addr) (cl : List (Str × Addr)) (code : Value) (fp : List Addr) (pn : List (Addr × Obj)), Ctx (gcx X X.A.in1.in1 s H (genEnv scope cl C code builtinsNs X.env) fp pn) W.inn k → ME (gcx X X.A.in1.in1 s H (genEnv scope cl C code builtinsNs X.env) fp pn) W.inn elt el)
    (hgl : Gl X "any" := by rfl) (ok : blkC X.N X.env.scope scope own = true := by decide +kernel) (hcell : ∀ y ∈ scope.names, y.2 ≠ .cell := by decide) (hco : scope.isCoroutine = false := by rfl) (h0 : scope.names.lookup (".0" : Str) = some NameKind.local := by rfl) (hdot : (".0" : Str) ∉ X.N := by decide +kernel)
    (hv : ∀ i ∈ t.slots, i ∈ own.map (·.2) := by decide) (hp : W.may (own.map (·.2)) = true := by rfl) (hs : ∀ v, genFold iter X.env v = pure v := by intro _; rfl)
    (hst : starEach [.GeneratorExp elt [⟨tg, iter, ifs, 0⟩] scope gpos] X.env = (false, eval (.GeneratorExp elt [⟨tg, iter, ifs, 0⟩] scope gpos) X.env) :: starEach [] X.env := by rfl) :
    ME X W (.Call (.Name "any" p0) [.GeneratorExp elt [⟨tg, iter, ifs, 0⟩] scope gpos] [] pos) (allM false n p it t tt el (own.map (·.2))) := by
  obtain ⟨wi, p1, q1⟩ := hi
  exact ⟨_, pe_any (g := cG X.kw t) (tt := cE X.kw (rE Bool) W.inn tt) (te := cE X.kw rD W.inn el) c.calm c.room c.nd hgl hm TB hcode p1 (blkOk_by ok) hcell hco h0 hdot (fun A s H C cl code fp pn => (hg A s H C cl code fp pn).pg) (fun s H C cl code fp pn => ht s H C cl code fp pn) (fun s H C cl code fp pn => (he s H C cl code fp pn (c.gen s H scope C cl code fp pn)).pe) hs hst,
    rg_all q1 rt_cG rg_cE rg_cE hv hp⟩
end
end Rf
namespace Rf
set_option autoImplicit false
open PySem PySem.Spec L2

section
variable {K : KW} {X : Cx} {W : Wi} {pos : Pos} {k : Nat}
/-! ### len(set(t)), t a tuple of numbers -/
def lenSet (a : EM D) : EM D := fun l st => (a l st).bind fun d st1 => match d with
  | .tup xs => (match asInts xs with
    | some ns => if Nat.ble ns.length 1000 = true then .ok (.int (uniq ns).length) st1 else .fail
    | none => .fail)
  | _ => .fail
def tLenSetT (K : PySem.W.Frag) (ta : TE) : TE := fun σ H Q => ta σ H fun x H1 => ∃ (l : Addr) (ns : List Int), x = .ref l ∧ SqT K H1 l (ns.map V.int) ∧ ns.length ≤ 1000 ∧ Q (.int (uniq ns).length) H1
theorem pe_lenSetT {a : Expr} {ta : TE} {p p2 q pos : Pos} (hc : X.calm = true) (hg : Gl X "len") (hm : X.mg "len" = none) (hg2 : Gl X "set") (hm2 : X.mg "set" = none) (ha : PE X a ta)
    (na : starEach [a] X.env = (false, eval a X.env) :: starEach [] X.env := by rfl) : PE X (.Call (.Name "len" p) [.Call (.Name "set" p2) [a] [] q] [] pos) (tLenSetT X.K ta) := by
  refine ⟨fun pins s σ H Q I h => ?_⟩
  refine PyProof.Rows.Call_ (ld_blt I hg hm PySem.boot_len ?_)
  refine PyProof.Rows.callWith_builtin1 (PyProof.Rows.args_cons ?_ rfl) rfl rfl
  refine PyProof.Rows.Call_ (ld_blt I hg2 hm2 PyProof.Rows.boot_set ?_)
  refine PyProof.Rows.callWith_type1 (PyProof.Rows.args_cons (thn (ha.run pins s σ H _ I h) fun v s1 ⟨x, H1, I1, r1, q1⟩ => PyProof.Rows.args_nil ?_) na) na rfl
  obtain ⟨l, ns, rfl, hq, h1, q1⟩ := q1
  cases r1
  obtain ⟨its, rv, pt, hz⟩ := I1.tuple hq
  refine call_set_tupI ns (I1.ok.hd hc) (show s1.heap.IsTuple l its.toArray from pt) (by simpa using ints_of_vals rv) (by unfold scanBound; omega) fun h' tk c R1 hcn k => ?_
  refine PyProof.Rows.args_nil ?_
  obtain ⟨o, es, ep, t, ho, hex, hdt, g, nd, hm2, hb, hf, hn, hr, hl2⟩ := R1
  have I2 : Inv X pins σ H1 { s1 with heap := h', toks := tk } := I1.kept k
  have hcu : c = (uniq ns).length := by
    have e1 : (es.toList.map keyOf).length = c := by rw [List.length_map, Array.length_toList, hn]
    have mm : ∀ x, x ∈ es.toList.map keyOf ↔ x ∈ uniq ns := fun x => by
      rw [mem_uniq, ← hm2 x, decide_eq_true_eq]
    have a := nodup_len nd fun x hx => (mm x).mp hx
    have b := nodup_len (nodup_uniq ns) fun x hx => (mm x).mpr hx
    omega
  exact call_len_set ho hex hdt hf (by rw [hn] <;> omega) ⟨.int (uniq ns).length, H1, I2.tok _, ⟨_, by rw [hn, hcu]⟩, q1⟩
theorem me_lenSet {a : Expr} {ma : EM D} {p p2 q pos : Pos} (c : Ctx X W k) (hm : X.mg "len" = none) (hm2 : X.mg "set" = none) (ha : ME X W a ma) (hg : Gl X "len" := by rfl) (hg2 : Gl X "set" := by rfl)
    (na : starEach [a] X.env = (false, eval a X.env) :: starEach [] X.env := by rfl) : ME X W (.Call (.Name "len" p) [.Call (.Name "set" p2) [a] [] q] [] pos) (lenSet ma) := by
  obtain ⟨t1, p1, q1⟩ := ha
  refine ⟨_, pe_lenSetT c.calm hg hm hg2 hm2 p1 na, fun io N H s l st Q hl hs p => ?_⟩
  refine q1.seq hl hs p fun io1 H1 d v st1 e1 S1 r1 p => ?_
  cases d with
  | tup xs =>
    simp only at p
    split at p
    · rename_i ns hns
      obtain ⟨hf, p⟩ := post_if p
      obtain rfl := asInts_ok hns
      obtain ⟨a, ys, rfl, ⟨c1, c2, c3⟩, rr⟩ := r1
      have ex := rr.ints
      subst ex
      exact ⟨a, ns, rfl, c3.sq, Nat.le_of_ble_eq_true hf, post_val p S1 rfl⟩
    · exact p.elim
  | _ => exact p.elim
end
end Rf
namespace Rf
set_option autoImplicit false
open PySem PySem.Spec L2

/-! ### enumerate(a list or a tuple) -/
theorem meets_enum1 {v : Value} {o : Obj} {Z : Heap → Prop} (B : Begins v o Z) :
    Meets (Builtin.«enumerate.__new__» ⟨[.type "enumerate", v], []⟩) (fun _ R s => Z s.heap ∧
      R (.ok (.ret (.ref (s.heap.push o).objs.size))) { s with heap := (s.heap.push o).push { cls := .type "enumerate", data := .fields #[.none, .bool false, .ref s.heap.objs.size, rawInt 0, .none, .none] } }) :=
  .of_wp fun P w A R s h => by
    obtain ⟨hp, g, d, tk, os⟩ := s
    obtain ⟨hz, h⟩ := h
    have hsub := sub_enumerate
    have st : ∀ {A' : Around} {E : Value → Shared → Prop} {Q : Value → Shared → Prop}, Q (.ref hp.objs.size) ⟨hp.push o, g, d, tk, os⟩ → wpAny (model P w) A' (pyIter v) Q E ⟨hp, g, d, tk, os⟩ :=
      fun q => B.iter P w _ _ ⟨hp, g, d, tk, os⟩ _ hz q
    wp_walk using st
    refine wpAny_stack_any fun _ => wpAny_pure ?_
    split
    · rename_i c _ _ _ _ _
      cases (c == Value.type "enumerate") <;> (wp_walk using st; exact ⟨_, rfl, h⟩)
    · wp_walk using st
      exact ⟨_, rfl, h⟩
section
variable {prog : Program} {w : World} {A : Around} {E : Value → Shared → Prop} {s : Shared}
theorem call_enum1 {v : Value} {o : Obj} {Z : Heap → Prop} {Q : Value → Shared → Prop} (B : Begins v o Z) (hz : Z s.heap)
    (h : ∀ h', IsEnum h' (s.heap.objs.size + 1) s.heap.objs.size 0 .none → h'.get? s.heap.objs.size = some o → (∀ b u, s.heap.get? b = some u → h'.get? b = some u) → Q (.ref (s.heap.objs.size + 1)) { s with heap := h' }) :
    wpAny (model prog w) A (call (.type "enumerate") [v]) Q E s := by
  refine callType_new F.called_enumerate (by decide) (F.typeCall_enumerate_1 _) (F.newCall_enumerate_1 _) (fun obj => F.args_object_init_2 obj _) F.entry_enumerate_new (meets_enum1 B) ⟨hz, ?_⟩
  have e1 : (s.heap.push o).objs.size = s.heap.objs.size + 1 := Heap.size_push ..
  show _ ∧ _
  rw [e1]
  have he : IsEnum ((s.heap.push o).push { cls := .type "enumerate", data := .fields #[.none, .bool false, .ref s.heap.objs.size, rawInt 0, .none, .none] }) (s.heap.objs.size + 1) s.heap.objs.size 0 .none := by
    rw [← e1]
    exact Heap.get?_push_size _ rfl
  exact ⟨⟨_, he, rfl⟩, h _ he (Heap.get?_push_of_some _ (Heap.get?_push_size _ B.free)) fun b u x => Heap.get?_push_of_some _ (Heap.get?_push_of_some _ x)⟩
end
/-- the tuple at a, each item in a new pair -/
def IteT (K : PySem.W.Frag) (a : Addr) : It :=
  ⟨fun i H => ∃ (xs : List V) (x : V), SqT K H a xs ∧ xs[i]? = some x, fun i H v H' => ∃ T x, v = .ref T ∧ H T = none ∧ H' = upd H T (.tup [.int (i : Nat), x]) ∧ ∀ xs, SqT K H a xs → xs[i]? = some x, fun i H => ∃ xs : List V, SqT K H a xs ∧ xs.length ≤ i⟩
theorem turn_enumT {P : Program} {w : World} {K : PySem.W.Frag} {elts : List Expr} {kk : Nat} {tpos : Pos} (a e it : Addr) :
    Turn P w K (.Tuple elts kk tpos) (IteT K a) [e, it] e (fun i h => (∃ old, IsEnum h e it ((i : Nat) : Int) old) ∧ h.IsTupleIter it a i ∧ e ≠ it) where
  mem := by simp
  obj := fun i h st b hb => by
    obtain ⟨⟨old, he⟩, ⟨o, ho, hc, hd⟩, _⟩ := st
    have e' : b = e ∨ b = it := by simpa using hb
    rcases e' with z | z
    · rw [z]; exact ⟨_, he, fun v q => nomatch q⟩
    · rw [z]; exact ⟨o, ho, fun v q => by rw [hd] at q; cases q⟩
  keep := fun i h h' st k => let ⟨⟨old, he⟩, hi, hne⟩ := st; ⟨⟨old, k e (by simp) _ he⟩, hi.at fun o q => k it (by simp) o q, hne⟩
  item := by
    intro X hP hw hK hc i pins s σ H E I hf st hg
    subst hP hw hK
    obtain ⟨⟨old, he⟩, hit, hne⟩ := st
    obtain ⟨xs, x, hq, hx⟩ := hg
    obtain ⟨its, rv, p, hz⟩ := I.tuple hq
    obtain ⟨u, hu, ru⟩ := rv.get hx
    have p : s.heap.IsTuple a its.toArray := p
    have hel : e < s.heap.objs.size := Heap.lt_size he
    have hil : it < s.heap.objs.size := by obtain ⟨_, q, _⟩ := hit; exact Heap.lt_size q
    have nai : a ≠ it := fun z => by
      obtain ⟨o1, g1, c1, _⟩ := p
      obtain ⟨o2, g2, c2, _⟩ := hit
      rw [z, g2] at g1
      cases g1
      rw [c1] at c2
      exact absurd c2 (by decide)
    have nea : e ≠ a := fun z => by
      obtain ⟨o1, g1, c1, _⟩ := p
      rw [← z, he] at g1
      cases g1
      have c1 : Value.type "enumerate" = Value.type "tuple" := c1
      exact absurd c1 (by decide)
    have hlt : i < its.toArray.size := by
      have := (List.getElem?_eq_some_iff.mp hu).1
      simpa using this
    refine wpAny_pyNext_enum_itemD (Draws.tuple (A := X.A.in1) (I.ok.hd hc) it a nai its.toArray) he ⟨hit, p⟩ hlt hne (by simp [hne, nea]) fun x' h' tk hx' ho hit' hT hsz hk => ?_
    have ex : x' = u := by
      have hx' : its.toArray[i]? = some x' := hx'
      rw [List.getElem?_toArray, hu] at hx'
      exact (Option.some.inj hx').symm
    subst ex
    refine ⟨_, rfl, wpAny_letOwnedTupleGo_enum (s := { s with heap := h', toks := tk + 1 }) ho fun h'' he' sb => ?_⟩
    have hT2 : h''.get? s.heap.objs.size = some { cls := .type "tuple", data := .seq #[.int i tk, x'] } := (sb.2 _ (Nat.ne_of_gt hel)).trans hT
    have new : ObjOk X.prog X.w (upd H s.heap.objs.size (.tup [.int (i : Nat), x])) h'' s.heap.objs.size (.tup [.int (i : Nat), x]) :=
      ⟨by show 2 ≤ sizeLine; decide, [.int i tk, x'], .cons ⟨_, rfl⟩ (.cons ru .nil), ⟨_, hT2, rfl, _, rfl⟩⟩
    have I1 : Inv X pins σ (upd H s.heap.objs.size (.tup [.int (i : Nat), x])) { s with heap := h'', toks := tk + 1 } :=
      I.turnedNew (ch := [e, it]) (fun b ob hb q => (sb.2 b (fun z => hb (by simp [z]))).trans (hk b ob (fun z => hb (by simp [z])) (fun z => hb (by simp [z])) q)) hf (Nat.le_refl _) new
    refine ⟨.ref s.heap.objs.size, _, I1, rfl, ⟨_, x, rfl, I.hok.fresh (Nat.le_refl _), rfl, fun ys hy => by rw [I.tuple_inj hy hq]; exact hx⟩, ⟨⟨x', ?_⟩, hit'.1.at fun o q => (sb.2 it (Ne.symm hne)).trans q, hne⟩, fun b hb => ?_⟩
    · have e1 : ((i + 1 : Nat) : Int) = (i : Int) + 1 := by omega
      rw [e1]; exact he'
    · have hb' : b < s.heap.objs.size := by
        have e' : b = e ∨ b = it := by simpa using hb
        rcases e' with z | z
        · rw [z]; exact hel
        · rw [z]; exact hil
      rw [upd_ne (Nat.ne_of_lt hb')]
      exact (hf b hb).1
  done := by
    intro X hP hw hK hc i pins s σ H E I hf st hg
    subst hP hw hK
    obtain ⟨⟨old, he⟩, hit, hne⟩ := st
    obtain ⟨xs, hq, hx⟩ := hg
    obtain ⟨its, rv, p, hz⟩ := I.tuple hq
    have p : s.heap.IsTuple a its.toArray := p
    obtain ⟨f0, f1, f2, f3, f4, f5⟩ := hf it (by simp)
    have hl := rv.length
    unfold pyNext
    have hT : s.TypeIs (.ref e) "enumerate" := ⟨_, he, rfl⟩
    refine wpAny_bind (wpAny_attempt (wpAny_callSpecial?_slot (name := Str.ofString "__next__") hT F.slot_enumerate_next
      (wpAny_call_entry F.slot_enumerate_next hT F.entry_enumerate_next ?_ (F.args_enumerate_next_1 _))))
    show wpAny _ _ (field (.ref e) 2 >>= _) _ _ _
    refine wpAny_bind (wpAny_field he rfl (x := .ref it) rfl ?_)
    refine wpAny_bind (wpAny_nextOf_tuple_end (A := X.A.in1) (I.ok.hd hc) hit p (by simp; omega) fun h' x he' hx' => ?_)
    obtain ⟨o, ho, hcl⟩ := hx'
    refine wpAny_bind (wpAny_isInstance (T := "StopIteration") (b := true) ⟨o, ho, hcl⟩ isSubtype_stop ?_)
    exact wpAny_pure ⟨rfl, I.turned (t' := s.toks) (fun b o hb q => he' b o hb q) f0 f1 f3 f4 f5⟩
  self := fun A i s Q E st h => let ⟨⟨_, he⟩, _⟩ := st; wpAny_pyIter_enum he h
def iEnumA (K : PySem.W.Frag) (ta : TA) : TI := fun σ H R => ta σ H fun vs H1 => ∃ a xs, vs = [.ref a] ∧ ((SqL K H1 a xs ∧ R (Ite K a) H1) ∨ (SqT K H1 a xs ∧ R (IteT K a) H1))
theorem pi_enumA {X : Cx} {e : Expr} {ta : TA} {p pos tpos : Pos} {elts : List Expr} {kk : Nat} (hg : Gl X "enumerate") (hm : X.mg "enumerate" = none) (ha : PA X [e] ta) (hs : starEach [e] X.env = [(false, eval e X.env)] := by rfl) :
    PI X (.Tuple elts kk tpos) (.Call (.Name "enumerate" p) [e] [] pos) (iEnumA X.K ta) := by
  refine ⟨fun pins s σ H R I h => ?_⟩
  refine PyProof.Rows.Call_ (ld_blt I hg hm PyProof.Rows.boot_enumerate (PyProof.Rows.callWith_type1 (thn (ha.run pos pins s σ H _ I h) fun us s1 ⟨vs, H1, I1, r1, q1⟩ => ?_) hs rfl))
  obtain ⟨a, xs, ex, q⟩ := q1
  subst ex
  cases r1 with
  | cons r rr =>
    cases rr
    cases r
    have fr : ∀ b ∈ [s1.heap.objs.size + 1, s1.heap.objs.size], s1.heap.objs.size ≤ b := fun b hb => by
      have e' : b = s1.heap.objs.size + 1 ∨ b = s1.heap.objs.size := by simpa using hb
      rcases e' with z | z
      · rw [z]; exact Nat.le_add_right _ _
      · rw [z]; exact Nat.le_refl _
    rcases q with ⟨hq, q⟩ | ⟨hq, q⟩
    · obtain ⟨its, rv, p', hz⟩ := I1.list hq
      refine call_enum1 (begins_list a its.toArray) p'.isList fun h' he ho hk => wpAny_pyIter_enum he ?_
      have I2 : Inv X pins σ H1 { s1 with heap := h' } := I1.kept (t' := s1.toks) hk
      exact ⟨s1.heap.objs.size + 1, [s1.heap.objs.size + 1, s1.heap.objs.size], _, _, H1, rfl, I2, turn_enum a (s1.heap.objs.size + 1) s1.heap.objs.size, ⟨⟨.none, he⟩, ⟨_, ho, rfl, rfl⟩, Nat.succ_ne_self _⟩, fun b hb => I1.fpOk (fr b hb) (I1.hok.fresh (fr b hb)), q⟩
    · obtain ⟨its, rv, p', hz⟩ := I1.tuple hq
      refine call_enum1 (begins_tuple a its.toArray) p' fun h' he ho hk => wpAny_pyIter_enum he ?_
      have I2 : Inv X pins σ H1 { s1 with heap := h' } := I1.kept (t' := s1.toks) hk
      exact ⟨s1.heap.objs.size + 1, [s1.heap.objs.size + 1, s1.heap.objs.size], _, _, H1, rfl, I2, turn_enumT a (s1.heap.objs.size + 1) s1.heap.objs.size, ⟨⟨.none, he⟩, ⟨_, ho, rfl, rfl⟩, Nat.succ_ne_self _⟩, fun b hb => I1.fpOk (fr b hb) (I1.hok.fresh (fr b hb)), q⟩
section
variable {K : KW} {X : Cx} {W : Wi} {pos : Pos} {k : Nat}
def itE2 (a : EM D) : EM Src := fun l st => (a l st).bind fun d st1 => match d with
  | .tup ds => .ok ⟨pairsD 0 ds, none⟩ st1
  | d => match lof d st1 with
    | some ds => .ok (srcE d ds) st1
    | none => .fail
theorem mi_enum2 {e : Expr} {a : EM D} {p tpos : Pos} {elts : List Expr} {kk : Nat} (hm : X.mg "enumerate" = none) (h : ME X W e a) (hg : Gl X "enumerate" := by rfl) (hs : starEach [e] X.env = [(false, eval e X.env)] := by rfl) : MI X W (.Tuple elts kk tpos) (.Call (.Name "enumerate" p) [e] [] pos) (itE2 a) := by
  obtain ⟨t, p, q⟩ := h
  refine ⟨_, pi_enumA hg hm (pa_cons p pa_nil hs) hs, fun io N H s l st Q hl hs p => ?_⟩
  refine q.seq hl hs p fun io1 H1 d v st1 e1 S1 r1 p1 => ?_
  split at p1
  · rename_i ds
    obtain ⟨a, xs0, rfl, c0, stays⟩ := tup_stays r1
    refine ⟨a, xs0, rfl, .inr ⟨c0, p1 io1 H1 _ (Ext.refl _ _) S1 fun io' M H' st' hm ex S' c i => ?_⟩⟩
    obtain ⟨xs, c1, rr⟩ := stays io' M H' hm ex
    show (i < (pairsD 0 ds).length → _) ∧ (i = (pairsD 0 ds).length → _)
    rw [pairsD_len]
    refine ⟨fun hi => ⟨⟨xs, xs[i]'(by rw [rr.len]; exact hi), c1, List.getElem?_eq_getElem _⟩, fun x H2 y => ?_⟩, fun hi => ⟨xs, c1, by rw [rr.len]; exact Nat.le_of_eq hi.symm⟩⟩
    obtain ⟨T, y0, rfl, hT, rfl, y⟩ := y
    obtain ⟨d', e', r'⟩ := rr.get' (y xs c1)
    refine ⟨_, pairsD_get ds 0 i d' e', ⟨T, [.int (i : Nat), y0], rfl, ⟨S'.out hT, S'.outN hT, upd_same⟩, _, _, rfl, by rw [Nat.zero_add]; rfl, _, _, rfl, r'.mono (Ext.new hT), rfl⟩, Ext.new hT, S'.new hT⟩
  · cases hh : lof d st1 with
    | none => rw [hh] at p1; exact p1.elim
    | some ds =>
      rw [hh] at p1
      obtain ⟨a, rfl, stays⟩ := lof_stays S1 r1 hh
      obtain ⟨a', xs0, e0, c0, _⟩ := lof_ok S1 r1 hh
      cases e0
      refine ⟨a, xs0, rfl, .inl ⟨c0, p1 io1 H1 _ (Ext.refl _ _) S1 fun io' M H' st' hm ex S' c i => ?_⟩⟩
      rw [srcE_chk] at c
      obtain ⟨xs, c1, rr⟩ := stays io' M H' st' hm ex S' c
      rw [srcE_items, pairsD_len]
      refine ⟨fun hi => ⟨⟨xs, xs[i]'(by rw [rr.len]; exact hi), c1, List.getElem?_eq_getElem _⟩, fun x H2 y => ?_⟩, fun hi => ⟨xs, c1, by rw [rr.len]; exact Nat.le_of_eq hi.symm⟩⟩
      obtain ⟨T, y0, rfl, hT, rfl, y⟩ := y
      obtain ⟨d', e', r'⟩ := rr.get' (y xs c1)
      refine ⟨_, pairsD_get ds 0 i d' e', ⟨T, [.int (i : Nat), y0], rfl, ⟨S'.out hT, S'.outN hT, upd_same⟩, _, _, rfl, by rw [Nat.zero_add]; rfl, _, _, rfl, r'.mono (Ext.new hT), rfl⟩, Ext.new hT, S'.new hT⟩
end
end Rf
namespace Rf
set_option autoImplicit false
open PySem PySem.Spec L2

section
variable {K : KW} {X : Cx} {W : Wi} {pos : Pos} {k : Nat}
def par3M (i j n : Nat) (a : EM (List Rf.D)) : SM := fun l st => (a l st).toS l fun ds st1 => match ds with
  | [d, e, f] => .nx (((l.set i (some d)).set j (some e)).set n (some f)) st1
  | _ => .fail
theorem ms_par3 (i j n : Nat) {x y z : Str} {a b c : Expr} {m : EM (List Rf.D)} {px py pz pt : Pos} {kt k2 pt2} (h : MA X W [a, b, c] m) (hc : X.calm = true) (hN : X.N.Nodup) (hi : X.N[i]? = some x := by rfl) (hj : X.N[j]? = some y := by rfl) (hn : X.N[n]? = some z := by rfl) (hij : i ≠ j := by decide) (hin : i ≠ n := by decide) (hjn : j ≠ n := by decide)
    (hx : X.env.scope.names.lookup x = some .local := by rfl) (hy : X.env.scope.names.lookup y = some .local := by rfl) (hz : X.env.scope.names.lookup z = some .local := by rfl)
    (hw : swappedStores [.Tuple [.Name x px, .Name y py, .Name z pz] kt pt] (.Tuple [a, b, c] k2 pt2) X.env = pure (some [x, y, z]) := by rfl)
    (hs : swapsWithSole [.Tuple [.Name x px, .Name y py, .Name z pz] kt pt] (.Tuple [a, b, c] k2 pt2) pos.line X.env = pure false := by rfl) (hp : W.may [i, j, n] = true := by rfl) :
    MS X W (.Assign [.Tuple [.Name x px, .Name y py, .Name z pz] kt pt] (.Tuple [a, b, c] k2 pt2) pos) (par3M i j n m) := by
  obtain ⟨t, p, q⟩ := h
  refine ⟨_, ps_par3 hc hN hi hj hn hij hin hjn hx hy hz p hw hs, fun io N H s l st D hl hs p => ?_⟩
  refine q.seqS hl hs p fun io1 H1 ds vs st1 e1 S1 r1 p1 => ?_
  match ds, p1, r1 with
  | [d, e, f], p1, ⟨u, _, e2, r2, v, _, e3, r3, w, _, e4, r4, e5⟩ =>
    subst e5 e4 e3 e2
    exact ⟨u, v, w, rfl, p1 io1 H1 _ (Ext.refl _ _) ((((hl.mono e1).set i (Wi.may_of hp (by simp)) r2).set j (Wi.may_of hp (by simp)) r3).set n (Wi.may_of hp (by simp)) r4) S1⟩
  | [], p1, _ => exact p1.elim
  | [_], p1, _ => exact p1.elim
  | [_, _], p1, _ => exact p1.elim
  | _ :: _ :: _ :: _ :: _, p1, _ => exact p1.elim
/-- [..] * n, a new list -/
def repL (a b : EM D) : EM (List D) := fun l st => (a l st).bind fun d st1 => (b l st1).bind fun e st2 => match lofM d st2, e with
  | some x, .int i => if 0 ≤ i ∧ i ≤ 1000 ∧ x.length ≤ 1000 then .ok (rep x i.toNat) st2 else .fail
  | _, _ => .fail
theorem ml_rep {ea eb : Expr} {a b : EM D} (h1 : ME X W ea a) (h2 : ME X W eb b) : ML X W (.BinOp ea .Mult eb pos) (repL a b) := by
  obtain ⟨t1, p1, q1⟩ := h1
  obtain ⟨t2, p2, q2⟩ := h2
  refine ⟨_, pe_op op_rep p1 p2, fun io N H s l st Q hl hs p => ?_⟩
  refine q1.seq hl hs p fun io1 H1 d v st1 e1 S1 r1 p => ?_
  refine q2.seq (hl.mono e1) S1 p fun io2 H2 e w st2 e2 S2 r2 p => ?_
  cases hx : lofM d st2 with
  | none => simp only [hx] at p; exact p.elim
  | some x =>
    cases e with
    | int i =>
      simp only [hx] at p
      obtain ⟨hc, p⟩ := post_if p
      obtain ⟨a, xs, rfl, c, q⟩ := lofM_ok S2 (r1.mono e2) hx
      refine ⟨a, i, xs, rfl, r2, c, by omega, by omega, ?_, fun p0 hp => ?_⟩
      · rw [q.len]
        exact Nat.le_trans (Nat.mul_le_mul hc.2.2 (Int.toNat_le.mpr hc.2.1 : _ ≤ 1000)) (by rw [sizeLine_eq]; decide)
      · obtain ⟨S3, q3⟩ := fresh_list S2 (q.rep i.toNat) hp fun _ h => h
        exact p io2 _ _ (Ext.new hp) S3 q3
    | _ => simp only [hx] at p; exact p.elim
end
end Rf
namespace Rf
set_option autoImplicit false
open PySem PySem.Spec PyProof.Rows L2

/-! ### is True -/
section
variable {X : Cx}
theorem bl_beq (a b : Bool) : (Value.bool a == Value.bool b) = decide (a = b) := by
  by_cases e : a = b
  · subst e
    exact (beq_self_eq_true (Value.bool a)).trans (decide_eq_true (p := a = a) rfl).symm
  · exact (beq_eq_false_iff_ne.mpr fun z => e (Value.bool.inj z)).trans (decide_eq_false e).symm
theorem op_isBlR : OpR X (compareOp .Is) (fun x y H Q => ∃ a b, x = .bl a ∧ y = .bl b ∧ Q (.bl (decide (a = b))) H) := by
  intro pins s σ H x y v u Q I rx ry h
  obtain ⟨a, b, rfl, rfl, q⟩ := h
  cases (show v = Value.bool a from rx)
  cases (show u = Value.bool b from ry)
  exact wpAny_is_plain rfl (fin_bl I q (bl_beq a b).symm)
theorem op_isntBlR : OpR X (compareOp .IsNot) (fun x y H Q => ∃ a b, x = .bl a ∧ y = .bl b ∧ Q (.bl (!decide (a = b))) H) := by
  intro pins s σ H x y v u Q I rx ry h
  obtain ⟨a, b, rfl, rfl, q⟩ := h
  cases (show v = Value.bool a from rx)
  cases (show u = Value.bool b from ry)
  exact wpAny_isNot_plain rfl (fin_bl I q (congrArg not (bl_beq a b).symm))
end
def isBM (d e : D) (st : Store) : Rz D := match d, e with
  | .bl a, .bl b => .ok (.bl (decide (a = b))) st
  | _, _ => .fail
def isntBM (d e : D) (st : Store) : Rz D := match d, e with
  | .bl a, .bl b => .ok (.bl (!decide (a = b))) st
  | _, _ => .fail
section
variable {K : KW}
theorem opm_isB : OpM K (fun x y H Q => ∃ a b, x = .bl a ∧ y = .bl b ∧ Q (.bl (decide (a = b))) H) isBM := by
  intro io N H x y d e st Q Y S r1 r2 p
  cases d with
  | bl a =>
    cases e with
    | bl b => exact ⟨a, b, r1, r2, post_val p S rfl⟩
    | _ => exact p.elim
  | _ => cases e <;> exact p.elim
theorem opm_isntB : OpM K (fun x y H Q => ∃ a b, x = .bl a ∧ y = .bl b ∧ Q (.bl (!decide (a = b))) H) isntBM := by
  intro io N H x y d e st Q Y S r1 r2 p
  cases d with
  | bl a =>
    cases e with
    | bl b => exact ⟨a, b, r1, r2, post_val p S rfl⟩
    | _ => exact p.elim
  | _ => cases e <;> exact p.elim
end
end Rf
namespace Rf
set_option autoImplicit false
open PySem PySem.Spec PyProof.Rows L2

/-! ### a lambda is made -/
section
variable {X : Cx} {pins : List (Addr × Obj)} {σ : L2.St} {H : Hp} {s : Shared}
/-- what is new when a code object was asked for: nothing, or it and the table's row -/
def NewC (H : Hp) (T : Addr) (ps : Array Value) (q : Addr) (G : Hp) : Prop :=
  (G = H ∧ ∃ pos : Pos, codeAmong pos ps.toList = some (.ref q)) ∨ (H q = none ∧ T ≠ q ∧ ∃ more : Array Value, G = upd (upd H T (.tbl (ps ++ more))) q (LamX.CodeO q lamQ) ∧ TriplesOk (ps ++ more).toList ∧
    ∀ (pos : Pos) (cv : Value), codeAmong pos (ps ++ more).toList = some cv → codeAmong pos ps.toList = some cv ∨ cv = .ref q)
theorem lam_tail {T c0 : Addr} {ps : Array Value} {params : Arguments} {body : Expr} {scope : Scope} {pos : Pos} {dv : Value} {ln : Nat} {R : Value → Shared → Prop} {Q : Value → Shared → Prop} (I : Inv X pins σ H s)
    (hT : H T = some (.tbl ps)) (tr : TriplesOk ps.toList) (al : ∀ (pos : Pos) (cv : Value), codeAmong pos ps.toList = some cv → ∃ q, cv = .ref q ∧ H q = some (LamX.CodeO q lamQ)) (B : GxR.TabB X.base X.mg c0 T) (hcode : X.env.code = .ref c0)
    (hfree : ∀ y ∈ scope.names, y.2 = .free → ∃ a, X.env.cells.lookup y.1 = some a)
    (k : ∀ (q : Addr) (G : Hp) (s1 : Shared) (pm doc ctv : Value) (tk : Tok), Inv X pins σ G s1 → NewC H T ps q G →
      Q (.ref s1.heap.objs.size) { s1 with heap := s1.heap.push (PySem.W.kdv_obj "<lambda>" lamQ params (.expr body) scope (cloFrom X.env.cells scope.names []) dv doc pm q ctv), toks := tk }) :
    wpAny (model X.prog X.w) X.A (makeTail "<lambda>" lamQ params (.expr body) scope X.env dv .none none pos ln) Q R s := by
  have tabBm : s.heap.BuiltinsAt X.mg T := B.bm.keeps I.bk
  have tabO : s.heap.get? T = some { cls := .none, data := .fields ps } := I.hok T _ hT
  cases found : codeAmong pos ps.toList with
  | some cv =>
    obtain ⟨q, e, hq⟩ := al pos cv found
    subst e
    exact PySem.W.kdv_makeTailHit (mg := X.mg) (P := T) (closure_ok hfree) I.ok.glob (I.mod.glob.keeps I.bk) hcode (B.code.keeps I.bk) tabO tr found tabBm fun ctv doc h2 tk kept _ =>
      k q H { s with heap := h2, toks := tk } _ doc ctv tk (I.kept (t' := tk) kept) (.inl ⟨rfl, pos, found⟩)
  | none =>
    refine PySem.W.kdv_makeTail (mg := X.mg) (P := T) (closure_ok hfree) I.ok.glob (I.mod.glob.keeps I.bk) hcode (B.code.keeps I.bk) tabO tr found B.gP tabBm fun q ctv doc h2 tk ex ge lt rec tab => ?_
    obtain ⟨q2, oq, vs, t, eq2, hoq, dq, nq⟩ := rec
    cases eq2
    have free : H q = none := I.hok.fresh ge
    have I2 := LamX.inv_table (t' := tk) (more := #[rawInt pos.line, rawInt pos.col, .ref q]) (h' := h2) I hT (fun b o nb e => ex b o nb e) tab ge ⟨oq, vs, t, hoq, dq, nq⟩
    have el : (ps ++ #[rawInt pos.line, rawInt pos.col, .ref q]).toList = ps.toList ++ [rawInt pos.line, rawInt pos.col, .ref q] := by simp
    refine k q _ _ _ doc ctv tk I2 (.inr ⟨free, ne_of_none hT free, _, rfl, ?_, fun p' cv hc => ?_⟩)
    · rw [el]
      exact PySem.TriplesOk_snoc _ _ _ _ tr
    · rw [el] at hc
      exact LamX.among_app _ tr hc
end
/-- no default, or 0 -/
def dfOk (p : Arguments) : Bool := match p.defaults, p.kw_defaults with
  | [], [] => true
  | [.Constant (.int 0) _ _], [] => true
  | _, _ => false
/-- the lambda's names: its own stand nowhere else, the others are its maker's cells -/
structure LamN (N : List Str) (sc scope : Scope) : Prop where
  kind : scope.kind = .function
  co : scope.isCoroutine = false
  gen : scope.isGenerator = false
  nocell : ∀ y ∈ scope.names, y.2 ≠ .cell
  own : ∀ y ∈ scope.names, y.2 = .local → y.1 ∉ N
  free : ∀ y ∈ scope.names, y.2 = .free → sc.names.lookup y.1 = some .cell ∨ sc.names.lookup y.1 = some .free
def lamNB (N : List Str) (sc scope : Scope) : Bool :=
  decide (scope.kind = .function) && !scope.isCoroutine && !scope.isGenerator && scope.names.all fun y => !decide (y.2 = .cell) && (!decide (y.2 = .local) || !decide (y.1 ∈ N)) && (!decide (y.2 = .free) || decide (sc.names.lookup y.1 = some .cell) || decide (sc.names.lookup y.1 = some .free))
theorem lamN_by {N : List Str} {sc scope : Scope} (h : lamNB N sc scope = true) : LamN N sc scope := by
  unfold lamNB at h
  simp only [Bool.and_eq_true, Bool.or_eq_true, Bool.not_eq_true', decide_eq_true_eq, decide_eq_false_iff_not, List.all_eq_true] at h
  obtain ⟨⟨⟨a1, a2⟩, a3⟩, a4⟩ := h
  refine ⟨a1, a2, a3, fun y hy => (a4 y hy).1.1, fun y hy e => ?_, fun y hy e => ?_⟩
  · rcases (a4 y hy).1.2 with z | z
    · exact absurd e z
    · exact z
  · rcases (a4 y hy).2 with (z | z) | z
    · exact absurd e z
    · exact .inl z
    · exact .inr z
theorem LamN.cells {X : Cx} {scope : Scope} (L : LamN X.N X.env.scope scope) (ok : X.Ok) : ∀ y ∈ scope.names, y.2 = .free → ∃ c, X.env.cells.lookup y.1 = some c := fun y hy e => ok.has _ (L.free y hy e)
/-- the lambda at j as a datum; n: where the def's table stands -/
def lamM (n : Nat) (p : Str × Option Str) (j : List Nat) (cl : List (Str × Addr)) : EM D := fun _ st => match st[n]? with
  | some (.tl q) => if q = p then .ok (.lam j cl) st else .fail
  | _ => .fail
section
variable {K : KW} {io N : List Addr} {H : Hp} {st : Store}
theorem rst_new {T q : Addr} {ps : Array Value} {G : Hp} {n : Nat} {p : Str × Option Str} (S : RSt K io N H st) (hn : st[n]? = some (.tl p)) (hT : T = (He.cT K p).2) (ha : io[n]? = some T)
    (al : ∀ (pos : Pos) (cv : Value), codeAmong pos ps.toList = some cv → ∃ q, cv = .ref q ∧ Rep K io N H .cod (.ref q)) (h : NewC H T ps q G) : Ext io H io G ∧ RSt K io N G st ∧ Rep K io N G .cod (.ref q) := by
  rcases h with ⟨rfl, p', hq⟩ | ⟨free, ne, more, rfl, tr, al2⟩
  · obtain ⟨c1, z1, z2⟩ := al p' _ hq
    cases z1
    exact ⟨Ext.refl _ _, S, z2⟩
  · have e1 : upd (upd H T (.tbl (ps ++ more))) q (LamX.CodeO q lamQ) = upd (upd H q (LamX.CodeO q lamQ)) T (.tbl (ps ++ more)) := by
      funext b
      by_cases h1 : b = q
      · subst h1
        rw [upd_same, upd_ne (Ne.symm ne), upd_same]
      · rw [upd_ne h1]
        by_cases h2 : b = T
        · subst h2
          rw [upd_same, upd_same]
        · rw [upd_ne h2, upd_ne h2, upd_ne h1]
    rw [e1]
    have E1 : Ext io H io (upd H q (LamX.CodeO q lamQ)) := Ext.new free
    have S1 := S.new (u := LamX.CodeO q lamQ) free
    have qi := S.out free
    have qn := S.outN free
    have cq : Rep K io N (upd (upd H q (LamX.CodeO q lamQ)) T (.tbl (ps ++ more))) .cod (.ref q) := ⟨q, rfl, qi, qn, by rw [upd_ne (Ne.symm ne), upd_same]⟩
    have key : ∀ v, Rep K io N H .cod v → Rep K io N (upd (upd H q (LamX.CodeO q lamQ)) T (.tbl (ps ++ more))) .cod v := fun v hv => by
      obtain ⟨c, rfl, c1, c2, c3⟩ := hv
      have nT : c ≠ T := fun z => c1 (by rw [z]; exact List.mem_of_getElem? ha)
      exact ⟨c, rfl, c1, c2, by rw [upd_ne nT, upd_ne (ne_of_none c3 free)]; exact c3⟩
    obtain ⟨S2, E2⟩ := S1.set (n := n) (a := T) (u := .tbl (ps ++ more)) (o := .tl p) ha ⟨hT, ps ++ more, rfl, tr, fun pos cv hc => by
      rcases al2 pos cv hc with z | z
      · obtain ⟨c, e, r⟩ := al pos cv z
        exact ⟨c, e, key _ r⟩
      · exact ⟨q, z, cq⟩⟩
    have e2 : st.set n (.tl p) = st := by
      apply List.ext_getElem?
      intro i
      by_cases hi : i = n
      · subst hi
        rw [List.getElem?_set_self (List.getElem?_eq_some_iff.mp hn).1, hn]
      · rw [List.getElem?_set_ne (Ne.symm hi)]
    rw [e2] at S2
    exact ⟨E1.trans E2, S2, cq⟩
end
section
variable {X : Cx} {W : Wi} {k : Nat}
theorem me_lam (n : Nat) (p : Str × Option Str) (j : List Nat) {params : Arguments} {body : Expr} {scope : Scope} {pos : Pos} (c : Ctx X W k) (B : GxR.TabB X.base X.mg (He.cT X.K p).1 (He.cT X.K p).2) (hcode : X.env.code = .ref (He.cT X.K p).1) (hy : lamAt X.prog j = some ⟨params, body, scope⟩)
    (hq : X.env.qual ++ "<lambda>" = lamQ := by rfl) (hd : dfOk params = true := by rfl) (hN : lamNB X.N X.env.scope scope = true := by decide +kernel) : ME X W (.Lambda params body scope pos) (lamM n p j X.env.cells) := by
  have L := lamN_by hN
  refine ⟨cE X.kw rD W (lamM n p j X.env.cells), ⟨fun pins s σ H Q I ⟨io, N, l, st, hl, S, q⟩ => ?_⟩, rg_cE⟩
  unfold lamM at q
  cases hn : st[n]? with
  | none => rw [hn] at q; exact q.elim
  | some o =>
  rw [hn] at q
  cases o with
  | tl q' =>
    obtain ⟨heq, q2⟩ := post_if q
    clear q
    subst heq
    obtain ⟨T, u, e1, e2, hT, ps, rfl, tr, al⟩ := S.ob n _ hn
    -- the tail, from any heap that holds the default
    have tail : ∀ (dv : Value) (H0 : Hp) (s0 : Shared), Inv X pins σ H0 s0 → Ext io H io H0 → RSt X.kw io N H0 st → DvOk io N H0 dv → (params.defaults.isEmpty = true ↔ dv = .none) → wpAny (model X.prog X.w) X.A (makeTail "<lambda>" lamQ params (.expr body) scope X.env dv .none none pos pos.line) (EP X pins σ Q) X.xe s0 := by
      intro dv H0 s0 I0 E0 S0 hdv hiff
      obtain ⟨T', u', f1, f2, hT', ps', rfl, tr', al'⟩ := S0.ob n _ hn
      rw [e1] at f1
      cases f1
      have hT2 : T = (He.cT X.K q').2 := hT'
      refine lam_tail (c0 := (He.cT X.K q').1) I0 f2 tr' (fun p' cv hc => ?_) (hT2 ▸ B) hcode (L.cells I0.ok) fun q0 G s1 pm doc ctv tk I1 hnew => ?_
      · obtain ⟨c1, z1, z2⟩ := al' p' cv hc
        obtain ⟨c2, z3, _, _, z4⟩ := z2
        cases z3
        exact ⟨c1, z1, z4⟩
      · obtain ⟨E1, S1, cq⟩ := rst_new S0 hn hT2 e1 al' hnew
        have nf : G s1.heap.objs.size = none := I1.hok.fresh (Nat.le_refl _)
        have I2 := I1.laid (a := s1.heap.objs.size) (o := LamO X.prog j X.env.cells s1.heap.objs.size q0 dv) (t' := tk) (h' := s1.heap.push (PySem.W.kdv_obj "<lambda>" lamQ params (.expr body) scope (cloFrom X.env.cells scope.names []) dv doc pm q0 ctv)) (fun b u e => Heap.get?_push_of_some _ e) (Nat.le_refl _)
          ⟨⟨⟨params, body, scope⟩, pm, doc, ctv, hy, hiff, Heap.get?_push_size _ rfl⟩, ⟨_, Heap.get?_push_size _ rfl⟩, fun h1 h2 ⟨y, a1, a2, a3, z1, z0, z2⟩ stay => ⟨y, a1, a2, a3, z1, z0, stay _ z2⟩⟩
        have En : Ext io G io (upd G s1.heap.objs.size (LamO X.prog j X.env.cells s1.heap.objs.size q0 dv)) := Ext.new nf
        obtain ⟨c2, z3, z4⟩ := cq.mono En
        cases z3
        refine ⟨.ref s1.heap.objs.size, _, I2, rfl, q2 io _ (.ref s1.heap.objs.size) (E0.trans (E1.trans En)) (S1.new nf) ⟨s1.heap.objs.size, q0, dv, rfl, ⟨S1.out nf, S1.outN nf, upd_same⟩, z4, ?_⟩⟩
        rcases hdv with hdv | ⟨d, d1, d2, d3, d4⟩
        · exact .inl hdv
        · exact .inr ⟨d, d1, d2, d3, d4.keep fun u z => (E1.trans En).keep _ _ d2 z⟩
    cases params with
    | mk a1 a2 a3 a4 a5 a6 a7 =>
    unfold dfOk at hd
    simp only at hd
    split at hd
    · refine PySem.W.kla_eval rfl ?_
      rw [hq, makeFunction_eq]
      simp only [List.zip_nil_right, List.filterMap_nil, List.isEmpty_nil, if_true, pure_bind]
      exact tail .none H s I (Ext.refl _ _) S (.inl rfl) ⟨fun _ => rfl, fun _ => rfl⟩
    · refine PySem.W.kdv_lam rfl rfl (PySem.W.kdv_all1 (thn ((pe_int (X := X)).run pins s σ H (fun v H1 => v = .int 0 ∧ H1 = H) I ⟨rfl, rfl⟩) fun u s1 ⟨v, H1, I1, r1, z1, z2⟩ => PySem.W.kdv_all0 ?_))
      subst z1 z2
      rw [hq, makeFunction_eq]
      simp only [List.zip_nil_right, List.filterMap_nil, List.isEmpty_cons, List.isEmpty_nil, if_true, pure_bind, Bool.false_eq_true, if_false]
      refine wpAny_bind (wpAny_newTextTuple ?_)
      have It := tup_laid (t' := s1.toks) I1 (xs := [.int 0]) (its := [u]) (.cons r1 .nil) (by decide)
      have nt : H1 s1.heap.objs.size = none := I1.hok.fresh (Nat.le_refl _)
      exact tail (.ref s1.heap.objs.size) _ _ It (Ext.new nt) (S.new nt) (.inr ⟨_, rfl, S.out nt, S.outN nt, .at rfl⟩) ⟨fun z => (by cases z), fun z => (by cases z)⟩
    · cases hd
  | _ => exact q.elim
end
/-! ### a lambda is called, in the frame that made it -/
/-- no parameter, or one that has a default -/
def LamSig (p : Arguments) (scope : Scope) : Prop :=
  (p.defaults.isEmpty = true ∧ ∀ (body : FuncBody) (clos : List (Str × Addr)) (doc pm ctv : Value) (q : Addr), bindArgs (PySem.W.kdv_fn "<lambda>" lamQ p body scope clos .none doc pm (.ref q) ctv) ⟨[], []⟩ = pure []) ∨
  (∃ a : Str, (∀ (body : FuncBody) (clos : List (Str × Addr)) (doc pm ctv : Value) (q d : Addr), ∃ k, bindArgs (PySem.W.kdv_fn "<lambda>" lamQ p body scope clos (.ref d) doc pm (.ref q) ctv) ⟨[], []⟩ = seqItems? (.ref d) >>= k ∧ ∀ v : Value, k (some #[v]) = pure [(a, v)]) ∧
    p.defaults.isEmpty = false ∧ scope.names.lookup a = some .local)
section
variable {X : Cx} {pins : List (Addr × Obj)} {σ : L2.St} {H : Hp} {s : Shared}
theorem lam_in {E : XK} {scope : Scope} {f q : Addr} {m0 : Str → Option Value} {h1 : Heap} {tk : Nat} (I : Inv X pins σ H s) (L : LamN X.N X.env.scope scope) (hd : X.A.handled = none) (hns : h1.Ns s.heap.objs.size m0)
    (kp : ∀ b o, s.heap.get? b = some o → h1.get? b = some o) : Inv (LamX.lamCx X X.A X.stack s H E scope f q) [] σ H { s with heap := h1, toks := tk } := by
  have caught := L.cells I.ok
  have sub : ∀ {y a}, (cloFrom X.env.cells scope.names []).lookup y = some a → X.env.cells.lookup y = some a := fun {y a} e => by
    rcases cloFrom_mem (PySem.mem_of_lookup e) with z | ⟨z1, z2⟩
    · cases z
    · obtain ⟨a1, ha⟩ := caught _ z1 rfl
      have ha : X.env.cells.lookup y = some a1 := ha
      rw [z2, ha] <;> rfl
  have find : ∀ {y}, scope.names.lookup y = some .free → ∃ a, (cloFrom X.env.cells scope.names []).lookup y = some a := fun {y} e =>
    mem_lookup (cloFrom_has (cells := X.env.cells) (acc := []) (PySem.mem_of_lookup e))
  have stays : ∀ {a : Addr} {v : Option Value}, s.heap.IsCell a v → h1.IsCell a v := fun {a v} ⟨o, z1, z2⟩ => ⟨o, kp _ _ z1, z2⟩
  have none_ex : ∀ b : Addr, b ∉ (LamX.lamCx X X.A X.stack s H E scope f q).ex := fun b z => by
    have z : b ∈ ([] : List Addr) := z
    cases z
  have e0 := I.env0
  refine ⟨⟨e0.mod, L.kind, rfl, rfl, Nat.le_refl _, fun y z a z1 z2 => I.ok.inj y z a (sub z1) (sub z2), fun y hy => ?_, fun y a z _ => ?_, fun _ => hd, Around.frames_deeper e0.frames, .inr ⟨rfl, rfl⟩, fun b z => absurd z (none_ex b), e0.bs, e0.bsz,
    fun b _ _ => none_ex b, fun b z => absurd z (none_ex b), e0.funs, e0.frf⟩, rfl, e0.bare, Un.kept kp, ⟨_, hns, fun i y v z1 z2 z3 => ?_⟩, fun y a e => ?_, e0.hok.fresh (Nat.le_refl _), fun y a e => ?_, fun p hp => ?_, e0.hok.kept kp, I.len⟩
  · have hy : scope.names.lookup y = some .cell ∨ scope.names.lookup y = some .free := hy
    rcases hy with hy | hy
    · exact absurd rfl (L.nocell _ (PySem.mem_of_lookup hy))
    · exact find hy
  · have z : false = true := z
    cases z
  · have z3 : Vis scope y := z3
    rcases z3 with z | z | z
    · exact absurd (List.mem_of_getElem? z1) (L.own _ (PySem.mem_of_lookup z) rfl)
    · exact absurd rfl (L.nocell _ (PySem.mem_of_lookup z))
    · obtain ⟨m, _, seen⟩ := I.loc
      have hk := L.free _ (PySem.mem_of_lookup z) rfl
      obtain ⟨w', r, how⟩ := seen i y v z1 z2 (hk.elim (fun k => .inr (.inl k)) fun k => .inr (.inr k))
      obtain ⟨a2, look2⟩ := find z
      refine ⟨w', r, .inr ⟨.inr z, a2, look2, ?_⟩⟩
      rcases how with ⟨k1, _⟩ | ⟨_, a3, z4, z5⟩
      · have k1 : X.env.scope.names.lookup y = some .local := k1
        rcases hk with k2 | k2
        · rw [show X.env.scope.names.lookup y = some NameKind.cell from k2] at k1; cases k1
        · rw [show X.env.scope.names.lookup y = some NameKind.free from k2] at k1; cases k1
      · rw [sub look2] at z4
        cases z4
        exact stays z5
  · obtain ⟨v, z⟩ := I.cell y a (sub e)
    exact ⟨v, stays z⟩
  · exact I.freeC y a (sub e)
  · have hp : p ∈ ([] : List (Addr × Obj)) ++ [] := hp
    cases hp
/-- what the called lambda binds -/
theorem lam_binds {params : Arguments} {body : Expr} {scope : Scope} {clos : List (Str × Addr)} {dv doc pm ctv : Value} {q : Addr} {io N : List Addr} (I : Inv X pins σ H s) (hs : LamSig params scope) (hiff : params.defaults.isEmpty = true ↔ dv = .none) (hdv : DvOk io N H dv) :
    ∃ binds, BindsTo s (PySem.W.kdv_fn "<lambda>" lamQ params (.expr body) scope clos dv doc pm (.ref q) ctv) ⟨[], []⟩ binds ∧ ∀ y ∈ binds, scope.names.lookup y.1 = some .local := by
  rcases hs with ⟨h1, h2⟩ | ⟨a, h1, h2, h3⟩
  · have e := hiff.mp h1
    subst e
    exact ⟨[], BindsTo.of_eq (h2 _ _ _ _ _ _), fun y hy => by cases hy⟩
  · rcases hdv with e | ⟨d, e, _, _, tf⟩
    · rw [hiff.mpr e] at h2
      cases h2
    · subst e
      obtain ⟨o, ho, _⟩ := tf.ex
      obtain ⟨ho, _, its, rr, hit⟩ := I.hok d _ ho
      obtain ⟨oc, hoc, _, sz, hdt⟩ := hit
      obtain ⟨k, e1, e2⟩ := h1 (.expr body) clos doc pm ctv q d
      cases rr with
      | cons r1 r2 =>
        rename_i v its'
        cases r2
        refine ⟨[(a, v)], BindsTo.of_defaults rfl hoc hdt e1 (e2 v), fun y hy => ?_⟩
        rw [List.mem_singleton.mp hy]
        exact h3
end
def callLam (i : Nat) (cl : List (Str × Addr)) (bodies : List (List Nat × EM D)) : EM D := fun l st => match l[i]? with
  | some (some (.lam j cl')) => if cl' = cl then (match bodies.lookup j with
    | some m => m l st
    | none => .fail) else .fail
  | _ => .fail
/-- the lambdas that may be called, their bodies' mirrors -/
def LamBs (X : Cx) (k : Nat) (bodies : List (List Nat × EM D)) : Prop := ∀ (j : List Nat) (m : EM D), bodies.lookup j = some m → ∃ y : LamSyn, lamAt X.prog j = some y ∧ LamN X.N X.env.scope y.scope ∧ LamSig y.params y.scope ∧
  ∀ (s : Shared) (H : Hp) (E : XK) (f q : Addr), Ctx (LamX.lamCx X X.A X.stack s H E y.scope f q) (wD E) k → ME (LamX.lamCx X X.A X.stack s H E y.scope f q) (wD E) y.body m
section
variable {X : Cx} {W : Wi} {k : Nat}
theorem lb_nil : LamBs X k [] := fun _ _ h => by cases h
theorem lb_cons (j : List Nat) {m : EM D} {r : List (List Nat × EM D)} {params : Arguments} {body : Expr} {scope : Scope} (hy : lamAt X.prog j = some ⟨params, body, scope⟩)
    (hb : ∀ (s : Shared) (H : Hp) (E : XK) (f q : Addr), Ctx (LamX.lamCx X X.A X.stack s H E scope f q) (wD E) k → ME (LamX.lamCx X X.A X.stack s H E scope f q) (wD E) body m) (hr : LamBs X k r)
    (hN : lamNB X.N X.env.scope scope = true := by decide +kernel) (hs : LamSig params scope := by first | exact .inl ⟨rfl, fun _ _ _ _ _ _ => rfl⟩ | exact .inr ⟨_, fun _ _ _ _ _ _ _ => ⟨_, rfl, fun _ => rfl⟩, rfl, rfl⟩) : LamBs X k ((j, m) :: r) := fun j' m' h => by
  rw [List.lookup_cons] at h
  cases e : j' == j with
  | true =>
    rw [e] at h
    cases h
    have := beq_iff_eq.mp e
    subst this
    exact ⟨_, hy, lamN_by hN, hs, hb⟩
  | false =>
    rw [e] at h
    exact hr j' m' h
theorem me_callLam (i : Nat) {x : Str} {p1 p2 : Pos} {bodies : List (List Nat × EM D)} (c : Ctx X W (k + 1)) (B : LamBs X k bodies) (hq' : X.env.qual ++ "<lambda>" = lamQ := by rfl) (hN : X.N[i]? = some x := by rfl) (hv : Vis X.env.scope x := by first | exact Or.inl rfl | exact Or.inr (Or.inl rfl) | exact Or.inr (Or.inr rfl))
    (hdb : (x == ("__debug__" : Str)) = false := by decide) (hcd : (x == ("__classdict__" : Str)) = false := by decide) : ME X W (.Call (.Name x p1) [] [] p2) (callLam i X.env.cells bodies) := by
  refine ⟨cE X.kw rD W (callLam i X.env.cells bodies), ⟨fun pins s σ H Q I ⟨io, N, l, st, hl, S, p⟩ => ?_⟩, rg_cE⟩
  unfold callLam at p
  cases hi : l[i]? with
  | none => rw [hi] at p; exact p.elim
  | some oo =>
  rw [hi] at p
  cases oo with
  | none => exact p.elim
  | some d =>
  cases d with
  | lam j cl =>
    obtain ⟨heq, p2'⟩ := post_if p
    clear p
    subst heq
    cases hm : bodies.lookup j with
    | none => rw [hm] at p2'; exact p2'.elim
    | some m =>
    rw [hm] at p2'
    obtain ⟨y, hy, L, hs, hb⟩ := B j m hm
    obtain ⟨v, e1, r⟩ := hl.get hi
    obtain ⟨f, q, dv, rfl, ⟨_, _, hf⟩, ⟨_, _, hq⟩, hdv⟩ := r
    refine wpAny_Call_Name_kw (thn ((pe_var (pos := p1) (i := i) hN hv hdb hcd).run pins s σ H (fun u H1 => u = .ref f ∧ H1 = H) I ⟨.ref f, e1, rfl, rfl⟩) fun u s1 ⟨w, H1, I1, r1, z1, z2⟩ => ?_)
    subst z1 z2
    obtain rfl : u = Value.ref f := r1
    obtain ⟨⟨y2, pm, doc, ctv, hy2, hiff, hob⟩, _, _⟩ := I1.hok f _ hf
    rw [hy] at hy2
    cases hy2
    obtain ⟨⟨oq, vs, t, hoq, dq, nq⟩, _, _⟩ := I1.hok q _ hq
    refine PySem.W.callWith_F0 ⟨_, _, _, _, hob⟩ ?_
    obtain ⟨binds, hbind, hloc⟩ := lam_binds (body := y.body) (clos := cloFrom X.env.cells y.scope.names []) (doc := doc) (pm := pm) (ctv := ctv) (q := q) I1 hs hiff hdv
    have run : codeAny (model X.prog X.w) X.A (.call (.ref f) ⟨[], []⟩) (CR (L2.CX X.prog X.w) X.stack X.prog X.w H1 s1 Q (WE W.w σ)) s1 := by
      refine PySem.W.kla_callFunE (fd := PySem.W.kdv_fn "<lambda>" lamQ y.params (.expr y.body) y.scope (cloFrom X.env.cells y.scope.names []) dv doc pm (.ref q) ctv) (body := y.body) c.room.depth hob rfl L.co L.gen rfl ⟨q, oq, vs, t, rfl, hoq, dq, nq⟩ ?_
      refine hbind _ _ _ _ ?_
      refine wpAny_newFunctionEnv (fun z hz => L.nocell z hz) hloc (fun h1 hns hsb => ⟨I1.nolimit.fresh _ hsb, ?_⟩) L.kind
      show codeAny _ _ (.expr y.body (PySem.W.envX lamQ y.scope s1.heap.objs.size f (.ref q) (cloFrom X.env.cells y.scope.names []))) _ _
      rw [← hq']
      have kept : ∀ b o, s1.heap.get? b = some o → h1.get? b = some o := fun b o e => hsb.extBut b o (Nat.ne_of_lt (Heap.lt_size e)) (Heap.get?_push_of_some _ e)
      have J := lam_in (E := WE W.w σ) (f := f) (q := q) (tk := s1.toks + binds.length) I1 L c.room.hd hns kept
      have cb : Ctx (LamX.lamCx X X.A X.stack s1 H1 (WE W.w σ) y.scope f q) (wD (WE W.w σ)) k := .of (c.room.deeper _) (takes_of rfl rfl rfl rfl) (passes_of rfl) c.nd rfl
      obtain ⟨tb, pb, qb⟩ := hb s1 H1 (WE W.w σ) f q cb
      have hl2 : REnv X.kw (wD (WE W.w σ)) io N H1 l σ := ⟨trivial, hl.2⟩
      exact PySem.W.kla_codeExpr (wpAny_mono (pb.run [] _ σ H1 Q J (qb io N H1 σ l st Q hl2 S p2')) (fun v s2 ⟨w2, H2, J2, rv, hq2⟩ => ⟨w2, H2, J2.os, J2.bare, J2.base, J2.hok, rv, hq2⟩) fun e s2 h2 => h2)
    refine wpAny_call (codeAny_mono run fun r s2 h2 => ?_)
    cases r with
    | error e => exact c.tk σ pins H1 s1 e s2 I1 h2
    | ok fl =>
      cases fl with
      | ret u2 => exact I1.after h2
      | next => exact False.elim h2
      | brk => exact False.elim h2
      | cont => exact False.elim h2
  | _ => exact p.elim
end
end Rf
namespace Rf
set_option autoImplicit false
open PySem PySem.Spec PyProof.Rows L2

/-! ### try: .. several except clauses, each with or without a name -/
abbrev TSu := Addr → Value → Option Addr → TS
/-- the ends with the name at i gone -/
def gone (i : Nat) (D : Ends) : Ends where
  nx := fun σ H => D.nx (σ.set i none) H
  rt := D.rt
  bk := fun σ H => D.bk (σ.set i none) H
  ct := fun σ H => D.ct (σ.set i none) H
def wHds (K : PySem.W.Frag) (Wout : WX) (D : Ends) : List (Value × Option Nat × TSu) → WX
  | [] => Wout
  | (c, none, ts) :: r => fun cls d σ H => ∃ b, PySem.W.exmOne K cls c = some b ∧ (b = true → ∀ a, H a = none → ts a cls d D σ H) ∧ (b = false → wHds K Wout D r cls d σ H)
  | (c, some i, ts) :: r => fun cls d σ H => ∃ b, PySem.W.exmOne K cls c = some b ∧ (b = true → ∀ a, H a = none → ts a cls d (gone i D) (σ.set i (some (.ref a))) H) ∧ (b = false → wHds K Wout D r cls d σ H)
inductive HdP (X : Cx) : List ExceptHandler → List (Value × Option Nat × TSu) → Prop
  | nil : HdP X [] []
  | no {x : Str} {c : Value} {ts : TSu} {b0 : Stmt} {su : List Stmt} {np pp : Pos} {hds : List ExceptHandler} {l : List (Value × Option Nat × TSu)} (hc : Names X x c)
      (hs : ∀ (a : Addr) (oe : Obj) (cls : Value) (d : Option Addr) (pn : List (Addr × Obj)), Zc cls d oe → (∃ vs, oe.data = .fields vs) → PSs (X.suite a ((a, oe) :: pn)) (b0 :: su) (ts a cls d)) (r : HdP X hds l) :
      HdP X (.ExceptHandler (some (.Name x np)) none (b0 :: su) pp :: hds) ((c, none, ts) :: l)
  | as {x n : Str} {i : Nat} {c : Value} {ts : TSu} {b0 : Stmt} {su : List Stmt} {np pp : Pos} {hds : List ExceptHandler} {l : List (Value × Option Nat × TSu)} (hc : Names X x c) (hi : X.N[i]? = some n) (hl : X.env.kindOf n = some .local)
      (hs : ∀ (a : Addr) (oe : Obj) (cls : Value) (d : Option Addr) (pn : List (Addr × Obj)), Zc cls d oe → (∃ vs, oe.data = .fields vs) → PSs (X.suite a ((a, oe) :: pn)) (b0 :: su) (ts a cls d)) (r : HdP X hds l) :
      HdP X (.ExceptHandler (some (.Name x np)) (some n) (b0 :: su) pp :: hds) ((c, some i, ts) :: l)
section
variable {X : Cx} {pins : List (Addr × Obj)}
/-- the end of a suite whose name goes -/
theorem su_gone {n : Str} {i : Nat} {pp : Pos} {a : Addr} {oe : Obj} {σ6 : L2.St} {H6 : Hp} {s6 : Shared} {Q : Shared → Prop} (ok : X.Ok) (nd : X.N.Nodup) (hi : X.N[i]? = some n) (hl : X.env.kindOf n = some .local)
    (S6 : Inv (X.suite a ((a, oe) :: (X.pn ++ pins))) [] σ6 H6 s6) (hq : ∀ s7, Inv X pins (σ6.set i none) H6 s7 → Q s7) :
    wpAny (model X.prog X.w) X.A (do bindName X.env n .none; unbindBehindTheSuite X.env n pp) (fun _ s7 => Q s7) X.xe s6 := gone_ok (S6.unsuite ok) nd hi hl hq
theorem ps_tryM {body : List Stmt} {h0 : ExceptHandler} {hds : List ExceptHandler} {l : List (Value × Option Nat × TSu)} {pos : Pos} {tb : WX → TS} {Wout : WX} (stk : X.stack = X.env :: X.outer) (hf : X.env.frame = some X.env.locals) (nd : X.N.Nodup) (tk : Takes X Wout)
    (hb : ∀ (Y : WX) (pn : List (Addr × Obj)) (xe : Value → Shared → Prop), Takes (X.tr pn xe) Y → PassesOwn (model X.prog X.w) X.A X.env xe → PSs (X.tr pn xe) body (tb Y))
    (hh : HdP X (h0 :: hds) l) : PS X (.Try body (h0 :: hds) [] [] pos) (fun D σ H => tb (wHds X.K Wout D l) D σ H) := by
  refine ⟨fun pins s σ H D I hpre => ?_⟩
  have ok := I.ok
  have fr0 : X.A.frames = some (X.env :: X.outer) := by rw [ok.frames, stk]
  -- a clause after the other
  have walk : ∀ {a : Addr} {B h3 : Heap} {sI s2 : Shared} {σ' : L2.St} {H' : Hp} {cls : Value} {d : Option Addr} {pz : List (Addr × Obj)} (Jz : Inv (X.tr (X.pn ++ pins) X.xe) pz σ' H' sI) (nb : ∀ b o, sI.heap.get? b = some o → b ∉ frs X.stack → B.get? b = some o) (up : sI.heap.UpToSlots h3)
      (fl : HandSPX.FlyingZ B (X.env :: X.outer) a (Zc cls d) h3) (na : H' a = none) (os : s2.os = sI.os) (ag : AllBare s2.gens) {cl : List ExceptHandler} {m : List (Value × Option Nat × TSu)}, HdP X cl m → wHds X.K Wout D m cls d σ' H' →
      wpAny (model X.prog X.w) X.A (handleBy (.ref a) X.env cl) (SP X pins D) X.xe { s2 with heap := h3 } := by
    intro a B h3 sI s2 σ' H' cls d pz Jz nb up fl na os ag cl m hk
    have Jx : Inv X pins σ' H' sI := (show Inv (X.tr (X.pn ++ pins) X.xe) pz σ' H' sI from Jz).ofTry ok
    have J3 : Inv X pins σ' H' { s2 with heap := h3 } := Jx.landed nb fl.1 up os ag
    obtain ⟨oe3, vs3, he3, hz3, hd3⟩ := fl.there
    have far : ∀ {h : Heap} {o : Obj} {vs : Array Value}, h.FunFrames B (X.env :: X.outer) → h.get? a = some o → o.data = .fields vs → a ∉ frs (X.env :: X.outer) := fun {h o vs} ff e dd hm => by
      obtain ⟨_, o2, e2, hno⟩ := ff.mem hm
      rw [e] at e2
      cases e2
      exact hno _ dd
    have farA := far fl.2.2.1 he3 hd3
    have neL : a ≠ X.env.locals := fun z => farA (List.mem_filterMap.mpr ⟨X.env, List.mem_cons_self, by rw [hf, z]⟩)
    have neF : a ∉ X.fs := fun hm => by
      obtain ⟨e, he, z⟩ := List.mem_filterMap.mp hm
      exact farA (List.mem_filterMap.mpr ⟨e, List.mem_cons_of_mem _ he, z⟩)
    have S3 := J3.suite he3 hd3 na neL neF
    have LT : PySem.W.Looks (model X.prog X.w) h3 (typeOf (.ref a)) cls := fun A Q E t k z => wpAny_typeOf_ref (k _ _ he3) (by rw [hz3.1]; exact z)
    have test : ∀ {x : Str} {c : Value} {np : Pos} {Q : Value → Shared → Prop} {E : Value → Shared → Prop}, Names X x c → Q c { s2 with heap := h3 } → wpAny (model X.prog X.w) (X.A.mark (some (.ref a))) (eval (.Name x np) X.env) Q E { s2 with heap := h3 } := fun {x c np Q E} hn z => by
      obtain ⟨hg, hdbg, hm | ⟨hm, hv, hnn⟩⟩ := hn
      · exact ld_glob (X := X.suite a ((a, oe3) :: (X.pn ++ pins))) S3 hg hm z hdbg
      · exact ld_blt (X := X.suite a ((a, oe3) :: (X.pn ++ pins))) S3 hg hm hv z hnn hdbg
    induction hk with
    | nil =>
      intro w
      refine wpAny_handleBy_nil ?_
      obtain ⟨k1, k2, k3, oe, vs, T, oT, ts', he, hz, hd, h1, hr⟩ := id fl
      unfold PySem.passOn
      refine wpAny_bind (wpAny_field he hd h1 ?_)
      rw [if_neg (show ¬ ((Value.ref T == Value.none) = true) by simp)]
      have last : wpAny (model X.prog X.w) X.A (setFlight (.ref a) X.env.frame) (fun _ t => wpAny (model X.prog X.w) X.A (throw (.ref a) : Sem Flow) (SP X pins D) X.xe t) X.xe { s2 with heap := h3 } := by
        rw [hf]
        refine HandSPX.setFlight_upZ fl fun h4 hh4 up4 => wpAny_throw (tk _ _ ?_)
        exact ⟨a, B, sI, pins, σ', H', cls, d, rfl, Jx, nb, up.trans up4, .inr (.inr (by rw [stk]; exact hh4)), na, os, ag, w⟩
      first
        | exact wpAny_bind (wpAny_pure (wpAny_bind last))
        | exact wpAny_bind last
    | @no x c ts b0 su np pp hds2 l2 hc hsu r ih =>
      intro w
      obtain ⟨b, hb1, hyes, hno⟩ := w
      have LM := PySem.W.exm_one (M := model X.prog X.w) (J3.kIn) LT hb1
      refine wpAny_handleBy_cons (codeAny_handlers_test (test hc (LM.here ?_))) (by intro z; cases z)
      cases b with
      | false => exact ih (hno rfl)
      | true =>
        refine codeAny_handlers_suite (HandSPX.lands_againZ fl fun h4 fl4 up4 => ?_)
        have J4 : Inv X pins σ' H' { s2 with heap := h4 } := Jx.landed nb fl4.1 (up.trans up4) os ag
        obtain ⟨oe4, vs4, he4, hz4, hd4⟩ := fl4.there
        have S4 := J4.suite he4 hd4 na neL neF
        refine wpAny_mono ((hsu a oe4 cls d (X.pn ++ pins) hz4 ⟨_, hd4⟩).run [] _ _ H' _ S4 (hyes rfl a na)) (fun f t6 hsp => ?_) fun _ _ z => z.elim
        cases f with
        | next => obtain ⟨σ6, H6, S6, q6⟩ := hsp; exact ⟨_, _, S6.unsuite ok, q6⟩
        | brk => obtain ⟨σ6, H6, S6, q6⟩ := hsp; exact ⟨_, _, S6.unsuite ok, q6⟩
        | cont => obtain ⟨σ6, H6, S6, q6⟩ := hsp; exact ⟨_, _, S6.unsuite ok, q6⟩
        | ret u => obtain ⟨v6, σ6, H6, S6, r6, q6⟩ := hsp; exact ⟨_, _, _, S6.unsuite ok, r6, q6⟩
    | @as x n i c ts b0 su np pp hds2 l2 hc hi hl hsu r ih =>
      intro w
      obtain ⟨b, hb1, hyes, hno⟩ := w
      have LM := PySem.W.exm_one (M := model X.prog X.w) (J3.kIn) LT hb1
      refine wpAny_handleBy_cons (codeAny_handlers_test (test hc (LM.here ?_))) (by intro z; cases z)
      cases b with
      | false => exact ih (hno rfl)
      | true =>
        refine codeAny_handlers_suite_as (HandSPX.lands_againZ fl fun h4 fl4 up4 => ?_)
        have J4 : Inv X pins σ' H' { s2 with heap := h4 } := Jx.landed nb fl4.1 (up.trans up4) os ag
        obtain ⟨oe4, vs4, he4, hz4, hd4⟩ := fl4.there
        have S4 := J4.suite he4 hd4 na neL neF
        refine store_ok (X := X.suite a ((a, oe4) :: (X.pn ++ pins))) (v := .ref a) S4 nd hi (.inl hl) rfl (fun t5 S5 => ?_) (.inr hl)
        refine wpAny_mono ((hsu a oe4 cls d (X.pn ++ pins) hz4 ⟨_, hd4⟩).run [] t5 _ H' _ S5 (hyes rfl a na)) (fun f t6 hsp => ?_) fun _ _ z => z.elim
        cases f with
        | next => obtain ⟨σ6, H6, S6, q6⟩ := hsp; exact su_gone ok nd hi hl S6 fun s7 J7 => ⟨_, _, J7, q6⟩
        | brk => obtain ⟨σ6, H6, S6, q6⟩ := hsp; exact su_gone ok nd hi hl S6 fun s7 J7 => ⟨_, _, J7, q6⟩
        | cont => obtain ⟨σ6, H6, S6, q6⟩ := hsp; exact su_gone ok nd hi hl S6 fun s7 J7 => ⟨_, _, J7, q6⟩
        | ret u => obtain ⟨v6, σ6, H6, S6, r6, q6⟩ := hsp; exact su_gone ok nd hi hl S6 fun s7 J7 => ⟨_, _, _, J7, r6, q6⟩
  refine wpAny_Try_except ?_
  have hbody := hb (wHds X.K Wout D l) (X.pn ++ pins) (fun e s1 => wpAny (model X.prog X.w) X.A (noteFrame e X.env) (fun _ s2 => wpAny (model X.prog X.w) X.A (setFlight e none)
    (fun _ s3 => wpAny (model X.prog X.w) X.A (handleBy e X.env (h0 :: hds)) (SP X pins D) X.xe s3) X.xe s2) X.xe s1) (fun u t xx => ?_) PassesOwn.looking
  · refine wpAny_mono (hbody.run [] s σ H D (I.toTry _) hpre) (fun f s1 hsp => ?_) fun e s1 he => he
    cases f with
    | next => obtain ⟨σ1, H1, J1, q⟩ := hsp; exact wpAny_execs_nil ⟨σ1, H1, J1.ofTry ok, q⟩
    | brk => obtain ⟨σ1, H1, J1, q⟩ := hsp; exact ⟨σ1, H1, J1.ofTry ok, q⟩
    | cont => obtain ⟨σ1, H1, J1, q⟩ := hsp; exact ⟨σ1, H1, J1.ofTry ok, q⟩
    | ret u => obtain ⟨v, σ1, H1, J1, r, q⟩ := hsp; exact ⟨v, σ1, H1, J1.ofTry ok, r, q⟩
  · obtain ⟨a, B, sI, pz, σ', H', cls, d, rfl, Jz, nb, up, sky, na, os, ag, w⟩ := xx
    have Jx : Inv X pins σ' H' sI := Jz.ofTry ok
    have sky2 : Sky B (X.env :: X.outer) a (Zc cls d) X.env.locals t.heap := by rw [← stk]; exact sky
    show wpAny _ X.A (noteFrame (.ref a) X.env) _ _ _
    refine Sky.land Zc.steady fr0 hf sky2 fun h3 fl3 up3 => ?_
    exact walk (Jx.toTry X.xe) nb (up.trans up3) fl3 na os ag hh w
end
abbrev HdM := (Str → Option Bool) × Option Nat × (Str → List (Str × D) → SM)
def xEnd0 (z : Sz) : Sz := match z with
  | .exc _ _ _ _ => .fail
  | z => z
/-- the clauses, one after the other -/
def hdGo : List HdM → Str → List (Str × D) → SM
  | [], c, fs, l, st => .exc c fs l st
  | (exm, some i, suite) :: r, c, fs, l, st => (match exm c with
    | some true => if i < l.length then xEnd i (suite c fs (l.set i none) st) else .fail
    | some false => hdGo r c fs l st
    | none => .fail)
  | (exm, none, suite) :: r, c, fs, l, st => (match exm c with
    | some true => xEnd0 (suite c fs l st)
    | some false => hdGo r c fs l st
    | none => .fail)
def tryMs (body : SM) (hs : List HdM) : SM := fun l st => match body l st with
  | .exc c fs l' st' => hdGo hs c fs l' st'
  | z => z
inductive MHs (X : Cx) (W : Wi) : List ExceptHandler → List HdM → Prop
  | nil : MHs X W [] []
  | no {x : Str} {b0 : Stmt} {su : List Stmt} {np pp : Pos} {exm : Str → Option Bool} {suite : Str → List (Str × D) → SM} {hds : List ExceptHandler} {l : List HdM} (hc : Names X x (.ref (He.ga X.K x)))
      (hx : ∀ c b, exm c = some b → PySem.W.exmOne X.K (.ref (He.ga X.K c)) (.ref (He.ga X.K x)) = some b)
      (hs : ∀ (a : Addr) (oe : Obj) (cls : Value) (d : Option Addr) (pn : List (Addr × Obj)) (c : Str) (fs : List (Str × D)), Zc cls d oe → (∃ vs, oe.data = .fields vs) → MSs (X.suite a ((a, oe) :: pn)) W.inn (b0 :: su) (suite c fs)) (r : MHs X W hds l) :
      MHs X W (.ExceptHandler (some (.Name x np)) none (b0 :: su) pp :: hds) ((exm, none, suite) :: l)
  | as (i : Nat) {x n : Str} {b0 : Stmt} {su : List Stmt} {np pp : Pos} {exm : Str → Option Bool} {suite : Str → List (Str × D) → SM} {hds : List ExceptHandler} {l : List HdM} (hc : Names X x (.ref (He.ga X.K x)))
      (hx : ∀ c b, exm c = some b → PySem.W.exmOne X.K (.ref (He.ga X.K c)) (.ref (He.ga X.K x)) = some b)
      (hs : ∀ (a : Addr) (oe : Obj) (cls : Value) (d : Option Addr) (pn : List (Addr × Obj)) (c : Str) (fs : List (Str × D)), Zc cls d oe → (∃ vs, oe.data = .fields vs) → MSs (X.suite a ((a, oe) :: pn)) (wX X.kw W i a cls d c fs) (b0 :: su) (suite c fs)) (r : MHs X W hds l)
      (hi : X.N[i]? = some n := by rfl) (hl : X.env.kindOf n = some .local := by rfl) (hp : W.may [i] = true := by rfl) :
      MHs X W (.ExceptHandler (some (.Name x np)) (some n) (b0 :: su) pp :: hds) ((exm, some i, suite) :: l)
section
variable {X : Cx} {W : Wi} {k : Nat}
theorem mhs_ok {hds : List ExceptHandler} {l : List HdM} (h : MHs X W hds l) : ∃ l', HdP X hds l' ∧ ∀ (D : Ends) (io N : List Addr) (H : Hp) (s : L2.St) (e : Sl) (st : Store) (c : Str) (fs : List (Str × Rf.D)) (cls : Value) (dd : Option Addr),
    REnv X.kw W io N H e s → RSt X.kw io N H st → RepX X.kw io N H c fs cls dd → PostS X.kw io N H (hdGo l c fs e st) D W → wHds X.K W.w D l' cls dd s H := by
  induction h with
  | nil => exact ⟨[], .nil, fun D io N H s e st c fs cls dd r S rx p => p io H s cls dd (Ext.refl _ _) r S rx⟩
  | @no x b0 su np pp exm suite hds l hc hx hs r ih =>
    obtain ⟨l', h1, h2⟩ := ih
    refine ⟨_, .no (ts := fun a cls d D s H => ∃ c fs, cS X.kw W.inn (suite c fs) D s H) hc (fun a oe cls d pn hz hf => ⟨fun pins s σ H D I ⟨c, fs, h⟩ => (hs a oe cls d pn c fs hz hf).ps.run pins s σ H D I h⟩) h1, ?_⟩
    intro D io N H s e st c fs cls dd r0 S rx p
    unfold hdGo at p
    cases hb : exm c with
    | none => rw [hb] at p; exact p.elim
    | some b =>
    rw [hb] at p
    refine ⟨b, by rw [rx.1]; exact hx c b hb, fun z a _ => ?_, fun z => ?_⟩
    · subst z
      refine ⟨c, fs, io, N, e, st, r0, S, ?_⟩
      have p : PostS X.kw io N H (xEnd0 (suite c fs e st)) D W := p
      cases hz : suite c fs e st with
      | exc _ _ _ _ => rw [hz] at p; exact p.elim
      | nx l2 st2 => rw [hz] at p; exact p
      | ct l2 st2 => rw [hz] at p; exact p
      | bk l2 st2 => rw [hz] at p; exact p
      | rt d2 st2 => rw [hz] at p; exact p
      | fail => rw [hz] at p; exact p
    · subst z
      exact h2 D io N H s e st c fs cls dd r0 S rx p
  | @as i x n b0 su np pp exm suite hds l hc hx hs r hi hl hp ih =>
    obtain ⟨l', h1, h2⟩ := ih
    have hpi := Wi.may_of hp (i := i) (by simp)
    refine ⟨_, .as (i := i) (ts := fun a cls d D s H => ∃ c fs, cS X.kw (wX X.kw W i a cls d c fs) (suite c fs) D s H) hc hi hl (fun a oe cls d pn hz hf => ⟨fun pins s σ H D I ⟨c, fs, h⟩ => (hs a oe cls d pn c fs hz hf).ps.run pins s σ H D I h⟩) h1, ?_⟩
    intro D io N H s e st c fs cls dd r0 S rx p
    unfold hdGo at p
    cases hb : exm c with
    | none => rw [hb] at p; exact p.elim
    | some b =>
    rw [hb] at p
    refine ⟨b, by rw [rx.1]; exact hx c b hb, fun z a _ => ?_, fun z => ?_⟩
    · subst z
      have hfacts : fs = [] ∨ ∃ d2 xs, dd = some d2 ∧ d2 ∉ io ∧ H d2 = some (.xd xs) ∧ ∀ f v w, fs.lookup f = some v → sv v = some w → xs.lookup f = some w := rx.2.imp id fun ⟨d2, xs, q1, q2, q3⟩ => ⟨d2, xs, q1, rst_xd S q2, q2, fun f v w z1 z2 => by
        obtain ⟨v', z3, z4⟩ := q3.look.2 v z1
        rw [z3, sv_ok z4 z2]⟩
      obtain ⟨hlen, p⟩ := postS_if (show PostS X.kw io N H (if i < e.length then xEnd i (suite c fs (e.set i none) st) else .fail) D W from p)
      have hlen2 : i < s.length := by rw [r0.len]; exact hlen
      have I2 : REnv X.kw (wX X.kw W i a cls dd c fs) io N H (e.set i none) (s.set i (some (.ref a))) := ⟨⟨W.set hpi r0.1, List.getElem?_set_self hlen2, rx.1, hfacts⟩, REn0.unset i r0.2⟩
      refine ⟨c, fs, io, N, _, st, I2, S, ?_⟩
      cases hz : suite c fs (e.set i none) st with
      | nx l2 st2 =>
        rw [hz] at p
        exact fun io2 H2 s2 ex2 r2 S2 => p io2 H2 _ ex2 ⟨W.set hpi r2.1.1, REn0.unset i r2.2⟩ S2
      | bk l2 st2 =>
        rw [hz] at p
        exact fun io2 H2 s2 ex2 r2 S2 => p io2 H2 _ ex2 ⟨W.set hpi r2.1.1, REn0.unset i r2.2⟩ S2
      | ct l2 st2 =>
        rw [hz] at p
        exact fun io2 H2 s2 ex2 r2 S2 => p io2 H2 _ ex2 ⟨W.set hpi r2.1.1, REn0.unset i r2.2⟩ S2
      | rt d2 st2 => rw [hz] at p; exact p
      | exc _ _ _ _ => rw [hz] at p; exact p.elim
      | fail => rw [hz] at p; exact p.elim
    · subst z
      exact h2 D io N H s e st c fs cls dd r0 S rx p
theorem ms_tryM {body : List Stmt} {h0 : ExceptHandler} {hds : List ExceptHandler} {mb : SM} {l : List HdM} {pos : Pos} (cx : Ctx X W k)
    (hb : ∀ (Y : WX) (pn : List (Addr × Obj)) (xe : Value → Shared → Prop), Ctx (X.tr pn xe) (W.wi Y) k → MSs (X.tr pn xe) (W.wi Y) body mb) (hh : MHs X W (h0 :: hds) l)
    (hs : X.stack = X.env :: X.outer := by rfl) (hf : X.env.frame = some X.env.locals := by rfl) : MS X W (.Try body (h0 :: hds) [] [] pos) (tryMs mb l) := by
  obtain ⟨l', hP, hR⟩ := mhs_ok hh
  refine ⟨_, ps_tryM (tb := fun Y => cS X.kw (W.wi Y) mb) hs hf cx.nd cx.tx (fun Y pn xe tk po => (hb Y pn xe (.of cx.room tk po cx.nd cx.calm)).ps) hP, fun io N H s e st D he S p => ?_⟩
  refine ⟨io, N, e, st, he, S, ?_⟩
  unfold tryMs at p
  cases hz : mb e st with
  | exc c fs l2 st2 =>
    rw [hz] at p
    intro io1 H1 s1 cls dd ex1 r1 S1 rx
    exact hR D io1 N H1 s1 l2 st2 c fs cls dd r1 S1 rx (PostS.step ex1 p)
  | nx l2 st2 => rw [hz] at p; exact p
  | bk l2 st2 => rw [hz] at p; exact p
  | ct l2 st2 => rw [hz] at p; exact p
  | rt d st2 => rw [hz] at p; exact p
  | fail => rw [hz] at p; exact p
end
end Rf
namespace Rf
set_option autoImplicit false
open PySem PySem.Spec L2

/-! ### a law with lambdas: its mirror is told the cells of its frame -/
theorem fn_mkC {P : Program} {w : World} {K : PySem.W.Frag} {mg : Str → Option Value} {base : Heap} {x qual : Str} {params : Arguments} {body : List Stmt} {scope : Scope} {at_ : Str × Option Str} {fd : FuncData} {Ns ps : List Str} {j : Nat} {m : List (Str × Addr) → SM} (F : FunD K x qual params body scope [] [] (He.fAd K at_) fd) (S : FnScope Ns ps scope)
    (h : ∀ (cdv : Value) (A : Around) (outer : List PySem.Env) (s : Shared) (H : Hp) (E : XK), cdv = .ref (He.cT K at_).1 → Ctx (cxOf (L2.CX P w) P w K mg base Ns qual scope (He.fAd K at_) cdv A outer s H E) (wD E) j →
      MSs (cxOf (L2.CX P w) P w K mg base Ns qual scope (He.fAd K at_) cdv A outer s H E) (wD E) body (m (cxOf (L2.CX P w) P w K mg base Ns qual scope (He.fAd K at_) cdv A outer s H E).env.cells)) :
    FnOk P w K mg base (L2.CX P w) (j + 1) (He.fAd K at_) fd ps (fun vs H Q E => ∀ cl, spF ⟨K, P, w⟩ ps.length (dfM ps.length Ns.length (m cl)) vs H Q E) := by
  obtain ⟨oc, od, dV, kV, doc, pm, an, cdv, ct, osl, rfl, lk, hcd, _, _⟩ := F.ex
  have ecd : cdv = .ref (He.cT K at_).1 := by
    obtain ⟨c, rfl⟩ := He.codeIn_ref hcd
    have := He.codeOf_eq lk (c := c) rfl
    show Value.ref c = .ref (He.codeOf K at_)
    rw [this]
  refine fn_of lk hcd S (fun vs H Q E h => (h []).1) fun A outer s H vs Q E hr hall => ?_
  obtain ⟨hlen, io, N, ds, st, r, hs, p⟩ := hall (cxOf (L2.CX P w) P w K mg base Ns qual scope (He.fAd K at_) cdv A outer s H E).env.cells
  obtain ⟨t, p1, q1⟩ := h cdv A outer s H E ecd (.of hr (takes_of rfl rfl rfl rfl) (passes_of rfl) S.nd rfl)
  refine ⟨t, p1, ?_⟩
  have hd : ds.length = ps.length := by rw [← r.len]; exact hlen
  unfold dfM at p
  rw [if_pos hd] at p
  have hl : REnv ⟨K, P, w⟩ (wD E) io N H (ds.map some ++ List.replicate (Ns.length - ps.length) none) (L2.start Ns vs) := by
    unfold L2.start
    rw [hlen]
    exact ⟨trivial, env_start _ r⟩
  refine q1 io N H _ _ st _ hl hs ?_
  cases e : m (cxOf (L2.CX P w) P w K mg base Ns qual scope (He.fAd K at_) cdv A outer s H E).env.cells (ds.map some ++ List.replicate (Ns.length - ps.length) none) st with
  | nx l' st' =>
    rw [e] at p
    exact fun io' H' s' ex rl S' => p io' H' .non ex S' rfl
  | rt d st' =>
    rw [e] at p
    exact p
  | exc c fs l' st' =>
    rw [e] at p
    exact fun io' H' s' cls dd ex rl S' rx => p io' H' cls dd ex S' rx
  | bk l' st' =>
    rw [e] at p
    exact p.elim
  | ct l' st' =>
    rw [e] at p
    exact p.elim
  | fail =>
    rw [e] at p
    exact p.elim
/-- a table of the start store: with lambdas, or without -/
def oK (lm : List He.Defn) (p : He.Defn) : O := if p ∈ lm then .tl p else .tb p
section
variable {K : PySem.W.Frag} {fa : List He.Fa} {fx : List Fx} {fn : List He.DefD} {tf lm : List He.Defn} {w : World} {h : Heap}
theorem lpostL {P : Program} {H : Hp} {a : Addr} {ns : List Int} {m : List (Str × Addr) → FM} (hS : SqL K H a (ns.map V.int)) (hT : ∀ p ∈ tf, H (He.cT K p).2 = some (.tbl #[])) (nd : (tf.map fun p => (He.cT K p).2).Nodup)
    (e : ∀ cl, ∃ st', m cl [.rd (ns.map D.int)] (tf.map (oK lm)) = .ok (.bl true) st') : ∀ cl, spF ⟨K, P, w⟩ 1 (m cl) [.ref a] H (fun v _ => v = .bl true) fun _ _ _ => False := fun cl => by
  obtain ⟨st', e⟩ := e cl
  have hio : ∀ b ∈ tf.map fun p => (He.cT K p).2, H b = some (.tbl #[]) := fun b hb => by
    obtain ⟨p, hp, rfl⟩ := List.mem_map.mp hb
    exact hT p hp
  refine ⟨rfl, tf.map fun p => (He.cT K p).2, [], [.rd (ns.map D.int)], tf.map (oK lm), ⟨_, _, rfl, ⟨a, _, rfl, ?_, Reps.of_ints ns⟩, rfl⟩, ⟨by simp, nd, fun n o ho => ?_, fun a h => by simp at h⟩, ?_⟩
  · rcases hS with hS | hS
    · refine .inl ⟨fun hb => ?_, by simp, hS⟩
      have := hio a hb
      rcases hS with z | ⟨o, z⟩ <;> rw [this] at z <;> cases z
    · exact .inr fun H' => .inr hS
  · rw [List.getElem?_map] at ho
    obtain ⟨p, hp, rfl⟩ := Option.map_eq_some_iff.mp ho
    refine ⟨_, _, by rw [List.getElem?_map, hp]; rfl, hT p (List.mem_of_getElem? hp), ?_⟩
    unfold oK
    split
    · exact ⟨rfl, #[], rfl, trivial, fun pos cv hc => by
        have z : codeAmong pos [] = some cv := hc
        simp [codeAmong] at z⟩
    · exact ⟨rfl, #[], rfl, trivial⟩
  · rw [e]
    intro io' H' v _ _ r
    exact r
end
end Rf
namespace K01
open PySem PySem.Spec L2 Rf
def top (i : Nat) : Stmt := PySem.Challenge.pw_lockturns_k01_whole_locks.main.body.getD i (.Pass ⟨0, 0, 0, 0⟩)

-- _law_alike: 0=_law_found, 1=_law_due, 2=_law_k
-- _law_back: 0=_law_turn, 1=_law_place
-- _law_behind: 0=_law_one, 1=_law_other, 2=_law_place
-- _law_is: 0=_law_found, 1=_law_due
-- _law_taken: 0=_law_row, 1=_law_many, 2=_law_found, 3=_law_cell
-- _law_permutation: 0=_law_row, 1=_law_places, 2=_law_left, 3=_law_found, 4=_law_turn
-- _law_pick: 0=_law_row, 1=_law_things
-- _law_known: 0=_law_row, 1=_law_kinds, 2=_law_locks, 3=_law_lock_here, 4=_law_order, 5=_law_found, 6=_law_turn, 7=_law_named, 8=_law_place, 9=_law_comes
-- _law_lock: 0=_law_row, 1=_law_kinds, 2=_law_places, 3=_law_turn
-- _law_span: 0=_law_places, 1=_law_given, 2=_law_found, 3=_law_turn, 4=_law_one, 5=_law_later, 6=_law_other
-- _law_swap: 0=_law_one, 1=_law_other
-- _law_words: 0=_law_lock_here, 1=_law_nought, 2=_law_found, 3=_law_order, 4=_law_turn, 5=_law_one, 6=_law_place, 7=_law_other, 8=_law_two
-- is_number: 0=value, 1=low, 2=high
-- is_turn: 0=places, 1=value, 2=place
-- behind: 0=one, 1=other, 2=place
-- still: 0=places
-- spanned: 0=places, 1=given, 2=found, 3=layer, 4=later, 5=turn, 6=other, 7=one
-- turns_of: 0=lock
-- need_lock: 0=value, 1=place, 2=turn
-- all_turns: 0=lock
-- is_made: 0=lock, 1=turn
-- need_turn: 0=lock, 1=value
-- product: 0=places, 1=turns, 2=found, 3=turn
-- join: 0=lock, 1=turns, 2=turn
-- times_round: 0=turn, 1=found, 2=now
-- rounds: 0=lock, 1=turn
-- back: 0=turn, 1=found, 2=place, 3=comes
-- swap_of: 0=one, 1=other
-- swapped: 0=lock, 1=one, 2=other
-- undo: 0=lock, 1=turn
-- word_for: 0=lock, 1=turn, 2=found, 3=layer, 4=later, 5=one, 6=place, 7=other, 8=two
-- law: 0=_law_script, 1=_law_row, 2=_law_lock_here, 3=_law_places, 4=_law_whole, 5=_law_one, 6=_law_other, 7=_law_drawn, 8=_law_some, 9=_law_due, 10=_law_turn, 11=_law_told, 12=_law_now, 13=_law_many, 14=_law_odds, 15=_law_odd, 16=e, 17=_law_words_here, 18=_law_work
abbrev s__law_alike : Stmt := top 33
theorem sc__law_alike : FnScope ["_law_found", "_law_due", "_law_k"] ["_law_found", "_law_due"] (defScope s__law_alike) := ⟨rfl, rfl, rfl, by decide +kernel, rfl, by decide +kernel, by decide +kernel⟩
def b__law_alike (r__law_alike : FM) : SM :=
    (sq (ifS (tst (isi2M .tup .lst (vr 1)))
    (sq (ifS (orT (notT (tst (isi2M .tup .lst (vr 0)))) (tst (b2 neM (isiM .lst (vr 0)) (isiM .lst (vr 1)))))
    (retM (cst (.bl false)))
    nextM)
    (sq (ifS (tst (b2 neM (callM lenM2 (consA (vr 0) nilA)) (callM lenM2 (consA (vr 1) nilA))))
    (retM (cst (.bl false)))
    nextM)
    (retM (b2 eqM (fz (lcM (itR1 (consA (callM lenM2 (consA (vr 1) nilA)) nilA)) (.nm 2) (notT (tst (callM r__law_alike (consA (b2 ixM2 (vr 0) (vr 2)) (consA (b2 ixM2 (vr 1) (vr 2)) nilA))))) (vr 2) [2])) (fz (disp nilA))))))
    nextM)
    (sq (ifS (orT (tst (b2 isNM (vr 1) (cst .non))) (tst (isiM .str (vr 1))))
    (retM (andV (b2 eqM (vr 0) (vr 1)) (b2 eqM (isiM .str (vr 0)) (isiM .str (vr 1)))))
    nextM)
    (retM (andV (isiM .int (vr 0)) (andV (b2 eqM (isiM .bl (vr 0)) (isiM .bl (vr 1))) (b2 eqM (vr 0) (vr 1)))))))
def S__law_alike : Nat → FM
  | 0 => (dfM 2 3 (fun _ _ => .fail))
  | n + 1 => (dfM 2 3 (b__law_alike (S__law_alike n)))
def F__law_alike (n : Nat) : FM := (S__law_alike n)
theorem F__law_alike_succ (n : Nat) : F__law_alike (n + 1) = dfM 2 3 (b__law_alike (F__law_alike n)) := rfl
theorem F__law_alike_zero : F__law_alike 0 = dfM 2 3 (fun _ _ => .fail) := rfl
abbrev s__law_back : Stmt := top 37
theorem sc__law_back : FnScope ["_law_turn", "_law_place"] ["_law_turn"] (defScope s__law_back) := ⟨rfl, rfl, rfl, by decide +kernel, rfl, by decide +kernel, by decide +kernel⟩
def b__law_back : SM :=
    (retM (callM tupOf (consA (fz (lcM (itR1 (consA (callM lenM2 (consA (vr 0) nilA)) nilA)) (.nm 1) yesM (tidxM (vr 0) (vr 1)) [1])) nilA)))
def m__law_back : FM := dfM 1 2 b__law_back
abbrev s__law_behind : Stmt := top 36
theorem sc__law_behind : FnScope ["_law_one", "_law_other", "_law_place"] ["_law_one", "_law_other"] (defScope s__law_behind) := ⟨rfl, rfl, rfl, by decide +kernel, rfl, by decide +kernel, by decide +kernel⟩
def b__law_behind : SM :=
    (retM (callM tupOf (consA (fz (lcM (itA (vr 0)) (.nm 2) yesM (b2 ixM2 (vr 1) (vr 2)) [2])) nilA)))
def m__law_behind : FM := dfM 2 3 b__law_behind
abbrev s__law_is : Stmt := top 34
theorem sc__law_is : FnScope ["_law_found", "_law_due"] ["_law_found", "_law_due"] (defScope s__law_is) := ⟨rfl, rfl, rfl, by decide +kernel, rfl, by decide +kernel, by decide +kernel⟩
def b__law_is : SM :=
    (retM (andV (isiM .bl (vr 0)) (b2 eqM (vr 0) (vr 1))))
def m__law_is : FM := dfM 2 2 b__law_is
abbrev s__law_taken : Stmt := top 31
theorem sc__law_taken : FnScope ["_law_row", "_law_many", "_law_found", "_law_cell"] ["_law_row", "_law_many"] (defScope s__law_taken) := ⟨rfl, rfl, rfl, by decide +kernel, rfl, by decide +kernel, by decide +kernel⟩
def b__law_taken : SM :=
    (sq (ifS (tst (b2 gtM (b2 ixM2 (vr 0) (cst (.int 3))) (cst (.int 0))))
    (sq (setM 2 (b2 modM (callM intOf (consA (b2 ixM2 (vr 0) (cst (.int 3))) nilA)) (vr 1)))
    (sq (setAt (b2 fdivM (b2 ixM2 (vr 0) (cst (.int 3))) (vr 1)) (vr 0) (cst (.int 3)))
    (retM (vr 2))))
    nextM)
    (sq (setAt (b2 plusM (b2 ixM2 (vr 0) (cst (.int 1))) (cst (.int 1))) (vr 0) (cst (.int 1)))
    (sq (ifS (tst (b2 gtM (b2 ixM2 (vr 0) (cst (.int 1))) (callM lenM2 (consA (b2 ixM2 (vr 0) (cst (.int 0))) nilA))))
    (sq (setAt (b2 modM (callM intOf (consA (b2 plusM (b2 timesM (b2 ixM2 (vr 0) (cst (.int 2))) (cst (.int 48271))) (cst (.int 11))) nilA)) (cst (.int 2147483647))) (vr 0) (cst (.int 2)))
    (retM (b2 modM (callM intOf (consA (b2 fdivM (b2 ixM2 (vr 0) (cst (.int 2))) (cst (.int 7))) nilA)) (vr 1))))
    nextM)
    (sq (setM 3 (b2 ixM2 (b2 ixM2 (vr 0) (cst (.int 0))) (b2 subM (b2 ixM2 (vr 0) (cst (.int 1))) (cst (.int 1)))))
    (sq (setAt (b2 modM (callM intOf (consA (b2 plusM (b2 plusM (b2 timesM (b2 ixM2 (vr 0) (cst (.int 2))) (cst (.int 48271))) (vr 3)) (cst (.int 11))) nilA)) (cst (.int 2147483647))) (vr 0) (cst (.int 2)))
    (sq (ifS (tst (b2 geM (vr 3) (b2 powM (cst (.int 10)) (cst (.int 18)))))
    (setAt (b2 fdivM (vr 3) (vr 1)) (vr 0) (cst (.int 3)))
    nextM)
    (retM (b2 modM (callM intOf (consA (vr 3) nilA)) (vr 1)))))))))
def m__law_taken : FM := dfM 2 4 b__law_taken
abbrev s__law_permutation : Stmt := top 35
theorem sc__law_permutation : FnScope ["_law_row", "_law_places", "_law_left", "_law_found", "_law_turn"] ["_law_row", "_law_places"] (defScope s__law_permutation) := ⟨rfl, rfl, rfl, by decide +kernel, rfl, by decide +kernel, by decide +kernel⟩
def b__law_permutation : SM :=
    (sq (parM 2 3 (consA (al (rgM (vr 1))) (consA (al (disp nilA)) nilA)))
    (sq (forM (itR1 (consA (vr 1) nilA)) (.nm 4)
    (exprM (appM (vr 3) (popM (vr 2) (callM m__law_taken (consA (vr 0) (consA (callM lenM2 (consA (vr 2) nilA)) nilA)))))))
    (retM (callM tupOf (consA (vr 3) nilA)))))
def m__law_permutation : FM := dfM 2 5 b__law_permutation
abbrev s__law_pick : Stmt := top 32
theorem sc__law_pick : FnScope ["_law_row", "_law_things"] ["_law_row", "_law_things"] (defScope s__law_pick) := ⟨rfl, rfl, rfl, by decide +kernel, rfl, by decide +kernel, by decide +kernel⟩
def b__law_pick : SM :=
    (retM (b2 ixM2 (vr 1) (callM m__law_taken (consA (vr 0) (consA (callM lenM2 (consA (vr 1) nilA)) nilA)))))
def m__law_pick : FM := dfM 2 2 b__law_pick
abbrev s__law_known : Stmt := top 40
theorem sc__law_known : FnScope ["_law_row", "_law_kinds", "_law_locks", "_law_lock_here", "_law_order", "_law_found", "_law_turn", "_law_named", "_law_place", "_law_comes"] ["_law_row", "_law_kinds"] (defScope s__law_known) := ⟨rfl, rfl, rfl, by decide +kernel, rfl, by decide +kernel, by decide +kernel⟩
def b__law_known : SM :=
    (sq (setM 2 (dctK (consA (cst (.str "four")) (consA (tupM (consA (tupM (consA (cst (.int 1)) (consA (cst (.int 2)) (consA (cst (.int 3)) (consA (cst (.int 0)) nilA))))) nilA)) (consA (cst (.str "klein")) (consA (tupM (consA (tupM (consA (cst (.int 1)) (consA (cst (.int 0)) (consA (cst (.int 3)) (consA (cst (.int 2)) nilA))))) (consA (tupM (consA (cst (.int 2)) (consA (cst (.int 3)) (consA (cst (.int 0)) (consA (cst (.int 1)) nilA))))) nilA))) (consA (cst (.str "square")) (consA (tupM (consA (tupM (consA (cst (.int 1)) (consA (cst (.int 2)) (consA (cst (.int 3)) (consA (cst (.int 0)) nilA))))) (consA (tupM (consA (cst (.int 3)) (consA (cst (.int 2)) (consA (cst (.int 1)) (consA (cst (.int 0)) nilA))))) nilA))) (consA (cst (.str "cube")) (consA (tupM (consA (tupM (consA (cst (.int 1)) (consA (cst (.int 0)) (consA (cst (.int 2)) (consA (cst (.int 3)) (consA (cst (.int 4)) (consA (cst (.int 5)) nilA))))))) (consA (tupM (consA (cst (.int 0)) (consA (cst (.int 1)) (consA (cst (.int 3)) (consA (cst (.int 2)) (consA (cst (.int 4)) (consA (cst (.int 5)) nilA))))))) (consA (tupM (consA (cst (.int 0)) (consA (cst (.int 1)) (consA (cst (.int 2)) (consA (cst (.int 3)) (consA (cst (.int 5)) (consA (cst (.int 4)) nilA))))))) nilA)))) (consA (cst (.str "eight")) (consA (tupM (consA (tupM (consA (cst (.int 1)) (consA (cst (.int 2)) (consA (cst (.int 3)) (consA (cst (.int 4)) (consA (cst (.int 5)) (consA (cst (.int 6)) (consA (cst (.int 7)) (consA (cst (.int 0)) nilA))))))))) nilA)) (consA (cst (.str "nine")) (consA (tupM (consA (tupM (consA (cst (.int 1)) (consA (cst (.int 2)) (consA (cst (.int 3)) (consA (cst (.int 4)) (consA (cst (.int 5)) (consA (cst (.int 6)) (consA (cst (.int 7)) (consA (cst (.int 8)) (consA (cst (.int 0)) nilA)))))))))) nilA)) (consA (cst (.str "quaternions")) (consA (tupM (consA (tupM (consA (cst (.int 1)) (consA (cst (.int 2)) (consA (cst (.int 3)) (consA (cst (.int 0)) (consA (cst (.int 5)) (consA (cst (.int 6)) (consA (cst (.int 7)) (consA (cst (.int 4)) nilA))))))))) (consA (tupM (consA (cst (.int 4)) (consA (cst (.int 7)) (consA (cst (.int 6)) (consA (cst (.int 5)) (consA (cst (.int 2)) (consA (cst (.int 1)) (consA (cst (.int 0)) (consA (cst (.int 3)) nilA))))))))) nilA))) (consA (cst (.str "threes")) (consA (tupM (consA (tupM (consA (cst (.int 1)) (consA (cst (.int 2)) (consA (cst (.int 0)) (consA (cst (.int 3)) (consA (cst (.int 4)) (consA (cst (.int 5)) nilA))))))) (consA (tupM (consA (cst (.int 0)) (consA (cst (.int 1)) (consA (cst (.int 2)) (consA (cst (.int 4)) (consA (cst (.int 5)) (consA (cst (.int 3)) nilA))))))) nilA))) (consA (cst (.str "three")) (consA (tupM (consA (tupM (consA (cst (.int 1)) (consA (cst (.int 2)) (consA (cst (.int 0)) nilA)))) (consA (tupM (consA (cst (.int 1)) (consA (cst (.int 0)) (consA (cst (.int 2)) nilA)))) nilA))) (consA (cst (.str "tetra")) (consA (tupM (consA (tupM (consA (cst (.int 1)) (consA (cst (.int 2)) (consA (cst (.int 0)) (consA (cst (.int 3)) nilA))))) (consA (tupM (consA (cst (.int 1)) (consA (cst (.int 0)) (consA (cst (.int 3)) (consA (cst (.int 2)) nilA))))) nilA))) (consA (cst (.str "six")) (consA (tupM (consA (tupM (consA (cst (.int 1)) (consA (cst (.int 2)) (consA (cst (.int 0)) (consA (cst (.int 3)) (consA (cst (.int 4)) nilA)))))) (consA (tupM (consA (cst (.int 0)) (consA (cst (.int 1)) (consA (cst (.int 2)) (consA (cst (.int 4)) (consA (cst (.int 3)) nilA)))))) nilA))) (consA (cst (.str "heis")) (consA (tupM (consA (tupM (consA (cst (.int 3)) (consA (cst (.int 4)) (consA (cst (.int 5)) (consA (cst (.int 6)) (consA (cst (.int 7)) (consA (cst (.int 8)) (consA (cst (.int 0)) (consA (cst (.int 1)) (consA (cst (.int 2)) nilA)))))))))) (consA (tupM (consA (cst (.int 0)) (consA (cst (.int 1)) (consA (cst (.int 2)) (consA (cst (.int 4)) (consA (cst (.int 5)) (consA (cst (.int 3)) (consA (cst (.int 8)) (consA (cst (.int 6)) (consA (cst (.int 7)) nilA)))))))))) nilA))) (consA (cst (.str "five")) (consA (tupM (consA (tupM (consA (cst (.int 1)) (consA (cst (.int 2)) (consA (cst (.int 3)) (consA (cst (.int 4)) (consA (cst (.int 0)) nilA)))))) (consA (tupM (consA (cst (.int 1)) (consA (cst (.int 2)) (consA (cst (.int 0)) (consA (cst (.int 3)) (consA (cst (.int 4)) nilA)))))) nilA))) (consA (cst (.str "whole")) (consA (tupM (consA (tupM (consA (cst (.int 1)) (consA (cst (.int 2)) (consA (cst (.int 3)) (consA (cst (.int 0)) nilA))))) (consA (tupM (consA (cst (.int 1)) (consA (cst (.int 0)) (consA (cst (.int 2)) (consA (cst (.int 3)) nilA))))) nilA))) (consA (cst (.str "ten")) (consA (tupM (consA (tupM (consA (cst (.int 1)) (consA (cst (.int 2)) (consA (cst (.int 3)) (consA (cst (.int 4)) (consA (cst (.int 0)) nilA)))))) (consA (tupM (consA (cst (.int 0)) (consA (cst (.int 4)) (consA (cst (.int 3)) (consA (cst (.int 2)) (consA (cst (.int 1)) nilA)))))) nilA))) nilA))))))))))))))))))))))))))))))))
    (sq (setM 3 (b2 ixM2 (vr 2) (callM m__law_pick (consA (vr 0) (consA (vr 1) nilA)))))
    (sq (setM 4 (callM m__law_permutation (consA (vr 0) (consA (callM lenM2 (consA (b2 ixM2 (vr 3) (cst (.int 0))) nilA)) nilA))))
    (sq (setM 5 (al (disp nilA)))
    (sq (forM (itA (vr 3)) (.nm 6)
    (sq (setM 7 (al (repL (fz (disp (consA (cst (.int 0)) nilA))) (callM lenM2 (consA (vr 6) nilA)))))
    (sq (forM (itE2 (vr 6)) (.tp [(.nm 8), (.nm 9)])
    (setAt (b2 ixM2 (vr 4) (vr 9)) (vr 7) (b2 ixM2 (vr 4) (vr 8))))
    (exprM (appM (vr 5) (callM tupOf (consA (vr 7) nilA)))))))
    (retM (callM tupOf (consA (vr 5) nilA))))))))
def m__law_known : FM := dfM 2 10 b__law_known
abbrev s__law_lock : Stmt := top 41
theorem sc__law_lock : FnScope ["_law_row", "_law_kinds", "_law_places", "_law_turn"] ["_law_row", "_law_kinds"] (defScope s__law_lock) := ⟨rfl, rfl, rfl, by decide +kernel, rfl, by decide +kernel, by decide +kernel⟩
def b__law_lock : SM :=
    (sq (ifS (tst (b2 gtM (callM m__law_taken (consA (vr 0) (consA (cst (.int 3)) nilA))) (cst (.int 0))))
    (retM (callM m__law_known (consA (vr 0) (consA (vr 1) nilA))))
    nextM)
    (sq (setM 2 (b2 plusM (cst (.int 2)) (callM m__law_taken (consA (vr 0) (consA (cst (.int 3)) nilA)))))
    (retM (callM tupOf (consA (fz (lcM (itR1 (consA (b2 plusM (cst (.int 1)) (callM m__law_taken (consA (vr 0) (consA (cst (.int 2)) nilA)))) nilA)) (.nm 3) yesM (callM m__law_permutation (consA (vr 0) (consA (vr 2) nilA))) [3])) nilA)))))
def m__law_lock : FM := dfM 2 4 b__law_lock
abbrev s__law_span : Stmt := top 39
theorem sc__law_span : FnScope ["_law_places", "_law_given", "_law_found", "_law_turn", "_law_one", "_law_later", "_law_other"] ["_law_places", "_law_given"] (defScope s__law_span) := ⟨rfl, rfl, rfl, by decide +kernel, rfl, by decide +kernel, by decide +kernel⟩
def b__law_span : SM :=
    (sq (setM 2 (al (disp (consA (trgM (vr 0)) nilA))))
    (sq (forM (itR1 (consA (cst (.int 300)) nilA)) (.nm 3)
    (forM (itA (s3 sliceM (vr 2) (onO (vr 3)) (onO (b2 plusM (vr 3) (cst (.int 1)))))) (.nm 4)
    (sq (setM 5 (fz (lcM (itA (vr 1)) (.nm 6) yesM (callM m__law_behind (consA (vr 4) (consA (vr 6) nilA))) [6])))
    (setM 2 (b2 plusM (vr 2) (fz (lcM (itA (srtSet (vr 5))) (.nm 6) (tst (b2 ninM2 (vr 6) (vr 2))) (vr 6) [6])))))))
    (retM (callM srtM (consA (vr 2) nilA)))))
def m__law_span : FM := dfM 2 7 b__law_span
abbrev s__law_swap : Stmt := top 38
theorem sc__law_swap : FnScope ["_law_one", "_law_other"] ["_law_one", "_law_other"] (defScope s__law_swap) := ⟨rfl, rfl, rfl, by decide +kernel, rfl, by decide +kernel, by decide +kernel⟩
def b__law_swap : SM :=
    (retM (callM m__law_behind (consA (callM m__law_behind (consA (vr 0) (consA (vr 1) nilA))) (consA (callM m__law_behind (consA (callM m__law_back (consA (vr 0) nilA)) (consA (callM m__law_back (consA (vr 1) nilA)) nilA))) nilA))))
def m__law_swap : FM := dfM 2 2 b__law_swap
abbrev s__law_words : Stmt := top 42
theorem sc__law_words : FnScope ["_law_lock_here", "_law_nought", "_law_found", "_law_order", "_law_turn", "_law_one", "_law_place", "_law_other", "_law_two"] ["_law_lock_here"] (defScope s__law_words) := ⟨rfl, rfl, rfl, by decide +kernel, rfl, by decide +kernel, by decide +kernel⟩
def b__law_words : SM :=
    (sq (setM 1 (trgM (callM lenM2 (consA (b2 ixM2 (vr 0) (cst (.int 0))) nilA))))
    (sq (parM 2 3 (consA (dctN (vr 1) (tupM nilA)) (consA (al (disp (consA (vr 1) nilA))) nilA)))
    (sq (forM (itR1 (consA (cst (.int 300)) nilA)) (.nm 4)
    (forM (itA (s3 sliceM (vr 3) (onO (vr 4)) (onO (b2 plusM (vr 4) (cst (.int 1)))))) (.nm 5)
    (forM (itE2 (vr 0)) (.tp [(.nm 6), (.nm 7)])
    (sq (setM 8 (callM m__law_behind (consA (vr 5) (consA (vr 7) nilA))))
    (ifS (tst (b2 ninM2 (vr 8) (vr 2)))
    (sq (setAt (b2 plusM (b2 ixM2 (vr 2) (vr 5)) (tupM (consA (vr 6) nilA))) (vr 2) (vr 8))
    (exprM (appM (vr 3) (vr 8))))
    nextM)))))
    (retM (vr 2)))))
def m__law_words : FM := dfM 1 9 b__law_words
abbrev s_is_number : Stmt := top 6
theorem sc_is_number : FnScope ["value", "low", "high"] ["value", "low", "high"] (defScope s_is_number) := ⟨rfl, rfl, rfl, by decide +kernel, rfl, by decide +kernel, by decide +kernel⟩
def b_is_number : SM :=
    (retM (andV (isiM .int (vr 0)) (andV (notV (isiM .bl (vr 0))) (chM leM leM (vr 1) (vr 0) (vr 2)))))
def m_is_number : FM := dfM 3 3 b_is_number
abbrev s_is_turn : Stmt := top 7
theorem sc_is_turn : FnScope ["places", "value", "place"] ["places", "value"] (defScope s_is_turn) := ⟨rfl, rfl, rfl, by decide +kernel, rfl, by decide +kernel, by decide +kernel⟩
def b_is_turn : SM :=
    (sq (ifS (orT (notT (tst (isiM .tup (vr 1)))) (tst (b2 neM (callM lenM2 (consA (vr 1) nilA)) (vr 0))))
    (retM (cst (.bl false)))
    nextM)
    (retM (andV (allM true 0 (("is_turn", none) : Str × Option Str) (itA (vr 1)) (.nm 2) yesM (callM m_is_number (consA (vr 2) (consA (cst (.int 0)) (consA (b2 subM (vr 0) (cst (.int 1))) nilA)))) [2]) (b2 eqM (lenSet (vr 1)) (vr 0)))))
def m_is_turn : FM := dfM 2 3 b_is_turn
abbrev s_behind : Stmt := top 9
theorem sc_behind : FnScope ["one", "other", "place"] ["one", "other"] (defScope s_behind) := ⟨rfl, rfl, rfl, by decide +kernel, rfl, by decide +kernel, by decide +kernel⟩
def b_behind : SM :=
    (retM (callM tupOf (consA (fz (lcM (itA (vr 0)) (.nm 2) yesM (b2 ixM2 (vr 1) (vr 2)) [2])) nilA)))
def m_behind : FM := dfM 2 3 b_behind
abbrev s_still : Stmt := top 8
theorem sc_still : FnScope ["places"] ["places"] (defScope s_still) := ⟨rfl, rfl, rfl, by decide +kernel, rfl, by decide +kernel, by decide +kernel⟩
def b_still : SM :=
    (retM (trgM (vr 0)))
def m_still : FM := dfM 1 1 b_still
abbrev s_spanned : Stmt := top 20
theorem sc_spanned : FnScope ["places", "given", "found", "layer", "later", "turn", "other", "one"] ["places", "given"] (defScope s_spanned) := ⟨rfl, rfl, rfl, by decide +kernel, rfl, by decide +kernel, by decide +kernel⟩
abbrev s_TooMany_init : Stmt := ((clsB (top 4)).getD 0 (.Pass ⟨0, 0, 0, 0⟩))
theorem sc_TooMany_init : FnScope ["self", "most"] ["self", "most"] (defScope s_TooMany_init) := ⟨rfl, rfl, rfl, by decide +kernel, rfl, by decide +kernel, by decide +kernel⟩
def b_spanned : SM :=
    (sq (parM 2 3 (consA (dctN (callM m_still (consA (vr 0) nilA)) (cst (.bl true))) (consA (fz (disp (consA (callM m_still (consA (vr 0) nilA)) nilA))) nilA)))
    (sq (whGo (truT (vr 3))
    (sq (setM 4 (al (disp nilA)))
    (sq (forM (itA (vr 3)) (.nm 5)
    (forM (itA (vr 1)) (.nm 6)
    (sq (setM 7 (callM m_behind (consA (vr 5) (consA (vr 6) nilA))))
    (ifS (tst (b2 ninM2 (vr 7) (vr 2)))
    (sq (setAt (cst (.bl true)) (vr 2) (vr 7))
    (exprM (appM (vr 4) (vr 7))))
    nextM))))
    (sq (ifS (tst (b2 gtM (callM lenM2 (consA (vr 2) nilA)) (cst (.int 240))))
    (raise1 "TooMany" "most" (consA (cst (.int 240)) nilA))
    nextM)
    (setM 3 (vr 4))))) 1000)
    (retM (callM srtM (consA (vr 2) nilA)))))
def m_spanned : FM := dfM 2 8 b_spanned
abbrev s_turns_of : Stmt := top 21
theorem sc_turns_of : FnScope ["lock"] ["lock"] (defScope s_turns_of) := ⟨rfl, rfl, rfl, by decide +kernel, rfl, by decide +kernel, by decide +kernel⟩
def b_turns_of : SM :=
    (retM (callM m_spanned (consA (callM lenM2 (consA (b2 ixM2 (vr 0) (cst (.int 0))) nilA)) (consA (vr 0) nilA))))
def m_turns_of : FM := dfM 1 1 b_turns_of
abbrev s_need_lock : Stmt := top 19
theorem sc_need_lock : FnScope ["value", "place", "turn"] ["value"] (defScope s_need_lock) := ⟨rfl, rfl, rfl, by decide +kernel, rfl, by decide +kernel, by decide +kernel⟩
abbrev s_BadLock_init : Stmt := ((clsB (top 2)).getD 0 (.Pass ⟨0, 0, 0, 0⟩))
theorem sc_BadLock_init : FnScope ["self", "place"] ["self", "place"] (defScope s_BadLock_init) := ⟨rfl, rfl, rfl, by decide +kernel, rfl, by decide +kernel, by decide +kernel⟩
def b_need_lock : SM :=
    (sq (ifS (orT (notT (tst (isiM .tup (vr 0)))) (notT (tst (chM leM leM (cst (.int 1)) (callM lenM2 (consA (vr 0) nilA)) (cst (.int 4))))))
    (raise1 "BadLock" "place" (consA (cst .non) nilA))
    nextM)
    (sq (ifS (orT (notT (tst (isiM .tup (b2 ixM2 (vr 0) (cst (.int 0)))))) (notT (tst (chM leM leM (cst (.int 2)) (callM lenM2 (consA (b2 ixM2 (vr 0) (cst (.int 0))) nilA)) (cst (.int 9))))))
    (raise1 "BadLock" "place" (consA (cst (.int 0)) nilA))
    nextM)
    (sq (forM (itE2 (vr 0)) (.tp [(.nm 1), (.nm 2)])
    (ifS (notT (tst (callM m_is_turn (consA (callM lenM2 (consA (b2 ixM2 (vr 0) (cst (.int 0))) nilA)) (consA (vr 2) nilA)))))
    (raise1 "BadLock" "place" (consA (vr 1) nilA))
    nextM))
    (exprM (callM m_turns_of (consA (vr 0) nilA))))))
def m_need_lock : FM := dfM 1 3 b_need_lock
abbrev s_all_turns : Stmt := top 22
theorem sc_all_turns : FnScope ["lock"] ["lock"] (defScope s_all_turns) := ⟨rfl, rfl, rfl, by decide +kernel, rfl, by decide +kernel, by decide +kernel⟩
def b_all_turns : SM :=
    (sq (exprM (callM m_need_lock (consA (vr 0) nilA)))
    (retM (callM tupOf (consA (callM m_turns_of (consA (vr 0) nilA)) nilA))))
def m_all_turns : FM := dfM 1 1 b_all_turns
abbrev s_is_made : Stmt := top 24
theorem sc_is_made : FnScope ["lock", "turn"] ["lock", "turn"] (defScope s_is_made) := ⟨rfl, rfl, rfl, by decide +kernel, rfl, by decide +kernel, by decide +kernel⟩
def b_is_made : SM :=
    (sq (exprM (callM m_need_lock (consA (vr 0) nilA)))
    (sq (ifS (notT (tst (callM m_is_turn (consA (callM lenM2 (consA (b2 ixM2 (vr 0) (cst (.int 0))) nilA)) (consA (vr 1) nilA)))))
    (raise0 "BadTurn")
    nextM)
    (retM (b2 inM2 (vr 1) (callM m_turns_of (consA (vr 0) nilA))))))
def m_is_made : FM := dfM 2 2 b_is_made
abbrev s_need_turn : Stmt := top 23
theorem sc_need_turn : FnScope ["lock", "value"] ["lock", "value"] (defScope s_need_turn) := ⟨rfl, rfl, rfl, by decide +kernel, rfl, by decide +kernel, by decide +kernel⟩
def b_need_turn : SM :=
    (ifS (orT (notT (tst (callM m_is_turn (consA (callM lenM2 (consA (b2 ixM2 (vr 0) (cst (.int 0))) nilA)) (consA (vr 1) nilA))))) (tst (b2 ninM2 (vr 1) (callM m_turns_of (consA (vr 0) nilA)))))
    (raise0 "BadTurn")
    nextM)
def m_need_turn : FM := dfM 2 2 b_need_turn
abbrev s_product : Stmt := top 11
theorem sc_product : FnScope ["places", "turns", "found", "turn"] ["places", "turns"] (defScope s_product) := ⟨rfl, rfl, rfl, by decide +kernel, rfl, by decide +kernel, by decide +kernel⟩
def b_product : SM :=
    (sq (setM 2 (callM m_still (consA (vr 0) nilA)))
    (sq (forM (itA (vr 1)) (.nm 3)
    (setM 2 (callM m_behind (consA (vr 2) (consA (vr 3) nilA)))))
    (retM (vr 2))))
def m_product : FM := dfM 2 4 b_product
abbrev s_join : Stmt := top 26
theorem sc_join : FnScope ["lock", "turns", "turn"] ["lock", "turns"] (defScope s_join) := ⟨rfl, rfl, rfl, by decide +kernel, rfl, by decide +kernel, by decide +kernel⟩
def b_join : SM :=
    (sq (exprM (callM m_need_lock (consA (vr 0) nilA)))
    (sq (ifS (notT (tst (isiM .tup (vr 1))))
    (raise0 "BadTurn")
    nextM)
    (sq (forM (itA (vr 1)) (.nm 2)
    (exprM (callM m_need_turn (consA (vr 0) (consA (vr 2) nilA)))))
    (retM (callM m_product (consA (callM lenM2 (consA (b2 ixM2 (vr 0) (cst (.int 0))) nilA)) (consA (vr 1) nilA)))))))
def m_join : FM := dfM 2 3 b_join
abbrev s_times_round : Stmt := top 12
theorem sc_times_round : FnScope ["turn", "found", "now"] ["turn"] (defScope s_times_round) := ⟨rfl, rfl, rfl, by decide +kernel, rfl, by decide +kernel, by decide +kernel⟩
def b_times_round : SM :=
    (sq (parM 1 2 (consA (cst (.int 1)) (consA (vr 0) nilA)))
    (sq (whGo (tst (b2 neM (vr 2) (callM m_still (consA (callM lenM2 (consA (vr 0) nilA)) nilA))))
    (sq (setM 2 (callM m_behind (consA (vr 2) (consA (vr 0) nilA))))
    (augM 1 iaddM (cst (.int 1)))) 1000)
    (retM (vr 1))))
def m_times_round : FM := dfM 1 3 b_times_round
abbrev s_rounds : Stmt := top 28
theorem sc_rounds : FnScope ["lock", "turn"] ["lock", "turn"] (defScope s_rounds) := ⟨rfl, rfl, rfl, by decide +kernel, rfl, by decide +kernel, by decide +kernel⟩
def b_rounds : SM :=
    (sq (exprM (callM m_need_lock (consA (vr 0) nilA)))
    (sq (exprM (callM m_need_turn (consA (vr 0) (consA (vr 1) nilA))))
    (retM (callM m_times_round (consA (vr 1) nilA)))))
def m_rounds : FM := dfM 2 2 b_rounds
abbrev s_back : Stmt := top 10
theorem sc_back : FnScope ["turn", "found", "place", "comes"] ["turn"] (defScope s_back) := ⟨rfl, rfl, rfl, by decide +kernel, rfl, by decide +kernel, by decide +kernel⟩
def b_back : SM :=
    (sq (setM 1 (al (repL (fz (disp (consA (cst (.int 0)) nilA))) (callM lenM2 (consA (vr 0) nilA)))))
    (sq (forM (itE2 (vr 0)) (.tp [(.nm 2), (.nm 3)])
    (setAt (vr 2) (vr 1) (vr 3)))
    (retM (callM tupOf (consA (vr 1) nilA)))))
def m_back : FM := dfM 1 4 b_back
abbrev s_swap_of : Stmt := top 13
theorem sc_swap_of : FnScope ["one", "other"] ["one", "other"] (defScope s_swap_of) := ⟨rfl, rfl, rfl, by decide +kernel, rfl, by decide +kernel, by decide +kernel⟩
def b_swap_of : SM :=
    (retM (callM m_product (consA (callM lenM2 (consA (vr 0) nilA)) (consA (fz (disp (consA (vr 0) (consA (vr 1) (consA (callM m_back (consA (vr 0) nilA)) (consA (callM m_back (consA (vr 1) nilA)) nilA)))))) nilA))))
def m_swap_of : FM := dfM 2 2 b_swap_of
abbrev s_swapped : Stmt := top 29
theorem sc_swapped : FnScope ["lock", "one", "other"] ["lock", "one", "other"] (defScope s_swapped) := ⟨rfl, rfl, rfl, by decide +kernel, rfl, by decide +kernel, by decide +kernel⟩
def b_swapped : SM :=
    (sq (exprM (callM m_need_lock (consA (vr 0) nilA)))
    (sq (exprM (callM m_need_turn (consA (vr 0) (consA (vr 1) nilA))))
    (sq (exprM (callM m_need_turn (consA (vr 0) (consA (vr 2) nilA))))
    (retM (callM m_swap_of (consA (vr 1) (consA (vr 2) nilA)))))))
def m_swapped : FM := dfM 3 3 b_swapped
abbrev s_undo : Stmt := top 27
theorem sc_undo : FnScope ["lock", "turn"] ["lock", "turn"] (defScope s_undo) := ⟨rfl, rfl, rfl, by decide +kernel, rfl, by decide +kernel, by decide +kernel⟩
def b_undo : SM :=
    (sq (exprM (callM m_need_lock (consA (vr 0) nilA)))
    (sq (exprM (callM m_need_turn (consA (vr 0) (consA (vr 1) nilA))))
    (retM (callM m_back (consA (vr 1) nilA)))))
def m_undo : FM := dfM 2 2 b_undo
abbrev s_word_for : Stmt := top 25
theorem sc_word_for : FnScope ["lock", "turn", "found", "layer", "later", "one", "place", "other", "two"] ["lock", "turn"] (defScope s_word_for) := ⟨rfl, rfl, rfl, by decide +kernel, rfl, by decide +kernel, by decide +kernel⟩
def b_word_for : SM :=
    (sq (exprM (callM m_need_lock (consA (vr 0) nilA)))
    (sq (exprM (callM m_need_turn (consA (vr 0) (consA (vr 1) nilA))))
    (sq (parM 2 3 (consA (dctN (callM m_still (consA (callM lenM2 (consA (b2 ixM2 (vr 0) (cst (.int 0))) nilA)) nilA)) (tupM nilA)) (consA (fz (disp (consA (callM m_still (consA (callM lenM2 (consA (b2 ixM2 (vr 0) (cst (.int 0))) nilA)) nilA)) nilA))) nilA)))
    (sq (whGo (tst (b2 ninM2 (vr 1) (vr 2)))
    (sq (setM 4 (al (disp nilA)))
    (sq (forM (itA (vr 3)) (.nm 5)
    (forM (itE2 (vr 0)) (.tp [(.nm 6), (.nm 7)])
    (sq (setM 8 (callM m_behind (consA (vr 5) (consA (vr 7) nilA))))
    (ifS (tst (b2 ninM2 (vr 8) (vr 2)))
    (sq (setAt (b2 plusM (b2 ixM2 (vr 2) (vr 5)) (tupM (consA (vr 6) nilA))) (vr 2) (vr 8))
    (exprM (appM (vr 4) (vr 8))))
    nextM))))
    (setM 3 (vr 4)))) 1000)
    (retM (b2 ixM2 (vr 2) (vr 1)))))))
def m_word_for : FM := dfM 2 9 b_word_for
abbrev s_law : Stmt := top 43
theorem sc_law : FnScope ["_law_script", "_law_row", "_law_lock_here", "_law_places", "_law_whole", "_law_one", "_law_other", "_law_drawn", "_law_some", "_law_due", "_law_turn", "_law_told", "_law_now", "_law_many", "_law_odds", "_law_odd", "e", "_law_words_here", "_law_work"] ["_law_script"] (defScope s_law) := ⟨rfl, rfl, rfl, by decide +kernel, rfl, by decide +kernel, by decide +kernel⟩
def x_law_BadLock (c : Str) : Option Bool := if c = "BadTurn" then some false else if c = "BadLock" then some true else if c = "TooMany" then some false else none
def x_law_BadTurn (c : Str) : Option Bool := if c = "BadTurn" then some true else if c = "BadLock" then some false else if c = "TooMany" then some false else none
def x_law_TooMany (c : Str) : Option Bool := if c = "BadTurn" then some false else if c = "BadLock" then some false else if c = "TooMany" then some true else none
def lamb_0 : EM D :=
    (callM m_undo (consA (vr 2) (consA (b2 timesM (tupM (consA (cst (.int 0)) nilA)) (vr 3)) nilA)))
abbrev y_law_0 : LamSyn := (lamAt PySem.Challenge.pw_lockturns_k01_whole_locks [43, 19, 0, 0]).getD ⟨⟨[], [], none, [], [], none, []⟩, .Constant .none 0 ⟨0, 0, 0, 0⟩, ⟨.function, [], false, false, []⟩⟩
def lamb_1 : EM D :=
    (callM m_is_made (consA (vr 2) (consA (cst .non) nilA)))
abbrev y_law_1 : LamSyn := (lamAt PySem.Challenge.pw_lockturns_k01_whole_locks [43, 19, 0, 1]).getD ⟨⟨[], [], none, [], [], none, []⟩, .Constant .none 0 ⟨0, 0, 0, 0⟩, ⟨.function, [], false, false, []⟩⟩
def lamb_2 : EM D :=
    (callM m_join (consA (vr 2) (consA (fz (disp (consA (vr 5) nilA))) nilA)))
abbrev y_law_2 : LamSyn := (lamAt PySem.Challenge.pw_lockturns_k01_whole_locks [43, 19, 0, 2]).getD ⟨⟨[], [], none, [], [], none, []⟩, .Constant .none 0 ⟨0, 0, 0, 0⟩, ⟨.function, [], false, false, []⟩⟩
def lams_law : List (List Nat × EM D) := [([43, 19, 0, 0], lamb_0), ([43, 19, 0, 1], lamb_1), ([43, 19, 0, 2], lamb_2)]
def q_law_0 (cl : List (Str × Addr)) : SM :=
    (setM 1 (al (disp (consA (vr 0) (consA (cst (.int 0)) (consA (cst (.int 7701)) (consA (cst (.int 0)) nilA)))))))
def q_law_1 (cl : List (Str × Addr)) : SM :=
    (setM 2 (callM m__law_lock (consA (vr 1) (consA (fz (disp (consA (cst (.str "four")) (consA (cst (.str "square")) (consA (cst (.str "quaternions")) (consA (cst (.str "threes")) (consA (cst (.str "three")) (consA (cst (.str "tetra")) (consA (cst (.str "six")) (consA (cst (.str "five")) nilA)))))))))) nilA))))
def q_law_2 (cl : List (Str × Addr)) : SM :=
    (asgM (.tp [(.nm 3), (.nm 4)]) (tupM (consA (callM lenM2 (consA (b2 ixM2 (vr 2) (cst (.int 0))) nilA)) (consA (callM m__law_span (consA (callM lenM2 (consA (b2 ixM2 (vr 2) (cst (.int 0))) nilA)) (consA (vr 2) nilA))) nilA))))
def q_law_3 (cl : List (Str × Addr)) : SM :=
    (ifS (notT (tst (callM (F__law_alike 20) (consA (callM m_all_turns (consA (vr 2) nilA)) (consA (callM tupOf (consA (vr 4) nilA)) nilA)))))
    (retM (cst (.bl false)))
    nextM)
def q_law_4 (cl : List (Str × Addr)) : SM :=
    (asgM (.tp [(.nm 5), (.nm 6), (.nm 7)]) (tupM (consA (callM m__law_pick (consA (vr 1) (consA (vr 4) nilA))) (consA (callM m__law_pick (consA (vr 1) (consA (vr 4) nilA))) (consA (callM m__law_permutation (consA (vr 1) (consA (vr 3) nilA))) nilA)))))
def q_law_5 (cl : List (Str × Addr)) : SM :=
    (ifS (notT (tst (callM m__law_is (consA (callM m_is_made (consA (vr 2) (consA (vr 7) nilA))) (consA (b2 inM2 (vr 7) (vr 4)) nilA)))))
    (retM (cst (.bl false)))
    nextM)
def q_law_6 (cl : List (Str × Addr)) : SM :=
    (ifS (notT (tst (callM (F__law_alike 20) (consA (callM m_word_for (consA (vr 2) (consA (vr 5) nilA))) (consA (b2 ixM2 (callM m__law_words (consA (vr 2) nilA)) (vr 5)) nilA)))))
    (retM (cst (.bl false)))
    nextM)
def q_law_7 (cl : List (Str × Addr)) : SM :=
    (setM 8 (callM tupOf (consA (fz (lcM (itR1 (consA (callM m__law_taken (consA (vr 1) (consA (cst (.int 5)) nilA))) nilA)) (.nm 10) yesM (callM m__law_pick (consA (vr 1) (consA (vr 4) nilA))) [10])) nilA)))
def q_law_8 (cl : List (Str × Addr)) : SM :=
    (setM 9 (trgM (vr 3)))
def q_law_9 (cl : List (Str × Addr)) : SM :=
    (forM (itA (vr 8)) (.nm 10)
    (setM 9 (callM m__law_behind (consA (vr 9) (consA (vr 10) nilA)))))
def q_law_10 (cl : List (Str × Addr)) : SM :=
    (setM 11 (fz (disp (consA (callM m_join (consA (vr 2) (consA (vr 8) nilA))) (consA (callM m_undo (consA (vr 2) (consA (vr 5) nilA))) (consA (callM m_swapped (consA (vr 2) (consA (vr 5) (consA (vr 6) nilA)))) nilA))))))
def q_law_11 (cl : List (Str × Addr)) : SM :=
    (ifS (notT (tst (callM (F__law_alike 20) (consA (vr 11) (consA (fz (disp (consA (vr 9) (consA (callM m__law_back (consA (vr 5) nilA)) (consA (callM m__law_swap (consA (vr 5) (consA (vr 6) nilA))) nilA))))) nilA)))))
    (retM (cst (.bl false)))
    nextM)
def q_law_12 (cl : List (Str × Addr)) : SM :=
    (parM 12 13 (consA (vr 5) (consA (callM m_rounds (consA (vr 2) (consA (vr 5) nilA))) nilA)))
def q_law_13 (cl : List (Str × Addr)) : SM :=
    (forM (itR2 (consA (cst (.int 1)) (consA (vr 13) nilA))) (.nm 10)
    (sq (ifS (tst (b2 eqM (vr 12) (trgM (vr 3))))
    (retM (cst (.bl false)))
    nextM)
    (setM 12 (callM m__law_behind (consA (vr 12) (consA (vr 5) nilA))))))
def q_law_14 (cl : List (Str × Addr)) : SM :=
    (ifS (tst (b2 neM (vr 12) (trgM (vr 3))))
    (retM (cst (.bl false)))
    nextM)
def q_law_15 (cl : List (Str × Addr)) : SM :=
    (setM 14 (fz (disp (consA (tupM (consA (cst .non) (consA (cst .non) nilA))) (consA (tupM (consA (tupM nilA) (consA (cst .non) nilA))) (consA (tupM (consA (b2 timesM (vr 2) (cst (.int 5))) (consA (cst .non) nilA))) (consA (tupM (consA (b2 plusM (vr 2) (tupM (consA (tupM (consA (cst (.int 0)) nilA)) nilA))) (consA (callM lenM2 (consA (vr 2) nilA)) nilA))) (consA (tupM (consA (tupM (consA (tupM (consA (cst (.int 0)) nilA)) nilA)) (consA (cst (.int 0)) nilA))) nilA))))))))
def q_law_16 (cl : List (Str × Addr)) : SM :=
    (setM 14 (b2 plusM (vr 14) (fz (disp (consA (tupM (consA (tupM (consA (fz (lstOf (consA (b2 ixM2 (vr 2) (cst (.int 0))) nilA))) nilA)) (consA (cst (.int 0)) nilA))) (consA (tupM (consA (tupM (consA (tupM (consA (cst (.int 0)) (consA (cst (.int 0)) nilA))) nilA)) (consA (cst (.int 0)) nilA))) (consA (tupM (consA (tupM (consA (tupM (consA (cst (.bl true)) (consA (cst (.int 0)) nilA))) nilA)) (consA (cst (.int 0)) nilA))) nilA)))))))
def q_law_17 (cl : List (Str × Addr)) : SM :=
    (forM (itA (vr 14)) (.tp [(.nm 15), (.nm 9)])
    (tryM (sq (exprM (callM m_all_turns (consA (vr 15) nilA)))
    (retM (cst (.bl false)))) x_law_BadLock 16 (fun c fs => (ifS (tst (b2 neM (xfM c fs "BadLock" "place") (vr 9)))
    (retM (cst (.bl false)))
    nextM))))
def q_law_18 (cl : List (Str × Addr)) : SM :=
    (setM 17 (al (disp nilA)))
def q_law_19 (cl : List (Str × Addr)) : SM :=
    (forM (itA (fz (disp (consA (lamM 1 (("law", none) : Str × Option Str) [43, 19, 0, 0] cl) (consA (lamM 1 (("law", none) : Str × Option Str) [43, 19, 0, 1] cl) (consA (lamM 1 (("law", none) : Str × Option Str) [43, 19, 0, 2] cl) nilA)))))) (.nm 18)
    (tryM (exprM (callLam 18 cl lams_law)) x_law_BadTurn 16 (fun c fs => (exprM (appM (vr 17) (cst (.str "turn")))))))
def q_law_20 (cl : List (Str × Addr)) : SM :=
    (tryM (exprM (callM m_all_turns (consA (tupM (consA (tupM (consA (cst (.int 1)) (consA (cst (.int 2)) (consA (cst (.int 3)) (consA (cst (.int 4)) (consA (cst (.int 5)) (consA (cst (.int 0)) nilA))))))) (consA (tupM (consA (cst (.int 1)) (consA (cst (.int 0)) (consA (cst (.int 2)) (consA (cst (.int 3)) (consA (cst (.int 4)) (consA (cst (.int 5)) nilA))))))) nilA))) nilA))) x_law_TooMany 16 (fun c fs => (retM (andV (b2 eqM (vr 17) (fz (repL (fz (disp (consA (cst (.str "turn")) nilA))) (cst (.int 3))))) (b2 eqM (xfM c fs "TooMany" "most") (cst (.int 240)))))))
def q_law_21 (cl : List (Str × Addr)) : SM :=
    (retM (cst (.bl false)))
def b_law (cl : List (Str × Addr)) : SM :=
    (sq (q_law_0 cl) (sq (q_law_1 cl) (sq (q_law_2 cl) (sq (q_law_3 cl) (sq (q_law_4 cl) (sq (q_law_5 cl) (sq (q_law_6 cl) (sq (q_law_7 cl) (sq (q_law_8 cl) (sq (q_law_9 cl) (sq (q_law_10 cl) (sq (q_law_11 cl) (sq (q_law_12 cl) (sq (q_law_13 cl) (sq (q_law_14 cl) (sq (q_law_15 cl) (sq (q_law_16 cl) (sq (q_law_17 cl) (sq (q_law_18 cl) (sq (q_law_19 cl) (sq (q_law_20 cl) (q_law_21 cl))))))))))))))))))))))
def m_law (cl : List (Str × Addr)) : FM := dfM 1 19 (b_law cl)
def fa : List He.Fa := [.free "isinstance",
  .free "tuple",
  .free "list",
  .free "len",
  .free "range",
  .free "str",
  .free "int",
  .free "bool",
  .glo "_law_alike",
  .glo "_law_back",
  .glo "_law_behind",
  .glo "_law_is",
  .glo "_law_taken",
  .glo "_law_permutation",
  .glo "_law_pick",
  .free "enumerate",
  .glo "_law_known",
  .glo "_law_lock",
  .free "sorted",
  .free "set",
  .glo "_law_span",
  .glo "_law_swap",
  .glo "_law_words",
  .glo "is_number",
  .free "all",
  .glo "is_turn",
  .glo "behind",
  .glo "still",
  .int "MOST_TURNS" 240,
  .glo "TooMany",
  .meth "TooMany" "__init__",
  .noat "TooMany" "most",
  .glo "spanned",
  .glo "turns_of",
  .int "MOST_GIVEN" 4,
  .glo "BadLock",
  .meth "BadLock" "__init__",
  .noat "BadLock" "place",
  .int "LEAST_PLACES" 2,
  .int "MOST_PLACES" 9,
  .glo "need_lock",
  .glo "all_turns",
  .exc "BadTurn",
  .glo "BadTurn",
  .glo "is_made",
  .glo "need_turn",
  .glo "product",
  .glo "join",
  .glo "times_round",
  .glo "rounds",
  .glo "back",
  .glo "swap_of",
  .glo "swapped",
  .glo "undo",
  .glo "word_for",
  .exm "BadTurn" "BadLock" false,
  .exm "BadLock" "BadLock" true,
  .exm "TooMany" "BadLock" false,
  .exm "BadTurn" "BadTurn" true,
  .exm "BadLock" "BadTurn" false,
  .exm "TooMany" "BadTurn" false,
  .exm "BadTurn" "TooMany" false,
  .exm "BadLock" "TooMany" false,
  .exm "TooMany" "TooMany" true,
  .glo "law"]
def fx : List Fx := [.oex "TooMany",
  .oex "BadLock",
  .xf "BadLock",
  .xf "TooMany"]
def fn : List He.DefD := [⟨("_law_alike", none), "_law_alike", "_law_alike", defArgs s__law_alike, defBody s__law_alike, defScope s__law_alike, [], []⟩,
  ⟨("_law_back", none), "_law_back", "_law_back", defArgs s__law_back, defBody s__law_back, defScope s__law_back, [], []⟩,
  ⟨("_law_behind", none), "_law_behind", "_law_behind", defArgs s__law_behind, defBody s__law_behind, defScope s__law_behind, [], []⟩,
  ⟨("_law_is", none), "_law_is", "_law_is", defArgs s__law_is, defBody s__law_is, defScope s__law_is, [], []⟩,
  ⟨("_law_taken", none), "_law_taken", "_law_taken", defArgs s__law_taken, defBody s__law_taken, defScope s__law_taken, [], []⟩,
  ⟨("_law_permutation", none), "_law_permutation", "_law_permutation", defArgs s__law_permutation, defBody s__law_permutation, defScope s__law_permutation, [], []⟩,
  ⟨("_law_pick", none), "_law_pick", "_law_pick", defArgs s__law_pick, defBody s__law_pick, defScope s__law_pick, [], []⟩,
  ⟨("_law_known", none), "_law_known", "_law_known", defArgs s__law_known, defBody s__law_known, defScope s__law_known, [], []⟩,
  ⟨("_law_lock", none), "_law_lock", "_law_lock", defArgs s__law_lock, defBody s__law_lock, defScope s__law_lock, [], []⟩,
  ⟨("_law_span", none), "_law_span", "_law_span", defArgs s__law_span, defBody s__law_span, defScope s__law_span, [], []⟩,
  ⟨("_law_swap", none), "_law_swap", "_law_swap", defArgs s__law_swap, defBody s__law_swap, defScope s__law_swap, [], []⟩,
  ⟨("_law_words", none), "_law_words", "_law_words", defArgs s__law_words, defBody s__law_words, defScope s__law_words, [], []⟩,
  ⟨("is_number", none), "is_number", "is_number", defArgs s_is_number, defBody s_is_number, defScope s_is_number, [], []⟩,
  ⟨("is_turn", none), "is_turn", "is_turn", defArgs s_is_turn, defBody s_is_turn, defScope s_is_turn, [], []⟩,
  ⟨("behind", none), "behind", "behind", defArgs s_behind, defBody s_behind, defScope s_behind, [], []⟩,
  ⟨("still", none), "still", "still", defArgs s_still, defBody s_still, defScope s_still, [], []⟩,
  ⟨("spanned", none), "spanned", "spanned", defArgs s_spanned, defBody s_spanned, defScope s_spanned, [], []⟩,
  ⟨("TooMany", some "__init__"), "__init__", "TooMany.__init__", defArgs s_TooMany_init, defBody s_TooMany_init, defScope s_TooMany_init, [], []⟩,
  ⟨("turns_of", none), "turns_of", "turns_of", defArgs s_turns_of, defBody s_turns_of, defScope s_turns_of, [], []⟩,
  ⟨("need_lock", none), "need_lock", "need_lock", defArgs s_need_lock, defBody s_need_lock, defScope s_need_lock, [], []⟩,
  ⟨("BadLock", some "__init__"), "__init__", "BadLock.__init__", defArgs s_BadLock_init, defBody s_BadLock_init, defScope s_BadLock_init, [], []⟩,
  ⟨("all_turns", none), "all_turns", "all_turns", defArgs s_all_turns, defBody s_all_turns, defScope s_all_turns, [], []⟩,
  ⟨("is_made", none), "is_made", "is_made", defArgs s_is_made, defBody s_is_made, defScope s_is_made, [], []⟩,
  ⟨("need_turn", none), "need_turn", "need_turn", defArgs s_need_turn, defBody s_need_turn, defScope s_need_turn, [], []⟩,
  ⟨("product", none), "product", "product", defArgs s_product, defBody s_product, defScope s_product, [], []⟩,
  ⟨("join", none), "join", "join", defArgs s_join, defBody s_join, defScope s_join, [], []⟩,
  ⟨("times_round", none), "times_round", "times_round", defArgs s_times_round, defBody s_times_round, defScope s_times_round, [], []⟩,
  ⟨("rounds", none), "rounds", "rounds", defArgs s_rounds, defBody s_rounds, defScope s_rounds, [], []⟩,
  ⟨("back", none), "back", "back", defArgs s_back, defBody s_back, defScope s_back, [], []⟩,
  ⟨("swap_of", none), "swap_of", "swap_of", defArgs s_swap_of, defBody s_swap_of, defScope s_swap_of, [], []⟩,
  ⟨("swapped", none), "swapped", "swapped", defArgs s_swapped, defBody s_swapped, defScope s_swapped, [], []⟩,
  ⟨("undo", none), "undo", "undo", defArgs s_undo, defBody s_undo, defScope s_undo, [], []⟩,
  ⟨("word_for", none), "word_for", "word_for", defArgs s_word_for, defBody s_word_for, defScope s_word_for, [], []⟩,
  ⟨("law", none), "law", "law", defArgs s_law, defBody s_law, defScope s_law, [], []⟩]
def tf : List He.Defn := [(("is_turn", none) : Str × Option Str), (("law", none) : Str × Option Str)]
theorem x_law_BadLock_ok {K : PySem.W.Frag} {mg : Str → Option Value} (T : Tp fa fx fn K mg) (c : Str) (b : Bool) (h : x_law_BadLock c = some b) : PySem.W.exmOne K (.ref (He.ga K c)) (.ref (He.ga K "BadLock")) = some b := by
  unfold x_law_BadLock at h
  by_cases h0 : c = "BadTurn"
  · rw [if_pos h0] at h; cases h; subst h0; exact T.exm 55
  rw [if_neg h0] at h
  by_cases h1 : c = "BadLock"
  · rw [if_pos h1] at h; cases h; subst h1; exact T.exm 56
  rw [if_neg h1] at h
  by_cases h2 : c = "TooMany"
  · rw [if_pos h2] at h; cases h; subst h2; exact T.exm 57
  rw [if_neg h2] at h
  cases h
theorem x_law_BadTurn_ok {K : PySem.W.Frag} {mg : Str → Option Value} (T : Tp fa fx fn K mg) (c : Str) (b : Bool) (h : x_law_BadTurn c = some b) : PySem.W.exmOne K (.ref (He.ga K c)) (.ref (He.ga K "BadTurn")) = some b := by
  unfold x_law_BadTurn at h
  by_cases h0 : c = "BadTurn"
  · rw [if_pos h0] at h; cases h; subst h0; exact T.exm 58
  rw [if_neg h0] at h
  by_cases h1 : c = "BadLock"
  · rw [if_pos h1] at h; cases h; subst h1; exact T.exm 59
  rw [if_neg h1] at h
  by_cases h2 : c = "TooMany"
  · rw [if_pos h2] at h; cases h; subst h2; exact T.exm 60
  rw [if_neg h2] at h
  cases h
theorem x_law_TooMany_ok {K : PySem.W.Frag} {mg : Str → Option Value} (T : Tp fa fx fn K mg) (c : Str) (b : Bool) (h : x_law_TooMany c = some b) : PySem.W.exmOne K (.ref (He.ga K c)) (.ref (He.ga K "TooMany")) = some b := by
  unfold x_law_TooMany at h
  by_cases h0 : c = "BadTurn"
  · rw [if_pos h0] at h; cases h; subst h0; exact T.exm 61
  rw [if_neg h0] at h
  by_cases h1 : c = "BadLock"
  · rw [if_pos h1] at h; cases h; subst h1; exact T.exm 62
  rw [if_neg h1] at h
  by_cases h2 : c = "TooMany"
  · rw [if_pos h2] at h; cases h; subst h2; exact T.exm 63
  rw [if_neg h2] at h
  cases h
section
variable {P : Program} {w : World} {K : PySem.W.Frag} {mg : Str → Option Value} {base : Heap}
theorem S__law_alike_ok (T : Tp fa fx fn K mg) (TB : ∀ p ∈ tf, GxR.TabB base mg (He.cT K p).1 (He.cT K p).2) : ∀ n : Nat, Dfn P w K mg base "_law_alike" 2 (n + 1) (F__law_alike n)
  | 0 => by
    obtain ⟨fd0, F0⟩ := T.def_ 0
    exact (.mk1 (ps := ["_law_found", "_law_due"]) rfl (fn_mk (j := 0) F0 sc__law_alike fun cdv A outer s H E cx => mss_fail) (T.glo 8) F0.kp (F0.bindsN fun _ _ _ _ _ _ us hl => match us, hl with | [_, _], _ => rfl))
  | n + 1 => by
    have ih := S__law_alike_ok T TB n
    obtain ⟨fd0, F0⟩ := T.def_ 0
    exact (.mk1 (ps := ["_law_found", "_law_due"]) rfl (fn_mk (j := n + 1) F0 sc__law_alike fun cdv A outer s H E cx => (mss_cons (ms_if (mt_val (me_isi2 (T := .tup) (U := .lst) (me_var 1) (T.free 0) (T.free 1) (T.free 2) bt_tuple bt_list))
    (mss_cons (ms_if (mt_w (mw_or (mt_not (mt_val (me_isi2 (T := .tup) (U := .lst) (me_var 0) (T.free 0) (T.free 1) (T.free 2) bt_tuple bt_list))) (mw_one_or (mt_cmp ((op_neD (un64 cx)).or op_ne) opm_ne (nomark _) (me_isi (T := .lst) (me_var 0) (T.free 0) (T.free 2) bt_list) (me_isi (T := .lst) (me_var 1) (T.free 0) (T.free 2) bt_list)))))
    (mss_one (ms_ret me_bl))
    mss_nil)
    (mss_cons (ms_if (mt_cmp ((op_neD (un64 cx)).or op_ne) opm_ne (nomark _) (me_blt (call_len.or (cr_lenN.or call_lenD)) cal_len2 bt_len (T.free 3) (ma_cons (me_var 0) ma_nil)) (me_blt (call_len.or (cr_lenN.or call_lenD)) cal_len2 bt_len (T.free 3) (ma_cons (me_var 1) ma_nil)))
    (mss_one (ms_ret me_bl))
    mss_nil)
    (mss_one (ms_ret (me_cmp ((op_eqD (un64 cx)).or op_eq) opm_eq (nomark _) (me_fz (ml_lc [("_law_k", 2)] cx (mi_range1 (T.free 4) (ma_cons (me_blt (call_len.or (cr_lenN.or call_lenD)) cal_len2 bt_len (T.free 3) (ma_cons (me_var 1) ma_nil)) ma_nil)) (fun _ _ _ _ _ => (mg_nm 2 cx.nd)) (fun _ _ _ _ _ => (mts_one (mt_not (mt_val (me_call (cx.blk _ _ _ _ _) ih (ma_cons (me_ix2 (cx.blk _ _ _ _ _) (me_var 0) (me_var 2)) (ma_cons (me_ix2 (cx.blk _ _ _ _ _) (me_var 1) (me_var 2)) ma_nil)) (argN_cons (argN_cons argN_nil)) (by omega)))))) (fun _ _ _ _ _ c1 => (me_var 2)) (by show blkC ["_law_found", "_law_due", "_law_k"] (defScope s__law_alike) _ _ = true; decide +kernel))) (me_fz (ml_disp ma_nil)))))))
    mss_nil)
    (mss_cons (ms_if (mt_w (mw_or (mt_cmp op_isN opm_isN (nomark _) (me_var 1) me_non) (mw_one_or (mt_val (me_isi (T := .str) (me_var 1) (T.free 0) (T.free 5) bt_str)))))
    (mss_one (ms_ret (me_and (me_cmp ((op_eqD (un64 cx)).or op_eq) opm_eq (nomark _) (me_var 0) (me_var 1)) (me_one (me_cmp ((op_eqD (un64 cx)).or op_eq) opm_eq (nomark _) (me_isi (T := .str) (me_var 0) (T.free 0) (T.free 5) bt_str) (me_isi (T := .str) (me_var 1) (T.free 0) (T.free 5) bt_str))))))
    mss_nil)
    (mss_one (ms_ret (me_and (me_isi (T := .int) (me_var 0) (T.free 0) (T.free 6) bt_int) (me_and (me_cmp ((op_eqD (un64 cx)).or op_eq) opm_eq (nomark _) (me_isi (T := .bl) (me_var 0) (T.free 0) (T.free 7) bt_bool) (me_isi (T := .bl) (me_var 1) (T.free 0) (T.free 7) bt_bool)) (me_one (me_cmp ((op_eqD (un64 cx)).or op_eq) opm_eq (nomark _) (me_var 0) (me_var 1)))))))))) (T.glo 8) F0.kp (F0.bindsN fun _ _ _ _ _ _ us hl => match us, hl with | [_, _], _ => rfl))
theorem d__law_alike (T : Tp fa fx fn K mg) (TB : ∀ p ∈ tf, GxR.TabB base mg (He.cT K p).1 (He.cT K p).2) : Dfn P w K mg base "_law_alike" 2 21 (F__law_alike 20) := (S__law_alike_ok T TB 20)
theorem d__law_back (T : Tp fa fx fn K mg) (TB : ∀ p ∈ tf, GxR.TabB base mg (He.cT K p).1 (He.cT K p).2) : Dfn P w K mg base "_law_back" 1 2 m__law_back := by
  obtain ⟨fd, F⟩ := T.def_ 1
  exact (.mk1 (ps := ["_law_turn"]) rfl (fn_mk F sc__law_back fun cdv A outer s H E cx => (mss_one (ms_ret (me_ty call_tupF cal_tup bt_tuple (T.free 1) (ma_cons (me_fz (ml_lc [("_law_place", 1)] cx (mi_range1 (T.free 4) (ma_cons (me_blt (call_len.or (cr_lenN.or call_lenD)) cal_len2 bt_len (T.free 3) (ma_cons (me_var 0) ma_nil)) ma_nil)) (fun _ _ _ _ _ => (mg_nm 1 cx.nd)) (fun _ _ _ _ _ => mts_nil) (fun _ _ _ _ _ c1 => (me_tidx c1 (me_var 0) (me_var 1))) (by show blkC ["_law_turn", "_law_place"] (defScope s__law_back) _ _ = true; decide +kernel))) ma_nil))))) (T.glo 9) F.kp (F.bindsN fun _ _ _ _ _ _ us hl => match us, hl with | [_], _ => rfl))
theorem d__law_behind (T : Tp fa fx fn K mg) (TB : ∀ p ∈ tf, GxR.TabB base mg (He.cT K p).1 (He.cT K p).2) : Dfn P w K mg base "_law_behind" 2 2 m__law_behind := by
  obtain ⟨fd, F⟩ := T.def_ 2
  exact (.mk1 (ps := ["_law_one", "_law_other"]) rfl (fn_mk F sc__law_behind fun cdv A outer s H E cx => (mss_one (ms_ret (me_ty call_tupF cal_tup bt_tuple (T.free 1) (ma_cons (me_fz (ml_lc [("_law_place", 2)] cx (mi_any (me_var 0)) (fun _ _ _ _ _ => (mg_nm 2 cx.nd)) (fun _ _ _ _ _ => mts_nil) (fun _ _ _ _ _ c1 => (me_ix2 c1 (me_var 1) (me_var 2))) (by show blkC ["_law_one", "_law_other", "_law_place"] (defScope s__law_behind) _ _ = true; decide +kernel))) ma_nil))))) (T.glo 10) F.kp (F.bindsN fun _ _ _ _ _ _ us hl => match us, hl with | [_, _], _ => rfl))
theorem d__law_is (T : Tp fa fx fn K mg) (TB : ∀ p ∈ tf, GxR.TabB base mg (He.cT K p).1 (He.cT K p).2) : Dfn P w K mg base "_law_is" 2 2 m__law_is := by
  obtain ⟨fd, F⟩ := T.def_ 3
  exact (.mk1 (ps := ["_law_found", "_law_due"]) rfl (fn_mk F sc__law_is fun cdv A outer s H E cx => (mss_one (ms_ret (me_and (me_isi (T := .bl) (me_var 0) (T.free 0) (T.free 7) bt_bool) (me_one (me_cmp ((op_eqD (un64 cx)).or op_eq) opm_eq (nomark _) (me_var 0) (me_var 1))))))) (T.glo 11) F.kp (F.bindsN fun _ _ _ _ _ _ us hl => match us, hl with | [_, _], _ => rfl))
theorem d__law_taken (T : Tp fa fx fn K mg) (TB : ∀ p ∈ tf, GxR.TabB base mg (He.cT K p).1 (He.cT K p).2) : Dfn P w K mg base "_law_taken" 2 2 m__law_taken := by
  obtain ⟨fd, F⟩ := T.def_ 4
  exact (.mk1 (ps := ["_law_row", "_law_many"]) rfl (fn_mk F sc__law_taken fun cdv A outer s H E cx => (mss_cons (ms_if (mt_cmp op_gt opm_cmp (nomark _) (me_ix2 cx (me_var 0) me_int) me_int)
    (mss_cons (ms_set 2 (me_mod (me_ty (call_int1.or call_int_str) cal_int bt_int (T.free 6) (ma_cons (me_ix2 cx (me_var 0) me_int) ma_nil)) (me_var 1)) cx.nd)
    (mss_cons (ms_setAt cx (me_fdiv (me_ix2 cx (me_var 0) me_int) (me_var 1)) (me_var 0) me_int)
    (mss_one (ms_ret (me_var 2)))))
    mss_nil)
    (mss_cons (ms_setAt cx (me_plus (me_ix2 cx (me_var 0) me_int) me_int) (me_var 0) me_int)
    (mss_cons (ms_if (mt_cmp op_gt opm_cmp (nomark _) (me_ix2 cx (me_var 0) me_int) (me_blt (call_len.or (cr_lenN.or call_lenD)) cal_len2 bt_len (T.free 3) (ma_cons (me_ix2 cx (me_var 0) me_int) ma_nil)))
    (mss_cons (ms_setAt cx (me_mod (me_ty (call_int1.or call_int_str) cal_int bt_int (T.free 6) (ma_cons (me_plus (me_times (me_ix2 cx (me_var 0) me_int) me_int) me_int) ma_nil)) me_int) (me_var 0) me_int)
    (mss_one (ms_ret (me_mod (me_ty (call_int1.or call_int_str) cal_int bt_int (T.free 6) (ma_cons (me_fdiv (me_ix2 cx (me_var 0) me_int) me_int) ma_nil)) (me_var 1)))))
    mss_nil)
    (mss_cons (ms_set 3 (me_ix2 cx (me_ix2 cx (me_var 0) me_int) (me_sub (me_ix2 cx (me_var 0) me_int) me_int)) cx.nd)
    (mss_cons (ms_setAt cx (me_mod (me_ty (call_int1.or call_int_str) cal_int bt_int (T.free 6) (ma_cons (me_plus (me_plus (me_times (me_ix2 cx (me_var 0) me_int) me_int) (me_var 3)) me_int) ma_nil)) me_int) (me_var 0) me_int)
    (mss_cons (ms_if (mt_cmp op_ge opm_cmp (nomark _) (me_var 3) (me_pow me_int me_int))
    (mss_one (ms_setAt cx (me_fdiv (me_var 3) (me_var 1)) (me_var 0) me_int))
    mss_nil)
    (mss_one (ms_ret (me_mod (me_ty (call_int1.or call_int_str) cal_int bt_int (T.free 6) (ma_cons (me_var 3) ma_nil)) (me_var 1))))))))))) (T.glo 12) F.kp (F.bindsN fun _ _ _ _ _ _ us hl => match us, hl with | [_, _], _ => rfl))
theorem d__law_permutation (T : Tp fa fx fn K mg) (TB : ∀ p ∈ tf, GxR.TabB base mg (He.cT K p).1 (He.cT K p).2) : Dfn P w K mg base "_law_permutation" 2 3 m__law_permutation := by
  obtain ⟨fd, F⟩ := T.def_ 5
  exact (.mk1 (ps := ["_law_row", "_law_places"]) rfl (fn_mk F sc__law_permutation fun cdv A outer s H E cx => (mss_cons (ms_par 2 3 (ma_cons (me_al (ml_lrng cx.calm (T.free 2) (T.free 4) (me_var 1))) (ma_cons (me_al (ml_disp ma_nil)) ma_nil)) cx.calm cx.nd)
    (mss_cons (ms_for cx (mi_range1 (T.free 4) (ma_cons (me_var 1) ma_nil)) (mg_nm 4 cx.nd)
    (mss_one (ms_expr (me_app (me_var 3) (me_popI (me_var 2) (me_call cx (d__law_taken T TB) (ma_cons (me_var 0) (ma_cons (me_blt (call_len.or (cr_lenN.or call_lenD)) cal_len2 bt_len (T.free 3) (ma_cons (me_var 2) ma_nil)) ma_nil)) (argN_cons (argN_cons argN_nil)) (by omega)))))))
    (mss_one (ms_ret (me_ty call_tupF cal_tup bt_tuple (T.free 1) (ma_cons (me_var 3) ma_nil))))))) (T.glo 13) F.kp (F.bindsN fun _ _ _ _ _ _ us hl => match us, hl with | [_, _], _ => rfl))
theorem d__law_pick (T : Tp fa fx fn K mg) (TB : ∀ p ∈ tf, GxR.TabB base mg (He.cT K p).1 (He.cT K p).2) : Dfn P w K mg base "_law_pick" 2 3 m__law_pick := by
  obtain ⟨fd, F⟩ := T.def_ 6
  exact (.mk1 (ps := ["_law_row", "_law_things"]) rfl (fn_mk F sc__law_pick fun cdv A outer s H E cx => (mss_one (ms_ret (me_ix2 cx (me_var 1) (me_call cx (d__law_taken T TB) (ma_cons (me_var 0) (ma_cons (me_blt (call_len.or (cr_lenN.or call_lenD)) cal_len2 bt_len (T.free 3) (ma_cons (me_var 1) ma_nil)) ma_nil)) (argN_cons (argN_cons argN_nil)) (by omega)))))) (T.glo 14) F.kp (F.bindsN fun _ _ _ _ _ _ us hl => match us, hl with | [_, _], _ => rfl))
theorem d__law_known (T : Tp fa fx fn K mg) (TB : ∀ p ∈ tf, GxR.TabB base mg (He.cT K p).1 (He.cT K p).2) : Dfn P w K mg base "_law_known" 2 4 m__law_known := by
  obtain ⟨fd, F⟩ := T.def_ 7
  exact (.mk1 (ps := ["_law_row", "_law_kinds"]) rfl (fn_mk F sc__law_known fun cdv A outer s H E cx => (mss_cons (ms_set 2 (me_dctK (mps_cons me_str (me_tup (ma_cons (me_tup (ma_cons me_int (ma_cons me_int (ma_cons me_int (ma_cons me_int ma_nil))))) ma_nil)) (mps_cons me_str (me_tup (ma_cons (me_tup (ma_cons me_int (ma_cons me_int (ma_cons me_int (ma_cons me_int ma_nil))))) (ma_cons (me_tup (ma_cons me_int (ma_cons me_int (ma_cons me_int (ma_cons me_int ma_nil))))) ma_nil))) (mps_cons me_str (me_tup (ma_cons (me_tup (ma_cons me_int (ma_cons me_int (ma_cons me_int (ma_cons me_int ma_nil))))) (ma_cons (me_tup (ma_cons me_int (ma_cons me_int (ma_cons me_int (ma_cons me_int ma_nil))))) ma_nil))) (mps_cons me_str (me_tup (ma_cons (me_tup (ma_cons me_int (ma_cons me_int (ma_cons me_int (ma_cons me_int (ma_cons me_int (ma_cons me_int ma_nil))))))) (ma_cons (me_tup (ma_cons me_int (ma_cons me_int (ma_cons me_int (ma_cons me_int (ma_cons me_int (ma_cons me_int ma_nil))))))) (ma_cons (me_tup (ma_cons me_int (ma_cons me_int (ma_cons me_int (ma_cons me_int (ma_cons me_int (ma_cons me_int ma_nil))))))) ma_nil)))) (mps_cons me_str (me_tup (ma_cons (me_tup (ma_cons me_int (ma_cons me_int (ma_cons me_int (ma_cons me_int (ma_cons me_int (ma_cons me_int (ma_cons me_int (ma_cons me_int ma_nil))))))))) ma_nil)) (mps_cons me_str (me_tup (ma_cons (me_tup (ma_cons me_int (ma_cons me_int (ma_cons me_int (ma_cons me_int (ma_cons me_int (ma_cons me_int (ma_cons me_int (ma_cons me_int (ma_cons me_int ma_nil)))))))))) ma_nil)) (mps_cons me_str (me_tup (ma_cons (me_tup (ma_cons me_int (ma_cons me_int (ma_cons me_int (ma_cons me_int (ma_cons me_int (ma_cons me_int (ma_cons me_int (ma_cons me_int ma_nil))))))))) (ma_cons (me_tup (ma_cons me_int (ma_cons me_int (ma_cons me_int (ma_cons me_int (ma_cons me_int (ma_cons me_int (ma_cons me_int (ma_cons me_int ma_nil))))))))) ma_nil))) (mps_cons me_str (me_tup (ma_cons (me_tup (ma_cons me_int (ma_cons me_int (ma_cons me_int (ma_cons me_int (ma_cons me_int (ma_cons me_int ma_nil))))))) (ma_cons (me_tup (ma_cons me_int (ma_cons me_int (ma_cons me_int (ma_cons me_int (ma_cons me_int (ma_cons me_int ma_nil))))))) ma_nil))) (mps_cons me_str (me_tup (ma_cons (me_tup (ma_cons me_int (ma_cons me_int (ma_cons me_int ma_nil)))) (ma_cons (me_tup (ma_cons me_int (ma_cons me_int (ma_cons me_int ma_nil)))) ma_nil))) (mps_cons me_str (me_tup (ma_cons (me_tup (ma_cons me_int (ma_cons me_int (ma_cons me_int (ma_cons me_int ma_nil))))) (ma_cons (me_tup (ma_cons me_int (ma_cons me_int (ma_cons me_int (ma_cons me_int ma_nil))))) ma_nil))) (mps_cons me_str (me_tup (ma_cons (me_tup (ma_cons me_int (ma_cons me_int (ma_cons me_int (ma_cons me_int (ma_cons me_int ma_nil)))))) (ma_cons (me_tup (ma_cons me_int (ma_cons me_int (ma_cons me_int (ma_cons me_int (ma_cons me_int ma_nil)))))) ma_nil))) (mps_cons me_str (me_tup (ma_cons (me_tup (ma_cons me_int (ma_cons me_int (ma_cons me_int (ma_cons me_int (ma_cons me_int (ma_cons me_int (ma_cons me_int (ma_cons me_int (ma_cons me_int ma_nil)))))))))) (ma_cons (me_tup (ma_cons me_int (ma_cons me_int (ma_cons me_int (ma_cons me_int (ma_cons me_int (ma_cons me_int (ma_cons me_int (ma_cons me_int (ma_cons me_int ma_nil)))))))))) ma_nil))) (mps_cons me_str (me_tup (ma_cons (me_tup (ma_cons me_int (ma_cons me_int (ma_cons me_int (ma_cons me_int (ma_cons me_int ma_nil)))))) (ma_cons (me_tup (ma_cons me_int (ma_cons me_int (ma_cons me_int (ma_cons me_int (ma_cons me_int ma_nil)))))) ma_nil))) (mps_cons me_str (me_tup (ma_cons (me_tup (ma_cons me_int (ma_cons me_int (ma_cons me_int (ma_cons me_int ma_nil))))) (ma_cons (me_tup (ma_cons me_int (ma_cons me_int (ma_cons me_int (ma_cons me_int ma_nil))))) ma_nil))) (mps_cons me_str (me_tup (ma_cons (me_tup (ma_cons me_int (ma_cons me_int (ma_cons me_int (ma_cons me_int (ma_cons me_int ma_nil)))))) (ma_cons (me_tup (ma_cons me_int (ma_cons me_int (ma_cons me_int (ma_cons me_int (ma_cons me_int ma_nil)))))) ma_nil))) mps_nil)))))))))))))))) cx.nd)
    (mss_cons (ms_set 3 (me_ix2 cx (me_var 2) (me_call cx (d__law_pick T TB) (ma_cons (me_var 0) (ma_cons (me_var 1) ma_nil)) (argN_cons (argN_cons argN_nil)) (by omega))) cx.nd)
    (mss_cons (ms_set 4 (me_call cx (d__law_permutation T TB) (ma_cons (me_var 0) (ma_cons (me_blt (call_len.or (cr_lenN.or call_lenD)) cal_len2 bt_len (T.free 3) (ma_cons (me_ix2 cx (me_var 3) me_int) ma_nil)) ma_nil)) (argN_cons (argN_cons argN_nil)) (by omega)) cx.nd)
    (mss_cons (ms_set 5 (me_al (ml_disp ma_nil)) cx.nd)
    (mss_cons (ms_for cx (mi_any (me_var 3)) (mg_nm 6 cx.nd)
    (mss_cons (ms_set 7 (me_al (ml_rep (me_fz (ml_disp (ma_cons me_int ma_nil))) (me_blt (call_len.or (cr_lenN.or call_lenD)) cal_len2 bt_len (T.free 3) (ma_cons (me_var 6) ma_nil)))) cx.nd)
    (mss_cons (ms_for cx (mi_enum2 (T.free 15) (me_var 6)) (mg_tup cx.calm (mgs_cons (mg_nm 8 cx.nd) (mgs_cons (mg_nm 9 cx.nd) mgs_nil)))
    (mss_one (ms_setAt cx (me_ix2 cx (me_var 4) (me_var 9)) (me_var 7) (me_ix2 cx (me_var 4) (me_var 8)))))
    (mss_one (ms_expr (me_app (me_var 5) (me_ty call_tupF cal_tup bt_tuple (T.free 1) (ma_cons (me_var 7) ma_nil))))))))
    (mss_one (ms_ret (me_ty call_tupF cal_tup bt_tuple (T.free 1) (ma_cons (me_var 5) ma_nil)))))))))) (T.glo 16) F.kp (F.bindsN fun _ _ _ _ _ _ us hl => match us, hl with | [_, _], _ => rfl))
theorem d__law_lock (T : Tp fa fx fn K mg) (TB : ∀ p ∈ tf, GxR.TabB base mg (He.cT K p).1 (He.cT K p).2) : Dfn P w K mg base "_law_lock" 2 5 m__law_lock := by
  obtain ⟨fd, F⟩ := T.def_ 8
  exact (.mk1 (ps := ["_law_row", "_law_kinds"]) rfl (fn_mk F sc__law_lock fun cdv A outer s H E cx => (mss_cons (ms_if (mt_cmp op_gt opm_cmp (nomark _) (me_call cx (d__law_taken T TB) (ma_cons (me_var 0) (ma_cons me_int ma_nil)) (argN_cons (argN_cons argN_nil)) (by omega)) me_int)
    (mss_one (ms_ret (me_call cx (d__law_known T TB) (ma_cons (me_var 0) (ma_cons (me_var 1) ma_nil)) (argN_cons (argN_cons argN_nil)) (by omega))))
    mss_nil)
    (mss_cons (ms_set 2 (me_plus me_int (me_call cx (d__law_taken T TB) (ma_cons (me_var 0) (ma_cons me_int ma_nil)) (argN_cons (argN_cons argN_nil)) (by omega))) cx.nd)
    (mss_one (ms_ret (me_ty call_tupF cal_tup bt_tuple (T.free 1) (ma_cons (me_fz (ml_lc [("_law_turn", 3)] cx (mi_range1 (T.free 4) (ma_cons (me_plus me_int (me_call cx (d__law_taken T TB) (ma_cons (me_var 0) (ma_cons me_int ma_nil)) (argN_cons (argN_cons argN_nil)) (by omega))) ma_nil)) (fun _ _ _ _ _ => (mg_nm 3 cx.nd)) (fun _ _ _ _ _ => mts_nil) (fun _ _ _ _ _ c1 => (me_call c1 (d__law_permutation T TB) (ma_cons (me_var 0) (ma_cons (me_var 2) ma_nil)) (argN_cons (argN_cons argN_nil)) (by omega))) (by show blkC ["_law_row", "_law_kinds", "_law_places", "_law_turn"] (defScope s__law_lock) _ _ = true; decide +kernel))) ma_nil))))))) (T.glo 17) F.kp (F.bindsN fun _ _ _ _ _ _ us hl => match us, hl with | [_, _], _ => rfl))
theorem d__law_span (T : Tp fa fx fn K mg) (TB : ∀ p ∈ tf, GxR.TabB base mg (He.cT K p).1 (He.cT K p).2) : Dfn P w K mg base "_law_span" 2 3 m__law_span := by
  obtain ⟨fd, F⟩ := T.def_ 9
  exact (.mk1 (ps := ["_law_places", "_law_given"]) rfl (fn_mk F sc__law_span fun cdv A outer s H E cx => (mss_cons (ms_set 2 (me_al (ml_disp (ma_cons (me_trng cx.calm (T.free 1) (T.free 4) (me_var 0)) ma_nil))) cx.nd)
    (mss_cons (ms_for cx (mi_range1 (T.free 4) (ma_cons me_int ma_nil)) (mg_nm 3 cx.nd)
    (mss_one (ms_for cx (mi_any (me_slice (me_var 2) (mo_some (me_var 3)) (mo_some (me_plus (me_var 3) me_int)))) (mg_nm 4 cx.nd)
    (mss_cons (ms_setLc 5 [("_law_other", 6)] cx (mi_any (me_var 1)) (fun _ _ _ _ _ => (mg_nm 6 cx.nd)) (fun _ _ _ _ _ => mts_nil) (fun _ _ _ _ _ c1 => (me_call c1 (d__law_behind T TB) (ma_cons (me_var 4) (ma_cons (me_var 6) ma_nil)) (argN_cons (argN_cons argN_nil)) (by omega))) (fun _ => rg_fz) (ok := (by show blkC ["_law_places", "_law_given", "_law_found", "_law_turn", "_law_one", "_law_later", "_law_other"] (defScope s__law_span) _ _ = true; decide +kernel)))
    (mss_one (ms_set 2 (me_plus (me_var 2) (me_fz (ml_lc [("_law_other", 6)] cx (mi_any (me_srtSet cx (T.free 18) (T.free 19) (me_var 5))) (fun _ _ _ _ _ => (mg_nm 6 cx.nd)) (fun _ _ _ _ _ => (mts_one (mt_cmp (((op_notInD (un65 (cx.blk _ _ _ _ _))).or (op_notIn_seq.or op_notIn_sign)).or (op_ninN (un65 (cx.blk _ _ _ _ _)))) opm_nin2 (by with_unfolding_all rfl) (me_var 6) (me_var 2)))) (fun _ _ _ _ _ c2 => (me_var 6)) (by show blkC ["_law_places", "_law_given", "_law_found", "_law_turn", "_law_one", "_law_later", "_law_other"] (defScope s__law_span) _ _ = true; decide +kernel)))) cx.nd))))))
    (mss_one (ms_ret (me_blt (cr_srt cx.calm (un65 cx)) cal_srt PyProof.Rows.boot_sorted (T.free 18) (ma_cons (me_var 2) ma_nil))))))) (T.glo 20) F.kp (F.bindsN fun _ _ _ _ _ _ us hl => match us, hl with | [_, _], _ => rfl))
theorem d__law_swap (T : Tp fa fx fn K mg) (TB : ∀ p ∈ tf, GxR.TabB base mg (He.cT K p).1 (He.cT K p).2) : Dfn P w K mg base "_law_swap" 2 3 m__law_swap := by
  obtain ⟨fd, F⟩ := T.def_ 10
  exact (.mk1 (ps := ["_law_one", "_law_other"]) rfl (fn_mk F sc__law_swap fun cdv A outer s H E cx => (mss_one (ms_ret (me_call cx (d__law_behind T TB) (ma_cons (me_call cx (d__law_behind T TB) (ma_cons (me_var 0) (ma_cons (me_var 1) ma_nil)) (argN_cons (argN_cons argN_nil)) (by omega)) (ma_cons (me_call cx (d__law_behind T TB) (ma_cons (me_call cx (d__law_back T TB) (ma_cons (me_var 0) ma_nil) (argN_cons argN_nil) (by omega)) (ma_cons (me_call cx (d__law_back T TB) (ma_cons (me_var 1) ma_nil) (argN_cons argN_nil) (by omega)) ma_nil)) (argN_cons (argN_cons argN_nil)) (by omega)) ma_nil)) (argN_cons (argN_cons argN_nil)) (by omega))))) (T.glo 21) F.kp (F.bindsN fun _ _ _ _ _ _ us hl => match us, hl with | [_, _], _ => rfl))
theorem d__law_words (T : Tp fa fx fn K mg) (TB : ∀ p ∈ tf, GxR.TabB base mg (He.cT K p).1 (He.cT K p).2) : Dfn P w K mg base "_law_words" 1 3 m__law_words := by
  obtain ⟨fd, F⟩ := T.def_ 11
  exact (.mk1 (ps := ["_law_lock_here"]) rfl (fn_mk F sc__law_words fun cdv A outer s H E cx => (mss_cons (ms_set 1 (me_trng cx.calm (T.free 1) (T.free 4) (me_blt (call_len.or (cr_lenN.or call_lenD)) cal_len2 bt_len (T.free 3) (ma_cons (me_ix2 cx (me_var 0) me_int) ma_nil))) cx.nd)
    (mss_cons (ms_par 2 3 (ma_cons (me_dctN cx (me_var 1) (me_tup ma_nil)) (ma_cons (me_al (ml_disp (ma_cons (me_var 1) ma_nil))) ma_nil)) cx.calm cx.nd)
    (mss_cons (ms_for cx (mi_range1 (T.free 4) (ma_cons me_int ma_nil)) (mg_nm 4 cx.nd)
    (mss_one (ms_for cx (mi_any (me_slice (me_var 3) (mo_some (me_var 4)) (mo_some (me_plus (me_var 4) me_int)))) (mg_nm 5 cx.nd)
    (mss_one (ms_for cx (mi_enum2 (T.free 15) (me_var 0)) (mg_tup cx.calm (mgs_cons (mg_nm 6 cx.nd) (mgs_cons (mg_nm 7 cx.nd) mgs_nil)))
    (mss_cons (ms_set 8 (me_call cx (d__law_behind T TB) (ma_cons (me_var 5) (ma_cons (me_var 7) ma_nil)) (argN_cons (argN_cons argN_nil)) (by omega)) cx.nd)
    (mss_one (ms_if (mt_cmp (((op_notInD (un65 cx)).or (op_notIn_seq.or op_notIn_sign)).or (op_ninN (un65 cx))) opm_nin2 (by with_unfolding_all rfl) (me_var 8) (me_var 2))
    (mss_cons (ms_setAt cx (me_plus (me_ix2 cx (me_var 2) (me_var 5)) (me_tup (ma_cons (me_var 6) ma_nil))) (me_var 2) (me_var 8))
    (mss_one (ms_expr (me_app (me_var 3) (me_var 8)))))
    mss_nil))))))))
    (mss_one (ms_ret (me_var 2))))))) (T.glo 22) F.kp (F.bindsN fun _ _ _ _ _ _ us hl => match us, hl with | [_], _ => rfl))
theorem d_is_number (T : Tp fa fx fn K mg) (TB : ∀ p ∈ tf, GxR.TabB base mg (He.cT K p).1 (He.cT K p).2) : Dfn P w K mg base "is_number" 3 2 m_is_number := by
  obtain ⟨fd, F⟩ := T.def_ 12
  exact (.mk1 (ps := ["value", "low", "high"]) rfl (fn_mk F sc_is_number fun cdv A outer s H E cx => (mss_one (ms_ret (me_and (me_isi (T := .int) (me_var 0) (T.free 0) (T.free 6) bt_int) (me_and (me_not (me_isi (T := .bl) (me_var 0) (T.free 0) (T.free 7) bt_bool)) (me_one (me_chain op_le op_le opm_cmp opm_cmp cmp_bl (me_var 1) (me_var 0) (me_var 2)))))))) (T.glo 23) F.kp (F.bindsN fun _ _ _ _ _ _ us hl => match us, hl with | [_, _, _], _ => rfl))
theorem d_is_turn (T : Tp fa fx fn K mg) (TB : ∀ p ∈ tf, GxR.TabB base mg (He.cT K p).1 (He.cT K p).2) : Dfn P w K mg base "is_turn" 2 4 m_is_turn := by
  obtain ⟨fd, F⟩ := T.def_ 13
  exact (.mk1 (ps := ["places", "value"]) rfl (fn_mkT F sc_is_turn fun cdv A outer s H E ec cx => (mss_cons (ms_if (mt_w (mw_or (mt_not (mt_val (me_isi (T := .tup) (me_var 1) (T.free 0) (T.free 1) bt_tuple))) (mw_one_or (mt_cmp ((op_neD (un64 cx)).or op_ne) opm_ne (nomark _) (me_blt (call_len.or (cr_lenN.or call_lenD)) cal_len2 bt_len (T.free 3) (ma_cons (me_var 1) ma_nil)) (me_var 0)))))
    (mss_one (ms_ret me_bl))
    mss_nil)
    (mss_one (ms_ret (me_and (me_all [("place", 2)] 0 (("is_turn", none) : Str × Option Str) cx (T.free 24) (TB _ (List.mem_of_getElem? (show tf[0]? = some (("is_turn", none) : Str × Option Str) from rfl))) ec (mi_any (me_var 1)) (fun _ _ _ _ _ _ _ _ => (mg_nm 2 cx.nd)) (fun _ _ _ _ _ _ _ => mts_nil) (fun _ _ _ _ _ _ _ c1 => (me_call c1 (d_is_number T TB) (ma_cons (me_var 2) (ma_cons me_int (ma_cons (me_sub (me_var 0) me_int) ma_nil))) (argN_cons (argN_cons (argN_cons argN_nil))) (by omega))) (ok := (by show blkC ["places", "value", "place"] (defScope s_is_turn) _ _ = true; decide +kernel)) (hdot := (by show ((".0" : Str) ∉ (["places", "value", "place"] : List Str)); decide +kernel))) (me_one (me_cmp ((op_eqD (un64 cx)).or op_eq) opm_eq (nomark _) (me_lenSet cx (T.free 3) (T.free 19) (me_var 1)) (me_var 0)))))))) (T.glo 25) F.kp (F.bindsN fun _ _ _ _ _ _ us hl => match us, hl with | [_, _], _ => rfl))
theorem d_behind (T : Tp fa fx fn K mg) (TB : ∀ p ∈ tf, GxR.TabB base mg (He.cT K p).1 (He.cT K p).2) : Dfn P w K mg base "behind" 2 2 m_behind := by
  obtain ⟨fd, F⟩ := T.def_ 14
  exact (.mk1 (ps := ["one", "other"]) rfl (fn_mk F sc_behind fun cdv A outer s H E cx => (mss_one (ms_ret (me_ty call_tupF cal_tup bt_tuple (T.free 1) (ma_cons (me_fz (ml_lc [("place", 2)] cx (mi_any (me_var 0)) (fun _ _ _ _ _ => (mg_nm 2 cx.nd)) (fun _ _ _ _ _ => mts_nil) (fun _ _ _ _ _ c1 => (me_ix2 c1 (me_var 1) (me_var 2))) (by show blkC ["one", "other", "place"] (defScope s_behind) _ _ = true; decide +kernel))) ma_nil))))) (T.glo 26) F.kp (F.bindsN fun _ _ _ _ _ _ us hl => match us, hl with | [_, _], _ => rfl))
theorem d_still (T : Tp fa fx fn K mg) (TB : ∀ p ∈ tf, GxR.TabB base mg (He.cT K p).1 (He.cT K p).2) : Dfn P w K mg base "still" 1 2 m_still := by
  obtain ⟨fd, F⟩ := T.def_ 15
  exact (.mk1 (ps := ["places"]) rfl (fn_mk F sc_still fun cdv A outer s H E cx => (mss_one (ms_ret (me_trng cx.calm (T.free 1) (T.free 4) (me_var 0))))) (T.glo 27) F.kp (F.bindsN fun _ _ _ _ _ _ us hl => match us, hl with | [_], _ => rfl))
theorem d_TooMany_exc (T : Tp fa fx fn K mg) (TB : ∀ p ∈ tf, GxR.TabB base mg (He.cT K p).1 (He.cT K p).2) : ExcI P w K mg base "TooMany" 1 1 (spI1 K "TooMany" "most") := by
  obtain ⟨fd, F⟩ := T.def_ 17
  exact ⟨T.oex 0, T.glo 29, _, fd, ["self", "most"], rfl, (T.meth 30).at_, beq_iff_eq.mp (T.meth 30).fn, init1_ok (K := ⟨K, P, w⟩) F sc_TooMany_init rfl fun cdv A outer s H E => pss_one (ps_ost (pe_var (i := 0) rfl (by first | exact Or.inl rfl | exact Or.inr (Or.inl rfl) | exact Or.inr (Or.inr rfl))) (pe_var (i := 1) rfl (by first | exact Or.inl rfl | exact Or.inr (Or.inl rfl) | exact Or.inr (Or.inr rfl)))), F.bindsN fun _ _ _ _ _ _ us hl => match us, hl with | [_, _], _ => rfl⟩
theorem d_spanned (T : Tp fa fx fn K mg) (TB : ∀ p ∈ tf, GxR.TabB base mg (He.cT K p).1 (He.cT K p).2) : Dfn P w K mg base "spanned" 2 3 m_spanned := by
  obtain ⟨fd, F⟩ := T.def_ 16
  exact (.mk1 (ps := ["places", "given"]) rfl (fn_mk F sc_spanned fun cdv A outer s H E cx => (mss_cons (ms_par 2 3 (ma_cons (me_dctN cx (me_call cx (d_still T TB) (ma_cons (me_var 0) ma_nil) (argN_cons argN_nil) (by omega)) me_bl) (ma_cons (me_fz (ml_disp (ma_cons (me_call cx (d_still T TB) (ma_cons (me_var 0) ma_nil) (argN_cons argN_nil) (by omega)) ma_nil))) ma_nil)) cx.calm cx.nd)
    (mss_cons (ms_while cx 1000 (mt_tru (me_var 3))
    (mss_cons (ms_set 4 (me_al (ml_disp ma_nil)) cx.nd)
    (mss_cons (ms_for cx (mi_any (me_var 3)) (mg_nm 5 cx.nd)
    (mss_one (ms_for cx (mi_any (me_var 1)) (mg_nm 6 cx.nd)
    (mss_cons (ms_set 7 (me_call cx (d_behind T TB) (ma_cons (me_var 5) (ma_cons (me_var 6) ma_nil)) (argN_cons (argN_cons argN_nil)) (by omega)) cx.nd)
    (mss_one (ms_if (mt_cmp (((op_notInD (un65 cx)).or (op_notIn_seq.or op_notIn_sign)).or (op_ninN (un65 cx))) opm_nin2 (by with_unfolding_all rfl) (me_var 7) (me_var 2))
    (mss_cons (ms_setAt cx me_bl (me_var 2) (me_var 7))
    (mss_one (ms_expr (me_app (me_var 4) (me_var 7)))))
    mss_nil))))))
    (mss_cons (ms_if (mt_cmp op_gt opm_cmp (nomark _) (me_blt (call_len.or (cr_lenN.or call_lenD)) cal_len2 bt_len (T.free 3) (ma_cons (me_var 2) ma_nil)) (me_gint (T.int 28)))
    (mss_one (ms_raise1 cx (d_TooMany_exc T TB) (T.noat 31) (ma_cons (me_gint (T.int 28)) ma_nil) (by omega)))
    mss_nil)
    (mss_one (ms_set 3 (me_var 4) cx.nd))))))
    (mss_one (ms_ret (me_blt (cr_srt cx.calm (un65 cx)) cal_srt PyProof.Rows.boot_sorted (T.free 18) (ma_cons (me_var 2) ma_nil))))))) (T.glo 32) F.kp (F.bindsN fun _ _ _ _ _ _ us hl => match us, hl with | [_, _], _ => rfl))
theorem d_turns_of (T : Tp fa fx fn K mg) (TB : ∀ p ∈ tf, GxR.TabB base mg (He.cT K p).1 (He.cT K p).2) : Dfn P w K mg base "turns_of" 1 4 m_turns_of := by
  obtain ⟨fd, F⟩ := T.def_ 18
  exact (.mk1 (ps := ["lock"]) rfl (fn_mk F sc_turns_of fun cdv A outer s H E cx => (mss_one (ms_ret (me_call cx (d_spanned T TB) (ma_cons (me_blt (call_len.or (cr_lenN.or call_lenD)) cal_len2 bt_len (T.free 3) (ma_cons (me_ix2 cx (me_var 0) me_int) ma_nil)) (ma_cons (me_var 0) ma_nil)) (argN_cons (argN_cons argN_nil)) (by omega))))) (T.glo 33) F.kp (F.bindsN fun _ _ _ _ _ _ us hl => match us, hl with | [_], _ => rfl))
theorem d_BadLock_exc (T : Tp fa fx fn K mg) (TB : ∀ p ∈ tf, GxR.TabB base mg (He.cT K p).1 (He.cT K p).2) : ExcI P w K mg base "BadLock" 1 1 (spI1 K "BadLock" "place") := by
  obtain ⟨fd, F⟩ := T.def_ 20
  exact ⟨T.oex 1, T.glo 35, _, fd, ["self", "place"], rfl, (T.meth 36).at_, beq_iff_eq.mp (T.meth 36).fn, init1_ok (K := ⟨K, P, w⟩) F sc_BadLock_init rfl fun cdv A outer s H E => pss_one (ps_ost (pe_var (i := 0) rfl (by first | exact Or.inl rfl | exact Or.inr (Or.inl rfl) | exact Or.inr (Or.inr rfl))) (pe_var (i := 1) rfl (by first | exact Or.inl rfl | exact Or.inr (Or.inl rfl) | exact Or.inr (Or.inr rfl)))), F.bindsN fun _ _ _ _ _ _ us hl => match us, hl with | [_, _], _ => rfl⟩
theorem d_need_lock (T : Tp fa fx fn K mg) (TB : ∀ p ∈ tf, GxR.TabB base mg (He.cT K p).1 (He.cT K p).2) : Dfn P w K mg base "need_lock" 1 5 m_need_lock := by
  obtain ⟨fd, F⟩ := T.def_ 19
  exact (.mk1 (ps := ["value"]) rfl (fn_mk F sc_need_lock fun cdv A outer s H E cx => (mss_cons (ms_if (mt_w (mw_or (mt_not (mt_val (me_isi (T := .tup) (me_var 0) (T.free 0) (T.free 1) bt_tuple))) (mw_one_or (mt_not (mt_chain op_le op_le opm_cmp opm_cmp cmp_bl me_int (me_blt (call_len.or (cr_lenN.or call_lenD)) cal_len2 bt_len (T.free 3) (ma_cons (me_var 0) ma_nil)) (me_gint (T.int 34)))))))
    (mss_one (ms_raise1 cx (d_BadLock_exc T TB) (T.noat 37) (ma_cons me_non ma_nil) (by omega)))
    mss_nil)
    (mss_cons (ms_if (mt_w (mw_or (mt_not (mt_val (me_isi (T := .tup) (me_ix2 cx (me_var 0) me_int) (T.free 0) (T.free 1) bt_tuple))) (mw_one_or (mt_not (mt_chain op_le op_le opm_cmp opm_cmp cmp_bl (me_gint (T.int 38)) (me_blt (call_len.or (cr_lenN.or call_lenD)) cal_len2 bt_len (T.free 3) (ma_cons (me_ix2 cx (me_var 0) me_int) ma_nil)) (me_gint (T.int 39)))))))
    (mss_one (ms_raise1 cx (d_BadLock_exc T TB) (T.noat 37) (ma_cons me_int ma_nil) (by omega)))
    mss_nil)
    (mss_cons (ms_for cx (mi_enum2 (T.free 15) (me_var 0)) (mg_tup cx.calm (mgs_cons (mg_nm 1 cx.nd) (mgs_cons (mg_nm 2 cx.nd) mgs_nil)))
    (mss_one (ms_if (mt_not (mt_val (me_call cx (d_is_turn T TB) (ma_cons (me_blt (call_len.or (cr_lenN.or call_lenD)) cal_len2 bt_len (T.free 3) (ma_cons (me_ix2 cx (me_var 0) me_int) ma_nil)) (ma_cons (me_var 2) ma_nil)) (argN_cons (argN_cons argN_nil)) (by omega))))
    (mss_one (ms_raise1 cx (d_BadLock_exc T TB) (T.noat 37) (ma_cons (me_var 1) ma_nil) (by omega)))
    mss_nil)))
    (mss_one (ms_expr (me_call cx (d_turns_of T TB) (ma_cons (me_var 0) ma_nil) (argN_cons argN_nil) (by omega)))))))) (T.glo 40) F.kp (F.bindsN fun _ _ _ _ _ _ us hl => match us, hl with | [_], _ => rfl))
theorem d_all_turns (T : Tp fa fx fn K mg) (TB : ∀ p ∈ tf, GxR.TabB base mg (He.cT K p).1 (He.cT K p).2) : Dfn P w K mg base "all_turns" 1 6 m_all_turns := by
  obtain ⟨fd, F⟩ := T.def_ 21
  exact (.mk1 (ps := ["lock"]) rfl (fn_mk F sc_all_turns fun cdv A outer s H E cx => (mss_cons (ms_expr (me_call cx (d_need_lock T TB) (ma_cons (me_var 0) ma_nil) (argN_cons argN_nil) (by omega)))
    (mss_one (ms_ret (me_ty call_tupF cal_tup bt_tuple (T.free 1) (ma_cons (me_call cx (d_turns_of T TB) (ma_cons (me_var 0) ma_nil) (argN_cons argN_nil) (by omega)) ma_nil)))))) (T.glo 41) F.kp (F.bindsN fun _ _ _ _ _ _ us hl => match us, hl with | [_], _ => rfl))
theorem d_is_made (T : Tp fa fx fn K mg) (TB : ∀ p ∈ tf, GxR.TabB base mg (He.cT K p).1 (He.cT K p).2) : Dfn P w K mg base "is_made" 2 6 m_is_made := by
  obtain ⟨fd, F⟩ := T.def_ 22
  exact (.mk1 (ps := ["lock", "turn"]) rfl (fn_mk F sc_is_made fun cdv A outer s H E cx => (mss_cons (ms_expr (me_call cx (d_need_lock T TB) (ma_cons (me_var 0) ma_nil) (argN_cons argN_nil) (by omega)))
    (mss_cons (ms_if (mt_not (mt_val (me_call cx (d_is_turn T TB) (ma_cons (me_blt (call_len.or (cr_lenN.or call_lenD)) cal_len2 bt_len (T.free 3) (ma_cons (me_ix2 cx (me_var 0) me_int) ma_nil)) (ma_cons (me_var 1) ma_nil)) (argN_cons (argN_cons argN_nil)) (by omega))))
    (mss_one (ms_raise0 cx (T.exc0 42 43)))
    mss_nil)
    (mss_one (ms_ret (me_cmp (((op_inD (un65 cx)).or (op_in_seq.or op_in_sign)).or (op_inN (un65 cx))) opm_in2 (by with_unfolding_all rfl) (me_var 1) (me_call cx (d_turns_of T TB) (ma_cons (me_var 0) ma_nil) (argN_cons argN_nil) (by omega)))))))) (T.glo 44) F.kp (F.bindsN fun _ _ _ _ _ _ us hl => match us, hl with | [_, _], _ => rfl))
theorem d_need_turn (T : Tp fa fx fn K mg) (TB : ∀ p ∈ tf, GxR.TabB base mg (He.cT K p).1 (He.cT K p).2) : Dfn P w K mg base "need_turn" 2 5 m_need_turn := by
  obtain ⟨fd, F⟩ := T.def_ 23
  exact (.mk1 (ps := ["lock", "value"]) rfl (fn_mk F sc_need_turn fun cdv A outer s H E cx => (mss_one (ms_if (mt_w (mw_or (mt_not (mt_val (me_call cx (d_is_turn T TB) (ma_cons (me_blt (call_len.or (cr_lenN.or call_lenD)) cal_len2 bt_len (T.free 3) (ma_cons (me_ix2 cx (me_var 0) me_int) ma_nil)) (ma_cons (me_var 1) ma_nil)) (argN_cons (argN_cons argN_nil)) (by omega)))) (mw_one_or (mt_cmp (((op_notInD (un65 cx)).or (op_notIn_seq.or op_notIn_sign)).or (op_ninN (un65 cx))) opm_nin2 (by with_unfolding_all rfl) (me_var 1) (me_call cx (d_turns_of T TB) (ma_cons (me_var 0) ma_nil) (argN_cons argN_nil) (by omega))))))
    (mss_one (ms_raise0 cx (T.exc0 42 43)))
    mss_nil))) (T.glo 45) F.kp (F.bindsN fun _ _ _ _ _ _ us hl => match us, hl with | [_, _], _ => rfl))
theorem d_product (T : Tp fa fx fn K mg) (TB : ∀ p ∈ tf, GxR.TabB base mg (He.cT K p).1 (He.cT K p).2) : Dfn P w K mg base "product" 2 3 m_product := by
  obtain ⟨fd, F⟩ := T.def_ 24
  exact (.mk1 (ps := ["places", "turns"]) rfl (fn_mk F sc_product fun cdv A outer s H E cx => (mss_cons (ms_set 2 (me_call cx (d_still T TB) (ma_cons (me_var 0) ma_nil) (argN_cons argN_nil) (by omega)) cx.nd)
    (mss_cons (ms_for cx (mi_any (me_var 1)) (mg_nm 3 cx.nd)
    (mss_one (ms_set 2 (me_call cx (d_behind T TB) (ma_cons (me_var 2) (ma_cons (me_var 3) ma_nil)) (argN_cons (argN_cons argN_nil)) (by omega)) cx.nd)))
    (mss_one (ms_ret (me_var 2)))))) (T.glo 46) F.kp (F.bindsN fun _ _ _ _ _ _ us hl => match us, hl with | [_, _], _ => rfl))
theorem d_join (T : Tp fa fx fn K mg) (TB : ∀ p ∈ tf, GxR.TabB base mg (He.cT K p).1 (He.cT K p).2) : Dfn P w K mg base "join" 2 6 m_join := by
  obtain ⟨fd, F⟩ := T.def_ 25
  exact (.mk1 (ps := ["lock", "turns"]) rfl (fn_mk F sc_join fun cdv A outer s H E cx => (mss_cons (ms_expr (me_call cx (d_need_lock T TB) (ma_cons (me_var 0) ma_nil) (argN_cons argN_nil) (by omega)))
    (mss_cons (ms_if (mt_not (mt_val (me_isi (T := .tup) (me_var 1) (T.free 0) (T.free 1) bt_tuple)))
    (mss_one (ms_raise0 cx (T.exc0 42 43)))
    mss_nil)
    (mss_cons (ms_for cx (mi_any (me_var 1)) (mg_nm 2 cx.nd)
    (mss_one (ms_expr (me_call cx (d_need_turn T TB) (ma_cons (me_var 0) (ma_cons (me_var 2) ma_nil)) (argN_cons (argN_cons argN_nil)) (by omega)))))
    (mss_one (ms_ret (me_call cx (d_product T TB) (ma_cons (me_blt (call_len.or (cr_lenN.or call_lenD)) cal_len2 bt_len (T.free 3) (ma_cons (me_ix2 cx (me_var 0) me_int) ma_nil)) (ma_cons (me_var 1) ma_nil)) (argN_cons (argN_cons argN_nil)) (by omega)))))))) (T.glo 47) F.kp (F.bindsN fun _ _ _ _ _ _ us hl => match us, hl with | [_, _], _ => rfl))
theorem d_times_round (T : Tp fa fx fn K mg) (TB : ∀ p ∈ tf, GxR.TabB base mg (He.cT K p).1 (He.cT K p).2) : Dfn P w K mg base "times_round" 1 3 m_times_round := by
  obtain ⟨fd, F⟩ := T.def_ 26
  exact (.mk1 (ps := ["turn"]) rfl (fn_mk F sc_times_round fun cdv A outer s H E cx => (mss_cons (ms_par 1 2 (ma_cons me_int (ma_cons (me_var 0) ma_nil)) cx.calm cx.nd)
    (mss_cons (ms_while cx 1000 (mt_cmp ((op_neD (un64 cx)).or op_ne) opm_ne (nomark _) (me_var 2) (me_call cx (d_still T TB) (ma_cons (me_blt (call_len.or (cr_lenN.or call_lenD)) cal_len2 bt_len (T.free 3) (ma_cons (me_var 0) ma_nil)) ma_nil) (argN_cons argN_nil) (by omega)))
    (mss_cons (ms_set 2 (me_call cx (d_behind T TB) (ma_cons (me_var 2) (ma_cons (me_var 0) ma_nil)) (argN_cons (argN_cons argN_nil)) (by omega)) cx.nd)
    (mss_one (ms_aug 1 iop_add opm_int me_int cx.nd))))
    (mss_one (ms_ret (me_var 1)))))) (T.glo 48) F.kp (F.bindsN fun _ _ _ _ _ _ us hl => match us, hl with | [_], _ => rfl))
theorem d_rounds (T : Tp fa fx fn K mg) (TB : ∀ p ∈ tf, GxR.TabB base mg (He.cT K p).1 (He.cT K p).2) : Dfn P w K mg base "rounds" 2 6 m_rounds := by
  obtain ⟨fd, F⟩ := T.def_ 27
  exact (.mk1 (ps := ["lock", "turn"]) rfl (fn_mk F sc_rounds fun cdv A outer s H E cx => (mss_cons (ms_expr (me_call cx (d_need_lock T TB) (ma_cons (me_var 0) ma_nil) (argN_cons argN_nil) (by omega)))
    (mss_cons (ms_expr (me_call cx (d_need_turn T TB) (ma_cons (me_var 0) (ma_cons (me_var 1) ma_nil)) (argN_cons (argN_cons argN_nil)) (by omega)))
    (mss_one (ms_ret (me_call cx (d_times_round T TB) (ma_cons (me_var 1) ma_nil) (argN_cons argN_nil) (by omega))))))) (T.glo 49) F.kp (F.bindsN fun _ _ _ _ _ _ us hl => match us, hl with | [_, _], _ => rfl))
theorem d_back (T : Tp fa fx fn K mg) (TB : ∀ p ∈ tf, GxR.TabB base mg (He.cT K p).1 (He.cT K p).2) : Dfn P w K mg base "back" 1 2 m_back := by
  obtain ⟨fd, F⟩ := T.def_ 28
  exact (.mk1 (ps := ["turn"]) rfl (fn_mk F sc_back fun cdv A outer s H E cx => (mss_cons (ms_set 1 (me_al (ml_rep (me_fz (ml_disp (ma_cons me_int ma_nil))) (me_blt (call_len.or (cr_lenN.or call_lenD)) cal_len2 bt_len (T.free 3) (ma_cons (me_var 0) ma_nil)))) cx.nd)
    (mss_cons (ms_for cx (mi_enum2 (T.free 15) (me_var 0)) (mg_tup cx.calm (mgs_cons (mg_nm 2 cx.nd) (mgs_cons (mg_nm 3 cx.nd) mgs_nil)))
    (mss_one (ms_setAt cx (me_var 2) (me_var 1) (me_var 3))))
    (mss_one (ms_ret (me_ty call_tupF cal_tup bt_tuple (T.free 1) (ma_cons (me_var 1) ma_nil))))))) (T.glo 50) F.kp (F.bindsN fun _ _ _ _ _ _ us hl => match us, hl with | [_], _ => rfl))
theorem d_swap_of (T : Tp fa fx fn K mg) (TB : ∀ p ∈ tf, GxR.TabB base mg (He.cT K p).1 (He.cT K p).2) : Dfn P w K mg base "swap_of" 2 4 m_swap_of := by
  obtain ⟨fd, F⟩ := T.def_ 29
  exact (.mk1 (ps := ["one", "other"]) rfl (fn_mk F sc_swap_of fun cdv A outer s H E cx => (mss_one (ms_ret (me_call cx (d_product T TB) (ma_cons (me_blt (call_len.or (cr_lenN.or call_lenD)) cal_len2 bt_len (T.free 3) (ma_cons (me_var 0) ma_nil)) (ma_cons (me_fz (ml_disp (ma_cons (me_var 0) (ma_cons (me_var 1) (ma_cons (me_call cx (d_back T TB) (ma_cons (me_var 0) ma_nil) (argN_cons argN_nil) (by omega)) (ma_cons (me_call cx (d_back T TB) (ma_cons (me_var 1) ma_nil) (argN_cons argN_nil) (by omega)) ma_nil)))))) ma_nil)) (argN_cons (argN_cons argN_nil)) (by omega))))) (T.glo 51) F.kp (F.bindsN fun _ _ _ _ _ _ us hl => match us, hl with | [_, _], _ => rfl))
theorem d_swapped (T : Tp fa fx fn K mg) (TB : ∀ p ∈ tf, GxR.TabB base mg (He.cT K p).1 (He.cT K p).2) : Dfn P w K mg base "swapped" 3 6 m_swapped := by
  obtain ⟨fd, F⟩ := T.def_ 30
  exact (.mk1 (ps := ["lock", "one", "other"]) rfl (fn_mk F sc_swapped fun cdv A outer s H E cx => (mss_cons (ms_expr (me_call cx (d_need_lock T TB) (ma_cons (me_var 0) ma_nil) (argN_cons argN_nil) (by omega)))
    (mss_cons (ms_expr (me_call cx (d_need_turn T TB) (ma_cons (me_var 0) (ma_cons (me_var 1) ma_nil)) (argN_cons (argN_cons argN_nil)) (by omega)))
    (mss_cons (ms_expr (me_call cx (d_need_turn T TB) (ma_cons (me_var 0) (ma_cons (me_var 2) ma_nil)) (argN_cons (argN_cons argN_nil)) (by omega)))
    (mss_one (ms_ret (me_call cx (d_swap_of T TB) (ma_cons (me_var 1) (ma_cons (me_var 2) ma_nil)) (argN_cons (argN_cons argN_nil)) (by omega)))))))) (T.glo 52) F.kp (F.bindsN fun _ _ _ _ _ _ us hl => match us, hl with | [_, _, _], _ => rfl))
theorem d_undo (T : Tp fa fx fn K mg) (TB : ∀ p ∈ tf, GxR.TabB base mg (He.cT K p).1 (He.cT K p).2) : Dfn P w K mg base "undo" 2 6 m_undo := by
  obtain ⟨fd, F⟩ := T.def_ 31
  exact (.mk1 (ps := ["lock", "turn"]) rfl (fn_mk F sc_undo fun cdv A outer s H E cx => (mss_cons (ms_expr (me_call cx (d_need_lock T TB) (ma_cons (me_var 0) ma_nil) (argN_cons argN_nil) (by omega)))
    (mss_cons (ms_expr (me_call cx (d_need_turn T TB) (ma_cons (me_var 0) (ma_cons (me_var 1) ma_nil)) (argN_cons (argN_cons argN_nil)) (by omega)))
    (mss_one (ms_ret (me_call cx (d_back T TB) (ma_cons (me_var 1) ma_nil) (argN_cons argN_nil) (by omega))))))) (T.glo 53) F.kp (F.bindsN fun _ _ _ _ _ _ us hl => match us, hl with | [_, _], _ => rfl))
theorem d_word_for (T : Tp fa fx fn K mg) (TB : ∀ p ∈ tf, GxR.TabB base mg (He.cT K p).1 (He.cT K p).2) : Dfn P w K mg base "word_for" 2 6 m_word_for := by
  obtain ⟨fd, F⟩ := T.def_ 32
  exact (.mk1 (ps := ["lock", "turn"]) rfl (fn_mk F sc_word_for fun cdv A outer s H E cx => (mss_cons (ms_expr (me_call cx (d_need_lock T TB) (ma_cons (me_var 0) ma_nil) (argN_cons argN_nil) (by omega)))
    (mss_cons (ms_expr (me_call cx (d_need_turn T TB) (ma_cons (me_var 0) (ma_cons (me_var 1) ma_nil)) (argN_cons (argN_cons argN_nil)) (by omega)))
    (mss_cons (ms_par 2 3 (ma_cons (me_dctN cx (me_call cx (d_still T TB) (ma_cons (me_blt (call_len.or (cr_lenN.or call_lenD)) cal_len2 bt_len (T.free 3) (ma_cons (me_ix2 cx (me_var 0) me_int) ma_nil)) ma_nil) (argN_cons argN_nil) (by omega)) (me_tup ma_nil)) (ma_cons (me_fz (ml_disp (ma_cons (me_call cx (d_still T TB) (ma_cons (me_blt (call_len.or (cr_lenN.or call_lenD)) cal_len2 bt_len (T.free 3) (ma_cons (me_ix2 cx (me_var 0) me_int) ma_nil)) ma_nil) (argN_cons argN_nil) (by omega)) ma_nil))) ma_nil)) cx.calm cx.nd)
    (mss_cons (ms_while cx 1000 (mt_cmp (((op_notInD (un65 cx)).or (op_notIn_seq.or op_notIn_sign)).or (op_ninN (un65 cx))) opm_nin2 (by with_unfolding_all rfl) (me_var 1) (me_var 2))
    (mss_cons (ms_set 4 (me_al (ml_disp ma_nil)) cx.nd)
    (mss_cons (ms_for cx (mi_any (me_var 3)) (mg_nm 5 cx.nd)
    (mss_one (ms_for cx (mi_enum2 (T.free 15) (me_var 0)) (mg_tup cx.calm (mgs_cons (mg_nm 6 cx.nd) (mgs_cons (mg_nm 7 cx.nd) mgs_nil)))
    (mss_cons (ms_set 8 (me_call cx (d_behind T TB) (ma_cons (me_var 5) (ma_cons (me_var 7) ma_nil)) (argN_cons (argN_cons argN_nil)) (by omega)) cx.nd)
    (mss_one (ms_if (mt_cmp (((op_notInD (un65 cx)).or (op_notIn_seq.or op_notIn_sign)).or (op_ninN (un65 cx))) opm_nin2 (by with_unfolding_all rfl) (me_var 8) (me_var 2))
    (mss_cons (ms_setAt cx (me_plus (me_ix2 cx (me_var 2) (me_var 5)) (me_tup (ma_cons (me_var 6) ma_nil))) (me_var 2) (me_var 8))
    (mss_one (ms_expr (me_app (me_var 4) (me_var 8)))))
    mss_nil))))))
    (mss_one (ms_set 3 (me_var 4) cx.nd)))))
    (mss_one (ms_ret (me_ix2 cx (me_var 2) (me_var 1))))))))) (T.glo 54) F.kp (F.bindsN fun _ _ _ _ _ _ us hl => match us, hl with | [_, _], _ => rfl))
def lm : List He.Defn := [(("law", none) : Str × Option Str)]
theorem law_fn (T : Tp fa fx fn K mg) (TB : ∀ p ∈ tf, GxR.TabB base mg (He.cT K p).1 (He.cT K p).2) (LP : ∀ j, lamAt P j = lamAt PySem.Challenge.pw_lockturns_k01_whole_locks j) {fd : FuncData} (F : FunD K "law" "law" (defArgs s_law) (defBody s_law) (defScope s_law) [] [] (He.fAd K (("law", none) : Str × Option Str)) fd) : FnOk P w K mg base (L2.CX P w) 23 (He.fAd K (("law", none) : Str × Option Str)) fd ["_law_script"] (fun vs H Q E => ∀ cl, spF ⟨K, P, w⟩ 1 (m_law cl) vs H Q E) :=
  fn_mkC (ps := ["_law_script"]) (m := b_law) F sc_law fun cdv A outer s H E ec cx => (mss_cons (ms_set 1 (me_al (ml_disp (ma_cons (me_var 0) (ma_cons me_int (ma_cons me_int (ma_cons me_int ma_nil)))))) cx.nd)
    (mss_cons (ms_set 2 (me_call cx (d__law_lock T TB) (ma_cons (me_var 1) (ma_cons (me_fz (ml_disp (ma_cons me_str (ma_cons me_str (ma_cons me_str (ma_cons me_str (ma_cons me_str (ma_cons me_str (ma_cons me_str (ma_cons me_str ma_nil)))))))))) ma_nil)) (argN_cons (argN_cons argN_nil)) (by omega)) cx.nd)
    (mss_cons (ms_asg (me_tup (ma_cons (me_blt (call_len.or (cr_lenN.or call_lenD)) cal_len2 bt_len (T.free 3) (ma_cons (me_ix2 cx (me_var 2) me_int) ma_nil)) (ma_cons (me_call cx (d__law_span T TB) (ma_cons (me_blt (call_len.or (cr_lenN.or call_lenD)) cal_len2 bt_len (T.free 3) (ma_cons (me_ix2 cx (me_var 2) me_int) ma_nil)) (ma_cons (me_var 2) ma_nil)) (argN_cons (argN_cons argN_nil)) (by omega)) ma_nil))) (mg_tup cx.calm (mgs_cons (mg_nm 3 cx.nd) (mgs_cons (mg_nm 4 cx.nd) mgs_nil))))
    (mss_cons (ms_if (mt_not (mt_val (me_call cx (d__law_alike T TB) (ma_cons (me_call cx (d_all_turns T TB) (ma_cons (me_var 2) ma_nil) (argN_cons argN_nil) (by omega)) (ma_cons (me_ty call_tupF cal_tup bt_tuple (T.free 1) (ma_cons (me_var 4) ma_nil)) ma_nil)) (argN_cons (argN_cons argN_nil)) (by omega))))
    (mss_one (ms_ret me_bl))
    mss_nil)
    (mss_cons (ms_asg (me_tup (ma_cons (me_call cx (d__law_pick T TB) (ma_cons (me_var 1) (ma_cons (me_var 4) ma_nil)) (argN_cons (argN_cons argN_nil)) (by omega)) (ma_cons (me_call cx (d__law_pick T TB) (ma_cons (me_var 1) (ma_cons (me_var 4) ma_nil)) (argN_cons (argN_cons argN_nil)) (by omega)) (ma_cons (me_call cx (d__law_permutation T TB) (ma_cons (me_var 1) (ma_cons (me_var 3) ma_nil)) (argN_cons (argN_cons argN_nil)) (by omega)) ma_nil)))) (mg_tup cx.calm (mgs_cons (mg_nm 5 cx.nd) (mgs_cons (mg_nm 6 cx.nd) (mgs_cons (mg_nm 7 cx.nd) mgs_nil)))))
    (mss_cons (ms_if (mt_not (mt_val (me_call cx (d__law_is T TB) (ma_cons (me_call cx (d_is_made T TB) (ma_cons (me_var 2) (ma_cons (me_var 7) ma_nil)) (argN_cons (argN_cons argN_nil)) (by omega)) (ma_cons (me_cmp (((op_inD (un65 cx)).or (op_in_seq.or op_in_sign)).or (op_inN (un65 cx))) opm_in2 (by with_unfolding_all rfl) (me_var 7) (me_var 4)) ma_nil)) (argN_cons (argN_cons argN_nil)) (by omega))))
    (mss_one (ms_ret me_bl))
    mss_nil)
    (mss_cons (ms_if (mt_not (mt_val (me_call cx (d__law_alike T TB) (ma_cons (me_call cx (d_word_for T TB) (ma_cons (me_var 2) (ma_cons (me_var 5) ma_nil)) (argN_cons (argN_cons argN_nil)) (by omega)) (ma_cons (me_ix2 cx (me_call cx (d__law_words T TB) (ma_cons (me_var 2) ma_nil) (argN_cons argN_nil) (by omega)) (me_var 5)) ma_nil)) (argN_cons (argN_cons argN_nil)) (by omega))))
    (mss_one (ms_ret me_bl))
    mss_nil)
    (mss_cons (ms_set 8 (me_ty call_tupF cal_tup bt_tuple (T.free 1) (ma_cons (me_fz (ml_lc [("_law_turn", 10)] cx (mi_range1 (T.free 4) (ma_cons (me_call cx (d__law_taken T TB) (ma_cons (me_var 1) (ma_cons me_int ma_nil)) (argN_cons (argN_cons argN_nil)) (by omega)) ma_nil)) (fun _ _ _ _ _ => (mg_nm 10 cx.nd)) (fun _ _ _ _ _ => mts_nil) (fun _ _ _ _ _ c1 => (me_call c1 (d__law_pick T TB) (ma_cons (me_var 1) (ma_cons (me_var 4) ma_nil)) (argN_cons (argN_cons argN_nil)) (by omega))) (by show blkC ["_law_script", "_law_row", "_law_lock_here", "_law_places", "_law_whole", "_law_one", "_law_other", "_law_drawn", "_law_some", "_law_due", "_law_turn", "_law_told", "_law_now", "_law_many", "_law_odds", "_law_odd", "e", "_law_words_here", "_law_work"] (defScope s_law) _ _ = true; decide +kernel))) ma_nil)) cx.nd)
    (mss_cons (ms_set 9 (me_trng cx.calm (T.free 1) (T.free 4) (me_var 3)) cx.nd)
    (mss_cons (ms_for cx (mi_any (me_var 8)) (mg_nm 10 cx.nd)
    (mss_one (ms_set 9 (me_call cx (d__law_behind T TB) (ma_cons (me_var 9) (ma_cons (me_var 10) ma_nil)) (argN_cons (argN_cons argN_nil)) (by omega)) cx.nd)))
    (mss_cons (ms_set 11 (me_fz (ml_disp (ma_cons (me_call cx (d_join T TB) (ma_cons (me_var 2) (ma_cons (me_var 8) ma_nil)) (argN_cons (argN_cons argN_nil)) (by omega)) (ma_cons (me_call cx (d_undo T TB) (ma_cons (me_var 2) (ma_cons (me_var 5) ma_nil)) (argN_cons (argN_cons argN_nil)) (by omega)) (ma_cons (me_call cx (d_swapped T TB) (ma_cons (me_var 2) (ma_cons (me_var 5) (ma_cons (me_var 6) ma_nil))) (argN_cons (argN_cons (argN_cons argN_nil))) (by omega)) ma_nil))))) cx.nd)
    (mss_cons (ms_if (mt_not (mt_val (me_call cx (d__law_alike T TB) (ma_cons (me_var 11) (ma_cons (me_fz (ml_disp (ma_cons (me_var 9) (ma_cons (me_call cx (d__law_back T TB) (ma_cons (me_var 5) ma_nil) (argN_cons argN_nil) (by omega)) (ma_cons (me_call cx (d__law_swap T TB) (ma_cons (me_var 5) (ma_cons (me_var 6) ma_nil)) (argN_cons (argN_cons argN_nil)) (by omega)) ma_nil))))) ma_nil)) (argN_cons (argN_cons argN_nil)) (by omega))))
    (mss_one (ms_ret me_bl))
    mss_nil)
    (mss_cons (ms_par 12 13 (ma_cons (me_var 5) (ma_cons (me_call cx (d_rounds T TB) (ma_cons (me_var 2) (ma_cons (me_var 5) ma_nil)) (argN_cons (argN_cons argN_nil)) (by omega)) ma_nil)) cx.calm cx.nd)
    (mss_cons (ms_for cx (mi_range2 (T.free 4) (ma_cons me_int (ma_cons (me_var 13) ma_nil))) (mg_nm 10 cx.nd)
    (mss_cons (ms_if (mt_cmp ((op_eqD (un64 cx)).or op_eq) opm_eq (nomark _) (me_var 12) (me_trng cx.calm (T.free 1) (T.free 4) (me_var 3)))
    (mss_one (ms_ret me_bl))
    mss_nil)
    (mss_one (ms_set 12 (me_call cx (d__law_behind T TB) (ma_cons (me_var 12) (ma_cons (me_var 5) ma_nil)) (argN_cons (argN_cons argN_nil)) (by omega)) cx.nd))))
    (mss_cons (ms_if (mt_cmp ((op_neD (un64 cx)).or op_ne) opm_ne (nomark _) (me_var 12) (me_trng cx.calm (T.free 1) (T.free 4) (me_var 3)))
    (mss_one (ms_ret me_bl))
    mss_nil)
    (mss_cons (ms_set 14 (me_fz (ml_disp (ma_cons (me_tup (ma_cons me_non (ma_cons me_non ma_nil))) (ma_cons (me_tup (ma_cons (me_tup ma_nil) (ma_cons me_non ma_nil))) (ma_cons (me_tup (ma_cons (me_times (me_var 2) me_int) (ma_cons me_non ma_nil))) (ma_cons (me_tup (ma_cons (me_plus (me_var 2) (me_tup (ma_cons (me_tup (ma_cons me_int ma_nil)) ma_nil))) (ma_cons (me_blt (call_len.or (cr_lenN.or call_lenD)) cal_len2 bt_len (T.free 3) (ma_cons (me_var 2) ma_nil)) ma_nil))) (ma_cons (me_tup (ma_cons (me_tup (ma_cons (me_tup (ma_cons me_int ma_nil)) ma_nil)) (ma_cons me_int ma_nil))) ma_nil))))))) cx.nd)
    (mss_cons (ms_set 14 (me_plus (me_var 14) (me_fz (ml_disp (ma_cons (me_tup (ma_cons (me_tup (ma_cons (me_fz (ml_lof (T.free 2) (ma_cons (me_ix2 cx (me_var 2) me_int) ma_nil))) ma_nil)) (ma_cons me_int ma_nil))) (ma_cons (me_tup (ma_cons (me_tup (ma_cons (me_tup (ma_cons me_int (ma_cons me_int ma_nil))) ma_nil)) (ma_cons me_int ma_nil))) (ma_cons (me_tup (ma_cons (me_tup (ma_cons (me_tup (ma_cons me_bl (ma_cons me_int ma_nil))) ma_nil)) (ma_cons me_int ma_nil))) ma_nil)))))) cx.nd)
    (mss_cons (ms_for cx (mi_any (me_var 14)) (mg_tup cx.calm (mgs_cons (mg_nm 15 cx.nd) (mgs_cons (mg_nm 9 cx.nd) mgs_nil)))
    (mss_one (ms_try_as 16 cx ⟨rfl, by decide, .inl (T.glo 35)⟩ (x_law_BadLock_ok T) (fun Y pn xe ct => (mss_cons (ms_expr (me_call ct (d_all_turns T TB) (ma_cons (me_var 15) ma_nil) (argN_cons argN_nil) (by omega)))
    (mss_one (ms_ret me_bl)))) (fun a oe cls d pn c fs hz hf => (mss_one (ms_if (mt_cmp ((op_neD (by have h := un64 cx; exact h)).or op_ne) opm_ne (nomark _) (me_xf (T.xf 2) (T.noat 37) hz hf) (me_var 9))
    (mss_one (ms_ret me_bl))
    mss_nil))))))
    (mss_cons (ms_set 17 (me_al (ml_disp ma_nil)) cx.nd)
    (mss_cons (ms_for cx (mi_any (me_fz (ml_disp (ma_cons (me_lam 1 (("law", none) : Str × Option Str) [43, 19, 0, 0] cx (TB _ (List.mem_of_getElem? (show tf[1]? = some (("law", none) : Str × Option Str) from rfl))) ec ((LP [43, 19, 0, 0]).trans (by kernel_rfl)) (hN := (by show lamNB ["_law_script", "_law_row", "_law_lock_here", "_law_places", "_law_whole", "_law_one", "_law_other", "_law_drawn", "_law_some", "_law_due", "_law_turn", "_law_told", "_law_now", "_law_many", "_law_odds", "_law_odd", "e", "_law_words_here", "_law_work"] (defScope s_law) _ = true; decide +kernel))) (ma_cons (me_lam 1 (("law", none) : Str × Option Str) [43, 19, 0, 1] cx (TB _ (List.mem_of_getElem? (show tf[1]? = some (("law", none) : Str × Option Str) from rfl))) ec ((LP [43, 19, 0, 1]).trans (by kernel_rfl)) (hN := (by show lamNB ["_law_script", "_law_row", "_law_lock_here", "_law_places", "_law_whole", "_law_one", "_law_other", "_law_drawn", "_law_some", "_law_due", "_law_turn", "_law_told", "_law_now", "_law_many", "_law_odds", "_law_odd", "e", "_law_words_here", "_law_work"] (defScope s_law) _ = true; decide +kernel))) (ma_cons (me_lam 1 (("law", none) : Str × Option Str) [43, 19, 0, 2] cx (TB _ (List.mem_of_getElem? (show tf[1]? = some (("law", none) : Str × Option Str) from rfl))) ec ((LP [43, 19, 0, 2]).trans (by kernel_rfl)) (hN := (by show lamNB ["_law_script", "_law_row", "_law_lock_here", "_law_places", "_law_whole", "_law_one", "_law_other", "_law_drawn", "_law_some", "_law_due", "_law_turn", "_law_told", "_law_now", "_law_many", "_law_odds", "_law_odd", "e", "_law_words_here", "_law_work"] (defScope s_law) _ = true; decide +kernel))) ma_nil)))))) (mg_nm 18 cx.nd)
    (mss_one (ms_try_as 16 cx ⟨rfl, by decide, .inl (T.glo 43)⟩ (x_law_BadTurn_ok T) (fun Y pn xe ct => (mss_one (ms_expr (me_callLam 18 ct (lb_cons [43, 19, 0, 0] (params := y_law_0.params) (body := y_law_0.body) (scope := y_law_0.scope) ((LP [43, 19, 0, 0]).trans (by kernel_rfl)) (fun _ _ _ _ _ cL => (me_call cL (d_undo T TB) (ma_cons (me_var 2) (ma_cons (me_times (me_tup (ma_cons me_int ma_nil)) (me_var 3)) ma_nil)) (argN_cons (argN_cons argN_nil)) (by omega))) (lb_cons [43, 19, 0, 1] (params := y_law_1.params) (body := y_law_1.body) (scope := y_law_1.scope) ((LP [43, 19, 0, 1]).trans (by kernel_rfl)) (fun _ _ _ _ _ cL => (me_call cL (d_is_made T TB) (ma_cons (me_var 2) (ma_cons me_non ma_nil)) (argN_cons (argN_cons argN_nil)) (by omega))) (lb_cons [43, 19, 0, 2] (params := y_law_2.params) (body := y_law_2.body) (scope := y_law_2.scope) ((LP [43, 19, 0, 2]).trans (by kernel_rfl)) (fun _ _ _ _ _ cL => (me_call cL (d_join T TB) (ma_cons (me_var 2) (ma_cons (me_fz (ml_disp (ma_cons (me_var 5) ma_nil))) ma_nil)) (argN_cons (argN_cons argN_nil)) (by omega))) lb_nil (hN := (by show lamNB ["_law_script", "_law_row", "_law_lock_here", "_law_places", "_law_whole", "_law_one", "_law_other", "_law_drawn", "_law_some", "_law_due", "_law_turn", "_law_told", "_law_now", "_law_many", "_law_odds", "_law_odd", "e", "_law_words_here", "_law_work"] (defScope s_law) _ = true; decide +kernel))) (hN := (by show lamNB ["_law_script", "_law_row", "_law_lock_here", "_law_places", "_law_whole", "_law_one", "_law_other", "_law_drawn", "_law_some", "_law_due", "_law_turn", "_law_told", "_law_now", "_law_many", "_law_odds", "_law_odd", "e", "_law_words_here", "_law_work"] (defScope s_law) _ = true; decide +kernel))) (hN := (by show lamNB ["_law_script", "_law_row", "_law_lock_here", "_law_places", "_law_whole", "_law_one", "_law_other", "_law_drawn", "_law_some", "_law_due", "_law_turn", "_law_told", "_law_now", "_law_many", "_law_odds", "_law_odd", "e", "_law_words_here", "_law_work"] (defScope s_law) _ = true; decide +kernel))))))) (fun a oe cls d pn c fs hz hf => (mss_one (ms_expr (me_app (me_var 17) me_str)))))))
    (mss_cons (ms_try_as 16 cx ⟨rfl, by decide, .inl (T.glo 29)⟩ (x_law_TooMany_ok T) (fun Y pn xe ct => (mss_one (ms_expr (me_call ct (d_all_turns T TB) (ma_cons (me_tup (ma_cons (me_tup (ma_cons me_int (ma_cons me_int (ma_cons me_int (ma_cons me_int (ma_cons me_int (ma_cons me_int ma_nil))))))) (ma_cons (me_tup (ma_cons me_int (ma_cons me_int (ma_cons me_int (ma_cons me_int (ma_cons me_int (ma_cons me_int ma_nil))))))) ma_nil))) ma_nil) (argN_cons argN_nil) (by omega))))) (fun a oe cls d pn c fs hz hf => (mss_one (ms_ret (me_and (me_cmp ((op_eqD (by have h := un64 cx; exact h)).or op_eq) opm_eq (nomark _) (me_var 17) (me_fz (ml_rep (me_fz (ml_disp (ma_cons me_str ma_nil))) me_int))) (me_one (me_cmp ((op_eqD (by have h := un64 cx; exact h)).or op_eq) opm_eq (nomark _) (me_xf (T.xf 3) (T.noat 31) hz hf) me_int)))))))
    (mss_one (ms_ret me_bl)))))))))))))))))))))))
abbrev lawD : Nat := 33
abbrev lawG : Nat := 64
end
end K01
namespace Rf
set_option autoImplicit false
open PySem L2

/-! ### what a mirror comes to: step by step, nothing is looked at before its turn -/
section
variable {A B : Type}
@[simp] theorem bind_ok (a : A) (st : Store) (k : A → Store → Rz B) : (Rz.ok a st).bind k = k a st := rfl
@[simp] theorem bind_exc (c : Str) (fs : List (Str × D)) (st : Store) (k : A → Store → Rz B) : (Rz.exc c fs st).bind k = .exc c fs st := rfl
@[simp] theorem toS_ok (a : A) (st : Store) (l : Sl) (k : A → Store → Sz) : (Rz.ok a st).toS l k = k a st := rfl
@[simp] theorem toS_exc (c : Str) (fs : List (Str × D)) (st : Store) (l : Sl) (k : A → Store → Sz) : (Rz.exc c fs st : Rz A).toS l k = .exc c fs l st := rfl
@[simp] theorem nox_ok (a : A) (st : Store) : (Rz.ok a st).nox = .ok a st := rfl
end
section
variable (l : Sl) (st : Store) (a b c : EM D) (r : EM (List D))
/-- names -/
def vrK (o : Option (Option D)) (st : Store) : Rz D := match o with
  | some (some d) => .ok d st
  | _ => .fail
@[simp] theorem vr_s (i : Nat) : vr i l st = vrK l[i]? st := by unfold vr vrK; rfl
@[simp] theorem vrK_s (d : D) : vrK (some (some d)) st = .ok d st := rfl
@[simp] theorem cst_s (d : D) : cst d l st = .ok d st := rfl
/-- argument lists -/
def consK (r : EM (List D)) (l : Sl) (d : D) (st : Store) : Rz (List D) := (r l st).bind fun ds st2 => .ok (d :: ds) st2
@[simp] theorem nilA_s : nilA l st = .ok [] st := rfl
@[simp] theorem consA_s : consA a r l st = (a l st).bind (consK r l) := rfl
def consJ (d : D) (ds : List D) (st : Store) : Rz (List D) := .ok (d :: ds) st
@[simp] theorem consK_s (d : D) : consK r l d st = (r l st).bind (consJ d) := rfl
@[simp] theorem consJ_s (d : D) (ds : List D) : consJ d ds st = .ok (d :: ds) st := rfl
def dispK (ds : List D) (st : Store) : Rz (List D) := if small ds.length = true then .ok ds st else .fail
@[simp] theorem disp_s : disp r l st = (r l st).bind dispK := rfl
theorem dispK_ok {ds : List D} (h : ds.length ≤ 1000000) : dispK ds st = .ok ds st := if_pos (Nat.ble_eq_true_of_le h)
@[simp] theorem dispK_0 : dispK [] st = .ok [] st := rfl
@[simp] theorem dispK_1 (a : D) : dispK [a] st = .ok [a] st := rfl
@[simp] theorem dispK_2 (a b : D) : dispK [a, b] st = .ok [a, b] st := rfl
@[simp] theorem dispK_3 (a b c : D) : dispK [a, b, c] st = .ok [a, b, c] st := rfl
@[simp] theorem dispK_4 (a b c d : D) : dispK [a, b, c, d] st = .ok [a, b, c, d] st := rfl
@[simp] theorem dispK_13 (a b c d e f g h i j k m n : D) : dispK [a, b, c, d, e, f, g, h, i, j, k, m, n] st = .ok [a, b, c, d, e, f, g, h, i, j, k, m, n] st := rfl
def tupK (ds : List D) (st : Store) : Rz D := .ok (.tup ds) st
@[simp] theorem tupM_s : tupM r l st = (disp r l st).bind tupK := rfl
@[simp] theorem tupK_s (ds : List D) : tupK ds st = .ok (.tup ds) st := rfl
def flK (ds : List D) (st : Store) : Rz D := .ok (.fl ds) st
@[simp] theorem fz_s : fz r l st = (r l st).bind flK := rfl
@[simp] theorem flK_s (ds : List D) : flK ds st = .ok (.fl ds) st := rfl
def alK (ds : List D) (st : Store) : Rz D := .ok (.ref st.length) (st ++ [.lst ds])
@[simp] theorem al_s : al r l st = (r l st).bind alK := rfl
@[simp] theorem alK_s (ds : List D) : alK ds st = .ok (.ref st.length) (st ++ [.lst ds]) := rfl
/-- operators -/
def b2K {A : Type} (f : D → D → Store → Rz A) (b : EM D) (l : Sl) (d : D) (st : Store) : Rz A := (b l st).bind (f d)
@[simp] theorem b2_s {A : Type} (f : D → D → Store → Rz A) : b2 f a b l st = (a l st).bind (b2K f b l) := rfl
@[simp] theorem b2K_s {A : Type} (f : D → D → Store → Rz A) (d : D) : b2K f b l d st = (b l st).bind (f d) := rfl
def tstK (d : D) (st : Store) : Rz Bool := match d with
  | .bl b => .ok b st
  | _ => .fail
@[simp] theorem tst_s : tst a l st = (a l st).bind tstK := rfl
@[simp] theorem tstK_s (k : Bool) : tstK (.bl k) st = .ok k st := rfl
variable (p q : EM Bool)
def andK (b : EM Bool) (l : Sl) (c : Bool) (st1 : Store) : Rz Bool := if c = true then b l st1 else .ok false st1
@[simp] theorem andT_s : andT p q l st = (p l st).bind (andK q l) := rfl
@[simp] theorem andK_t : andK q l true st = q l st := rfl
@[simp] theorem andK_f : andK q l false st = .ok false st := rfl
def orK (b : EM Bool) (l : Sl) (c : Bool) (st1 : Store) : Rz Bool := if c = true then .ok true st1 else b l st1
@[simp] theorem orT_s : orT p q l st = (p l st).bind (orK q l) := rfl
@[simp] theorem orK_t : orK q l true st = .ok true st := rfl
@[simp] theorem orK_f : orK q l false st = q l st := rfl
def notK (c : Bool) (st : Store) : Rz Bool := .ok (!c) st
@[simp] theorem notT_s : notT p l st = (p l st).bind notK := rfl
@[simp] theorem notK_s (c : Bool) : notK c st = .ok (!c) st := rfl
def andVK (b : EM D) (l : Sl) (d : D) (st1 : Store) : Rz D := match d with
  | .bl true => b l st1
  | .bl false => .ok (.bl false) st1
  | _ => .fail
@[simp] theorem andV_s : andV a b l st = (a l st).bind (andVK b l) := rfl
@[simp] theorem andVK_t : andVK b l (.bl true) st = b l st := rfl
@[simp] theorem andVK_f : andVK b l (.bl false) st = .ok (.bl false) st := rfl
def orVK (b : EM D) (l : Sl) (d : D) (st1 : Store) : Rz D := match d with
  | .bl true => .ok (.bl true) st1
  | .bl false => b l st1
  | _ => .fail
@[simp] theorem orV_s : orV a b l st = (a l st).bind (orVK b l) := rfl
@[simp] theorem orVK_t : orVK b l (.bl true) st = .ok (.bl true) st := rfl
@[simp] theorem orVK_f : orVK b l (.bl false) st = b l st := rfl
def notVK (d : D) (st1 : Store) : Rz D := match d with
  | .bl c => .ok (.bl (!c)) st1
  | _ => .fail
@[simp] theorem notV_s : notV a l st = (a l st).bind notVK := rfl
@[simp] theorem notVK_s (c : Bool) : notVK (.bl c) st = .ok (.bl (!c)) st := rfl
def ifMK {A : Type} (a b : EM A) (l : Sl) (k : Bool) (st1 : Store) : Rz A := if k = true then a l st1 else b l st1
@[simp] theorem ifM_s {A : Type} (a b : EM A) : ifM p a b l st = (p l st).bind (ifMK a b l) := rfl
@[simp] theorem ifMK_t {A : Type} (a b : EM A) : ifMK a b l true st = a l st := rfl
@[simp] theorem ifMK_f {A : Type} (a b : EM A) : ifMK a b l false st = b l st := rfl
/-- slices -/
@[simp] theorem noO_s : noO l st = .ok none st := rfl
def onK (d : D) (st : Store) : Rz (Option Int) := match d with
  | .int i => .ok (some i) st
  | _ => .fail
@[simp] theorem onO_s : onO a l st = (a l st).bind onK := rfl
@[simp] theorem onK_s (i : Int) : onK (.int i) st = .ok (some i) st := rfl
variable (i j : EM (Option Int))
def s3K {A : Type} (f : D → Option Int → Option Int → Store → Rz A) (i j : EM (Option Int)) (l : Sl) (d : D) (st : Store) : Rz A := (i l st).bind fun x st2 => (j l st2).bind (f d x)
def s3J {A : Type} (f : D → Option Int → Option Int → Store → Rz A) (j : EM (Option Int)) (l : Sl) (d : D) (x : Option Int) (st : Store) : Rz A := (j l st).bind (f d x)
@[simp] theorem s3_s {A : Type} (f : D → Option Int → Option Int → Store → Rz A) : s3 f a i j l st = (a l st).bind (s3K f i j l) := rfl
@[simp] theorem s3K_s {A : Type} (f : D → Option Int → Option Int → Store → Rz A) (d : D) : s3K f i j l d st = (i l st).bind (s3J f j l d) := rfl
@[simp] theorem s3J_s {A : Type} (f : D → Option Int → Option Int → Store → Rz A) (d : D) (x : Option Int) : s3J f j l d x st = (j l st).bind (f d x) := rfl
/-- calls -/
@[simp] theorem callM_s (m : FM) : callM m r l st = (r l st).bind m := rfl
def recvK (C m : Str) (d : D) (st1 : Store) : Rz D := match d with
  | .ref n => (match st1[n]? with
    | some (.ins c fs) => if c = C ∧ fs.lookup m = none then .ok (.ref n) st1 else .fail
    | _ => .fail)
  | _ => .fail
def methK (f : FM) (r : EM (List D)) (l : Sl) (d : D) (st : Store) : Rz D := (r l st).bind fun ds st2 => f (d :: ds) st2
def methJ (f : FM) (d : D) (ds : List D) (st : Store) : Rz D := f (d :: ds) st
@[simp] theorem methM_s (C m : Str) (f : FM) : methM C m f a r l st = ((a l st).bind (recvK C m)).bind (methK f r l) := rfl
@[simp] theorem methK_s (f : FM) (d : D) : methK f r l d st = (r l st).bind (methJ f d) := rfl
@[simp] theorem methJ_s (f : FM) (d : D) (ds : List D) : methJ f d ds st = f (d :: ds) st := rfl
theorem recvK_ok {C m : Str} {n : Nat} {fs : List (Str × D)} {st : Store} (h : st[n]? = some (.ins C fs)) (h2 : fs.lookup m = none) : recvK C m (.ref n) st = .ok (.ref n) st := by
  unfold recvK
  simp only [h]
  rw [if_pos (by simp [h2])]
def fldK (C f : Str) (d : D) (st1 : Store) : Rz D := match d with
  | .ref n => (match st1[n]? with
    | some (.ins c fs) => if c = C then (match fs.lookup f with
      | some v => .ok v st1
      | none => .fail) else .fail
    | _ => .fail)
  | _ => .fail
@[simp] theorem fldM_s (C f : Str) : fldM C f a l st = (a l st).bind (fldK C f) := rfl
theorem fldK_ok {C f : Str} {n : Nat} {fs : List (Str × D)} {v : D} {st : Store} (h : st[n]? = some (.ins C fs)) (h2 : fs.lookup f = some v) : fldK C f (.ref n) st = .ok v st := by
  unfold fldK
  simp only [h]
  first | rw [if_pos rfl, h2] | rw [if_pos trivial, h2]
def isiK (T : Ty) (d : D) (st1 : Store) : Rz D := match tyD d st1 with
  | some t => .ok (.bl (isT t T)) st1
  | none => .fail
@[simp] theorem isiM_s (T : Ty) : isiM T a l st = (a l st).bind (isiK T) := rfl
@[simp] theorem isiK_int (T : Ty) (n : Int) : isiK T (.int n) st = .ok (.bl (isT .int T)) st := rfl
@[simp] theorem isiK_str (T : Ty) (n : Str) : isiK T (.str n) st = .ok (.bl (isT .str T)) st := rfl
@[simp] theorem isiK_bl (T : Ty) (n : Bool) : isiK T (.bl n) st = .ok (.bl (isT .bl T)) st := rfl
@[simp] theorem isiK_non (T : Ty) : isiK T .non st = .ok (.bl (isT .non T)) st := rfl
@[simp] theorem isiK_tup (T : Ty) (n : List D) : isiK T (.tup n) st = .ok (.bl (isT .tup T)) st := rfl
@[simp] theorem isiK_fl (T : Ty) (n : List D) : isiK T (.fl n) st = .ok (.bl (isT .lst T)) st := rfl
def chK (f g : D → D → Store → Rz D) (b c : EM D) (l : Sl) (x : D) (st1 : Store) : Rz D := (b l st1).bind fun y st2 => (f x y st2).bind fun z st3 => match z with
  | .bl true => (c l st3).bind fun w st4 => g y w st4
  | .bl false => .ok (.bl false) st3
  | _ => .fail
def chL (g : D → D → Store → Rz D) (c : EM D) (l : Sl) (y : D) (z : D) (st3 : Store) : Rz D := match z with
  | .bl true => (c l st3).bind (g y)
  | .bl false => .ok (.bl false) st3
  | _ => .fail
def chJ (f g : D → D → Store → Rz D) (c : EM D) (l : Sl) (x : D) (y : D) (st2 : Store) : Rz D := (f x y st2).bind (chL g c l y)
@[simp] theorem chM_s (f g : D → D → Store → Rz D) : chM f g a b c l st = (a l st).bind (chK f g b c l) := rfl
@[simp] theorem chK_s (f g : D → D → Store → Rz D) (x : D) : chK f g b c l x st = (b l st).bind (chJ f g c l x) := rfl
@[simp] theorem chJ_s (f g : D → D → Store → Rz D) (x y : D) : chJ f g c l x y st = (f x y st).bind (chL g c l y) := rfl
@[simp] theorem chL_t (g : D → D → Store → Rz D) (y : D) : chL g c l y (.bl true) st = (c l st).bind (g y) := rfl
@[simp] theorem chL_f (g : D → D → Store → Rz D) (y : D) : chL g c l y (.bl false) st = .ok (.bl false) st := rfl
def mkK (C : Str) (f : FM) (ds : List D) (st1 : Store) : Rz D := (f (.ref st1.length :: ds) (st1 ++ [.ins C []])).bind fun d st2 => match d with
  | .non => .ok (.ref st1.length) st2
  | _ => .fail
def mkJ (n : Nat) (d : D) (st2 : Store) : Rz D := match d with
  | .non => .ok (.ref n) st2
  | _ => .fail
@[simp] theorem mkM_s (C : Str) (f : FM) : mkM C f r l st = (r l st).bind (mkK C f) := rfl
@[simp] theorem mkK_s (C : Str) (f : FM) (ds : List D) : mkK C f ds st = (f (.ref st.length :: ds) (st ++ [.ins C []])).bind (mkJ st.length) := rfl
@[simp] theorem mkJ_s (n : Nat) : mkJ n .non st = .ok (.ref n) st := rfl
def negK (d : D) (st1 : Store) : Rz D := match d with
  | .int i => .ok (.int (-i)) st1
  | _ => .fail
@[simp] theorem negM_s : negM a l st = (a l st).bind negK := rfl
@[simp] theorem negK_s (n : Int) : negK (.int n) st = .ok (.int (-n)) st := rfl
def appK (a : EM D) (l : Sl) (x : D) (st1 : Store) : Rz D := match x with
  | .ref n => (match st1[n]? with
    | some (.lst _) => (a l st1).bind fun d st2 => (match st2[n]? with
      | some (.lst ds) => if small ds.length = true then .ok .non (st2.set n (.lst (ds ++ [d]))) else .fail
      | _ => .fail)
    | _ => .fail)
  | _ => .fail
def appJ (n : Nat) (d : D) (st2 : Store) : Rz D := match st2[n]? with
      | some (.lst ds) => if small ds.length = true then .ok .non (st2.set n (.lst (ds ++ [d]))) else .fail
      | _ => .fail
@[simp] theorem appM_s : appM a b l st = (a l st).bind (appK b l) := rfl
theorem appK_ok {n : Nat} {ds : List D} {st : Store} (h : st[n]? = some (.lst ds)) : appK b l (.ref n) st = (b l st).bind (appJ n) := by
  unfold appK
  simp only [h]
  rfl
theorem appJ_ok {n : Nat} {ds : List D} {st : Store} {d : D} (h : st[n]? = some (.lst ds)) (hs : ds.length ≤ 1000000) : appJ n d st = .ok .non (st.set n (.lst (ds ++ [d]))) := by
  unfold appJ
  simp only [h]
  exact if_pos (Nat.ble_eq_true_of_le hs)
end
/-! ### statements -/
section
variable (l : Sl) (st : Store) (a b : EM D) (r : EM (List D)) (p : EM Bool) (x y : SM)
def sqK (y : SM) (z : Sz) : Sz := match z with
  | .nx l' st' => y l' st'
  | z => z
@[simp] theorem sq_s : sq x y l st = sqK y (x l st) := by unfold sq sqK; cases x l st <;> rfl
@[simp] theorem sqK_nx : sqK y (.nx l st) = y l st := rfl
@[simp] theorem sqK_rt (d : D) : sqK y (.rt d st) = .rt d st := rfl
@[simp] theorem sqK_ct : sqK y (.ct l st) = .ct l st := rfl
@[simp] theorem sqK_bk : sqK y (.bk l st) = .bk l st := rfl
@[simp] theorem sqK_exc (c : Str) (fs : List (Str × D)) : sqK y (.exc c fs l st) = .exc c fs l st := rfl
@[simp] theorem nextM_s : nextM l st = .nx l st := rfl
@[simp] theorem breakM_s : breakM l st = .bk l st := rfl
@[simp] theorem contM_s : contM l st = .ct l st := rfl
def exK (l : Sl) (d : D) (st : Store) : Sz := .nx l st
@[simp] theorem exprM_s : exprM a l st = (a l st).toS l (exK l) := rfl
@[simp] theorem exK_s (d : D) : exK l d st = .nx l st := rfl
def rtK (d : D) (st : Store) : Sz := .rt d st
@[simp] theorem retM_s : retM a l st = (a l st).toS l rtK := rfl
@[simp] theorem rtK_s (d : D) : rtK d st = .rt d st := rfl
def setK (i : Nat) (l : Sl) (d : D) (st : Store) : Sz := .nx (l.set i (some d)) st
@[simp] theorem setM_s (i : Nat) : setM i a l st = (a l st).toS l (setK i l) := rfl
@[simp] theorem setK_s (i : Nat) (d : D) : setK i l d st = .nx (l.set i (some d)) st := rfl
def ifK (x y : SM) (l : Sl) (k : Bool) (st : Store) : Sz := if k = true then x l st else y l st
@[simp] theorem ifS_s : ifS p x y l st = (p l st).toS l (ifK x y l) := rfl
@[simp] theorem ifK_t : ifK x y l true st = x l st := rfl
@[simp] theorem ifK_f : ifK x y l false st = y l st := rfl
def parK (i j : Nat) (l : Sl) (ds : List D) (st : Store) : Sz := match ds with
  | [d, e] => .nx ((l.set i (some d)).set j (some e)) st
  | _ => .fail
@[simp] theorem parM_s (i j : Nat) : parM i j r l st = (r l st).toS l (parK i j l) := rfl
@[simp] theorem parK_s (i j : Nat) (d e : D) : parK i j l [d, e] st = .nx ((l.set i (some d)).set j (some e)) st := rfl
def asgK (t : T) (l : Sl) (d : D) (st : Store) : Sz := match t.put d l with
  | some l' => .nx l' st
  | none => .fail
@[simp] theorem asgM_s (t : T) : asgM t a l st = (a l st).toS l (asgK t l) := rfl
def fldSK (C f : Str) (o : EM D) (l : Sl) (d : D) (st1 : Store) : Sz := (o l st1).toS l fun x st2 => match putM C f d x st2 with
  | some st3 => .nx l st3
  | none => .fail
def fldSJ (C f : Str) (l : Sl) (d x : D) (st2 : Store) : Sz := match putM C f d x st2 with
  | some st3 => .nx l st3
  | none => .fail
@[simp] theorem fldS_s (C f : Str) : fldS C f a b l st = (a l st).toS l (fldSK C f b l) := rfl
@[simp] theorem fldSK_s (C f : Str) (d : D) : fldSK C f b l d st = (b l st).toS l (fldSJ C f l d) := rfl
theorem fldSJ_ok {C f : Str} {n : Nat} {fs : List (Str × D)} {d : D} {st : Store} (h : st[n]? = some (.ins C fs)) (h2 : fs.length < 900) : fldSJ C f l d (.ref n) st = .nx l (st.set n (.ins C (putD f d fs))) := by
  unfold fldSJ putM
  simp only [h]
  rw [if_pos (by simp [h2])]
def fldAK (C f : Str) (g : Int → Int → Int) (b : EM D) (l : Sl) (x : D) (st1 : Store) : Sz := match x with
  | .ref n => (match st1[n]? with
    | some (.ins c fs) => if c = C then (match fs.lookup f with
      | some (.int i) => (b l st1).toS l fun d st2 => (match d with
        | .int j => (match putM C f (.int (g i j)) (.ref n) st2 with
          | some st3 => .nx l st3
          | none => .fail)
        | _ => .fail)
      | _ => .fail) else .fail
    | _ => .fail)
  | _ => .fail
def fldAJ (C f : Str) (g : Int → Int → Int) (n : Nat) (i : Int) (l : Sl) (d : D) (st2 : Store) : Sz := match d with
        | .int j => (match putM C f (.int (g i j)) (.ref n) st2 with
          | some st3 => .nx l st3
          | none => .fail)
        | _ => .fail
@[simp] theorem fldAug_s (C f : Str) (g : Int → Int → Int) : fldAug C f g a b l st = (a l st).toS l (fldAK C f g b l) := rfl
theorem fldAK_ok {C f : Str} {g : Int → Int → Int} {n : Nat} {fs : List (Str × D)} {i : Int} {st : Store} (h : st[n]? = some (.ins C fs)) (h2 : fs.lookup f = some (.int i)) : fldAK C f g b l (.ref n) st = (b l st).toS l (fldAJ C f g n i l) := by
  unfold fldAK
  simp only [h]
  first | rw [if_pos rfl, h2] | rw [if_pos trivial, h2]
  rfl
theorem fldAJ_ok {C f : Str} {g : Int → Int → Int} {n : Nat} {fs : List (Str × D)} {i j : Int} {st : Store} (h : st[n]? = some (.ins C fs)) (h2 : fs.length < 900) : fldAJ C f g n i l (.int j) st = .nx l (st.set n (.ins C (putD f (.int (g i j)) fs))) := by
  unfold fldAJ putM
  simp only [h]
  rw [if_pos (by simp [h2])]
def setIxK (o i : EM D) (l : Sl) (d : D) (st1 : Store) : Sz := (o l st1).toS l fun x st2 => (i l st2).toS l fun j st3 => match x, j with
  | .ref n, .int z => (match st3[n]? with
    | some (.lst ds) => (match ixN ds.length z with
      | some m => .nx l (st3.set n (.lst (ds.set m d)))
      | none => .fail)
    | _ => .fail)
  | _, _ => .fail
def setIxJ (i : EM D) (l : Sl) (d : D) (x : D) (st2 : Store) : Sz := (i l st2).toS l fun j st3 => match x, j with
  | .ref n, .int z => (match st3[n]? with
    | some (.lst ds) => (match ixN ds.length z with
      | some m => .nx l (st3.set n (.lst (ds.set m d)))
      | none => .fail)
    | _ => .fail)
  | _, _ => .fail
def setIxI (l : Sl) (d x j : D) (st3 : Store) : Sz := match x, j with
  | .ref n, .int z => (match st3[n]? with
    | some (.lst ds) => (match ixN ds.length z with
      | some m => .nx l (st3.set n (.lst (ds.set m d)))
      | none => .fail)
    | _ => .fail)
  | _, _ => .fail
variable (o i : EM D)
@[simp] theorem setIx_s : setIx a o i l st = (a l st).toS l (setIxK o i l) := rfl
@[simp] theorem setIxK_s (d : D) : setIxK o i l d st = (o l st).toS l (setIxJ i l d) := rfl
@[simp] theorem setIxJ_s (d x : D) : setIxJ i l d x st = (i l st).toS l (setIxI l d x) := rfl
theorem setIxI_ok {n m : Nat} {ds : List D} {d : D} {z : Int} {st : Store} (h : st[n]? = some (.lst ds)) (h2 : ixN ds.length z = some m) : setIxI l d (.ref n) (.int z) st = .nx l (st.set n (.lst (ds.set m d))) := by
  unfold setIxI
  simp only [h, h2]
def augK (i : Nat) (g : D → D → Store → Rz D) (a : EM D) (l : Sl) (st : Store) (o : Option (Option D)) : Sz := match o with
  | some (some x) => (a l st).toS l fun d st1 => (g x d st1).toS l fun y st2 => .nx (l.set i (some y)) st2
  | _ => .fail
def augJ (i : Nat) (g : D → D → Store → Rz D) (l : Sl) (x d : D) (st1 : Store) : Sz := (g x d st1).toS l (setK i l)
@[simp] theorem augM_s (i : Nat) (g : D → D → Store → Rz D) : augM i g a l st = augK i g a l st l[i]? := by unfold augM augK; rfl
@[simp] theorem augK_s (i : Nat) (g : D → D → Store → Rz D) (x : D) : augK i g a l st (some (some x)) = (a l st).toS l (augJ i g l x) := rfl
@[simp] theorem augJ_s (i : Nat) (g : D → D → Store → Rz D) (x d : D) : augJ i g l x d st = (g x d st).toS l (setK i l) := rfl
@[simp] theorem raise0_s (c : Str) : raise0 c l st = .exc c [] l st := rfl
def raise1K (c f : Str) (l : Sl) (ds : List D) (st1 : Store) : Sz := match ds with
  | [d] => .exc c [(f, d)] l st1
  | _ => .fail
@[simp] theorem raise1_s (c f : Str) : raise1 c f r l st = (r l st).toS l (raise1K c f l) := rfl
@[simp] theorem raise1K_s (c f : Str) (d : D) : raise1K c f l [d] st = .exc c [(f, d)] l st := rfl
def forK (t : T) (body : SM) (l : Sl) (s : Src) (st : Store) : Sz := forGo s t body s.items l st
@[simp] theorem forM_s (it : EM Src) (t : T) (body : SM) : forM it t body l st = (it l st).toS l (forK t body l) := rfl
@[simp] theorem forK_s (t : T) (body : SM) (s : Src) : forK t body l s st = forGo s t body s.items l st := rfl
end
/-- the end of a def's body -/
def endD (z : Sz) : Rz D := match z with
  | .nx _ st' => .ok .non st'
  | .rt d st' => .ok d st'
  | .exc c fs _ st' => .exc c fs st'
  | _ => .fail
theorem dfM_s {np nN : Nat} {body : SM} {ds : List D} (h : ds.length = np) (st : Store) : dfM np nN body ds st = endD (body (ds.map some ++ List.replicate (nN - np) none) st) := by
  unfold dfM
  rw [if_pos h]
  rfl
@[simp] theorem dfM_0 (n : Nat) (body : SM) (st : Store) : dfM 0 n body [] st = endD (body (List.replicate (n - 0) none) st) := dfM_s rfl st
@[simp] theorem dfM_1 (n : Nat) (body : SM) (a : D) (st : Store) : dfM 1 n body [a] st = endD (body (some a :: List.replicate (n - 1) none) st) := dfM_s rfl st
@[simp] theorem dfM_2 (n : Nat) (body : SM) (a b : D) (st : Store) : dfM 2 n body [a, b] st = endD (body (some a :: some b :: List.replicate (n - 2) none) st) := dfM_s rfl st
@[simp] theorem dfM_3 (n : Nat) (body : SM) (a b c : D) (st : Store) : dfM 3 n body [a, b, c] st = endD (body (some a :: some b :: some c :: List.replicate (n - 3) none) st) := dfM_s rfl st
@[simp] theorem dfM_4 (n : Nat) (body : SM) (a b c d : D) (st : Store) : dfM 4 n body [a, b, c, d] st = endD (body (some a :: some b :: some c :: some d :: List.replicate (n - 4) none) st) := dfM_s rfl st
@[simp] theorem endD_rt (d : D) (st : Store) : endD (.rt d st) = .ok d st := rfl
@[simp] theorem endD_nx (l : Sl) (st : Store) : endD (.nx l st) = .ok .non st := rfl
@[simp] theorem endD_exc (c : Str) (fs : List (Str × D)) (l : Sl) (st : Store) : endD (.exc c fs l st) = .exc c fs st := rfl
/-! ### values -/
section
variable (st : Store) (i j : Int) (x y : Str) (u v : List D)
@[simp] theorem plusM_i : plusM (.int i) (.int j) st = .ok (.int (i + j)) st := rfl
theorem plusM_str (h : x.length + y.length ≤ 1000000) : plusM (.str x) (.str y) st = .ok (.str (x ++ y)) st := if_pos (Nat.ble_eq_true_of_le h)
theorem plusM_tup (h : u.length + v.length ≤ 1000000) : plusM (.tup u) (.tup v) st = .ok (.tup (u ++ v)) st := if_pos (Nat.ble_eq_true_of_le h)
theorem plusM_fl (h : u.length + v.length ≤ 1000000) : plusM (.fl u) (.fl v) st = .ok (.fl (u ++ v)) st := if_pos (Nat.ble_eq_true_of_le h)
@[simp] theorem subM_i : subM (.int i) (.int j) st = .ok (.int (i - j)) st := rfl
theorem modM_i (h : 0 < j) : modM (.int i) (.int j) st = .ok (.int (i % j)) st := if_pos h
theorem fdivM_i (h : 0 < j ∧ j < 1073741824) : fdivM (.int i) (.int j) st = .ok (.int (i / j)) st := if_pos h
theorem timesM_i (h : (-18446744073709551616 < i ∧ i < 18446744073709551616) ∨ (-18446744073709551616 < j ∧ j < 18446744073709551616)) : timesM (.int i) (.int j) st = .ok (.int (i * j)) st := if_pos h
theorem timesM_str (h : 0 ≤ i ∧ i ≤ 1000 ∧ x.length ≤ 1000) : timesM (.str x) (.int i) st = .ok (.str (Txt.mul x i)) st := if_pos h
@[simp] theorem cmpM_i (g : Int → Int → Bool) : cmpM g (.int i) (.int j) st = .ok (.bl (g i j)) st := rfl
@[simp] theorem intM_i (g : Int → Int → Int) : intM g (.int i) (.int j) st = .ok (.int (g i j)) st := rfl
@[simp] theorem intOf_i : intOf [.int i] st = .ok (.int i) st := rfl
theorem strOf_i (h : i.natAbs < 18446744073709551616) : strOf [.int i] st = .ok (.str (toString i)) st := if_pos h
@[simp] theorem tupOf_fl : tupOf [.fl u] st = .ok (.tup u) st := rfl
@[simp] theorem tupOf_tup : tupOf [.tup u] st = .ok (.tup u) st := rfl
@[simp] theorem lenM_tup : lenM [.tup u] st = .ok (.int u.length) st := rfl
@[simp] theorem lenM_fl : lenM [.fl u] st = .ok (.int u.length) st := rfl
@[simp] theorem lenM_rd : lenM [.rd u] st = .ok (.int u.length) st := rfl
theorem lenM_str (h : x.length ≤ 1000000) : lenM [.str x] st = .ok (.int x.length) st := if_pos (Nat.ble_eq_true_of_le h)
theorem lenM_ref {n : Nat} (h : st[n]? = some (.lst u)) : lenM [.ref n] st = .ok (.int u.length) st := by
  simp [lenM, sqof, lof, h]
@[simp] theorem int2_i (f : Int → Int → Int) : int2 f [.int i, .int j] st = .ok (.int (f i j)) st := rfl
def atK (o : Option D) (st : Store) : Rz D := match o with
  | some d => .ok d st
  | none => .fail
@[simp] theorem atK_s (d : D) : atK (some d) st = .ok d st := rfl
@[simp] theorem ixM_tup : ixM (.tup u) (.int i) st = atK (atI u i) st := by
  unfold ixM atK; rfl
@[simp] theorem ixM_fl : ixM (.fl u) (.int i) st = atK (atI u i) st := by
  unfold ixM atK; rfl
@[simp] theorem ixM_rd : ixM (.rd u) (.int i) st = atK (atI u i) st := by
  unfold ixM atK; rfl
theorem ixM_ref {n : Nat} (h : st[n]? = some (.lst u)) : ixM (.ref n) (.int i) st = atK (atI u i) st := by
  simp only [ixM, sqof, lof, h]
  unfold atK; rfl
def atS (o : Option Nat) (st : Store) : Rz D := match o with
  | some c => .ok (.str ⟨#[c]⟩) st
  | none => .fail
@[simp] theorem atS_s (c : Nat) : atS (some c) st = .ok (.str ⟨#[c]⟩) st := rfl
theorem ixM_str (h : x.length ≤ 1000000) : ixM (.str x) (.int i) st = atS (atI x.cps.toList i) st := by
  have hs : small x.length = true := Nat.ble_eq_true_of_le h
  unfold ixM atS
  simp only [hs, if_true] <;> rfl
theorem ixN_nat {n j : Nat} (h : j < n) : ixN n (j : Int) = some j := by
  unfold ixN
  rw [if_pos (by omega), if_pos (by omega)]
  simp
theorem atI_nat {α : Type} {xs : List α} {j : Nat} {x : α} (h : xs[j]? = some x) : atI xs (j : Int) = some x := by
  unfold atI
  have := (List.getElem?_eq_some_iff.mp h).1
  rw [ixN_nat this]
  exact h
variable {α : Type} (p q r s : α) (l : List α)
@[simp] theorem atI_0 : atI (p :: l) 0 = some p := atI_nat (xs := p :: l) (j := 0) rfl
@[simp] theorem atI_1 : atI (p :: q :: l) 1 = some q := atI_nat (xs := p :: q :: l) (j := 1) rfl
@[simp] theorem atI_2 : atI (p :: q :: r :: l) 2 = some r := atI_nat (xs := p :: q :: r :: l) (j := 2) rfl
@[simp] theorem atI_3 : atI (p :: q :: r :: s :: l) 3 = some s := atI_nat (xs := p :: q :: r :: s :: l) (j := 3) rfl
theorem eqD_sc {d e : D} {a b : V} (h1 : sv d = some a) (h2 : sv e = some b) (hs : scal a b = true) : eqD st d e = some (decide (a = b)) := by
  unfold eqD
  rw [h1, h2]
  simp [hs]
@[simp] theorem eqM_str : eqM (.str x) (.str y) st = .ok (.bl (decide (x = y))) st := by
  unfold eqM
  rw [eqD_sc st rfl rfl rfl]
  simp
@[simp] theorem neM_str : neM (.str x) (.str y) st = .ok (.bl (!decide (x = y))) st := by
  unfold neM
  rw [eqD_sc st rfl rfl rfl]
  simp
@[simp] theorem eqM_int : eqM (.int i) (.int j) st = .ok (.bl (decide (i = j))) st := by
  unfold eqM
  rw [eqD_sc st rfl rfl rfl]
  simp
@[simp] theorem neM_int : neM (.int i) (.int j) st = .ok (.bl (!decide (i = j))) st := by
  unfold neM
  rw [eqD_sc st rfl rfl rfl]
  simp
@[simp] theorem eqM_in : eqM (.int i) .non st = .ok (.bl false) st := by
  unfold eqM
  rw [eqD_sc st rfl rfl rfl]
  simp
@[simp] theorem isNM_non : isNM .non .non st = .ok (.bl true) st := rfl
@[simp] theorem isNM_int : isNM (.int i) .non st = .ok (.bl false) st := rfl
@[simp] theorem notNM_non : notNM .non .non st = .ok (.bl false) st := rfl
@[simp] theorem notNM_int : notNM (.int i) .non st = .ok (.bl true) st := rfl
@[simp] theorem notNM_tup : notNM (.tup u) .non st = .ok (.bl true) st := rfl
@[simp] theorem isNM_tup : isNM (.tup u) .non st = .ok (.bl false) st := rfl
end
end Rf
namespace Rf
set_option autoImplicit false
open PySem L2

def sD (l : List Str) : List D := l.map .str
def iD (l : List Int) : List D := l.map .int
@[simp] theorem sD_len (l : List Str) : (sD l).length = l.length := by simp [sD]
@[simp] theorem iD_len (l : List Int) : (iD l).length = l.length := by simp [iD]
theorem sD_app (a b : List Str) : sD a ++ sD b = sD (a ++ b) := by simp [sD]
theorem iD_app (a b : List Int) : iD a ++ iD b = iD (a ++ b) := by simp [iD]
@[simp] theorem sD_nil : sD [] = [] := rfl
@[simp] theorem sD_cons (a : Str) (l : List Str) : sD (a :: l) = .str a :: sD l := rfl
@[simp] theorem iD_nil : iD [] = [] := rfl
@[simp] theorem iD_cons (a : Int) (l : List Int) : iD (a :: l) = .int a :: iD l := rfl
theorem sD_get {l : List Str} {i : Nat} {x : Str} (h : l[i]? = some x) : (sD l)[i]? = some (.str x) := by simp [sD, h]
theorem iD_get {l : List Int} {i : Nat} {x : Int} (h : l[i]? = some x) : (iD l)[i]? = some (.int x) := by simp [iD, h]

/-! ### comprehensions that change nothing -/
theorem lcGo_map {s : Src} {t : T} {el : EM D} {l : Sl} {st : Store} {f : D → D} (hc : s.chk st = true) : ∀ (ds : List D), (∀ d ∈ ds, ∃ l1, t.put d l = some l1 ∧ el l1 st = .ok (f d) st) → lcGo s t yesM el l ds st = .ok (ds.map f) st
  | [], _ => by simp [lcGo, hc]
  | d :: ds, h => by
    obtain ⟨l1, h1, h2⟩ := h d List.mem_cons_self
    have ih := lcGo_map (el := el) (f := f) hc ds fun x hx => h x (List.mem_cons_of_mem _ hx)
    simp [lcGo, hc, h1, yesM, h2, ih]
theorem lcM_map {it : EM Src} {t : T} {el : EM D} {vs : List Nat} {l : Sl} {st st1 : Store} {s : Src} {f : D → D} (hi : it l st = .ok s st1) (hs : s.items.length ≤ 1000000) (hc : s.chk st1 = true)
    (h : ∀ d ∈ s.items, ∃ l1, t.put d (wipeD l vs) = some l1 ∧ el l1 st1 = .ok (f d) st1) : lcM it t yesM el vs l st = .ok (s.items.map f) st1 := by
  unfold lcM
  rw [hi]
  simp only [bind_ok]
  rw [if_pos (show small s.items.length = true from Nat.ble_eq_true_of_le hs), lcGo_map hc _ h]
/-- range(n) -/
theorem rngD_get (n : Nat) : rngD 0 n = (List.range n).map fun (i : Nat) => D.int (i : Nat) := by
  unfold rngD
  exact List.map_congr_left fun i _ => by simp
def rngK (ds : List D) (st1 : Store) : Rz Src := match ds with
  | [.int j] => if -1000000 ≤ j ∧ j ≤ 1000000 then .ok ⟨rngD 0 j.toNat, none⟩ st1 else .fail
  | _ => .fail
@[simp] theorem itR1_s (a : EM (List D)) (l : Sl) (st : Store) : itR1 a l st = (a l st).bind rngK := rfl
theorem rngK_nat {n : Nat} (h : n ≤ 1000000) (st : Store) : rngK [.int n] st = .ok ⟨rngD 0 n, none⟩ st := by
  unfold rngK
  simp only
  rw [if_pos ⟨by omega, by omega⟩, Int.toNat_natCast]
def itAK (d : D) (st1 : Store) : Rz Src := match d with
  | .tup ds => .ok ⟨ds, none⟩ st1
  | .str x => .ok ⟨signsD x, none⟩ st1
  | d => (match lof d st1 with
    | some ds => .ok (srcL d ds) st1
    | none => .fail)
@[simp] theorem itA_s (a : EM D) (l : Sl) (st : Store) : itA a l st = (a l st).bind itAK := rfl
@[simp] theorem itAK_tup (ds : List D) (st : Store) : itAK (.tup ds) st = .ok ⟨ds, none⟩ st := rfl
@[simp] theorem itAK_fl (ds : List D) (st : Store) : itAK (.fl ds) st = .ok ⟨ds, none⟩ st := rfl
@[simp] theorem itAK_str (x : Str) (st : Store) : itAK (.str x) st = .ok ⟨signsD x, none⟩ st := rfl
def itEK (d : D) (st1 : Store) : Rz Src := match lof d st1 with
  | some ds => .ok (srcE d ds) st1
  | none => .fail
@[simp] theorem itE_s (a : EM D) (l : Sl) (st : Store) : itE a l st = (a l st).bind itEK := rfl
@[simp] theorem itEK_fl (ds : List D) (st : Store) : itEK (.fl ds) st = .ok ⟨pairsD 0 ds, none⟩ st := rfl
theorem chk_none (ds : List D) (st : Store) : (⟨ds, none⟩ : Src).chk st = true := rfl
/-! ### for, step by step -/
def forK2 (s : Src) (t : T) (body : SM) (r : List D) (z : Sz) : Sz := match z with
  | .nx l2 st2 => forGo s t body r l2 st2
  | .ct l2 st2 => forGo s t body r l2 st2
  | .bk l2 st2 => .nx l2 st2
  | .rt d st2 => .rt d st2
  | .exc c fs l2 st2 => .exc c fs l2 st2
  | .fail => .fail
theorem forGo_nil {s : Src} {t : T} {body : SM} {l : Sl} {st : Store} (hc : s.chk st = true) : forGo s t body [] l st = .nx l st := if_pos hc
theorem forGo_cons {s : Src} {t : T} {body : SM} {l l1 : Sl} {st : Store} {d : D} {r : List D} (hc : s.chk st = true) (hp : t.put d l = some l1) : forGo s t body (d :: r) l st = forK2 s t body r (body l1 st) := by
  unfold forGo
  rw [if_pos hc, hp]
  simp only
  unfold forK2
  cases body l1 st <;> rfl
@[simp] theorem forK2_nx (s : Src) (t : T) (body : SM) (r : List D) (l : Sl) (st : Store) : forK2 s t body r (.nx l st) = forGo s t body r l st := rfl
@[simp] theorem forK2_ct (s : Src) (t : T) (body : SM) (r : List D) (l : Sl) (st : Store) : forK2 s t body r (.ct l st) = forGo s t body r l st := rfl
@[simp] theorem forK2_bk (s : Src) (t : T) (body : SM) (r : List D) (l : Sl) (st : Store) : forK2 s t body r (.bk l st) = .nx l st := rfl
@[simp] theorem forK2_rt (s : Src) (t : T) (body : SM) (r : List D) (d : D) (st : Store) : forK2 s t body r (.rt d st) = .rt d st := rfl
@[simp] theorem forK2_exc (s : Src) (t : T) (body : SM) (r : List D) (c : Str) (fs : List (Str × D)) (l : Sl) (st : Store) : forK2 s t body r (.exc c fs l st) = .exc c fs l st := rfl
/-- while, one turn -/
def whK (c : EM Bool) (body : SM) (n : Nat) (z : Sz) : Sz := match z with
    | .nx l2 st2 => whGo c body n l2 st2
    | .ct l2 st2 => whGo c body n l2 st2
    | .bk l2 st2 => .nx l2 st2
    | .rt d st2 => .rt d st2
    | .exc e fs l2 st2 => .exc e fs l2 st2
    | .fail => .fail
theorem whGo_true {c : EM Bool} {body : SM} {n : Nat} {l : Sl} {st st1 : Store} (h : c l st = .ok true st1) : whGo c body (n + 1) l st = whK c body n (body l st1) := by
  unfold whGo
  rw [h]
  simp only [toS_ok, if_true]
  unfold whK
  cases body l st1 <;> rfl
theorem whGo_false {c : EM Bool} {body : SM} {n : Nat} {l : Sl} {st st1 : Store} (h : c l st = .ok false st1) : whGo c body (n + 1) l st = .nx l st1 := by
  unfold whGo
  rw [h]
  rfl
@[simp] theorem whK_nx (c : EM Bool) (body : SM) (n : Nat) (l : Sl) (st : Store) : whK c body n (.nx l st) = whGo c body n l st := rfl
@[simp] theorem whK_ct (c : EM Bool) (body : SM) (n : Nat) (l : Sl) (st : Store) : whK c body n (.ct l st) = whGo c body n l st := rfl
@[simp] theorem whK_rt (c : EM Bool) (body : SM) (n : Nat) (d : D) (st : Store) : whK c body n (.rt d st) = .rt d st := rfl
@[simp] theorem whK_bk (c : EM Bool) (body : SM) (n : Nat) (l : Sl) (st : Store) : whK c body n (.bk l st) = .nx l st := rfl
@[simp] theorem whK_exc (c : EM Bool) (body : SM) (n : Nat) (e : Str) (fs : List (Str × D)) (l : Sl) (st : Store) : whK c body n (.exc e fs l st) = .exc e fs l st := rfl
/-! ### texts in lists -/
theorem svAll_s : ∀ l : List Str, svAll (sD l) = some (l.map V.str)
  | [] => rfl
  | a :: l => by simp [svAll, sv, svAll_s l]
theorem inV_s (x : Str) : ∀ l : List Str, inV (.str x) (l.map V.str) = decide (x ∈ l)
  | [] => by simp [inV]
  | a :: l => by
    have ih := inV_s x l
    have e : inV (.str x) ((a :: l).map V.str) = ((a == x) || inV (.str x) (l.map V.str)) := rfl
    rw [e, ih]
    by_cases h : x = a
    · subst h; simp
    · have h2 : ¬ a = x := fun z => h z.symm
      simp [h, h2]
theorem inM_fl (x : Str) (l : List Str) (st : Store) : inM (.str x) (.fl (sD l)) st = .ok (.bl (decide (x ∈ l))) st := by
  simp [inM, isIn, lof, sv, svAll_s, inV_s]
theorem ninM_fl (x : Str) (l : List Str) (st : Store) : ninM (.str x) (.fl (sD l)) st = .ok (.bl (!decide (x ∈ l))) st := by
  simp [ninM, isIn, lof, sv, svAll_s, inV_s]
theorem ninM_tup (x : Str) (l : List Str) (st : Store) : ninM (.str x) (.tup (sD l)) st = .ok (.bl (!decide (x ∈ l))) st := by
  simp [ninM, isIn, sv, svAll_s, inV_s]
theorem inM_sign (c : Nat) (z : Str) (st : Store) : inM (.str ⟨#[c]⟩) (.str z) st = .ok (.bl (decide (c ∈ z.cps.toList))) st := rfl
theorem pdAll_s : ∀ l : List Str, pdAll (sD l) = some (l.map PyData.str)
  | [] => rfl
  | a :: l => by simp [pdAll, pd, pdAll_s l]
theorem lay_s : ∀ l : List Str, (∀ x ∈ l, PyData.strOk x = true) → PyData.canLayAll0 (l.map PyData.str) = true ∧ PyData.depthAll (l.map PyData.str) = 0
  | [], _ => ⟨rfl, rfl⟩
  | a :: l, h => by
    obtain ⟨h1, h2⟩ := lay_s l fun x hx => h x (List.mem_cons_of_mem _ hx)
    simp [PyData.canLayAll0, PyData.canLay0, PyData.depthAll, PyData.depth, h1, h2, h a List.mem_cons_self]
theorem shaped_s {l : List Str} (h : ∀ x ∈ l, PyData.strOk x = true) : SeqAt.shaped (.list (l.map PyData.str)) = true := by
  obtain ⟨h1, h2⟩ := lay_s l h
  unfold SeqAt.shaped
  simp [PyData.canLay0, PyData.depth, h1, h2]
theorem eqD_nil {l : List Str} (st : Store) (h : ∀ x ∈ l, PyData.strOk x = true) : eqD st (.fl (sD l)) (.fl []) = some l.isEmpty := by
  have e : eqD st (.fl (sD l)) (.fl []) = (match pd (.fl (sD l)), pd (.fl []) with
    | some p, some q => if SeqAt.shaped p = true ∧ SeqAt.shaped q = true then some (PyData.eqv p q) else none
    | _, _ => none) := rfl
  have e1 : pd (.fl (sD l)) = some (.list (l.map PyData.str)) := by simp [pd, pdAll_s]
  have e2 : pd (.fl []) = some (.list []) := rfl
  rw [e, e1, e2]
  simp only [shaped_s h]
  have e3 : SeqAt.shaped (.list []) = true := rfl
  rw [e3]
  cases l <;> rfl
theorem eqM_nil {l : List Str} (st : Store) (h : ∀ x ∈ l, PyData.strOk x = true) : eqM (.fl (sD l)) (.fl []) st = .ok (.bl l.isEmpty) st := by
  unfold eqM
  rw [eqD_nil st h]
theorem neM_nil {l : List Str} (st : Store) (h : ∀ x ∈ l, PyData.strOk x = true) : neM (.fl (sD l)) (.fl []) st = .ok (.bl (!l.isEmpty)) st := by
  unfold neM
  rw [eqD_nil st h]
/-! ### slices of lists -/
theorem sliceM_fl (u : List D) (i j : Option Int) (st : Store) : sliceM (.fl u) i j st = .ok (.fl (cutD u i j)) st := rfl
theorem cut_to (u : List D) (k : Nat) : cutD u none (some (k : Int)) = u.take k := by
  unfold cutD
  rw [HT.sIx_none, HT.sIx_nat, List.drop_zero, Nat.sub_zero]
  by_cases h : k ≤ u.length
  · rw [Nat.min_eq_left h]
  · rw [Nat.min_eq_right (by omega), List.take_length, List.take_of_length_le (by omega)]
theorem cut_from (u : List D) (k : Nat) : cutD u (some (k : Int)) none = u.drop k := by
  unfold cutD
  rw [HT.sIx_none, HT.sIx_nat]
  by_cases h : k ≤ u.length
  · rw [Nat.min_eq_left h, List.take_of_length_le (by simp)]
  · rw [Nat.min_eq_right (by omega), List.drop_length, List.drop_of_length_le (by omega)]
    simp
end Rf
namespace Rf
set_option autoImplicit false
open PySem L2

/-! ### the newer combinators, step by step -/
section
variable (l : Sl) (st : Store) (a b c o i : EM D) (r : EM (List D)) (u : List D) (z : Int)
theorem dn_tup : dnOf (.tup u) st = none := rfl
@[simp] theorem ixM2_tup : ixM2 (.tup u) (.int z) st = atK (atI u z) st := by
  show ixM (.tup u) (.int z) st = _
  simp
@[simp] theorem ixM2_fl : ixM2 (.fl u) (.int z) st = atK (atI u z) st := by
  show ixM (.fl u) (.int z) st = _
  simp
@[simp] theorem ixM2_rd : ixM2 (.rd u) (.int z) st = atK (atI u z) st := by
  show ixM (.rd u) (.int z) st = _
  simp
theorem ixM2_ref {n : Nat} (h : st[n]? = some (.lst u)) : ixM2 (.ref n) (.int z) st = atK (atI u z) st := by
  have e1 : dnOf (.ref n) st = none := by simp [dnOf, h]
  have e2 : dkOf (.ref n) st = none := by simp [dkOf, h]
  unfold ixM2
  rw [e1, e2]
  exact ixM_ref st z u h
theorem ixM2_dK {n : Nat} {kv : List (Key × D)} {k : Str} (h : st[n]? = some (.dK kv)) : ixM2 (.ref n) (.str k) st = atK (kfind kv (.inr k)) st := by
  have e1 : dnOf (.ref n) st = none := by simp [dnOf, h]
  have e2 : dkOf (.ref n) st = some kv := by simp [dkOf, h]
  unfold ixM2
  rw [e1, e2]
  simp only [keyK]
  cases kfind kv (.inr k) <;> rfl
def setAtI (l : Sl) (d x j : D) (st3 : Store) : Sz := match putAt d x j st3 with
  | some st4 => .nx l st4
  | none => .fail
def setAtJ (i : EM D) (l : Sl) (d x : D) (st2 : Store) : Sz := (i l st2).toS l (setAtI l d x)
def setAtK (o i : EM D) (l : Sl) (d : D) (st1 : Store) : Sz := (o l st1).toS l (setAtJ i l d)
@[simp] theorem setAt_s : setAt a o i l st = (a l st).toS l (setAtK o i l) := rfl
@[simp] theorem setAtK_s (d : D) : setAtK o i l d st = (o l st).toS l (setAtJ i l d) := rfl
@[simp] theorem setAtJ_s (d x : D) : setAtJ i l d x st = (i l st).toS l (setAtI l d x) := rfl
theorem setAtI_ok {n m : Nat} {ds : List D} {d : D} (h : st[n]? = some (.lst ds)) (h2 : ixN ds.length z = some m) : setAtI l d (.ref n) (.int z) st = .nx l (st.set n (.lst (ds.set m d))) := by
  simp [setAtI, putAt, h, h2]
theorem setAtI_dN {n : Nat} {kv : List (D × D)} {d j : D} (h : st[n]? = some (.dN kv)) (h2 : keyD j = true) (h3 : kv.length < 1000000) : setAtI l d (.ref n) j st = .nx l (st.set n (.dN (dput kv j d))) := by
  simp [setAtI, putAt, h, h2, h3]
@[simp] theorem lenM2_tup : lenM2 [.tup u] st = .ok (.int u.length) st := rfl
@[simp] theorem lenM2_fl : lenM2 [.fl u] st = .ok (.int u.length) st := rfl
@[simp] theorem lenM2_rd : lenM2 [.rd u] st = .ok (.int u.length) st := rfl
theorem lenM2_ref {n : Nat} (h : st[n]? = some (.lst u)) : lenM2 [.ref n] st = .ok (.int u.length) st := by
  have e1 : dnOf (.ref n) st = none := by simp [dnOf, h]
  have e2 : dkOf (.ref n) st = none := by simp [dkOf, h]
  unfold lenM2
  simp only [e1, e2]
  exact lenM_ref st u h
theorem lenM2_dN {n : Nat} {kv : List (D × D)} (h : st[n]? = some (.dN kv)) : lenM2 [.ref n] st = .ok (.int kv.length) st := by
  have e1 : dnOf (.ref n) st = some kv := by simp [dnOf, h]
  unfold lenM2
  simp only [e1]
def truK (d : D) (st1 : Store) : Rz Bool := match truM d st1 with
  | some b => .ok b st1
  | none => .fail
@[simp] theorem truT_s : truT a l st = (a l st).bind truK := rfl
@[simp] theorem truK_fl : truK (.fl u) st = .ok (!u.isEmpty) st := rfl
@[simp] theorem truK_bl (k : Bool) : truK (.bl k) st = .ok k st := rfl
theorem truK_ref {n : Nat} (h : st[n]? = some (.lst u)) : truK (.ref n) st = .ok (!u.isEmpty) st := by
  simp [truK, truM, sqof, lof, h]
def trgK (d : D) (st1 : Store) : Rz D := match d with
  | .int (.ofNat j) => if j ≤ 1000000 then .ok (.tup (rngD 0 j)) st1 else .fail
  | _ => .fail
@[simp] theorem trgM_s : trgM a l st = (a l st).bind trgK := rfl
theorem trgK_nat {n : Nat} (h : n ≤ 1000000) : trgK (.int n) st = .ok (.tup (rngD 0 n)) st := if_pos h
def rgK (d : D) (st1 : Store) : Rz (List D) := match d with
  | .int (.ofNat j) => if j ≤ 1000000 then .ok (rngD 0 j) st1 else .fail
  | _ => .fail
@[simp] theorem rgM_s : rgM a l st = (a l st).bind rgK := rfl
theorem rgK_nat {n : Nat} (h : n ≤ 1000000) : rgK (.int n) st = .ok (rngD 0 n) st := if_pos h
def lenSetK (d : D) (st1 : Store) : Rz D := match d with
  | .tup xs => (match asInts xs with
    | some ns => if Nat.ble ns.length 1000 = true then .ok (.int (uniq ns).length) st1 else .fail
    | none => .fail)
  | _ => .fail
@[simp] theorem lenSet_s : lenSet a l st = (a l st).bind lenSetK := rfl
def srtSetK (d : D) (st1 : Store) : Rz D := match lof d st1 with
  | some xs => (match asTups xs with
    | some ls => if fewB ls = true then .ok (.fl ((srt (uniq ls)).map itup)) st1 else .fail
    | none => .fail)
  | none => .fail
@[simp] theorem srtSet_s : srtSet a l st = (a l st).bind srtSetK := rfl
def tidxK (a : EM D) (l : Sl) (x : D) (st1 : Store) : Rz D := match x with
  | .tup ds => (a l st1).bind fun d st2 => (match idxD ds d with
    | some j => .ok (.int (j : Nat)) st2
    | none => .fail)
  | _ => .fail
def tidxJ (ds : List D) (d : D) (st2 : Store) : Rz D := match idxD ds d with
    | some j => .ok (.int (j : Nat)) st2
    | none => .fail
@[simp] theorem tidxM_s : tidxM o a l st = (o l st).bind (tidxK a l) := rfl
@[simp] theorem tidxK_s : tidxK a l (.tup u) st = (a l st).bind (tidxJ u) := rfl
def itE2K (d : D) (st1 : Store) : Rz Src := match d with
  | .tup ds => .ok ⟨pairsD 0 ds, none⟩ st1
  | d => match lof d st1 with
    | some ds => .ok (srcE d ds) st1
    | none => .fail
@[simp] theorem itE2_s : itE2 a l st = (a l st).bind itE2K := rfl
@[simp] theorem itE2K_tup : itE2K (.tup u) st = .ok ⟨pairsD 0 u, none⟩ st := rfl
@[simp] theorem itE2K_fl : itE2K (.fl u) st = .ok ⟨pairsD 0 u, none⟩ st := rfl
def repK (b : EM D) (l : Sl) (d : D) (st1 : Store) : Rz (List D) := (b l st1).bind fun e st2 => match lofM d st2, e with
  | some x, .int i => if 0 ≤ i ∧ i ≤ 1000 ∧ x.length ≤ 1000 then .ok (rep x i.toNat) st2 else .fail
  | _, _ => .fail
def repJ (d e : D) (st2 : Store) : Rz (List D) := match lofM d st2, e with
  | some x, .int i => if 0 ≤ i ∧ i ≤ 1000 ∧ x.length ≤ 1000 then .ok (rep x i.toNat) st2 else .fail
  | _, _ => .fail
@[simp] theorem repL_s : repL a b l st = (a l st).bind (repK b l) := rfl
@[simp] theorem repK_s (d : D) : repK b l d st = (b l st).bind (repJ d) := rfl
theorem repJ_fl (h : 0 ≤ z ∧ z ≤ 1000 ∧ u.length ≤ 1000) : repJ (.fl u) (.int z) st = .ok (rep u z.toNat) st := if_pos h
end
/-! ### the store only grows -/
@[simp] theorem yesM_s (l : Sl) (st : Store) : yesM l st = .ok true st := rfl
theorem chk_mono {s : Src} {st st' : Store} (h : s.chk st = true) (p : st <+: st') : s.chk st' = true := by
  unfold Src.chk at h ⊢
  cases ho : s.own with
  | none => rfl
  | some q =>
    obtain ⟨n, l⟩ := q
    rw [ho] at h
    simp only at h ⊢
    obtain ⟨ex, rfl⟩ := p
    cases hn : st[n]? with
    | none => rw [hn] at h; cases h
    | some x =>
      rw [List.getElem?_append_left (List.getElem?_eq_some_iff.mp hn).1, hn]
      rw [hn] at h
      exact h
/-- a comprehension of one clause -/
theorem lcGo_ext {s : Src} {t : T} {c : EM Bool} {el : EM D} {l : Sl} {st : Store} {g : D → Bool} {f : D → D} (hc : s.chk st = true) : ∀ (ds : List D),
    (∀ d ∈ ds, ∃ l1, t.put d l = some l1 ∧ ∀ st1, st <+: st1 → ∃ st2, c l1 st1 = .ok (g d) st2 ∧ st1 <+: st2 ∧ (g d = true → ∃ st3, el l1 st2 = .ok (f d) st3 ∧ st2 <+: st3)) →
    ∀ st1, st <+: st1 → ∃ st2, lcGo s t c el l ds st1 = .ok ((ds.filter g).map f) st2 ∧ st1 <+: st2
  | [], _, st1, p => ⟨st1, by simp [lcGo, chk_mono hc p], List.prefix_rfl⟩
  | d :: ds, h, st1, p => by
    obtain ⟨l1, h1, h2⟩ := h d List.mem_cons_self
    have ih := lcGo_ext hc ds fun x hx => h x (List.mem_cons_of_mem _ hx)
    obtain ⟨st2, e2, p2, k⟩ := h2 st1 p
    cases hg : g d with
    | false =>
      obtain ⟨st3, e3, p3⟩ := ih st2 (p.trans p2)
      exact ⟨st3, by simp [lcGo, chk_mono hc p, h1, e2, hg, e3], p2.trans p3⟩
    | true =>
      obtain ⟨st3, e3, p3⟩ := k hg
      obtain ⟨st4, e4, p4⟩ := ih st3 ((p.trans p2).trans p3)
      exact ⟨st4, by simp [lcGo, chk_mono hc p, h1, e2, hg, e3, e4], (p2.trans p3).trans p4⟩
theorem lcM_ext {it : EM Src} {t : T} {c : EM Bool} {el : EM D} {vs : List Nat} {l : Sl} {st st1 : Store} {s : Src} {g : D → Bool} {f : D → D} (hi : it l st = .ok s st1) (p : st <+: st1) (hs : s.items.length ≤ 1000000) (hc : s.chk st1 = true)
    (h : ∀ d ∈ s.items, ∃ l1, t.put d (wipeD l vs) = some l1 ∧ ∀ st2, st1 <+: st2 → ∃ st3, c l1 st2 = .ok (g d) st3 ∧ st2 <+: st3 ∧ (g d = true → ∃ st4, el l1 st3 = .ok (f d) st4 ∧ st3 <+: st4)) :
    ∃ st2, lcM it t c el vs l st = .ok ((s.items.filter g).map f) st2 ∧ st <+: st2 := by
  obtain ⟨st2, e, p2⟩ := lcGo_ext hc _ h st1 List.prefix_rfl
  refine ⟨st2, ?_, p.trans p2⟩
  unfold lcM
  rw [hi]
  simp only [bind_ok]
  rw [if_pos (show small s.items.length = true from Nat.ble_eq_true_of_le hs), e]
/-- a filter of rows -/
theorem lcGo_fil {s : Src} {t : T} {c : EM Bool} {el : EM D} {l : Sl} {st : Store} (hc : s.chk st = true) (g : Row → Bool) : ∀ (ls : List Row),
    (∀ y ∈ ls, ∃ l1, t.put (itup y) l = some l1 ∧ c l1 st = .ok (g y) st ∧ el l1 st = .ok (itup y) st) → lcGo s t c el l (ls.map itup) st = .ok ((ls.filter g).map itup) st
  | [], _ => by simp [lcGo, hc]
  | y :: ls, h => by
    obtain ⟨l1, h1, h2, h3⟩ := h y List.mem_cons_self
    have ih := lcGo_fil hc g ls fun z hz => h z (List.mem_cons_of_mem _ hz)
    cases hg : g y with
    | false => simp [lcGo, hc, h1, h2, hg, ih]
    | true => simp [lcGo, hc, h1, h2, h3, hg, ih]
theorem filter_true {α : Type} (l : List α) : l.filter (fun _ => true) = l := List.filter_eq_self.mpr fun _ _ => rfl
/-- of one clause, without a test -/
theorem lcM_ext0 {it : EM Src} {t : T} {el : EM D} {vs : List Nat} {l : Sl} {st st1 : Store} {s : Src} {f : D → D} (hi : it l st = .ok s st1) (p : st <+: st1) (hs : s.items.length ≤ 1000000) (hc : s.chk st1 = true)
    (h : ∀ d ∈ s.items, ∃ l1, t.put d (wipeD l vs) = some l1 ∧ ∀ st2, st1 <+: st2 → ∃ st3, el l1 st2 = .ok (f d) st3 ∧ st2 <+: st3) :
    ∃ st2, lcM it t yesM el vs l st = .ok (s.items.map f) st2 ∧ st <+: st2 := by
  have := lcM_ext (c := yesM) (g := fun _ => true) (f := f) hi p hs hc fun d hd => by
    obtain ⟨l1, h1, h2⟩ := h d hd
    refine ⟨l1, h1, fun st2 p2 => ⟨st2, rfl, List.prefix_rfl, fun _ => h2 st2 p2⟩⟩
  rwa [filter_true] at this
/-- of two clauses, without tests -/
theorem lc2Go_ext {s : Src} {t t1 : T} {it1 : EM Src} {el : EM D} {vs1 : List Nat} {l : Sl} {st : Store} {f : D → List D} {most : Nat} (hc : s.chk st = true) : ∀ (ds : List D) (n : Nat), n + ds.length * most ≤ 1000000 →
    (∀ d ∈ ds, ∃ l1, t.put d l = some l1 ∧ ∀ st1, st <+: st1 → ∃ s1 st2, it1 l1 st1 = .ok s1 st2 ∧ st1 <+: st2 ∧ s1.items.length ≤ most ∧ s1.chk st2 = true ∧ ∃ f1 : D → D, f d = s1.items.map f1 ∧
      ∀ d1 ∈ s1.items, ∃ l2, t1.put d1 (wipeD l1 vs1) = some l2 ∧ ∀ st3, st2 <+: st3 → ∃ st4, el l2 st3 = .ok (f1 d1) st4 ∧ st3 <+: st4) →
    ∀ st1, st <+: st1 → ∃ st2, lc2Go s t yesM it1 t1 yesM el vs1 l n ds st1 = .ok (ds.map f).flatten st2 ∧ st1 <+: st2
  | [], n, _, _, st1, p => ⟨st1, by simp [lc2Go, chk_mono hc p], List.prefix_rfl⟩
  | d :: ds, n, hn, h, st1, p => by
    obtain ⟨l1, h1, h2⟩ := h d List.mem_cons_self
    obtain ⟨s1, st2, e1, p1, hm, hc1, f1, ef, k⟩ := h2 st1 p
    rw [List.length_cons, Nat.add_mul] at hn
    obtain ⟨st3, e3, p3⟩ := lcGo_ext (c := yesM) (g := fun _ => true) (f := f1) (el := el) hc1 s1.items (fun d1 hd1 => by
      obtain ⟨l2, k1, k2⟩ := k d1 hd1
      exact ⟨l2, k1, fun st3 p3 => ⟨st3, rfl, List.prefix_rfl, fun _ => k2 st3 p3⟩⟩) st2 List.prefix_rfl
    obtain ⟨st4, e4, p4⟩ := lc2Go_ext hc ds (n + s1.items.length) (by omega) (fun x hx => h x (List.mem_cons_of_mem _ hx)) st3 ((p.trans p1).trans p3)
    refine ⟨st4, ?_, (p1.trans p3).trans p4⟩
    rw [filter_true] at e3
    have hs : small (n + s1.items.length) = true := Nat.ble_eq_true_of_le (by omega)
    simp only [List.map_cons, List.flatten_cons, ef]
    simp [lc2Go, chk_mono hc p, h1, e1, hs, e3, e4]
/-- for, by what holds ahead of each turn -/
theorem forGo_ind {s : Src} {t : T} {body : SM} (J : List D → Sl → Store → Prop) (hc : ∀ r l st, J r l st → s.chk st = true)
    (step : ∀ d r l st, J (d :: r) l st → ∃ l1 l2 st2, t.put d l = some l1 ∧ (body l1 st = .nx l2 st2 ∨ body l1 st = .ct l2 st2) ∧ J r l2 st2) : ∀ r l st, J r l st → ∃ l' st', forGo s t body r l st = .nx l' st' ∧ J [] l' st'
  | [], l, st, h => ⟨l, st, forGo_nil (hc _ _ _ h), h⟩
  | d :: r, l, st, h => by
    obtain ⟨l1, l2, st2, h1, h2, h3⟩ := step d r l st h
    obtain ⟨l', st', e, h'⟩ := forGo_ind J hc step r l2 st2 h3
    refine ⟨l', st', ?_, h'⟩
    rw [forGo_cons (hc _ _ _ h) h1]
    rcases h2 with h2 | h2
    · rw [h2, forK2_nx, e]
    · rw [h2, forK2_ct, e]
/-- all(..), what is asked changes nothing but that the store grows -/
theorem allGo_ext {s : Src} {t : T} {el : EM D} {l : Sl} {st : Store} {g : D → Bool} (hc : s.chk st = true) : ∀ (ds : List D),
    (∀ d ∈ ds, ∃ l1, t.put d l = some l1 ∧ ∀ st1, st <+: st1 → ∃ st2, el l1 st1 = .ok (.bl (g d)) st2 ∧ st1 <+: st2) →
    ∀ st1, st <+: st1 → ∃ st2, allGo true s t yesM el l ds st1 = .ok (.bl (ds.all g)) st2 ∧ st1 <+: st2
  | [], _, st1, p => ⟨st1, by simp [allGo, chk_mono hc p], List.prefix_rfl⟩
  | d :: ds, h, st1, p => by
    obtain ⟨l1, h1, h2⟩ := h d List.mem_cons_self
    have ih := allGo_ext hc ds fun x hx => h x (List.mem_cons_of_mem _ hx)
    obtain ⟨st2, e2, p2⟩ := h2 st1 p
    cases hg : g d with
    | false => exact ⟨st2, by rw [hg] at e2; simp [allGo, chk_mono hc p, h1, e2, hg], p2⟩
    | true =>
      obtain ⟨st3, e3, p3⟩ := ih st2 (p.trans p2)
      refine ⟨st3, ?_, p2.trans p3⟩
      rw [hg] at e2
      simp [allGo, chk_mono hc p, h1, e2, hg, e3]
theorem allM_ext {n : Nat} {p : Str × Option Str} {it : EM Src} {t : T} {el : EM D} {vs : List Nat} {l : Sl} {st st1 : Store} {s : Src} {g : D → Bool} (hi : it l st = .ok s st1) (pp : st <+: st1) (hc : s.chk st1 = true) (ht : st1[n]? = some (.tb p))
    (h : ∀ d ∈ s.items, ∃ l1, t.put d (wipeD l vs) = some l1 ∧ ∀ st2, st1 <+: st2 → ∃ st3, el l1 st2 = .ok (.bl (g d)) st3 ∧ st2 <+: st3) :
    ∃ st2, allM true n p it t yesM el vs l st = .ok (.bl (s.items.all g)) st2 ∧ st <+: st2 := by
  obtain ⟨st2, e, p2⟩ := allGo_ext hc _ h st1 List.prefix_rfl
  refine ⟨st2, ?_, pp.trans p2⟩
  unfold allM
  rw [hi]
  simp only [bind_ok, ht]
  rw [if_pos trivial, e]
theorem pre_get {st st' : Store} {n : Nat} {x : O} (p : st <+: st') (h : st[n]? = some x) : st'[n]? = some x := by
  obtain ⟨ex, rfl⟩ := p
  rw [List.getElem?_append_left (List.getElem?_eq_some_iff.mp h).1, h]
end Rf
namespace Rf
set_option autoImplicit false
open PySem L2

/-! ### rows as data -/
def pdR (p : Row) : PyData := .tuple (p.map PyData.int)
theorem pdAll_int : ∀ l : List Int, pdAll (l.map D.int) = some (l.map PyData.int)
  | [] => rfl
  | i :: l => by simp [pdAll, pd, pdAll_int l]
theorem pd_row (p : Row) : pd (itup p) = some (pdR p) := by
  unfold itup
  simp [pd, pdAll_int, pdR]
theorem pdAll_row : ∀ L : List Row, pdAll (L.map itup) = some (L.map pdR)
  | [] => rfl
  | p :: L => by simp [pdAll, pd_row, pdAll_row L]
theorem eqvAll_int : ∀ a b : List Int, PyData.eqvAll (a.map PyData.int) (b.map PyData.int) = decide (a = b)
  | [], [] => rfl
  | [], _ :: _ => rfl
  | _ :: _, [] => rfl
  | i :: a, j :: b => by
    simp only [List.map_cons, PyData.eqvAll, PyData.eqv, eqvAll_int a b]
    by_cases h : i = j
    · subst h; simp
    · have : (i == j) = false := beq_eq_false_iff_ne.mpr h
      simp [h]
theorem eqv_row (a b : Row) : PyData.eqv (pdR a) (pdR b) = decide (a = b) := eqvAll_int a b
theorem eqvAll_row : ∀ a b : List Row, PyData.eqvAll (a.map pdR) (b.map pdR) = decide (a = b)
  | [], [] => rfl
  | [], _ :: _ => rfl
  | _ :: _, [] => rfl
  | i :: a, j :: b => by
    simp only [List.map_cons, PyData.eqvAll, eqv_row, eqvAll_row a b]
    by_cases h : i = j
    · subst h; simp
    · simp [h]
theorem lay_int : ∀ l : List Int, PyData.canLayAll0 (l.map PyData.int) = true ∧ PyData.depthAll (l.map PyData.int) = 0
  | [] => ⟨rfl, rfl⟩
  | a :: l => by
    obtain ⟨h1, h2⟩ := lay_int l
    simp [PyData.canLayAll0, PyData.canLay0, PyData.depthAll, PyData.depth, h1, h2]
theorem shaped_row (p : Row) : SeqAt.shaped (pdR p) = true := by
  obtain ⟨h1, h2⟩ := lay_int p
  unfold SeqAt.shaped pdR
  simp [PyData.canLay0, PyData.depth, h1, h2]
theorem lay_row : ∀ L : List Row, PyData.canLayAll0 (L.map pdR) = true ∧ PyData.depthAll (L.map pdR) ≤ 1
  | [] => ⟨rfl, Nat.zero_le _⟩
  | a :: L => by
    obtain ⟨h1, h2⟩ := lay_row L
    obtain ⟨g1, g2⟩ := lay_int a
    refine ⟨by simp [PyData.canLayAll0, pdR, PyData.canLay0, h1, g1], ?_⟩
    simp only [List.map_cons, PyData.depthAll, pdR, PyData.depth, g2]
    have h2 : PyData.depthAll (L.map fun p => PyData.tuple (p.map PyData.int)) ≤ 1 := h2
    exact Nat.max_le.mpr ⟨by omega, h2⟩
theorem shaped_rows (L : List Row) : SeqAt.shaped (.list (L.map pdR)) = true := by
  obtain ⟨h1, h2⟩ := lay_row L
  unfold SeqAt.shaped
  simp [PyData.canLay0, PyData.depth, h1]
  omega
theorem any_row (x : Row) : ∀ F : List Row, ((F.map pdR).any fun z => PyData.eqv z (pdR x)) = decide (x ∈ F)
  | [] => rfl
  | y :: F => by
    rw [List.map_cons, List.any_cons, any_row x F, eqv_row]
    by_cases h : y = x
    · subst h; simp
    · have : ¬ x = y := fun z => h z.symm
      simp [h, this]
variable (st : Store) (x : Row) (F : List Row)
theorem inD_row : inD st (itup x) (F.map itup) = some (decide (x ∈ F)) := by
  unfold inD
  have e : rs st (itup x) = itup x := rfl
  rw [e, pd_row, pdAll_row]
  simp only [shaped_row, shaped_rows, and_self, if_true, any_row]
theorem isIn_row {d : D} (h : lof d st = some (F.map itup)) (hn : ∀ l, d ≠ .tup l) (hs : ∀ z, d ≠ .str z) : isIn (itup x) d st = some (decide (x ∈ F)) := by
  unfold isIn
  have e : sv (itup x) = none := rfl
  cases d with
  | tup l => exact absurd rfl (hn l)
  | str z => exact absurd rfl (hs z)
  | _ => simp only [h, e, inD_row]
theorem ninM2_fl : ninM2 (itup x) (.fl (F.map itup)) st = .ok (.bl (!decide (x ∈ F))) st := by
  have e : dnOf (.fl (F.map itup)) st = none := rfl
  unfold ninM2
  rw [e]
  simp only [ninM, isIn_row st x F (d := .fl (F.map itup)) rfl (fun _ z => nomatch z) (fun _ z => nomatch z)]
theorem ninM2_ref {n : Nat} (h : st[n]? = some (.lst (F.map itup))) : ninM2 (itup x) (.ref n) st = .ok (.bl (!decide (x ∈ F))) st := by
  have e : dnOf (.ref n) st = none := by simp [dnOf, h]
  unfold ninM2
  rw [e]
  simp only [ninM, isIn_row st x F (d := .ref n) (by simp [lof, h]) (fun _ z => nomatch z) (fun _ z => nomatch z)]
theorem inM2_fl : inM2 (itup x) (.fl (F.map itup)) st = .ok (.bl (decide (x ∈ F))) st := by
  have e : dnOf (.fl (F.map itup)) st = none := rfl
  unfold inM2
  rw [e]
  simp only [inM, isIn_row st x F (d := .fl (F.map itup)) rfl (fun _ z => nomatch z) (fun _ z => nomatch z)]
theorem eqM_row (a b : Row) : eqM (itup a) (itup b) st = .ok (.bl (decide (a = b))) st := by
  have e : eqD st (itup a) (itup b) = some (decide (a = b)) := by
    have : eqD st (itup a) (itup b) = (match pd (itup a), pd (itup b) with
      | some p, some q => if SeqAt.shaped p = true ∧ SeqAt.shaped q = true then some (PyData.eqv p q) else none
      | _, _ => none) := rfl
    rw [this, pd_row, pd_row]
    simp only [shaped_row, and_self, if_true, eqv_row]
  unfold eqM
  rw [e]
theorem neM_row (a b : Row) : neM (itup a) (itup b) st = .ok (.bl (!decide (a = b))) st := by
  have e : eqD st (itup a) (itup b) = some (decide (a = b)) := by
    have : eqD st (itup a) (itup b) = (match pd (itup a), pd (itup b) with
      | some p, some q => if SeqAt.shaped p = true ∧ SeqAt.shaped q = true then some (PyData.eqv p q) else none
      | _, _ => none) := rfl
    rw [this, pd_row, pd_row]
    simp only [shaped_row, and_self, if_true, eqv_row]
  unfold neM
  rw [e]
theorem eqM_rows (a b : List Row) : eqM (.fl (a.map itup)) (.fl (b.map itup)) st = .ok (.bl (decide (a = b))) st := by
  have e : eqD st (.fl (a.map itup)) (.fl (b.map itup)) = some (decide (a = b)) := by
    have : eqD st (.fl (a.map itup)) (.fl (b.map itup)) = (match pd (.fl (a.map itup)), pd (.fl (b.map itup)) with
      | some p, some q => if SeqAt.shaped p = true ∧ SeqAt.shaped q = true then some (PyData.eqv p q) else none
      | _, _ => none) := rfl
    rw [this]
    have pf : ∀ L : List Row, pd (.fl (L.map itup)) = some (.list (L.map pdR)) := fun L => by simp [pd, pdAll_row]
    rw [pf, pf]
    simp only [shaped_rows, and_self, if_true]
    exact congrArg some (eqvAll_row a b)
  unfold eqM
  rw [e]
/-! ### rows in order, rows unlike -/
theorem asInts_map : ∀ l : List Int, asInts (l.map D.int) = some l
  | [] => rfl
  | i :: l => by simp [asInts, asInts_map l]
theorem asTups_map : ∀ L : List Row, (∀ p ∈ L, p ≠ []) → asTups (L.map itup) = some L
  | [], _ => rfl
  | p :: L, h => by
    have e := asTups_map L fun q hq => h q (List.mem_cons_of_mem _ hq)
    have := h p List.mem_cons_self
    unfold itup at e ⊢
    simp [asTups, asInts_map, e, this]
theorem srtM_fl (h : ∀ p ∈ F, p ≠ []) (hl : F.length ≤ 1000000) : srtM [.fl (F.map itup)] st = .ok (.fl ((srt F).map itup)) st := by
  have e : lof (.fl (F.map itup)) st = some (F.map itup) := rfl
  unfold srtM
  simp only [e, asTups_map F h]
  exact if_pos (Nat.ble_eq_true_of_le hl)
theorem srtM_ref {n : Nat} (hs : st[n]? = some (.lst (F.map itup))) (h : ∀ p ∈ F, p ≠ []) (hl : F.length ≤ 1000000) : srtM [.ref n] st = .ok (.fl ((srt F).map itup)) st := by
  have e : lof (.ref n) st = some (F.map itup) := by simp [lof, hs]
  unfold srtM
  simp only [e, asTups_map F h]
  exact if_pos (Nat.ble_eq_true_of_le hl)
theorem srtM_dN {n : Nat} {kv : List (D × D)} (hs : st[n]? = some (.dN kv)) (hk : kv.map (·.1) = F.map itup) (h : ∀ p ∈ F, p ≠ []) : srtM [.ref n] st = .ok (.fl ((srt F).map itup)) st := by
  have e : lof (.ref n) st = none := by simp [lof, hs]
  have e2 : dnOf (.ref n) st = some kv := by simp [dnOf, hs]
  unfold srtM
  simp only [e, e2, hk, asTups_map F h]
theorem srtSetK_fl (h : ∀ p ∈ F, p ≠ []) (hf : (uniq F).length < 63) : srtSetK (.fl (F.map itup)) st = .ok (.fl ((srt (uniq F)).map itup)) st := by
  have e : lof (.fl (F.map itup)) st = some (F.map itup) := rfl
  unfold srtSetK
  simp only [e, asTups_map F h]
  exact if_pos (by unfold fewB; exact Nat.blt_eq.mpr hf)
/-! ### dicts by rows -/
theorem nks_num : ∀ l : List Int, nks (l.map D.int) = some (l.map NestedKey.num)
  | [] => rfl
  | i :: l => by
    have := nks_num l
    simp [nks, nk, this]
theorem dep_num : ∀ l : List Int, NestedKey.depthAll (l.map NestedKey.num) = 0
  | [] => rfl
  | i :: l => by simp [NestedKey.depthAll, NestedKey.depth, dep_num l]
theorem keyD_row : keyD (itup x) = true := by
  have e : nk (itup x) = some (.tup (x.map NestedKey.num)) := by
    unfold itup
    simp [nk, nks_num]
  have e2 : keyD (itup x) = (match nk (itup x) with
    | some k => Nat.ble k.depth 8
    | none => false) := rfl
  rw [e2, e]
  simp [NestedKey.depth, dep_num]
theorem itup_inj {a b : Row} (h : itup a = itup b) : a = b := by
  unfold itup at h
  have h : a.map D.int = b.map D.int := D.tup.inj h
  exact List.map_inj_right (fun i j e => by cases e; rfl) |>.mp h
theorem dfind_row : ∀ (F : List Row) (kv : List (D × D)), kv.map (·.1) = F.map itup → (dfind kv (itup x)).isSome = decide (x ∈ F)
  | [], [], _ => rfl
  | y :: F, p :: kv, h => by
    obtain ⟨h1, h2⟩ := List.cons.inj (show p.1 :: kv.map (·.1) = itup y :: F.map itup from h)
    have ih := dfind_row F kv h2
    unfold dfind
    rw [h1]
    by_cases e : y = x
    · subst e; simp
    · have e2 : ¬ itup y = itup x := fun z => e (itup_inj z)
      rw [if_neg e2, ih]
      have : ¬ x = y := fun z => e z.symm
      simp [this]
theorem dput_row (e : D) : ∀ (F : List Row) (kv : List (D × D)), kv.map (·.1) = F.map itup → x ∉ F → dput kv (itup x) e = kv ++ [(itup x, e)]
  | [], [], _, _ => rfl
  | y :: F, p :: kv, h, hx => by
    obtain ⟨h1, h2⟩ := List.cons.inj (show p.1 :: kv.map (·.1) = itup y :: F.map itup from h)
    have ih := dput_row e F kv h2 fun z => hx (List.mem_cons_of_mem _ z)
    unfold dput
    rw [h1, if_neg fun z => hx (by rw [itup_inj z]; exact List.mem_cons_self), ih]
    rfl
theorem ninM2_dN {n : Nat} {kv : List (D × D)} (h : st[n]? = some (.dN kv)) (hk : kv.map (·.1) = F.map itup) : ninM2 (itup x) (.ref n) st = .ok (.bl (!decide (x ∈ F))) st := by
  have e : dnOf (.ref n) st = some kv := by simp [dnOf, h]
  unfold ninM2
  rw [e]
  simp only [keyD_row, if_true, dfind_row x F kv hk]
end Rf
namespace Rf
set_option autoImplicit false
open PySem L2

/-! ### turns: rows of 0 .. n - 1 -/
def beh (a b : Row) : Row := a.map fun i => b.getD i.toNat 0
def idp (n : Nat) : Row := (List.range n).map fun i => ((i : Nat) : Int)
def bk (p : Row) : Row := (List.range p.length).map fun i => ((p.idxOf ((i : Nat) : Int) : Nat) : Int)
structure IsP (n : Nat) (p : Row) : Prop where
  len : p.length = n
  bd : ∀ x ∈ p, 0 ≤ x ∧ x < (n : Int)
  nd : p.Nodup
def ev (p : Row) (i : Nat) : Nat := (p.getD i 0).toNat
section
variable {n : Nat} {p q r : Row}
theorem IsP.at (h : IsP n p) {i : Nat} (hi : i < n) : p[i]? = some ((ev p i : Nat) : Int) ∧ ev p i < n := by
  have hl : i < p.length := by rw [h.len]; exact hi
  have hb := h.bd _ (List.getElem_mem hl)
  have e : p.getD i 0 = p[i] := by rw [List.getD_eq_getElem?_getD, List.getElem?_eq_getElem hl]; rfl
  have e2 : ((ev p i : Nat) : Int) = p[i] := by unfold ev; rw [e]; omega
  exact ⟨by rw [List.getElem?_eq_getElem hl, e2], by omega⟩
theorem IsP.ext (hp : IsP n p) (hq : IsP n q) (h : ∀ i, i < n → ev p i = ev q i) : p = q := by
  apply List.ext_getElem?
  intro i
  by_cases hi : i < n
  · rw [(hp.at hi).1, (hq.at hi).1, h i hi]
  · rw [List.getElem?_eq_none (by rw [hp.len]; omega), List.getElem?_eq_none (by rw [hq.len]; omega)]
theorem IsP.inj (h : IsP n p) {i j : Nat} (hi : i < n) (hj : j < n) (e : ev p i = ev p j) : i = j := by
  have a := (h.at hi).1
  have b := (h.at hj).1
  rw [e] at a
  exact (List.getElem?_inj (by rw [h.len]; exact hi) h.nd).mp (a.trans b.symm)
theorem idp_len (n : Nat) : (idp n).length = n := by simp [idp]
theorem mem_idp {n : Nat} {x : Int} : x ∈ idp n ↔ 0 ≤ x ∧ x < n := by
  unfold idp
  rw [List.mem_map]
  constructor
  · rintro ⟨i, hi, rfl⟩
    have := List.mem_range.mp hi
    omega
  · intro h
    exact ⟨x.toNat, List.mem_range.mpr (by omega), by omega⟩
theorem isP_id (n : Nat) : IsP n (idp n) := ⟨idp_len n, fun x hx => mem_idp.mp hx, by
  unfold idp
  exact List.pairwise_map.mpr (List.nodup_range.imp fun h e => h (by omega))⟩
theorem ev_id {i : Nat} (hi : i < n) : ev (idp n) i = i := by
  unfold ev idp
  rw [List.getD_eq_getElem?_getD, List.getElem?_map, List.getElem?_range hi]
  simp
theorem IsP.surj (h : IsP n p) {x : Int} (h0 : 0 ≤ x) (h1 : x < n) : x ∈ p := by
  refine Classical.byContradiction fun hx => ?_
  have hm : x ∈ idp n := mem_idp.mpr ⟨h0, h1⟩
  have := nodup_len (l := p) (m := (idp n).erase x) h.nd fun y hy => (List.mem_erase_of_ne fun e : y = x => hx (by rw [← e]; exact hy)).mpr (mem_idp.mpr (h.bd y hy))
  rw [List.length_erase_of_mem hm, idp_len, h.len] at this
  omega
theorem beh_len (a b : Row) : (beh a b).length = a.length := List.length_map _
theorem ev_beh (hp : IsP n p) {i : Nat} (hi : i < n) : ev (beh p q) i = ev q (ev p i) := by
  show ((beh p q).getD i 0).toNat = _
  unfold beh
  rw [List.getD_eq_getElem?_getD, List.getElem?_map, (hp.at hi).1]
  simp only [Option.map_some, Option.getD_some, Int.toNat_natCast]
  rfl
theorem IsP.beh (hp : IsP n p) (hq : IsP n q) : IsP n (beh p q) := by
  refine ⟨by rw [beh_len, hp.len], fun x hx => ?_, ?_⟩
  · obtain ⟨y, hy, rfl⟩ := List.mem_map.mp hx
    obtain ⟨h0, h1⟩ := hp.bd y hy
    obtain ⟨e, hl⟩ := hq.at (i := y.toNat) (by omega)
    rw [List.getD_eq_getElem?_getD, e]
    simp only [Option.getD_some]
    omega
  · refine List.pairwise_map.mpr (hp.nd.imp_of_mem fun {a b} ha hb hne e => hne ?_)
    obtain ⟨a0, a1⟩ := hp.bd a ha
    obtain ⟨b0, b1⟩ := hp.bd b hb
    obtain ⟨ea, _⟩ := hq.at (i := a.toNat) (by omega)
    obtain ⟨eb, _⟩ := hq.at (i := b.toNat) (by omega)
    rw [List.getD_eq_getElem?_getD, List.getD_eq_getElem?_getD, ea, eb] at e
    simp only [Option.getD_some] at e
    have := hq.inj (i := a.toNat) (j := b.toNat) (by omega) (by omega) (by omega)
    omega
theorem beh_assoc (hp : IsP n p) (hq : IsP n q) (hr : IsP n r) : beh (beh p q) r = beh p (beh q r) :=
  ((hp.beh hq).beh hr).ext (hp.beh (hq.beh hr)) fun i hi => by
    rw [ev_beh (hp.beh hq) hi, ev_beh hp hi, ev_beh hp hi, ev_beh hq (hp.at hi).2]
theorem id_beh (hp : IsP n p) : beh (idp n) p = p := ((isP_id n).beh hp).ext hp fun i hi => by rw [ev_beh (isP_id n) hi, ev_id hi]
theorem beh_id (hp : IsP n p) : beh p (idp n) = p := (hp.beh (isP_id n)).ext hp fun i hi => by rw [ev_beh hp hi, ev_id (hp.at hi).2]
theorem bk_at (hp : IsP n p) {j : Nat} (hj : j < n) : (bk p)[j]? = some ((p.idxOf ((j : Nat) : Int) : Nat) : Int) ∧ p.idxOf ((j : Nat) : Int) < n := by
  refine ⟨?_, ?_⟩
  · unfold bk
    rw [List.getElem?_map, List.getElem?_range (by rw [hp.len]; exact hj)]
    rfl
  · have := List.idxOf_lt_length_of_mem (hp.surj (x := (j : Int)) (by omega) (by omega))
    rw [hp.len] at this
    exact this
theorem ev_bk (hp : IsP n p) {j : Nat} (hj : j < n) : ev (bk p) j = p.idxOf ((j : Nat) : Int) := by
  unfold ev
  rw [List.getD_eq_getElem?_getD, (bk_at hp hj).1]
  simp
theorem ev_bk_r (hp : IsP n p) {j : Nat} (hj : j < n) : ev p (ev (bk p) j) = j := by
  rw [ev_bk hp hj]
  have hm := hp.surj (x := (j : Int)) (by omega) (by omega)
  have hl := List.idxOf_lt_length_of_mem hm
  unfold ev
  rw [List.getD_eq_getElem?_getD, List.getElem?_eq_getElem hl, List.getElem_idxOf hl]
  simp
theorem isP_bk (hp : IsP n p) : IsP n (bk p) := by
  refine ⟨by simp [bk, hp.len], fun x hx => ?_, ?_⟩
  · obtain ⟨i, hi⟩ := List.getElem?_of_mem hx
    have hl := (List.getElem?_eq_some_iff.mp hi).1
    have hl : i < n := by simpa [bk, hp.len] using hl
    obtain ⟨e, h2⟩ := bk_at hp hl
    rw [hi] at e
    cases e
    omega
  · unfold bk
    refine List.pairwise_map.mpr (List.Pairwise.imp_of_mem (fun {a b} ha hb hne e => hne ?_) List.nodup_range)
    have ha := List.mem_range.mp ha
    have hb := List.mem_range.mp hb
    rw [hp.len] at ha hb
    have h1 := ev_bk_r hp ha
    have h2 := ev_bk_r hp hb
    rw [ev_bk hp ha] at h1
    rw [ev_bk hp hb] at h2
    have e : p.idxOf ((a : Nat) : Int) = p.idxOf ((b : Nat) : Int) := by omega
    rw [← h1, e, h2]
theorem ev_bk_l (hp : IsP n p) {j : Nat} (hj : j < n) : ev (bk p) (ev p j) = j :=
  hp.inj ((isP_bk hp).at (hp.at hj).2).2 hj (ev_bk_r hp (hp.at hj).2)
theorem beh_bk (hp : IsP n p) : beh p (bk p) = idp n := (hp.beh (isP_bk hp)).ext (isP_id n) fun i hi => by rw [ev_beh hp hi, ev_bk_l hp hi, ev_id hi]
theorem bk_beh (hp : IsP n p) : beh (bk p) p = idp n := ((isP_bk hp).beh hp).ext (isP_id n) fun i hi => by rw [ev_beh (isP_bk hp) hi, ev_bk_r hp hi, ev_id hi]
/-- what undoes p is bk p -/
theorem bk_of (hp : IsP n p) (hq : IsP n q) (h : ∀ i, i < n → ev q (ev p i) = i) : q = bk p := hq.ext (isP_bk hp) fun j hj => by
  have e := ev_bk_r hp hj
  have hl := ((isP_bk hp).at hj).2
  have := h _ hl
  rw [e] at this
  exact this
theorem cancel_r (hp : IsP n p) (hq : IsP n q) (hr : IsP n r) (e : beh p r = beh q r) : p = q := by
  have this : beh (beh p r) (bk r) = beh (beh q r) (bk r) := by rw [e]
  rwa [beh_assoc hp hr (isP_bk hr), beh_assoc hq hr (isP_bk hr), beh_bk hr, beh_id hp, beh_id hq] at this
theorem cancel_l (hp : IsP n p) (hq : IsP n q) (hr : IsP n r) (e : beh r p = beh r q) : p = q := by
  have this : beh (bk r) (beh r p) = beh (bk r) (beh r q) := by rw [e]
  rwa [← beh_assoc (isP_bk hr) hr hp, ← beh_assoc (isP_bk hr) hr hq, bk_beh hr, id_beh hp, id_beh hq] at this
end
end Rf
namespace Rf
set_option autoImplicit false
open PySem L2

/-! ### what turns make -/
inductive Cl (n : Nat) (gs : List Row) : Row → Prop where
  | one : Cl n gs (idp n)
  | mul {x g : Row} : Cl n gs x → g ∈ gs → Cl n gs (beh x g)
/-- all of them at once, closed -/
structure Grp (n : Nat) (L : List Row) : Prop where
  nd : L.Nodup
  ps : ∀ x ∈ L, IsP n x
  one : idp n ∈ L
  mul : ∀ x ∈ L, ∀ y ∈ L, beh x y ∈ L
structure SpanOf (n : Nat) (gs L : List Row) : Prop where
  nd : L.Nodup
  od : L.Pairwise fun a b => leL a b = true
  mem : ∀ x, x ∈ L ↔ Cl n gs x
section
variable {n : Nat} {gs L M G H K : List Row} {x y g : Row}
theorem perm_of_mem {a b : List Row} (ha : a.Nodup) (hb : b.Nodup) (h : ∀ x, x ∈ a ↔ x ∈ b) : a.Perm b := (List.perm_ext_iff_of_nodup ha hb).mpr h
theorem SpanOf.eq (a : SpanOf n gs L) (b : SpanOf n gs M) : L = M := ord_eq (perm_of_mem a.nd b.nd fun x => (a.mem x).trans (b.mem x).symm) a.od b.od
theorem Cl.isP (hg : ∀ g ∈ gs, IsP n g) (h : Cl n gs x) : IsP n x := by
  induction h with
  | one => exact isP_id n
  | mul _ hm ih => exact ih.beh (hg _ hm)
theorem Cl.gen (hg : ∀ g ∈ gs, IsP n g) (h : g ∈ gs) : Cl n gs g := by
  have := Cl.mul (.one (n := n) (gs := gs)) h
  rwa [id_beh (hg g h)] at this
theorem Cl.mulC (hg : ∀ g ∈ gs, IsP n g) (h : Cl n gs x) (k : Cl n gs y) : Cl n gs (beh x y) := by
  induction k with
  | one => rw [beh_id (h.isP hg)]; exact h
  | mul hy hm ih =>
    rw [← beh_assoc (h.isP hg) (hy.isP hg) (hg _ hm)]
    exact .mul ih hm
theorem Cl.sub {hs : List Row} (hh : ∀ g ∈ hs, IsP n g) (s : ∀ g ∈ gs, Cl n hs g) (h : Cl n gs x) : Cl n hs x := by
  induction h with
  | one => exact .one
  | mul _ hm ih => exact ih.mulC hh (s _ hm)
theorem Grp.cl (G0 : Grp n G) (s : ∀ g ∈ gs, g ∈ G) (h : Cl n gs x) : x ∈ G := by
  induction h with
  | one => exact G0.one
  | mul _ hm ih => exact G0.mul _ ih _ (s _ hm)
theorem SpanOf.grp (hg : ∀ g ∈ gs, IsP n g) (a : SpanOf n gs L) : Grp n L :=
  ⟨a.nd, fun x hx => ((a.mem x).mp hx).isP hg, (a.mem _).mpr .one, fun x hx y hy => (a.mem _).mpr (((a.mem x).mp hx).mulC hg ((a.mem y).mp hy))⟩
/-- the span inside of a closed list -/
noncomputable def clo (W : List Row) (n : Nat) (gs : List Row) : List Row := srt (W.filter fun x => @decide (Cl n gs x) (Classical.propDecidable _))
theorem clo_span (G0 : Grp n G) (s : ∀ g ∈ gs, g ∈ G) : SpanOf n gs (clo G n gs) := by
  refine ⟨(srt_perm _).nodup_iff.mpr (G0.nd.filter _), srt_ord _, fun x => ?_⟩
  unfold clo
  rw [(srt_perm _).mem_iff, List.mem_filter]
  exact ⟨fun h => @of_decide_eq_true _ (Classical.propDecidable _) h.2, fun h => ⟨G0.cl s h, @decide_eq_true _ (Classical.propDecidable _) h⟩⟩
theorem SpanOf.le (a : SpanOf n gs L) (G0 : Grp n G) (s : ∀ g ∈ gs, g ∈ G) : L.length ≤ G.length := nodup_len a.nd fun x hx => G0.cl s ((a.mem x).mp hx)
/-- a map into itself that is one to one meets all -/
theorem onto {f : Row → Row} (nd : L.Nodup) (hf : ∀ x ∈ L, f x ∈ L) (inj : ∀ x ∈ L, ∀ y ∈ L, f x = f y → x = y) (hy : y ∈ L) : ∃ x ∈ L, f x = y := by
  refine Classical.byContradiction fun hc => ?_
  have nm : (L.map f).Nodup := List.pairwise_map.mpr (nd.imp_of_mem fun {a b} ha hb hne e => hne (inj a ha b hb e))
  have := nodup_len (l := L.map f) (m := L.erase y) nm fun z hz => by
    obtain ⟨x, hx, rfl⟩ := List.mem_map.mp hz
    exact (List.mem_erase_of_ne fun e => hc ⟨x, hx, e⟩).mpr (hf x hx)
  rw [List.length_map, List.length_erase_of_mem hy] at this
  have := List.length_pos_of_mem hy
  omega
theorem Grp.inv (G0 : Grp n G) (hx : x ∈ G) : bk x ∈ G := by
  have px := G0.ps x hx
  obtain ⟨z, hz, e⟩ := onto (f := fun z => beh z x) G0.nd (fun z hz => G0.mul z hz x hx) (fun a ha b hb e => cancel_r (G0.ps a ha) (G0.ps b hb) px e) G0.one
  have : z = bk x := cancel_r (G0.ps z hz) (isP_bk px) px (e.trans (bk_beh px).symm)
  exact this ▸ hz
theorem coset_nd (H0 : Grp n H) (px : IsP n x) : (H.map fun h => beh h x).Nodup := List.pairwise_map.mpr (H0.nd.imp_of_mem fun {a b} ha hb hne e => hne (cancel_r (H0.ps a ha) (H0.ps b hb) px e))
theorem half (G0 : Grp n G) (H0 : Grp n H) (s : ∀ h ∈ H, h ∈ G) (hx : x ∈ G) (hn : x ∉ H) : 2 * H.length ≤ G.length := by
  have px := G0.ps x hx
  have nd : (H ++ H.map fun h => beh h x).Nodup := by
    refine List.nodup_append.mpr ⟨H0.nd, coset_nd H0 px, fun a ha b hb e => hn ?_⟩
    obtain ⟨h, hh, rfl⟩ := List.mem_map.mp hb
    have := H0.mul _ (H0.inv hh) _ ha
    rwa [e, ← beh_assoc (isP_bk (H0.ps h hh)) (H0.ps h hh) px, bk_beh (H0.ps h hh), id_beh px] at this
  have := nodup_len nd (m := G) fun z hz => by
    rcases List.mem_append.mp hz with z1 | z1
    · exact s z z1
    · obtain ⟨h, hh, rfl⟩ := List.mem_map.mp z1
      exact G0.mul _ (s h hh) _ hx
  rw [List.length_append, List.length_map] at this
  omega
theorem fil_len {α : Type} {l : List α} (p : α → Bool) : l.length = (l.filter p).length + (l.filter fun x => !p x).length := by
  induction l with
  | nil => rfl
  | cons a l ih =>
    rw [List.filter_cons, List.filter_cons]
    cases p a <;> simp <;> omega
theorem lagr (H0 : Grp n H) : ∀ (k : Nat) (M : List Row), M.length = k → M.Nodup → (∀ x ∈ M, IsP n x) → (∀ h ∈ H, ∀ x ∈ M, beh h x ∈ M) → H.length ∣ M.length := by
  intro k
  induction k using Nat.strongRecOn with
  | ind k ih =>
    intro M hk nd ps cl
    cases M with
    | nil => exact Nat.dvd_zero _
    | cons x M' =>
      have hx : x ∈ x :: M' := List.mem_cons_self
      have px := ps x hx
      have nC := coset_nd H0 px
      have hone : x ∈ H.map fun h => beh h x := List.mem_map.mpr ⟨idp n, H0.one, id_beh px⟩
      have e1 : ((x :: M').filter fun z => decide (z ∈ H.map fun h => beh h x)).length = H.length := by
        have := (perm_of_mem (nd.filter _) nC (a := (x :: M').filter fun z => decide (z ∈ H.map fun h => beh h x)) fun z => by
          rw [List.mem_filter, decide_eq_true_eq]
          exact ⟨fun h => h.2, fun h => ⟨by obtain ⟨t, ht, rfl⟩ := List.mem_map.mp h; exact cl t ht x hx, h⟩⟩).length_eq
        rwa [List.length_map] at this
      have e2 := fil_len (l := x :: M') fun z => decide (z ∈ H.map fun h => beh h x)
      have hpos : 0 < H.length := List.length_pos_of_mem H0.one
      have := ih ((x :: M').filter fun z => !decide (z ∈ H.map fun h => beh h x)).length (by rw [← hk, e2]; omega) _ rfl (nd.filter _) (fun z hz => ps z (List.mem_filter.mp hz).1) fun h hh z hz => by
        obtain ⟨z1, z2⟩ := List.mem_filter.mp hz
        refine List.mem_filter.mpr ⟨cl h hh z z1, ?_⟩
        have z2 : z ∉ H.map fun h => beh h x := by simpa using z2
        have : beh h z ∉ H.map fun h => beh h x := fun hc => z2 (by
          obtain ⟨t, ht, e⟩ := List.mem_map.mp hc
          refine List.mem_map.mpr ⟨beh (bk h) t, H0.mul _ (H0.inv hh) _ ht, ?_⟩
          have ph := H0.ps h hh
          have pz := ps z z1
          rw [beh_assoc (isP_bk ph) (H0.ps t ht) px]
          have e : beh t x = beh h z := e
          rw [e, ← beh_assoc (isP_bk ph) ph pz, bk_beh ph, id_beh pz])
        simp only [this, decide_false, Bool.not_false]
      rw [e2, e1]
      exact Nat.dvd_add (Nat.dvd_refl _) this
theorem Grp.dvd (G0 : Grp n G) (H0 : Grp n H) (s : ∀ h ∈ H, h ∈ G) : H.length ∣ G.length := lagr H0 _ G rfl G0.nd G0.ps fun h hh x hx => G0.mul _ (s h hh) _ hx
/-! ### swaps, and their series -/
def swp (x y : Row) : Row := beh (beh x y) (beh (bk x) (bk y))
theorem isP_swp (px : IsP n x) (py : IsP n y) : IsP n (swp x y) := (px.beh py).beh ((isP_bk px).beh (isP_bk py))
theorem Grp.swp (G0 : Grp n G) (hx : x ∈ G) (hy : y ∈ G) : swp x y ∈ G := G0.mul _ (G0.mul _ hx _ hy) _ (G0.mul _ (G0.inv hx) _ (G0.inv hy))
def swaps (H K : List Row) : List Row := (H.map fun x => K.map fun y => Rf.swp x y).flatten
theorem mem_swaps {z : Row} : z ∈ swaps H K ↔ ∃ x ∈ H, ∃ y ∈ K, Rf.swp x y = z := by
  unfold swaps
  rw [List.mem_flatten]
  constructor
  · rintro ⟨l, hl, hz⟩
    obtain ⟨x, hx, rfl⟩ := List.mem_map.mp hl
    obtain ⟨y, hy, e⟩ := List.mem_map.mp hz
    exact ⟨x, hx, y, hy, e⟩
  · rintro ⟨x, hx, y, hy, e⟩
    exact ⟨_, List.mem_map.mpr ⟨x, hx, rfl⟩, List.mem_map.mpr ⟨y, hy, e⟩⟩
end
end Rf
namespace Rf
set_option autoImplicit false
open PySem L2

/-! ### the series -/
noncomputable def nxt (W : List Row) (n : Nat) (all : Bool) (T : List Row) : List Row := clo W n (swaps T (if all then W else T))
noncomputable def ser (W : List Row) (n : Nat) (all : Bool) : Nat → List Row
  | 0 => W
  | k + 1 => nxt W n all (ser W n all k)
section
variable {n : Nat} {W T : List Row} {all : Bool}
theorem swaps_in {G H K : List Row} (G0 : Grp n G) (h : ∀ x ∈ H, x ∈ G) (k : ∀ x ∈ K, x ∈ G) : ∀ z ∈ swaps H K, z ∈ G := fun z hz => by
  obtain ⟨x, hx, y, hy, rfl⟩ := mem_swaps.mp hz
  exact G0.swp (h x hx) (k y hy)
theorem in_if (all : Bool) {W T : List Row} (s : ∀ x ∈ T, x ∈ W) : ∀ x ∈ (if all then W else T), x ∈ W := by
  intro x hx
  cases all <;> first | exact hx | exact s x hx
theorem in_if2 (all : Bool) {W T U : List Row} {b : Row} (s : ∀ x ∈ T, x ∈ U) (h : b ∈ (if all then W else T)) : b ∈ (if all then W else U) := by
  cases all <;> first | exact h | exact s b h
theorem nxt_span (W0 : Grp n W) (s : ∀ x ∈ T, x ∈ W) : SpanOf n (swaps T (if all then W else T)) (nxt W n all T) :=
  clo_span W0 (swaps_in W0 s (in_if all s))
theorem ser_in (W0 : Grp n W) : ∀ k, ∀ x ∈ ser W n all k, x ∈ W
  | 0, x, h => h
  | k + 1, x, h => W0.cl (swaps_in W0 (ser_in W0 k) (in_if all (ser_in W0 k))) (((nxt_span W0 (ser_in W0 k)).mem x).mp h)
theorem ser_span (W0 : Grp n W) (k : Nat) : SpanOf n (swaps (ser W n all k) (if all then W else ser W n all k)) (ser W n all (k + 1)) := nxt_span W0 (ser_in W0 k)
theorem ser_gen (W0 : Grp n W) (k : Nat) : ∀ z ∈ swaps (ser W n all k) (if all then W else ser W n all k), IsP n z := fun z hz => W0.ps z (swaps_in W0 (ser_in W0 k) (in_if all (ser_in W0 k)) z hz)
theorem ser_grp (W0 : Grp n W) : ∀ k, Grp n (ser W n all k)
  | 0 => W0
  | k + 1 => (ser_span W0 k).grp (ser_gen W0 k)
theorem ser_falls (W0 : Grp n W) : ∀ k, ∀ x ∈ ser W n all (k + 1), x ∈ ser W n all k
  | 0, x, h => ser_in W0 1 x h
  | k + 1, x, h => by
    have ih := ser_falls W0 k
    rw [(ser_span W0 (k + 1)).mem] at h
    rw [(ser_span W0 k).mem]
    refine Cl.sub (ser_gen W0 k) (fun g hg => Cl.gen (ser_gen W0 k) ?_) h
    obtain ⟨a, ha, b, hb, rfl⟩ := mem_swaps.mp hg
    exact mem_swaps.mpr ⟨a, ih a ha, b, in_if2 all ih hb, rfl⟩
theorem ser_od (W0 : Grp n W) (od : W.Pairwise fun a b => leL a b = true) : ∀ k, (ser W n all k).Pairwise fun a b => leL a b = true
  | 0 => od
  | k + 1 => (ser_span W0 k).od
theorem ser_drop (W0 : Grp n W) (od : W.Pairwise fun a b => leL a b = true) (k : Nat) (h : ser W n all (k + 1) ≠ ser W n all k) : 2 * (ser W n all (k + 1)).length ≤ (ser W n all k).length := by
  have ⟨x, hx, hn⟩ : ∃ x ∈ ser W n all k, x ∉ ser W n all (k + 1) := by
    refine Classical.byContradiction fun hc => h ?_
    refine ord_eq (perm_of_mem (ser_grp W0 _).nd (ser_grp W0 _).nd fun x => ⟨ser_falls W0 k x, fun hx => ?_⟩) (ser_od W0 od _) (ser_od W0 od _)
    exact Classical.byContradiction fun hn => hc ⟨x, hx, hn⟩
  exact half (ser_grp W0 k) (ser_grp W0 (k + 1)) (ser_falls W0 k) hx hn
theorem ser_stop (W0 : Grp n W) (od : W.Pairwise fun a b => leL a b = true) (hW : W.length ≤ 60) : ∃ m, m ≤ 6 ∧ ser W n all (m + 1) = ser W n all m ∧ ∀ k, k < m → ser W n all (k + 1) ≠ ser W n all k := by
  have key : ∀ k, (∃ m, m ≤ k ∧ ser W n all (m + 1) = ser W n all m ∧ ∀ j, j < m → ser W n all (j + 1) ≠ ser W n all j) ∨ ((∀ j, j ≤ k → ser W n all (j + 1) ≠ ser W n all j) ∧ 2 ^ (k + 1) * (ser W n all (k + 1)).length ≤ 60) := by
    intro k
    induction k with
    | zero =>
      by_cases h : ser W n all 1 = ser W n all 0
      · exact .inl ⟨0, Nat.le_refl _, h, fun j hj => by omega⟩
      · refine .inr ⟨fun j hj => ?_, ?_⟩
        · obtain rfl : j = 0 := by omega
          exact h
        · have := ser_drop W0 od 0 h
          have e : ser W n all 0 = W := rfl
          rw [e] at this
          simpa using Nat.le_trans this hW
    | succ k ih =>
      rcases ih with ⟨m, h1, h2⟩ | ⟨h1, h2⟩
      · exact .inl ⟨m, by omega, h2⟩
      by_cases h : ser W n all (k + 1 + 1) = ser W n all (k + 1)
      · exact .inl ⟨k + 1, Nat.le_refl _, h, fun j hj => h1 j (by omega)⟩
      · refine .inr ⟨fun j hj => ?_, ?_⟩
        · by_cases hj2 : j ≤ k
          · exact h1 j hj2
          · obtain rfl : j = k + 1 := by omega
            exact h
        · have := ser_drop W0 od (k + 1) h
          have e : 2 ^ (k + 1 + 1) * (ser W n all (k + 1 + 1)).length = 2 ^ (k + 1) * (2 * (ser W n all (k + 1 + 1)).length) := by rw [Nat.pow_succ, Nat.mul_assoc]
          rw [e]
          exact Nat.le_trans (Nat.mul_le_mul_left _ this) h2
  rcases key 6 with h | ⟨_, h⟩
  · exact h
  · have := List.length_pos_of_mem (ser_grp (all := all) W0 7).one
    have : 2 ^ 7 * 1 ≤ 2 ^ (6 + 1) * (ser W n all (6 + 1)).length := Nat.mul_le_mul_left _ this
    omega
end
end Rf
namespace Sd
open PySem L2 Rf
def b__law_alike (r__law_alike : FM) : SM :=
    (sq (ifS (tst (isi2M .tup .lst (vr 1)))
    (sq (ifS (orT (notT (tst (isi2M .tup .lst (vr 0)))) (tst (b2 neM (isiM .lst (vr 0)) (isiM .lst (vr 1)))))
    (retM (cst (.bl false)))
    nextM)
    (sq (ifS (tst (b2 neM (callM lenM2 (consA (vr 0) nilA)) (callM lenM2 (consA (vr 1) nilA))))
    (retM (cst (.bl false)))
    nextM)
    (retM (b2 eqM (fz (lcM (itR1 (consA (callM lenM2 (consA (vr 1) nilA)) nilA)) (.nm 2) (notT (tst (callM r__law_alike (consA (b2 ixM2 (vr 0) (vr 2)) (consA (b2 ixM2 (vr 1) (vr 2)) nilA))))) (vr 2) [2])) (fz (disp nilA))))))
    nextM)
    (sq (ifS (orT (tst (b2 isNM (vr 1) (cst .non))) (tst (isiM .str (vr 1))))
    (retM (andV (b2 eqM (vr 0) (vr 1)) (b2 eqM (isiM .str (vr 0)) (isiM .str (vr 1)))))
    nextM)
    (retM (andV (isiM .int (vr 0)) (andV (b2 eqM (isiM .bl (vr 0)) (isiM .bl (vr 1))) (b2 eqM (vr 0) (vr 1)))))))
def S__law_alike : Nat → FM
  | 0 => (dfM 2 3 (fun _ _ => .fail))
  | n + 1 => (dfM 2 3 (b__law_alike (S__law_alike n)))
def F__law_alike (n : Nat) : FM := (S__law_alike n)
def b__law_behind : SM :=
    (retM (callM tupOf (consA (fz (lcM (itA (vr 0)) (.nm 2) yesM (b2 ixM2 (vr 1) (vr 2)) [2])) nilA)))
def m__law_behind : FM := dfM 2 3 b__law_behind
def b__law_is : SM :=
    (retM (andV (isiM .bl (vr 0)) (b2 eqM (vr 0) (vr 1))))
def m__law_is : FM := dfM 2 2 b__law_is
def b__law_taken : SM :=
    (sq (ifS (tst (b2 gtM (b2 ixM2 (vr 0) (cst (.int 3))) (cst (.int 0))))
    (sq (setM 2 (b2 modM (callM intOf (consA (b2 ixM2 (vr 0) (cst (.int 3))) nilA)) (vr 1)))
    (sq (setAt (b2 fdivM (b2 ixM2 (vr 0) (cst (.int 3))) (vr 1)) (vr 0) (cst (.int 3)))
    (retM (vr 2))))
    nextM)
    (sq (setAt (b2 plusM (b2 ixM2 (vr 0) (cst (.int 1))) (cst (.int 1))) (vr 0) (cst (.int 1)))
    (sq (ifS (tst (b2 gtM (b2 ixM2 (vr 0) (cst (.int 1))) (callM lenM2 (consA (b2 ixM2 (vr 0) (cst (.int 0))) nilA))))
    (sq (setAt (b2 modM (callM intOf (consA (b2 plusM (b2 timesM (b2 ixM2 (vr 0) (cst (.int 2))) (cst (.int 48271))) (cst (.int 11))) nilA)) (cst (.int 2147483647))) (vr 0) (cst (.int 2)))
    (retM (b2 modM (callM intOf (consA (b2 fdivM (b2 ixM2 (vr 0) (cst (.int 2))) (cst (.int 7))) nilA)) (vr 1))))
    nextM)
    (sq (setM 3 (b2 ixM2 (b2 ixM2 (vr 0) (cst (.int 0))) (b2 subM (b2 ixM2 (vr 0) (cst (.int 1))) (cst (.int 1)))))
    (sq (setAt (b2 modM (callM intOf (consA (b2 plusM (b2 plusM (b2 timesM (b2 ixM2 (vr 0) (cst (.int 2))) (cst (.int 48271))) (vr 3)) (cst (.int 11))) nilA)) (cst (.int 2147483647))) (vr 0) (cst (.int 2)))
    (sq (ifS (tst (b2 geM (vr 3) (b2 powM (cst (.int 10)) (cst (.int 18)))))
    (setAt (b2 fdivM (vr 3) (vr 1)) (vr 0) (cst (.int 3)))
    nextM)
    (retM (b2 modM (callM intOf (consA (vr 3) nilA)) (vr 1)))))))))
def m__law_taken : FM := dfM 2 4 b__law_taken
def b__law_permutation : SM :=
    (sq (parM 2 3 (consA (al (rgM (vr 1))) (consA (al (disp nilA)) nilA)))
    (sq (forM (itR1 (consA (vr 1) nilA)) (.nm 4)
    (exprM (appM (vr 3) (popM (vr 2) (callM m__law_taken (consA (vr 0) (consA (callM lenM2 (consA (vr 2) nilA)) nilA)))))))
    (retM (callM tupOf (consA (vr 3) nilA)))))
def m__law_permutation : FM := dfM 2 5 b__law_permutation
def b__law_pick : SM :=
    (retM (b2 ixM2 (vr 1) (callM m__law_taken (consA (vr 0) (consA (callM lenM2 (consA (vr 1) nilA)) nilA)))))
def m__law_pick : FM := dfM 2 2 b__law_pick
def b__law_known : SM :=
    (sq (setM 2 (dctK (consA (cst (.str "four")) (consA (tupM (consA (tupM (consA (cst (.int 1)) (consA (cst (.int 2)) (consA (cst (.int 3)) (consA (cst (.int 0)) nilA))))) nilA)) (consA (cst (.str "klein")) (consA (tupM (consA (tupM (consA (cst (.int 1)) (consA (cst (.int 0)) (consA (cst (.int 3)) (consA (cst (.int 2)) nilA))))) (consA (tupM (consA (cst (.int 2)) (consA (cst (.int 3)) (consA (cst (.int 0)) (consA (cst (.int 1)) nilA))))) nilA))) (consA (cst (.str "square")) (consA (tupM (consA (tupM (consA (cst (.int 1)) (consA (cst (.int 2)) (consA (cst (.int 3)) (consA (cst (.int 0)) nilA))))) (consA (tupM (consA (cst (.int 3)) (consA (cst (.int 2)) (consA (cst (.int 1)) (consA (cst (.int 0)) nilA))))) nilA))) (consA (cst (.str "cube")) (consA (tupM (consA (tupM (consA (cst (.int 1)) (consA (cst (.int 0)) (consA (cst (.int 2)) (consA (cst (.int 3)) (consA (cst (.int 4)) (consA (cst (.int 5)) nilA))))))) (consA (tupM (consA (cst (.int 0)) (consA (cst (.int 1)) (consA (cst (.int 3)) (consA (cst (.int 2)) (consA (cst (.int 4)) (consA (cst (.int 5)) nilA))))))) (consA (tupM (consA (cst (.int 0)) (consA (cst (.int 1)) (consA (cst (.int 2)) (consA (cst (.int 3)) (consA (cst (.int 5)) (consA (cst (.int 4)) nilA))))))) nilA)))) (consA (cst (.str "eight")) (consA (tupM (consA (tupM (consA (cst (.int 1)) (consA (cst (.int 2)) (consA (cst (.int 3)) (consA (cst (.int 4)) (consA (cst (.int 5)) (consA (cst (.int 6)) (consA (cst (.int 7)) (consA (cst (.int 0)) nilA))))))))) nilA)) (consA (cst (.str "nine")) (consA (tupM (consA (tupM (consA (cst (.int 1)) (consA (cst (.int 2)) (consA (cst (.int 3)) (consA (cst (.int 4)) (consA (cst (.int 5)) (consA (cst (.int 6)) (consA (cst (.int 7)) (consA (cst (.int 8)) (consA (cst (.int 0)) nilA)))))))))) nilA)) (consA (cst (.str "quaternions")) (consA (tupM (consA (tupM (consA (cst (.int 1)) (consA (cst (.int 2)) (consA (cst (.int 3)) (consA (cst (.int 0)) (consA (cst (.int 5)) (consA (cst (.int 6)) (consA (cst (.int 7)) (consA (cst (.int 4)) nilA))))))))) (consA (tupM (consA (cst (.int 4)) (consA (cst (.int 7)) (consA (cst (.int 6)) (consA (cst (.int 5)) (consA (cst (.int 2)) (consA (cst (.int 1)) (consA (cst (.int 0)) (consA (cst (.int 3)) nilA))))))))) nilA))) (consA (cst (.str "threes")) (consA (tupM (consA (tupM (consA (cst (.int 1)) (consA (cst (.int 2)) (consA (cst (.int 0)) (consA (cst (.int 3)) (consA (cst (.int 4)) (consA (cst (.int 5)) nilA))))))) (consA (tupM (consA (cst (.int 0)) (consA (cst (.int 1)) (consA (cst (.int 2)) (consA (cst (.int 4)) (consA (cst (.int 5)) (consA (cst (.int 3)) nilA))))))) nilA))) (consA (cst (.str "three")) (consA (tupM (consA (tupM (consA (cst (.int 1)) (consA (cst (.int 2)) (consA (cst (.int 0)) nilA)))) (consA (tupM (consA (cst (.int 1)) (consA (cst (.int 0)) (consA (cst (.int 2)) nilA)))) nilA))) (consA (cst (.str "tetra")) (consA (tupM (consA (tupM (consA (cst (.int 1)) (consA (cst (.int 2)) (consA (cst (.int 0)) (consA (cst (.int 3)) nilA))))) (consA (tupM (consA (cst (.int 1)) (consA (cst (.int 0)) (consA (cst (.int 3)) (consA (cst (.int 2)) nilA))))) nilA))) (consA (cst (.str "six")) (consA (tupM (consA (tupM (consA (cst (.int 1)) (consA (cst (.int 2)) (consA (cst (.int 0)) (consA (cst (.int 3)) (consA (cst (.int 4)) nilA)))))) (consA (tupM (consA (cst (.int 0)) (consA (cst (.int 1)) (consA (cst (.int 2)) (consA (cst (.int 4)) (consA (cst (.int 3)) nilA)))))) nilA))) (consA (cst (.str "heis")) (consA (tupM (consA (tupM (consA (cst (.int 3)) (consA (cst (.int 4)) (consA (cst (.int 5)) (consA (cst (.int 6)) (consA (cst (.int 7)) (consA (cst (.int 8)) (consA (cst (.int 0)) (consA (cst (.int 1)) (consA (cst (.int 2)) nilA)))))))))) (consA (tupM (consA (cst (.int 0)) (consA (cst (.int 1)) (consA (cst (.int 2)) (consA (cst (.int 4)) (consA (cst (.int 5)) (consA (cst (.int 3)) (consA (cst (.int 8)) (consA (cst (.int 6)) (consA (cst (.int 7)) nilA)))))))))) nilA))) (consA (cst (.str "five")) (consA (tupM (consA (tupM (consA (cst (.int 1)) (consA (cst (.int 2)) (consA (cst (.int 3)) (consA (cst (.int 4)) (consA (cst (.int 0)) nilA)))))) (consA (tupM (consA (cst (.int 1)) (consA (cst (.int 2)) (consA (cst (.int 0)) (consA (cst (.int 3)) (consA (cst (.int 4)) nilA)))))) nilA))) (consA (cst (.str "whole")) (consA (tupM (consA (tupM (consA (cst (.int 1)) (consA (cst (.int 2)) (consA (cst (.int 3)) (consA (cst (.int 0)) nilA))))) (consA (tupM (consA (cst (.int 1)) (consA (cst (.int 0)) (consA (cst (.int 2)) (consA (cst (.int 3)) nilA))))) nilA))) (consA (cst (.str "ten")) (consA (tupM (consA (tupM (consA (cst (.int 1)) (consA (cst (.int 2)) (consA (cst (.int 3)) (consA (cst (.int 4)) (consA (cst (.int 0)) nilA)))))) (consA (tupM (consA (cst (.int 0)) (consA (cst (.int 4)) (consA (cst (.int 3)) (consA (cst (.int 2)) (consA (cst (.int 1)) nilA)))))) nilA))) nilA))))))))))))))))))))))))))))))))
    (sq (setM 3 (b2 ixM2 (vr 2) (callM m__law_pick (consA (vr 0) (consA (vr 1) nilA)))))
    (sq (setM 4 (callM m__law_permutation (consA (vr 0) (consA (callM lenM2 (consA (b2 ixM2 (vr 3) (cst (.int 0))) nilA)) nilA))))
    (sq (setM 5 (al (disp nilA)))
    (sq (forM (itA (vr 3)) (.nm 6)
    (sq (setM 7 (al (repL (fz (disp (consA (cst (.int 0)) nilA))) (callM lenM2 (consA (vr 6) nilA)))))
    (sq (forM (itE2 (vr 6)) (.tp [(.nm 8), (.nm 9)])
    (setAt (b2 ixM2 (vr 4) (vr 9)) (vr 7) (b2 ixM2 (vr 4) (vr 8))))
    (exprM (appM (vr 5) (callM tupOf (consA (vr 7) nilA)))))))
    (retM (callM tupOf (consA (vr 5) nilA))))))))
def m__law_known : FM := dfM 2 10 b__law_known
def b__law_lock : SM :=
    (sq (ifS (tst (b2 gtM (callM m__law_taken (consA (vr 0) (consA (cst (.int 3)) nilA))) (cst (.int 0))))
    (retM (callM m__law_known (consA (vr 0) (consA (vr 1) nilA))))
    nextM)
    (sq (setM 2 (b2 plusM (cst (.int 2)) (callM m__law_taken (consA (vr 0) (consA (cst (.int 3)) nilA)))))
    (retM (callM tupOf (consA (fz (lcM (itR1 (consA (b2 plusM (cst (.int 1)) (callM m__law_taken (consA (vr 0) (consA (cst (.int 2)) nilA)))) nilA)) (.nm 3) yesM (callM m__law_permutation (consA (vr 0) (consA (vr 2) nilA))) [3])) nilA)))))
def m__law_lock : FM := dfM 2 4 b__law_lock
def b__law_span : SM :=
    (sq (setM 2 (al (disp (consA (trgM (vr 0)) nilA))))
    (sq (forM (itR1 (consA (cst (.int 300)) nilA)) (.nm 3)
    (forM (itA (s3 sliceM (vr 2) (onO (vr 3)) (onO (b2 plusM (vr 3) (cst (.int 1)))))) (.nm 4)
    (sq (setM 5 (fz (lcM (itA (vr 1)) (.nm 6) yesM (callM m__law_behind (consA (vr 4) (consA (vr 6) nilA))) [6])))
    (setM 2 (b2 plusM (vr 2) (fz (lcM (itA (srtSet (vr 5))) (.nm 6) (tst (b2 ninM2 (vr 6) (vr 2))) (vr 6) [6])))))))
    (retM (callM srtM (consA (vr 2) nilA)))))
def m__law_span : FM := dfM 2 7 b__law_span
def b__law_back : SM :=
    (retM (callM tupOf (consA (fz (lcM (itR1 (consA (callM lenM2 (consA (vr 0) nilA)) nilA)) (.nm 1) yesM (tidxM (vr 0) (vr 1)) [1])) nilA)))
def m__law_back : FM := dfM 1 2 b__law_back
def b__law_swap : SM :=
    (retM (callM m__law_behind (consA (callM m__law_behind (consA (vr 0) (consA (vr 1) nilA))) (consA (callM m__law_behind (consA (callM m__law_back (consA (vr 0) nilA)) (consA (callM m__law_back (consA (vr 1) nilA)) nilA))) nilA))))
def m__law_swap : FM := dfM 2 2 b__law_swap
def b__law_terms : SM :=
    (sq (setM 2 (callM lenM2 (consA (b2 ixM2 (vr 0) (cst (.int 0))) nilA)))
    (sq (setM 3 (callM m__law_span (consA (vr 2) (consA (vr 0) nilA))))
    (sq (setM 4 (al (disp (consA (vr 3) nilA))))
    (sq (forM (itR1 (consA (cst (.int 9)) nilA)) (.nm 5)
    (sq (setM 6 (fz (disp nilA)))
    (sq (forM (itA (b2 ixM2 (vr 4) (negM (cst (.int 1))))) (.nm 7)
    (setM 6 (b2 plusM (vr 6) (fz (lcM (itA (ifM (truT (vr 1)) (vr 3) (b2 ixM2 (vr 4) (negM (cst (.int 1)))))) (.nm 9) yesM (callM m__law_swap (consA (vr 7) (consA (vr 9) nilA))) [9])))))
    (sq (setM 8 (callM m__law_span (consA (vr 2) (consA (srtSet (vr 6)) nilA))))
    (sq (ifS (tst (b2 eqM (vr 8) (b2 ixM2 (vr 4) (negM (cst (.int 1))))))
    (retM (vr 4))
    nextM)
    (exprM (appM (vr 4) (vr 8))))))))
    (retM (vr 4))))))
def m__law_terms : FM := dfM 2 10 b__law_terms
def b_behind : SM :=
    (retM (callM tupOf (consA (fz (lcM (itA (vr 0)) (.nm 2) yesM (b2 ixM2 (vr 1) (vr 2)) [2])) nilA)))
def m_behind : FM := dfM 2 3 b_behind
def b_is_number : SM :=
    (retM (andV (isiM .int (vr 0)) (andV (notV (isiM .bl (vr 0))) (chM leM leM (vr 1) (vr 0) (vr 2)))))
def m_is_number : FM := dfM 3 3 b_is_number
def b_is_turn (ti : Nat) : SM :=
    (sq (ifS (orT (notT (tst (isiM .tup (vr 1)))) (tst (b2 neM (callM lenM2 (consA (vr 1) nilA)) (vr 0))))
    (retM (cst (.bl false)))
    nextM)
    (retM (andV (allM true ti (("is_turn", none) : Str × Option Str) (itA (vr 1)) (.nm 2) yesM (callM m_is_number (consA (vr 2) (consA (cst (.int 0)) (consA (b2 subM (vr 0) (cst (.int 1))) nilA)))) [2]) (b2 eqM (lenSet (vr 1)) (vr 0)))))
def m_is_turn (ti : Nat) : FM := dfM 2 3 (b_is_turn ti)
def b_still : SM :=
    (retM (trgM (vr 0)))
def m_still : FM := dfM 1 1 b_still
def b_spanned : SM :=
    (sq (parM 2 3 (consA (dctN (callM m_still (consA (vr 0) nilA)) (cst (.bl true))) (consA (fz (disp (consA (callM m_still (consA (vr 0) nilA)) nilA))) nilA)))
    (sq (whGo (truT (vr 3))
    (sq (setM 4 (al (disp nilA)))
    (sq (forM (itA (vr 3)) (.nm 5)
    (forM (itA (vr 1)) (.nm 6)
    (sq (setM 7 (callM m_behind (consA (vr 5) (consA (vr 6) nilA))))
    (ifS (tst (b2 ninM2 (vr 7) (vr 2)))
    (sq (setAt (cst (.bl true)) (vr 2) (vr 7))
    (exprM (appM (vr 4) (vr 7))))
    nextM))))
    (sq (ifS (tst (b2 gtM (callM lenM2 (consA (vr 2) nilA)) (cst (.int 240))))
    (raise1 "TooMany" "most" (consA (cst (.int 240)) nilA))
    nextM)
    (setM 3 (vr 4))))) 1000)
    (retM (callM srtM (consA (vr 2) nilA)))))
def m_spanned : FM := dfM 2 8 b_spanned
def b_turns_of : SM :=
    (retM (callM m_spanned (consA (callM lenM2 (consA (b2 ixM2 (vr 0) (cst (.int 0))) nilA)) (consA (vr 0) nilA))))
def m_turns_of : FM := dfM 1 1 b_turns_of
def b_need_lock (ti : Nat) : SM :=
    (sq (ifS (orT (notT (tst (isiM .tup (vr 0)))) (notT (tst (chM leM leM (cst (.int 1)) (callM lenM2 (consA (vr 0) nilA)) (cst (.int 4))))))
    (raise1 "BadLock" "place" (consA (cst .non) nilA))
    nextM)
    (sq (ifS (orT (notT (tst (isiM .tup (b2 ixM2 (vr 0) (cst (.int 0)))))) (notT (tst (chM leM leM (cst (.int 2)) (callM lenM2 (consA (b2 ixM2 (vr 0) (cst (.int 0))) nilA)) (cst (.int 9))))))
    (raise1 "BadLock" "place" (consA (cst (.int 0)) nilA))
    nextM)
    (sq (forM (itE2 (vr 0)) (.tp [(.nm 1), (.nm 2)])
    (ifS (notT (tst (callM (m_is_turn ti) (consA (callM lenM2 (consA (b2 ixM2 (vr 0) (cst (.int 0))) nilA)) (consA (vr 2) nilA)))))
    (raise1 "BadLock" "place" (consA (vr 1) nilA))
    nextM))
    (exprM (callM m_turns_of (consA (vr 0) nilA))))))
def m_need_lock (ti : Nat) : FM := dfM 1 3 (b_need_lock ti)
def b_back : SM :=
    (sq (setM 1 (al (repL (fz (disp (consA (cst (.int 0)) nilA))) (callM lenM2 (consA (vr 0) nilA)))))
    (sq (forM (itE2 (vr 0)) (.tp [(.nm 2), (.nm 3)])
    (setAt (vr 2) (vr 1) (vr 3)))
    (retM (callM tupOf (consA (vr 1) nilA)))))
def m_back : FM := dfM 1 4 b_back
def b_product : SM :=
    (sq (setM 2 (callM m_still (consA (vr 0) nilA)))
    (sq (forM (itA (vr 1)) (.nm 3)
    (setM 2 (callM m_behind (consA (vr 2) (consA (vr 3) nilA)))))
    (retM (vr 2))))
def m_product : FM := dfM 2 4 b_product
def b_swap_of : SM :=
    (retM (callM m_product (consA (callM lenM2 (consA (vr 0) nilA)) (consA (fz (disp (consA (vr 0) (consA (vr 1) (consA (callM m_back (consA (vr 0) nilA)) (consA (callM m_back (consA (vr 1) nilA)) nilA)))))) nilA))))
def m_swap_of : FM := dfM 2 2 b_swap_of
def b_swaps_between : SM :=
    (retM (callM m_spanned (consA (vr 0) (consA (srtSet (fz (lcM2 (itA (vr 1)) (.nm 3) yesM (itA (vr 2)) (.nm 4) yesM (callM m_swap_of (consA (vr 3) (consA (vr 4) nilA))) [3, 4] [4]))) nilA))))
def m_swaps_between : FM := dfM 3 5 b_swaps_between
def b_derived_of : SM :=
    (sq (setM 1 (al (disp (consA (callM m_turns_of (consA (vr 0) nilA)) nilA))))
    (whGo (tst (cst (.bl true)))
    (sq (setM 2 (callM m_swaps_between (consA (callM lenM2 (consA (b2 ixM2 (vr 0) (cst (.int 0))) nilA)) (consA (b2 ixM2 (vr 1) (negM (cst (.int 1)))) (consA (b2 ixM2 (vr 1) (negM (cst (.int 1)))) nilA)))))
    (sq (ifS (tst (b2 eqM (vr 2) (b2 ixM2 (vr 1) (negM (cst (.int 1))))))
    (retM (vr 1))
    nextM)
    (exprM (appM (vr 1) (vr 2))))) 1000))
def m_derived_of : FM := dfM 1 3 b_derived_of
def b_lower_of : SM :=
    (sq (setM 1 (callM m_turns_of (consA (vr 0) nilA)))
    (sq (setM 2 (al (disp (consA (vr 1) nilA))))
    (whGo (tst (cst (.bl true)))
    (sq (setM 3 (callM m_swaps_between (consA (callM lenM2 (consA (b2 ixM2 (vr 0) (cst (.int 0))) nilA)) (consA (b2 ixM2 (vr 2) (negM (cst (.int 1)))) (consA (vr 1) nilA)))))
    (sq (ifS (tst (b2 eqM (vr 3) (b2 ixM2 (vr 2) (negM (cst (.int 1))))))
    (retM (vr 2))
    nextM)
    (exprM (appM (vr 2) (vr 3))))) 1000)))
def m_lower_of : FM := dfM 1 4 b_lower_of
def b_prime_of : SM :=
    (sq (setM 1 (callM lenM2 (consA (callM m_turns_of (consA (vr 0) nilA)) nilA)))
    (sq (forM (itR2 (consA (cst (.int 2)) (consA (b2 plusM (vr 1) (cst (.int 1))) nilA))) (.nm 2)
    (ifS (tst (b2 eqM (b2 modM (vr 1) (vr 2)) (cst (.int 0))))
    (sq (whGo (tst (b2 eqM (b2 modM (vr 1) (vr 2)) (cst (.int 0))))
    (augM 1 ifdivM (vr 2)) 1000)
    (retM (ifM (tst (b2 eqM (vr 1) (cst (.int 1)))) (vr 2) (cst .non))))
    nextM))
    (retM (cst .non))))
def m_prime_of : FM := dfM 1 3 b_prime_of
theorem F__law_alike_succ (n : Nat) : F__law_alike (n + 1) = dfM 2 3 (b__law_alike (F__law_alike n)) := rfl
theorem F__law_alike_zero : F__law_alike 0 = dfM 2 3 (fun _ _ => .fail) := rfl
end Sd
namespace Sd
set_option autoImplicit false
open PySem L2 Rf

/-! ### turns, one behind the other, undone, swapped -/
section
variable {n : Nat} {a b p : Row} (st : Store)
theorem at_p (hb : IsP n b) {x : Int} (h0 : 0 ≤ x) (h1 : x < n) : atI (b.map D.int) x = some (.int (b.getD x.toNat 0)) := by
  obtain ⟨e, _⟩ := hb.at (i := x.toNat) (by omega)
  have e2 : b.getD x.toNat 0 = ((ev b x.toNat : Nat) : Int) := by rw [List.getD_eq_getElem?_getD, e]; rfl
  have := atI_nat (xs := b.map D.int) (j := x.toNat) (x := .int ((ev b x.toNat : Nat) : Int)) (by rw [List.getElem?_map, e]; rfl)
  rw [e2, ← this]
  congr 1
  omega
def fb (b : Row) : D → D
  | .int i => .int (b.getD i.toNat 0)
  | d => d
theorem map_fb (a b : Row) : (a.map D.int).map (fb b) = (beh a b).map D.int := by
  unfold beh
  rw [List.map_map, List.map_map]
  rfl
theorem behind_ok (ha : IsP n a) (hb : IsP n b) (hn : n ≤ 1000) : m_behind [itup a, itup b] st = .ok (itup (beh a b)) st := by
  have h : lcM (itA (vr 0)) (.nm 2) yesM (b2 ixM2 (vr 1) (vr 2)) [2] [some (itup a), some (itup b), none] st = .ok ((a.map D.int).map (fb b)) st := by
    refine lcM_map (s := ⟨a.map D.int, none⟩) (by simp [itup]) (by simp [ha.len]; omega) rfl fun d hd => ?_
    obtain ⟨x, hx, rfl⟩ := List.mem_map.mp hd
    obtain ⟨h0, h1⟩ := ha.bd x hx
    refine ⟨_, rfl, ?_⟩
    have := at_p hb h0 h1
    simp [wipeD, itup, this, fb]
  rw [map_fb] at h
  simp [m_behind, b_behind, h, itup]
theorem law_behind_ok (ha : IsP n a) (hb : IsP n b) (hn : n ≤ 1000) : m__law_behind [itup a, itup b] st = .ok (itup (beh a b)) st := behind_ok st ha hb hn
theorem rngD_idp (n : Nat) : rngD 0 n = (idp n).map D.int := by
  rw [rngD_get]
  unfold idp
  rw [List.map_map]
  rfl
theorem trgK_ok (hn : n ≤ 1000) : trgK (.int n) st = .ok (itup (idp n)) st := by
  rw [trgK_nat st (by omega), rngD_idp] <;> rfl
theorem still_ok (hn : n ≤ 1000) : m_still [.int n] st = .ok (itup (idp n)) st := by
  simp [m_still, b_still, trgK_ok st hn]
/-- tuple.index of a number -/
theorem nks_int : ∀ l : List Int, nks (l.map D.int) = some (l.map fun i => NestedKey.num i)
  | [] => rfl
  | i :: l => by
    have := nks_int l
    simp [nks, nk, this]
theorem idx_num (j : Int) : ∀ l : List Int, (l.map fun i => NestedKey.num i).idxOf (NestedKey.num j) = l.idxOf j
  | [] => rfl
  | i :: l => by
    have ih := idx_num j l
    rw [List.map_cons, List.idxOf_cons, List.idxOf_cons, ih]
    by_cases h : i = j
    · subst h
      simp
    · have h2 : ¬ NestedKey.num i = NestedKey.num j := fun z => h (by cases z; rfl)
      have e1 : (NestedKey.num i == NestedKey.num j) = false := beq_eq_false_iff_ne.mpr h2
      have e2 : (i == j) = false := beq_eq_false_iff_ne.mpr h
      rw [e1, e2]
theorem idxD_int {l : List Int} {j : Int} (h : j ∈ l) : idxD (l.map D.int) (.int j) = some (l.idxOf j) := by
  unfold idxD
  rw [nks_int]
  have e : nk (.int j) = some (NestedKey.num j) := rfl
  rw [e]
  simp only
  rw [if_pos ⟨by simp [NestedKey.depth], List.mem_map.mpr ⟨j, h, rfl⟩⟩, idx_num]
def fk (p : Row) : D → D
  | .int i => .int ((p.idxOf i : Nat) : Int)
  | d => d
theorem law_back_ok (hp : IsP n p) (hn : n ≤ 1000) : m__law_back [itup p] st = .ok (itup (bk p)) st := by
  have h : lcM (itR1 (consA (callM lenM2 (consA (vr 0) nilA)) nilA)) (.nm 1) yesM (tidxM (vr 0) (vr 1)) [1] [some (itup p), none] st = .ok ((rngD 0 n).map (fk p)) st := by
    refine lcM_map (s := ⟨rngD 0 n, none⟩) ?_ (by simp [rngD]; omega) rfl fun d hd => ?_
    · have : ((p.map D.int).length : Int) = ((n : Nat) : Int) := by rw [List.length_map, hp.len]
      have e2 := rngK_nat (n := n) (by omega) st
      simp only [itR1_s, consA_s, callM_s, vr_s, List.getElem?_cons_zero, vrK_s, bind_ok, consK_s, nilA_s, consJ_s, itup, lenM2_tup]
      rw [this, e2]
    · simp only [rngD_idp, List.mem_map] at hd
      obtain ⟨x, hx, rfl⟩ := hd
      obtain ⟨h0, h1⟩ := mem_idp.mp hx
      refine ⟨_, rfl, ?_⟩
      have := idxD_int (hp.surj h0 h1)
      simp [wipeD, itup, tidxJ, this, fk]
  have e : (rngD 0 n).map (fk p) = (bk p).map D.int := by
    rw [rngD_idp]
    unfold bk idp
    rw [List.map_map, List.map_map, List.map_map, hp.len]
    rfl
  rw [e] at h
  simp [m__law_back, b__law_back, h, itup]
theorem law_swap_ok (ha : IsP n a) (hb : IsP n b) (hn : n ≤ 1000) : m__law_swap [itup a, itup b] st = .ok (itup (swp a b)) st := by
  simp [m__law_swap, b__law_swap, law_behind_ok st ha hb hn, law_back_ok st ha hn, law_back_ok st hb hn, law_behind_ok st (isP_bk ha) (isP_bk hb) hn, law_behind_ok st (ha.beh hb) ((isP_bk ha).beh (isP_bk hb)) hn, swp]
/-- back: each place is put -/
theorem pairsD_drop {l : List D} {k : Nat} {d : D} (h : l[k]? = some d) : pairsD k (l.drop k) = .tw [.int (k : Nat), d] :: pairsD (k + 1) (l.drop (k + 1)) := by
  have hl := (List.getElem?_eq_some_iff.mp h).1
  rw [List.drop_eq_getElem_cons hl]
  have := (List.getElem?_eq_some_iff.mp h).2
  rw [this]
  rfl
theorem back_ok (hp : IsP n p) (hn : n ≤ 1000) : ∃ st', m_back [itup p] st = .ok (itup (bk p)) st' ∧ st <+: st' := by
  have e0 : lofM (.fl [.int 0]) st = some [.int 0] := rfl
  have hl : ((p.map D.int).length : Int) = ((n : Nat) : Int) := by rw [List.length_map, hp.len]
  have e1 := repJ_fl (st := st) (u := [.int 0]) (z := n) ⟨by omega, by omega, by simp⟩
  have e2 : rep [D.int 0] n = (List.replicate n (0 : Int)).map D.int := by
    unfold rep
    rw [List.map_replicate]
    simp
  obtain ⟨l', st', h, hJ⟩ := forGo_ind (s := ⟨pairsD 0 (p.map D.int), none⟩) (t := .tp [(.nm 2), (.nm 3)]) (body := setAt (vr 2) (vr 1) (vr 3))
    (fun r l st' => ∃ (k : Nat) (F : Row) (u v : Option D), k ≤ n ∧ r = pairsD k ((p.map D.int).drop k) ∧ l = [some (itup p), some (.ref st.length), u, v] ∧ st' = st ++ [.lst (F.map D.int)] ∧ F.length = n ∧ ∀ i, i < k → F[ev p i]? = some ((i : Nat) : Int))
    (fun r l st' _ => rfl) (fun d r l st' h => by
      obtain ⟨k, F, u, v, hk, hr, rfl, rfl, hF, hI⟩ := h
      have hlt : k < n := Classical.byContradiction fun hc => by
        rw [List.drop_eq_nil_of_le (by rw [List.length_map, hp.len]; omega)] at hr
        cases hr
      obtain ⟨g1, g2⟩ := hp.at hlt
      rw [pairsD_drop (d := .int (ev p k : Nat)) (by rw [List.getElem?_map, g1]; rfl)] at hr
      obtain ⟨rfl, rfl⟩ := List.cons.inj hr
      refine ⟨_, _, _, rfl, .inl ?_, k + 1, F.set (ev p k) (k : Nat), some (.int (k : Nat)), some (.int (ev p k : Nat)), hlt, rfl, rfl, rfl, by rw [List.length_set, hF], fun i hi => ?_⟩
      · have e3 : (st ++ [O.lst (F.map D.int)])[st.length]? = some (.lst (F.map D.int)) := by rw [List.getElem?_concat_length]
        have e4 : ixN (F.map D.int).length (ev p k : Nat) = some (ev p k) := ixN_nat (by rw [List.length_map, hF]; exact g2)
        have := setAtI_ok (l := [some (itup p), some (.ref st.length), some (D.int (k : Nat)), some (D.int (ev p k : Nat))]) (d := .int (k : Nat)) (st := st ++ [O.lst (F.map D.int)]) (z := (ev p k : Nat)) e3 e4
        simp only [setAt_s, vr_s, List.getElem?_cons_succ, List.getElem?_cons_zero, vrK_s, toS_ok, setAtK_s, setAtJ_s]
        have e5 : (st ++ [O.lst (F.map D.int)]).set st.length (.lst ((F.map D.int).set (ev p k) (.int (k : Nat)))) = st ++ [.lst ((F.set (ev p k) (k : Nat)).map D.int)] := by
          rw [List.set_append_right _ _ (Nat.le_refl _), Nat.sub_self, List.map_set]
          rfl
        rw [e5] at this
        exact this
      · by_cases hik : i = k
        · subst hik
          exact List.getElem?_set_self (by rw [hF]; exact g2)
        · rw [List.getElem?_set_ne fun e => hik (hp.inj (by omega) hlt e.symm)]
          exact hI i (by omega))
    (pairsD 0 (p.map D.int)) [some (itup p), some (.ref st.length), none, none] (st ++ [.lst ((List.replicate n (0 : Int)).map D.int)]) ⟨0, List.replicate n 0, none, none, Nat.zero_le _, rfl, rfl, rfl, List.length_replicate, fun i hi => by omega⟩
  obtain ⟨k, F, u, v, hk, hr, rfl, rfl, hF, hI⟩ := hJ
  have hkn : k = n := by
    have := congrArg List.length hr
    rw [pairsD_len, List.length_drop, List.length_map, hp.len, List.length_nil] at this
    omega
  subst hkn
  have eF : F = bk p := by
    apply List.ext_getElem?
    intro j
    by_cases hj : j < k
    · rw [(bk_at hp hj).1]
      have := hI _ (bk_at hp hj).2
      rw [← ev_bk hp hj, ev_bk_r hp hj] at this
      rw [this, ev_bk hp hj]
    · rw [List.getElem?_eq_none (by omega), List.getElem?_eq_none (by rw [(isP_bk hp).len]; omega)]
  refine ⟨st ++ [.lst (F.map D.int)], ?_, List.prefix_append _ _⟩
  have e6 : tupOf [.ref st.length] (st ++ [O.lst (F.map D.int)]) = .ok (.tup (F.map D.int)) (st ++ [O.lst (F.map D.int)]) := by
    simp [tupOf, sqof, lof]
  rw [Int.toNat_natCast, e2] at e1
  simp only [itup] at h
  simp [m_back, b_back, itup, hp.len, e1]
  simp at h
  rw [h]
  simp only [sqK_nx, retM_s, callM_s, consA_s, vr_s, List.getElem?_cons_succ, List.getElem?_cons_zero, vrK_s, bind_ok, consK_s, nilA_s, consJ_s]
  rw [e6, eF]
  rfl
/-- one behind the other, all of them -/
def prd (x : Row) (gs : List Row) : Row := gs.foldl beh x
theorem isP_prd {x : Row} (hx : IsP n x) : ∀ {gs : List Row}, (∀ g ∈ gs, IsP n g) → IsP n (prd x gs)
  | [], _ => hx
  | g :: gs, h => isP_prd (hx.beh (h g List.mem_cons_self)) fun z hz => h z (List.mem_cons_of_mem _ hz)
theorem product_go (hn : n ≤ 1000) (s : Src) (hc : s.chk st = true) (u0 u1 : Option D) : ∀ (gs : List Row) (x : Row) (w : Option D), IsP n x → (∀ g ∈ gs, IsP n g) →
    ∃ w', forGo s (.nm 3) (setM 2 (callM m_behind (consA (vr 2) (consA (vr 3) nilA)))) (gs.map itup) [u0, u1, some (itup x), w] st = .nx [u0, u1, some (itup (prd x gs)), w'] st
  | [], x, w, hx, _ => ⟨w, forGo_nil hc⟩
  | g :: gs, x, w, hx, h => by
    have hg := h g List.mem_cons_self
    obtain ⟨w', e⟩ := product_go hn s hc u0 u1 gs (beh x g) (some (itup g)) (hx.beh hg) fun z hz => h z (List.mem_cons_of_mem _ hz)
    refine ⟨w', ?_⟩
    rw [List.map_cons, forGo_cons (l1 := [u0, u1, some (itup x), some (itup g)]) hc rfl]
    simp [behind_ok st hx hg hn, e, prd]
theorem product_ok (hn : n ≤ 1000) {gs : List Row} (h : ∀ g ∈ gs, IsP n g) : m_product [.int n, .fl (gs.map itup)] st = .ok (itup (prd (idp n) gs)) st := by
  obtain ⟨w', e⟩ := product_go st hn ⟨gs.map itup, none⟩ rfl (some (.int n)) (some (.fl (gs.map itup))) gs (idp n) none (isP_id n) h
  simp [m_product, b_product, still_ok st hn]
  rw [e]
  rfl
theorem prd4 (ha : IsP n a) (hb : IsP n b) : prd (idp n) [a, b, bk a, bk b] = swp a b := by
  show beh (beh (beh (beh (idp n) a) b) (bk a)) (bk b) = _
  rw [id_beh ha, beh_assoc (ha.beh hb) (isP_bk ha) (isP_bk hb)]
  rfl
theorem swap_of_ok (ha : IsP n a) (hb : IsP n b) (hn : n ≤ 1000) : ∃ st', m_swap_of [itup a, itup b] st = .ok (itup (swp a b)) st' ∧ st <+: st' := by
  obtain ⟨st1, e1, p1⟩ := back_ok st ha hn
  obtain ⟨st2, e2, p2⟩ := back_ok st1 hb hn
  have e3 := product_ok st2 hn (gs := [a, b, bk a, bk b]) (by simp [ha, hb, isP_bk ha, isP_bk hb])
  rw [prd4 ha hb] at e3
  refine ⟨st2, ?_, p1.trans p2⟩
  have hl : lenM2 [itup a] st = .ok (.int n) st := by
    show lenM2 [.tup (a.map D.int)] st = _
    rw [lenM2_tup, List.length_map, ha.len]
  simp only [List.map_cons, List.map_nil] at e3
  simp [m_swap_of, b_swap_of, hl, e1, e2, e3]
end
end Sd
namespace Sd
set_option autoImplicit false
open PySem L2 Rf

/-! ### the law's span -/
/-- rows that a value holds -/
def Sq (X : D) (gs : List Row) : Prop := X = .tup (gs.map itup) ∨ X = .fl (gs.map itup)
theorem Sq.it {X : D} {gs : List Row} (h : Sq X gs) (st : Store) : itAK X st = .ok ⟨gs.map itup, none⟩ st := by
  rcases h with rfl | rfl <;> rfl
def Fd (d : D) (F : List Row) (st : Store) : Prop := d = .fl (F.map itup) ∨ ∃ m, d = .ref m ∧ st[m]? = some (.lst (F.map itup))
section
variable {n : Nat} {gs F W : List Row} {X d : D} {st : Store} {x : Row}
theorem Fd.lof (h : Fd d F st) : lof d st = some (F.map itup) := by
  rcases h with rfl | ⟨m, rfl, hm⟩
  · rfl
  · simp [Rf.lof, hm]
theorem Fd.lofM (h : Fd d F st) : lofM d st = some (F.map itup) := by
  rcases h with rfl | ⟨m, rfl, hm⟩
  · rfl
  · simp [Rf.lofM, hm]
theorem Fd.nin (h : Fd d F st) (x : Row) : ninM2 (itup x) d st = .ok (.bl (!decide (x ∈ F))) st := by
  rcases h with rfl | ⟨m, rfl, hm⟩
  · exact ninM2_fl st x F
  · exact ninM2_ref st x F hm
theorem Fd.plus (h : Fd d F st) {G : List Row} (hl : F.length + G.length ≤ 1000000) : plusM d (.fl (G.map itup)) st = .ok (.fl ((F ++ G).map itup)) st := by
  have e : small ((F.map itup).length + (G.map itup).length) = true := Nat.ble_eq_true_of_le (by simpa using hl)
  have e2 : Rf.lofM (.fl (G.map itup)) st = some (G.map itup) := rfl
  rcases h with rfl | ⟨m, rfl, hm⟩
  · have : plusM (.fl (F.map itup)) (.fl (G.map itup)) st = if small ((F.map itup).length + (G.map itup).length) = true then .ok (.fl (F.map itup ++ G.map itup)) st else .fail := rfl
    rw [this, if_pos e, List.map_append]
  · have e3 : Rf.lofM (.ref m) st = some (F.map itup) := by simp [Rf.lofM, hm]
    unfold plusM
    simp only [e3, e2]
    rw [if_pos e, List.map_append]
theorem Fd.srt (h : Fd d F st) (hn : ∀ p ∈ F, p ≠ []) (hl : F.length ≤ 1000000) : srtM [d] st = .ok (.fl ((Rf.srt F).map itup)) st := by
  rcases h with rfl | ⟨m, rfl, hm⟩
  · exact srtM_fl st F hn hl
  · exact srtM_ref st F hm hn hl
theorem isP_ne (h : IsP n x) (hn : 0 < n) : x ≠ [] := fun e => by
  have := h.len
  rw [e] at this
  simp at this
  omega
theorem lc_beh {l : Sl} (hx : IsP n x) (hg : ∀ g ∈ gs, IsP n g) (hn : n ≤ 1000) (hX : Sq X gs) (hl : gs.length ≤ 1000000) (h1 : l[1]? = some (some X)) (h4 : (l.set 6 none)[4]? = some (some (itup x))) (h6 : 6 < l.length) :
    lcM (itA (vr 1)) (.nm 6) yesM (callM m__law_behind (consA (vr 4) (consA (vr 6) nilA))) [6] l st = .ok ((gs.map fun g => beh x g).map itup) st := by
  have := lcM_map (it := itA (vr 1)) (t := .nm 6) (el := callM m__law_behind (consA (vr 4) (consA (vr 6) nilA))) (vs := [6]) (l := l) (st := st) (st1 := st) (s := ⟨gs.map itup, none⟩) (f := fun d => match d with | .tup u => .tup ((u.map fun d => match d with | .int i => i | _ => 0) |> fun r => (beh x r).map D.int) | d => d)
    (by simp [h1, hX.it st]) (by simpa using hl) rfl fun d hd => by
      obtain ⟨g, hgm, rfl⟩ := List.mem_map.mp hd
      refine ⟨_, rfl, ?_⟩
      have h4' : ((l.set 6 none).set 6 (some (itup g)))[4]? = some (some (itup x)) := by
        rw [List.getElem?_set_ne (by decide)]
        exact h4
      have h6' : ((l.set 6 none).set 6 (some (itup g)))[6]? = some (some (itup g)) := List.getElem?_set_self (by simpa using h6)
      simp only [callM_s, consA_s, vr_s, wipeD]
      rw [h4']
      simp only [vrK_s, bind_ok, consK_s, consA_s, vr_s]
      rw [h6']
      simp only [vrK_s, bind_ok, consK_s, nilA_s, consJ_s]
      rw [law_behind_ok st hx (hg g hgm) hn]
      simp [itup, List.map_map, Function.comp_def]
  rw [this, List.map_map, List.map_map]
  congr 1
  exact List.map_congr_left fun g _ => by simp [itup, List.map_map, Function.comp_def]
theorem cut_one (u : List D) (t : Nat) : cutD u (some (t : Int)) (some ((t : Int) + 1)) = (u.drop t).take 1 := by
  have e : ((t : Int) + 1) = ((t + 1 : Nat) : Int) := by omega
  unfold cutD
  rw [e, HT.sIx_nat, HT.sIx_nat]
  by_cases h : t < u.length
  · rw [Nat.min_eq_left (by omega), Nat.min_eq_left (by omega)]
    congr 1
    omega
  · rw [Nat.min_eq_right (by omega), Nat.min_eq_right (by omega), List.drop_length, List.drop_eq_nil_of_le (by omega)]
    simp
/-- what one turn of the law's span does to what is found -/
def spN (gs F : List Row) (x : Row) : List Row := (Rf.srt (uniq (gs.map fun g => beh x g))).filter fun y => !decide (y ∈ F)
def IB : SM := sq (setM 5 (fz (lcM (itA (vr 1)) (.nm 6) yesM (callM m__law_behind (consA (vr 4) (consA (vr 6) nilA))) [6])))
    (setM 2 (b2 plusM (vr 2) (fz (lcM (itA (srtSet (vr 5))) (.nm 6) (tst (b2 ninM2 (vr 6) (vr 2))) (vr 6) [6]))))
theorem IB_ok {u0 t u5 u6 : Option D} (h : Fd d F st) (hx : IsP n x) (hg : ∀ g ∈ gs, IsP n g) (h0 : 0 < n) (hn : n ≤ 1000) (hX : Sq X gs) (hl : gs.length ≤ 100000) (hf : (uniq (gs.map fun g => beh x g)).length < 63) (hF : F.length ≤ 1000) :
    ∃ v5, IB [u0, some X, some d, t, some (itup x), u5, u6] st = .nx [u0, some X, some (.fl ((F ++ spN gs F x).map itup)), t, some (itup x), v5, u6] st := by
  have e1 := lc_beh (st := st) (l := [u0, some X, some d, t, some (itup x), u5, u6]) hx hg hn hX (by omega) rfl rfl (by simp)
  have hne : ∀ p ∈ gs.map fun g => beh x g, p ≠ [] := fun p hp => by
    obtain ⟨g, hgm, rfl⟩ := List.mem_map.mp hp
    exact isP_ne (hx.beh (hg g hgm)) h0
  have e2 := srtSetK_fl st (gs.map fun g => beh x g) hne hf
  have hlen : (Rf.srt (uniq (gs.map fun g => beh x g))).length < 63 := by rw [(srt_perm _).length_eq]; exact hf
  obtain ⟨st2, e3, p3⟩ : ∃ st2, lcM (itA (srtSet (vr 5))) (.nm 6) (tst (b2 ninM2 (vr 6) (vr 2))) (vr 6) [6] [u0, some X, some d, t, some (itup x), some (.fl ((gs.map fun g => beh x g).map itup)), u6] st = .ok ((spN gs F x).map itup) st2 ∧ st2 = st := by
    refine ⟨st, ?_, rfl⟩
    have := lcGo_fil (s := ⟨(Rf.srt (uniq (gs.map fun g => beh x g))).map itup, none⟩) (t := .nm 6) (c := tst (b2 ninM2 (vr 6) (vr 2))) (el := vr 6) (l := [u0, some X, some d, t, some (itup x), some (.fl ((gs.map fun g => beh x g).map itup)), none]) (st := st) rfl (fun y => !decide (y ∈ F)) (Rf.srt (uniq (gs.map fun g => beh x g))) fun y hy => ⟨_, rfl, by simp [h.nin], by simp⟩
    unfold lcM
    have e4 : itA (srtSet (vr 5)) [u0, some X, some d, t, some (itup x), some (.fl ((gs.map fun g => beh x g).map itup)), u6] st = .ok ⟨(Rf.srt (uniq (gs.map fun g => beh x g))).map itup, none⟩ st := by
      simp only [itA_s, srtSet_s, vr_s, List.getElem?_cons_succ, List.getElem?_cons_zero, vrK_s, bind_ok]
      rw [e2]
      rfl
    rw [e4]
    simp only [bind_ok]
    rw [if_pos (show small _ = true from Nat.ble_eq_true_of_le (by rw [List.length_map]; omega))]
    exact this
  subst p3
  have hsp : (spN gs F x).length ≤ 63 := by
    have : (spN gs F x).length ≤ _ := List.length_filter_le _ _
    omega
  have e5 := h.plus (G := spN gs F x) (by omega)
  refine ⟨some (.fl ((gs.map fun g => beh x g).map itup)), ?_⟩
  unfold IB
  simp only [sq_s, setM_s, fz_s, e1, bind_ok, flK_s, toS_ok, setK_s, sqK_nx, List.set_cons_succ, List.set_cons_zero]
  simp only [b2_s, vr_s, List.getElem?_cons_succ, List.getElem?_cons_zero, vrK_s, bind_ok, b2K_s, fz_s, e3, flK_s, e5, toS_ok, setK_s, List.set_cons_succ, List.set_cons_zero]
end
end Sd
namespace Sd
set_option autoImplicit false
open PySem L2 Rf

section
variable {n : Nat} {gs F W : List Row} {X d : D} {st : Store} {x : Row}
structure SpI (n : Nat) (gs F : List Row) (k : Nat) : Prop where
  nd : F.Nodup
  cl : ∀ x ∈ F, Cl n gs x
  one : idp n ∈ F
  done : ∀ i x, i < k → F[i]? = some x → ∀ g ∈ gs, beh x g ∈ F
theorem mem_spN {y : Row} : y ∈ spN gs F x ↔ (∃ g ∈ gs, beh x g = y) ∧ y ∉ F := by
  unfold spN
  rw [List.mem_filter, (srt_perm _).mem_iff, mem_uniq, List.mem_map]
  simp
theorem SpI.step {k : Nat} (h : SpI n gs F k) (hx : F[k]? = some x) : SpI n gs (F ++ spN gs F x) (k + 1) := by
  have hm := List.mem_of_getElem? hx
  have hk := (List.getElem?_eq_some_iff.mp hx).1
  refine ⟨?_, fun y hy => ?_, List.mem_append_left _ h.one, fun i y hi hy g hg => ?_⟩
  · refine List.nodup_append.mpr ⟨h.nd, ?_, fun a ha b hb e => (mem_spN.mp hb).2 (e ▸ ha)⟩
    unfold spN
    exact ((srt_perm _).nodup_iff.mpr (nodup_uniq _)).filter _
  · rcases List.mem_append.mp hy with z | z
    · exact h.cl y z
    · obtain ⟨⟨g, hg, rfl⟩, _⟩ := mem_spN.mp z
      exact .mul (h.cl x hm) hg
  · rw [List.getElem?_append_left (by omega)] at hy
    by_cases e : i = k
    · subst e
      rw [hx] at hy
      cases hy
      by_cases hin : beh x g ∈ F
      · exact List.mem_append_left _ hin
      · exact List.mem_append_right _ (mem_spN.mpr ⟨⟨g, hg, rfl⟩, hin⟩)
    · exact List.mem_append_left _ (h.done i y (by omega) hy g hg)
theorem SpI.skip {k : Nat} (h : SpI n gs F k) (hx : F.length ≤ k) : SpI n gs F (k + 1) := ⟨h.nd, h.cl, h.one, fun i y hi hy g hg => h.done i y (by have := (List.getElem?_eq_some_iff.mp hy).1; omega) hy g hg⟩
theorem SpI.le {k : Nat} (h : SpI n gs F k) (W0 : Grp n W) (s : ∀ g ∈ gs, g ∈ W) : F.length ≤ W.length := nodup_len h.nd fun x hx => W0.cl s (h.cl x hx)
theorem SpI.all {k : Nat} (h : SpI n gs F k) (hk : F.length ≤ k) : SpanOf n gs (srt F) := by
  refine ⟨(srt_perm _).nodup_iff.mpr h.nd, srt_ord _, fun x => ?_⟩
  rw [(srt_perm _).mem_iff]
  refine ⟨h.cl x, fun c => ?_⟩
  induction c with
  | one => exact h.one
  | mul _ hg ih =>
    obtain ⟨i, hi⟩ := List.getElem?_of_mem ih
    exact h.done i _ (by have := (List.getElem?_eq_some_iff.mp hi).1; omega) hi _ hg
theorem spI0 : SpI n gs [idp n] 0 := ⟨by simp, fun x hx => by rw [List.mem_singleton.mp hx]; exact .one, List.mem_singleton.mpr rfl, fun i x hi => by omega⟩
def spB : SM := forM (itA (s3 sliceM (vr 2) (onO (vr 3)) (onO (b2 plusM (vr 3) (cst (.int 1)))))) (.nm 4) IB
theorem few_beh (W0 : Grp n W) (hW : W.length ≤ 60) (s : ∀ g ∈ gs, g ∈ W) (hx : x ∈ W) : (uniq (gs.map fun g => beh x g)).length < 63 := by
  have := nodup_len (nodup_uniq (gs.map fun g => beh x g)) (m := W) fun y hy => by
    rw [mem_uniq] at hy
    obtain ⟨g, hg, rfl⟩ := List.mem_map.mp hy
    exact W0.mul _ hx _ (s g hg)
  omega
theorem Fd.slice (h : Fd d F st) (k : Nat) : sliceM d (some (k : Int)) (some ((k : Int) + 1)) st = .ok (.fl (((F.drop k).take 1).map itup)) st := by
  unfold sliceM
  rw [h.lof]
  simp only [cut_one, List.map_drop, List.map_take]
theorem spB_ok {k : Nat} {u0 u4 u5 u6 : Option D} (I : SpI n gs F k) (W0 : Grp n W) (hW : W.length ≤ 60) (s : ∀ g ∈ gs, g ∈ W) (h : Fd d F st) (h0 : 0 < n) (hn : n ≤ 1000) (hX : Sq X gs) (hl : gs.length ≤ 100000) :
    ∃ F' d' v4 v5, spB [u0, some X, some d, some (.int k), u4, u5, u6] st = .nx [u0, some X, some d', some (.int k), v4, v5, u6] st ∧ Fd d' F' st ∧ SpI n gs F' (k + 1) := by
  have hg : ∀ g ∈ gs, IsP n g := fun g hg => W0.ps g (s g hg)
  have hle := I.le W0 s
  have e0 : spB [u0, some X, some d, some (.int k), u4, u5, u6] st = forGo ⟨((F.drop k).take 1).map itup, none⟩ (.nm 4) IB (((F.drop k).take 1).map itup) [u0, some X, some d, some (.int k), u4, u5, u6] st := by
    unfold spB
    simp [h.slice k]
  rw [e0]
  by_cases hk : k < F.length
  · have hx := List.getElem?_eq_getElem hk
    have e1 : (F.drop k).take 1 = [F[k]] := by rw [List.drop_eq_getElem_cons hk]; rfl
    rw [e1]
    have hxW : F[k] ∈ W := W0.cl s (I.cl _ (List.getElem_mem hk))
    obtain ⟨v5, e2⟩ := IB_ok (u0 := u0) (t := some (.int k)) (u5 := u5) (u6 := u6) h (W0.ps _ hxW) hg h0 hn hX hl (few_beh W0 hW s hxW) (by omega)
    refine ⟨F ++ spN gs F F[k], _, some (itup F[k]), v5, ?_, .inl rfl, I.step hx⟩
    rw [List.map_cons, List.map_nil, forGo_cons (l1 := [u0, some X, some d, some (.int k), some (itup F[k]), u5, u6]) rfl rfl, e2, forK2_nx, forGo_nil rfl]
  · have e1 : (F.drop k).take 1 = [] := by rw [List.drop_eq_nil_of_le (by omega)]; rfl
    rw [e1]
    exact ⟨F, d, u4, u5, forGo_nil rfl, h, I.skip (by omega)⟩
theorem law_span_ok (W0 : Grp n W) (hW : W.length ≤ 60) (s : ∀ g ∈ gs, g ∈ W) (h0 : 0 < n) (hn : n ≤ 1000) (hX : Sq X gs) (hl : gs.length ≤ 100000) (st : Store) :
    ∃ st', m__law_span [.int n, X] st = .ok (.fl ((clo W n gs).map itup)) st' ∧ st <+: st' := by
  have key : ∀ (r : List Nat) (k : Nat) (F : List Row) (d : D) (u3 u4 u5 : Option D) (st1 : Store), r = (List.range 300).drop k → k ≤ 300 → SpI n gs F k → Fd d F st1 →
      ∃ F' d' v3 v4 v5, forGo ⟨rngD 0 300, none⟩ (.nm 3) spB (r.map fun i => D.int (i : Nat)) [some (.int n), some X, some d, u3, u4, u5, none] st1 = .nx [some (.int n), some X, some d', v3, v4, v5, none] st1 ∧ Fd d' F' st1 ∧ SpI n gs F' 300 := by
    intro r
    induction r with
    | nil =>
      intro k F d u3 u4 u5 st1 hr hk I h
      have : k = 300 := by
        have := congrArg List.length hr
        rw [List.length_drop, List.length_range, List.length_nil] at this
        omega
      subst this
      exact ⟨F, d, u3, u4, u5, forGo_nil rfl, h, I⟩
    | cons i r ih =>
      intro k F d u3 u4 u5 st1 hr hk I h
      have hk2 : k < 300 := Classical.byContradiction fun hc => by
        rw [List.drop_eq_nil_of_le (by rw [List.length_range]; omega)] at hr
        cases hr
      rw [List.drop_eq_getElem_cons (by rw [List.length_range]; exact hk2), List.getElem_range] at hr
      obtain ⟨rfl, hr⟩ := List.cons.inj hr
      obtain ⟨F1, d1, w4, w5, e1, h1, I1⟩ := spB_ok (u0 := some (.int n)) (u4 := u4) (u5 := u5) (u6 := none) I W0 hW s h h0 hn hX hl
      obtain ⟨F2, d2, v3, v4, v5, e2, h2, I2⟩ := ih (i + 1) F1 d1 (some (.int i)) w4 w5 st1 hr (by omega) I1 h1
      refine ⟨F2, d2, v3, v4, v5, ?_, h2, I2⟩
      rw [List.map_cons, forGo_cons (l1 := [some (.int n), some X, some d, some (.int i), u4, u5, none]) rfl rfl, e1, forK2_nx, e2]
  have hfd : Fd (.ref st.length) [idp n] (st ++ [.lst [itup (idp n)]]) := .inr ⟨st.length, rfl, by rw [List.getElem?_concat_length]; rfl⟩
  obtain ⟨F, d, v3, v4, v5, e, h, I⟩ := key (List.range 300) 0 [idp n] (.ref st.length) none none none _ rfl (by omega) spI0 hfd
  have hle := I.le W0 s
  have hF : ∀ p ∈ F, p ≠ [] := fun p hp => isP_ne ((I.cl p hp).isP fun g hg => W0.ps g (s g hg)) h0
  have e3 := h.srt hF (by omega)
  have e4 := (I.all (by omega)).eq (clo_span W0 s)
  rw [e4] at e3
  refine ⟨st ++ [.lst [itup (idp n)]], ?_, List.prefix_append _ _⟩
  have e5 : b__law_span = sq (setM 2 (al (disp (consA (trgM (vr 0)) nilA)))) (sq (forM (itR1 (consA (cst (.int 300)) nilA)) (.nm 3) spB) (retM (callM srtM (consA (vr 2) nilA)))) := rfl
  have e6 := rngK_nat (n := 300) (by omega) (st ++ [O.lst [itup (idp n)]])
  have e7 : (rngD 0 300) = (List.range 300).map fun (i : Nat) => D.int (i : Nat) := rngD_get 300
  rw [← e7] at e
  simp only [m__law_span, dfM_2, e5, sq_s, setM_s, al_s, disp_s, consA_s, trgM_s, vr_s, List.getElem?_cons_zero, vrK_s, bind_ok, trgK_ok st hn, consK_s, nilA_s, consJ_s, dispK_1, alK_s, toS_ok, setK_s, sqK_nx]
  have e8 : ([some (D.int n), some X] ++ List.replicate (7 - 2) none).set 2 (some (.ref st.length)) = [some (D.int n), some X, some (.ref st.length), none, none, none, none] := rfl
  have e9 : (some (D.int n) :: some X :: List.replicate (7 - 2) none).set 2 (some (.ref st.length)) = [some (D.int n), some X, some (.ref st.length), none, none, none, none] := rfl
  rw [e9]
  simp only [forM_s, itR1_s, consA_s, cst_s, bind_ok, consK_s, nilA_s, consJ_s]
  rw [show (300 : Int) = ((300 : Nat) : Int) from rfl, e6]
  simp only [toS_ok, forK_s]
  rw [e]
  simp only [sqK_nx, retM_s, callM_s, consA_s, vr_s, List.getElem?_cons_succ, List.getElem?_cons_zero, vrK_s, bind_ok, consK_s, nilA_s, consJ_s, e3, toS_ok, rtK_s, endD_rt]
end
end Sd
namespace Sd
set_option autoImplicit false
open PySem L2 Rf

/-! ### the program's span: layer by layer -/
structure BS (st S : Store) (m q : Nat) (F L : List Row) (d : D) (ly : List Row) : Prop where
  pre : st <+: S
  hm : st.length ≤ m
  hq : st.length ≤ q
  mq : m ≠ q
  dict : ∃ kv, S[m]? = some (.dN kv) ∧ kv.map (·.1) = F.map itup
  later : S[q]? = some (.lst (L.map itup))
  layer : d = .fl (ly.map itup) ∨ ∃ r, d = .ref r ∧ r ≠ m ∧ r ≠ q ∧ S[r]? = some (.lst (ly.map itup))
theorem pre_set {st S : Store} {m : Nat} {o : O} (p : st <+: S) (h : st.length ≤ m) : st <+: S.set m o := by
  obtain ⟨r, rfl⟩ := p
  rw [List.set_append_right _ _ h]
  exact List.prefix_append _ _
section
variable {n : Nat} {gs F L W ly rl rg : List Row} {X d : D} {st S : Store} {x y : Row} {m q : Nat}
theorem BS.push (b : BS st S m q F L d ly) (hy : y ∉ F) (kv : List (D × D)) (h1 : S[m]? = some (.dN kv)) (h2 : kv.map (·.1) = F.map itup) :
    BS st ((S.set m (.dN (dput kv (itup y) (.bl true)))).set q (.lst (L.map itup ++ [itup y]))) m q (F ++ [y]) (L ++ [y]) d ly := by
  have hml := (List.getElem?_eq_some_iff.mp h1).1
  have hql := (List.getElem?_eq_some_iff.mp b.later).1
  refine ⟨pre_set (pre_set b.pre b.hm) b.hq, b.hm, b.hq, b.mq, ⟨kv ++ [(itup y, .bl true)], ?_, by simp [h2]⟩, ?_, ?_⟩
  · rw [List.getElem?_set_ne (Ne.symm b.mq), List.getElem?_set_self hml, dput_row y _ F kv h2 hy]
  · rw [List.getElem?_set_self (by simpa using hql), List.map_append]
    rfl
  · rcases b.layer with e | ⟨r, e, r1, r2, h⟩
    · exact .inl e
    · exact .inr ⟨r, e, r1, r2, by rw [List.getElem?_set_ne (Ne.symm r2), List.getElem?_set_ne (Ne.symm r1)]; exact h⟩
def gB : SM := sq (setM 7 (callM m_behind (consA (vr 5) (consA (vr 6) nilA)))) (ifS (tst (b2 ninM2 (vr 7) (vr 2))) (sq (setAt (cst (.bl true)) (vr 2) (vr 7)) (exprM (appM (vr 4) (vr 7)))) nextM)
/-- one product is looked at -/
theorem gB_ok {u0 w7 : Option D} {g : Row} (b : BS st S m q F L d ly) (hx : IsP n x) (hg : IsP n g) (hn : n ≤ 1000) (hF : F.length < 1000) (hL : L.length < 1000) :
    ∃ S' N, gB [u0, some X, some (.ref m), some d, some (.ref q), some (itup x), some (itup g), w7] S = .nx [u0, some X, some (.ref m), some d, some (.ref q), some (itup x), some (itup g), some (itup (beh x g))] S' ∧
      BS st S' m q (F ++ N) (L ++ N) d ly ∧ N = (if beh x g ∈ F then [] else [beh x g]) := by
  obtain ⟨kv, h1, h2⟩ := b.dict
  have e1 := behind_ok S hx hg hn
  have e2 := ninM2_dN S (beh x g) F h1 h2
  by_cases hm : beh x g ∈ F
  · refine ⟨S, [], ?_, by simpa using b, by simp [hm]⟩
    simp only [gB, sq_s, setM_s, callM_s, consA_s, vr_s, List.getElem?_cons_succ, List.getElem?_cons_zero, vrK_s, bind_ok, consK_s, nilA_s, consJ_s, e1, toS_ok, setK_s, sqK_nx, List.set_cons_succ, List.set_cons_zero, ifS_s, tst_s, b2_s, b2K_s, e2, hm, decide_true, Bool.not_true, tstK_s, ifK_f, nextM_s]
  · have hkl : kv.length < 1000000 := by
      have := congrArg List.length h2
      rw [List.length_map, List.length_map] at this
      omega
    have e3 := setAtI_dN (l := [u0, some X, some (.ref m), some d, some (.ref q), some (itup x), some (itup g), some (itup (beh x g))]) (d := .bl true) S h1 (keyD_row (beh x g)) hkl
    have hlat : (S.set m (.dN (dput kv (itup (beh x g)) (.bl true))))[q]? = some (.lst (L.map itup)) := by rw [List.getElem?_set_ne b.mq]; exact b.later
    have e4 := appJ_ok (d := itup (beh x g)) hlat (by rw [List.length_map]; omega)
    have e5 := appK_ok [u0, some X, some (.ref m), some d, some (.ref q), some (itup x), some (itup g), some (itup (beh x g))] (vr 7) hlat
    refine ⟨_, [beh x g], ?_, b.push hm kv h1 h2, by simp [hm]⟩
    simp only [gB, sq_s, setM_s, callM_s, consA_s, vr_s, List.getElem?_cons_succ, List.getElem?_cons_zero, vrK_s, bind_ok, consK_s, nilA_s, consJ_s, e1, toS_ok, setK_s, sqK_nx, List.set_cons_succ, List.set_cons_zero, ifS_s, tst_s, b2_s, b2K_s, e2, hm, decide_false, Bool.not_false, tstK_s, ifK_t, setAt_s, setAtK_s, setAtJ_s, cst_s, e3, exprM_s, appM_s, e5, e4, exK_s]
/-- what is known while the layers grow; todo: what is still to be looked at -/
structure BI (n : Nat) (gs F L todo : List Row) (c : Nat) : Prop where
  nd : F.Nodup
  cl : ∀ x ∈ F, Cl n gs x
  one : idp n ∈ F
  sub : ∀ x ∈ L, x ∈ F
  tsub : ∀ x ∈ todo, x ∈ F
  done : ∀ z ∈ F, (∀ g ∈ gs, beh z g ∈ F) ∨ z ∈ todo ∨ z ∈ L
  cnt : F.length = c + L.length
theorem BI.le {c : Nat} {todo : List Row} (h : BI n gs F L todo c) (W0 : Grp n W) (s : ∀ g ∈ gs, g ∈ W) : F.length ≤ W.length := nodup_len h.nd fun x hx => W0.cl s (h.cl x hx)
theorem BI.push {c : Nat} {todo : List Row} (h : BI n gs F L todo c) (hy : Cl n gs y) : BI n gs (F ++ (if y ∈ F then [] else [y])) (L ++ (if y ∈ F then [] else [y])) todo c := by
  by_cases hm : y ∈ F
  · rw [if_pos hm, List.append_nil, List.append_nil]
    exact h
  · rw [if_neg hm]
    refine ⟨List.nodup_append.mpr ⟨h.nd, by simp, fun a ha b hb e => ?_⟩, fun z hz => ?_, List.mem_append_left _ h.one, fun z hz => ?_, fun z hz => List.mem_append_left _ (h.tsub z hz), fun z hz => ?_, by rw [List.length_append, List.length_append, h.cnt, Nat.add_assoc]⟩
    · rw [List.mem_singleton.mp hb] at e
      exact hm (e ▸ ha)
    · rcases List.mem_append.mp hz with z1 | z1
      · exact h.cl z z1
      · rw [List.mem_singleton.mp z1]; exact hy
    · rcases List.mem_append.mp hz with z1 | z1
      · exact List.mem_append_left _ (h.sub z z1)
      · exact List.mem_append_right _ z1
    · rcases List.mem_append.mp hz with z1 | z1
      · rcases h.done z z1 with k | k | k
        · exact .inl fun g hg => List.mem_append_left _ (k g hg)
        · exact .inr (.inl k)
        · exact .inr (.inr (List.mem_append_left _ k))
      · exact .inr (.inr (List.mem_append_right _ z1))
/-- one element's products -/
theorem gens_ok {u0 : Option D} (hn : n ≤ 1000) (W0 : Grp n W) (hW : W.length ≤ 60) (s : ∀ g ∈ gs, g ∈ W) (hX : Sq X gs) (hx : Cl n gs x) {todo : List Row} {c : Nat} (hc : c ≤ 500) : ∀ (rg : List Row) (F L : List Row) (S : Store) (w6 w7 : Option D), (∀ g ∈ rg, g ∈ gs) → BS st S m q F L d ly → BI n gs F L todo c →
    (∀ g ∈ gs, beh x g ∈ F ∨ g ∈ rg) → ∃ S' F' L' v6 v7, forGo ⟨gs.map itup, none⟩ (.nm 6) gB (rg.map itup) [u0, some X, some (.ref m), some d, some (.ref q), some (itup x), w6, w7] S = .nx [u0, some X, some (.ref m), some d, some (.ref q), some (itup x), v6, v7] S' ∧
      BS st S' m q F' L' d ly ∧ BI n gs F' L' todo c ∧ (∀ g ∈ gs, beh x g ∈ F')
  | [], F, L, S, w6, w7, _, b, i, hd => ⟨S, F, L, w6, w7, forGo_nil rfl, b, i, fun g hg => (hd g hg).elim id fun z => by simp at z⟩
  | g :: rg, F, L, S, w6, w7, hr, b, i, hd => by
    have hg := hr g List.mem_cons_self
    have hle := i.le W0 s
    have px := hx.isP fun g hg => W0.ps g (s g hg)
    have pg := W0.ps g (s g hg)
    obtain ⟨S1, N, e1, b1, rfl⟩ := gB_ok (u0 := u0) (w7 := w7) (X := X) b px pg hn (by omega) (by have := i.cnt; omega)
    have i1 := i.push (hx.mul hg)
    obtain ⟨S2, F2, L2, v6, v7, e2, b2, i2, c2⟩ := gens_ok hn W0 hW s hX hx hc rg _ _ S1 (some (itup g)) (some (itup (beh x g))) (fun z hz => hr z (List.mem_cons_of_mem _ hz)) b1 i1 fun z hz => by
      rcases hd z hz with k | k
      · exact .inl (List.mem_append_left _ k)
      · rcases List.mem_cons.mp k with rfl | k
        · refine .inl ?_
          by_cases hm : beh x z ∈ F
          · exact List.mem_append_left _ hm
          · rw [if_neg hm]; simp
        · exact .inr k
    refine ⟨S2, F2, L2, v6, v7, ?_, b2, i2, c2⟩
    rw [List.map_cons, forGo_cons (l1 := [u0, some X, some (.ref m), some d, some (.ref q), some (itup x), some (itup g), w7]) rfl rfl, e1, forK2_nx, e2]
theorem BI.drop {c : Nat} {todo : List Row} (h : BI n gs F L (x :: todo) c) (hd : ∀ g ∈ gs, beh x g ∈ F) : BI n gs F L todo c :=
  ⟨h.nd, h.cl, h.one, h.sub, fun z hz => h.tsub z (List.mem_cons_of_mem _ hz), fun z hz => by
    rcases h.done z hz with k | k | k
    · exact .inl k
    · rcases List.mem_cons.mp k with rfl | k
      · exact .inl hd
      · exact .inr (.inl k)
    · exact .inr (.inr k), h.cnt⟩
def lB : SM := forM (itA (vr 1)) (.nm 6) gB
theorem BS.chk (b : BS st S m q F L d ly) : (match d with | .ref r => (⟨ly.map itup, some (r, ly.map itup)⟩ : Src) | _ => ⟨ly.map itup, none⟩).chk S = true := by
  rcases b.layer with rfl | ⟨r, rfl, _, _, h⟩
  · rfl
  · simp [Src.chk, h]
/-- one layer -/
theorem layer_ok {u0 : Option D} (hn : n ≤ 1000) (W0 : Grp n W) (hW : W.length ≤ 60) (s : ∀ g ∈ gs, g ∈ W) (hX : Sq X gs) {c : Nat} (hc : c ≤ 500) (sr : Src) (hsr : ∀ S F L, BS st S m q F L d ly → sr.chk S = true) : ∀ (rl : List Row) (F L : List Row) (S : Store) (w5 w6 w7 : Option D), BS st S m q F L d ly → BI n gs F L rl c →
    ∃ S' F' L' v5 v6 v7, forGo sr (.nm 5) lB (rl.map itup) [u0, some X, some (.ref m), some d, some (.ref q), w5, w6, w7] S = .nx [u0, some X, some (.ref m), some d, some (.ref q), v5, v6, v7] S' ∧
      BS st S' m q F' L' d ly ∧ BI n gs F' L' [] c
  | [], F, L, S, w5, w6, w7, b, i => ⟨S, F, L, w5, w6, w7, forGo_nil (hsr _ _ _ b), b, i⟩
  | x :: rl, F, L, S, w5, w6, w7, b, i => by
    have hx : Cl n gs x := i.cl x (i.tsub x List.mem_cons_self)
    obtain ⟨S1, F1, L1, v6, v7, e1, b1, i1, c1⟩ := gens_ok (u0 := u0) (X := X) hn W0 hW s hX hx hc gs F L S w6 w7 (fun g hg => hg) b i fun g hg => .inr hg
    obtain ⟨S2, F2, L2, x5, x6, x7, e2, b2, i2⟩ := layer_ok hn W0 hW s hX hc sr hsr rl F1 L1 S1 (some (itup x)) v6 v7 b1 (i1.drop c1)
    refine ⟨S2, F2, L2, x5, x6, x7, ?_, b2, i2⟩
    have e3 : lB [u0, some X, some (.ref m), some d, some (.ref q), some (itup x), w6, w7] S = forGo ⟨gs.map itup, none⟩ (.nm 6) gB (gs.map itup) [u0, some X, some (.ref m), some d, some (.ref q), some (itup x), w6, w7] S := by
      unfold lB
      simp [hX.it]
    rw [List.map_cons, forGo_cons (l1 := [u0, some X, some (.ref m), some d, some (.ref q), some (itup x), w6, w7]) (hsr _ _ _ b) rfl, e3, e1, forK2_nx, e2]
end
end Sd
namespace Sd
set_option autoImplicit false
open PySem L2 Rf

section
variable {n : Nat} {gs F L W ly : List Row} {X d : D} {st S : Store} {x y : Row} {m q : Nat}
/-- between the layers -/
structure BL (st S : Store) (m : Nat) (F : List Row) (d : D) (ly : List Row) : Prop where
  pre : st <+: S
  hm : st.length ≤ m
  dict : ∃ kv, S[m]? = some (.dN kv) ∧ kv.map (·.1) = F.map itup
  layer : d = .fl (ly.map itup) ∨ ∃ r, d = .ref r ∧ r ≠ m ∧ S[r]? = some (.lst (ly.map itup))
theorem BL.start (b : BL st S m F d ly) : BS st (S ++ [.lst []]) m S.length F [] d ly := by
  obtain ⟨kv, h1, h2⟩ := b.dict
  have hml := (List.getElem?_eq_some_iff.mp h1).1
  refine ⟨b.pre.trans (List.prefix_append _ _), b.hm, b.pre.length_le, by omega, ⟨kv, by rw [List.getElem?_append_left hml]; exact h1, h2⟩, by rw [List.getElem?_concat_length]; rfl, ?_⟩
  rcases b.layer with e | ⟨r, e, r1, h⟩
  · exact .inl e
  · have hrl := (List.getElem?_eq_some_iff.mp h).1
    exact .inr ⟨r, e, r1, by omega, by rw [List.getElem?_append_left hrl]; exact h⟩
theorem BS.stop (b : BS st S m q F L d ly) : BL st S m F (.ref q) L := ⟨b.pre, b.hm, b.dict, .inr ⟨q, rfl, Ne.symm b.mq, b.later⟩⟩
def wB : SM := sq (setM 4 (al (disp nilA)))
    (sq (forM (itA (vr 3)) (.nm 5) lB)
    (sq (ifS (tst (b2 gtM (callM lenM2 (consA (vr 2) nilA)) (cst (.int 240))))
    (raise1 "TooMany" "most" (consA (cst (.int 240)) nilA))
    nextM)
    (setM 3 (vr 4))))
theorem BL.tru {l : Sl} (b : BL st S m F d ly) (h3 : l[3]? = some (some d)) : truT (vr 3) l S = .ok (!ly.isEmpty) S := by
  simp only [truT_s, vr_s, h3, vrK_s, bind_ok]
  rcases b.layer with rfl | ⟨r, rfl, _, h⟩
  · simp
  · rw [truK_ref S _ h]; simp
theorem wB_ok {u0 w4 w5 w6 w7 : Option D} (hn : n ≤ 1000) (W0 : Grp n W) (hW : W.length ≤ 60) (s : ∀ g ∈ gs, g ∈ W) (hX : Sq X gs) (b : BL st S m F d ly) (i : BI n gs F [] ly F.length) :
    ∃ S' F' L' v5 v6 v7, wB [u0, some X, some (.ref m), some d, w4, w5, w6, w7] S = .nx [u0, some X, some (.ref m), some (.ref S.length), some (.ref S.length), v5, v6, v7] S' ∧
      BL st S' m F' (.ref S.length) L' ∧ BI n gs F' L' [] F.length := by
  have hle := i.le W0 s
  have b1 := b.start
  obtain ⟨sr, e0, e0i, hsr⟩ : ∃ sr : Src, itAK d (S ++ [O.lst []]) = .ok sr (S ++ [O.lst []]) ∧ sr.items = ly.map itup ∧ ∀ S2 F2 L2, BS st S2 m S.length F2 L2 d ly → sr.chk S2 = true := by
    rcases b1.layer with rfl | ⟨r, rfl, _, _, h⟩
    · exact ⟨_, rfl, rfl, fun _ _ _ _ => rfl⟩
    · refine ⟨⟨ly.map itup, some (r, ly.map itup)⟩, ?_, rfl, fun S2 F2 L2 b2 => ?_⟩
      · simp [itAK, lof, h, srcL]
      · rcases b2.layer with e | ⟨r2, e, _, _, h2⟩
        · cases e
        · cases e
          simp [Src.chk, h2]
  obtain ⟨S2, F2, L2, v5, v6, v7, e2, b2, i2⟩ := layer_ok (u0 := u0) (X := X) hn W0 hW s hX (c := F.length) (by omega) sr hsr ly F [] (S ++ [.lst []]) w5 w6 w7 b1 i
  have hle2 := i2.le W0 s
  obtain ⟨kv, h1, h2⟩ := b2.dict
  have hkl : kv.length = F2.length := by
    have := congrArg List.length h2
    rwa [List.length_map, List.length_map] at this
  have e3 := lenM2_dN S2 h1
  have e4 : gtM (.int kv.length) (.int 240) S2 = .ok (.bl false) S2 := by
    have : gtM (.int kv.length) (.int 240) S2 = .ok (.bl (decide ((240 : Int) < kv.length))) S2 := rfl
    rw [this, decide_eq_false (by omega)]
  refine ⟨S2, F2, L2, v5, v6, v7, ?_, b2.stop, i2⟩
  simp only [wB, sq_s, setM_s, al_s, disp_s, nilA_s, bind_ok, dispK_0, alK_s, toS_ok, setK_s, sqK_nx, List.set_cons_succ, List.set_cons_zero, forM_s, itA_s, vr_s, List.getElem?_cons_succ, List.getElem?_cons_zero, vrK_s, e0, forK_s, e0i]
  rw [e2]
  simp only [sqK_nx, ifS_s, tst_s, b2_s, callM_s, consA_s, vr_s, List.getElem?_cons_succ, List.getElem?_cons_zero, vrK_s, bind_ok, consK_s, nilA_s, consJ_s, e3, b2K_s, cst_s, e4, tstK_s, toS_ok, ifK_f, nextM_s, setK_s, List.set_cons_succ, List.set_cons_zero, setM_s, sq_s]
theorem while_ok {u0 : Option D} (hn : n ≤ 1000) (W0 : Grp n W) (hW : W.length ≤ 60) (s : ∀ g ∈ gs, g ∈ W) (hX : Sq X gs) : ∀ (k : Nat) (F : List Row) (d : D) (ly : List Row) (S : Store) (w4 w5 w6 w7 : Option D), 62 - F.length ≤ k → BL st S m F d ly → BI n gs F [] ly F.length →
    ∃ S' F' d' v4 v5 v6 v7, whGo (truT (vr 3)) wB (k + 1) [u0, some X, some (.ref m), some d, w4, w5, w6, w7] S = .nx [u0, some X, some (.ref m), some d', v4, v5, v6, v7] S' ∧ BL st S' m F' d' [] ∧ BI n gs F' [] [] F'.length
  | 0, F, d, ly, S, w4, w5, w6, w7, hk, b, i => by
    have := i.le W0 s
    omega
  | k + 1, F, d, ly, S, w4, w5, w6, w7, hk, b, i => by
    have ht := b.tru (l := [u0, some X, some (.ref m), some d, w4, w5, w6, w7]) rfl
    cases ly with
    | nil => exact ⟨S, F, d, w4, w5, w6, w7, whGo_false ht, b, i⟩
    | cons z ly =>
      obtain ⟨S1, F1, L1, v5, v6, v7, e1, b1, i1⟩ := wB_ok (u0 := u0) (w4 := w4) (w5 := w5) (w6 := w6) (w7 := w7) hn W0 hW s hX b i
      have i2 : BI n gs F1 [] L1 F1.length := ⟨i1.nd, i1.cl, i1.one, fun x hx => by simp at hx, i1.sub, fun z hz => by
        rcases i1.done z hz with h | h | h
        · exact .inl h
        · simp at h
        · exact .inr (.inl h), by simp⟩
      rw [whGo_true ht, e1, whK_nx]
      by_cases hL : L1 = []
      · subst hL
        have ht2 := b1.tru (l := [u0, some X, some (.ref m), some (.ref S.length), some (.ref S.length), v5, v6, v7]) rfl
        exact ⟨S1, F1, _, _, v5, v6, v7, whGo_false ht2, b1, i2⟩
      · have hpos : 0 < L1.length := List.length_pos_iff.mpr hL
        have hle := i2.le W0 s
        exact while_ok hn W0 hW s hX k F1 _ L1 S1 _ v5 v6 v7 (by have := i1.cnt; omega) b1 i2
theorem BI.all (h : BI n gs F [] [] F.length) : SpanOf n gs (srt F) := by
  refine ⟨(srt_perm _).nodup_iff.mpr h.nd, srt_ord _, fun x => ?_⟩
  rw [(srt_perm _).mem_iff]
  refine ⟨h.cl x, fun c => ?_⟩
  induction c with
  | one => exact h.one
  | mul _ hg ih =>
    rcases h.done _ ih with k | k | k
    · exact k _ hg
    · simp at k
    · simp at k
theorem spanned_ok (W0 : Grp n W) (hW : W.length ≤ 60) (s : ∀ g ∈ gs, g ∈ W) (h0 : 0 < n) (hn : n ≤ 1000) (hX : Sq X gs) (st : Store) :
    ∃ st', m_spanned [.int n, X] st = .ok (.fl ((clo W n gs).map itup)) st' ∧ st <+: st' := by
  have b0 : BL st ((st ++ [O.dN []]).set st.length (O.dN [(itup (idp n), D.bl true)])) st.length [idp n] (.fl [itup (idp n)]) [idp n] := by
    refine ⟨pre_set (List.prefix_append _ _) (Nat.le_refl _), Nat.le_refl _, ⟨[(itup (idp n), .bl true)], List.getElem?_set_self (by simp), rfl⟩, .inl rfl⟩
  have i0 : BI n gs [idp n] [] [idp n] [idp n].length := ⟨by simp, fun x hx => by rw [List.mem_singleton.mp hx]; exact .one, List.mem_singleton.mpr rfl, fun x hx => by simp at hx, fun x hx => hx, fun z hz => .inr (.inl hz), rfl⟩
  obtain ⟨S1, F, d, v4, v5, v6, v7, e1, b1, i1⟩ := while_ok (u0 := some (.int n)) (st := st) (m := st.length) (X := X) hn W0 hW s hX 999 [idp n] (.fl [itup (idp n)]) [idp n] _ none none none none (by simp) b0 i0
  obtain ⟨kv, h1, h2⟩ := b1.dict
  have hF : ∀ p ∈ F, p ≠ [] := fun p hp => isP_ne ((i1.cl p hp).isP fun g hg => W0.ps g (s g hg)) h0
  have e3 := srtM_dN S1 F h1 h2 hF
  rw [i1.all.eq (clo_span W0 s)] at e3
  refine ⟨S1, ?_, b1.pre⟩
  have e5 : b_spanned = sq (parM 2 3 (consA (dctN (callM m_still (consA (vr 0) nilA)) (cst (.bl true))) (consA (fz (disp (consA (callM m_still (consA (vr 0) nilA)) nilA))) nilA)))
    (sq (whGo (truT (vr 3)) wB 1000) (retM (callM srtM (consA (vr 2) nilA)))) := rfl
  have e6 : dctN (callM m_still (consA (vr 0) nilA)) (cst (.bl true)) [some (.int n), some X, none, none, none, none, none, none] st = .ok (.ref st.length) ((st ++ [O.dN []]).set st.length (O.dN [(itup (idp n), D.bl true)])) := by
    unfold dctN
    simp only [callM_s, consA_s, vr_s, List.getElem?_cons_zero, vrK_s, bind_ok, consK_s, nilA_s, consJ_s, still_ok _ hn, cst_s, List.getElem?_concat_length, keyD_row, if_true]
  have e7 : (some (D.int n) :: some X :: List.replicate (8 - 2) none) = [some (D.int n), some X, none, none, none, none, none, none] := rfl
  simp only [m_spanned, dfM_2, e5, e7, sq_s, parM_s, consA_s, e6, bind_ok, consK_s, fz_s, disp_s, callM_s, vr_s, List.getElem?_cons_zero, vrK_s, nilA_s, consJ_s, still_ok _ hn, dispK_1, flK_s, toS_ok, parK_s, sqK_nx, List.set_cons_succ, List.set_cons_zero]
  rw [e1]
  simp only [sqK_nx, retM_s, callM_s, consA_s, vr_s, List.getElem?_cons_succ, List.getElem?_cons_zero, vrK_s, bind_ok, consK_s, nilA_s, consJ_s, e3, toS_ok, rtK_s, endD_rt]
end
end Sd
namespace Sd
set_option autoImplicit false
open PySem L2 Rf

def rowOf : D → Row
  | .tup u => u.map fun d => match d with
    | .int i => i
    | _ => 0
  | _ => []
@[simp] theorem rowOf_itup (r : Row) : rowOf (itup r) = r := by
  unfold rowOf itup
  simp only [List.map_map]
  conv => rhs; rw [← List.map_id r]
  exact List.map_congr_left fun _ _ => rfl
theorem map_row (f : Row → Row) (L : List Row) : (L.map itup).map (fun d => itup (f (rowOf d))) = (L.map f).map itup := by
  rw [List.map_map, List.map_map]
  exact List.map_congr_left fun r _ => by simp
section
variable {n : Nat} {gs H K W T : List Row} {X : D} {st S : Store} {all : Bool}
theorem Cl.congr {hs : List Row} (h : ∀ x, x ∈ gs ↔ x ∈ hs) {x : Row} (c : Cl n gs x) : Cl n hs x := by
  induction c with
  | one => exact .one
  | mul _ hg ih => exact .mul ih ((h _).mp hg)
theorem clo_congr (W0 : Grp n W) (s : ∀ g ∈ gs, g ∈ W) {hs : List Row} (h : ∀ x, x ∈ hs ↔ x ∈ gs) : clo W n hs = clo W n gs := by
  have a := clo_span W0 (gs := hs) fun g hg => s g ((h g).mp hg)
  have b := clo_span W0 s
  exact SpanOf.eq (gs := gs) ⟨a.nd, a.od, fun x => (a.mem x).trans ⟨fun c => Cl.congr h c, fun c => Cl.congr (fun x => (h x).symm) c⟩⟩ b
theorem swaps_len (H K : List Row) : (swaps H K).length = H.length * K.length := by
  unfold swaps
  induction H with
  | nil => simp
  | cons x H ih => rw [List.map_cons, List.flatten_cons, List.length_append, ih, List.length_map, List.length_cons, Nat.add_mul]; omega
theorem swaps_ne (W0 : Grp n W) (h0 : 0 < n) (hH : ∀ x ∈ H, x ∈ W) (hK : ∀ x ∈ K, x ∈ W) : ∀ p ∈ swaps H K, p ≠ [] := fun p hp => isP_ne (W0.ps p (swaps_in W0 hH hK p hp)) h0
theorem swaps_few (W0 : Grp n W) (hW : W.length ≤ 60) (hH : ∀ x ∈ H, x ∈ W) (hK : ∀ x ∈ K, x ∈ W) : (uniq (swaps H K)).length < 63 := by
  have := nodup_len (nodup_uniq (swaps H K)) (m := W) fun y hy => swaps_in W0 hH hK y (mem_uniq.mp hy)
  omega
theorem mem_su {x : Row} {L : List Row} : x ∈ srt (uniq L) ↔ x ∈ L := by rw [(srt_perm _).mem_iff, mem_uniq]
/-- what every two turns of two lists swap to -/
theorem lc2_swaps {l : Sl} (W0 : Grp n W) (hn : n ≤ 1000) (hH : ∀ x ∈ H, x ∈ W) (hK : ∀ x ∈ K, x ∈ W) (hz : H.length * K.length ≤ 1000000) (h1 : l[1]? = some (some (.fl (H.map itup)))) (h2 : ((l.set 4 none).set 3 none)[2]? = some (some (.fl (K.map itup)))) (hl : 4 < l.length) :
    ∃ st', lcM2 (itA (vr 1)) (.nm 3) yesM (itA (vr 2)) (.nm 4) yesM (callM m_swap_of (consA (vr 3) (consA (vr 4) nilA))) [3, 4] [4] l st = .ok ((swaps H K).map itup) st' ∧ st <+: st' := by
  have := lc2Go_ext (s := ⟨H.map itup, none⟩) (t := .nm 3) (t1 := .nm 4) (it1 := itA (vr 2)) (el := callM m_swap_of (consA (vr 3) (consA (vr 4) nilA))) (vs1 := [4]) (l := wipeD l [3, 4]) (st := st) (f := fun d => (K.map itup).map fun e => itup (swp (rowOf d) (rowOf e))) (most := K.length) rfl (H.map itup) 0 (by simpa using hz) (fun d hd => by
    obtain ⟨x, hx, rfl⟩ := List.mem_map.mp hd
    have px := W0.ps x (hH x hx)
    have h3 : 3 < ((l.set 4 none).set 3 none).length := by simp; omega
    have e2 : (((l.set 4 none).set 3 none).set 3 (some (itup x)))[2]? = some (some (.fl (K.map itup))) := by rw [List.getElem?_set_ne (by decide)]; exact h2
    refine ⟨_, rfl, fun st1 p1 => ⟨⟨K.map itup, none⟩, st1, ?_, List.prefix_rfl, by simp, rfl, fun e => itup (swp x (rowOf e)), by simp, fun e he => ?_⟩⟩
    · simp only [itA_s, vr_s, wipeD]
      rw [e2]
      rfl
    · obtain ⟨y, hy, rfl⟩ := List.mem_map.mp he
      have py := W0.ps y (hK y hy)
      refine ⟨_, rfl, fun st3 p3 => ?_⟩
      obtain ⟨st4, e4, p4⟩ := swap_of_ok st3 px py hn
      refine ⟨st4, ?_, p4⟩
      have h4 : 4 < l.length := hl
      have g3 : (((((l.set 4 none).set 3 none).set 3 (some (itup x))).set 4 none).set 4 (some (itup y)))[3]? = some (some (itup x)) := by
        rw [List.getElem?_set_ne (by decide), List.getElem?_set_ne (by decide), List.getElem?_set_self h3]
      have g4 : (((((l.set 4 none).set 3 none).set 3 (some (itup x))).set 4 none).set 4 (some (itup y)))[4]? = some (some (itup y)) := by
        rw [List.getElem?_set_self (by simp; omega)]
      simp only [callM_s, consA_s, vr_s, wipeD]
      rw [g3]
      simp only [vrK_s, bind_ok, consK_s, consA_s, vr_s]
      rw [g4]
      simp only [vrK_s, bind_ok, consK_s, nilA_s, consJ_s, e4, rowOf_itup]) st List.prefix_rfl
  obtain ⟨st', e, p⟩ := this
  refine ⟨st', ?_, p⟩
  unfold lcM2
  simp only [itA_s, vr_s, h1, vrK_s, bind_ok, itAK_fl]
  rw [e]
  congr 1
  unfold swaps
  rw [List.map_map, List.map_flatten, List.map_map]
  congr 1
  refine List.map_congr_left fun x _ => ?_
  simp only [Function.comp_apply, rowOf_itup, List.map_map]
  exact List.map_congr_left fun y _ => by simp
theorem swaps_between_ok (W0 : Grp n W) (hW : W.length ≤ 60) (h0 : 0 < n) (hn : n ≤ 1000) (hH : ∀ x ∈ H, x ∈ W) (hK : ∀ x ∈ K, x ∈ W) (lH : H.length ≤ 1000) (lK : K.length ≤ 1000) (st : Store) :
    ∃ st', m_swaps_between [.int n, .fl (H.map itup), .fl (K.map itup)] st = .ok (.fl ((clo W n (swaps H K)).map itup)) st' ∧ st <+: st' := by
  obtain ⟨st1, e1, p1⟩ := lc2_swaps (st := st) (l := [some (.int n), some (.fl (H.map itup)), some (.fl (K.map itup)), none, none]) W0 hn hH hK (Nat.mul_le_mul lH lK) rfl rfl (by simp)
  have e2 := srtSetK_fl st1 (swaps H K) (swaps_ne W0 h0 hH hK) (swaps_few W0 hW hH hK)
  have hs := swaps_in W0 hH hK
  obtain ⟨st2, e3, p2⟩ := spanned_ok (gs := srt (uniq (swaps H K))) W0 hW (fun g hg => hs g (mem_su.mp hg)) h0 hn (.inr rfl) st1
  rw [clo_congr W0 hs fun x => mem_su] at e3
  refine ⟨st2, ?_, p1.trans p2⟩
  have e7 : (some (D.int n) :: some (D.fl (H.map itup)) :: some (D.fl (K.map itup)) :: List.replicate (5 - 3) none) = [some (.int n), some (.fl (H.map itup)), some (.fl (K.map itup)), none, none] := rfl
  simp only [m_swaps_between, dfM_3, e7, b_swaps_between, retM_s, callM_s, consA_s, vr_s, List.getElem?_cons_zero, vrK_s, bind_ok, consK_s, srtSet_s, fz_s, e1, flK_s, e2, nilA_s, consJ_s, e3, toS_ok, rtK_s, endD_rt]
/-! ### the series' terms -/
noncomputable def tm (W : List Row) (n : Nat) (all : Bool) (k : Nat) : List D := (List.range (k + 1)).map fun i => D.fl ((ser W n all i).map itup)
theorem tm_succ (k : Nat) : tm W n all (k + 1) = tm W n all k ++ [.fl ((ser W n all (k + 1)).map itup)] := by
  unfold tm
  rw [List.range_succ, List.map_append]
  rfl
theorem tm_len (k : Nat) : (tm W n all k).length = k + 1 := by simp [tm]
theorem ixN_last (k : Nat) : ixN (k + 1) (-1) = some k := by
  unfold ixN
  rw [if_neg (by omega), if_pos (by omega)]
  congr 1
  omega
theorem atI_last {α : Type} (l : List α) (x : α) : atI (l ++ [x]) (-1) = some x := by
  unfold atI
  rw [List.length_append, List.length_singleton, ixN_last]
  simp
theorem tm_last (k : Nat) : atI (tm W n all k) (-1) = some (.fl ((ser W n all k).map itup)) := by
  cases k with
  | zero => exact atI_last [] _
  | succ k => rw [tm_succ]; exact atI_last _ _
end
end Sd
namespace Sd
set_option autoImplicit false
open PySem L2 Rf

section
variable {n : Nat} {gs B : List Row} {X : D} {st S : Store} {all : Bool}
/-- a lock: some rows of one length, inside of a closed list -/
structure Lk (n : Nat) (gs B : List Row) : Prop where
  B0 : Grp n B
  hB : B.length ≤ 60
  sub : ∀ g ∈ gs, g ∈ B
  ne : gs ≠ []
  n0 : 0 < n
  hn : n ≤ 1000
  hl : gs.length ≤ 1000
noncomputable def Lk.W {n : Nat} {gs B : List Row} (_ : Lk n gs B) : List Row := clo B n gs
theorem Lk.sp (k : Lk n gs B) : SpanOf n gs k.W := clo_span k.B0 k.sub
theorem Lk.gp (k : Lk n gs B) : ∀ g ∈ gs, IsP n g := fun g hg => k.B0.ps g (k.sub g hg)
theorem Lk.W0 (k : Lk n gs B) : Grp n k.W := k.sp.grp k.gp
theorem Lk.hW (k : Lk n gs B) : k.W.length ≤ 60 := Nat.le_trans (k.sp.le k.B0 k.sub) k.hB
/-- len(lock[0]) -/
theorem Lk.len (k : Lk n gs B) {i : Nat} {l : Sl} (h : l[i]? = some (some (.tup (gs.map itup)))) (st : Store) : callM lenM2 (consA (b2 ixM2 (vr i) (cst (.int 0))) nilA) l st = .ok (.int n) st := by
  have hp := k.gp
  have hne := k.ne
  cases gs with
  | nil => exact absurd rfl hne
  | cons g gs =>
    have e := (hp g List.mem_cons_self).len
    simp only [callM_s, consA_s, b2_s, vr_s, h, vrK_s, bind_ok, b2K_s, cst_s, List.map_cons, ixM2_tup, atI_0, atK_s, consK_s, nilA_s, consJ_s]
    show lenM2 [.tup (g.map D.int)] st = _
    rw [lenM2_tup, List.length_map, e]
theorem turns_of_ok (k : Lk n gs B) (st : Store) : ∃ st', m_turns_of [.tup (gs.map itup)] st = .ok (.fl (k.W.map itup)) st' ∧ st <+: st' := by
  obtain ⟨st1, e1, p1⟩ := spanned_ok (X := .tup (gs.map itup)) k.B0 k.hB k.sub k.n0 k.hn (.inl rfl) st
  refine ⟨st1, ?_, p1⟩
  have e2 := k.len (i := 0) (l := some (.tup (gs.map itup)) :: List.replicate (1 - 1) none) rfl st
  simp only [m_turns_of, dfM_1, b_turns_of, retM_s]
  rw [callM_s, consA_s, e2]
  simp only [bind_ok, consK_s, consA_s, vr_s, List.getElem?_cons_zero, vrK_s, nilA_s, consJ_s, e1, toS_ok, rtK_s, endD_rt]
  rfl
/-- the list that a loop lets grow -/
theorem ixM2_last {q : Nat} {l : List D} {d : D} (h : S[q]? = some (.lst l)) (h2 : atI l (-1) = some d) : ixM2 (.ref q) (.int (-1)) S = .ok d S := by
  rw [ixM2_ref S l (-1) h, h2]
  rfl
def dB : SM := sq (setM 2 (callM m_swaps_between (consA (callM lenM2 (consA (b2 ixM2 (vr 0) (cst (.int 0))) nilA)) (consA (b2 ixM2 (vr 1) (negM (cst (.int 1)))) (consA (b2 ixM2 (vr 1) (negM (cst (.int 1)))) nilA)))))
    (sq (ifS (tst (b2 eqM (vr 2) (b2 ixM2 (vr 1) (negM (cst (.int 1)))))) (retM (vr 1)) nextM) (exprM (appM (vr 1) (vr 2))))
theorem dwhile (k : Lk n gs B) {m : Nat} (h1 : ser k.W n false (m + 1) = ser k.W n false m) (h2 : ∀ j, j < m → ser k.W n false (j + 1) ≠ ser k.W n false j) (hm : m ≤ 6) {q : Nat} (hq : st.length ≤ q) : ∀ (f i : Nat) (S : Store) (w : Option D), i ≤ m → m - i < f → st <+: S → S[q]? = some (.lst (tm k.W n false i)) →
    ∃ S', whGo (tst (cst (.bl true))) dB f [some (.tup (gs.map itup)), some (.ref q), w] S = .rt (.ref q) S' ∧ st <+: S' ∧ S'[q]? = some (.lst (tm k.W n false m))
  | 0, i, S, w, hi, hf, p, hS => by omega
  | f + 1, i, S, w, hi, hf, p, hS => by
    have hin := ser_in (all := false) k.W0 i
    have hle : (ser k.W n false i).length ≤ 60 := Nat.le_trans (nodup_len (ser_grp k.W0 i).nd hin) k.hW
    obtain ⟨S1, e1, p1⟩ := swaps_between_ok (H := ser k.W n false i) (K := ser k.W n false i) k.W0 k.hW k.n0 k.hn hin hin (by omega) (by omega) S
    have e1 : m_swaps_between [.int n, .fl ((ser k.W n false i).map itup), .fl ((ser k.W n false i).map itup)] S = .ok (.fl ((ser k.W n false (i + 1)).map itup)) S1 := e1
    have e2 := k.len (i := 0) (l := [some (.tup (gs.map itup)), some (.ref q), w]) rfl S
    have e3 := ixM2_last hS (tm_last i)
    have hS1 := pre_get p1 hS
    have e4 := ixM2_last hS1 (tm_last i)
    have e5 := eqM_rows S1 (ser k.W n false (i + 1)) (ser k.W n false i)
    rw [whGo_true (st1 := S) rfl]
    have e6 : dB [some (.tup (gs.map itup)), some (.ref q), w] S = (if ser k.W n false (i + 1) = ser k.W n false i then Sz.rt (.ref q) S1 else Sz.nx [some (.tup (gs.map itup)), some (.ref q), some (.fl ((ser k.W n false (i + 1)).map itup))] (S1.set q (.lst (tm k.W n false (i + 1))))) := by
      unfold dB
      rw [sq_s, setM_s, callM_s, consA_s, e2]
      simp only [bind_ok, consK_s, consA_s, b2_s, vr_s, List.getElem?_cons_succ, List.getElem?_cons_zero, vrK_s, b2K_s, negM_s, cst_s, negK_s, e3, nilA_s, consJ_s, e1, toS_ok, setK_s, sqK_nx, List.set_cons_succ, List.set_cons_zero, sq_s, ifS_s, tst_s, e4, e5, tstK_s]
      by_cases hc : ser k.W n false (i + 1) = ser k.W n false i
      · simp only [hc, decide_true, ifK_t, retM_s, vr_s, List.getElem?_cons_succ, List.getElem?_cons_zero, vrK_s, toS_ok, rtK_s, sqK_rt, if_true]
      · have e7 := appK_ok (st := S1) [some (.tup (gs.map itup)), some (.ref q), some (.fl ((ser k.W n false (i + 1)).map itup))] (vr 2) hS1
        have e8 := appJ_ok (d := .fl ((ser k.W n false (i + 1)).map itup)) hS1 (by rw [tm_len]; omega)
        rw [← tm_succ] at e8
        simp only [hc, decide_false, ifK_f, nextM_s, sqK_nx, exprM_s, appM_s, vr_s, List.getElem?_cons_succ, List.getElem?_cons_zero, vrK_s, bind_ok, e7, e8, toS_ok, exK_s, if_false]
    rw [e6]
    by_cases hc : i = m
    · subst hc
      rw [if_pos h1]
      exact ⟨S1, rfl, p.trans p1, hS1⟩
    · have hlt : i < m := by omega
      rw [if_neg (h2 i hlt), whK_nx]
      have hql := (List.getElem?_eq_some_iff.mp hS1).1
      exact dwhile k h1 h2 hm hq f (i + 1) _ _ (by omega) (by omega) (pre_set (p.trans p1) hq) (List.getElem?_set_self hql)
theorem derived_of_ok (k : Lk n gs B) {m : Nat} (h1 : ser k.W n false (m + 1) = ser k.W n false m) (h2 : ∀ j, j < m → ser k.W n false (j + 1) ≠ ser k.W n false j) (hm : m ≤ 6) (st : Store) :
    ∃ q S', m_derived_of [.tup (gs.map itup)] st = .ok (.ref q) S' ∧ st <+: S' ∧ S'[q]? = some (.lst (tm k.W n false m)) := by
  obtain ⟨st1, e1, p1⟩ := turns_of_ok k st
  obtain ⟨S', e2, p2, hS⟩ := dwhile (st := st1) k h1 h2 hm (q := st1.length) (Nat.le_refl _) 1000 0 (st1 ++ [.lst (tm k.W n false 0)]) none (Nat.zero_le _) (by omega) (List.prefix_append _ _) (by rw [List.getElem?_concat_length])
  refine ⟨st1.length, S', ?_, p1.trans p2, hS⟩
  have e3 : b_derived_of = sq (setM 1 (al (disp (consA (callM m_turns_of (consA (vr 0) nilA)) nilA)))) (whGo (tst (cst (.bl true))) dB 1000) := rfl
  have e4 : (some (D.tup (gs.map itup)) :: List.replicate (3 - 1) none) = [some (.tup (gs.map itup)), none, none] := rfl
  have e5 : tm k.W n false 0 = [.fl (k.W.map itup)] := rfl
  rw [e5] at e2
  simp only [m_derived_of, dfM_1, e3, e4, sq_s, setM_s, al_s, disp_s, consA_s, callM_s, vr_s, List.getElem?_cons_zero, vrK_s, bind_ok, consK_s, nilA_s, consJ_s, e1, dispK_1, alK_s, toS_ok, setK_s, sqK_nx, List.set_cons_succ, List.set_cons_zero]
  rw [e2]
  rfl
def oB : SM := sq (setM 3 (callM m_swaps_between (consA (callM lenM2 (consA (b2 ixM2 (vr 0) (cst (.int 0))) nilA)) (consA (b2 ixM2 (vr 2) (negM (cst (.int 1)))) (consA (vr 1) nilA)))))
    (sq (ifS (tst (b2 eqM (vr 3) (b2 ixM2 (vr 2) (negM (cst (.int 1)))))) (retM (vr 2)) nextM) (exprM (appM (vr 2) (vr 3))))
theorem owhile (k : Lk n gs B) {m : Nat} (h1 : ser k.W n true (m + 1) = ser k.W n true m) (h2 : ∀ j, j < m → ser k.W n true (j + 1) ≠ ser k.W n true j) (hm : m ≤ 6) {q : Nat} (hq : st.length ≤ q) : ∀ (f i : Nat) (S : Store) (w : Option D), i ≤ m → m - i < f → st <+: S → S[q]? = some (.lst (tm k.W n true i)) →
    ∃ S', whGo (tst (cst (.bl true))) oB f [some (.tup (gs.map itup)), some (.fl (k.W.map itup)), some (.ref q), w] S = .rt (.ref q) S' ∧ st <+: S' ∧ S'[q]? = some (.lst (tm k.W n true m))
  | 0, i, S, w, hi, hf, p, hS => by omega
  | f + 1, i, S, w, hi, hf, p, hS => by
    have hin := ser_in (all := true) k.W0 i
    have hle : (ser k.W n true i).length ≤ 60 := Nat.le_trans (nodup_len (ser_grp k.W0 i).nd hin) k.hW
    have hWl := k.hW
    obtain ⟨S1, e1, p1⟩ := swaps_between_ok (H := ser k.W n true i) (K := k.W) k.W0 k.hW k.n0 k.hn hin (fun _ h => h) (by omega) (by omega) S
    have e1 : m_swaps_between [.int n, .fl ((ser k.W n true i).map itup), .fl (k.W.map itup)] S = .ok (.fl ((ser k.W n true (i + 1)).map itup)) S1 := e1
    have e2 := k.len (i := 0) (l := [some (.tup (gs.map itup)), some (.fl (k.W.map itup)), some (.ref q), w]) rfl S
    have e3 := ixM2_last hS (tm_last i)
    have hS1 := pre_get p1 hS
    have e4 := ixM2_last hS1 (tm_last i)
    have e5 := eqM_rows S1 (ser k.W n true (i + 1)) (ser k.W n true i)
    rw [whGo_true (st1 := S) rfl]
    have e6 : oB [some (.tup (gs.map itup)), some (.fl (k.W.map itup)), some (.ref q), w] S = (if ser k.W n true (i + 1) = ser k.W n true i then Sz.rt (.ref q) S1 else Sz.nx [some (.tup (gs.map itup)), some (.fl (k.W.map itup)), some (.ref q), some (.fl ((ser k.W n true (i + 1)).map itup))] (S1.set q (.lst (tm k.W n true (i + 1))))) := by
      unfold oB
      rw [sq_s, setM_s, callM_s, consA_s, e2]
      simp only [bind_ok, consK_s, consA_s, b2_s, vr_s, List.getElem?_cons_succ, List.getElem?_cons_zero, vrK_s, b2K_s, negM_s, cst_s, negK_s, e3, nilA_s, consJ_s, e1, toS_ok, setK_s, sqK_nx, List.set_cons_succ, List.set_cons_zero, sq_s, ifS_s, tst_s, e4, e5, tstK_s]
      by_cases hc : ser k.W n true (i + 1) = ser k.W n true i
      · simp only [hc, decide_true, ifK_t, retM_s, vr_s, List.getElem?_cons_succ, List.getElem?_cons_zero, vrK_s, toS_ok, rtK_s, sqK_rt, if_true]
      · have e7 := appK_ok (st := S1) [some (.tup (gs.map itup)), some (.fl (k.W.map itup)), some (.ref q), some (.fl ((ser k.W n true (i + 1)).map itup))] (vr 3) hS1
        have e8 := appJ_ok (d := .fl ((ser k.W n true (i + 1)).map itup)) hS1 (by rw [tm_len]; omega)
        rw [← tm_succ] at e8
        simp only [hc, decide_false, ifK_f, nextM_s, sqK_nx, exprM_s, appM_s, vr_s, List.getElem?_cons_succ, List.getElem?_cons_zero, vrK_s, bind_ok, e7, e8, toS_ok, exK_s, if_false]
    rw [e6]
    by_cases hc : i = m
    · subst hc
      rw [if_pos h1]
      exact ⟨S1, rfl, p.trans p1, hS1⟩
    · have hlt : i < m := by omega
      rw [if_neg (h2 i hlt), whK_nx]
      have hql := (List.getElem?_eq_some_iff.mp hS1).1
      exact owhile k h1 h2 hm hq f (i + 1) _ _ (by omega) (by omega) (pre_set (p.trans p1) hq) (List.getElem?_set_self hql)
theorem lower_of_ok (k : Lk n gs B) {m : Nat} (h1 : ser k.W n true (m + 1) = ser k.W n true m) (h2 : ∀ j, j < m → ser k.W n true (j + 1) ≠ ser k.W n true j) (hm : m ≤ 6) (st : Store) :
    ∃ q S', m_lower_of [.tup (gs.map itup)] st = .ok (.ref q) S' ∧ st <+: S' ∧ S'[q]? = some (.lst (tm k.W n true m)) := by
  obtain ⟨st1, e1, p1⟩ := turns_of_ok k st
  obtain ⟨S', e2, p2, hS⟩ := owhile (st := st1) k h1 h2 hm (q := st1.length) (Nat.le_refl _) 1000 0 (st1 ++ [.lst (tm k.W n true 0)]) none (Nat.zero_le _) (by omega) (List.prefix_append _ _) (by rw [List.getElem?_concat_length])
  refine ⟨st1.length, S', ?_, p1.trans p2, hS⟩
  have e3 : b_lower_of = sq (setM 1 (callM m_turns_of (consA (vr 0) nilA))) (sq (setM 2 (al (disp (consA (vr 1) nilA)))) (whGo (tst (cst (.bl true))) oB 1000)) := rfl
  have e4 : (some (D.tup (gs.map itup)) :: List.replicate (4 - 1) none) = [some (.tup (gs.map itup)), none, none, none] := rfl
  have e5 : tm k.W n true 0 = [.fl (k.W.map itup)] := rfl
  rw [e5] at e2
  simp only [m_lower_of, dfM_1, e3, e4, sq_s, setM_s, al_s, disp_s, consA_s, callM_s, vr_s, List.getElem?_cons_succ, List.getElem?_cons_zero, vrK_s, bind_ok, consK_s, nilA_s, consJ_s, e1, dispK_1, alK_s, toS_ok, setK_s, sqK_nx, List.set_cons_succ, List.set_cons_zero]
  rw [e2]
  rfl
end
end Sd
namespace Sd
set_option autoImplicit false
open PySem L2 Rf

section
variable {n : Nat} {gs B K T : List Row} {X : D} {st S : Store} {all : Bool}
theorem swaps_snoc (H : List Row) (x : Row) (K : List Row) : swaps (H ++ [x]) K = swaps H K ++ K.map fun y => swp x y := by
  unfold swaps
  simp
def eK : EM D := ifM (truT (vr 1)) (vr 3) (b2 ixM2 (vr 4) (negM (cst (.int 1))))
def iB : SM := setM 6 (b2 plusM (vr 6) (fz (lcM (itA eK) (.nm 9) yesM (callM m__law_swap (consA (vr 7) (consA (vr 9) nilA))) [9])))
theorem lc_swp {l : Sl} {x : Row} {e : EM D} (W0 : Grp n B) (hn : n ≤ 1000) (hx : x ∈ B) (hK : ∀ y ∈ K, y ∈ B) (lK : K.length ≤ 1000) (he : e l S = .ok (.fl (K.map itup)) S) (h7 : l[7]? = some (some (itup x))) (hl : 9 < l.length) :
    lcM (itA e) (.nm 9) yesM (callM m__law_swap (consA (vr 7) (consA (vr 9) nilA))) [9] l S = .ok ((K.map fun y => swp x y).map itup) S := by
  have := lcM_map (it := itA e) (t := .nm 9) (el := callM m__law_swap (consA (vr 7) (consA (vr 9) nilA))) (vs := [9]) (l := l) (st := S) (st1 := S) (s := ⟨K.map itup, none⟩) (f := fun d => itup (swp x (rowOf d)))
    (by simp [he]) (by simp; omega) rfl fun d hd => by
      obtain ⟨y, hy, rfl⟩ := List.mem_map.mp hd
      refine ⟨_, rfl, ?_⟩
      have g7 : ((l.set 9 none).set 9 (some (itup y)))[7]? = some (some (itup x)) := by rw [List.getElem?_set_ne (by decide), List.getElem?_set_ne (by decide)]; exact h7
      have g9 : ((l.set 9 none).set 9 (some (itup y)))[9]? = some (some (itup y)) := List.getElem?_set_self (by simpa using hl)
      simp only [callM_s, consA_s, vr_s, wipeD]
      rw [g7]
      simp only [vrK_s, bind_ok, consK_s, consA_s, vr_s]
      rw [g9]
      simp only [vrK_s, bind_ok, consK_s, nilA_s, consJ_s]
      rw [law_swap_ok S (W0.ps x hx) (W0.ps y (hK y hy)) hn, rowOf_itup]
  rw [this, map_row fun y => swp x y]
theorem inner_ok {u0 u5 u8 u9 : Option D} {wd : D} {q : Nat} (W0 : Grp n B) (hn : n ≤ 1000) (hK : ∀ y ∈ K, y ∈ B) (lK : K.length ≤ 60) {u2 : Option D}
    (he : ∀ w6 w7, eK [u0, some (.bl all), u2, some wd, some (.ref q), u5, w6, w7, u8, u9] S = .ok (.fl (K.map itup)) S) : ∀ (rl pre : List Row) (w7 : Option D), pre.length + rl.length ≤ 60 → (∀ x ∈ rl, x ∈ B) →
    ∃ v7, forGo ⟨T.map itup, none⟩ (.nm 7) iB (rl.map itup) [u0, some (.bl all), u2, some wd, some (.ref q), u5, some (.fl ((swaps pre K).map itup)), w7, u8, u9] S =
      .nx [u0, some (.bl all), u2, some wd, some (.ref q), u5, some (.fl ((swaps (pre ++ rl) K).map itup)), v7, u8, u9] S
  | [], pre, w7, _, _ => ⟨w7, by rw [List.append_nil]; exact forGo_nil rfl⟩
  | x :: rl, pre, w7, hc, hr => by
    obtain ⟨v7, e⟩ := inner_ok W0 hn hK lK he rl (pre ++ [x]) (some (itup x)) (by rw [List.length_append, List.length_singleton]; rw [List.length_cons] at hc; omega) fun z hz => hr z (List.mem_cons_of_mem _ hz)
    rw [List.append_assoc, List.singleton_append] at e
    refine ⟨v7, ?_⟩
    have e1 := lc_swp (l := [u0, some (.bl all), u2, some wd, some (.ref q), u5, some (.fl ((swaps pre K).map itup)), some (itup x), u8, u9]) W0 hn (hr x List.mem_cons_self) hK (by omega) (he _ _) rfl (by simp)
    have hs : (swaps pre K).length ≤ 3600 := by rw [swaps_len]; exact Nat.mul_le_mul (show pre.length ≤ 60 by omega) lK
    have e2 := Fd.plus (F := swaps pre K) (st := S) (d := .fl ((swaps pre K).map itup)) (.inl rfl) (G := K.map fun y => swp x y) (by rw [List.length_map]; omega)
    rw [← swaps_snoc] at e2
    rw [List.map_cons, forGo_cons (l1 := [u0, some (.bl all), u2, some wd, some (.ref q), u5, some (.fl ((swaps pre K).map itup)), some (itup x), u8, u9]) rfl rfl]
    have e3 : iB [u0, some (.bl all), u2, some wd, some (.ref q), u5, some (.fl ((swaps pre K).map itup)), some (itup x), u8, u9] S = .nx [u0, some (.bl all), u2, some wd, some (.ref q), u5, some (.fl ((swaps (pre ++ [x]) K).map itup)), some (itup x), u8, u9] S := by
      simp only [iB, setM_s, b2_s, vr_s, List.getElem?_cons_succ, List.getElem?_cons_zero, vrK_s, bind_ok, b2K_s, fz_s, e1, flK_s, e2, toS_ok, setK_s, List.set_cons_succ, List.set_cons_zero]
    rw [e3, forK2_nx, e]
def tB : SM := sq (setM 6 (fz (disp nilA)))
    (sq (forM (itA (b2 ixM2 (vr 4) (negM (cst (.int 1))))) (.nm 7) iB)
    (sq (setM 8 (callM m__law_span (consA (vr 2) (consA (srtSet (vr 6)) nilA))))
    (sq (ifS (tst (b2 eqM (vr 8) (b2 ixM2 (vr 4) (negM (cst (.int 1)))))) (retM (vr 4)) nextM)
    (exprM (appM (vr 4) (vr 8))))))
theorem terms_go (k : Lk n gs B) {m : Nat} (h1 : ser k.W n all (m + 1) = ser k.W n all m) (h2 : ∀ j, j < m → ser k.W n all (j + 1) ≠ ser k.W n all j) (hm : m ≤ 6) {q : Nat} (hq : st.length ≤ q) {u0 : Option D} {sr : Src} (hsr : ∀ S, sr.chk S = true) : ∀ (r : List D) (i : Nat) (S : Store) (w5 w6 w7 w8 : Option D), i ≤ m → m - i < r.length → st <+: S → S[q]? = some (.lst (tm k.W n all i)) →
    ∃ S', forGo sr (.nm 5) tB r [u0, some (.bl all), some (.int n), some (.fl (k.W.map itup)), some (.ref q), w5, w6, w7, w8, none] S = .rt (.ref q) S' ∧ st <+: S' ∧ S'[q]? = some (.lst (tm k.W n all m))
  | [], i, S, w5, w6, w7, w8, hi, hf, p, hS => by simp at hf
  | d5 :: r, i, S, w5, w6, w7, w8, hi, hf, p, hS => by
    have hin := ser_in (all := all) k.W0 i
    have hle : (ser k.W n all i).length ≤ 60 := Nat.le_trans (nodup_len (ser_grp k.W0 i).nd hin) k.hW
    have hWl := k.hW
    have hKin := in_if all hin
    have lK : (if all then k.W else ser k.W n all i).length ≤ 60 := by cases all <;> first | exact hWl | exact hle
    have e3 := ixM2_last hS (tm_last i)
    have heK : ∀ w6 w7, eK [u0, some (.bl all), some (.int n), some (.fl (k.W.map itup)), some (.ref q), some d5, w6, w7, w8, none] S = .ok (.fl ((if all then k.W else ser k.W n all i).map itup)) S := fun w6 w7 => by
      unfold eK
      cases all
      · simp only [ifM_s, truT_s, vr_s, List.getElem?_cons_succ, List.getElem?_cons_zero, vrK_s, bind_ok, truK_bl, ifMK_f, b2_s, b2K_s, negM_s, cst_s, negK_s, e3]
        rfl
      · simp only [ifM_s, truT_s, vr_s, List.getElem?_cons_succ, List.getElem?_cons_zero, vrK_s, bind_ok, truK_bl, ifMK_t]
        rfl
    obtain ⟨v7, e4⟩ := inner_ok (T := ser k.W n all i) (u0 := u0) (u2 := some (.int n)) (u5 := some d5) (u8 := w8) (u9 := none) (q := q) k.W0 k.hn hKin lK heK (ser k.W n all i) [] w7 (by simpa using hle) hin
    rw [List.nil_append] at e4
    have hs := swaps_in k.W0 hin hKin
    have e5 := srtSetK_fl S (swaps (ser k.W n all i) (if all then k.W else ser k.W n all i)) (swaps_ne k.W0 k.n0 hin hKin) (swaps_few k.W0 k.hW hin hKin)
    have hsul : (srt (uniq (swaps (ser k.W n all i) (if all then k.W else ser k.W n all i)))).length < 63 := by rw [(srt_perm _).length_eq]; exact swaps_few k.W0 k.hW hin hKin
    obtain ⟨S1, e6, p1⟩ := law_span_ok (gs := srt (uniq (swaps (ser k.W n all i) (if all then k.W else ser k.W n all i)))) (X := .fl ((srt (uniq (swaps (ser k.W n all i) (if all then k.W else ser k.W n all i)))).map itup)) k.W0 k.hW (fun g hg => hs g (mem_su.mp hg)) k.n0 k.hn (.inr rfl) (by omega) S
    rw [clo_congr k.W0 hs fun x => mem_su] at e6
    have e6 : m__law_span [.int n, .fl ((srt (uniq (swaps (ser k.W n all i) (if all then k.W else ser k.W n all i)))).map itup)] S = .ok (.fl ((ser k.W n all (i + 1)).map itup)) S1 := e6
    have hS1 := pre_get p1 hS
    have e7 := ixM2_last hS1 (tm_last i)
    have e8 := eqM_rows S1 (ser k.W n all (i + 1)) (ser k.W n all i)
    rw [forGo_cons (l1 := [u0, some (.bl all), some (.int n), some (.fl (k.W.map itup)), some (.ref q), some d5, w6, w7, w8, none]) (hsr S) rfl]
    have e9 : tB [u0, some (.bl all), some (.int n), some (.fl (k.W.map itup)), some (.ref q), some d5, w6, w7, w8, none] S = (if ser k.W n all (i + 1) = ser k.W n all i then Sz.rt (.ref q) S1 else
        Sz.nx [u0, some (.bl all), some (.int n), some (.fl (k.W.map itup)), some (.ref q), some d5, some (.fl ((swaps (ser k.W n all i) (if all then k.W else ser k.W n all i)).map itup)), v7, some (.fl ((ser k.W n all (i + 1)).map itup)), none] (S1.set q (.lst (tm k.W n all (i + 1))))) := by
      unfold tB
      simp only [sq_s, setM_s, fz_s, disp_s, nilA_s, bind_ok, dispK_0, flK_s, toS_ok, setK_s, sqK_nx, List.set_cons_succ, List.set_cons_zero, forM_s, itA_s, b2_s, vr_s, List.getElem?_cons_succ, List.getElem?_cons_zero, vrK_s, b2K_s, negM_s, cst_s, negK_s, e3, itAK_fl, forK_s]
      have e10 : (swaps [] (if all then k.W else ser k.W n all i)).map itup = [] := rfl
      rw [e10] at e4
      rw [e4]
      simp only [sqK_nx, sq_s, setM_s, callM_s, consA_s, vr_s, List.getElem?_cons_succ, List.getElem?_cons_zero, vrK_s, bind_ok, consK_s, srtSet_s, e5, nilA_s, consJ_s, e6, toS_ok, setK_s, List.set_cons_succ, List.set_cons_zero, ifS_s, tst_s, b2_s, b2K_s, negM_s, cst_s, negK_s, e7, e8, tstK_s]
      by_cases hc : ser k.W n all (i + 1) = ser k.W n all i
      · simp only [hc, decide_true, ifK_t, retM_s, vr_s, List.getElem?_cons_succ, List.getElem?_cons_zero, vrK_s, toS_ok, rtK_s, sqK_rt, if_true]
      · have e11 := appK_ok (st := S1) [u0, some (.bl all), some (.int n), some (.fl (k.W.map itup)), some (.ref q), some d5, some (.fl ((swaps (ser k.W n all i) (if all then k.W else ser k.W n all i)).map itup)), v7, some (.fl ((ser k.W n all (i + 1)).map itup)), none] (vr 8) hS1
        have e12 := appJ_ok (d := .fl ((ser k.W n all (i + 1)).map itup)) hS1 (by rw [tm_len]; omega)
        rw [← tm_succ] at e12
        simp only [hc, decide_false, ifK_f, nextM_s, sqK_nx, exprM_s, appM_s, vr_s, List.getElem?_cons_succ, List.getElem?_cons_zero, vrK_s, bind_ok, e11, e12, toS_ok, exK_s, if_false]
    rw [e9]
    by_cases hc : i = m
    · subst hc
      rw [if_pos h1]
      exact ⟨S1, rfl, p.trans p1, hS1⟩
    · have hlt : i < m := by omega
      rw [if_neg (h2 i hlt), forK2_nx]
      have hql := (List.getElem?_eq_some_iff.mp hS1).1
      exact terms_go k h1 h2 hm hq hsr r (i + 1) _ _ _ _ _ (by omega) (by rw [List.length_cons] at hf; omega) (pre_set (p.trans p1) hq) (List.getElem?_set_self hql)
theorem law_terms_ok (k : Lk n gs B) {m : Nat} (h1 : ser k.W n all (m + 1) = ser k.W n all m) (h2 : ∀ j, j < m → ser k.W n all (j + 1) ≠ ser k.W n all j) (hm : m ≤ 6) (st : Store) :
    ∃ q S', m__law_terms [.tup (gs.map itup), .bl all] st = .ok (.ref q) S' ∧ st <+: S' ∧ S'[q]? = some (.lst (tm k.W n all m)) := by
  obtain ⟨st1, e1, p1⟩ := law_span_ok (X := .tup (gs.map itup)) k.B0 k.hB k.sub k.n0 k.hn (.inl rfl) (by have := k.hl; omega) st
  have e1 : m__law_span [.int n, .tup (gs.map itup)] st = .ok (.fl (k.W.map itup)) st1 := e1
  obtain ⟨S', e2, p2, hS⟩ := terms_go (st := st1) (u0 := some (.tup (gs.map itup))) (sr := ⟨rngD 0 9, none⟩) k h1 h2 hm (q := st1.length) (Nat.le_refl _) (fun _ => rfl) (rngD 0 9) 0 (st1 ++ [.lst (tm k.W n all 0)]) none none none none (Nat.zero_le _) (by simp [rngD]; omega) (List.prefix_append _ _) (by rw [List.getElem?_concat_length])
  refine ⟨st1.length, S', ?_, p1.trans p2, hS⟩
  have e3 : b__law_terms = sq (setM 2 (callM lenM2 (consA (b2 ixM2 (vr 0) (cst (.int 0))) nilA))) (sq (setM 3 (callM m__law_span (consA (vr 2) (consA (vr 0) nilA)))) (sq (setM 4 (al (disp (consA (vr 3) nilA)))) (sq (forM (itR1 (consA (cst (.int 9)) nilA)) (.nm 5) tB) (retM (vr 4))))) := rfl
  have e4 : (some (D.tup (gs.map itup)) :: some (D.bl all) :: List.replicate (10 - 2) none) = [some (.tup (gs.map itup)), some (.bl all), none, none, none, none, none, none, none, none] := rfl
  have e5 : tm k.W n all 0 = [.fl (k.W.map itup)] := rfl
  have e6 := k.len (i := 0) (l := [some (.tup (gs.map itup)), some (.bl all), none, none, none, none, none, none, none, none]) rfl st
  have e7 := rngK_nat (n := 9) (by omega) (st1 ++ [O.lst [.fl (k.W.map itup)]])
  rw [e5] at e2
  simp only [m__law_terms, dfM_2, e3, e4, sq_s, setM_s]
  rw [e6]
  simp only [toS_ok, setK_s, sqK_nx, List.set_cons_succ, List.set_cons_zero, sq_s, setM_s, callM_s, consA_s, vr_s, List.getElem?_cons_succ, List.getElem?_cons_zero, vrK_s, bind_ok, consK_s, nilA_s, consJ_s, e1, al_s, disp_s, dispK_1, alK_s, forM_s, itR1_s, cst_s]
  rw [show (9 : Int) = ((9 : Nat) : Int) from rfl, e7]
  simp only [toS_ok, forK_s]
  rw [e2]
  rfl
end
end Sd
namespace Sd
set_option autoImplicit false
open PySem L2 Rf

/-! ### alike: a thing and itself -/
inductive Al : Nat → D → Prop where
  | non (k : Nat) : Al (k + 1) .non
  | int (k : Nat) (i : Int) : Al (k + 1) (.int i)
  | bl (k : Nat) (b : Bool) : Al (k + 1) (.bl b)
  | tup {k : Nat} {l : List D} : (∀ d ∈ l, Al k d) → l.length ≤ 1000000 → Al (k + 1) (.tup l)
  | fl {k : Nat} {l : List D} : (∀ d ∈ l, Al k d) → l.length ≤ 1000000 → Al (k + 1) (.fl l)
def isi2K (T U : Ty) (d : D) (st1 : Store) : Rz D := match tyD d st1 with
  | some t => .ok (.bl (isT t T || isT t U)) st1
  | none => .fail
theorem isi2M_s (T U : Ty) (a : EM D) (l : Sl) (st : Store) : isi2M T U a l st = (a l st).bind (isi2K T U) := rfl
theorem eqM_bl (a b : Bool) (st : Store) : eqM (.bl a) (.bl b) st = .ok (.bl (decide (a = b))) st := by cases a <;> cases b <;> rfl
theorem neM_bl (a b : Bool) (st : Store) : neM (.bl a) (.bl b) st = .ok (.bl (!decide (a = b))) st := by cases a <;> cases b <;> rfl
theorem al_items {r : FM} {l : List D} {w2 : Option D} {d : D} {st : Store} (hd : d = .tup l ∨ d = .fl l) (hl : l.length ≤ 1000000) (h : ∀ e ∈ l, r [e, e] st = .ok (.bl true) st) :
    lcM (itR1 (consA (callM lenM2 (consA (vr 1) nilA)) nilA)) (.nm 2) (notT (tst (callM r (consA (b2 ixM2 (vr 0) (vr 2)) (consA (b2 ixM2 (vr 1) (vr 2)) nilA))))) (vr 2) [2] [some d, some d, w2] st = .ok [] st := by
  have e0 : lenM2 [d] st = .ok (.int l.length) st := by rcases hd with rfl | rfl <;> rfl
  have e1 : ∀ i : Int, ixM2 d (.int i) st = atK (atI l i) st := fun i => by rcases hd with rfl | rfl <;> simp
  have key : ∀ ds : List D, (∀ x ∈ ds, ∃ i : Nat, x = .int (i : Nat) ∧ i < l.length) → lcGo ⟨rngD 0 l.length, none⟩ (.nm 2) (notT (tst (callM r (consA (b2 ixM2 (vr 0) (vr 2)) (consA (b2 ixM2 (vr 1) (vr 2)) nilA))))) (vr 2) [some d, some d, none] ds st = .ok [] st := by
    intro ds
    induction ds with
    | nil => intro _; simp [lcGo, Src.chk]
    | cons x ds ih =>
      intro hx
      obtain ⟨i, rfl, hi⟩ := hx _ List.mem_cons_self
      have e2 := ih fun z hz => hx z (List.mem_cons_of_mem _ hz)
      have e3 : atI l ((i : Nat) : Int) = some l[i] := Rf.atI_nat (List.getElem?_eq_getElem hi)
      have e4 := h _ (List.getElem_mem hi)
      unfold lcGo
      rw [if_pos (chk_none _ _)]
      simp only [show (T.nm 2).put (.int (i : Nat)) [some d, some d, none] = some [some d, some d, some (.int (i : Nat))] from rfl, notT_s, tst_s, callM_s, consA_s, b2_s, vr_s, List.getElem?_cons_succ, List.getElem?_cons_zero, vrK_s, bind_ok, b2K_s, e1, e3, atK_s, consK_s, nilA_s, consJ_s, e4, tstK_s, notK_s, nox_ok, Bool.not_true, e2]
      rfl
  unfold lcM
  simp only [itR1_s, consA_s, callM_s, vr_s, List.getElem?_cons_succ, List.getElem?_cons_zero, vrK_s, bind_ok, consK_s, nilA_s, consJ_s, e0]
  rw [rngK_nat hl]
  simp only [bind_ok]
  rw [if_pos (show small _ = true from Nat.ble_eq_true_of_le (by simp [rngD]; exact hl))]
  exact key _ fun x hx => by
    rw [rngD_get] at hx
    obtain ⟨i, hi, rfl⟩ := List.mem_map.mp hx
    exact ⟨i, rfl, List.mem_range.mp hi⟩
theorem alike_ok : ∀ (n : Nat) (d : D) (st : Store), Al n d → F__law_alike n [d, d] st = .ok (.bl true) st
  | 0, d, st, h => by cases h
  | n + 1, d, st, h => by
    rw [F__law_alike_succ]
    have ez : eqM (.fl []) (.fl []) st = .ok (.bl true) st := eqM_rows st [] []
    cases h with
    | non => rfl
    | int _ i => simp [b__law_alike, isi2M_s, isi2K, tyD, isT, eqM_bl]
    | bl _ b => cases b <;> rfl
    | tup hd hl =>
      rename_i l
      have e := al_items (r := F__law_alike n) (w2 := none) (d := .tup l) (st := st) (.inl rfl) hl fun e he => alike_ok n e st (hd e he)
      simp [b__law_alike, isi2M_s, isi2K, tyD, isT, neM_bl, e, ez]
    | fl hd hl =>
      rename_i l
      have e := al_items (r := F__law_alike n) (w2 := none) (d := .fl l) (st := st) (.inr rfl) hl fun e he => alike_ok n e st (hd e he)
      simp [b__law_alike, isi2M_s, isi2K, tyD, isT, neM_bl, e, ez]
theorem al_row (r : Row) (h : r.length ≤ 1000000) (k : Nat) : Al (k + 2) (itup r) := .tup (fun d hd => by
  obtain ⟨i, _, rfl⟩ := List.mem_map.mp hd
  exact .int k i) (by rw [List.length_map]; exact h)
end Sd
namespace Sd
set_option autoImplicit false
open PySem L2 Rf

section
variable {n : Nat} {gs B : List Row} {st S : Store} {p : Row}
theorem is_number_ok {x : Int} (h0 : 0 ≤ x) (h1 : x < n) (st : Store) : m_is_number [.int x, .int 0, .int ((n : Int) - 1)] st = .ok (.bl true) st := by
  have e1 : leM (.int 0) (.int x) st = .ok (.bl true) st := by
    have : leM (.int 0) (.int x) st = .ok (.bl (decide ((0 : Int) ≤ x))) st := rfl
    rw [this, decide_eq_true h0]
  have e2 : leM (.int x) (.int ((n : Int) - 1)) st = .ok (.bl true) st := by
    have : leM (.int x) (.int ((n : Int) - 1)) st = .ok (.bl (decide (x ≤ (n : Int) - 1))) st := rfl
    rw [this, decide_eq_true (by omega)]
  simp only [m_is_number, dfM_3, b_is_number, retM_s, andV_s, isiM_s, vr_s, List.getElem?_cons_succ, List.getElem?_cons_zero, vrK_s, bind_ok, isiK_int, andVK_t, isT, notV_s, notVK_s, chM_s, chK_s, chJ_s, e1, chL_t, e2, toS_ok, rtK_s, endD_rt, Bool.not_false, andVK_t]
theorem uniq_len {r : Row} (h : r.Nodup) : (uniq r).length = r.length := by
  have a := nodup_len h (m := uniq r) fun x hx => mem_uniq.mpr hx
  have b := nodup_len (nodup_uniq r) (m := r) fun x hx => mem_uniq.mp hx
  omega
theorem is_turn_ok {ti : Nat} (hp : IsP n p) (hn : n ≤ 1000) (ht : st[ti]? = some (.tb ("is_turn", none))) : ∃ st', m_is_turn ti [.int n, itup p] st = .ok (.bl true) st' ∧ st <+: st' := by
  obtain ⟨st1, e1, p1⟩ := allM_ext (n := ti) (p := ("is_turn", none)) (it := itA (vr 1)) (t := .nm 2) (el := callM m_is_number (consA (vr 2) (consA (cst (.int 0)) (consA (b2 subM (vr 0) (cst (.int 1))) nilA)))) (vs := [2]) (l := [some (.int n), some (itup p), none]) (st := st) (st1 := st) (s := ⟨p.map D.int, none⟩) (g := fun _ => true)
    (by simp [itup]) List.prefix_rfl rfl ht fun d hd => by
      obtain ⟨x, hx, rfl⟩ := List.mem_map.mp hd
      obtain ⟨h0, h1⟩ := hp.bd x hx
      refine ⟨_, rfl, fun st2 _ => ⟨st2, ?_, List.prefix_rfl⟩⟩
      have e2 : subM (.int n) (.int 1) st2 = .ok (.int ((n : Int) - 1)) st2 := rfl
      have e3 := is_number_ok h0 h1 st2
      simp [wipeD, e2, e3]
  have e4 : (p.map D.int).all (fun _ => true) = true := by simp
  simp only [e4] at e1
  have e5 : lenSetK (itup p) st1 = .ok (.int n) st1 := by
    unfold lenSetK itup
    simp only [asInts_map, uniq_len hp.nd, hp.len]
    rw [if_pos (Nat.ble_eq_true_of_le (by omega))]
  have e6 : lenM2 [itup p] st = .ok (.int n) st := by
    show lenM2 [.tup (p.map D.int)] st = _
    rw [lenM2_tup, List.length_map, hp.len]
  have e7 : isiK .tup (itup p) st = .ok (.bl true) st := rfl
  refine ⟨st1, ?_, p1⟩
  have e8 : (some (D.int n) :: some (itup p) :: List.replicate (3 - 2) none) = [some (.int n), some (itup p), none] := rfl
  simp only [m_is_turn, dfM_2, e8, b_is_turn, sq_s, ifS_s, orT_s, notT_s, tst_s, isiM_s, vr_s, List.getElem?_cons_succ, List.getElem?_cons_zero, vrK_s, bind_ok, e7, tstK_s, notK_s, Bool.not_true, orK_f, b2_s, callM_s, consA_s, consK_s, nilA_s, consJ_s, e6, b2K_s, neM_int, decide_true, toS_ok, ifK_f, nextM_s, sqK_nx, retM_s, andV_s, e1, andVK_t, lenSet_s, e5, eqM_int, rtK_s, endD_rt]
/-- a lock as the program takes it -/
structure Lk4 (n : Nat) (gs B : List Row) : Prop extends Lk n gs B where
  n2 : 2 ≤ n
  n9 : n ≤ 9
  l4 : gs.length ≤ 4
theorem pairs_map {l : List Row} {k : Nat} : ∀ d ∈ pairsD k (l.map itup), ∃ (i : Nat) (g : Row), d = .tw [.int (i : Nat), itup g] ∧ g ∈ l := by
  induction l generalizing k with
  | nil => intro d h; simp [pairsD] at h
  | cons x l ih =>
    intro d h
    rw [List.map_cons, pairsD] at h
    rcases List.mem_cons.mp h with rfl | h
    · exact ⟨k, x, rfl, List.mem_cons_self⟩
    · obtain ⟨i, g, e, hg⟩ := ih d h
      exact ⟨i, g, e, List.mem_cons_of_mem _ hg⟩
theorem need_lock_ok {ti : Nat} (k : Lk4 n gs B) (ht : st[ti]? = some (.tb ("is_turn", none))) : ∃ st', m_need_lock ti [.tup (gs.map itup)] st = .ok .non st' ∧ st <+: st' := by
  have hn := k.hn
  have k' : Lk n gs B := k.toLk
  have hpos : 0 < gs.length := List.length_pos_iff.mpr k.ne
  obtain ⟨g0, hg0⟩ : ∃ g, gs[0]? = some g := ⟨gs[0], List.getElem?_eq_getElem hpos⟩
  have g0m := List.mem_of_getElem? hg0
  have e0 : ∀ s : Store, ixM2 (.tup (gs.map itup)) (.int 0) s = .ok (itup g0) s := fun s => by
    rw [ixM2_tup]
    have : atI (gs.map itup) ((0 : Nat) : Int) = some (itup g0) := Rf.atI_nat (by rw [List.getElem?_map, hg0]; rfl)
    rw [show (0 : Int) = ((0 : Nat) : Int) from rfl, this]
    rfl
  have eg : ∀ s : Store, lenM2 [itup g0] s = .ok (.int n) s := fun s => by
    show lenM2 [.tup (g0.map D.int)] s = _
    rw [lenM2_tup, List.length_map, (k'.gp g0 g0m).len]
  have ele : ∀ (a b : Int) (s : Store), a ≤ b → leM (.int a) (.int b) s = .ok (.bl true) s := fun a b s h => by
    have : leM (.int a) (.int b) s = .ok (.bl (decide (a ≤ b))) s := rfl
    rw [this, decide_eq_true h]
  have e1 := ele 1 ((gs.map itup).length : Nat) st (by rw [List.length_map]; omega)
  have e2 := ele ((gs.map itup).length : Nat) 4 st (by rw [List.length_map]; have := k.l4; omega)
  have e3 := ele 2 (n : Int) st (by have := k.n2; omega)
  have e4 := ele (n : Int) 9 st (by have := k.n9; omega)
  obtain ⟨l', S1, e5, J⟩ := forGo_ind (s := ⟨pairsD 0 (gs.map itup), none⟩) (t := .tp [(.nm 1), (.nm 2)]) (body := ifS (notT (tst (callM (m_is_turn ti) (consA (callM lenM2 (consA (b2 ixM2 (vr 0) (cst (.int 0))) nilA)) (consA (vr 2) nilA))))) (raise1 "BadLock" "place" (consA (vr 1) nilA)) nextM)
    (fun r l S => (∀ d ∈ r, ∃ (i : Nat) (g : Row), d = .tw [.int (i : Nat), itup g] ∧ g ∈ gs) ∧ (∃ u v, l = [some (.tup (gs.map itup)), u, v]) ∧ st <+: S) (fun _ _ _ _ => rfl) (fun d r l S h => by
      obtain ⟨h1, ⟨u, v, rfl⟩, pS⟩ := h
      obtain ⟨i, g, rfl, hg⟩ := h1 d List.mem_cons_self
      obtain ⟨S2, e6, p2⟩ := is_turn_ok (st := S) (ti := ti) (k'.gp g hg) hn (pre_get pS ht)
      refine ⟨_, _, S2, rfl, .inl ?_, fun z hz => h1 z (List.mem_cons_of_mem _ hz), ⟨some (.int i), some (itup g), rfl⟩, pS.trans p2⟩
      show ifS _ _ _ [some (.tup (gs.map itup)), some (.int i), some (itup g)] S = _
      simp only [ifS_s, notT_s, tst_s, callM_s, consA_s, b2_s, vr_s, List.getElem?_cons_succ, List.getElem?_cons_zero, vrK_s, bind_ok, b2K_s, cst_s, e0, consK_s, nilA_s, consJ_s, eg, e6, tstK_s, notK_s, Bool.not_true, toS_ok, ifK_f, nextM_s])
    (pairsD 0 (gs.map itup)) [some (.tup (gs.map itup)), none, none] st ⟨fun d hd => pairs_map d hd, ⟨none, none, rfl⟩, List.prefix_rfl⟩
  obtain ⟨_, ⟨u, v, rfl⟩, pS⟩ := J
  obtain ⟨S2, e7, p2⟩ := turns_of_ok k' S1
  refine ⟨S2, ?_, pS.trans p2⟩
  have e8 : (some (D.tup (gs.map itup)) :: List.replicate (3 - 1) none) = [some (.tup (gs.map itup)), none, none] := rfl
  have e9 : isiK .tup (itup g0) st = .ok (.bl true) st := rfl
  simp only [m_need_lock, dfM_1, e8, b_need_lock, sq_s, ifS_s, orT_s, notT_s, tst_s, isiM_s, vr_s, List.getElem?_cons_zero, vrK_s, bind_ok, isiK_tup, isT, tstK_s, notK_s, Bool.not_true, orK_f, chM_s, cst_s, chK_s, callM_s, consA_s, consK_s, nilA_s, consJ_s, lenM2_tup, chJ_s, e1, chL_t, e2, toS_ok, ifK_f, nextM_s, sqK_nx, b2_s, b2K_s, e0, e9, eg, e3, e4, forM_s, itE2_s, itE2K_tup, forK_s]
  rw [e5]
  simp only [sqK_nx, exprM_s, callM_s, consA_s, vr_s, List.getElem?_cons_zero, vrK_s, bind_ok, consK_s, nilA_s, consJ_s, e7, toS_ok, exK_s]
  rfl
end
end Sd
namespace Sd
set_option autoImplicit false
open PySem L2 Rf

/-! ### the script's numbers, the row anywhere in the store -/
def rowO (s : List Int) (i r b : Int) : O := .lst [.rd (s.map .int), .int i, .int r, .int b]
def IsRow (s : List Int) (x : O) : Prop := ∃ (i : Nat) (r b : Int), x = rowO s i r b
section
variable {s : List Int} {q : Nat} {st S : Store}
theorem row_ix (hq : q < st.length) (i r b k : Int) : ixM2 (.ref q) (.int k) (st.set q (rowO s i r b)) = atK (atI [.rd (s.map .int), .int i, .int r, .int b] k) (st.set q (rowO s i r b)) := ixM2_ref _ _ _ (List.getElem?_set_self hq)
theorem row_set (hq : q < st.length) (i r b d : Int) (l : Sl) :
    setAtI l (.int d) (.ref q) (.int 1) (st.set q (rowO s i r b)) = .nx l (st.set q (rowO s d r b)) ∧ setAtI l (.int d) (.ref q) (.int 2) (st.set q (rowO s i r b)) = .nx l (st.set q (rowO s i d b)) ∧
    setAtI l (.int d) (.ref q) (.int 3) (st.set q (rowO s i r b)) = .nx l (st.set q (rowO s i r d)) := by
  have h : ∀ (k : Int) (m : Nat), ixN 4 k = some m → setAtI l (.int d) (.ref q) (.int k) (st.set q (rowO s i r b)) = .nx l (st.set q (.lst (([.rd (s.map .int), .int i, .int r, .int b] : List D).set m (.int d)))) := fun k m hm => by
    rw [setAtI_ok (ds := [.rd (s.map .int), .int i, .int r, .int b]) (m := m) l (st.set q (rowO s i r b)) k (List.getElem?_set_self hq) hm, List.set_set]
  exact ⟨h 1 1 rfl, h 2 2 rfl, h 3 3 rfl⟩
theorem taken (hq : ∃ x, st[q]? = some x ∧ IsRow s x) {many : Int} (h0 : 0 < many) (h1 : many < 1073741824) :
    ∃ (v : Nat) (x' : O), m__law_taken [.ref q, .int many] st = .ok (.int v) (st.set q x') ∧ IsRow s x' ∧ (v : Int) < many := by
  obtain ⟨x, hx, i, r, b, rfl⟩ := hq
  have hl := (List.getElem?_eq_some_iff.mp hx).1
  have e0 : st.set q (rowO s i r b) = st := by
    obtain ⟨h, e⟩ := List.getElem?_eq_some_iff.mp hx
    rw [← e, List.set_getElem_self]
  have hm : ∀ z : Int, ∃ v : Nat, z % many = (v : Int) ∧ (v : Int) < many := fun z => ⟨(z % many).toNat, (Int.toNat_of_nonneg (Int.emod_nonneg z (by omega))).symm, by rw [Int.toNat_of_nonneg (Int.emod_nonneg z (by omega))]; exact Int.emod_lt_of_pos z h0⟩
  have hmod : ∀ z st, modM (.int z) (.int many) st = .ok (.int (z % many)) st := fun z st => modM_i st z many h0
  have hdiv : ∀ z st, fdivM (.int z) (.int many) st = .ok (.int (z / many)) st := fun z st => fdivM_i st z many ⟨h0, h1⟩
  have hmodP : ∀ z st, modM (.int z) (.int 2147483647) st = .ok (.int (z % 2147483647)) st := fun z st => modM_i st z _ (by decide)
  have hdiv7 : ∀ z st, fdivM (.int z) (.int 7) st = .ok (.int (z / 7)) st := fun z st => fdivM_i st z _ (by decide)
  have htimes : ∀ z st, timesM (.int z) (.int 48271) st = .ok (.int (z * 48271)) st := fun z st => timesM_i st z _ (.inr (by decide))
  have hpow : ∀ st, powM (.int 10) (.int 18) st = .ok (.int 1000000000000000000) st := fun st => rfl
  have hi1 : (i : Int) + 1 - 1 = (i : Int) := by omega
  rw [← e0]
  by_cases hb : 0 < b
  · obtain ⟨v, ev, hv⟩ := hm b
    refine ⟨v, rowO s i r (b / many), ?_, ⟨i, r, _, rfl⟩, hv⟩
    simp [m__law_taken, b__law_taken, row_ix hl, row_set hl, hb, hmod, hdiv, ev]
  · by_cases hn : (s.length : Int) < i + 1
    · obtain ⟨v, ev, hv⟩ := hm ((r * 48271 + 11) % 2147483647 / 7)
      refine ⟨v, rowO s ((i + 1 : Nat) : Int) ((r * 48271 + 11) % 2147483647) b, ?_, ⟨i + 1, _, _, rfl⟩, hv⟩
      simp [m__law_taken, b__law_taken, row_ix hl, row_set hl, hb, hmod, hdiv, hmodP, hdiv7, htimes, hn, ev]
    · have hlt : i < s.length := by omega
      obtain ⟨c, hc⟩ : ∃ c, s[i]? = some c := ⟨s[i], List.getElem?_eq_getElem hlt⟩
      have hat : atI (s.map D.int) (i : Int) = some (.int c) := Rf.atI_nat (by rw [List.getElem?_map, hc]; rfl)
      obtain ⟨v, ev, hv⟩ := hm c
      by_cases hbig : 1000000000000000000 ≤ c
      · refine ⟨v, rowO s ((i + 1 : Nat) : Int) ((r * 48271 + c + 11) % 2147483647) (c / many), ?_, ⟨i + 1, _, _, rfl⟩, hv⟩
        simp [m__law_taken, b__law_taken, row_ix hl, row_set hl, hb, hmod, hdiv, hmodP, hdiv7, htimes, hn, ev, hi1, hat, hpow, hbig]
      · refine ⟨v, rowO s ((i + 1 : Nat) : Int) ((r * 48271 + c + 11) % 2147483647) b, ?_, ⟨i + 1, _, _, rfl⟩, hv⟩
        simp [m__law_taken, b__law_taken, row_ix hl, row_set hl, hb, hmod, hdiv, hmodP, hdiv7, htimes, hn, ev, hi1, hat, hpow, hbig]
/-- the store grows, nothing but the row at q is changed, and that is a row as ever -/
structure Gr (s : List Int) (q : Nat) (st S : Store) : Prop where
  len : st.length ≤ S.length
  same : ∀ i, i ≠ q → i < st.length → S[i]? = st[i]?
  row : ∃ x, S[q]? = some x ∧ IsRow s x
theorem Gr.refl (h : ∃ x, st[q]? = some x ∧ IsRow s x) : Gr s q st st := ⟨Nat.le_refl _, fun _ _ _ => rfl, h⟩
theorem Gr.trans {T : Store} (a : Gr s q st S) (b : Gr s q S T) : Gr s q st T := ⟨Nat.le_trans a.len b.len, fun i h1 h2 => (b.same i h1 (Nat.lt_of_lt_of_le h2 a.len)).trans (a.same i h1 h2), b.row⟩
theorem Gr.pre (a : Gr s q st S) {T : Store} (p : S <+: T) : Gr s q st T := by
  obtain ⟨x, hx, hr⟩ := a.row
  exact ⟨Nat.le_trans a.len p.length_le, fun i h1 h2 => by
    have := List.getElem?_eq_getElem (Nat.lt_of_lt_of_le h2 a.len)
    rw [pre_get p this, ← this, a.same i h1 h2], ⟨x, pre_get p hx, hr⟩⟩
theorem Gr.get (a : Gr s q st S) {i : Nat} {x : O} (h : st[i]? = some x) (hi : i ≠ q) : S[i]? = some x := (a.same i hi (List.getElem?_eq_some_iff.mp h).1).trans h
theorem Gr.set (h : ∃ x, st[q]? = some x ∧ IsRow s x) {x' : O} (hx : IsRow s x') : Gr s q st (st.set q x') := by
  obtain ⟨x, e, _⟩ := h
  exact ⟨by simp, fun i hi _ => List.getElem?_set_ne (Ne.symm hi), ⟨x', List.getElem?_set_self (List.getElem?_eq_some_iff.mp e).1, hx⟩⟩
/-- a change at a later place -/
theorem Gr.put (a : Gr s q st S) {m : Nat} {o : O} (hm : st.length ≤ m) (hq : m ≠ q) : Gr s q st (S.set m o) := by
  obtain ⟨x, e, hx⟩ := a.row
  exact ⟨by simpa using a.len, fun i h1 h2 => by rw [List.getElem?_set_ne (by omega)]; exact a.same i h1 h2, ⟨x, by rw [List.getElem?_set_ne hq]; exact e, hx⟩⟩
theorem taken' (h : ∃ x, st[q]? = some x ∧ IsRow s x) {many : Int} (h0 : 0 < many) (h1 : many < 1073741824) :
    ∃ (v : Nat) (S : Store), m__law_taken [.ref q, .int many] st = .ok (.int v) S ∧ Gr s q st S ∧ S.length = st.length ∧ (v : Int) < many := by
  obtain ⟨v, x', e, hx, hv⟩ := taken h h0 h1
  exact ⟨v, _, e, Gr.set h hx, by simp, hv⟩
/-! ### some order of 0 .. n - 1 -/
theorem isP_perm {n : Nat} {F : Row} (h : F.Perm (idp n)) : IsP n F := ⟨by rw [h.length_eq, idp_len], fun x hx => mem_idp.mp (h.mem_iff.mp hx), h.nodup_iff.mpr (isP_id n).nd⟩
theorem erase_map {α β : Type} (f : α → β) : ∀ (l : List α) (v : Nat), (l.map f).eraseIdx v = (l.eraseIdx v).map f
  | [], v => by simp
  | a :: l, 0 => rfl
  | a :: l, v + 1 => by simp [erase_map f l v]
def pB : SM := exprM (appM (vr 3) (popM (vr 2) (callM m__law_taken (consA (vr 0) (consA (callM lenM2 (consA (vr 2) nilA)) nilA)))))
theorem pB_ok {n a : Nat} {L F : Row} {w4 : Option D} (g : Gr s q st S) (ha : st.length ≤ a) (hL : S[a]? = some (.lst (L.map D.int))) (hF : S[a + 1]? = some (.lst (F.map D.int))) (hq : q < st.length) (hne : L ≠ []) (hl : L.length ≤ 1000) (hfl : F.length ≤ 1000) :
    ∃ (v : Nat) (hv : v < L.length) (S' : Store), pB [some (.ref q), some (.int n), some (.ref a), some (.ref (a + 1)), w4] S = .nx [some (.ref q), some (.int n), some (.ref a), some (.ref (a + 1)), w4] S' ∧ Gr s q st S' ∧
      S'[a]? = some (.lst ((L.eraseIdx v).map D.int)) ∧ S'[a + 1]? = some (.lst ((F ++ [L[v]]).map D.int)) := by
  have hpos : 0 < L.length := List.length_pos_iff.mpr hne
  obtain ⟨v, S1, e1, g1, l1, hv⟩ := taken' (st := S) (many := (L.length : Int)) g.row (by omega) (by omega)
  have hv : v < L.length := by omega
  have g2 := g.trans g1
  have hqa : q ≠ a := by omega
  have hL1 : S1[a]? = some (.lst (L.map D.int)) := g1.get hL (Ne.symm hqa)
  have hF1 : S1[a + 1]? = some (.lst (F.map D.int)) := g1.get hF (by omega)
  have hal := (List.getElem?_eq_some_iff.mp hL1).1
  have hbl := (List.getElem?_eq_some_iff.mp hF1).1
  have e2 : lenM2 [.ref a] S = .ok (.int L.length) S := by
    have := lenM2_ref S _ hL
    rwa [List.length_map] at this
  have e3 := appK_ok (st := S) [some (.ref q), some (.int n), some (.ref a), some (.ref (a + 1)), w4] (popM (vr 2) (callM m__law_taken (consA (vr 0) (consA (callM lenM2 (consA (vr 2) nilA)) nilA)))) hF
  have e4 : popM (vr 2) (callM m__law_taken (consA (vr 0) (consA (callM lenM2 (consA (vr 2) nilA)) nilA))) [some (.ref q), some (.int n), some (.ref a), some (.ref (a + 1)), w4] S = .ok (.int L[v]) (S1.set a (.lst ((L.eraseIdx v).map D.int))) := by
    unfold popM
    simp only [vr_s, List.getElem?_cons_succ, List.getElem?_cons_zero, vrK_s, bind_ok, hL, callM_s, consA_s, consK_s, nilA_s, consJ_s, e2, e1]
    have e6 : (L.map D.int)[v]? = some (.int L[v]) := by rw [List.getElem?_map, List.getElem?_eq_getElem hv]; rfl
    have e5 : popI (.int ((v : Nat) : Int)) a S1 = (match S1[a]? with
      | some (.lst ds) => (match ds[v]? with
        | some y => if small ds.length = true then .ok y (S1.set a (.lst (ds.eraseIdx v))) else .fail
        | none => .fail)
      | _ => .fail) := by
      unfold popI
      cases h : S1[a]? with
      | none => rfl
      | some o => cases o <;> rfl
    rw [e5, hL1]
    simp only [e6]
    rw [if_pos (show small _ = true from Nat.ble_eq_true_of_le (by rw [List.length_map]; omega)), erase_map]
  have hF2 : (S1.set a (.lst ((L.eraseIdx v).map D.int)))[a + 1]? = some (.lst (F.map D.int)) := by rw [List.getElem?_set_ne (by omega)]; exact hF1
  have e7 := appJ_ok (d := .int L[v]) hF2 (by rw [List.length_map]; omega)
  refine ⟨v, hv, _, ?_, (g2.put (o := .lst ((L.eraseIdx v).map D.int)) ha (Ne.symm hqa)).put (m := a + 1) (o := .lst (F.map D.int ++ [.int L[v]])) (by omega) (by omega), ?_, ?_⟩
  · simp only [pB, exprM_s, appM_s, vr_s, List.getElem?_cons_succ, List.getElem?_cons_zero, vrK_s, bind_ok, e3, e4, e7, toS_ok, exK_s]
  · rw [List.getElem?_set_ne (by omega), List.getElem?_set_self hal]
  · rw [List.getElem?_set_self (by simpa using hbl), List.map_append]
    rfl
theorem erase_perm : ∀ (l : Row) (v : Nat) (h : v < l.length), (l[v] :: l.eraseIdx v).Perm l
  | a :: l, 0, _ => .refl _
  | a :: l, v + 1, h => by
    have := erase_perm l v (by simpa using h)
    simp only [List.getElem_cons_succ, List.eraseIdx_cons_succ]
    exact (List.Perm.swap _ _ _).trans (this.cons a)
theorem perm_go {n a : Nat} (ha : st.length ≤ a) (hq : q < st.length) (hn : n ≤ 1000) {sr : Src} (hsr : ∀ S, sr.chk S = true) : ∀ (r : List D) (L F : Row) (S : Store) (w4 : Option D), r.length = L.length → (F ++ L).Perm (idp n) → Gr s q st S → S[a]? = some (.lst (L.map D.int)) → S[a + 1]? = some (.lst (F.map D.int)) →
    ∃ (F' : Row) (S' : Store) (v4 : Option D), forGo sr (.nm 4) pB r [some (.ref q), some (.int n), some (.ref a), some (.ref (a + 1)), w4] S = .nx [some (.ref q), some (.int n), some (.ref a), some (.ref (a + 1)), v4] S' ∧ Gr s q st S' ∧ F'.Perm (idp n) ∧ S'[a + 1]? = some (.lst (F'.map D.int))
  | [], L, F, S, w4, hr, hp, g, hL, hF => by
    have : L = [] := List.eq_nil_of_length_eq_zero hr.symm
    subst this
    rw [List.append_nil] at hp
    exact ⟨F, S, w4, forGo_nil (hsr S), g, hp, hF⟩
  | d :: r, L, F, S, w4, hr, hp, g, hL, hF => by
    have hlen := hp.length_eq
    rw [List.length_append, idp_len] at hlen
    have hr : r.length + 1 = L.length := hr
    have hne : L ≠ [] := fun e => by rw [e] at hr; simp at hr
    obtain ⟨v, hv, S1, e1, g1, hL1, hF1⟩ := pB_ok (n := n) (w4 := some d) g ha hL hF hq hne (by omega) (by omega)
    have pp := erase_perm L v hv
    have hp2 : ((F ++ [L[v]]) ++ L.eraseIdx v).Perm (idp n) := by
      rw [List.append_assoc, List.singleton_append]
      exact (List.Perm.append_left F pp).trans hp
    obtain ⟨F', S', v4, e2, g2, p2, h2⟩ := perm_go ha hq hn hsr r (L.eraseIdx v) (F ++ [L[v]]) S1 (some d) (by rw [List.length_eraseIdx_of_lt hv]; omega) hp2 g1 hL1 hF1
    refine ⟨F', S', v4, ?_, g2, p2, h2⟩
    rw [forGo_cons (l1 := [some (.ref q), some (.int n), some (.ref a), some (.ref (a + 1)), some d]) (hsr S) rfl, e1, forK2_nx, e2]
theorem permutation_ok {n : Nat} (hr : ∃ x, st[q]? = some x ∧ IsRow s x) (hn : n ≤ 1000) :
    ∃ (p : Row) (S : Store), m__law_permutation [.ref q, .int n] st = .ok (itup p) S ∧ Gr s q st S ∧ IsP n p := by
  obtain ⟨x, hx, hrow⟩ := id hr
  have hq := (List.getElem?_eq_some_iff.mp hx).1
  have e0 := rgK_nat st (n := n) (by omega)
  have p0 : st <+: (st ++ [O.lst ((idp n).map D.int)]) ++ [.lst (([] : Row).map D.int)] := by rw [List.append_assoc]; exact List.prefix_append _ _
  obtain ⟨F, S, v4, e1, g1, pm, hF⟩ := perm_go (s := s) (st := st) (q := q) (n := n) (a := st.length) (Nat.le_refl _) hq hn (sr := ⟨rngD 0 n, none⟩) (fun _ => rfl) (rngD 0 n) (idp n) [] ((st ++ [.lst ((idp n).map D.int)]) ++ [.lst (([] : Row).map D.int)]) none (by simp [rngD, idp_len]) (by simp) ((Gr.refl hr).pre p0)
    (by rw [List.getElem?_append_left (by simp), List.getElem?_concat_length]) (by
      have : st.length + 1 = (st ++ [O.lst ((idp n).map D.int)]).length := by simp
      rw [this, List.getElem?_concat_length])
  refine ⟨F, S, ?_, g1, isP_perm pm⟩
  have e2 : b__law_permutation = sq (parM 2 3 (consA (al (rgM (vr 1))) (consA (al (disp nilA)) nilA))) (sq (forM (itR1 (consA (vr 1) nilA)) (.nm 4) pB) (retM (callM tupOf (consA (vr 3) nilA)))) := rfl
  have e3 : (some (D.ref q) :: some (D.int n) :: List.replicate (5 - 2) none) = [some (.ref q), some (.int n), none, none, none] := rfl
  have e4 : tupOf [.ref (st.length + 1)] S = .ok (itup F) S := by
    simp [tupOf, lof, hF, itup]
  have e5 : (st ++ [O.lst (rngD 0 n)]).length = st.length + 1 := by simp
  have e6 := rngK_nat (n := n) (by omega) ((st ++ [O.lst (rngD 0 n)]) ++ [O.lst []])
  have e7 : (([] : Row).map D.int) = [] := rfl
  rw [e7, ← rngD_idp] at e1
  simp only [m__law_permutation, dfM_2, e3, e2, sq_s, parM_s, consA_s, al_s, rgM_s, vr_s, List.getElem?_cons_succ, List.getElem?_cons_zero, vrK_s, bind_ok, e0, alK_s, consK_s, disp_s, nilA_s, dispK_0, consJ_s, toS_ok, parK_s, sqK_nx, List.set_cons_succ, List.set_cons_zero, e5, forM_s, itR1_s, e6, forK_s]
  rw [e1]
  simp only [sqK_nx, retM_s, callM_s, consA_s, vr_s, List.getElem?_cons_succ, List.getElem?_cons_zero, vrK_s, bind_ok, consK_s, nilA_s, consJ_s, e4, toS_ok, rtK_s, endD_rt]
end
end Sd
namespace Sd
set_option autoImplicit false
open PySem L2 Rf

/-! ### the span, run by the kernel -/
def spF (n : Nat) (gs : List Row) : Nat → List Row
  | 0 => [idp n]
  | k + 1 => match (spF n gs k)[k]? with
    | some x => spF n gs k ++ spN gs (spF n gs k) x
    | none => spF n gs k
section
variable {n : Nat} {gs G : List Row} {o p r : Row}
theorem spF_I : ∀ k, SpI n gs (spF n gs k) k
  | 0 => spI0
  | k + 1 => by
    have ih := spF_I k
    unfold spF
    cases h : (spF n gs k)[k]? with
    | none =>
      simp only
      exact ih.skip (by
        rw [List.getElem?_eq_none_iff] at h
        exact h)
    | some x =>
      simp only
      exact ih.step h
def isPb (n : Nat) (p : Row) : Bool := decide (p.length = n) && (p.all fun x => decide (0 ≤ x ∧ x < (n : Int))) && decide p.Nodup
theorem isPb_ok (h : isPb n p = true) : IsP n p := by
  unfold isPb at h
  rw [Bool.and_eq_true, Bool.and_eq_true] at h
  exact ⟨of_decide_eq_true h.1.1, fun x hx => of_decide_eq_true (List.all_eq_true.mp h.1.2 x hx), of_decide_eq_true h.2⟩
/-- rows that make up at most m, all told -/
theorem grp_of {m : Nat} (hg : gs.all (isPb n) = true) (hl : (spF n gs m).length ≤ m) : Grp n (srt (spF n gs m)) ∧ (srt (spF n gs m)).length = (spF n gs m).length ∧ ∀ g ∈ gs, g ∈ srt (spF n gs m) := by
  have gp : ∀ g ∈ gs, IsP n g := fun g h => isPb_ok (List.all_eq_true.mp hg g h)
  have a := (spF_I (n := n) (gs := gs) m).all hl
  exact ⟨a.grp gp, (srt_perm _).length_eq, fun g h => (a.mem g).mpr (Cl.gen gp h)⟩
/-! ### other names -/
def conj (o p : Row) : Row := beh (beh (bk o) p) o
theorem isP_conj (ho : IsP n o) (hp : IsP n p) : IsP n (conj o p) := ((isP_bk ho).beh hp).beh ho
theorem ev_conj (ho : IsP n o) (hp : IsP n p) {i : Nat} (hi : i < n) : ev (conj o p) (ev o i) = ev o (ev p i) := by
  have h1 := (ho.at hi).2
  unfold conj
  rw [ev_beh ((isP_bk ho).beh hp) h1, ev_beh (isP_bk ho) h1, ev_bk_l ho hi]
theorem conj_mul (ho : IsP n o) (hp : IsP n p) (hr : IsP n r) : conj o (beh p r) = beh (conj o p) (conj o r) := by
  have hb := isP_bk ho
  unfold conj
  rw [beh_assoc (hb.beh hp) ho ((hb.beh hr).beh ho), beh_assoc hb hr ho, ← beh_assoc ho hb (hr.beh ho), beh_bk ho, id_beh (hr.beh ho), ← beh_assoc hb hp hr, beh_assoc (hb.beh hp) hr ho]
theorem conj_id (ho : IsP n o) : conj o (idp n) = idp n := by
  unfold conj
  rw [beh_id (isP_bk ho), bk_beh ho]
theorem conj_inj (ho : IsP n o) (hp : IsP n p) (hr : IsP n r) (e : conj o p = conj o r) : p = r := by
  have hb := isP_bk ho
  exact cancel_l hp hr hb (cancel_r (hb.beh hp) (hb.beh hr) ho e)
theorem Grp.conj (G0 : Grp n G) (ho : IsP n o) : Grp n (G.map (conj o)) := by
  refine ⟨List.pairwise_map.mpr (G0.nd.imp_of_mem fun {a b} ha hb hne e => hne (conj_inj ho (G0.ps a ha) (G0.ps b hb) e)), fun x hx => ?_, List.mem_map.mpr ⟨idp n, G0.one, conj_id ho⟩, fun x hx y hy => ?_⟩
  · obtain ⟨a, ha, rfl⟩ := List.mem_map.mp hx
    exact isP_conj ho (G0.ps a ha)
  · obtain ⟨a, ha, rfl⟩ := List.mem_map.mp hx
    obtain ⟨b, hb, rfl⟩ := List.mem_map.mp hy
    exact List.mem_map.mpr ⟨beh a b, G0.mul a ha b hb, conj_mul ho (G0.ps a ha) (G0.ps b hb)⟩
/-! ### all orders of up to four things -/
def words (n : Nat) : Nat → List Row
  | 0 => [[]]
  | k + 1 => ((idp n).map fun x => (words n k).map fun w => x :: w).flatten
theorem mem_words : ∀ (k : Nat) (p : Row), p.length = k → (∀ x ∈ p, 0 ≤ x ∧ x < (n : Int)) → p ∈ words n k
  | 0, p, h, _ => by
    have := List.eq_nil_of_length_eq_zero h
    subst this
    exact List.mem_singleton.mpr rfl
  | k + 1, [], h, _ => by cases h
  | k + 1, x :: p, h, hb => by
    refine List.mem_flatten.mpr ⟨_, List.mem_map.mpr ⟨x, mem_idp.mpr (hb x List.mem_cons_self), rfl⟩, List.mem_map.mpr ⟨p, mem_words k p (by simpa using h) fun y hy => hb y (List.mem_cons_of_mem _ hy), rfl⟩⟩
def symG (n : Nat) : List Row := if n = 2 then [[1, 0]] else if n = 3 then [[1, 2, 0], [1, 0, 2]] else [[1, 2, 3, 0], [1, 0, 2, 3]]
theorem sym_facts : ∀ n : Fin 5, 2 ≤ n.val → (symG n.val).all (isPb n.val) = true ∧ (spF n.val (symG n.val) 24).length ≤ 24 ∧ (spF n.val (symG n.val) 24).length ∈ [2, 6, 24] ∧ (words n.val n.val).all (fun p => !decide p.Nodup || decide (p ∈ spF n.val (symG n.val) 24)) = true := by decide +kernel
theorem sym_grp (h2 : 2 ≤ n) (h4 : n ≤ 4) : ∃ B, Grp n B ∧ B.length ∈ [2, 6, 24] ∧ ∀ p, IsP n p → p ∈ B := by
  obtain ⟨a, b, c, d⟩ := sym_facts ⟨n, by omega⟩ h2
  obtain ⟨g1, g2, _⟩ := grp_of a b
  refine ⟨_, g1, by rw [g2]; exact c, fun p hp => ?_⟩
  have := List.all_eq_true.mp d p (mem_words n p hp.len hp.bd)
  rw [(srt_perm _).mem_iff]
  simpa [hp.nd] using this
end
end Sd
namespace Sd
set_option autoImplicit false
open PySem L2 Rf

/-! ### a known lock, its places named anew -/
def kA : EM (List D) := (consA (cst (.str "four")) (consA (tupM (consA (tupM (consA (cst (.int 1)) (consA (cst (.int 2)) (consA (cst (.int 3)) (consA (cst (.int 0)) nilA))))) nilA)) (consA (cst (.str "klein")) (consA (tupM (consA (tupM (consA (cst (.int 1)) (consA (cst (.int 0)) (consA (cst (.int 3)) (consA (cst (.int 2)) nilA))))) (consA (tupM (consA (cst (.int 2)) (consA (cst (.int 3)) (consA (cst (.int 0)) (consA (cst (.int 1)) nilA))))) nilA))) (consA (cst (.str "square")) (consA (tupM (consA (tupM (consA (cst (.int 1)) (consA (cst (.int 2)) (consA (cst (.int 3)) (consA (cst (.int 0)) nilA))))) (consA (tupM (consA (cst (.int 3)) (consA (cst (.int 2)) (consA (cst (.int 1)) (consA (cst (.int 0)) nilA))))) nilA))) (consA (cst (.str "cube")) (consA (tupM (consA (tupM (consA (cst (.int 1)) (consA (cst (.int 0)) (consA (cst (.int 2)) (consA (cst (.int 3)) (consA (cst (.int 4)) (consA (cst (.int 5)) nilA))))))) (consA (tupM (consA (cst (.int 0)) (consA (cst (.int 1)) (consA (cst (.int 3)) (consA (cst (.int 2)) (consA (cst (.int 4)) (consA (cst (.int 5)) nilA))))))) (consA (tupM (consA (cst (.int 0)) (consA (cst (.int 1)) (consA (cst (.int 2)) (consA (cst (.int 3)) (consA (cst (.int 5)) (consA (cst (.int 4)) nilA))))))) nilA)))) (consA (cst (.str "eight")) (consA (tupM (consA (tupM (consA (cst (.int 1)) (consA (cst (.int 2)) (consA (cst (.int 3)) (consA (cst (.int 4)) (consA (cst (.int 5)) (consA (cst (.int 6)) (consA (cst (.int 7)) (consA (cst (.int 0)) nilA))))))))) nilA)) (consA (cst (.str "nine")) (consA (tupM (consA (tupM (consA (cst (.int 1)) (consA (cst (.int 2)) (consA (cst (.int 3)) (consA (cst (.int 4)) (consA (cst (.int 5)) (consA (cst (.int 6)) (consA (cst (.int 7)) (consA (cst (.int 8)) (consA (cst (.int 0)) nilA)))))))))) nilA)) (consA (cst (.str "quaternions")) (consA (tupM (consA (tupM (consA (cst (.int 1)) (consA (cst (.int 2)) (consA (cst (.int 3)) (consA (cst (.int 0)) (consA (cst (.int 5)) (consA (cst (.int 6)) (consA (cst (.int 7)) (consA (cst (.int 4)) nilA))))))))) (consA (tupM (consA (cst (.int 4)) (consA (cst (.int 7)) (consA (cst (.int 6)) (consA (cst (.int 5)) (consA (cst (.int 2)) (consA (cst (.int 1)) (consA (cst (.int 0)) (consA (cst (.int 3)) nilA))))))))) nilA))) (consA (cst (.str "threes")) (consA (tupM (consA (tupM (consA (cst (.int 1)) (consA (cst (.int 2)) (consA (cst (.int 0)) (consA (cst (.int 3)) (consA (cst (.int 4)) (consA (cst (.int 5)) nilA))))))) (consA (tupM (consA (cst (.int 0)) (consA (cst (.int 1)) (consA (cst (.int 2)) (consA (cst (.int 4)) (consA (cst (.int 5)) (consA (cst (.int 3)) nilA))))))) nilA))) (consA (cst (.str "three")) (consA (tupM (consA (tupM (consA (cst (.int 1)) (consA (cst (.int 2)) (consA (cst (.int 0)) nilA)))) (consA (tupM (consA (cst (.int 1)) (consA (cst (.int 0)) (consA (cst (.int 2)) nilA)))) nilA))) (consA (cst (.str "tetra")) (consA (tupM (consA (tupM (consA (cst (.int 1)) (consA (cst (.int 2)) (consA (cst (.int 0)) (consA (cst (.int 3)) nilA))))) (consA (tupM (consA (cst (.int 1)) (consA (cst (.int 0)) (consA (cst (.int 3)) (consA (cst (.int 2)) nilA))))) nilA))) (consA (cst (.str "six")) (consA (tupM (consA (tupM (consA (cst (.int 1)) (consA (cst (.int 2)) (consA (cst (.int 0)) (consA (cst (.int 3)) (consA (cst (.int 4)) nilA)))))) (consA (tupM (consA (cst (.int 0)) (consA (cst (.int 1)) (consA (cst (.int 2)) (consA (cst (.int 4)) (consA (cst (.int 3)) nilA)))))) nilA))) (consA (cst (.str "heis")) (consA (tupM (consA (tupM (consA (cst (.int 3)) (consA (cst (.int 4)) (consA (cst (.int 5)) (consA (cst (.int 6)) (consA (cst (.int 7)) (consA (cst (.int 8)) (consA (cst (.int 0)) (consA (cst (.int 1)) (consA (cst (.int 2)) nilA)))))))))) (consA (tupM (consA (cst (.int 0)) (consA (cst (.int 1)) (consA (cst (.int 2)) (consA (cst (.int 4)) (consA (cst (.int 5)) (consA (cst (.int 3)) (consA (cst (.int 8)) (consA (cst (.int 6)) (consA (cst (.int 7)) nilA)))))))))) nilA))) (consA (cst (.str "five")) (consA (tupM (consA (tupM (consA (cst (.int 1)) (consA (cst (.int 2)) (consA (cst (.int 3)) (consA (cst (.int 4)) (consA (cst (.int 0)) nilA)))))) (consA (tupM (consA (cst (.int 1)) (consA (cst (.int 2)) (consA (cst (.int 0)) (consA (cst (.int 3)) (consA (cst (.int 4)) nilA)))))) nilA))) (consA (cst (.str "whole")) (consA (tupM (consA (tupM (consA (cst (.int 1)) (consA (cst (.int 2)) (consA (cst (.int 3)) (consA (cst (.int 0)) nilA))))) (consA (tupM (consA (cst (.int 1)) (consA (cst (.int 0)) (consA (cst (.int 2)) (consA (cst (.int 3)) nilA))))) nilA))) (consA (cst (.str "ten")) (consA (tupM (consA (tupM (consA (cst (.int 1)) (consA (cst (.int 2)) (consA (cst (.int 3)) (consA (cst (.int 4)) (consA (cst (.int 0)) nilA)))))) (consA (tupM (consA (cst (.int 0)) (consA (cst (.int 4)) (consA (cst (.int 3)) (consA (cst (.int 2)) (consA (cst (.int 1)) nilA)))))) nilA))) nilA))))))))))))))))))))))))))))))
def kDS : List D := match kA [] [] with
  | .ok ds _ => ds
  | _ => []
theorem kA_ok (l : Sl) (st : Store) : kA l st = .ok kDS st := rfl
def kKV : List (Key × D) := (pairK kDS).getD []
theorem kKV_ok : pairK kDS = some kKV ∧ kKV.length ≤ 15 ∧ (kKV.map (·.1)).Nodup := by
  refine ⟨rfl, by decide +kernel, by decide +kernel⟩
theorem dctK_ok (l : Sl) (st : Store) : dctK kA l st = .ok (.ref st.length) (st ++ [.dK kKV]) := by
  unfold dctK
  rw [kA_ok]
  simp only [bind_ok, kKV_ok.1, List.getElem?_concat_length]
  rw [if_pos kKV_ok.2, List.set_append_right _ _ (Nat.le_refl _), Nat.sub_self]
  rfl
section
variable {s : List Int} {q n : Nat} {st S : Store} {o p : Row} {gs : List Row}
def rB : SM := setAt (b2 ixM2 (vr 4) (vr 9)) (vr 7) (b2 ixM2 (vr 4) (vr 8))
theorem rel_go (ho : IsP n o) (hp : IsP n p) (hn : n ≤ 1000) {a : Nat} (haq : a ≠ q) (ha : st.length ≤ a) {u0 u1 u2 u3 u5 : Option D} : ∀ (r : List D) (k : Nat) (F : Row) (S : Store) (w8 w9 : Option D), r = pairsD k ((p.map D.int).drop k) → k ≤ n → Gr s q st S → S[a]? = some (.lst (F.map D.int)) → F.length = n → (∀ i, i < k → F[ev o i]? = some ((ev o (ev p i) : Nat) : Int)) →
    ∃ S' v8 v9, forGo ⟨pairsD 0 (p.map D.int), none⟩ (.tp [(.nm 8), (.nm 9)]) rB r [u0, u1, u2, u3, some (itup o), u5, some (itup p), some (.ref a), w8, w9] S = .nx [u0, u1, u2, u3, some (itup o), u5, some (itup p), some (.ref a), v8, v9] S' ∧ Gr s q st S' ∧ S'.length = S.length ∧ S'[a]? = some (.lst ((conj o p).map D.int)) ∧ ∀ i, i ≠ a → S'[i]? = S[i]?
  | [], k, F, S, w8, w9, hr, hk, g, hS, hF, hI => by
    have hkn : k = n := by
      have := congrArg List.length hr
      rw [pairsD_len, List.length_drop, List.length_map, hp.len, List.length_nil] at this
      omega
    subst hkn
    have eF : F = conj o p := by
      have pc := isP_conj ho hp
      apply List.ext_getElem?
      intro j
      by_cases hj : j < k
      · have h1 := ((isP_bk ho).at hj).2
        have h2 := hI _ h1
        have h3 := ev_conj ho hp h1
        rw [ev_bk_r ho hj] at h2 h3
        rw [h2, ← h3, (pc.at hj).1]
      · rw [List.getElem?_eq_none (by omega), List.getElem?_eq_none (by rw [pc.len]; omega)]
    exact ⟨S, w8, w9, forGo_nil rfl, g, rfl, eF ▸ hS, fun _ _ => rfl⟩
  | d :: r, k, F, S, w8, w9, hr, hk, g, hS, hF, hI => by
    have hlt : k < n := Classical.byContradiction fun hc => by
      rw [List.drop_eq_nil_of_le (by rw [List.length_map, hp.len]; omega)] at hr
      cases hr
    obtain ⟨g1, g2⟩ := hp.at hlt
    rw [pairsD_drop (d := .int (ev p k : Nat)) (by rw [List.getElem?_map, g1]; rfl)] at hr
    obtain ⟨rfl, hr2⟩ := List.cons.inj hr
    obtain ⟨o1, o2⟩ := ho.at hlt
    obtain ⟨o3, o4⟩ := ho.at g2
    have e1 : ixM2 (itup o) (.int (k : Nat)) S = .ok (.int (ev o k : Nat)) S := by
      show ixM2 (.tup (o.map D.int)) _ S = _
      rw [ixM2_tup, Rf.atI_nat (x := .int (ev o k : Nat)) (by rw [List.getElem?_map, o1]; rfl)]
      rfl
    have e2 : ixM2 (itup o) (.int (ev p k : Nat)) S = .ok (.int (ev o (ev p k) : Nat)) S := by
      show ixM2 (.tup (o.map D.int)) _ S = _
      rw [ixM2_tup, Rf.atI_nat (x := .int (ev o (ev p k) : Nat)) (by rw [List.getElem?_map, o3]; rfl)]
      rfl
    have e3 := setAtI_ok (l := [u0, u1, u2, u3, some (itup o), u5, some (itup p), some (.ref a), some (.int (k : Nat)), some (.int (ev p k : Nat))]) (d := .int (ev o (ev p k) : Nat)) (st := S) (z := (ev o k : Nat)) hS (ixN_nat (by rw [List.length_map, hF]; exact o2))
    have hal := (List.getElem?_eq_some_iff.mp hS).1
    obtain ⟨S', v8, v9, e4, g4, l4, h4, k4⟩ := rel_go ho hp hn haq ha (u0 := u0) (u1 := u1) (u2 := u2) (u3 := u3) (u5 := u5) r (k + 1) (F.set (ev o k) (ev o (ev p k) : Nat)) (S.set a (.lst ((F.map D.int).set (ev o k) (.int (ev o (ev p k) : Nat))))) (some (.int (k : Nat))) (some (.int (ev p k : Nat))) hr2 hlt (g.put ha haq)
      (by rw [List.getElem?_set_self hal, List.map_set]) (by rw [List.length_set, hF]) (fun i hi => by
        by_cases hik : i = k
        · subst hik
          exact List.getElem?_set_self (by rw [hF]; exact o2)
        · rw [List.getElem?_set_ne fun e => hik (ho.inj (by omega) hlt e.symm)]
          exact hI i (by omega))
    refine ⟨S', v8, v9, ?_, g4, by rw [l4]; simp, h4, fun i hi => by rw [k4 i hi, List.getElem?_set_ne (Ne.symm hi)]⟩
    rw [forGo_cons (l1 := [u0, u1, u2, u3, some (itup o), u5, some (itup p), some (.ref a), some (.int (k : Nat)), some (.int (ev p k : Nat))]) rfl rfl]
    have e5 : rB [u0, u1, u2, u3, some (itup o), u5, some (itup p), some (.ref a), some (.int (k : Nat)), some (.int (ev p k : Nat))] S = .nx [u0, u1, u2, u3, some (itup o), u5, some (itup p), some (.ref a), some (.int (k : Nat)), some (.int (ev p k : Nat))] (S.set a (.lst ((F.map D.int).set (ev o k) (.int (ev o (ev p k) : Nat))))) := by
      simp only [rB, setAt_s, b2_s, vr_s, List.getElem?_cons_succ, List.getElem?_cons_zero, vrK_s, bind_ok, b2K_s, e2, toS_ok, setAtK_s, setAtJ_s, e1, e3]
    rw [e5, forK2_nx, e4]
def nB : SM := sq (setM 7 (al (repL (fz (disp (consA (cst (.int 0)) nilA))) (callM lenM2 (consA (vr 6) nilA)))))
    (sq (forM (itE2 (vr 6)) (.tp [(.nm 8), (.nm 9)]) rB) (exprM (appM (vr 5) (callM tupOf (consA (vr 7) nilA)))))
/-- one turn, named anew -/
theorem nB_ok (ho : IsP n o) (hp : IsP n p) (hn : n ≤ 1000) {f : Nat} {L : List Row} (hf : st.length ≤ f) (hfq : f ≠ q) (g : Gr s q st S) (hS : S[f]? = some (.lst (L.map itup))) (hL : L.length ≤ 1000) (hqs : q < st.length) {u0 u1 u2 u3 w7 w8 w9 : Option D} :
    ∃ S' v7 v8 v9, nB [u0, u1, u2, u3, some (itup o), some (.ref f), some (itup p), w7, w8, w9] S = .nx [u0, u1, u2, u3, some (itup o), some (.ref f), some (itup p), v7, v8, v9] S' ∧ Gr s q st S' ∧ S'[f]? = some (.lst ((L ++ [conj o p]).map itup)) := by
  have hfl := (List.getElem?_eq_some_iff.mp hS).1
  have e1 := repJ_fl (st := S) (u := [.int 0]) (z := n) ⟨by omega, by omega, by simp⟩
  have e2 : rep [D.int 0] n = (List.replicate n (0 : Int)).map D.int := by
    unfold rep
    rw [List.map_replicate]
    simp
  rw [Int.toNat_natCast, e2] at e1
  have e3 : ∀ T : Store, lenM2 [itup p] T = .ok (.int n) T := fun T => by
    show lenM2 [.tup (p.map D.int)] T = _
    rw [lenM2_tup, List.length_map, hp.len]
  obtain ⟨S1, v8, v9, e4, g4, l4, h4, k4⟩ := rel_go ho hp hn (a := S.length) (by omega) g.len (u0 := u0) (u1 := u1) (u2 := u2) (u3 := u3) (u5 := some (.ref f)) (pairsD 0 (p.map D.int)) 0 (List.replicate n 0) (S ++ [.lst ((List.replicate n (0 : Int)).map D.int)]) w8 w9 rfl (Nat.zero_le _) (g.pre (List.prefix_append _ _)) (by rw [List.getElem?_concat_length]) List.length_replicate (fun i hi => by omega)
  have hS1 : S1[f]? = some (.lst (L.map itup)) := by rw [k4 f (by omega), List.getElem?_append_left hfl]; exact hS
  have e5 : tupOf [.ref S.length] S1 = .ok (itup (conj o p)) S1 := by
    simp [tupOf, lof, h4, itup]
  have e6 := appK_ok (st := S1) [u0, u1, u2, u3, some (itup o), some (.ref f), some (itup p), some (.ref S.length), v8, v9] (callM tupOf (consA (vr 7) nilA)) hS1
  have e7 := appJ_ok (d := itup (conj o p)) hS1 (by rw [List.length_map]; omega)
  have hfl1 := (List.getElem?_eq_some_iff.mp hS1).1
  refine ⟨_, some (.ref S.length), v8, v9, ?_, g4.put (m := f) (o := .lst (L.map itup ++ [itup (conj o p)])) hf hfq, by rw [List.getElem?_set_self hfl1, List.map_append]; rfl⟩
  have e8 : itE2K (itup p) (S ++ [O.lst ((List.replicate n (0 : Int)).map D.int)]) = .ok ⟨pairsD 0 (p.map D.int), none⟩ (S ++ [O.lst ((List.replicate n (0 : Int)).map D.int)]) := rfl
  simp only [nB, sq_s, setM_s, al_s, repL_s, fz_s, disp_s, consA_s, cst_s, bind_ok, consK_s, nilA_s, consJ_s, dispK_1, flK_s, repK_s, callM_s, vr_s, List.getElem?_cons_succ, List.getElem?_cons_zero, vrK_s, e3, e1, alK_s, toS_ok, setK_s, sqK_nx, List.set_cons_succ, List.set_cons_zero, forM_s, itE2_s, e8, forK_s]
  rw [e4]
  simp only [sqK_nx, exprM_s, appM_s, vr_s, List.getElem?_cons_succ, List.getElem?_cons_zero, vrK_s, bind_ok, e6, callM_s, consA_s, consK_s, nilA_s, consJ_s, e5, e7, toS_ok, exK_s]
theorem named_go (ho : IsP n o) (hn : n ≤ 1000) {f : Nat} (hf : st.length ≤ f) (hfq : f ≠ q) (hqs : q < st.length) {sr : Src} (hsr : ∀ S, sr.chk S = true) {u0 u1 u2 u3 : Option D} : ∀ (r L : List Row) (S : Store) (w6 w7 w8 w9 : Option D), (∀ g ∈ r, IsP n g) → L.length + r.length ≤ 1000 → Gr s q st S → S[f]? = some (.lst (L.map itup)) →
    ∃ S' v6 v7 v8 v9, forGo sr (.nm 6) nB (r.map itup) [u0, u1, u2, u3, some (itup o), some (.ref f), w6, w7, w8, w9] S = .nx [u0, u1, u2, u3, some (itup o), some (.ref f), v6, v7, v8, v9] S' ∧ Gr s q st S' ∧ S'[f]? = some (.lst ((L ++ r.map (conj o)).map itup))
  | [], L, S, w6, w7, w8, w9, _, _, g, hS => ⟨S, w6, w7, w8, w9, forGo_nil (hsr S), g, by simpa using hS⟩
  | x :: r, L, S, w6, w7, w8, w9, hr, hl, g, hS => by
    rw [List.length_cons] at hl
    obtain ⟨S1, v7, v8, v9, e1, g1, h1⟩ := nB_ok (u0 := u0) (u1 := u1) (u2 := u2) (u3 := u3) (w7 := w7) (w8 := w8) (w9 := w9) ho (hr x List.mem_cons_self) hn hf hfq g hS (by omega) hqs
    obtain ⟨S2, x6, x7, x8, x9, e2, g2, h2⟩ := named_go ho hn hf hfq hqs hsr (u0 := u0) (u1 := u1) (u2 := u2) (u3 := u3) r (L ++ [conj o x]) S1 (some (itup x)) v7 v8 v9 (fun z hz => hr z (List.mem_cons_of_mem _ hz)) (by rw [List.length_append, List.length_singleton]; omega) g1 h1
    refine ⟨S2, x6, x7, x8, x9, ?_, g2, by rw [h2, List.append_assoc]; rfl⟩
    rw [List.map_cons, forGo_cons (l1 := [u0, u1, u2, u3, some (itup o), some (.ref f), some (itup x), w7, w8, w9]) (hsr S) rfl, e1, forK2_nx, e2]
end
end Sd
namespace Sd
set_option autoImplicit false
open PySem L2 Rf

def sizes : List Nat := [2, 4, 6, 8, 9, 10, 12, 24, 27, 60]
def nOf (gs : List Row) : Nat := (gs.headD []).length
def chkGs (gs : List Row) : Bool := decide (gs ≠ [] ∧ 2 ≤ nOf gs ∧ nOf gs ≤ 9 ∧ gs.length ≤ 3) && gs.all (isPb (nOf gs)) && decide ((spF (nOf gs) gs 60).length ≤ 60) && decide ((spF (nOf gs) gs 60).length ∈ sizes)
def chkName (x : Str) : Bool := match kfind kKV (.inr x) with
  | some (.tup l) => decide (l = (l.map rowOf).map itup) && chkGs (l.map rowOf)
  | _ => false
section
variable {s : List Int} {q n : Nat} {st S : Store} {o p : Row} {gs : List Row}
theorem chkName_ok {x : Str} (h : chkName x = true) : ∃ gs, kfind kKV (.inr x) = some (.tup (gs.map itup)) ∧ chkGs gs = true := by
  unfold chkName at h
  split at h
  · rename_i l hl
    rw [Bool.and_eq_true] at h
    refine ⟨l.map rowOf, ?_, h.2⟩
    rw [hl]
    exact congrArg (fun z => some (D.tup z)) (of_decide_eq_true h.1)
  · cases h
theorem chkGs_ok (h : chkGs gs = true) (ho : IsP (nOf gs) o) : ∃ B, Lk4 (nOf gs) (gs.map (conj o)) B ∧ B.length ∈ sizes ∧ ∀ g ∈ gs, IsP (nOf gs) g := by
  unfold chkGs at h
  rw [Bool.and_eq_true, Bool.and_eq_true, Bool.and_eq_true] at h
  obtain ⟨⟨⟨h1, h2⟩, h3⟩, h4⟩ := h
  obtain ⟨a1, a2, a3, a4⟩ := of_decide_eq_true h1
  have h3 := of_decide_eq_true h3
  have h4 := of_decide_eq_true h4
  obtain ⟨g1, g2, g3⟩ := grp_of h2 h3
  have hlen : ((srt (spF (nOf gs) gs 60)).map (conj o)).length = (spF (nOf gs) gs 60).length := by rw [List.length_map, g2]
  refine ⟨(srt (spF (nOf gs) gs 60)).map (conj o), ⟨⟨Grp.conj g1 ho, by rw [hlen]; exact h3, fun g hg => ?_, by simpa using a1, by omega, by omega, by rw [List.length_map]; omega⟩, a2, a3, by rw [List.length_map]; omega⟩, by rw [hlen]; exact h4, fun g hg => isPb_ok (List.all_eq_true.mp h2 g hg)⟩
  obtain ⟨z, hz, rfl⟩ := List.mem_map.mp hg
  exact List.mem_map.mpr ⟨z, g3 z hz, rfl⟩
theorem pick_ok {l : List D} (hr : ∃ x, st[q]? = some x ∧ IsRow s x) (h0 : l ≠ []) (hl : l.length ≤ 1000) : ∃ (d : D) (S : Store), d ∈ l ∧ m__law_pick [.ref q, .fl l] st = .ok d S ∧ Gr s q st S := by
  have hpos := List.length_pos_iff.mpr h0
  obtain ⟨v, S, e1, g1, _, hv⟩ := taken' (many := (l.length : Int)) hr (by omega) (by omega)
  have hv : v < l.length := by omega
  refine ⟨l[v], S, List.getElem_mem hv, ?_, g1⟩
  have e2 : atI l ((v : Nat) : Int) = some l[v] := Rf.atI_nat (List.getElem?_eq_getElem hv)
  have e3 : (some (D.ref q) :: some (D.fl l) :: List.replicate (2 - 2) none) = [some (.ref q), some (.fl l)] := rfl
  simp only [m__law_pick, dfM_2, e3, b__law_pick, retM_s, b2_s, vr_s, List.getElem?_cons_succ, List.getElem?_cons_zero, vrK_s, bind_ok, b2K_s, callM_s, consA_s, consK_s, nilA_s, consJ_s, lenM2_fl, e1, ixM2_fl, e2, atK_s, toS_ok, rtK_s, endD_rt]
theorem known_ok3 {nm : List Str} (hr : ∃ x, st[q]? = some x ∧ IsRow s x) (h0 : nm ≠ []) (hl : nm.length ≤ 1000) (hc : ∀ x ∈ nm, chkName x = true) :
    ∃ n gs B S, m__law_known [.ref q, .fl (nm.map D.str)] st = .ok (.tup (gs.map itup)) S ∧ Gr s q st S ∧ Lk4 n gs B ∧ B.length ∈ sizes ∧ gs.length ≤ 3 := by
  obtain ⟨x0, hx0, hrow⟩ := id hr
  have hq := (List.getElem?_eq_some_iff.mp hx0).1
  have g0 : Gr s q st (st ++ [.dK kKV]) := (Gr.refl hr).pre (List.prefix_append _ _)
  obtain ⟨d, S1, hd, e1, g1⟩ := pick_ok (st := st ++ [.dK kKV]) (l := nm.map D.str) g0.row (by simpa using h0) (by simpa using hl)
  obtain ⟨x, hx, rfl⟩ := List.mem_map.mp hd
  obtain ⟨gs, hk, hg⟩ := chkName_ok (hc x hx)
  have hD : S1[st.length]? = some (.dK kKV) := g1.get (by rw [List.getElem?_concat_length]) (by omega)
  have e2 := ixM2_dK S1 (k := x) hD
  rw [hk] at e2
  have hne : gs ≠ [] ∧ 2 ≤ nOf gs ∧ nOf gs ≤ 9 ∧ gs.length ≤ 3 := by
    unfold chkGs at hg
    rw [Bool.and_eq_true, Bool.and_eq_true, Bool.and_eq_true] at hg
    exact of_decide_eq_true hg.1.1.1
  have e3 : ∀ T : Store, (ixM2 (.tup (gs.map itup)) (.int 0) T).bind (fun d st2 => lenM2 [d] st2) = .ok (.int (nOf gs)) T := fun T => by
    cases gs with
    | nil => exact absurd rfl hne.1
    | cons g gs =>
      rw [ixM2_tup, List.map_cons, atI_0]
      show lenM2 [.tup (g.map D.int)] T = _
      rw [lenM2_tup, List.length_map]
      rfl
  obtain ⟨e4, e4l⟩ : ∃ d0, ixM2 (.tup (gs.map itup)) (.int 0) S1 = .ok d0 S1 ∧ lenM2 [d0] S1 = .ok (.int (nOf gs)) S1 := by
    have := e3 S1
    cases gs with
    | nil => exact absurd rfl hne.1
    | cons g gs =>
      refine ⟨itup g, by rw [ixM2_tup, List.map_cons, atI_0]; rfl, ?_⟩
      rw [ixM2_tup, List.map_cons, atI_0] at this
      exact this
  have g01 := g0.trans g1
  obtain ⟨o, S2, e5, g2, ho⟩ := permutation_ok (st := S1) (n := nOf gs) g1.row (by omega)
  obtain ⟨B, k4, hB, hgp⟩ := chkGs_ok hg ho
  have g02 := g01.trans g2
  obtain ⟨S3, v6, v7, v8, v9, e6, g3, h3⟩ := named_go (s := s) (q := q) (st := st) (f := S2.length) (sr := ⟨gs.map itup, none⟩) ho (by omega) g02.len (by have := g02.len; omega) hq (fun _ => rfl) (u0 := some (.ref q)) (u1 := some (.fl (nm.map D.str))) (u2 := some (.ref st.length)) (u3 := some (.tup (gs.map itup))) gs [] (S2 ++ [.lst []]) none none none none hgp (by simp; omega) (g02.pre (List.prefix_append _ _)) (by rw [List.getElem?_concat_length]; rfl)
  rw [List.nil_append] at h3
  refine ⟨nOf gs, gs.map (conj o), B, S3, ?_, g3, k4, hB, by rw [List.length_map]; omega⟩
  have e7 : b__law_known = sq (setM 2 (dctK kA)) (sq (setM 3 (b2 ixM2 (vr 2) (callM m__law_pick (consA (vr 0) (consA (vr 1) nilA))))) (sq (setM 4 (callM m__law_permutation (consA (vr 0) (consA (callM lenM2 (consA (b2 ixM2 (vr 3) (cst (.int 0))) nilA)) nilA)))) (sq (setM 5 (al (disp nilA))) (sq (forM (itA (vr 3)) (.nm 6) nB) (retM (callM tupOf (consA (vr 5) nilA))))))) := rfl
  have e8 : (some (D.ref q) :: some (D.fl (nm.map D.str)) :: List.replicate (10 - 2) none) = [some (.ref q), some (.fl (nm.map D.str)), none, none, none, none, none, none, none, none] := rfl
  have e9 : tupOf [.ref S2.length] S3 = .ok (.tup ((gs.map (conj o)).map itup)) S3 := by
    simp [tupOf, lof, h3]
  simp only [m__law_known, dfM_2, e8, e7, sq_s, setM_s, dctK_ok, toS_ok, setK_s, sqK_nx, List.set_cons_succ, List.set_cons_zero, b2_s, vr_s, List.getElem?_cons_succ, List.getElem?_cons_zero, vrK_s, bind_ok, b2K_s, callM_s, consA_s, consK_s, nilA_s, consJ_s, e1, e2, atK_s, cst_s, e4l.1, e4l.2, e5, al_s, disp_s, dispK_0, alK_s, forM_s, itA_s, itAK_tup, forK_s]
  rw [e6]
  simp only [sqK_nx, retM_s, callM_s, consA_s, vr_s, List.getElem?_cons_succ, List.getElem?_cons_zero, vrK_s, bind_ok, consK_s, nilA_s, consJ_s, e9, toS_ok, rtK_s, endD_rt]
/-! ### small locks, as they come -/
theorem perms_go (hn : n ≤ 1000) {u1 : Option D} {sr : Src} (hsr : ∀ S, sr.chk S = true) : ∀ (r : List D) (S : Store), (∃ x, S[q]? = some x ∧ IsRow s x) →
    ∃ (ps : List Row) (S' : Store), lcGo sr (.nm 3) yesM (callM m__law_permutation (consA (vr 0) (consA (vr 2) nilA))) [some (.ref q), u1, some (.int n), none] r S = .ok (ps.map itup) S' ∧ Gr s q S S' ∧ ps.length = r.length ∧ ∀ p ∈ ps, IsP n p
  | [], S, h => ⟨[], S, by simp [lcGo, hsr], Gr.refl h, rfl, fun p hp => by simp at hp⟩
  | d :: r, S, h => by
    obtain ⟨p, S1, e1, g1, hp⟩ := permutation_ok (n := n) h hn
    obtain ⟨ps, S2, e2, g2, l2, hps⟩ := perms_go hn hsr (u1 := u1) r S1 g1.row
    refine ⟨p :: ps, S2, ?_, g1.trans g2, by simp [l2], fun z hz => ?_⟩
    · unfold lcGo
      rw [if_pos (hsr S)]
      simp only [show (T.nm 3).put d [some (.ref q), u1, some (.int n), none] = some [some (.ref q), u1, some (.int n), some d] from rfl, yesM_s, nox_ok, bind_ok, if_true, callM_s, consA_s, vr_s, List.getElem?_cons_succ, List.getElem?_cons_zero, vrK_s, consK_s, nilA_s, consJ_s, e1, e2]
      rfl
    · rcases List.mem_cons.mp hz with rfl | hz
      · exact hp
      · exact hps z hz
theorem lock_ok3 {nm : List Str} (hr : ∃ x, st[q]? = some x ∧ IsRow s x) (h0 : nm ≠ []) (hl : nm.length ≤ 1000) (hc : ∀ x ∈ nm, chkName x = true) :
    ∃ n gs B S, m__law_lock [.ref q, .fl (nm.map D.str)] st = .ok (.tup (gs.map itup)) S ∧ Gr s q st S ∧ Lk4 n gs B ∧ B.length ∈ sizes ∧ gs.length ≤ 3 := by
  obtain ⟨v, S1, e1, g1, _, hv⟩ := taken' (many := 3) hr (by decide) (by decide)
  have e8 : (some (D.ref q) :: some (D.fl (nm.map D.str)) :: List.replicate (4 - 2) none) = [some (.ref q), some (.fl (nm.map D.str)), none, none] := rfl
  by_cases hv0 : 0 < v
  · obtain ⟨n, gs, B, S2, e2, g2, k, hB⟩ := known_ok3 (st := S1) g1.row h0 hl hc
    refine ⟨n, gs, B, S2, ?_, g1.trans g2, k, hB⟩
    have e3 : gtM (.int v) (.int 0) S1 = .ok (.bl true) S1 := by
      have : gtM (.int v) (.int 0) S1 = .ok (.bl (decide ((0 : Int) < (v : Int)))) S1 := rfl
      rw [this, decide_eq_true (by omega)]
    simp only [m__law_lock, dfM_2, e8, b__law_lock, sq_s, ifS_s, tst_s, b2_s, callM_s, consA_s, vr_s, List.getElem?_cons_succ, List.getElem?_cons_zero, vrK_s, bind_ok, consK_s, cst_s, nilA_s, consJ_s, e1, b2K_s, e3, tstK_s, toS_ok, ifK_t, retM_s, e2, rtK_s, sqK_rt, endD_rt]
  · have e3 : gtM (.int v) (.int 0) S1 = .ok (.bl false) S1 := by
      have : gtM (.int v) (.int 0) S1 = .ok (.bl (decide ((0 : Int) < (v : Int)))) S1 := rfl
      rw [this, decide_eq_false (by omega)]
    obtain ⟨w, S2, e4, g2, _, hw⟩ := taken' (st := S1) (many := 3) g1.row (by decide) (by decide)
    obtain ⟨y, S3, e5, g3, _, hy⟩ := taken' (st := S2) (many := 2) g2.row (by decide) (by decide)
    obtain ⟨B, B0, hB, hall⟩ := sym_grp (n := 2 + w) (by omega) (by omega)
    obtain ⟨ps, S4, e6, g4, l4, hps⟩ := perms_go (n := 2 + w) (by omega) (u1 := some (.fl (nm.map D.str))) (sr := ⟨rngD 0 (1 + y), none⟩) (fun _ => rfl) (rngD 0 (1 + y)) S3 g3.row
    have hlen : ps.length = 1 + y := by rw [l4]; simp [rngD]
    have hBl : B.length ≤ 24 := by
      simp only [List.mem_cons, List.mem_nil_iff, or_false] at hB
      omega
    refine ⟨2 + w, ps, B, S4, ?_, ((g1.trans g2).trans g3).trans g4, ⟨⟨B0, by omega, fun g hg => hall g (hps g hg), fun e => by rw [e] at hlen; simp at hlen; omega, by omega, by omega, by omega⟩, by omega, by omega, by omega⟩, ?_⟩
    · have e9 : plusM (.int 2) (.int w) S2 = .ok (.int ((2 + w : Nat) : Int)) S2 := by
        have : plusM (.int 2) (.int w) S2 = .ok (.int ((2 : Int) + w)) S2 := rfl
        rw [this]
        congr 2
      have e10 : plusM (.int 1) (.int y) S3 = .ok (.int ((1 + y : Nat) : Int)) S3 := by
        have : plusM (.int 1) (.int y) S3 = .ok (.int ((1 : Int) + y)) S3 := rfl
        rw [this]
        congr 2
      have e11 := rngK_nat (n := 1 + y) (by omega) S3
      have e12 : lcM (itR1 (consA (b2 plusM (cst (.int 1)) (callM m__law_taken (consA (vr 0) (consA (cst (.int 2)) nilA)))) nilA)) (.nm 3) yesM (callM m__law_permutation (consA (vr 0) (consA (vr 2) nilA))) [3] [some (.ref q), some (.fl (nm.map D.str)), some (.int ((2 + w : Nat) : Int)), none] S2 = .ok (ps.map itup) S4 := by
        unfold lcM
        simp only [itR1_s, consA_s, b2_s, cst_s, bind_ok, b2K_s, callM_s, vr_s, List.getElem?_cons_succ, List.getElem?_cons_zero, vrK_s, consK_s, nilA_s, consJ_s, e5, e10, e11]
        rw [if_pos (show small _ = true from Nat.ble_eq_true_of_le (by simp [rngD]; omega))]
        exact e6
      simp only [m__law_lock, dfM_2, e8, b__law_lock, sq_s, ifS_s, tst_s, b2_s, callM_s, consA_s, vr_s, List.getElem?_cons_succ, List.getElem?_cons_zero, vrK_s, bind_ok, consK_s, cst_s, nilA_s, consJ_s, e1, b2K_s, e3, tstK_s, toS_ok, ifK_f, nextM_s, sqK_nx, setM_s, e4, e9, setK_s, List.set_cons_succ, List.set_cons_zero, retM_s, fz_s, e12, flK_s, tupOf_fl, rtK_s, endD_rt]
    · simp only [List.mem_cons, List.mem_nil_iff, or_false] at hB
      refine ⟨?_, by omega⟩
      unfold sizes
      rcases hB with h | h | h <;> rw [h] <;> decide
theorem known_ok {nm : List Str} (hr : ∃ x, st[q]? = some x ∧ IsRow s x) (h0 : nm ≠ []) (hl : nm.length ≤ 1000) (hc : ∀ x ∈ nm, chkName x = true) :
    ∃ n gs B S, m__law_known [.ref q, .fl (nm.map D.str)] st = .ok (.tup (gs.map itup)) S ∧ Gr s q st S ∧ Lk4 n gs B ∧ B.length ∈ sizes := by
  obtain ⟨n, gs, B, S, a, b, c, d, _⟩ := known_ok3 hr h0 hl hc
  exact ⟨n, gs, B, S, a, b, c, d⟩
theorem lock_ok {nm : List Str} (hr : ∃ x, st[q]? = some x ∧ IsRow s x) (h0 : nm ≠ []) (hl : nm.length ≤ 1000) (hc : ∀ x ∈ nm, chkName x = true) :
    ∃ n gs B S, m__law_lock [.ref q, .fl (nm.map D.str)] st = .ok (.tup (gs.map itup)) S ∧ Gr s q st S ∧ Lk4 n gs B ∧ B.length ∈ sizes := by
  obtain ⟨n, gs, B, S, a, b, c, d, _⟩ := lock_ok3 hr h0 hl hc
  exact ⟨n, gs, B, S, a, b, c, d⟩
end
end Sd
namespace Sd
set_option autoImplicit false
open PySem L2 Rf

/-! ### how many turns: a prime's power -/
def divs : List Nat := [1, 2, 3, 4, 5, 6, 8, 9, 10, 12, 15, 20, 24, 27, 30, 60]
theorem divs_ok : ∀ b ∈ sizes, ∀ m : Fin 61, m.val ∣ b → m.val ∈ divs := by decide +kernel
def pD (m : Nat) : D := match [2, 3, 5, 7].filter (fun p => m % p == 0) with
  | [p] => .int (p : Nat)
  | _ => .non
def fB : SM := (ifS (tst (b2 eqM (b2 modM (vr 1) (vr 2)) (cst (.int 0))))
    (sq (whGo (tst (b2 eqM (b2 modM (vr 1) (vr 2)) (cst (.int 0))))
    (augM 1 ifdivM (vr 2)) 1000)
    (retM (ifM (tst (b2 eqM (vr 1) (cst (.int 1)))) (vr 2) (cst .non))))
    nextM)
def pfB : SM := forM (itR2 (consA (cst (.int 2)) (consA (b2 plusM (vr 1) (cst (.int 1))) nilA))) (.nm 2) fB
theorem pf_rt {u w : Option D} {st : Store} {m j : Int} {d : D} {its r : List D} (h : fB [u, some (.int m), some (.int j)] st = .rt d st) : forGo ⟨its, none⟩ (.nm 2) fB (.int j :: r) [u, some (.int m), w] st = .rt d st := by
  rw [forGo_cons (l1 := [u, some (.int m), some (.int j)]) rfl rfl, h]
  rfl
theorem pf_nx {u w : Option D} {st : Store} {m j : Int} {its r : List D} (h : fB [u, some (.int m), some (.int j)] st = .nx [u, some (.int m), some (.int j)] st) : forGo ⟨its, none⟩ (.nm 2) fB (.int j :: r) [u, some (.int m), w] st = forGo ⟨its, none⟩ (.nm 2) fB r [u, some (.int m), some (.int j)] st := by
  rw [forGo_cons (l1 := [u, some (.int m), some (.int j)]) rfl rfl, h]
  rfl
def itR2J (i j : Int) (st1 : Store) : Rz Src := if -1000000 ≤ i ∧ i ≤ 1000000 ∧ -1000000 ≤ j ∧ j ≤ 1000000 then .ok ⟨rngD i (j - i).toNat, none⟩ st1 else .fail
def itR2K (ds : List D) (st1 : Store) : Rz Src := match ds with
  | [.int i, .int j] => itR2J i j st1
  | _ => .fail
theorem itR2J_ok {i j : Int} {st : Store} (h1 : -1000000 ≤ i) (h2 : i ≤ 1000000) (h3 : -1000000 ≤ j) (h4 : j ≤ 1000000) : itR2J i j st = .ok ⟨rngD i (j - i).toNat, none⟩ st := if_pos ⟨h1, h2, h3, h4⟩
theorem itR2K_s (i j : Int) (st : Store) : itR2K [.int i, .int j] st = itR2J i j st := rfl
theorem itR2_s (a : EM (List D)) (l : Sl) (st : Store) : itR2 a l st = (a l st).bind itR2K := rfl
theorem pf_start (u : Option D) (st : Store) (b y : SM) (m : Nat) (hm : 1 ≤ m ∧ m ≤ 60) : sq (forM (itR2 (consA (cst (.int 2)) (consA (b2 plusM (vr 1) (cst (.int 1))) nilA))) (.nm 2) b) y [u, some (.int (m : Nat)), none] st = sqK y (forGo ⟨rngD 2 (m - 1), none⟩ (.nm 2) b (rngD 2 (m - 1)) [u, some (.int (m : Nat)), none] st) := by
  have e1 : itR2K [.int 2, .int ((m : Int) + 1)] st = .ok ⟨rngD 2 (m - 1), none⟩ st := by
    have e : ((m : Int) + 1 - 2).toNat = m - 1 := by omega
    rw [itR2K_s, itR2J_ok (by decide) (by decide) (by omega) (by omega), e]
  have e2 : consA (cst (.int 2)) (consA (b2 plusM (vr 1) (cst (.int 1))) nilA) [u, some (.int (m : Nat)), none] st = .ok [.int 2, .int ((m : Int) + 1)] st := rfl
  rw [sq_s, forM_s, itR2_s, e2, bind_ok, e1, toS_ok, forK_s]
theorem pfB_ok (u : Option D) (st : Store) : ∀ m ∈ divs, sq pfB (retM (cst .non)) [u, some (.int (m : Nat)), none] st = .rt (pD m) st := by
  intro m hm
  have h60 : 1 ≤ m ∧ m ≤ 60 := by
    simp only [divs, List.mem_cons, List.mem_nil_iff, or_false] at hm
    omega
  have e0 := pf_start u st fB (retM (cst .non)) m h60
  unfold pfB
  rw [e0]
  clear e0 h60
  simp only [divs, List.mem_cons, List.mem_nil_iff, or_false] at hm
  rcases hm with rfl | rfl | rfl | rfl | rfl | rfl | rfl | rfl | rfl | rfl | rfl | rfl | rfl | rfl | rfl | rfl
  · rfl
  · rw [show rngD 2 (2 - 1) = .int 2 :: (rngD 2 (2 - 1)).tail from by kernel_rfl, pf_rt (d := pD 2) (by kernel_rfl)]
    rfl
  · rw [show rngD 2 (3 - 1) = .int 2 :: .int 3 :: (rngD 2 (3 - 1)).tail.tail from by kernel_rfl, pf_nx (by kernel_rfl), pf_rt (d := pD 3) (by kernel_rfl)]
    rfl
  · rw [show rngD 2 (4 - 1) = .int 2 :: (rngD 2 (4 - 1)).tail from by kernel_rfl, pf_rt (d := pD 4) (by kernel_rfl)]
    rfl
  · rw [show rngD 2 (5 - 1) = .int 2 :: .int 3 :: .int 4 :: .int 5 :: (rngD 2 (5 - 1)).tail.tail.tail.tail from by kernel_rfl, pf_nx (by kernel_rfl), pf_nx (by kernel_rfl), pf_nx (by kernel_rfl), pf_rt (d := pD 5) (by kernel_rfl)]
    rfl
  · rw [show rngD 2 (6 - 1) = .int 2 :: (rngD 2 (6 - 1)).tail from by kernel_rfl, pf_rt (d := pD 6) (by kernel_rfl)]
    rfl
  · rw [show rngD 2 (8 - 1) = .int 2 :: (rngD 2 (8 - 1)).tail from by kernel_rfl, pf_rt (d := pD 8) (by kernel_rfl)]
    rfl
  · rw [show rngD 2 (9 - 1) = .int 2 :: .int 3 :: (rngD 2 (9 - 1)).tail.tail from by kernel_rfl, pf_nx (by kernel_rfl), pf_rt (d := pD 9) (by kernel_rfl)]
    rfl
  · rw [show rngD 2 (10 - 1) = .int 2 :: (rngD 2 (10 - 1)).tail from by kernel_rfl, pf_rt (d := pD 10) (by kernel_rfl)]
    rfl
  · rw [show rngD 2 (12 - 1) = .int 2 :: (rngD 2 (12 - 1)).tail from by kernel_rfl, pf_rt (d := pD 12) (by kernel_rfl)]
    rfl
  · rw [show rngD 2 (15 - 1) = .int 2 :: .int 3 :: (rngD 2 (15 - 1)).tail.tail from by kernel_rfl, pf_nx (by kernel_rfl), pf_rt (d := pD 15) (by kernel_rfl)]
    rfl
  · rw [show rngD 2 (20 - 1) = .int 2 :: (rngD 2 (20 - 1)).tail from by kernel_rfl, pf_rt (d := pD 20) (by kernel_rfl)]
    rfl
  · rw [show rngD 2 (24 - 1) = .int 2 :: (rngD 2 (24 - 1)).tail from by kernel_rfl, pf_rt (d := pD 24) (by kernel_rfl)]
    rfl
  · rw [show rngD 2 (27 - 1) = .int 2 :: .int 3 :: (rngD 2 (27 - 1)).tail.tail from by kernel_rfl, pf_nx (by kernel_rfl), pf_rt (d := pD 27) (by kernel_rfl)]
    rfl
  · rw [show rngD 2 (30 - 1) = .int 2 :: (rngD 2 (30 - 1)).tail from by kernel_rfl, pf_rt (d := pD 30) (by kernel_rfl)]
    rfl
  · rw [show rngD 2 (60 - 1) = .int 2 :: (rngD 2 (60 - 1)).tail from by kernel_rfl, pf_rt (d := pD 60) (by kernel_rfl)]
    rfl
section
variable {n : Nat} {gs B : List Row} {X : D} {st S : Store}
theorem Lk4.W_size (k : Lk4 n gs B) (hB : B.length ∈ sizes) : k.toLk.W.length ∈ divs := by
  have h1 := k.toLk.hW
  have h2 : k.toLk.W.length ∣ B.length := k.toLk.B0.dvd k.toLk.W0 fun x hx => k.toLk.B0.cl k.toLk.sub ((k.toLk.sp.mem x).mp hx)
  exact divs_ok _ hB ⟨_, by omega⟩ h2
theorem prime_start (k : Lk n gs B) (st : Store) (y : SM) : ∃ st1, sq (setM 1 (callM lenM2 (consA (callM m_turns_of (consA (vr 0) nilA)) nilA))) y [some (.tup (gs.map itup)), none, none] st = y [some (.tup (gs.map itup)), some (.int (k.W.length : Nat)), none] st1 ∧ st <+: st1 := by
  obtain ⟨st1, e1, p1⟩ := turns_of_ok k st
  have e4 : lenM2 [.fl (k.W.map itup)] st1 = .ok (.int (k.W.length : Nat)) st1 := by rw [lenM2_fl, List.length_map]
  refine ⟨st1, ?_, p1⟩
  rw [sq_s]
  simp only [setM_s, callM_s, consA_s, vr_s, List.getElem?_cons_zero, vrK_s, bind_ok, consK_s, nilA_s, consJ_s, e1, e4, toS_ok, setK_s, sqK_nx, List.set_cons_succ, List.set_cons_zero]
theorem prime_b : m_prime_of = dfM 1 3 (sq (setM 1 (callM lenM2 (consA (callM m_turns_of (consA (vr 0) nilA)) nilA))) (sq pfB (retM (cst .non)))) := rfl
theorem prime_of_ok (k : Lk n gs B) (hm : k.W.length ∈ divs) (st : Store) : ∃ st', m_prime_of [.tup (gs.map itup)] st = .ok (pD k.W.length) st' ∧ st <+: st' := by
  obtain ⟨st1, e1, p1⟩ := prime_start k st (sq pfB (retM (cst .non)))
  refine ⟨st1, ?_, p1⟩
  have e3 : (some (D.tup (gs.map itup)) :: List.replicate (3 - 1) none) = [some (.tup (gs.map itup)), none, none] := rfl
  rw [prime_b, dfM_1, e3, e1, pfB_ok _ _ _ hm, endD_rt]
/-! ### the terms, as tuples -/
noncomputable def tmT (W : List Row) (n : Nat) (all : Bool) (k : Nat) : List D := (List.range (k + 1)).map fun i => D.tup ((ser W n all i).map itup)
def toT (d : D) : D := match d with
  | .fl l => .tup l
  | d => d
theorem tm_toT {W : List Row} {all : Bool} {k : Nat} : (tm W n all k).map toT = tmT W n all k := by
  unfold tm tmT
  rw [List.map_map]
  rfl
theorem tmT_al {all : Bool} (k : Lk n gs B) {m : Nat} (hm : m ≤ 6) : Al 20 (.tup (tmT k.W n all m)) := by
  refine .tup (fun d hd => ?_) (by simp [tmT]; omega)
  obtain ⟨i, _, rfl⟩ := List.mem_map.mp hd
  refine .tup (fun e he => ?_) ?_
  · obtain ⟨r, hr, rfl⟩ := List.mem_map.mp he
    refine al_row r ?_ _
    have := (k.W0.ps r (ser_in k.W0 i r hr)).len
    have := k.hn
    omega
  · have := nodup_len (ser_grp (all := all) k.W0 i).nd (ser_in k.W0 i)
    have := k.hW
    rw [List.length_map]
    omega
theorem itAK_ref {q : Nat} {tl : List D} {st : Store} (h : st[q]? = some (.lst tl)) : itAK (.ref q) st = .ok ⟨tl, some (q, tl)⟩ st := by
  simp [itAK, lof, h, srcL]
/-- tuple([tuple(term) for term in a list that a def returns]) -/
theorem tuples_ok {it : EM D} {j : Nat} {l : Sl} {q : Nat} {tl : List D} (e : it l st = .ok (.ref q) S) (hq : S[q]? = some (.lst tl)) (ht : ∀ d ∈ tl, ∃ u, d = .fl u) (hl : tl.length ≤ 1000000) (hj : j < l.length) :
    lcM (itA it) (.nm j) yesM (callM tupOf (consA (vr j) nilA)) [j] l st = .ok (tl.map toT) S := by
  refine lcM_map (s := ⟨tl, some (q, tl)⟩) ?_ hl ?_ fun d hd => ?_
  · simp [e, itAK_ref hq]
  · simp [Src.chk, hq]
  · obtain ⟨u, rfl⟩ := ht d hd
    refine ⟨(wipeD l [j]).set j (some (.fl u)), rfl, ?_⟩
    have e2 : ((wipeD l [j]).set j (some (D.fl u)))[j]? = some (some (.fl u)) := List.getElem?_set_self (by simpa [wipeD] using hj)
    simp only [callM_s, consA_s, vr_s, e2, vrK_s, bind_ok, consK_s, nilA_s, consJ_s]
    rfl
end
end Sd
namespace Rf
set_option autoImplicit false
open PySem L2

/-! ### turns as a group -/
structure Prm (n : Nat) where
  r : Row
  h : IsP n r
namespace Prm
variable {n : Nat}
def mul (a b : Prm n) : Prm n := ⟨beh a.r b.r, a.h.beh b.h⟩
def inv (a : Prm n) : Prm n := ⟨bk a.r, isP_bk a.h⟩
def one : Prm n := ⟨idp n, isP_id n⟩
instance : Mul (Prm n) := ⟨mul⟩
theorem ext {a b : Prm n} (h : a.r = b.r) : a = b := by
  obtain ⟨ar, ah⟩ := a
  obtain ⟨br, bh⟩ := b
  cases h
  rfl
theorem asc (a b c : Prm n) : a * b * c = a * (b * c) := ext (beh_assoc a.h b.h c.h)
theorem one_m (a : Prm n) : one * a = a := ext (id_beh a.h)
theorem m_one (a : Prm n) : a * one = a := ext (beh_id a.h)
theorem m_inv (a : Prm n) : a * a.inv = one := ext (beh_bk a.h)
theorem inv_m (a : Prm n) : a.inv * a = one := ext (bk_beh a.h)
theorem m_inv' (a b : Prm n) : a * (a.inv * b) = b := by rw [← asc, m_inv, one_m]
theorem inv_m' (a b : Prm n) : a.inv * (a * b) = b := by rw [← asc, inv_m, one_m]
theorem inv_of {a b : Prm n} (h : a * b = one) : b = a.inv := by
  have : a.inv * (a * b) = a.inv * one := by rw [h]
  rwa [inv_m', m_one] at this
theorem inv_mul (a b : Prm n) : (a * b).inv = b.inv * a.inv := (inv_of (by rw [asc, m_inv', m_inv])).symm
theorem inv_inv (a : Prm n) : a.inv.inv = a := (inv_of (inv_m a)).symm
theorem inv_one : (one : Prm n).inv = one := (inv_of (one_m one)).symm
def sw (a b : Prm n) : Prm n := a * b * (a.inv * b.inv)
theorem sw_r (a b : Prm n) : (sw a b).r = swp a.r b.r := rfl
/-- g x g⁻¹ -/
def cj (g x : Prm n) : Prm n := g * x * g.inv
theorem sw_mul (x y w : Prm n) : sw (x * y) w = cj x (sw y w) * sw x w := by
  simp only [sw, cj, inv_mul, asc, inv_m', m_inv']
theorem sw_one (w : Prm n) : sw one w = one := by
  simp only [sw, inv_one, one_m, m_inv]
theorem sw_cj (g x w : Prm n) : sw (cj g x) w = cj g (sw x (cj g.inv w)) := by
  simp only [sw, cj, inv_mul, inv_inv, asc, inv_m', m_inv', m_inv, m_one]
theorem sw_inv (x w : Prm n) : sw x.inv w = cj x.inv (sw x w).inv := by
  simp only [sw, cj, inv_mul, inv_inv, asc, inv_m', m_inv', inv_m, m_inv, m_one]
theorem cj_mul (g x y : Prm n) : cj g (x * y) = cj g x * cj g y := by
  simp only [cj, asc, inv_m']
theorem sw_as (x w : Prm n) : sw x w = x * cj w x.inv := by
  simp only [sw, cj, asc]
end Prm
/-! ### turns by whose commutators with all of W one comes down to nothing -/
def Zc (W : List Row) (n : Nat) : Nat → Row → Prop
  | 0, x => x = idp n
  | k + 1, x => x ∈ W ∧ ∀ w ∈ W, Zc W n k (swp x w)
section
variable {n : Nat} {W T : List Row} {x y g : Row}
theorem cjr (W0 : Grp n W) (hg : g ∈ W) (hx : x ∈ W) : beh (beh g x) (bk g) ∈ W := W0.mul _ (W0.mul _ hg _ hx) _ (W0.inv hg)
theorem Zc.inW (W0 : Grp n W) : ∀ {k : Nat} {x : Row}, Zc W n k x → x ∈ W
  | 0, x, h => by rw [show x = idp n from h]; exact W0.one
  | _ + 1, _, h => h.1
theorem Zc.one (W0 : Grp n W) : ∀ k, Zc W n k (idp n)
  | 0 => rfl
  | k + 1 => ⟨W0.one, fun w hw => by
    have e : swp (idp n) w = idp n := congrArg Prm.r (Prm.sw_one ⟨w, W0.ps w hw⟩)
    rw [e]
    exact Zc.one W0 k⟩
theorem Zc.all (W0 : Grp n W) : ∀ k, (∀ x y, Zc W n k x → Zc W n k y → Zc W n k (beh x y)) ∧ (∀ g ∈ W, ∀ x, Zc W n k x → Zc W n k (beh (beh g x) (bk g)))
  | 0 => ⟨fun x y hx hy => by
      rw [show x = idp n from hx, show y = idp n from hy]
      exact id_beh (isP_id n), fun g hg x hx => by
      have pg := W0.ps g hg
      rw [show x = idp n from hx, beh_id pg]
      exact beh_bk pg⟩
  | k + 1 => by
    obtain ⟨ih1, ih2⟩ := Zc.all W0 k
    refine ⟨fun x y hx hy => ⟨W0.mul _ hx.1 _ hy.1, fun w hw => ?_⟩, fun g hg x hx => ⟨cjr W0 hg hx.1, fun w hw => ?_⟩⟩
    · have e : swp (beh x y) w = beh (beh (beh x (swp y w)) (bk x)) (swp x w) := congrArg Prm.r (Prm.sw_mul ⟨x, W0.ps x hx.1⟩ ⟨y, W0.ps y hy.1⟩ ⟨w, W0.ps w hw⟩)
      rw [e]
      exact ih1 _ _ (ih2 x hx.1 _ (hy.2 w hw)) (hx.2 w hw)
    · have pg := W0.ps g hg
      have e : swp (beh (beh g x) (bk g)) w = beh (beh g (swp x (beh (beh (bk g) w) (bk (bk g))))) (bk g) := congrArg Prm.r (Prm.sw_cj ⟨g, pg⟩ ⟨x, W0.ps x hx.1⟩ ⟨w, W0.ps w hw⟩)
      rw [e]
      exact ih2 g hg _ (hx.2 _ (cjr W0 (W0.inv hg) hw))
theorem Zc.cl (W0 : Grp n W) {k : Nat} {gs : List Row} (h : ∀ g ∈ gs, Zc W n k g) (c : Cl n gs x) : Zc W n k x := by
  induction c with
  | one => exact Zc.one W0 k
  | mul _ hg ih => exact (Zc.all W0 k).1 _ _ ih (h _ hg)
/-- a list that its commutators with W make, and that comes down to nothing, is nothing -/
theorem Zc.fall (W0 : Grp n W) (sp : SpanOf n (swaps T W) T) : ∀ k, (∀ x ∈ T, Zc W n k x) → ∀ x ∈ T, x = idp n
  | 0, h, x, hx => h x hx
  | k + 1, h, x, hx => Zc.fall W0 sp k (fun y hy => Zc.cl W0 (fun g hg => by
      obtain ⟨a, ha, b, hb, rfl⟩ := mem_swaps.mp hg
      exact (h a ha).2 b hb) ((sp.mem y).mp hy)) x hx
end
end Rf
namespace Rf
set_option autoImplicit false
open PySem L2

/-! ### commutators that never come down to nothing -/
def prn (W L : List Row) : List Row := L.filter fun x => W.any fun w => decide (swp x w ∈ L)
def prnN (W L : List Row) : Nat → List Row
  | 0 => L
  | k + 1 => prn W (prnN W L k)
section
variable {n : Nat} {W T L : List Row} {x y g : Row}
theorem Zc.up (W0 : Grp n W) : ∀ (k : Nat) (x : Row), Zc W n k x → Zc W n (k + 1) x
  | 0, x, h => by
    rw [show x = idp n from h]
    exact Zc.one W0 1
  | k + 1, x, h => ⟨h.1, fun w hw => Zc.up W0 k _ (h.2 w hw)⟩
def lf (T : List Row) (n : Nat) : List Row := T.filter fun x => !decide (x = idp n)
theorem prn_out (W0 : Grp n W) (hT : ∀ x ∈ T, x ∈ W) (cl : ∀ x ∈ T, ∀ w ∈ W, swp x w ∈ T) : ∀ (k : Nat) (x : Row), x ∈ T → x ∉ prnN W (lf T n) k → Zc W n k x
  | 0, x, hx, h => by
    refine Classical.byContradiction fun hc => h ?_
    have hc : ¬ x = idp n := hc
    exact List.mem_filter.mpr ⟨hx, by simp [hc]⟩
  | k + 1, x, hx, h => by
    by_cases hk : x ∈ prnN W (lf T n) k
    · refine ⟨hT x hx, fun w hw => prn_out W0 hT cl k _ (cl x hx w hw) fun hs => h ?_⟩
      exact List.mem_filter.mpr ⟨hk, List.any_eq_true.mpr ⟨w, hw, decide_eq_true hs⟩⟩
    · exact Zc.up W0 k x (prn_out W0 hT cl k x hx hk)
theorem prn_ne (W0 : Grp n W) (sp : SpanOf n (swaps T W) T) (hT : ∀ x ∈ T, x ∈ W) (h1 : ∃ x ∈ T, x ≠ idp n) (k : Nat) : prnN W (lf T n) k ≠ [] := fun e => by
  obtain ⟨x, hx, hn⟩ := h1
  have gp : ∀ g ∈ swaps T W, IsP n g := fun g hg => W0.ps g (swaps_in W0 hT (fun _ h => h) g hg)
  refine hn (Zc.fall W0 sp k (fun y hy => prn_out W0 hT (fun a ha w hw => (sp.mem _).mpr (Cl.gen gp (mem_swaps.mpr ⟨a, ha, w, hw, rfl⟩))) k y hy ?_) x hx)
  rw [e]
  exact List.not_mem_nil
theorem prn_sub : ∀ x ∈ prn W L, x ∈ L := fun x h => (List.mem_filter.mp h).1
theorem prnN_sub : ∀ (k : Nat), ∀ x ∈ prnN W L k, x ∈ L
  | 0, _, h => h
  | k + 1, x, h => prnN_sub k x (prn_sub x h)
theorem prnN_len_le : ∀ (k : Nat), (prnN W L k).length ≤ L.length
  | 0 => Nat.le_refl _
  | k + 1 => Nat.le_trans (List.length_filter_le _ _) (prnN_len_le k)
theorem prn_len (h : prn W L ≠ L) : (prn W L).length < L.length := by
  have h1 : (prn W L).length ≤ L.length := List.length_filter_le _ _
  rcases Nat.lt_or_eq_of_le h1 with h2 | h2
  · exact h2
  · exact absurd (List.filter_eq_self.mpr (List.length_filter_eq_length_iff.mp h2)) h
theorem prn_next (h : prn W L = L) (hx : x ∈ L) : ∃ w ∈ W, swp x w ∈ L := by
  rw [← h] at hx
  obtain ⟨w, hw, hs⟩ := List.any_eq_true.mp (List.mem_filter.mp hx).2
  exact ⟨w, hw, of_decide_eq_true hs⟩
/-- a ring: a turn and turns by whose commutators it comes back -/
def swF (x : Row) (ds : List Row) : Row := ds.foldl swp x
structure Ring (n : Nat) (W : List Row) (t : Row) (ds : List Row) : Prop where
  tW : t ∈ W
  dW : ∀ d ∈ ds, d ∈ W
  ne : ds ≠ []
  no : t ≠ idp n
  back : swF t ds = t
theorem lf_ok : ∀ x ∈ lf T n, x ∈ T ∧ x ≠ idp n := fun x h => by
  obtain ⟨h1, h2⟩ := List.mem_filter.mp h
  exact ⟨h1, by simpa using h2⟩
theorem swF_in (W0 : Grp n W) : ∀ {ds : List Row} {x : Row}, x ∈ W → (∀ d ∈ ds, d ∈ W) → swF x ds ∈ W
  | [], _, hx, _ => hx
  | d :: ds, x, hx, h => swF_in W0 (ds := ds) (W0.swp hx (h d List.mem_cons_self)) fun z hz => h z (List.mem_cons_of_mem _ hz)
/-- a walk: each next one the commutator with a deed -/
structure Wk (W L wk ds : List Row) : Prop where
  len : wk.length = ds.length + 1
  inL : ∀ x ∈ wk, x ∈ L
  inW : ∀ d ∈ ds, d ∈ W
  step : ∀ (i : Nat) (x d : Row), wk[i]? = some x → ds[i]? = some d → wk[i + 1]? = some (swp x d)
theorem Wk.fold {wk ds : List Row} (h : Wk W L wk ds) : ∀ (m i : Nat) (x : Row), ds.length - i = m → i ≤ ds.length → wk[i]? = some x → wk[ds.length]? = some (swF x (ds.drop i))
  | 0, i, x, hm, hi, hx => by
    have e : i = ds.length := by omega
    subst e
    rw [List.drop_length]
    exact hx
  | m + 1, i, x, hm, hi, hx => by
    have hl : i < ds.length := by omega
    have h1 := h.step i x ds[i] hx (List.getElem?_eq_getElem hl)
    rw [h.fold m (i + 1) _ (by omega) hl h1, List.drop_eq_getElem_cons hl]
    rfl
theorem Wk.push {wk ds : List Row} {x d : Row} (h : Wk W L wk ds) (hx : wk[ds.length]? = some x) (hd : d ∈ W) (hs : swp x d ∈ L) : Wk W L (wk ++ [swp x d]) (ds ++ [d]) := by
  refine ⟨by simp [h.len], fun y hy => ?_, fun y hy => ?_, fun i y e h1 h2 => ?_⟩
  · rcases List.mem_append.mp hy with z | z
    · exact h.inL y z
    · rw [List.mem_singleton.mp z]; exact hs
  · rcases List.mem_append.mp hy with z | z
    · exact h.inW y z
    · rw [List.mem_singleton.mp z]; exact hd
  · by_cases hi : i < ds.length
    · rw [List.getElem?_append_left hi] at h2
      rw [List.getElem?_append_left (by rw [h.len]; omega)] at h1
      rw [List.getElem?_append_left (by rw [h.len]; omega)]
      exact h.step i y e h1 h2
    · have hl := (List.getElem?_eq_some_iff.mp h2).1
      rw [List.length_append, List.length_singleton] at hl
      have ei : i = ds.length := by omega
      subst ei
      rw [List.getElem?_concat_length] at h2
      cases h2
      rw [List.getElem?_append_left (by rw [h.len]; omega), hx] at h1
      cases h1
      rw [← h.len, List.getElem?_concat_length]
end
end Rf
namespace Sd
open PySem L2 Rf
def b_ring_of (tr : Nat) : SM :=
    (sq (asgM (.tp [(.nm 1), (.nm 2)]) (tupM (consA (b2 ixM2 (callM m_lower_of (consA (vr 0) nilA)) (negM (cst (.int 1)))) (consA (callM m_turns_of (consA (vr 0) nilA)) nilA))))
    (sq (setM 3 (callM m_still (consA (callM lenM2 (consA (b2 ixM2 (vr 0) (cst (.int 0))) nilA)) nilA)))
    (sq (setM 4 (fz (lcM (itA (vr 1)) (.nm 10) (tst (b2 neM (vr 10) (vr 3))) (vr 10) [10])))
    (sq (setM 5 (cst .non))
    (sq (whGo (tst (b2 neM (vr 5) (vr 4)))
    (sq (setM 5 (vr 4))
    (setM 4 (fz (lcM (itA (vr 5)) (.nm 10) (tst (allM false tr (("ring_of", none) : Str × Option Str) (itA (vr 2)) (.nm 11) yesM (b2 inM2 (callM m_swap_of (consA (vr 10) (consA (vr 11) nilA))) (vr 5)) [11])) (vr 10) [10])))) 1000)
    (sq (ifS (notT (truT (vr 4)))
    (retM (cst .non))
    nextM)
    (sq (asgM (.tp [(.nm 6), (.nm 7)]) (tupM (consA (al (disp (consA (b2 ixM2 (vr 4) (cst (.int 0))) nilA))) (consA (al (disp nilA)) nilA))))
    (whGo (tst (cst (.bl true)))
    (sq (setM 8 (b2 ixM2 (fz (lcM (itA (vr 2)) (.nm 11) (tst (b2 inM2 (callM m_swap_of (consA (b2 ixM2 (vr 6) (negM (cst (.int 1)))) (consA (vr 11) nilA))) (vr 4))) (vr 11) [11])) (cst (.int 0))))
    (sq (exprM (appM (vr 6) (callM m_swap_of (consA (b2 ixM2 (vr 6) (negM (cst (.int 1)))) (consA (vr 8) nilA)))))
    (sq (exprM (appM (vr 7) (vr 8)))
    (ifS (tst (b2 inM2 (b2 ixM2 (vr 6) (negM (cst (.int 1)))) (s3 sliceM (vr 6) noO (onO (negM (cst (.int 1)))))))
    (sq (setM 9 (lidxM (vr 6) (b2 ixM2 (vr 6) (negM (cst (.int 1))))))
    (retM (tupM (consA (b2 ixM2 (vr 6) (vr 9)) (consA (callM tupOf (consA (s3 sliceM (vr 7) (onO (vr 9)) noO) nilA)) nilA)))))
    nextM)))) 1000))))))))
def m_ring_of (tr : Nat) : FM := dfM 1 12 (b_ring_of tr)
end Sd
namespace Sd
set_option autoImplicit false
open PySem L2 Rf

/-! ### helpers: filters of rows, any, slices, index -/
section
variable {st S : Store}
theorem lc_rows_ext {it : EM Src} {c : EM Bool} {j : Nat} {l : Sl} {W : List Row} {g : Row → Bool} (hi : it l st = .ok ⟨W.map itup, none⟩ S) (p : st <+: S) (hW : W.length ≤ 1000000) (hj : j < l.length)
    (h : ∀ x ∈ W, ∀ st2, S <+: st2 → ∃ st3, c ((wipeD l [j]).set j (some (itup x))) st2 = .ok (g x) st3 ∧ st2 <+: st3) :
    ∃ st2, lcM it (.nm j) c (vr j) [j] l st = .ok ((W.filter g).map itup) st2 ∧ st <+: st2 := by
  have hlen : j < (wipeD l [j]).length := by simpa [wipeD] using hj
  obtain ⟨st2, e, p2⟩ := lcM_ext (it := it) (t := .nm j) (c := c) (el := vr j) (vs := [j]) (l := l) (st := st) (st1 := S) (s := ⟨W.map itup, none⟩) (g := fun d => g (rowOf d)) (f := id) hi p (by simpa using hW) rfl fun d hd => by
    obtain ⟨x, hx, rfl⟩ := List.mem_map.mp hd
    refine ⟨_, rfl, fun st2 p2 => ?_⟩
    obtain ⟨st3, e3, p3⟩ := h x hx st2 p2
    refine ⟨st3, by rw [rowOf_itup]; exact e3, p3, fun _ => ⟨st3, ?_, List.prefix_rfl⟩⟩
    rw [vr_s, List.getElem?_set_self hlen]
    rfl
  refine ⟨st2, ?_, p2⟩
  rw [e]
  congr 1
  rw [List.map_id, List.filter_map]
  congr 1
  refine List.filter_congr fun x _ => ?_
  show g (rowOf (itup x)) = g x
  rw [rowOf_itup]
theorem anyGo_ext {s : Src} {t : T} {el : EM D} {l : Sl} {st : Store} {g : D → Bool} (hc : s.chk st = true) : ∀ (ds : List D),
    (∀ d ∈ ds, ∃ l1, t.put d l = some l1 ∧ ∀ st1, st <+: st1 → ∃ st2, el l1 st1 = .ok (.bl (g d)) st2 ∧ st1 <+: st2) →
    ∀ st1, st <+: st1 → ∃ st2, allGo false s t yesM el l ds st1 = .ok (.bl (ds.any g)) st2 ∧ st1 <+: st2
  | [], _, st1, p => ⟨st1, by simp [allGo, chk_mono hc p], List.prefix_rfl⟩
  | d :: ds, h, st1, p => by
    obtain ⟨l1, h1, h2⟩ := h d List.mem_cons_self
    have ih := anyGo_ext hc ds fun x hx => h x (List.mem_cons_of_mem _ hx)
    obtain ⟨st2, e2, p2⟩ := h2 st1 p
    cases hg : g d with
    | true => exact ⟨st2, by rw [hg] at e2; simp [allGo, chk_mono hc p, h1, e2, hg], p2⟩
    | false =>
      obtain ⟨st3, e3, p3⟩ := ih st2 (p.trans p2)
      refine ⟨st3, ?_, p2.trans p3⟩
      rw [hg] at e2
      simp [allGo, chk_mono hc p, h1, e2, hg, e3]
theorem anyM_ext {n : Nat} {p : Str × Option Str} {it : EM Src} {t : T} {el : EM D} {vs : List Nat} {l : Sl} {st st1 : Store} {s : Src} {g : D → Bool} (hi : it l st = .ok s st1) (pp : st <+: st1) (hc : s.chk st1 = true) (ht : st1[n]? = some (.tb p))
    (h : ∀ d ∈ s.items, ∃ l1, t.put d (wipeD l vs) = some l1 ∧ ∀ st2, st1 <+: st2 → ∃ st3, el l1 st2 = .ok (.bl (g d)) st3 ∧ st2 <+: st3) :
    ∃ st2, allM false n p it t yesM el vs l st = .ok (.bl (s.items.any g)) st2 ∧ st <+: st2 := by
  obtain ⟨st2, e, p2⟩ := anyGo_ext hc _ h st1 List.prefix_rfl
  refine ⟨st2, ?_, pp.trans p2⟩
  unfold allM
  rw [hi]
  simp only [bind_ok, ht]
  rw [if_pos trivial, e]
theorem cut_front (u : List D) : cutD u none (some (-1)) = u.dropLast := by
  unfold cutD
  rw [HT.sIx_none]
  have e : HT.sIx u.length u.length (some (-1)) = u.length - 1 := by
    show (if (-1 : Int) < 0 then ((-1 : Int) + (u.length : Int)).toNat else min (-1 : Int).toNat u.length) = _
    rw [if_pos (by decide)]
    omega
  rw [e, List.drop_zero, Nat.sub_zero, List.dropLast_eq_take]
theorem cut_from (u : List D) (k : Nat) (h : k ≤ u.length) : cutD u (some (k : Int)) none = u.drop k := by
  unfold cutD
  rw [HT.sIx_nat, HT.sIx_none, Nat.min_eq_left h]
  exact List.take_of_length_le (by rw [List.length_drop]; omega)
theorem cut_to (u : List D) (k : Nat) : cutD u none (some (k : Int)) = u.take k := by
  unfold cutD
  rw [HT.sIx_nat, HT.sIx_none, List.drop_zero, Nat.sub_zero]
  by_cases h : k ≤ u.length
  · rw [Nat.min_eq_left h]
  · rw [Nat.min_eq_right (by omega), List.take_of_length_le (Nat.le_refl _), List.take_of_length_le (by omega)]
def kR (x : Row) : NestedKey := .tup (x.map NestedKey.num)
theorem nk_row (x : Row) : nk (itup x) = some (kR x) := by
  unfold itup
  simp [nk, nks_num, kR]
theorem kR_inj {a b : Row} (h : kR a = kR b) : a = b := by
  unfold kR at h
  have h : a.map NestedKey.num = b.map NestedKey.num := by injection h
  exact List.map_inj_right (fun i j e => by cases e; rfl) |>.mp h
theorem nks_rows : ∀ L : List Row, nks (L.map itup) = some (L.map kR)
  | [] => rfl
  | x :: L => by
    have h1 := nk_row x
    have h2 := nks_rows L
    rw [List.map_cons, List.map_cons]
    unfold nks
    rw [h1, h2]
theorem idx_kR (x : Row) : ∀ L : List Row, (L.map kR).idxOf (kR x) = L.idxOf x
  | [] => rfl
  | y :: L => by
    rw [List.map_cons, List.idxOf_cons, List.idxOf_cons, idx_kR x L]
    by_cases h : y = x
    · subst h; simp
    · have h2 : ¬ kR y = kR x := fun z => h (kR_inj z)
      have e1 : (kR y == kR x) = false := beq_eq_false_iff_ne.mpr h2
      have e2 : (y == x) = false := beq_eq_false_iff_ne.mpr h
      rw [e1, e2]
theorem idxD_rows {L : List Row} {x : Row} (h : x ∈ L) : idxD (L.map itup) (itup x) = some (L.idxOf x) := by
  unfold idxD
  rw [nks_rows, nk_row]
  simp only
  rw [if_pos ⟨by simp [kR, NestedKey.depth, dep_num], List.mem_map.mpr ⟨x, h, rfl⟩⟩, idx_kR]
def lidxK (a : EM D) (l : Sl) (x : D) (st1 : Store) : Rz D := match lof x st1 with
  | some _ => (a l st1).bind fun d st2 => (match lof x st2 with
    | some ds => (match idxD ds d with
      | some j => .ok (.int (j : Nat)) st2
      | none => .fail)
    | none => .fail)
  | none => .fail
theorem lidxM_s (o a : EM D) (l : Sl) (st : Store) : lidxM o a l st = (o l st).bind (lidxK a l) := rfl
theorem lidxK_ok {a : EM D} {l : Sl} {st : Store} {q : Nat} {L : List Row} {x : Row} (h : st[q]? = some (.lst (L.map itup))) (ha : a l st = .ok (itup x) st) (hx : x ∈ L) : lidxK a l (.ref q) st = .ok (.int (L.idxOf x : Nat)) st := by
  have e : lof (.ref q) st = some (L.map itup) := by simp [lof, h]
  unfold lidxK
  rw [e]
  simp only
  rw [ha]
  simp only [bind_ok]
  rw [e]
  simp only
  rw [idxD_rows hx]
theorem inM2_ref' {q : Nat} {L : List Row} (x : Row) (h : st[q]? = some (.lst (L.map itup))) : inM2 (itup x) (.ref q) st = .ok (.bl (decide (x ∈ L))) st := by
  have e : dnOf (.ref q) st = none := by simp [dnOf, h]
  unfold inM2
  rw [e]
  simp only [inM, isIn_row st x L (d := .ref q) (by simp [lof, h]) (fun _ z => nomatch z) (fun _ z => nomatch z)]
theorem sliceM_ref {q : Nat} {u : List D} (h : st[q]? = some (.lst u)) (i j : Option Int) : sliceM (.ref q) i j st = .ok (.fl (cutD u i j)) st := by
  have e : lof (.ref q) st = some u := by simp [lof, h]
  unfold sliceM
  rw [e]
theorem asgM_tp2 {i j : Nat} {a : EM D} {l : Sl} {st1 : Store} {d e : D} (h : a l st = .ok (.tup [d, e]) st1) : asgM (.tp [.nm i, .nm j]) a l st = .nx ((l.set i (some d)).set j (some e)) st1 := by
  rw [asgM_s, h]
  rfl
theorem sq_nx {a b : SM} {l l1 : Sl} {st st1 : Store} (h : a l st = .nx l1 st1) : sq a b l st = b l1 st1 := by rw [sq_s, h]; rfl
theorem pd_rows (L : List Row) : pd (.fl (L.map itup)) = some (.list (L.map pdR)) := by simp [pd, pdAll_row]
theorem neM_rows (a b : List Row) (st : Store) : neM (.fl (a.map itup)) (.fl (b.map itup)) st = .ok (.bl (!decide (a = b))) st := by
  have e : eqD st (.fl (a.map itup)) (.fl (b.map itup)) = some (decide (a = b)) := by
    have : eqD st (.fl (a.map itup)) (.fl (b.map itup)) = (match pd (.fl (a.map itup)), pd (.fl (b.map itup)) with
      | some p, some q => if SeqAt.shaped p = true ∧ SeqAt.shaped q = true then some (PyData.eqv p q) else none
      | _, _ => none) := rfl
    rw [this, pd_rows, pd_rows]
    simp only [shaped_rows, and_self, if_true]
    exact congrArg some (eqvAll_row a b)
  unfold neM
  rw [e]
theorem neM_nonrows (b : List Row) (st : Store) : neM .non (.fl (b.map itup)) st = .ok (.bl true) st := by
  have e : eqD st .non (.fl (b.map itup)) = some false := by
    have : eqD st .non (.fl (b.map itup)) = (match pd .non, pd (.fl (b.map itup)) with
      | some p, some q => if SeqAt.shaped p = true ∧ SeqAt.shaped q = true then some (PyData.eqv p q) else none
      | _, _ => none) := rfl
    have hn : pd .non = some .none := rfl
    have hs : SeqAt.shaped .none = true := rfl
    rw [this, pd_rows, hn]
    simp only [shaped_rows, hs, and_self, if_true]
    rfl
  unfold neM
  rw [e]
  rfl
end
end Sd
namespace Sd
set_option autoImplicit false
open PySem L2 Rf

/-! ### words: plain -/
abbrev KV := List (Row × Row)
def wfold (x w : Row) : Nat → List Row → KV → KV
  | _, [], kv => kv
  | i, g :: r, kv => wfold x w (i + 1) r (if beh x g ∈ kv.map (·.1) then kv else kv ++ [(beh x g, w ++ [(i : Int)])])
def lawSt (n : Nat) (gs : List Row) : Nat → KV
  | 0 => [(idp n, [])]
  | t + 1 => match (lawSt n gs t)[t]? with
    | some p => wfold p.1 p.2 0 gs (lawSt n gs t)
    | none => lawSt n gs t
section
variable {n : Nat} {gs W : List Row} {x w y : Row} {kv : KV}
theorem wfold_pre : ∀ (r : List Row) (i : Nat) (kv : KV), kv <+: wfold x w i r kv
  | [], _, _ => List.prefix_rfl
  | g :: r, i, kv => by
    unfold wfold
    split
    · exact wfold_pre r _ _
    · exact (List.prefix_append _ _).trans (wfold_pre r _ _)
theorem wfold_len : ∀ (r : List Row) (i : Nat) (kv : KV), (wfold x w i r kv).length ≤ kv.length + r.length
  | [], _, _ => Nat.le_refl _
  | g :: r, i, kv => by
    unfold wfold
    split
    · have := wfold_len r (i + 1) kv
      rw [List.length_cons]
      omega
    · have := wfold_len r (i + 1) (kv ++ [(beh x g, w ++ [(i : Int)])])
      rw [List.length_append, List.length_singleton] at this
      rw [List.length_cons]
      omega
theorem lawSt_pre : ∀ t, lawSt n gs t <+: lawSt n gs (t + 1) := fun t => by
  show _ <+: (match (lawSt n gs t)[t]? with | some p => wfold p.1 p.2 0 gs (lawSt n gs t) | none => lawSt n gs t)
  split
  · exact wfold_pre _ _ _
  · exact List.prefix_rfl
theorem lawSt_mono {a : Nat} : ∀ {b : Nat}, a ≤ b → lawSt n gs a <+: lawSt n gs b
  | 0, h => by
    obtain rfl : a = 0 := by omega
    exact List.prefix_rfl
  | b + 1, h => by
    by_cases e : a = b + 1
    · subst e; exact List.prefix_rfl
    · exact (lawSt_mono (by omega)).trans (lawSt_pre b)
/-- what holds of the words so far: t are done -/
structure WI (n : Nat) (gs : List Row) (kv : KV) (t : Nat) : Prop where
  nd : (kv.map (·.1)).Nodup
  cl : ∀ p ∈ kv, Cl n gs p.1
  one : idp n ∈ kv.map (·.1)
  done : ∀ i p, i < t → kv[i]? = some p → ∀ g ∈ gs, beh p.1 g ∈ kv.map (·.1)
  wl : ∀ p ∈ kv, p.2.length ≤ t
theorem wfold_ok (hx : Cl n gs x) : ∀ (r : List Row) (i : Nat) (kv : KV), (∀ g ∈ r, g ∈ gs) → (kv.map (·.1)).Nodup → (∀ p ∈ kv, Cl n gs p.1) →
    ((wfold x w i r kv).map (·.1)).Nodup ∧ (∀ p ∈ wfold x w i r kv, Cl n gs p.1) ∧ ∀ g ∈ r, beh x g ∈ (wfold x w i r kv).map (·.1)
  | [], _, kv, _, nd, cl => ⟨nd, cl, fun g hg => by cases hg⟩
  | g :: r, i, kv, hr, nd, cl => by
    have hg := hr g List.mem_cons_self
    unfold wfold
    by_cases h : beh x g ∈ kv.map (·.1)
    · rw [if_pos h]
      obtain ⟨a, b, c⟩ := wfold_ok hx r (i + 1) kv (fun z hz => hr z (List.mem_cons_of_mem _ hz)) nd cl
      refine ⟨a, b, fun z hz => ?_⟩
      rcases List.mem_cons.mp hz with rfl | hz
      · exact ((wfold_pre r (i + 1) kv).map (·.1)).subset h
      · exact c z hz
    · rw [if_neg h]
      obtain ⟨a, b, c⟩ := wfold_ok hx r (i + 1) (kv ++ [(beh x g, w ++ [(i : Int)])]) (fun z hz => hr z (List.mem_cons_of_mem _ hz))
        (by rw [List.map_append]; exact List.nodup_append.mpr ⟨nd, by simp, fun p hp q hq e => h (by have hq : q ∈ [beh x g] := hq; rw [List.mem_singleton.mp hq] at e; rw [← e]; exact hp)⟩)
        (fun p hp => by
          rcases List.mem_append.mp hp with hp | hp
          · exact cl p hp
          · rw [List.mem_singleton.mp hp]; exact .mul hx hg)
      refine ⟨a, b, fun z hz => ?_⟩
      rcases List.mem_cons.mp hz with rfl | hz
      · exact ((wfold_pre r (i + 1) (kv ++ [(beh x z, w ++ [(i : Int)])])).map (·.1)).subset (by rw [List.map_append]; exact List.mem_append_right _ List.mem_cons_self)
      · exact c z hz
theorem wfold_wl : ∀ (r : List Row) (i : Nat) (kv : KV) (t : Nat), (∀ p ∈ kv, p.2.length ≤ t + 1) → w.length ≤ t → ∀ p ∈ wfold x w i r kv, p.2.length ≤ t + 1
  | [], _, kv, t, h, _ => h
  | g :: r, i, kv, t, h, hw => by
    unfold wfold
    split
    · exact wfold_wl r _ _ t h hw
    · refine wfold_wl r _ _ t (fun p hp => ?_) hw
      rcases List.mem_append.mp hp with hp | hp
      · exact h p hp
      · rw [List.mem_singleton.mp hp]
        simp
        exact hw
theorem lawSt_I : ∀ t, WI n gs (lawSt n gs t) t
  | 0 => ⟨by simp [lawSt], fun p hp => by rw [show p = (idp n, []) from by simpa [lawSt] using hp]; exact .one, by simp [lawSt], fun i p hi => by omega, fun p hp => by rw [show p = (idp n, []) from by simpa [lawSt] using hp]; exact Nat.le_refl _⟩
  | t + 1 => by
    have I := lawSt_I t
    show WI n gs (match (lawSt n gs t)[t]? with | some p => wfold p.1 p.2 0 gs (lawSt n gs t) | none => lawSt n gs t) (t + 1)
    cases e : (lawSt n gs t)[t]? with
    | none => exact ⟨I.nd, I.cl, I.one, fun i p hi hp => by
        by_cases h : i = t
        · subst h; rw [e] at hp; cases hp
        · exact I.done i p (by omega) hp, fun p hp => Nat.le_succ_of_le (I.wl p hp)⟩
    | some p =>
      show WI n gs (wfold p.1 p.2 0 gs (lawSt n gs t)) (t + 1)
      have hm := List.mem_of_getElem? e
      obtain ⟨a, b, c⟩ := wfold_ok (w := p.2) (I.cl p hm) gs 0 (lawSt n gs t) (fun _ h => h) I.nd I.cl
      have pre := wfold_pre (x := p.1) (w := p.2) gs 0 (lawSt n gs t)
      refine ⟨a, b, (pre.map (·.1)).subset I.one, fun i p' hi hp' g hg => ?_, wfold_wl gs 0 _ t (fun p hp => Nat.le_succ_of_le (I.wl p hp)) (I.wl p hm)⟩
      have hl := (List.getElem?_eq_some_iff.mp e).1
      obtain ⟨ex, hex⟩ := pre
      rw [← hex, List.getElem?_append_left (by omega)] at hp'
      by_cases h : i = t
      · subst h
        rw [e] at hp'
        cases hp'
        exact c g hg
      · have := I.done i p' (by omega) hp' g hg
        exact ((wfold_pre gs 0 _).map (·.1)).subset this
theorem WI.le {t : Nat} (I : WI n gs kv t) (W0 : Grp n W) (s : ∀ g ∈ gs, g ∈ W) : kv.length ≤ W.length := by
  have := nodup_len I.nd (m := W) fun x hx => by
    obtain ⟨p, hp, rfl⟩ := List.mem_map.mp hx
    exact W0.cl s (I.cl p hp)
  rwa [List.length_map] at this
theorem WI.all {t : Nat} (I : WI n gs kv t) (h : kv.length ≤ t) (c : Cl n gs y) : y ∈ kv.map (·.1) := by
  induction c with
  | one => exact I.one
  | mul _ hg ih =>
    obtain ⟨p, hp, rfl⟩ := List.mem_map.mp ih
    obtain ⟨i, hi⟩ := List.getElem?_of_mem hp
    exact I.done i p (by have := (List.getElem?_eq_some_iff.mp hi).1; omega) hi _ hg
/-- the word of a turn in a list of pairs -/
def wd (kv : KV) (x : Row) : Option Row := (kv.find? fun p => decide (p.1 = x)).map (·.2)
theorem wd_pre {a b : KV} (h : a <+: b) (e : wd a x = some w) : wd b x = some w := by
  obtain ⟨r, rfl⟩ := h
  unfold wd at e ⊢
  rw [List.find?_append]
  cases hf : a.find? (fun p => decide (p.1 = x)) with
  | none => rw [hf] at e; cases e
  | some p => rw [hf] at e; simpa using e
theorem wd_mem (h : x ∈ kv.map (·.1)) : ∃ w, wd kv x = some w := by
  obtain ⟨p, hp, rfl⟩ := List.mem_map.mp h
  unfold wd
  cases hf : kv.find? (fun q => decide (q.1 = p.1)) with
  | none =>
    have := List.find?_eq_none.mp hf p hp
    simp at this
  | some q => exact ⟨_, rfl⟩
theorem wd_at (nd : (kv.map (·.1)).Nodup) {i : Nat} {p : Row × Row} (h : kv[i]? = some p) : wd kv p.1 = some p.2 := by
  have hm := List.mem_of_getElem? h
  unfold wd
  cases hf : kv.find? (fun q => decide (q.1 = p.1)) with
  | none =>
    have := List.find?_eq_none.mp hf p hm
    simp at this
  | some q =>
    have h1 := List.mem_of_find?_eq_some hf
    have h2 : q.1 = p.1 := by simpa using List.find?_some hf
    obtain ⟨j, hj⟩ := List.getElem?_of_mem h1
    have hi := (List.getElem?_eq_some_iff.mp h).1
    have e1 : (kv.map (·.1))[j]? = some p.1 := by rw [List.getElem?_map, hj, ← h2]; rfl
    have e2 : (kv.map (·.1))[i]? = some p.1 := by rw [List.getElem?_map, h]; rfl
    have := (List.getElem?_inj (by rw [List.length_map]; exact (List.getElem?_eq_some_iff.mp hj).1) nd).mp (e1.trans e2.symm)
    subst this
    rw [h] at hj
    cases hj
    rfl
/-! ### words: as data -/
def kvD (kv : KV) : List (D × D) := kv.map fun p => (itup p.1, itup p.2)
theorem kvD_keys (kv : KV) : (kvD kv).map (·.1) = (kv.map (·.1)).map itup := by
  unfold kvD
  rw [List.map_map, List.map_map]
  rfl
theorem kvD_find (x : Row) : ∀ kv : KV, dfind (kvD kv) (itup x) = (wd kv x).map itup
  | [] => rfl
  | p :: kv => by
    have ih := kvD_find x kv
    show (if itup p.1 = itup x then some (itup p.2) else dfind (kvD kv) (itup x)) = _
    unfold wd at ih ⊢
    rw [List.find?_cons]
    by_cases h : p.1 = x
    · rw [if_pos (by rw [h]), decide_eq_true h]
      rfl
    · rw [if_neg (fun z => h (itup_inj z)), decide_eq_false h, ih]
theorem ixM2_dN {q : Nat} {st : Store} (h : st[q]? = some (.dN (kvD kv))) (hw : wd kv x = some w) : ixM2 (.ref q) (itup x) st = .ok (itup w) st := by
  have e : dnOf (.ref q) st = some (kvD kv) := by simp [dnOf, h]
  have e2 : dfind (kvD kv) (itup x) = some (itup w) := by rw [kvD_find, hw]; rfl
  unfold ixM2
  rw [e]
  simp only [keyD_row, if_true, e2]
end
end Sd
namespace Sd
set_option autoImplicit false
open PySem L2 Rf

/-! ### words: one turn looked at -/
/-- all stays but what stands at m and at q -/
structure Two (m q : Nat) (S S' : Store) : Prop where
  len : S'.length = S.length
  same : ∀ j, j ≠ m → j ≠ q → S'[j]? = S[j]?
section
variable {n m q : Nat} {gs W : List Row} {x w y : Row} {kv : KV} {st S : Store}
theorem Two.refl (S : Store) : Two m q S S := ⟨rfl, fun _ _ _ => rfl⟩
theorem Two.trans {T : Store} (a : Two m q st S) (b : Two m q S T) : Two m q st T := ⟨b.len.trans a.len, fun j h1 h2 => (b.same j h1 h2).trans (a.same j h1 h2)⟩
theorem Two.pre (a : Two m q S st) {s0 : Store} (h : s0 <+: S) (hm : s0.length ≤ m) (hq : s0.length ≤ q) : s0 <+: st := by
  have hl := h.length_le
  refine List.prefix_iff_eq_take.mpr ?_
  apply List.ext_getElem?
  intro j
  by_cases hj : j < s0.length
  · rw [List.getElem?_take_of_lt hj, a.same j (by omega) (by omega), pre_get h (List.getElem?_eq_getElem hj), List.getElem?_eq_getElem hj]
  · rw [List.getElem?_eq_none (by omega), List.getElem?_eq_none (by rw [List.length_take]; omega)]
def inB (bh : FM) (qi : Nat) : SM := sq (setM 8 (callM bh (consA (vr 5) (consA (vr 7) nilA))))
    (ifS (tst (b2 ninM2 (vr 8) (vr 2)))
    (sq (setAt (b2 plusM (b2 ixM2 (vr 2) (vr 5)) (tupM (consA (vr 6) nilA))) (vr 2) (vr 8))
    (exprM (appM (vr qi) (vr 8))))
    nextM)
theorem in_go {bh : FM} {qi : Nat} (hbh : ∀ (g : Row) (S : Store), IsP n g → bh [itup x, itup g] S = .ok (itup (beh x g)) S) (hmq : m ≠ q) {u0 u1 u3 u4 : Option D} {its : List D}
    (hq : ∀ (w6 w7 w8 : Option D), [u0, u1, some (D.ref m), u3, u4, some (itup x), w6, w7, w8][qi]? = some (some (.ref q))) : ∀ (r : List Row) (i : Nat) (kv : KV) (L : List Row) (S : Store) (w6 w7 w8 : Option D), (∀ g ∈ r, IsP n g) →
    S[m]? = some (.dN (kvD kv)) → S[q]? = some (.lst (L.map itup)) → wd kv x = some w → w.length ≤ 1000 → kv.length + r.length ≤ 1000 → L.length + r.length ≤ 1000 →
    ∃ S' v6 v7 v8, forGo ⟨its, none⟩ (.tp [(.nm 6), (.nm 7)]) (inB bh qi) (pairsD i (r.map itup)) [u0, u1, some (.ref m), u3, u4, some (itup x), w6, w7, w8] S = .nx [u0, u1, some (.ref m), u3, u4, some (itup x), v6, v7, v8] S' ∧
      Two m q S S' ∧ S'[m]? = some (.dN (kvD (wfold x w i r kv))) ∧ S'[q]? = some (.lst ((L ++ ((wfold x w i r kv).map (·.1)).drop kv.length).map itup))
  | [], i, kv, L, S, w6, w7, w8, _, h1, h2, _, _, _, _ => ⟨S, w6, w7, w8, forGo_nil rfl, Two.refl S, h1, by
      unfold wfold
      rw [List.drop_eq_nil_of_le (by simp), List.append_nil]
      exact h2⟩
  | g :: r, i, kv, L, S, w6, w7, w8, hr, h1, h2, hw, hwl, hk, hL => by
    rw [List.length_cons] at hk hL
    have hg := hr g List.mem_cons_self
    have e1 := hbh g S hg
    have e2 := ninM2_dN S (beh x g) (kv.map (·.1)) h1 (kvD_keys kv)
    rw [List.map_cons, pairsD, forGo_cons (l1 := [u0, u1, some (.ref m), u3, u4, some (itup x), some (.int (i : Nat)), some (itup g), w8]) rfl rfl]
    have f1 : setM 8 (callM bh (consA (vr 5) (consA (vr 7) nilA))) [u0, u1, some (.ref m), u3, u4, some (itup x), some (.int (i : Nat)), some (itup g), w8] S = .nx [u0, u1, some (.ref m), u3, u4, some (itup x), some (.int (i : Nat)), some (itup g), some (itup (beh x g))] S := by
      simp only [setM_s, callM_s, consA_s, vr_s, List.getElem?_cons_succ, List.getElem?_cons_zero, vrK_s, bind_ok, consK_s, nilA_s, consJ_s, e1, toS_ok, setK_s, List.set_cons_succ, List.set_cons_zero]
    by_cases hm : beh x g ∈ kv.map (·.1)
    · have f2 : inB bh qi [u0, u1, some (.ref m), u3, u4, some (itup x), some (.int (i : Nat)), some (itup g), w8] S = .nx [u0, u1, some (.ref m), u3, u4, some (itup x), some (.int (i : Nat)), some (itup g), some (itup (beh x g))] S := by
        unfold inB
        rw [sq_nx f1]
        simp only [ifS_s, tst_s, b2_s, vr_s, List.getElem?_cons_succ, List.getElem?_cons_zero, vrK_s, bind_ok, b2K_s, e2, decide_eq_true hm, Bool.not_true, tstK_s, toS_ok, ifK_f, nextM_s]
      obtain ⟨S', v6, v7, v8, e3, t3, m3, q3⟩ := in_go hbh hmq hq (its := its) r (i + 1) kv L S (some (.int (i : Nat))) (some (itup g)) (some (itup (beh x g))) (fun z hz => hr z (List.mem_cons_of_mem _ hz)) h1 h2 hw hwl (by omega) (by omega)
      refine ⟨S', v6, v7, v8, by rw [f2, forK2_nx, e3], t3, ?_, ?_⟩
      · unfold wfold
        rw [if_pos hm]
        exact m3
      · unfold wfold
        rw [if_pos hm]
        exact q3
    · have hml := (List.getElem?_eq_some_iff.mp h1).1
      have hql := (List.getElem?_eq_some_iff.mp h2).1
      have e3 := ixM2_dN h1 hw
      have e4 : plusM (itup w) (.tup [.int (i : Nat)]) S = .ok (itup (w ++ [(i : Int)])) S := by
        have := plusM_tup (u := w.map D.int) (v := [.int (i : Nat)]) (st := S) (by rw [List.length_map]; simp; omega)
        rw [show itup w = .tup (w.map D.int) from rfl, this]
        unfold itup
        rw [List.map_append]
        rfl
      have hput : dput (kvD kv) (itup (beh x g)) (itup (w ++ [(i : Int)])) = kvD (kv ++ [(beh x g, w ++ [(i : Int)])]) := by
        rw [dput_row (beh x g) _ (kv.map (·.1)) (kvD kv) (kvD_keys kv) hm]
        unfold kvD
        rw [List.map_append]
        rfl
      have e5 := setAtI_dN (l := [u0, u1, some (.ref m), u3, u4, some (itup x), some (.int (i : Nat)), some (itup g), some (itup (beh x g))]) (d := itup (w ++ [(i : Int)])) S h1 (keyD_row (beh x g)) (by unfold kvD; rw [List.length_map]; omega)
      rw [hput] at e5
      have h2' : (S.set m (.dN (kvD (kv ++ [(beh x g, w ++ [(i : Int)])]))))[q]? = some (.lst (L.map itup)) := by rw [List.getElem?_set_ne hmq]; exact h2
      have e6 := appK_ok [u0, u1, some (.ref m), u3, u4, some (itup x), some (.int (i : Nat)), some (itup g), some (itup (beh x g))] (vr 8) h2'
      have e7 := appJ_ok (d := itup (beh x g)) h2' (by rw [List.length_map]; omega)
      have h2'' : ((S.set m (.dN (kvD (kv ++ [(beh x g, w ++ [(i : Int)])])))).set q (.lst (L.map itup ++ [itup (beh x g)])))[q]? = some (.lst ((L ++ [beh x g]).map itup)) := by
        rw [List.getElem?_set_self (by simpa using hql), List.map_append]
        rfl
      have h1'' : ((S.set m (.dN (kvD (kv ++ [(beh x g, w ++ [(i : Int)])])))).set q (.lst (L.map itup ++ [itup (beh x g)])))[m]? = some (.dN (kvD (kv ++ [(beh x g, w ++ [(i : Int)])]))) := by
        rw [List.getElem?_set_ne (Ne.symm hmq), List.getElem?_set_self hml]
      have f2 : inB bh qi [u0, u1, some (.ref m), u3, u4, some (itup x), some (.int (i : Nat)), some (itup g), w8] S = .nx [u0, u1, some (.ref m), u3, u4, some (itup x), some (.int (i : Nat)), some (itup g), some (itup (beh x g))] ((S.set m (.dN (kvD (kv ++ [(beh x g, w ++ [(i : Int)])])))).set q (.lst (L.map itup ++ [itup (beh x g)]))) := by
        have hqv := hq (some (.int (i : Nat))) (some (itup g)) (some (itup (beh x g)))
        unfold inB
        rw [sq_nx f1]
        simp only [ifS_s, tst_s, b2_s, vr_s, List.getElem?_cons_succ, List.getElem?_cons_zero, vrK_s, bind_ok, b2K_s, e2, decide_eq_false hm, Bool.not_false, tstK_s, toS_ok, ifK_t, sq_s, setAt_s, e3, tupM_s, disp_s, consA_s, consK_s, nilA_s, consJ_s, dispK_1, tupK_s, e4, setAtK_s, setAtJ_s, e5, sqK_nx, exprM_s, appM_s, hqv, e6, e7, exK_s]
      obtain ⟨S', v6, v7, v8, e8, t8, m8, q8⟩ := in_go hbh hmq hq (its := its) r (i + 1) (kv ++ [(beh x g, w ++ [(i : Int)])]) (L ++ [beh x g]) _ (some (.int (i : Nat))) (some (itup g)) (some (itup (beh x g))) (fun z hz => hr z (List.mem_cons_of_mem _ hz)) h1'' h2'' (wd_pre (List.prefix_append _ _) hw) hwl (by rw [List.length_append, List.length_singleton]; omega) (by rw [List.length_append, List.length_singleton]; omega)
      have tw : Two m q S ((S.set m (.dN (kvD (kv ++ [(beh x g, w ++ [(i : Int)])])))).set q (.lst (L.map itup ++ [itup (beh x g)]))) := ⟨by simp, fun j j1 j2 => by rw [List.getElem?_set_ne (Ne.symm j2), List.getElem?_set_ne (Ne.symm j1)]⟩
      refine ⟨S', v6, v7, v8, by rw [f2, forK2_nx, e8], tw.trans t8, ?_, ?_⟩
      · unfold wfold
        rw [if_neg hm]
        exact m8
      · unfold wfold
        rw [if_neg hm, q8]
        congr 2
        obtain ⟨ex, hex⟩ := wfold_pre (x := x) (w := w) r (i + 1) (kv ++ [(beh x g, w ++ [(i : Int)])])
        rw [← hex]
        simp [List.map_append, List.drop_append]
end
end Sd
namespace Sd
set_option autoImplicit false
open PySem L2 Rf

section
variable {n m q : Nat} {gs B W : List Row} {x w y : Row} {kv : KV} {st S : Store}
theorem lawSt_some {t : Nat} {p : Row × Row} (h : (lawSt n gs t)[t]? = some p) : lawSt n gs (t + 1) = wfold p.1 p.2 0 gs (lawSt n gs t) := by
  show (match (lawSt n gs t)[t]? with | some p => wfold p.1 p.2 0 gs (lawSt n gs t) | none => lawSt n gs t) = _
  rw [h]
theorem lawSt_none {t : Nat} (h : (lawSt n gs t)[t]? = none) : lawSt n gs (t + 1) = lawSt n gs t := by
  show (match (lawSt n gs t)[t]? with | some p => wfold p.1 p.2 0 gs (lawSt n gs t) | none => lawSt n gs t) = _
  rw [h]
/-- for place, other in enumerate(lock) -/
theorem en_go {bh : FM} {qi : Nat} {t : Nat} {p : Row × Row} (gp : ∀ g ∈ gs, IsP n g) (hgl : gs.length ≤ 100) (hlen : (lawSt n gs t).length ≤ 60) (ht : t ≤ 300) (hp : (lawSt n gs t)[t]? = some p)
    (hbh : ∀ (g : Row) (S : Store), IsP n g → bh [itup p.1, itup g] S = .ok (itup (beh p.1 g)) S) (hmq : m ≠ q) {u1 u3 u4 w6 w7 w8 : Option D}
    (hq : ∀ (w6 w7 w8 : Option D), [some (D.tup (gs.map itup)), u1, some (D.ref m), u3, u4, some (itup p.1), w6, w7, w8][qi]? = some (some (.ref q))) {L : List Row} (h1 : S[m]? = some (.dN (kvD (lawSt n gs t)))) (h2 : S[q]? = some (.lst (L.map itup))) (hL : L.length ≤ 100) :
    ∃ S' v6 v7 v8, forM (itE2 (vr 0)) (.tp [(.nm 6), (.nm 7)]) (inB bh qi) [some (.tup (gs.map itup)), u1, some (.ref m), u3, u4, some (itup p.1), w6, w7, w8] S = .nx [some (.tup (gs.map itup)), u1, some (.ref m), u3, u4, some (itup p.1), v6, v7, v8] S' ∧
      Two m q S S' ∧ S'[m]? = some (.dN (kvD (lawSt n gs (t + 1)))) ∧ S'[q]? = some (.lst ((L ++ ((lawSt n gs (t + 1)).map (·.1)).drop (lawSt n gs t).length).map itup)) := by
  have I := lawSt_I (n := n) (gs := gs) t
  obtain ⟨S', v6, v7, v8, e, tw, m', q'⟩ := in_go (its := pairsD 0 (gs.map itup)) hbh hmq hq gs 0 (lawSt n gs t) L S w6 w7 w8 gp h1 h2 (wd_at I.nd hp) (by have := I.wl p (List.mem_of_getElem? hp); omega) (by omega) (by omega)
  rw [lawSt_some hp]
  refine ⟨S', v6, v7, v8, ?_, tw, m', q'⟩
  have ei : itE2 (vr 0) [some (.tup (gs.map itup)), u1, some (.ref m), u3, u4, some (itup p.1), w6, w7, w8] S = .ok ⟨pairsD 0 (gs.map itup), none⟩ S := rfl
  rw [forM_s, ei]
  simp only [toS_ok, forK_s]
  exact e
/-! ### the law's words -/
def lwB : SM := forM (itA (s3 sliceM (vr 3) (onO (vr 4)) (onO (b2 plusM (vr 4) (cst (.int 1)))))) (.nm 5) (forM (itE2 (vr 0)) (.tp [(.nm 6), (.nm 7)]) (inB m__law_behind 3))
theorem lw_go (k : Lk n gs B) (hg4 : gs.length ≤ 4) (hmq : m ≠ q) {u1 : Option D} {sr : Src} (hsr : ∀ S, sr.chk S = true) : ∀ (r : List Nat) (t : Nat) (S : Store) (w4 w5 w6 w7 w8 : Option D), r = (List.range 300).drop t → t ≤ 300 →
    S[m]? = some (.dN (kvD (lawSt n gs t))) → S[q]? = some (.lst (((lawSt n gs t).map (·.1)).map itup)) →
    ∃ S' v4 v5 v6 v7 v8, forGo sr (.nm 4) lwB (r.map fun i => D.int (i : Nat)) [some (.tup (gs.map itup)), u1, some (.ref m), some (.ref q), w4, w5, w6, w7, w8] S = .nx [some (.tup (gs.map itup)), u1, some (.ref m), some (.ref q), v4, v5, v6, v7, v8] S' ∧ Two m q S S' ∧ S'[m]? = some (.dN (kvD (lawSt n gs 300))) := by
  have W0 := k.W0
  have hW := k.hW
  have gp := k.gp
  have hn := k.hn
  have gW : ∀ g ∈ gs, g ∈ k.W := fun g hg => (k.sp.mem g).mpr (Cl.gen gp hg)
  intro r
  induction r with
  | nil =>
    intro t S w4 w5 w6 w7 w8 hr ht h1 h2
    have : t = 300 := by
      have := congrArg List.length hr
      rw [List.length_drop, List.length_range, List.length_nil] at this
      omega
    subst this
    exact ⟨S, w4, w5, w6, w7, w8, forGo_nil (hsr S), Two.refl S, h1⟩
  | cons i r ih =>
    intro t S w4 w5 w6 w7 w8 hr ht h1 h2
    have ht2 : t < 300 := Classical.byContradiction fun hc => by
      rw [List.drop_eq_nil_of_le (by rw [List.length_range]; omega)] at hr
      cases hr
    rw [List.drop_eq_getElem_cons (by rw [List.length_range]; exact ht2), List.getElem_range] at hr
    obtain ⟨rfl, hr⟩ := List.cons.inj hr
    have I := lawSt_I (n := n) (gs := gs) i
    have hle := I.le W0 gW
    rw [List.map_cons, forGo_cons (l1 := [some (.tup (gs.map itup)), u1, some (.ref m), some (.ref q), some (.int (i : Nat)), w5, w6, w7, w8]) (hsr S) rfl]
    have es : sliceM (.ref q) (some (i : Int)) (some ((i : Int) + 1)) S = .ok (.fl (((((lawSt n gs i).map (·.1)).drop i).take 1).map itup)) S := by
      rw [sliceM_ref h2, cut_one, List.map_take, List.map_drop]
    have ei : itA (s3 sliceM (vr 3) (onO (vr 4)) (onO (b2 plusM (vr 4) (cst (.int 1))))) [some (.tup (gs.map itup)), u1, some (.ref m), some (.ref q), some (.int (i : Nat)), w5, w6, w7, w8] S = .ok ⟨((((lawSt n gs i).map (·.1)).drop i).take 1).map itup, none⟩ S := by
      simp only [itA_s, s3_s, vr_s, List.getElem?_cons_succ, List.getElem?_cons_zero, vrK_s, bind_ok, s3K_s, onO_s, onK_s, s3J_s, b2_s, b2K_s, cst_s, plusM_i, es, itAK_fl]
    have eb : lwB [some (.tup (gs.map itup)), u1, some (.ref m), some (.ref q), some (.int (i : Nat)), w5, w6, w7, w8] S = forGo ⟨((((lawSt n gs i).map (·.1)).drop i).take 1).map itup, none⟩ (.nm 5) (forM (itE2 (vr 0)) (.tp [(.nm 6), (.nm 7)]) (inB m__law_behind 3)) (((((lawSt n gs i).map (·.1)).drop i).take 1).map itup) [some (.tup (gs.map itup)), u1, some (.ref m), some (.ref q), some (.int (i : Nat)), w5, w6, w7, w8] S := by
      unfold lwB
      rw [forM_s, ei]
      rfl
    cases hp : (lawSt n gs i)[i]? with
    | none =>
      have hge : (lawSt n gs i).length ≤ i := by simpa using List.getElem?_eq_none_iff.mp hp
      have e0 : (((lawSt n gs i).map (·.1)).drop i).take 1 = [] := by rw [List.drop_eq_nil_of_le (by rw [List.length_map]; exact hge)]; rfl
      rw [eb, e0, List.map_nil, forGo_nil rfl, forK2_nx]
      rw [← lawSt_none hp] at h1 h2
      exact ih (i + 1) S (some (.int (i : Nat))) w5 w6 w7 w8 hr (by omega) h1 h2
    | some p =>
      have hlt := (List.getElem?_eq_some_iff.mp hp).1
      have hpm := List.mem_of_getElem? hp
      have px : IsP n p.1 := (I.cl p hpm).isP gp
      have e0 : (((lawSt n gs i).map (·.1)).drop i).take 1 = [p.1] := by
        rw [List.drop_eq_getElem_cons (by rw [List.length_map]; exact hlt)]
        have : ((lawSt n gs i).map (·.1))[i]? = some p.1 := by rw [List.getElem?_map, hp]; rfl
        rw [(List.getElem?_eq_some_iff.mp this).2]
        rfl
      obtain ⟨S1, v6, v7, v8, e1, tw1, m1, q1⟩ := en_go (bh := m__law_behind) (qi := 3) (u1 := u1) (u3 := some (.ref q)) (u4 := some (.int (i : Nat))) (w6 := w6) (w7 := w7) (w8 := w8) gp (by omega) (by omega) (by omega) hp (fun g S hg => law_behind_ok S px hg hn) hmq (fun _ _ _ => rfl) h1 h2 (by rw [List.length_map]; omega)
      have e2 : ((lawSt n gs i).map (·.1)) ++ ((lawSt n gs (i + 1)).map (·.1)).drop (lawSt n gs i).length = (lawSt n gs (i + 1)).map (·.1) := by
        obtain ⟨ex, hex⟩ := lawSt_pre (n := n) (gs := gs) i
        rw [← hex]
        simp [List.map_append, List.drop_append]
      rw [e2] at q1
      obtain ⟨S2, x4, x5, x6, x7, x8, e3, tw3, m3⟩ := ih (i + 1) S1 (some (.int (i : Nat))) (some (itup p.1)) v6 v7 v8 hr (by omega) m1 q1
      refine ⟨S2, x4, x5, x6, x7, x8, ?_, tw1.trans tw3, m3⟩
      rw [eb, e0, List.map_cons, List.map_nil, forGo_cons (l1 := [some (.tup (gs.map itup)), u1, some (.ref m), some (.ref q), some (.int (i : Nat)), some (itup p.1), w6, w7, w8]) rfl rfl, e1, forK2_nx, forGo_nil rfl, forK2_nx, e3]
/-! ### word_for -/
def wfB : SM := sq (setM 4 (al (disp nilA))) (sq (forM (itA (vr 3)) (.nm 5) (forM (itE2 (vr 0)) (.tp [(.nm 6), (.nm 7)]) (inB m_behind 4))) (setM 3 (vr 4)))
theorem lay_go (k : Lk n gs B) (hg4 : gs.length ≤ 4) (hmq : m ≠ q) {a b : Nat} (hb : b = (lawSt n gs a).length) {u1 u3 : Option D} {sr : Src} (hsr : ∀ S', (∀ j, j ≠ m → j ≠ q → S'[j]? = st[j]?) → sr.chk S' = true) : ∀ (r : List Row) (t : Nat) (S : Store) (w5 w6 w7 w8 : Option D), r = ((lawSt n gs a).map (·.1)).drop t → a ≤ t → t ≤ b → Two m q st S →
    S[m]? = some (.dN (kvD (lawSt n gs t))) → S[q]? = some (.lst ((((lawSt n gs t).map (·.1)).drop b).map itup)) →
    ∃ S' v5 v6 v7 v8, forGo sr (.nm 5) (forM (itE2 (vr 0)) (.tp [(.nm 6), (.nm 7)]) (inB m_behind 4)) (r.map itup) [some (.tup (gs.map itup)), u1, some (.ref m), u3, some (.ref q), w5, w6, w7, w8] S = .nx [some (.tup (gs.map itup)), u1, some (.ref m), u3, some (.ref q), v5, v6, v7, v8] S' ∧ Two m q st S' ∧
      S'[m]? = some (.dN (kvD (lawSt n gs b))) ∧ S'[q]? = some (.lst ((((lawSt n gs b).map (·.1)).drop b).map itup)) := by
  have W0 := k.W0
  have hW := k.hW
  have gp := k.gp
  have hn := k.hn
  have gW : ∀ g ∈ gs, g ∈ k.W := fun g hg => (k.sp.mem g).mpr (Cl.gen gp hg)
  intro r
  induction r with
  | nil =>
    intro t S w5 w6 w7 w8 hr ha ht tw h1 h2
    have : t = b := by
      have := congrArg List.length hr
      rw [List.length_drop, List.length_map, List.length_nil] at this
      omega
    subst this
    exact ⟨S, w5, w6, w7, w8, forGo_nil (hsr S tw.same), tw, h1, h2⟩
  | cons x r ih =>
    intro t S w5 w6 w7 w8 hr ha ht tw h1 h2
    have htb : t < b := Classical.byContradiction fun hc => by
      rw [List.drop_eq_nil_of_le (by rw [List.length_map]; omega)] at hr
      cases hr
    rw [List.drop_eq_getElem_cons (by rw [List.length_map]; omega)] at hr
    obtain ⟨hx, hr⟩ := List.cons.inj hr
    rw [List.getElem_map] at hx
    have hta : t < (lawSt n gs a).length := by omega
    have hp0 : (lawSt n gs a)[t]? = some (lawSt n gs a)[t] := List.getElem?_eq_getElem hta
    have hp : (lawSt n gs t)[t]? = some (lawSt n gs a)[t] := by
      obtain ⟨ex, hex⟩ := lawSt_mono (n := n) (gs := gs) ha
      rw [← hex, List.getElem?_append_left hta, hp0]
    generalize hpe : (lawSt n gs a)[t] = p at hp hx
    have I := lawSt_I (n := n) (gs := gs) t
    have hle := I.le W0 gW
    have px : IsP n p.1 := (I.cl p (List.mem_of_getElem? hp)).isP gp
    have hbt : b ≤ (lawSt n gs t).length := by rw [hb]; exact (lawSt_mono ha).length_le
    have hat := (lawSt_I (n := n) (gs := gs) a).le W0 gW
    obtain ⟨S1, v6, v7, v8, e1, tw1, m1, q1⟩ := en_go (bh := m_behind) (qi := 4) (u1 := u1) (u3 := u3) (u4 := some (.ref q)) (w6 := w6) (w7 := w7) (w8 := w8) gp (by omega) (by omega) (by omega) hp (fun g S hg => behind_ok S px hg hn) hmq (fun _ _ _ => rfl) h1 h2 (by rw [List.length_drop, List.length_map]; omega)
    have e2 : ((lawSt n gs t).map (·.1)).drop b ++ ((lawSt n gs (t + 1)).map (·.1)).drop (lawSt n gs t).length = ((lawSt n gs (t + 1)).map (·.1)).drop b := by
      obtain ⟨ex, hex⟩ := lawSt_pre (n := n) (gs := gs) t
      generalize lawSt n gs t = A at hex hbt
      have z1 : List.drop A.length (A.map (fun x => x.1) ++ ex.map (fun x => x.1)) = ex.map (fun x => x.1) := by rw [← List.length_map (f := fun x : Row × Row => x.1) (as := A), List.drop_left]
      rw [← hex, List.map_append, z1, List.drop_append_of_le_length (by rw [List.length_map]; exact hbt)]
    rw [e2] at q1
    obtain ⟨S2, x5, x6, x7, x8, e3, tw3, m3, q3⟩ := ih (t + 1) S1 (some (itup p.1)) v6 v7 v8 hr (by omega) htb (tw.trans tw1) m1 q1
    refine ⟨S2, x5, x6, x7, x8, ?_, tw3, m3, q3⟩
    rw [List.map_cons, forGo_cons (l1 := [some (.tup (gs.map itup)), u1, some (.ref m), u3, some (.ref q), some (itup x), w6, w7, w8]) (hsr S tw.same) rfl, hx, e1, forK2_nx, e3]
end
end Sd
namespace Sd
set_option autoImplicit false
open PySem L2 Rf
def b__law_words : SM :=
    (sq (setM 1 (trgM (callM lenM2 (consA (b2 ixM2 (vr 0) (cst (.int 0))) nilA))))
    (sq (parM 2 3 (consA (dctN (vr 1) (tupM nilA)) (consA (al (disp (consA (vr 1) nilA))) nilA)))
    (sq (forM (itR1 (consA (cst (.int 300)) nilA)) (.nm 4)
    (forM (itA (s3 sliceM (vr 3) (onO (vr 4)) (onO (b2 plusM (vr 4) (cst (.int 1)))))) (.nm 5)
    (forM (itE2 (vr 0)) (.tp [(.nm 6), (.nm 7)])
    (sq (setM 8 (callM m__law_behind (consA (vr 5) (consA (vr 7) nilA))))
    (ifS (tst (b2 ninM2 (vr 8) (vr 2)))
    (sq (setAt (b2 plusM (b2 ixM2 (vr 2) (vr 5)) (tupM (consA (vr 6) nilA))) (vr 2) (vr 8))
    (exprM (appM (vr 3) (vr 8))))
    nextM)))))
    (retM (vr 2)))))
def m__law_words : FM := dfM 1 9 b__law_words
def b_all_turns (ti : Nat) : SM :=
    (sq (exprM (callM (m_need_lock ti) (consA (vr 0) nilA)))
    (retM (callM tupOf (consA (callM m_turns_of (consA (vr 0) nilA)) nilA))))
def m_all_turns (ti : Nat) : FM := dfM 1 1 (b_all_turns ti)
def b_need_turn (ti : Nat) : SM :=
    (ifS (orT (notT (tst (callM (m_is_turn ti) (consA (callM lenM2 (consA (b2 ixM2 (vr 0) (cst (.int 0))) nilA)) (consA (vr 1) nilA))))) (tst (b2 ninM2 (vr 1) (callM m_turns_of (consA (vr 0) nilA)))))
    (raise0 "BadTurn")
    nextM)
def m_need_turn (ti : Nat) : FM := dfM 2 2 (b_need_turn ti)
def b_is_made (ti : Nat) : SM :=
    (sq (exprM (callM (m_need_lock ti) (consA (vr 0) nilA)))
    (sq (ifS (notT (tst (callM (m_is_turn ti) (consA (callM lenM2 (consA (b2 ixM2 (vr 0) (cst (.int 0))) nilA)) (consA (vr 1) nilA)))))
    (raise0 "BadTurn")
    nextM)
    (retM (b2 inM2 (vr 1) (callM m_turns_of (consA (vr 0) nilA))))))
def m_is_made (ti : Nat) : FM := dfM 2 2 (b_is_made ti)
def b_join (ti : Nat) : SM :=
    (sq (exprM (callM (m_need_lock ti) (consA (vr 0) nilA)))
    (sq (ifS (notT (tst (isiM .tup (vr 1))))
    (raise0 "BadTurn")
    nextM)
    (sq (forM (itA (vr 1)) (.nm 2)
    (exprM (callM (m_need_turn ti) (consA (vr 0) (consA (vr 2) nilA)))))
    (retM (callM m_product (consA (callM lenM2 (consA (b2 ixM2 (vr 0) (cst (.int 0))) nilA)) (consA (vr 1) nilA)))))))
def m_join (ti : Nat) : FM := dfM 2 3 (b_join ti)
def b_times_round : SM :=
    (sq (parM 1 2 (consA (cst (.int 1)) (consA (vr 0) nilA)))
    (sq (whGo (tst (b2 neM (vr 2) (callM m_still (consA (callM lenM2 (consA (vr 0) nilA)) nilA))))
    (sq (setM 2 (callM m_behind (consA (vr 2) (consA (vr 0) nilA))))
    (augM 1 iaddM (cst (.int 1)))) 1000)
    (retM (vr 1))))
def m_times_round : FM := dfM 1 3 b_times_round
def b_rounds (ti : Nat) : SM :=
    (sq (exprM (callM (m_need_lock ti) (consA (vr 0) nilA)))
    (sq (exprM (callM (m_need_turn ti) (consA (vr 0) (consA (vr 1) nilA))))
    (retM (callM m_times_round (consA (vr 1) nilA)))))
def m_rounds (ti : Nat) : FM := dfM 2 2 (b_rounds ti)
def b_undo (ti : Nat) : SM :=
    (sq (exprM (callM (m_need_lock ti) (consA (vr 0) nilA)))
    (sq (exprM (callM (m_need_turn ti) (consA (vr 0) (consA (vr 1) nilA))))
    (retM (callM m_back (consA (vr 1) nilA)))))
def m_undo (ti : Nat) : FM := dfM 2 2 (b_undo ti)
def b_swapped (ti : Nat) : SM :=
    (sq (exprM (callM (m_need_lock ti) (consA (vr 0) nilA)))
    (sq (exprM (callM (m_need_turn ti) (consA (vr 0) (consA (vr 1) nilA))))
    (sq (exprM (callM (m_need_turn ti) (consA (vr 0) (consA (vr 2) nilA))))
    (retM (callM m_swap_of (consA (vr 1) (consA (vr 2) nilA)))))))
def m_swapped (ti : Nat) : FM := dfM 3 3 (b_swapped ti)
def b_word_for (ti : Nat) : SM :=
    (sq (exprM (callM (m_need_lock ti) (consA (vr 0) nilA)))
    (sq (exprM (callM (m_need_turn ti) (consA (vr 0) (consA (vr 1) nilA))))
    (sq (parM 2 3 (consA (dctN (callM m_still (consA (callM lenM2 (consA (b2 ixM2 (vr 0) (cst (.int 0))) nilA)) nilA)) (tupM nilA)) (consA (fz (disp (consA (callM m_still (consA (callM lenM2 (consA (b2 ixM2 (vr 0) (cst (.int 0))) nilA)) nilA)) nilA))) nilA)))
    (sq (whGo (tst (b2 ninM2 (vr 1) (vr 2)))
    (sq (setM 4 (al (disp nilA)))
    (sq (forM (itA (vr 3)) (.nm 5)
    (forM (itE2 (vr 0)) (.tp [(.nm 6), (.nm 7)])
    (sq (setM 8 (callM m_behind (consA (vr 5) (consA (vr 7) nilA))))
    (ifS (tst (b2 ninM2 (vr 8) (vr 2)))
    (sq (setAt (b2 plusM (b2 ixM2 (vr 2) (vr 5)) (tupM (consA (vr 6) nilA))) (vr 2) (vr 8))
    (exprM (appM (vr 4) (vr 8))))
    nextM))))
    (setM 3 (vr 4)))) 1000)
    (retM (b2 ixM2 (vr 2) (vr 1)))))))
def m_word_for (ti : Nat) : FM := dfM 2 9 (b_word_for ti)
end Sd
namespace Sd
set_option autoImplicit false
open PySem L2 Rf

section
variable {n m q : Nat} {gs B W : List Row} {x w y : Row} {kv : KV} {st S : Store}
/-- between the layers of word_for -/
structure WL (n : Nat) (gs : List Row) (st S : Store) (m a : Nat) (d : D) : Prop where
  pre : st <+: S
  hm : st.length ≤ m
  dict : S[m]? = some (.dN (kvD (lawSt n gs a)))
  layer : d = .fl ((((lawSt n gs a).map (·.1)).drop a).map itup) ∨ ∃ r, d = .ref r ∧ r ≠ m ∧ S[r]? = some (.lst ((((lawSt n gs a).map (·.1)).drop a).map itup))
theorem wf_ok (k : Lk n gs B) (hg4 : gs.length ≤ 4) {a : Nat} {d : D} (b : WL n gs st S m a d) {u1 w4 w5 w6 w7 w8 : Option D} (ha : a ≤ (lawSt n gs a).length) :
    ∃ S' v5 v6 v7 v8, wfB [some (.tup (gs.map itup)), u1, some (.ref m), some d, w4, w5, w6, w7, w8] S = .nx [some (.tup (gs.map itup)), u1, some (.ref m), some (.ref S.length), some (.ref S.length), v5, v6, v7, v8] S' ∧ WL n gs st S' m (lawSt n gs a).length (.ref S.length) := by
  have hml := (List.getElem?_eq_some_iff.mp b.dict).1
  have hmq : m ≠ S.length := by omega
  have h1 : (S ++ [O.lst []])[m]? = some (.dN (kvD (lawSt n gs a))) := by rw [List.getElem?_append_left hml]; exact b.dict
  have h2 : (S ++ [O.lst []])[S.length]? = some (.lst ((((lawSt n gs a).map (·.1)).drop (lawSt n gs a).length).map itup)) := by
    rw [List.getElem?_concat_length, List.drop_eq_nil_of_le (by simp)]
    rfl
  obtain ⟨sr, e0, e0i, hsr⟩ : ∃ sr : Src, itAK d (S ++ [O.lst []]) = .ok sr (S ++ [O.lst []]) ∧ sr.items = (((lawSt n gs a).map (·.1)).drop a).map itup ∧ ∀ S' : Store, (∀ j, j ≠ m → j ≠ S.length → S'[j]? = (S ++ [O.lst []])[j]?) → sr.chk S' = true := by
    rcases b.layer with rfl | ⟨r, rfl, hr, h⟩
    · exact ⟨_, rfl, rfl, fun _ _ => rfl⟩
    · have hrl := (List.getElem?_eq_some_iff.mp h).1
      have h' : (S ++ [O.lst []])[r]? = some (.lst ((((lawSt n gs a).map (·.1)).drop a).map itup)) := by rw [List.getElem?_append_left hrl]; exact h
      refine ⟨_, itAK_ref h', rfl, fun S' hS => ?_⟩
      simp [Src.chk, hS r hr (by omega), h']
  obtain ⟨S', v5, v6, v7, v8, e1, t1, m1, q1⟩ := lay_go (st := S ++ [.lst []]) (q := S.length) k hg4 hmq (a := a) rfl (u1 := u1) (u3 := some d) hsr (((lawSt n gs a).map (·.1)).drop a) a (S ++ [.lst []]) w5 w6 w7 w8 rfl (Nat.le_refl _) ha (Two.refl _) h1 h2
  refine ⟨S', v5, v6, v7, v8, ?_, ⟨t1.pre (b.pre.trans (List.prefix_append _ _)) b.hm b.pre.length_le, b.hm, m1, .inr ⟨S.length, rfl, Ne.symm hmq, q1⟩⟩⟩
  simp only [wfB, sq_s, setM_s, al_s, disp_s, nilA_s, bind_ok, dispK_0, alK_s, toS_ok, setK_s, sqK_nx, List.set_cons_succ, List.set_cons_zero, forM_s, itA_s, vr_s, List.getElem?_cons_succ, List.getElem?_cons_zero, vrK_s, e0, forK_s, e0i]
  rw [e1]
  simp only [sqK_nx, setM_s, vr_s, List.getElem?_cons_succ, List.getElem?_cons_zero, vrK_s, toS_ok, setK_s, List.set_cons_succ, List.set_cons_zero]
theorem wf_while (k : Lk n gs B) (hg4 : gs.length ≤ 4) (hx : x ∈ k.W) : ∀ (f a : Nat) (d : D) (S : Store) (w4 w5 w6 w7 w8 : Option D), 61 - a ≤ f → a ≤ (lawSt n gs a).length → WL n gs st S m a d →
    ∃ S' a' d' v4 v5 v6 v7 v8, whGo (tst (b2 ninM2 (vr 1) (vr 2))) wfB (f + 1) [some (.tup (gs.map itup)), some (itup x), some (.ref m), some d, w4, w5, w6, w7, w8] S = .nx [some (.tup (gs.map itup)), some (itup x), some (.ref m), some d', v4, v5, v6, v7, v8] S' ∧
      WL n gs st S' m a' d' ∧ a' ≤ 60 ∧ x ∈ (lawSt n gs a').map (·.1) := by
  have gW : ∀ g ∈ gs, g ∈ k.W := fun g hg => (k.sp.mem g).mpr (Cl.gen k.gp hg)
  have hc : Cl n gs x := (k.sp.mem x).mp hx
  have hW := k.hW
  intro f
  induction f with
  | zero =>
    intro a d S w4 w5 w6 w7 w8 hf ha b
    have := (lawSt_I (n := n) (gs := gs) a).le k.W0 gW
    omega
  | succ f ih =>
    intro a d S w4 w5 w6 w7 w8 hf ha b
    have I := lawSt_I (n := n) (gs := gs) a
    have hle := I.le k.W0 gW
    have e2 := ninM2_dN S x ((lawSt n gs a).map (·.1)) b.dict (kvD_keys _)
    have et : tst (b2 ninM2 (vr 1) (vr 2)) [some (.tup (gs.map itup)), some (itup x), some (.ref m), some d, w4, w5, w6, w7, w8] S = .ok (!decide (x ∈ (lawSt n gs a).map (·.1))) S := by
      simp only [tst_s, b2_s, vr_s, List.getElem?_cons_succ, List.getElem?_cons_zero, vrK_s, bind_ok, b2K_s, e2, tstK_s]
    by_cases h : x ∈ (lawSt n gs a).map (·.1)
    · rw [decide_eq_true h] at et
      exact ⟨S, a, d, w4, w5, w6, w7, w8, whGo_false et, b, by omega, h⟩
    · rw [decide_eq_false h] at et
      have hlt : a < (lawSt n gs a).length := Classical.byContradiction fun hn => h (I.all (by omega) hc)
      obtain ⟨S1, v5, v6, v7, v8, e1, b1⟩ := wf_ok k hg4 b (u1 := some (itup x)) (w4 := w4) (w5 := w5) (w6 := w6) (w7 := w7) (w8 := w8) ha
      have hb : (lawSt n gs a).length ≤ (lawSt n gs (lawSt n gs a).length).length := (lawSt_mono ha).length_le
      obtain ⟨S2, a2, d2, x4, x5, x6, x7, x8, e3, r3⟩ := ih (lawSt n gs a).length (.ref S.length) S1 (some (.ref S.length)) v5 v6 v7 v8 (by omega) hb b1
      exact ⟨S2, a2, d2, x4, x5, x6, x7, x8, by rw [whGo_true et, e1, whK_nx, e3], r3⟩
/-- a dict of one word -/
theorem dct0 {c e : EM D} {l : Sl} (hc : c l (st ++ [O.dN []]) = .ok (itup (idp n)) (st ++ [O.dN []])) (he : e l = fun s => .ok (itup []) s) : dctN c e l st = .ok (.ref st.length) ((st ++ [O.dN []]).set st.length (O.dN (kvD (lawSt n gs 0)))) := by
  unfold dctN
  simp only [hc, he, bind_ok, List.getElem?_concat_length, keyD_row, if_true]
  first | rfl | skip
/-- the word of a turn -/
noncomputable def wordOf (n : Nat) (gs : List Row) (x : Row) : Row := (wd (lawSt n gs 300) x).getD []
theorem word_len (k : Lk n gs B) : (wordOf n gs x).length ≤ 300 := by
  unfold wordOf wd
  cases e : (lawSt n gs 300).find? (fun p => decide (p.1 = x)) with
  | none => simp
  | some p => exact (lawSt_I (n := n) (gs := gs) 300).wl p (List.mem_of_find?_eq_some e)
theorem law_words_ok (k : Lk n gs B) (hg4 : gs.length ≤ 4) (st : Store) : ∃ m S', m__law_words [.tup (gs.map itup)] st = .ok (.ref m) S' ∧ st <+: S' ∧ S'[m]? = some (.dN (kvD (lawSt n gs 300))) := by
  have hn := k.hn
  let S0 : Store := (st ++ [O.dN []]).set st.length (O.dN (kvD (lawSt n gs 0)))
  have hS0 : S0.length = st.length + 1 := by simp [S0]
  have p0 : st <+: S0 := pre_set (List.prefix_append _ _) (Nat.le_refl _)
  have h1 : (S0 ++ [O.lst [itup (idp n)]])[st.length]? = some (.dN (kvD (lawSt n gs 0))) := by
    rw [List.getElem?_append_left (by omega)]
    exact List.getElem?_set_self (by simp)
  have h2 : (S0 ++ [O.lst [itup (idp n)]])[S0.length]? = some (.lst (((lawSt n gs 0).map (·.1)).map itup)) := by rw [List.getElem?_concat_length]; rfl
  obtain ⟨S1, v4, v5, v6, v7, v8, e1, t1, m1⟩ := lw_go (m := st.length) (q := S0.length) k hg4 (by omega) (u1 := some (itup (idp n))) (sr := ⟨rngD 0 300, none⟩) (fun _ => rfl) (List.range 300) 0 (S0 ++ [.lst [itup (idp n)]]) none none none none none rfl (by omega) h1 h2
  refine ⟨st.length, S1, ?_, t1.pre (p0.trans (List.prefix_append _ _)) (Nat.le_refl _) (by omega), m1⟩
  have e2 := k.len (i := 0) (l := [some (.tup (gs.map itup)), none, none, none, none, none, none, none, none]) rfl st
  have e3 := dct0 (n := n) (gs := gs) (c := vr 1) (e := tupM nilA) (l := [some (.tup (gs.map itup)), some (itup (idp n)), none, none, none, none, none, none, none]) (st := st) rfl rfl
  have e4 := rngK_nat (n := 300) (by omega) (S0 ++ [.lst [itup (idp n)]])
  have e5 : rngD 0 300 = (List.range 300).map fun i => D.int (i : Nat) := by
    unfold rngD
    simp
  rw [← e5] at e1
  have e6 : b__law_words = sq (setM 1 (trgM (callM lenM2 (consA (b2 ixM2 (vr 0) (cst (.int 0))) nilA)))) (sq (parM 2 3 (consA (dctN (vr 1) (tupM nilA)) (consA (al (disp (consA (vr 1) nilA))) nilA))) (sq (forM (itR1 (consA (cst (.int 300)) nilA)) (.nm 4) lwB) (retM (vr 2)))) := rfl
  have e7 : (some (D.tup (gs.map itup)) :: List.replicate (9 - 1) none) = [some (.tup (gs.map itup)), none, none, none, none, none, none, none, none] := rfl
  have f1 : setM 1 (trgM (callM lenM2 (consA (b2 ixM2 (vr 0) (cst (.int 0))) nilA))) [some (.tup (gs.map itup)), none, none, none, none, none, none, none, none] st = .nx [some (.tup (gs.map itup)), some (itup (idp n)), none, none, none, none, none, none, none] st := by
    rw [setM_s, trgM_s, e2]
    simp only [bind_ok, trgK_ok st hn, toS_ok, setK_s, List.set_cons_succ, List.set_cons_zero]
  have f2 : parM 2 3 (consA (dctN (vr 1) (tupM nilA)) (consA (al (disp (consA (vr 1) nilA))) nilA)) [some (.tup (gs.map itup)), some (itup (idp n)), none, none, none, none, none, none, none] st = .nx [some (.tup (gs.map itup)), some (itup (idp n)), some (.ref st.length), some (.ref S0.length), none, none, none, none, none] (S0 ++ [.lst [itup (idp n)]]) := by
    rw [parM_s, consA_s, e3]
    simp only [bind_ok, consK_s, consA_s, al_s, disp_s, vr_s, List.getElem?_cons_succ, List.getElem?_cons_zero, vrK_s, nilA_s, consJ_s, dispK_1, alK_s, toS_ok, parK_s, List.set_cons_succ, List.set_cons_zero]
    rfl
  unfold m__law_words
  rw [dfM_1, e7, e6, sq_nx f1, sq_nx f2, sq_s, forM_s]
  simp only [itR1_s, consA_s, cst_s, bind_ok, consK_s, nilA_s, consJ_s]
  rw [show ([D.int 300] : List D) = [D.int ((300 : Nat) : Int)] from rfl, e4]
  simp only [toS_ok, forK_s]
  rw [e1]
  rfl
end
end Sd
namespace Sd
set_option autoImplicit false
open PySem L2 Rf

section
variable {n m q ti : Nat} {gs B W : List Row} {x y : Row} {kv : KV} {st S : Store}
abbrev TB (ti : Nat) (st : Store) : Prop := st[ti]? = some (.tb ("is_turn", none))
theorem TB.pre (h : TB ti st) (p : st <+: S) : TB ti S := pre_get p h
theorem inW (k : Lk n gs B) (hx : x ∈ k.W) : IsP n x := k.W0.ps x hx
theorem need_turn_ok (k : Lk4 n gs B) (hx : x ∈ k.W) (t : TB ti st) : ∃ st', m_need_turn ti [.tup (gs.map itup), itup x] st = .ok .non st' ∧ st <+: st' := by
  obtain ⟨S1, e1, p1⟩ := is_turn_ok (st := st) (inW k.toLk hx) k.hn t
  obtain ⟨S2, e2, p2⟩ := turns_of_ok k.toLk S1
  have e3 := k.toLk.len (i := 0) (l := [some (.tup (gs.map itup)), some (itup x)]) rfl st
  have e4 : ninM2 (itup x) (.fl (k.W.map itup)) S2 = .ok (.bl (!decide (x ∈ k.W))) S2 := Fd.nin (.inl rfl) x
  rw [decide_eq_true hx] at e4
  refine ⟨S2, ?_, p1.trans p2⟩
  have e5 : (some (D.tup (gs.map itup)) :: some (itup x) :: List.replicate (2 - 2) none) = [some (.tup (gs.map itup)), some (itup x)] := rfl
  unfold m_need_turn
  rw [dfM_2, e5]
  unfold b_need_turn
  rw [ifS_s, orT_s, notT_s, tst_s, callM_s, consA_s, e3]
  simp only [bind_ok, consK_s, consA_s, vr_s, List.getElem?_cons_succ, List.getElem?_cons_zero, vrK_s, nilA_s, consJ_s, e1, tstK_s, notK_s, Bool.not_true, orK_f, tst_s, b2_s, callM_s, e2, b2K_s, e4, toS_ok, ifK_f, nextM_s]
  rfl
theorem all_turns_ok (k : Lk4 n gs B) (t : TB ti st) : ∃ st', m_all_turns ti [.tup (gs.map itup)] st = .ok (.tup (k.W.map itup)) st' ∧ st <+: st' := by
  obtain ⟨S1, e1, p1⟩ := need_lock_ok k t
  obtain ⟨S2, e2, p2⟩ := turns_of_ok k.toLk S1
  refine ⟨S2, ?_, p1.trans p2⟩
  have e5 : (some (D.tup (gs.map itup)) :: List.replicate (1 - 1) none) = [some (.tup (gs.map itup))] := rfl
  have e6 : tupOf [.fl (k.W.map itup)] S2 = .ok (.tup (k.W.map itup)) S2 := by simp [tupOf, lof]
  simp only [m_all_turns, dfM_1, e5, b_all_turns, sq_s, exprM_s, callM_s, consA_s, vr_s, List.getElem?_cons_zero, vrK_s, bind_ok, consK_s, nilA_s, consJ_s, e1, toS_ok, exK_s, sqK_nx, retM_s, e2, e6, rtK_s, endD_rt]
theorem is_made_ok (k : Lk4 n gs B) (hx : IsP n x) (t : TB ti st) : ∃ st', m_is_made ti [.tup (gs.map itup), itup x] st = .ok (.bl (decide (x ∈ k.W))) st' ∧ st <+: st' := by
  obtain ⟨S1, e1, p1⟩ := need_lock_ok k t
  obtain ⟨S2, e2, p2⟩ := is_turn_ok (st := S1) hx k.hn (TB.pre t p1)
  obtain ⟨S3, e3, p3⟩ := turns_of_ok k.toLk S2
  have e4 := k.toLk.len (i := 0) (l := [some (.tup (gs.map itup)), some (itup x)]) rfl S1
  have e6 : inM2 (itup x) (.fl (k.W.map itup)) S3 = .ok (.bl (decide (x ∈ k.W))) S3 := inM2_fl ..
  refine ⟨S3, ?_, (p1.trans p2).trans p3⟩
  have e5 : (some (D.tup (gs.map itup)) :: some (itup x) :: List.replicate (2 - 2) none) = [some (.tup (gs.map itup)), some (itup x)] := rfl
  have f1 : exprM (callM (m_need_lock ti) (consA (vr 0) nilA)) [some (.tup (gs.map itup)), some (itup x)] st = .nx [some (.tup (gs.map itup)), some (itup x)] S1 := by
    simp only [exprM_s, callM_s, consA_s, vr_s, List.getElem?_cons_zero, vrK_s, bind_ok, consK_s, nilA_s, consJ_s, e1, toS_ok, exK_s]
  have f2 : ifS (notT (tst (callM (m_is_turn ti) (consA (callM lenM2 (consA (b2 ixM2 (vr 0) (cst (.int 0))) nilA)) (consA (vr 1) nilA))))) (raise0 "BadTurn") nextM [some (.tup (gs.map itup)), some (itup x)] S1 = .nx [some (.tup (gs.map itup)), some (itup x)] S2 := by
    rw [ifS_s, notT_s, tst_s, callM_s, consA_s, e4]
    simp only [bind_ok, consK_s, consA_s, vr_s, List.getElem?_cons_succ, List.getElem?_cons_zero, vrK_s, nilA_s, consJ_s, e2, tstK_s, notK_s, Bool.not_true, toS_ok, ifK_f, nextM_s]
  unfold m_is_made
  rw [dfM_2, e5]
  unfold b_is_made
  rw [sq_nx f1, sq_nx f2]
  simp only [retM_s, b2_s, vr_s, List.getElem?_cons_succ, List.getElem?_cons_zero, vrK_s, bind_ok, b2K_s, callM_s, consA_s, consK_s, nilA_s, consJ_s, e3, e6, toS_ok, rtK_s, endD_rt]
theorem undo_ok (k : Lk4 n gs B) (hx : x ∈ k.W) (t : TB ti st) : ∃ st', m_undo ti [.tup (gs.map itup), itup x] st = .ok (itup (bk x)) st' ∧ st <+: st' := by
  obtain ⟨S1, e1, p1⟩ := need_lock_ok k t
  obtain ⟨S2, e2, p2⟩ := need_turn_ok (st := S1) k hx (TB.pre t p1)
  obtain ⟨S3, e3, p3⟩ := back_ok (st := S2) (inW k.toLk hx) k.hn
  refine ⟨S3, ?_, (p1.trans p2).trans p3⟩
  have e5 : (some (D.tup (gs.map itup)) :: some (itup x) :: List.replicate (2 - 2) none) = [some (.tup (gs.map itup)), some (itup x)] := rfl
  simp only [m_undo, dfM_2, e5, b_undo, sq_s, exprM_s, callM_s, consA_s, vr_s, List.getElem?_cons_succ, List.getElem?_cons_zero, vrK_s, bind_ok, consK_s, nilA_s, consJ_s, e1, toS_ok, exK_s, sqK_nx, e2, retM_s, e3, rtK_s, endD_rt]
theorem swapped_ok (k : Lk4 n gs B) (hx : x ∈ k.W) (hy : y ∈ k.W) (t : TB ti st) : ∃ st', m_swapped ti [.tup (gs.map itup), itup x, itup y] st = .ok (itup (swp x y)) st' ∧ st <+: st' := by
  obtain ⟨S1, e1, p1⟩ := need_lock_ok k t
  obtain ⟨S2, e2, p2⟩ := need_turn_ok (st := S1) k hx (TB.pre t p1)
  obtain ⟨S3, e3, p3⟩ := need_turn_ok (st := S2) k hy (TB.pre t (p1.trans p2))
  obtain ⟨S4, e4, p4⟩ := swap_of_ok (st := S3) (inW k.toLk hx) (inW k.toLk hy) k.hn
  refine ⟨S4, ?_, ((p1.trans p2).trans p3).trans p4⟩
  have e5 : dfM 3 3 (b_swapped ti) [.tup (gs.map itup), itup x, itup y] st = endD (b_swapped ti [some (.tup (gs.map itup)), some (itup x), some (itup y)] st) := rfl
  unfold m_swapped
  rw [e5]
  simp only [b_swapped, sq_s, exprM_s, callM_s, consA_s, vr_s, List.getElem?_cons_succ, List.getElem?_cons_zero, vrK_s, bind_ok, consK_s, nilA_s, consJ_s, e1, toS_ok, exK_s, sqK_nx, e2, e3, retM_s, e4, rtK_s, endD_rt]
/-! ### rounds -/
def pw (x : Row) : Nat → Row
  | 0 => x
  | j + 1 => beh (pw x j) x
theorem pw_in (W0 : Grp n W) (hx : x ∈ W) : ∀ j, pw x j ∈ W
  | 0 => hx
  | j + 1 => W0.mul _ (pw_in W0 hx j) _ hx
theorem pw_cancel (hx : IsP n x) (hp : ∀ j, IsP n (pw x j)) : ∀ (a b : Nat), a < b → pw x a = pw x b → ∃ j, j < b ∧ pw x j = idp n
  | 0, b + 1, _, e => ⟨b, by omega, cancel_r (hp b) (isP_id n) hx (by rw [id_beh hx]; exact e.symm)⟩
  | a + 1, b + 1, h, e => by
    obtain ⟨j, hj, r⟩ := pw_cancel hx hp a b (by omega) (cancel_r (hp a) (hp b) hx e)
    exact ⟨j, by omega, r⟩
theorem pw_ends (W0 : Grp n W) (hx : x ∈ W) (hW : W.length ≤ 60) : ∃ j, j ≤ 60 ∧ pw x j = idp n ∧ ∀ i, i < j → pw x i ≠ idp n := by
  have hp : ∀ j, IsP n (pw x j) := fun j => W0.ps _ (pw_in W0 hx j)
  have h : ∃ j, j ≤ 60 ∧ pw x j = idp n := Classical.byContradiction fun hc => by
    have nd : ((List.range 61).map (pw x)).Nodup := List.pairwise_map.mpr (List.pairwise_lt_range.imp_of_mem fun {i j} hi hj hij e => by
      obtain ⟨r, hr, hr2⟩ := pw_cancel (W0.ps x hx) hp i j hij e
      exact hc ⟨r, by have := List.mem_range.mp hj; omega, hr2⟩)
    have := nodup_len nd (m := W) fun z hz => by
      obtain ⟨i, _, rfl⟩ := List.mem_map.mp hz
      exact pw_in W0 hx i
    rw [List.length_map, List.length_range] at this
    omega
  obtain ⟨j0, hj0, e0⟩ := h
  have hm : ∀ f j, j ≤ 60 → pw x j = idp n → j ≤ f → ∃ j, j ≤ 60 ∧ pw x j = idp n ∧ ∀ i, i < j → pw x i ≠ idp n := by
    intro f
    induction f with
    | zero => exact fun j h1 h2 h3 => ⟨j, h1, h2, fun i hi => by omega⟩
    | succ f ih =>
      intro j h1 h2 h3
      by_cases hc : ∃ i, i < j ∧ pw x i = idp n
      · obtain ⟨i, hi, e⟩ := hc
        exact ih i (by omega) e (by omega)
      · exact ⟨j, h1, h2, fun i hi e => hc ⟨i, hi, e⟩⟩
  exact hm j0 j0 hj0 e0 (Nat.le_refl _)
def trB : SM := sq (setM 2 (callM m_behind (consA (vr 2) (consA (vr 0) nilA)))) (augM 1 iaddM (cst (.int 1)))
theorem tr_while (hn : n ≤ 1000) (hx : IsP n x) (hp : ∀ j, IsP n (pw x j)) {j : Nat} (hj : j ≤ 60) (e : pw x j = idp n) (hl : ∀ i, i < j → pw x i ≠ idp n) : ∀ (f i : Nat), i ≤ j → j - i ≤ f →
    whGo (tst (b2 neM (vr 2) (callM m_still (consA (callM lenM2 (consA (vr 0) nilA)) nilA)))) trB (f + 1) [some (itup x), some (.int ((i + 1 : Nat) : Int)), some (itup (pw x i))] st = .nx [some (itup x), some (.int ((j + 1 : Nat) : Int)), some (itup (idp n))] st := by
  have el : lenM2 [itup x] st = .ok (.int n) st := by
    show lenM2 [.tup (x.map D.int)] st = _
    rw [lenM2_tup, List.length_map, hx.len]
  have et : ∀ i : Nat, tst (b2 neM (vr 2) (callM m_still (consA (callM lenM2 (consA (vr 0) nilA)) nilA))) [some (itup x), some (.int ((i + 1 : Nat) : Int)), some (itup (pw x i))] st = .ok (!decide (pw x i = idp n)) st := fun i => by
    simp only [tst_s, b2_s, vr_s, List.getElem?_cons_succ, List.getElem?_cons_zero, vrK_s, bind_ok, b2K_s, callM_s, consA_s, consK_s, nilA_s, consJ_s, el, still_ok st hn, neM_row, tstK_s]
  intro f
  induction f with
  | zero =>
    intro i hi hf
    obtain rfl : i = j := by omega
    have := et i
    rw [decide_eq_true e] at this
    rw [whGo_false this, e]
  | succ f ih =>
    intro i hi hf
    have h1 := et i
    by_cases h : i = j
    · subst h
      rw [decide_eq_true e] at h1
      rw [whGo_false h1, e]
    · rw [decide_eq_false (hl i (by omega))] at h1
      have h2 := behind_ok st (hp i) hx hn
      have h3 : iaddM (.int ((i + 1 : Nat) : Int)) (.int 1) st = .ok (.int (((i + 1) + 1 : Nat) : Int)) st := rfl
      rw [whGo_true h1]
      have h4 : trB [some (itup x), some (.int ((i + 1 : Nat) : Int)), some (itup (pw x i))] st = .nx [some (itup x), some (.int (((i + 1) + 1 : Nat) : Int)), some (itup (pw x (i + 1)))] st := by
        unfold trB
        simp only [sq_s, setM_s, callM_s, consA_s, vr_s, List.getElem?_cons_succ, List.getElem?_cons_zero, vrK_s, bind_ok, consK_s, nilA_s, consJ_s, h2, toS_ok, setK_s, List.set_cons_succ, List.set_cons_zero, sqK_nx, augM_s, cst_s, h3]
        rfl
      rw [h4, whK_nx, ih (i + 1) (by omega) (by omega)]
theorem times_round_ok (k : Lk n gs B) (hx : x ∈ k.W) {j : Nat} (hj : j ≤ 60) (e : pw x j = idp n) (hl : ∀ i, i < j → pw x i ≠ idp n) (st : Store) : m_times_round [itup x] st = .ok (.int ((j + 1 : Nat) : Int)) st := by
  have h1 := tr_while (st := st) k.hn (inW k hx) (fun j => inW k (pw_in k.W0 hx j)) hj e hl 999 0 (by omega) (by omega)
  have e5 : (some (itup x) :: List.replicate (3 - 1) none) = [some (itup x), none, none] := rfl
  have e6 : b_times_round = sq (parM 1 2 (consA (cst (.int 1)) (consA (vr 0) nilA))) (sq (whGo (tst (b2 neM (vr 2) (callM m_still (consA (callM lenM2 (consA (vr 0) nilA)) nilA)))) trB 1000) (retM (vr 1))) := rfl
  simp only [m_times_round, dfM_1, e5, e6, sq_s, parM_s, consA_s, cst_s, vr_s, List.getElem?_cons_zero, vrK_s, bind_ok, consK_s, nilA_s, consJ_s, toS_ok, parK_s, sqK_nx, List.set_cons_succ, List.set_cons_zero]
  have h2 : whGo (tst (b2 neM (vr 2) (callM m_still (consA (callM lenM2 (consA (vr 0) nilA)) nilA)))) trB 1000 [some (itup x), some (.int 1), some (itup x)] st = .nx [some (itup x), some (.int ((j + 1 : Nat) : Int)), some (itup (idp n))] st := h1
  rw [h2]
  rfl
theorem rounds_ok (k : Lk4 n gs B) (hx : x ∈ k.W) {j : Nat} (hj : j ≤ 60) (e : pw x j = idp n) (hl : ∀ i, i < j → pw x i ≠ idp n) (t : TB ti st) : ∃ st', m_rounds ti [.tup (gs.map itup), itup x] st = .ok (.int ((j + 1 : Nat) : Int)) st' ∧ st <+: st' := by
  obtain ⟨S1, e1, p1⟩ := need_lock_ok k t
  obtain ⟨S2, e2, p2⟩ := need_turn_ok (st := S1) k hx (TB.pre t p1)
  have e3 := times_round_ok k.toLk hx hj e hl S2
  refine ⟨S2, ?_, p1.trans p2⟩
  have e5 : (some (D.tup (gs.map itup)) :: some (itup x) :: List.replicate (2 - 2) none) = [some (.tup (gs.map itup)), some (itup x)] := rfl
  simp only [m_rounds, dfM_2, e5, b_rounds, sq_s, exprM_s, callM_s, consA_s, vr_s, List.getElem?_cons_succ, List.getElem?_cons_zero, vrK_s, bind_ok, consK_s, nilA_s, consJ_s, e1, toS_ok, exK_s, sqK_nx, e2, retM_s, e3, rtK_s, endD_rt]
/-! ### join -/
theorem product_t (hn : n ≤ 1000) {gs : List Row} (h : ∀ g ∈ gs, IsP n g) (st : Store) : m_product [.int n, .tup (gs.map itup)] st = .ok (itup (prd (idp n) gs)) st := by
  obtain ⟨w, e⟩ := product_go (st := st) hn ⟨gs.map itup, none⟩ rfl (some (.int n)) (some (.tup (gs.map itup))) gs (idp n) none (isP_id n) h
  have e8 : (some (D.int n) :: some (D.tup (gs.map itup)) :: List.replicate (4 - 2) none) = [some (.int n), some (.tup (gs.map itup)), none, none] := rfl
  simp only [m_product, dfM_2, e8, b_product, sq_s, setM_s, callM_s, consA_s, vr_s, List.getElem?_cons_succ, List.getElem?_cons_zero, vrK_s, bind_ok, consK_s, nilA_s, consJ_s, still_ok st hn, toS_ok, setK_s, List.set_cons_succ, List.set_cons_zero, sqK_nx, forM_s, itA_s, itAK_tup, forK_s]
  rw [e]
  rfl
theorem join_ok (k : Lk4 n gs B) {ws : List Row} (hw : ∀ x ∈ ws, x ∈ k.W) (t : TB ti st) : ∃ st', m_join ti [.tup (gs.map itup), .tup (ws.map itup)] st = .ok (itup (prd (idp n) ws)) st' ∧ st <+: st' := by
  obtain ⟨S1, e1, p1⟩ := need_lock_ok k t
  have t1 := TB.pre t p1
  have hloop : ∀ (r : List Row) (S : Store) (u : Option D), (∀ x ∈ r, x ∈ k.W) → S1 <+: S → ∃ S' v, forGo ⟨ws.map itup, none⟩ (.nm 2) (exprM (callM (m_need_turn ti) (consA (vr 0) (consA (vr 2) nilA)))) (r.map itup) [some (.tup (gs.map itup)), some (.tup (ws.map itup)), u] S = .nx [some (.tup (gs.map itup)), some (.tup (ws.map itup)), v] S' ∧ S1 <+: S' := by
    intro r
    induction r with
    | nil => exact fun S u _ p => ⟨S, u, forGo_nil rfl, p⟩
    | cons x r ih =>
      intro S u hr p
      obtain ⟨S2, e2, p2⟩ := need_turn_ok (st := S) k (hr x List.mem_cons_self) (TB.pre t1 p)
      obtain ⟨S3, v, e3, p3⟩ := ih S2 (some (itup x)) (fun z hz => hr z (List.mem_cons_of_mem _ hz)) (p.trans p2)
      refine ⟨S3, v, ?_, p3⟩
      rw [List.map_cons, forGo_cons (l1 := [some (.tup (gs.map itup)), some (.tup (ws.map itup)), some (itup x)]) rfl rfl]
      simp only [exprM_s, callM_s, consA_s, vr_s, List.getElem?_cons_succ, List.getElem?_cons_zero, vrK_s, bind_ok, consK_s, nilA_s, consJ_s, e2, toS_ok, exK_s, forK2_nx]
      exact e3
  obtain ⟨S2, v, e2, p2⟩ := hloop ws S1 none hw List.prefix_rfl
  have e3 := product_t k.hn (fun g hg => inW k.toLk (hw g hg)) S2
  have e4 := k.toLk.len (i := 0) (l := [some (.tup (gs.map itup)), some (.tup (ws.map itup)), v]) rfl S2
  refine ⟨S2, ?_, p1.trans p2⟩
  have e5 : (some (D.tup (gs.map itup)) :: some (D.tup (ws.map itup)) :: List.replicate (3 - 2) none) = [some (.tup (gs.map itup)), some (.tup (ws.map itup)), none] := rfl
  have f1 : exprM (callM (m_need_lock ti) (consA (vr 0) nilA)) [some (.tup (gs.map itup)), some (.tup (ws.map itup)), none] st = .nx [some (.tup (gs.map itup)), some (.tup (ws.map itup)), none] S1 := by
    simp only [exprM_s, callM_s, consA_s, vr_s, List.getElem?_cons_zero, vrK_s, bind_ok, consK_s, nilA_s, consJ_s, e1, toS_ok, exK_s]
  have f2 : ifS (notT (tst (isiM .tup (vr 1)))) (raise0 "BadTurn") nextM [some (.tup (gs.map itup)), some (.tup (ws.map itup)), none] S1 = .nx [some (.tup (gs.map itup)), some (.tup (ws.map itup)), none] S1 := rfl
  have f3 : forM (itA (vr 1)) (.nm 2) (exprM (callM (m_need_turn ti) (consA (vr 0) (consA (vr 2) nilA)))) [some (.tup (gs.map itup)), some (.tup (ws.map itup)), none] S1 = .nx [some (.tup (gs.map itup)), some (.tup (ws.map itup)), v] S2 := e2
  unfold m_join
  rw [dfM_2, e5]
  unfold b_join
  rw [sq_nx f1, sq_nx f2, sq_nx f3, retM_s, callM_s, consA_s, e4]
  simp only [bind_ok, consK_s, consA_s, vr_s, List.getElem?_cons_succ, List.getElem?_cons_zero, vrK_s, nilA_s, consJ_s, e3, toS_ok, rtK_s, endD_rt]
/-! ### word_for -/
theorem word_for_ok (k : Lk4 n gs B) (hx : x ∈ k.W) (t : TB ti st) : ∃ st', m_word_for ti [.tup (gs.map itup), itup x] st = .ok (itup (wordOf n gs x)) st' ∧ st <+: st' ∧ wd (lawSt n gs 300) x = some (wordOf n gs x) := by
  have hn := k.hn
  obtain ⟨S1, e1, p1⟩ := need_lock_ok k t
  obtain ⟨S2, e2, p2⟩ := need_turn_ok (st := S1) k hx (TB.pre t p1)
  let S3 : Store := (S2 ++ [O.dN []]).set S2.length (O.dN (kvD (lawSt n gs 0)))
  have p3 : S2 <+: S3 := pre_set (List.prefix_append _ _) (Nat.le_refl _)
  have b0 : WL n gs S2 S3 S2.length 0 (.fl [itup (idp n)]) := ⟨p3, Nat.le_refl _, List.getElem?_set_self (by simp), .inl rfl⟩
  obtain ⟨S4, a, d, v4, v5, v6, v7, v8, e4, b4, ha, hm⟩ := wf_while k.toLk k.l4 hx 999 0 (.fl [itup (idp n)]) S3 none none none none none (by omega) (Nat.zero_le _) b0
  obtain ⟨w, hw⟩ := wd_mem hm
  have hw3 := wd_pre (lawSt_mono (n := n) (gs := gs) (show a ≤ 300 by omega)) hw
  have hwo : wordOf n gs x = w := by unfold wordOf; rw [hw3]; rfl
  have e5 := ixM2_dN b4.dict hw
  refine ⟨S4, ?_, (p1.trans p2).trans b4.pre, by rw [hwo]; exact hw3⟩
  have e6 : (some (D.tup (gs.map itup)) :: some (itup x) :: List.replicate (9 - 2) none) = [some (.tup (gs.map itup)), some (itup x), none, none, none, none, none, none, none] := rfl
  have e7 : b_word_for ti = sq (exprM (callM (m_need_lock ti) (consA (vr 0) nilA))) (sq (exprM (callM (m_need_turn ti) (consA (vr 0) (consA (vr 1) nilA)))) (sq (parM 2 3 (consA (dctN (callM m_still (consA (callM lenM2 (consA (b2 ixM2 (vr 0) (cst (.int 0))) nilA)) nilA)) (tupM nilA)) (consA (fz (disp (consA (callM m_still (consA (callM lenM2 (consA (b2 ixM2 (vr 0) (cst (.int 0))) nilA)) nilA)) nilA))) nilA))) (sq (whGo (tst (b2 ninM2 (vr 1) (vr 2))) wfB 1000) (retM (b2 ixM2 (vr 2) (vr 1)))))) := rfl
  have hs : ∀ S : Store, callM m_still (consA (callM lenM2 (consA (b2 ixM2 (vr 0) (cst (.int 0))) nilA)) nilA) [some (.tup (gs.map itup)), some (itup x), none, none, none, none, none, none, none] S = .ok (itup (idp n)) S := fun S => by
    rw [callM_s, consA_s, k.toLk.len (i := 0) rfl S]
    simp only [bind_ok, consK_s, nilA_s, consJ_s, still_ok S hn]
  have f1 : exprM (callM (m_need_lock ti) (consA (vr 0) nilA)) [some (.tup (gs.map itup)), some (itup x), none, none, none, none, none, none, none] st = .nx [some (.tup (gs.map itup)), some (itup x), none, none, none, none, none, none, none] S1 := by
    simp only [exprM_s, callM_s, consA_s, vr_s, List.getElem?_cons_zero, vrK_s, bind_ok, consK_s, nilA_s, consJ_s, e1, toS_ok, exK_s]
  have f2 : exprM (callM (m_need_turn ti) (consA (vr 0) (consA (vr 1) nilA))) [some (.tup (gs.map itup)), some (itup x), none, none, none, none, none, none, none] S1 = .nx [some (.tup (gs.map itup)), some (itup x), none, none, none, none, none, none, none] S2 := by
    simp only [exprM_s, callM_s, consA_s, vr_s, List.getElem?_cons_succ, List.getElem?_cons_zero, vrK_s, bind_ok, consK_s, nilA_s, consJ_s, e2, toS_ok, exK_s]
  have f3 : parM 2 3 (consA (dctN (callM m_still (consA (callM lenM2 (consA (b2 ixM2 (vr 0) (cst (.int 0))) nilA)) nilA)) (tupM nilA)) (consA (fz (disp (consA (callM m_still (consA (callM lenM2 (consA (b2 ixM2 (vr 0) (cst (.int 0))) nilA)) nilA)) nilA))) nilA)) [some (.tup (gs.map itup)), some (itup x), none, none, none, none, none, none, none] S2 = .nx [some (.tup (gs.map itup)), some (itup x), some (.ref S2.length), some (.fl [itup (idp n)]), none, none, none, none, none] S3 := by
    rw [parM_s, consA_s, dct0 (n := n) (gs := gs) (st := S2) (hs _) rfl]
    simp only [bind_ok, consK_s]
    rw [consA_s, fz_s, disp_s, consA_s, hs]
    simp only [bind_ok, consK_s, nilA_s, consJ_s, dispK_1, flK_s, toS_ok, parK_s, List.set_cons_succ, List.set_cons_zero]
    rfl
  unfold m_word_for
  rw [dfM_2, e6, e7, sq_nx f1, sq_nx f2, sq_nx f3, sq_nx e4]
  simp only [retM_s, b2_s, vr_s, List.getElem?_cons_succ, List.getElem?_cons_zero, vrK_s, bind_ok, b2K_s, e5, hwo, toS_ok, rtK_s, endD_rt]
end
end Sd
namespace Sd
set_option autoImplicit false
open PySem L2 Rf

section
variable {n m q ti : Nat} {gs B W : List Row} {x y : Row} {kv : KV} {st S : Store}
abbrev inR : EM D := callM m_is_number (consA (vr 2) (consA (cst (.int 0)) (consA (b2 subM (vr 0) (cst (.int 1))) nilA)))
/-- no turn: the length -/
theorem is_turn_len {l : List D} (h : l.length ≠ n) (st : Store) : m_is_turn ti [.int n, .tup l] st = .ok (.bl false) st := by
  have e8 : (some (D.int n) :: some (D.tup l) :: List.replicate (3 - 2) none) = [some (.int n), some (.tup l), none] := rfl
  have h2 : ¬((l.length : Nat) : Int) = (n : Int) := by omega
  simp only [m_is_turn, dfM_2, e8, b_is_turn, sq_s, ifS_s, orT_s, notT_s, tst_s, isiM_s, vr_s, List.getElem?_cons_succ, List.getElem?_cons_zero, vrK_s, bind_ok, isiK_tup, isT, tstK_s, notK_s, Bool.not_true, orK_f, b2_s, callM_s, consA_s, consK_s, nilA_s, consJ_s, lenM2_tup, b2K_s, neM_int, decide_eq_false h2, Bool.not_false, toS_ok, ifK_t, retM_s, cst_s, rtK_s, sqK_rt, endD_rt]
/-- no turn: not a tuple -/
theorem is_turn_non (st : Store) : m_is_turn ti [.int n, .non] st = .ok (.bl false) st := rfl
/-- no turn: a place out of reach -/
theorem is_turn_out {l : List D} (h : l.length = n) (e : allM true ti ("is_turn", none) (itA (vr 1)) (.nm 2) yesM inR [2] [some (.int n), some (.tup l), none] st = .ok (.bl false) st) : m_is_turn ti [.int n, .tup l] st = .ok (.bl false) st := by
  have e8 : (some (D.int n) :: some (D.tup l) :: List.replicate (3 - 2) none) = [some (.int n), some (.tup l), none] := rfl
  simp only [m_is_turn, dfM_2, e8, b_is_turn, sq_s, ifS_s, orT_s, notT_s, tst_s, isiM_s, vr_s, List.getElem?_cons_succ, List.getElem?_cons_zero, vrK_s, bind_ok, isiK_tup, isT, tstK_s, notK_s, Bool.not_true, orK_f, b2_s, callM_s, consA_s, consK_s, nilA_s, consJ_s, lenM2_tup, h, b2K_s, neM_int, decide_true, Bool.not_true, toS_ok, ifK_f, nextM_s, sqK_nx, retM_s, andV_s]
  rw [e]
  rfl
/-- no turn: a place twice -/
theorem is_turn_two {l : List D} {m : Int} (h : l.length = n) (e : allM true ti ("is_turn", none) (itA (vr 1)) (.nm 2) yesM inR [2] [some (.int n), some (.tup l), none] st = .ok (.bl true) st) (hs : lenSetK (.tup l) st = .ok (.int m) st) (hm : m ≠ n) : m_is_turn ti [.int n, .tup l] st = .ok (.bl false) st := by
  have e8 : (some (D.int n) :: some (D.tup l) :: List.replicate (3 - 2) none) = [some (.int n), some (.tup l), none] := rfl
  simp only [m_is_turn, dfM_2, e8, b_is_turn, sq_s, ifS_s, orT_s, notT_s, tst_s, isiM_s, vr_s, List.getElem?_cons_succ, List.getElem?_cons_zero, vrK_s, bind_ok, isiK_tup, isT, tstK_s, notK_s, Bool.not_true, orK_f, b2_s, callM_s, consA_s, consK_s, nilA_s, consJ_s, lenM2_tup, h, b2K_s, neM_int, decide_true, Bool.not_true, toS_ok, ifK_f, nextM_s, sqK_nx, retM_s, andV_s]
  rw [e]
  simp only [bind_ok, andVK_t, b2_s, lenSet_s, vr_s, List.getElem?_cons_succ, List.getElem?_cons_zero, vrK_s, hs, b2K_s, eqM_int, decide_eq_false hm, toS_ok, rtK_s, endD_rt]
theorem all_s {it : EM Src} {el : EM D} {vs : List Nat} {l : Sl} {s : Src} (t : TB ti st) (hi : it l st = .ok s st) : allM true ti ("is_turn", none) it (.nm 2) yesM el vs l st = allGo true s (.nm 2) yesM el (wipeD l vs) s.items st := by
  unfold allM
  rw [hi]
  simp only [bind_ok]
  rw [show st[ti]? = _ from t]
  simp only [if_true]
theorem is_turn_00 (t : TB ti st) : m_is_turn ti [.int (2 : Nat), .tup [.int 0, .int 0]] st = .ok (.bl false) st :=
  is_turn_two (m := 1) rfl ((all_s t rfl).trans rfl) rfl (by decide)
theorem is_turn_t0 (t : TB ti st) : m_is_turn ti [.int (2 : Nat), .tup [.bl true, .int 0]] st = .ok (.bl false) st :=
  is_turn_out rfl ((all_s t rfl).trans rfl)
theorem is_turn_zeros (t : TB ti st) (h2 : 2 ≤ n) (h9 : n ≤ 9) : m_is_turn ti [.int n, .tup (rep [.int 0] n)] st = .ok (.bl false) st := by
  obtain rfl | rfl | rfl | rfl | rfl | rfl | rfl | rfl : n = 2 ∨ n = 3 ∨ n = 4 ∨ n = 5 ∨ n = 6 ∨ n = 7 ∨ n = 8 ∨ n = 9 := by omega
  all_goals exact is_turn_two (m := 1) rfl ((all_s t rfl).trans rfl) rfl (by decide)
/-! ### no locks -/
abbrev ltB (ti : Nat) : SM := ifS (notT (tst (callM (m_is_turn ti) (consA (callM lenM2 (consA (b2 ixM2 (vr 0) (cst (.int 0))) nilA)) (consA (vr 2) nilA))))) (raise1 "BadLock" "place" (consA (vr 1) nilA)) nextM
theorem nl_non (st : Store) : m_need_lock ti [.non] st = .exc "BadLock" [("place", .non)] st := rfl
theorem nl_nil (st : Store) : m_need_lock ti [.tup []] st = .exc "BadLock" [("place", .non)] st := rfl
theorem nl_many {l : List D} (h : 4 < l.length) (st : Store) : m_need_lock ti [.tup l] st = .exc "BadLock" [("place", .non)] st := by
  have e8 : (some (D.tup l) :: List.replicate (3 - 1) none) = [some (.tup l), none, none] := rfl
  have e1 : leM (.int 1) (.int (l.length : Nat)) st = .ok (.bl true) st := by
    have : leM (.int 1) (.int (l.length : Nat)) st = .ok (.bl (decide ((1 : Int) ≤ (l.length : Nat)))) st := rfl
    rw [this, decide_eq_true (by omega)]
  have e2 : leM (.int (l.length : Nat)) (.int 4) st = .ok (.bl false) st := by
    have : leM (.int (l.length : Nat)) (.int 4) st = .ok (.bl (decide (((l.length : Nat) : Int) ≤ 4))) st := rfl
    rw [this, decide_eq_false (by omega)]
  simp only [m_need_lock, dfM_1, e8, b_need_lock, sq_s, ifS_s, orT_s, notT_s, tst_s, isiM_s, vr_s, List.getElem?_cons_zero, vrK_s, bind_ok, isiK_tup, isT, tstK_s, notK_s, Bool.not_true, orK_f, chM_s, cst_s, chK_s, callM_s, consA_s, consK_s, nilA_s, consJ_s, lenM2_tup, chJ_s, e1, chL_t, e2, Bool.not_false, toS_ok, ifK_t, raise1_s, raise1K_s, sqK_exc, endD_exc]
theorem nl_short (st : Store) : m_need_lock ti [.tup [.tup [.int 0]]] st = .exc "BadLock" [("place", .int 0)] st := rfl
theorem nl_list {l : List D} (st : Store) : m_need_lock ti [.tup [.fl l]] st = .exc "BadLock" [("place", .int 0)] st := rfl
/-- a lock whose first turn is none, of two places -/
theorem nl_first {l : List D} (h : l.length = 2) (e : m_is_turn ti [.int (2 : Nat), .tup l] st = .ok (.bl false) st) : m_need_lock ti [.tup [.tup l]] st = .exc "BadLock" [("place", .int 0)] st := by
  have e8 : (some (D.tup [.tup l]) :: List.replicate (3 - 1) none) = [some (.tup [.tup l]), none, none] := rfl
  have e0 : ∀ s : Store, ixM2 (.tup [.tup l]) (.int 0) s = .ok (.tup l) s := fun _ => rfl
  have e1 : leM (.int 1) (.int ((([.tup l] : List D).length : Nat) : Int)) st = .ok (.bl true) st := rfl
  have e2 : leM (.int ((([.tup l] : List D).length : Nat) : Int)) (.int 4) st = .ok (.bl true) st := rfl
  have e3 : leM (.int 2) (.int ((l.length : Nat) : Int)) st = .ok (.bl true) st := by rw [h]; rfl
  have e4 : leM (.int ((l.length : Nat) : Int)) (.int 9) st = .ok (.bl true) st := by rw [h]; rfl
  have e5 : lenM2 [.tup l] st = .ok (.int (2 : Nat)) st := by rw [lenM2_tup, h]
  have e6 : forGo ⟨pairsD 0 [.tup l], none⟩ (.tp [(.nm 1), (.nm 2)]) (ltB ti) (pairsD 0 [.tup l]) [some (.tup [.tup l]), none, none] st = .exc "BadLock" [("place", .int 0)] [some (.tup [.tup l]), some (.int 0), some (.tup l)] st := by
    rw [show pairsD 0 [D.tup l] = [.tw [.int 0, .tup l]] from rfl, forGo_cons (l1 := [some (.tup [.tup l]), some (.int 0), some (.tup l)]) rfl rfl]
    unfold ltB
    simp only [ifS_s, notT_s, tst_s, callM_s, consA_s, b2_s, vr_s, List.getElem?_cons_succ, List.getElem?_cons_zero, vrK_s, bind_ok, b2K_s, cst_s, e0, consK_s, nilA_s, consJ_s, e5, e, tstK_s, notK_s, Bool.not_false, toS_ok, ifK_t, raise1_s, raise1K_s, forK2_exc]
  simp only [m_need_lock, dfM_1, e8, b_need_lock, sq_s, ifS_s, orT_s, notT_s, tst_s, isiM_s, vr_s, List.getElem?_cons_zero, vrK_s, bind_ok, isiK_tup, isT, tstK_s, notK_s, Bool.not_true, orK_f, chM_s, cst_s, chK_s, callM_s, consA_s, consK_s, nilA_s, consJ_s, lenM2_tup, chJ_s, e1, chL_t, e2, toS_ok, ifK_f, nextM_s, sqK_nx, b2_s, b2K_s, e0, e3, e4, forM_s, itE2_s, itE2K_tup, forK_s]
  rw [e6]
  rfl
theorem pairs_snoc (l : List D) (d : D) : ∀ k, pairsD k (l ++ [d]) = pairsD k l ++ [.tw [.int ((k + l.length : Nat) : Int), d]] := by
  induction l with
  | nil => intro k; rfl
  | cons x l ih =>
    intro k
    rw [List.cons_append, pairsD, pairsD, ih (k + 1), List.cons_append, List.length_cons]
    congr 4
    · rw [show k + 1 + l.length = k + (l.length + 1) from by omega]
/-- a lock and one thing more -/
theorem nl_more (k : Lk4 n gs B) (h3 : gs.length ≤ 3) (t : TB ti st) : ∃ S, m_need_lock ti [.tup (gs.map itup ++ [.tup [.int 0]])] st = .exc "BadLock" [("place", .int (gs.length : Nat))] S ∧ st <+: S := by
  have hn := k.hn
  have k' : Lk n gs B := k.toLk
  have hpos : 0 < gs.length := List.length_pos_iff.mpr k.ne
  obtain ⟨g0, hg0⟩ : ∃ g, gs[0]? = some g := ⟨gs[0], List.getElem?_eq_getElem hpos⟩
  have g0m := List.mem_of_getElem? hg0
  have e0 : ∀ s : Store, ixM2 (.tup (gs.map itup ++ [.tup [.int 0]])) (.int 0) s = .ok (itup g0) s := fun s => by
    rw [ixM2_tup]
    have : atI (gs.map itup ++ [.tup [.int 0]]) ((0 : Nat) : Int) = some (itup g0) := Rf.atI_nat (by rw [List.getElem?_append_left (by rw [List.length_map]; exact hpos), List.getElem?_map, hg0]; rfl)
    exact congrArg (fun z => atK z s) this
  have eg : ∀ s : Store, lenM2 [itup g0] s = .ok (.int n) s := fun s => by
    show lenM2 [.tup (g0.map D.int)] s = _
    rw [lenM2_tup, List.length_map, (k'.gp g0 g0m).len]
  have ele : ∀ (a b : Int) (s : Store), a ≤ b → leM (.int a) (.int b) s = .ok (.bl true) s := fun a b s h => by
    have : leM (.int a) (.int b) s = .ok (.bl (decide (a ≤ b))) s := rfl
    rw [this, decide_eq_true h]
  have hL : (gs.map itup ++ [D.tup [.int 0]]).length = gs.length + 1 := by simp
  have e1 := ele 1 ((gs.map itup ++ [D.tup [.int 0]]).length : Nat) st (by rw [hL]; omega)
  have e2 := ele ((gs.map itup ++ [D.tup [.int 0]]).length : Nat) 4 st (by rw [hL]; omega)
  have e3 := ele 2 (n : Int) st (by have := k.n2; omega)
  have e4 := ele (n : Int) 9 st (by have := k.n9; omega)
  have hloop : ∀ (r : List Row) (i : Nat) (S : Store) (u v : Option D), (∀ g ∈ r, IsP n g) → st <+: S → ∃ S' l', forGo ⟨pairsD 0 (gs.map itup ++ [.tup [.int 0]]), none⟩ (.tp [(.nm 1), (.nm 2)]) (ltB ti) (pairsD i (r.map itup ++ [.tup [.int 0]])) [some (.tup (gs.map itup ++ [.tup [.int 0]])), u, v] S = .exc "BadLock" [("place", .int ((i + r.length : Nat) : Int))] l' S' ∧ st <+: S' := by
    intro r
    induction r with
    | nil =>
      intro i S u v _ p
      have ef := is_turn_len (ti := ti) (n := n) (l := [.int 0]) (by have := k.n2; simp; omega) S
      refine ⟨S, [some (.tup (gs.map itup ++ [.tup [.int 0]])), some (.int (i : Nat)), some (.tup [.int 0])], ?_, p⟩
      rw [show pairsD i (([] : List Row).map itup ++ [.tup [.int 0]]) = [.tw [.int (i : Nat), .tup [.int 0]]] from rfl, forGo_cons (l1 := [some (.tup (gs.map itup ++ [.tup [.int 0]])), some (.int (i : Nat)), some (.tup [.int 0])]) rfl rfl]
      unfold ltB
      simp only [ifS_s, notT_s, tst_s, callM_s, consA_s, b2_s, vr_s, List.getElem?_cons_succ, List.getElem?_cons_zero, vrK_s, bind_ok, b2K_s, cst_s, e0, consK_s, nilA_s, consJ_s, eg, ef, tstK_s, notK_s, Bool.not_false, toS_ok, ifK_t, raise1_s, raise1K_s, forK2_exc]
      rfl
    | cons g r ih =>
      intro i S u v hr p
      obtain ⟨S2, e6, p2⟩ := is_turn_ok (st := S) (ti := ti) (hr g List.mem_cons_self) hn (TB.pre t p)
      obtain ⟨S3, l3, e7, p3⟩ := ih (i + 1) S2 (some (.int (i : Nat))) (some (itup g)) (fun z hz => hr z (List.mem_cons_of_mem _ hz)) (p.trans p2)
      refine ⟨S3, l3, ?_, p3⟩
      rw [List.map_cons, List.cons_append, pairsD, forGo_cons (l1 := [some (.tup (gs.map itup ++ [.tup [.int 0]])), some (.int (i : Nat)), some (itup g)]) rfl rfl]
      have e8 : ltB ti [some (.tup (gs.map itup ++ [.tup [.int 0]])), some (.int (i : Nat)), some (itup g)] S = .nx [some (.tup (gs.map itup ++ [.tup [.int 0]])), some (.int (i : Nat)), some (itup g)] S2 := by
        unfold ltB
        simp only [ifS_s, notT_s, tst_s, callM_s, consA_s, b2_s, vr_s, List.getElem?_cons_succ, List.getElem?_cons_zero, vrK_s, bind_ok, b2K_s, cst_s, e0, consK_s, nilA_s, consJ_s, eg, e6, tstK_s, notK_s, Bool.not_true, toS_ok, ifK_f, nextM_s]
      rw [e8, forK2_nx, e7, List.length_cons, show i + 1 + r.length = i + (r.length + 1) from by omega]
  obtain ⟨S', l', e5, p5⟩ := hloop gs 0 st none none k'.gp List.prefix_rfl
  refine ⟨S', ?_, p5⟩
  rw [Nat.zero_add] at e5
  have e8 : (some (D.tup (gs.map itup ++ [.tup [.int 0]])) :: List.replicate (3 - 1) none) = [some (.tup (gs.map itup ++ [.tup [.int 0]])), none, none] := rfl
  have e9 : isiK .tup (itup g0) st = .ok (.bl true) st := rfl
  simp only [m_need_lock, dfM_1, e8, b_need_lock, sq_s, ifS_s, orT_s, notT_s, tst_s, isiM_s, vr_s, List.getElem?_cons_zero, vrK_s, bind_ok, isiK_tup, isT, tstK_s, notK_s, Bool.not_true, orK_f, chM_s, cst_s, chK_s, callM_s, consA_s, consK_s, nilA_s, consJ_s, lenM2_tup, chJ_s, e1, chL_t, e2, toS_ok, ifK_f, nextM_s, sqK_nx, b2_s, b2K_s, e0, e9, eg, e3, e4, forM_s, itE2_s, itE2K_tup, forK_s]
  rw [e5]
  rfl
theorem all_turns_exc {d : D} {c : Str} {fs : List (Str × D)} (h : m_need_lock ti [d] st = .exc c fs S) : m_all_turns ti [d] st = .exc c fs S := by
  have e5 : (some d :: List.replicate (1 - 1) none) = [some d] := rfl
  simp only [m_all_turns, dfM_1, e5, b_all_turns, sq_s, exprM_s, callM_s, consA_s, vr_s, List.getElem?_cons_zero, vrK_s, bind_ok, consK_s, nilA_s, consJ_s, h, toS_exc, sqK_exc, endD_exc]
/-! ### no turns -/
theorem is_made_non (k : Lk4 n gs B) (t : TB ti st) : ∃ S, m_is_made ti [.tup (gs.map itup), .non] st = .exc "BadTurn" [] S ∧ st <+: S := by
  obtain ⟨S1, e1, p1⟩ := need_lock_ok k t
  refine ⟨S1, ?_, p1⟩
  have e4 := k.toLk.len (i := 0) (l := [some (.tup (gs.map itup)), some .non]) rfl S1
  have e5 : (some (D.tup (gs.map itup)) :: some .non :: List.replicate (2 - 2) none) = [some (.tup (gs.map itup)), some .non] := rfl
  have f1 : exprM (callM (m_need_lock ti) (consA (vr 0) nilA)) [some (.tup (gs.map itup)), some .non] st = .nx [some (.tup (gs.map itup)), some .non] S1 := by
    simp only [exprM_s, callM_s, consA_s, vr_s, List.getElem?_cons_zero, vrK_s, bind_ok, consK_s, nilA_s, consJ_s, e1, toS_ok, exK_s]
  have f2 : ifS (notT (tst (callM (m_is_turn ti) (consA (callM lenM2 (consA (b2 ixM2 (vr 0) (cst (.int 0))) nilA)) (consA (vr 1) nilA))))) (raise0 "BadTurn") nextM [some (.tup (gs.map itup)), some .non] S1 = .exc "BadTurn" [] [some (.tup (gs.map itup)), some .non] S1 := by
    rw [ifS_s, notT_s, tst_s, callM_s, consA_s, e4]
    simp only [bind_ok, consK_s, consA_s, vr_s, List.getElem?_cons_succ, List.getElem?_cons_zero, vrK_s, nilA_s, consJ_s, is_turn_non, tstK_s, notK_s, Bool.not_false, toS_ok, ifK_t, raise0_s]
  unfold m_is_made
  rw [dfM_2, e5]
  unfold b_is_made
  rw [sq_nx f1, sq_s, f2]
  rfl
theorem join_list {l : List D} (k : Lk4 n gs B) (t : TB ti st) : ∃ S, m_join ti [.tup (gs.map itup), .fl l] st = .exc "BadTurn" [] S ∧ st <+: S := by
  obtain ⟨S1, e1, p1⟩ := need_lock_ok k t
  refine ⟨S1, ?_, p1⟩
  have e5 : (some (D.tup (gs.map itup)) :: some (D.fl l) :: List.replicate (3 - 2) none) = [some (.tup (gs.map itup)), some (.fl l), none] := rfl
  have f1 : exprM (callM (m_need_lock ti) (consA (vr 0) nilA)) [some (.tup (gs.map itup)), some (.fl l), none] st = .nx [some (.tup (gs.map itup)), some (.fl l), none] S1 := by
    simp only [exprM_s, callM_s, consA_s, vr_s, List.getElem?_cons_zero, vrK_s, bind_ok, consK_s, nilA_s, consJ_s, e1, toS_ok, exK_s]
  unfold m_join
  rw [dfM_2, e5]
  unfold b_join
  rw [sq_nx f1]
  rfl
theorem undo_zeros (k : Lk4 n gs B) (t : TB ti st) : ∃ S, m_undo ti [.tup (gs.map itup), .tup (rep [.int 0] n)] st = .exc "BadTurn" [] S ∧ st <+: S := by
  obtain ⟨S1, e1, p1⟩ := need_lock_ok k t
  refine ⟨S1, ?_, p1⟩
  have e4 := k.toLk.len (i := 0) (l := [some (.tup (gs.map itup)), some (.tup (rep [.int 0] n))]) rfl S1
  have e2 := is_turn_zeros (TB.pre t p1) k.n2 k.n9
  have e3 : m_need_turn ti [.tup (gs.map itup), .tup (rep [.int 0] n)] S1 = .exc "BadTurn" [] S1 := by
    have e5 : (some (D.tup (gs.map itup)) :: some (D.tup (rep [.int 0] n)) :: List.replicate (2 - 2) none) = [some (.tup (gs.map itup)), some (.tup (rep [.int 0] n))] := rfl
    unfold m_need_turn
    rw [dfM_2, e5]
    unfold b_need_turn
    rw [ifS_s, orT_s, notT_s, tst_s, callM_s, consA_s, e4]
    simp only [bind_ok, consK_s, consA_s, vr_s, List.getElem?_cons_succ, List.getElem?_cons_zero, vrK_s, nilA_s, consJ_s, e2, tstK_s, notK_s, Bool.not_false]
    rfl
  have e5 : (some (D.tup (gs.map itup)) :: some (D.tup (rep [.int 0] n)) :: List.replicate (2 - 2) none) = [some (.tup (gs.map itup)), some (.tup (rep [.int 0] n))] := rfl
  simp only [m_undo, dfM_2, e5, b_undo, sq_s, exprM_s, callM_s, consA_s, vr_s, List.getElem?_cons_succ, List.getElem?_cons_zero, vrK_s, bind_ok, consK_s, nilA_s, consJ_s, e1, toS_ok, exK_s, sqK_nx, e3, toS_exc, sqK_exc, endD_exc]
end
end Sd
namespace Sd
set_option autoImplicit false
open PySem L2 Rf

/-! ### a lock that makes too many -/
def gfold (x : Row) : List Row → List Row × List Row → List Row × List Row
  | [], p => p
  | g :: r, p => gfold x r (if beh x g ∈ p.1 then p else (p.1 ++ [beh x g], p.2 ++ [beh x g]))
def lfold (gs : List Row) : List Row → List Row × List Row → List Row × List Row
  | [], p => p
  | x :: r, p => lfold gs r (gfold x gs p)
/-- the layers grow beyond 240, and how far is bounded -/
def grows (gs : List Row) : Nat → List Row → List Row → Bool
  | 0, _, _ => false
  | k + 1, F, ly => decide (ly ≠ [] ∧ F.length + gs.length * ly.length < 1000) && (if 240 < (lfold gs ly (F, [])).1.length then true else grows gs k (lfold gs ly (F, [])).1 (lfold gs ly (F, [])).2)
section
variable {n : Nat} {gs ly : List Row} {X d : D} {st S : Store} {x : Row} {m q : Nat}
theorem gfold_ok {u0 : Option D} (hn : n ≤ 1000) (hx : IsP n x) : ∀ (r F L : List Row) (S : Store) (w6 w7 : Option D), (∀ g ∈ r, IsP n g) → BS st S m q F L d ly → F.length + r.length < 1000 → L.length ≤ F.length →
    ∃ S' v6 v7, forGo ⟨gs.map itup, none⟩ (.nm 6) gB (r.map itup) [u0, some X, some (.ref m), some d, some (.ref q), some (itup x), w6, w7] S = .nx [u0, some X, some (.ref m), some d, some (.ref q), some (itup x), v6, v7] S' ∧
      BS st S' m q (gfold x r (F, L)).1 (gfold x r (F, L)).2 d ly ∧ (gfold x r (F, L)).1.length ≤ F.length + r.length ∧ (gfold x r (F, L)).2.length ≤ (gfold x r (F, L)).1.length
  | [], F, L, S, w6, w7, _, b, _, hL => ⟨S, w6, w7, forGo_nil rfl, b, Nat.le_refl _, hL⟩
  | g :: r, F, L, S, w6, w7, hr, b, hF, hL => by
    rw [List.length_cons] at hF
    obtain ⟨S1, N, e1, b1, hN⟩ := gB_ok (u0 := u0) (X := X) (w7 := w7) b hx (hr g List.mem_cons_self) hn (by omega) (by omega)
    have hp : (F ++ N, L ++ N) = (if beh x g ∈ F then (F, L) else (F ++ [beh x g], L ++ [beh x g])) := by
      subst hN
      split <;> simp
    have hNl : N.length ≤ 1 := by subst hN; split <;> simp
    obtain ⟨S2, v6, v7, e2, b2, l2, l3⟩ := gfold_ok hn hx r (F ++ N) (L ++ N) S1 (some (itup g)) (some (itup (beh x g))) (fun z hz => hr z (List.mem_cons_of_mem _ hz)) b1 (by rw [List.length_append]; omega) (by rw [List.length_append, List.length_append]; omega)
    have hg : gfold x (g :: r) (F, L) = gfold x r (F ++ N, L ++ N) := by
      show gfold x r (if beh x g ∈ F then (F, L) else (F ++ [beh x g], L ++ [beh x g])) = _
      rw [hp]
    rw [hg]
    refine ⟨S2, v6, v7, ?_, b2, by rw [List.length_append] at l2; rw [List.length_cons]; omega, l3⟩
    rw [List.map_cons, forGo_cons (l1 := [u0, some X, some (.ref m), some d, some (.ref q), some (itup x), some (itup g), w7]) rfl rfl, e1, forK2_nx, e2]
theorem gfold_ps (hx : IsP n x) : ∀ (r F L : List Row), (∀ g ∈ r, IsP n g) → (∀ z ∈ L, IsP n z) → ∀ z ∈ (gfold x r (F, L)).2, IsP n z
  | [], F, L, _, h => h
  | g :: r, F, L, hr, h => by
    show ∀ z ∈ (gfold x r (if beh x g ∈ F then (F, L) else (F ++ [beh x g], L ++ [beh x g]))).2, IsP n z
    split
    · exact gfold_ps hx r F L (fun z hz => hr z (List.mem_cons_of_mem _ hz)) h
    · refine gfold_ps hx r _ _ (fun z hz => hr z (List.mem_cons_of_mem _ hz)) fun z hz => ?_
      rcases List.mem_append.mp hz with hz | hz
      · exact h z hz
      · rw [List.mem_singleton.mp hz]
        exact hx.beh (hr g List.mem_cons_self)
theorem lfold_ps (hg : ∀ g ∈ gs, IsP n g) : ∀ (r F L : List Row), (∀ x ∈ r, IsP n x) → (∀ z ∈ L, IsP n z) → ∀ z ∈ (lfold gs r (F, L)).2, IsP n z
  | [], F, L, _, h => h
  | x :: r, F, L, hr, h => lfold_ps hg r _ _ (fun z hz => hr z (List.mem_cons_of_mem _ hz)) (gfold_ps (hr x List.mem_cons_self) gs F L hg h)
theorem lfold_ok {u0 : Option D} (hn : n ≤ 1000) (hX : Sq X gs) (hg : ∀ g ∈ gs, IsP n g) (sr : Src) (hsr : ∀ S F L, BS st S m q F L d ly → sr.chk S = true) : ∀ (r F L : List Row) (S : Store) (w5 w6 w7 : Option D), (∀ x ∈ r, IsP n x) → BS st S m q F L d ly → F.length + gs.length * r.length < 1000 → L.length ≤ F.length →
    ∃ S' v5 v6 v7, forGo sr (.nm 5) lB (r.map itup) [u0, some X, some (.ref m), some d, some (.ref q), w5, w6, w7] S = .nx [u0, some X, some (.ref m), some d, some (.ref q), v5, v6, v7] S' ∧
      BS st S' m q (lfold gs r (F, L)).1 (lfold gs r (F, L)).2 d ly
  | [], F, L, S, w5, w6, w7, _, b, _, _ => ⟨S, w5, w6, w7, forGo_nil (hsr _ _ _ b), b⟩
  | x :: r, F, L, S, w5, w6, w7, hr, b, hF, hL => by
    rw [List.length_cons, Nat.mul_succ] at hF
    obtain ⟨S1, v6, v7, e1, b1, l1, l2⟩ := gfold_ok (gs := gs) (u0 := u0) (X := X) hn (hr x List.mem_cons_self) gs F L S w6 w7 hg b (by omega) hL
    obtain ⟨S2, x5, x6, x7, e2, b2⟩ := lfold_ok hn hX hg sr hsr r (gfold x gs (F, L)).1 (gfold x gs (F, L)).2 S1 (some (itup x)) v6 v7 (fun z hz => hr z (List.mem_cons_of_mem _ hz)) b1 (by omega) l2
    refine ⟨S2, x5, x6, x7, ?_, b2⟩
    have e3 : lB [u0, some X, some (.ref m), some d, some (.ref q), some (itup x), w6, w7] S = forGo ⟨gs.map itup, none⟩ (.nm 6) gB (gs.map itup) [u0, some X, some (.ref m), some d, some (.ref q), some (itup x), w6, w7] S := by
      unfold lB
      simp [hX.it]
    rw [List.map_cons, forGo_cons (l1 := [u0, some X, some (.ref m), some d, some (.ref q), some (itup x), w6, w7]) (hsr _ _ _ b) rfl, e3, e1, forK2_nx, e2]
theorem wB_run {F : List Row} {u0 w4 w5 w6 w7 : Option D} (hn : n ≤ 1000) (hX : Sq X gs) (hg : ∀ g ∈ gs, IsP n g) (b : BL st S m F d ly) (hl : ∀ x ∈ ly, IsP n x) (hb : F.length + gs.length * ly.length < 1000) :
    ∃ S' v5 v6 v7, BL st S' m (lfold gs ly (F, [])).1 (.ref S.length) (lfold gs ly (F, [])).2 ∧ wB [u0, some X, some (.ref m), some d, w4, w5, w6, w7] S =
      (if 240 < (lfold gs ly (F, [])).1.length then .exc "TooMany" [("most", .int 240)] [u0, some X, some (.ref m), some d, some (.ref S.length), v5, v6, v7] S' else .nx [u0, some X, some (.ref m), some (.ref S.length), some (.ref S.length), v5, v6, v7] S') := by
  have b1 := b.start
  obtain ⟨sr, e0, e0i, hsr⟩ : ∃ sr : Src, itAK d (S ++ [O.lst []]) = .ok sr (S ++ [O.lst []]) ∧ sr.items = ly.map itup ∧ ∀ S2 F2 L2, BS st S2 m S.length F2 L2 d ly → sr.chk S2 = true := by
    rcases b1.layer with rfl | ⟨r, rfl, _, _, h⟩
    · exact ⟨_, rfl, rfl, fun _ _ _ _ => rfl⟩
    · refine ⟨⟨ly.map itup, some (r, ly.map itup)⟩, ?_, rfl, fun S2 F2 L2 b2 => ?_⟩
      · simp [itAK, lof, h, srcL]
      · rcases b2.layer with e | ⟨r2, e, _, _, h2⟩
        · cases e
        · cases e
          simp [Src.chk, h2]
  obtain ⟨S2, v5, v6, v7, e2, b2⟩ := lfold_ok (u0 := u0) (X := X) hn hX hg sr hsr ly F [] (S ++ [.lst []]) w5 w6 w7 hl b1 hb (Nat.zero_le _)
  obtain ⟨kv, h1, h2⟩ := b2.dict
  have hkl : kv.length = (lfold gs ly (F, [])).1.length := by
    have := congrArg List.length h2
    rwa [List.length_map, List.length_map] at this
  have e3 := lenM2_dN S2 h1
  have e4 : gtM (.int kv.length) (.int 240) S2 = .ok (.bl (decide (240 < (lfold gs ly (F, [])).1.length))) S2 := by
    have : gtM (.int kv.length) (.int 240) S2 = .ok (.bl (decide ((240 : Int) < kv.length))) S2 := rfl
    rw [this, hkl]
    congr 2
    exact decide_eq_decide.mpr (by omega)
  refine ⟨S2, v5, v6, v7, b2.stop, ?_⟩
  simp only [wB, sq_s, setM_s, al_s, disp_s, nilA_s, bind_ok, dispK_0, alK_s, toS_ok, setK_s, sqK_nx, List.set_cons_succ, List.set_cons_zero, forM_s, itA_s, vr_s, List.getElem?_cons_succ, List.getElem?_cons_zero, vrK_s, e0, forK_s, e0i]
  rw [e2]
  simp only [sqK_nx, sq_s, ifS_s, tst_s, b2_s, callM_s, consA_s, vr_s, List.getElem?_cons_succ, List.getElem?_cons_zero, vrK_s, bind_ok, consK_s, nilA_s, consJ_s, e3, b2K_s, cst_s, e4, tstK_s, toS_ok]
  by_cases h : 240 < (lfold gs ly (F, [])).1.length
  · rw [decide_eq_true h, if_pos h]
    rfl
  · rw [decide_eq_false h, if_neg h]
    rfl
theorem grows_ok {u0 : Option D} (hn : n ≤ 1000) (hX : Sq X gs) (hg : ∀ g ∈ gs, IsP n g) : ∀ (k f : Nat) (F ly : List Row) (d : D) (S : Store) (w4 w5 w6 w7 : Option D), k ≤ f → BL st S m F d ly → (∀ x ∈ ly, IsP n x) → grows gs k F ly = true →
    ∃ l' S', whGo (truT (vr 3)) wB f [u0, some X, some (.ref m), some d, w4, w5, w6, w7] S = .exc "TooMany" [("most", .int 240)] l' S' ∧ st <+: S'
  | 0, _, _, _, _, _, _, _, _, _, _, _, _, h => by cases h
  | k + 1, f, F, ly, d, S, w4, w5, w6, w7, hf, b, hl, h => by
    obtain ⟨f, rfl⟩ : ∃ f', f = f' + 1 := ⟨f - 1, by omega⟩
    unfold grows at h
    rw [Bool.and_eq_true] at h
    obtain ⟨hne, hb⟩ := of_decide_eq_true h.1
    have h2 := h.2
    have ht := b.tru (l := [u0, some X, some (.ref m), some d, w4, w5, w6, w7]) rfl
    have hle : (!ly.isEmpty) = true := by
      cases ly with
      | nil => exact absurd rfl hne
      | cons a l => rfl
    rw [hle] at ht
    obtain ⟨S1, v5, v6, v7, b1, e1⟩ := wB_run (u0 := u0) (w4 := w4) (w5 := w5) (w6 := w6) (w7 := w7) hn hX hg b hl hb
    rw [whGo_true ht, e1]
    by_cases hc : 240 < (lfold gs ly (F, [])).1.length
    · rw [if_pos hc]
      exact ⟨_, S1, whK_exc .., b1.pre⟩
    · rw [if_neg hc] at h2 ⊢
      rw [whK_nx]
      exact grows_ok hn hX hg k f _ _ _ S1 _ _ _ _ (by omega) b1 (lfold_ps hg ly F [] hl (by simp)) h2
theorem spanned_many (hn : n ≤ 1000) (hX : Sq X gs) (hg : ∀ g ∈ gs, IsP n g) (h : grows gs 900 [idp n] [idp n] = true) (st : Store) : ∃ st', m_spanned [.int n, X] st = .exc "TooMany" [("most", .int 240)] st' ∧ st <+: st' := by
  have b0 : BL st ((st ++ [O.dN []]).set st.length (O.dN [(itup (idp n), D.bl true)])) st.length [idp n] (.fl [itup (idp n)]) [idp n] := by
    refine ⟨pre_set (List.prefix_append _ _) (Nat.le_refl _), Nat.le_refl _, ⟨[(itup (idp n), .bl true)], List.getElem?_set_self (by simp), rfl⟩, .inl rfl⟩
  obtain ⟨l', S1, e1, p1⟩ := grows_ok (u0 := some (.int n)) (st := st) (m := st.length) (X := X) hn hX hg 900 1000 [idp n] [idp n] (.fl [itup (idp n)]) _ none none none none (by omega) b0 (fun x hx => by rw [List.mem_singleton.mp hx]; exact isP_id n) h
  refine ⟨S1, ?_, p1⟩
  have e5 : b_spanned = sq (parM 2 3 (consA (dctN (callM m_still (consA (vr 0) nilA)) (cst (.bl true))) (consA (fz (disp (consA (callM m_still (consA (vr 0) nilA)) nilA))) nilA)))
    (sq (whGo (truT (vr 3)) wB 1000) (retM (callM srtM (consA (vr 2) nilA)))) := rfl
  have e6 : dctN (callM m_still (consA (vr 0) nilA)) (cst (.bl true)) [some (.int n), some X, none, none, none, none, none, none] st = .ok (.ref st.length) ((st ++ [O.dN []]).set st.length (O.dN [(itup (idp n), D.bl true)])) := by
    unfold dctN
    simp only [callM_s, consA_s, vr_s, List.getElem?_cons_zero, vrK_s, bind_ok, consK_s, nilA_s, consJ_s, still_ok _ hn, cst_s, List.getElem?_concat_length, keyD_row, if_true]
  have e7 : (some (D.int n) :: some X :: List.replicate (8 - 2) none) = [some (D.int n), some X, none, none, none, none, none, none] := rfl
  simp only [m_spanned, dfM_2, e5, e7, sq_s, parM_s, consA_s, e6, bind_ok, consK_s, fz_s, disp_s, callM_s, vr_s, List.getElem?_cons_zero, vrK_s, nilA_s, consJ_s, still_ok _ hn, dispK_1, flK_s, toS_ok, parK_s, sqK_nx, List.set_cons_succ, List.set_cons_zero]
  rw [e1]
  rfl
def s6 : List Row := [[1, 2, 3, 4, 5, 0], [1, 0, 2, 3, 4, 5]]
theorem s6_grows : grows s6 900 [idp 6] [idp 6] = true := by decide +kernel
theorem s6_ps : ∀ g ∈ s6, IsP 6 g := fun g hg => isPb_ok (List.all_eq_true.mp (show s6.all (isPb 6) = true by decide +kernel) g hg)
theorem all_turns_many {ti : Nat} (t : TB ti st) : ∃ S, m_all_turns ti [.tup (s6.map itup)] st = .exc "TooMany" [("most", .int 240)] S ∧ st <+: S := by
  obtain ⟨S1, e1, p1⟩ := is_turn_ok (st := st) (ti := ti) (s6_ps [1, 2, 3, 4, 5, 0] (by simp [s6])) (by omega) t
  obtain ⟨S2, e2, p2⟩ := is_turn_ok (st := S1) (ti := ti) (s6_ps [1, 0, 2, 3, 4, 5] (by simp [s6])) (by omega) (TB.pre t p1)
  obtain ⟨S3, e3, p3⟩ := spanned_many (X := .tup (s6.map itup)) (n := 6) (by omega) (.inl rfl) s6_ps s6_grows S2
  refine ⟨S3, all_turns_exc ?_, (p1.trans p2).trans p3⟩
  have e4 : ∀ s : Store, ixM2 (.tup (s6.map itup)) (.int 0) s = .ok (itup [1, 2, 3, 4, 5, 0]) s := fun _ => rfl
  have e5 : ∀ s : Store, lenM2 [itup [1, 2, 3, 4, 5, 0]] s = .ok (.int ((6 : Nat) : Int)) s := fun _ => rfl
  have e6 : forGo ⟨pairsD 0 (s6.map itup), none⟩ (.tp [(.nm 1), (.nm 2)]) (ltB ti) (pairsD 0 (s6.map itup)) [some (.tup (s6.map itup)), none, none] st = .nx [some (.tup (s6.map itup)), some (.int 1), some (itup [1, 0, 2, 3, 4, 5])] S2 := by
    rw [show pairsD 0 (s6.map itup) = [.tw [.int 0, itup [1, 2, 3, 4, 5, 0]], .tw [.int 1, itup [1, 0, 2, 3, 4, 5]]] from rfl]
    rw [forGo_cons (l1 := [some (.tup (s6.map itup)), some (.int 0), some (itup [1, 2, 3, 4, 5, 0])]) rfl rfl]
    have f1 : ltB ti [some (.tup (s6.map itup)), some (.int 0), some (itup [1, 2, 3, 4, 5, 0])] st = .nx [some (.tup (s6.map itup)), some (.int 0), some (itup [1, 2, 3, 4, 5, 0])] S1 := by
      unfold ltB
      simp only [ifS_s, notT_s, tst_s, callM_s, consA_s, b2_s, vr_s, List.getElem?_cons_succ, List.getElem?_cons_zero, vrK_s, bind_ok, b2K_s, cst_s, e4, consK_s, nilA_s, consJ_s, e5, e1, tstK_s, notK_s, Bool.not_true, toS_ok, ifK_f, nextM_s]
    have f2 : ltB ti [some (.tup (s6.map itup)), some (.int 1), some (itup [1, 0, 2, 3, 4, 5])] S1 = .nx [some (.tup (s6.map itup)), some (.int 1), some (itup [1, 0, 2, 3, 4, 5])] S2 := by
      unfold ltB
      simp only [ifS_s, notT_s, tst_s, callM_s, consA_s, b2_s, vr_s, List.getElem?_cons_succ, List.getElem?_cons_zero, vrK_s, bind_ok, b2K_s, cst_s, e4, consK_s, nilA_s, consJ_s, e5, e2, tstK_s, notK_s, Bool.not_true, toS_ok, ifK_f, nextM_s]
    rw [f1, forK2_nx, forGo_cons (l1 := [some (.tup (s6.map itup)), some (.int 1), some (itup [1, 0, 2, 3, 4, 5])]) rfl rfl, f2, forK2_nx, forGo_nil rfl]
  have e7 : m_turns_of [.tup (s6.map itup)] S2 = .exc "TooMany" [("most", .int 240)] S3 := by
    have e5' : (some (D.tup (s6.map itup)) :: List.replicate (1 - 1) none) = [some (.tup (s6.map itup))] := rfl
    simp only [m_turns_of, dfM_1, e5', b_turns_of, retM_s, callM_s, consA_s, b2_s, vr_s, List.getElem?_cons_zero, vrK_s, bind_ok, b2K_s, cst_s, e4, consK_s, nilA_s, consJ_s, e5, e3, toS_exc, endD_exc]
  have e8 : (some (D.tup (s6.map itup)) :: List.replicate (3 - 1) none) = [some (.tup (s6.map itup)), none, none] := rfl
  have l1 : leM (.int 1) (.int (((s6.map itup).length : Nat) : Int)) st = .ok (.bl true) st := rfl
  have l2 : leM (.int (((s6.map itup).length : Nat) : Int)) (.int 4) st = .ok (.bl true) st := rfl
  have l3 : leM (.int 2) (.int ((6 : Nat) : Int)) st = .ok (.bl true) st := rfl
  have l4 : leM (.int ((6 : Nat) : Int)) (.int 9) st = .ok (.bl true) st := rfl
  have e9 : isiK .tup (itup [1, 2, 3, 4, 5, 0]) st = .ok (.bl true) st := rfl
  simp only [m_need_lock, dfM_1, e8, b_need_lock, sq_s, ifS_s, orT_s, notT_s, tst_s, isiM_s, vr_s, List.getElem?_cons_zero, vrK_s, bind_ok, isiK_tup, isT, tstK_s, notK_s, Bool.not_true, orK_f, chM_s, cst_s, chK_s, callM_s, consA_s, consK_s, nilA_s, consJ_s, lenM2_tup, chJ_s, l1, chL_t, l2, toS_ok, ifK_f, nextM_s, sqK_nx, b2_s, b2K_s, e4, e9, e5, l3, l4, forM_s, itE2_s, itE2K_tup, forK_s]
  rw [e6]
  simp only [sqK_nx, exprM_s, callM_s, consA_s, vr_s, List.getElem?_cons_zero, vrK_s, bind_ok, consK_s, nilA_s, consJ_s, e7, toS_exc, endD_exc]
end
end Sd
namespace K01
set_option autoImplicit false
open PySem L2 Rf Sd

theorem x_alike : F__law_alike = Sd.F__law_alike := by kernel_rfl
theorem x_back : m__law_back = Sd.m__law_back := by kernel_rfl
theorem x_behind : m__law_behind = Sd.m__law_behind := by kernel_rfl
theorem x_taken : m__law_taken = Sd.m__law_taken := by kernel_rfl
theorem x_perm : m__law_permutation = Sd.m__law_permutation := by kernel_rfl
theorem x_pick : m__law_pick = Sd.m__law_pick := by kernel_rfl
theorem x_llock : m__law_lock = Sd.m__law_lock := by kernel_rfl
theorem x_lspan : m__law_span = Sd.m__law_span := by kernel_rfl
theorem x_lswap : m__law_swap = Sd.m__law_swap := by kernel_rfl
theorem x_lwords : m__law_words = Sd.m__law_words := by kernel_rfl
theorem x_all_turns : m_all_turns = Sd.m_all_turns 0 := by kernel_rfl
theorem x_is_made : m_is_made = Sd.m_is_made 0 := by kernel_rfl
theorem x_join : m_join = Sd.m_join 0 := by kernel_rfl
theorem x_rounds : m_rounds = Sd.m_rounds 0 := by kernel_rfl
theorem x_swapped : m_swapped = Sd.m_swapped 0 := by kernel_rfl
theorem x_undo : m_undo = Sd.m_undo 0 := by kernel_rfl
theorem x_word_for : m_word_for = Sd.m_word_for 0 := by kernel_rfl
def nm : List Str := ["four", "square", "quaternions", "threes", "three", "tetra", "six", "five"]
theorem nm_ok : ∀ x ∈ nm, chkName x = true := by decide +kernel
section
variable {n j : Nat} {gs B W : List Row} {s : List Int} {q : Nat} {st S : Store} {x y : Row}
theorem alike_t {d : D} (h : Al 20 d) (st : Store) : F__law_alike 20 [d, d] st = .ok (.bl true) st := by
  rw [x_alike]
  exact alike_ok 20 d st h
theorem lis_t (b : Bool) (st : Store) : m__law_is [.bl b, .bl b] st = .ok (.bl true) st := by
  cases b <;> rfl
theorem asgM_tp3 {i j k : Nat} {a : EM D} {l : Sl} {st1 : Store} {d e f : D} (h : a l st = .ok (.tup [d, e, f]) st1) : asgM (.tp [.nm i, .nm j, .nm k]) a l st = .nx (((l.set i (some d)).set j (some e)).set k (some f)) st1 := by
  rw [asgM_s, h]
  rfl
/-- some picked turns -/
theorem picks_go (hne : W ≠ []) (hl : W.length ≤ 1000) {l0 : Sl} {sr : Src} (hsr : ∀ S, sr.chk S = true) (h1 : ∀ d, (l0.set 10 (some d))[1]? = some (some (.ref q))) (h3 : ∀ d, (l0.set 10 (some d))[4]? = some (some (.fl (W.map itup)))) : ∀ (r : List D) (S : Store), (∃ x, S[q]? = some x ∧ IsRow s x) →
    ∃ (ps : List Row) (S' : Store), lcGo sr (.nm 10) yesM (callM m__law_pick (consA (vr 1) (consA (vr 4) nilA))) l0 r S = .ok (ps.map itup) S' ∧ Gr s q S S' ∧ ps.length = r.length ∧ ∀ p ∈ ps, p ∈ W
  | [], S, h => ⟨[], S, by simp [lcGo, hsr], Gr.refl h, rfl, fun p hp => by simp at hp⟩
  | d :: r, S, h => by
    obtain ⟨v, S1, hv, e1, g1⟩ := pick_ok (st := S) (l := W.map itup) h (by simpa using hne) (by simpa using hl)
    rw [← x_pick] at e1
    obtain ⟨p, hp, rfl⟩ := List.mem_map.mp hv
    obtain ⟨ps, S2, e2, g2, l2, hps⟩ := picks_go hne hl hsr h1 h3 r S1 g1.row
    refine ⟨p :: ps, S2, ?_, g1.trans g2, by simp [l2], fun z hz => ?_⟩
    · unfold lcGo
      rw [if_pos (hsr S)]
      simp only [show (T.nm 10).put d l0 = some (l0.set 10 (some d)) from rfl, yesM_s, nox_ok, bind_ok, if_true, callM_s, consA_s, vr_s, h1, h3, vrK_s, consK_s, nilA_s, consJ_s, e1, e2]
      rfl
    · rcases List.mem_cons.mp hz with rfl | hz
      · exact hp
      · exact hps z hz
def odds1 (gs : List Row) : List D := [.tup [.non, .non], .tup [.tup [], .non], .tup [.tup (rep (gs.map itup) 5), .non], .tup [.tup (gs.map itup ++ [.tup [.int 0]]), .int (gs.length : Nat)], .tup [.tup [.tup [.int 0]], .int 0]]
def odds2 (g : Row) : List D := [.tup [.tup [.fl (g.map D.int)], .int 0], .tup [.tup [.tup [.int 0, .int 0]], .int 0], .tup [.tup [.tup [.bl true, .int 0]], .int 0]]
/-- a value that is no lock, and what is told of it -/
def Odd (d : D) : Prop := ∃ o p, d = .tup [o, p] ∧ (p = .non ∨ ∃ i, p = .int i) ∧ ∀ S : Store, TB 0 S → ∃ S', m_all_turns [o] S = .exc "BadLock" [("place", p)] S' ∧ S <+: S'
theorem odd_all (k : Lk4 n gs B) (h3 : gs.length ≤ 3) : ∀ d ∈ odds1 gs ++ odds2 (gs.headD []), Odd d := by
  have hpos : 0 < gs.length := List.length_pos_iff.mpr k.ne
  intro d hd
  simp only [odds1, odds2, List.cons_append, List.nil_append, List.mem_cons, List.mem_nil_iff, or_false] at hd
  rw [show @Odd = @Odd from rfl]
  unfold Odd
  rw [x_all_turns]
  rcases hd with rfl | rfl | rfl | rfl | rfl | rfl | rfl | rfl
  · exact ⟨_, _, rfl, .inl rfl, fun S _ => ⟨S, all_turns_exc (nl_non S), List.prefix_rfl⟩⟩
  · exact ⟨_, _, rfl, .inl rfl, fun S _ => ⟨S, all_turns_exc (nl_nil S), List.prefix_rfl⟩⟩
  · refine ⟨_, _, rfl, .inl rfl, fun S _ => ⟨S, all_turns_exc (nl_many ?_ S), List.prefix_rfl⟩⟩
    have : (rep (gs.map itup) 5).length = 5 * gs.length := by
      simp [rep]
      omega
    omega
  · refine ⟨_, _, rfl, .inr ⟨_, rfl⟩, fun S t => ?_⟩
    obtain ⟨S', e, p⟩ := nl_more k h3 t
    exact ⟨S', all_turns_exc e, p⟩
  · exact ⟨_, _, rfl, .inr ⟨_, rfl⟩, fun S _ => ⟨S, all_turns_exc (nl_short S), List.prefix_rfl⟩⟩
  · exact ⟨_, _, rfl, .inr ⟨_, rfl⟩, fun S _ => ⟨S, all_turns_exc (nl_list S), List.prefix_rfl⟩⟩
  · exact ⟨_, _, rfl, .inr ⟨_, rfl⟩, fun S t => ⟨S, all_turns_exc (nl_first rfl (is_turn_00 t)), List.prefix_rfl⟩⟩
  · exact ⟨_, _, rfl, .inr ⟨_, rfl⟩, fun S t => ⟨S, all_turns_exc (nl_first rfl (is_turn_t0 t)), List.prefix_rfl⟩⟩
theorem tryM_exc {body : SM} {exm : Str → Option Bool} {i : Nat} {suite : Str → List (Str × D) → SM} {l l' : Sl} {st st' : Store} {c : Str} {fs : List (Str × D)} (h : body l st = .exc c fs l' st') (hx : exm c = some true) (hi : i < l'.length) : tryM body exm i suite l st = xEnd i (suite c fs (l'.set i none) st') := by
  unfold tryM
  rw [h]
  simp only [hx, hi, if_true]
abbrev oB : SM := tryM (sq (exprM (callM m_all_turns (consA (vr 15) nilA))) (retM (cst (.bl false)))) x_law_BadLock 16 (fun c fs => (ifS (tst (b2 neM (xfM c fs "BadLock" "place") (vr 9))) (retM (cst (.bl false))) nextM))
section
variable {u0 u1 u2 u3 u4 u5 u6 u7 u8 u9 u10 u11 u12 u13 u14 u15 u17 u18 : Option D}
theorem oB_ok {o p : D} (hp : p = .non ∨ ∃ i, p = .int i) (h : m_all_turns [o] st = .exc "BadLock" [("place", p)] S) :
    oB [u0, u1, u2, u3, u4, u5, u6, u7, u8, some p, u10, u11, u12, u13, u14, some o, none, u17, u18] st = .nx [u0, u1, u2, u3, u4, u5, u6, u7, u8, some p, u10, u11, u12, u13, u14, some o, none, u17, u18] S := by
  have hb : sq (exprM (callM m_all_turns (consA (vr 15) nilA))) (retM (cst (.bl false))) [u0, u1, u2, u3, u4, u5, u6, u7, u8, some p, u10, u11, u12, u13, u14, some o, none, u17, u18] st = .exc "BadLock" [("place", p)] [u0, u1, u2, u3, u4, u5, u6, u7, u8, some p, u10, u11, u12, u13, u14, some o, none, u17, u18] S := by
    simp only [sq_s, exprM_s, callM_s, consA_s, vr_s, List.getElem?_cons_succ, List.getElem?_cons_zero, vrK_s, bind_ok, consK_s, nilA_s, consJ_s, h, toS_exc, sqK_exc]
  unfold oB
  rw [tryM_exc hb (by rfl) (by simp)]
  rcases hp with rfl | ⟨i, rfl⟩
  · rfl
  · have e1 : xfM "BadLock" [("place", .int i)] "BadLock" "place" [u0, u1, u2, u3, u4, u5, u6, u7, u8, some (.int i), u10, u11, u12, u13, u14, some o, none, u17, u18] S = .ok (.int i) S := rfl
    simp only [List.set_cons_succ, List.set_cons_zero, ifS_s, tst_s, b2_s, e1, bind_ok, b2K_s, vr_s, List.getElem?_cons_succ, List.getElem?_cons_zero, vrK_s, neM_int, decide_true, Bool.not_true, tstK_s, toS_ok, ifK_f, nextM_s, xEnd]
theorem odds_go {its : List D} : ∀ (r : List D) (S : Store) (v9 v15 : Option D), (∀ d ∈ r, Odd d) → TB 0 S →
    ∃ S' v9' v15', forGo ⟨its, none⟩ (.tp [(.nm 15), (.nm 9)]) oB r [u0, u1, u2, u3, u4, u5, u6, u7, u8, v9, u10, u11, u12, u13, u14, v15, none, u17, u18] S = .nx [u0, u1, u2, u3, u4, u5, u6, u7, u8, v9', u10, u11, u12, u13, u14, v15', none, u17, u18] S' ∧ S <+: S'
  | [], S, v9, v15, _, _ => ⟨S, v9, v15, forGo_nil rfl, List.prefix_rfl⟩
  | d :: r, S, v9, v15, hr, t => by
    obtain ⟨o, p, rfl, hp, h⟩ := hr d List.mem_cons_self
    obtain ⟨S1, e1, p1⟩ := h S t
    obtain ⟨S2, w9, w15, e2, p2⟩ := odds_go r S1 (some p) (some o) (fun z hz => hr z (List.mem_cons_of_mem _ hz)) (TB.pre t p1)
    refine ⟨S2, w9, w15, ?_, p1.trans p2⟩
    rw [forGo_cons (l1 := [u0, u1, u2, u3, u4, u5, u6, u7, u8, some p, u10, u11, u12, u13, u14, some o, none, u17, u18]) rfl rfl, oB_ok hp e1, forK2_nx, e2]
/-- the lambdas, one after another -/
abbrev lB1 (cl : List (Str × Addr)) : SM := tryM (exprM (callLam 18 cl lams_law)) x_law_BadTurn 16 (fun c fs => (exprM (appM (vr 17) (cst (.str "turn")))))
theorem lB1_ok {cl : List (Str × Addr)} {pth : List Nat} {m : EM D} {w : Nat} {ds : List D} (hm : lams_law.lookup pth = some m) (h : m [u0, u1, u2, u3, u4, u5, u6, u7, u8, u9, u10, u11, u12, u13, u14, u15, none, some (.ref w), some (.lam pth cl)] st = .exc "BadTurn" [] S) (hw : S[w]? = some (.lst ds)) (hd : ds.length ≤ 1000) :
    lB1 cl [u0, u1, u2, u3, u4, u5, u6, u7, u8, u9, u10, u11, u12, u13, u14, u15, none, some (.ref w), some (.lam pth cl)] st = .nx [u0, u1, u2, u3, u4, u5, u6, u7, u8, u9, u10, u11, u12, u13, u14, u15, none, some (.ref w), some (.lam pth cl)] (S.set w (.lst (ds ++ [.str "turn"]))) := by
  have hc : callLam 18 cl lams_law [u0, u1, u2, u3, u4, u5, u6, u7, u8, u9, u10, u11, u12, u13, u14, u15, none, some (.ref w), some (.lam pth cl)] st = .exc "BadTurn" [] S := by
    unfold callLam
    simp only [List.getElem?_cons_succ, List.getElem?_cons_zero, if_true, hm, h]
  have hb : exprM (callLam 18 cl lams_law) [u0, u1, u2, u3, u4, u5, u6, u7, u8, u9, u10, u11, u12, u13, u14, u15, none, some (.ref w), some (.lam pth cl)] st = .exc "BadTurn" [] [u0, u1, u2, u3, u4, u5, u6, u7, u8, u9, u10, u11, u12, u13, u14, u15, none, some (.ref w), some (.lam pth cl)] S := by
    rw [exprM_s, hc]
    rfl
  unfold lB1
  rw [tryM_exc hb (by rfl) (by simp)]
  have e1 := appK_ok [u0, u1, u2, u3, u4, u5, u6, u7, u8, u9, u10, u11, u12, u13, u14, u15, none, some (.ref w), some (.lam pth cl)] (cst (.str "turn")) hw
  have e2 := appJ_ok (d := .str "turn") hw (by omega)
  simp only [List.set_cons_succ, List.set_cons_zero, exprM_s, appM_s, vr_s, List.getElem?_cons_succ, List.getElem?_cons_zero, vrK_s, bind_ok, e1, cst_s, e2, toS_ok, exK_s, xEnd]
end
theorem eq_turns {w : Nat} (hw : S[w]? = some (.lst [.str "turn", .str "turn", .str "turn"])) : eqM (.ref w) (.fl [.str "turn", .str "turn", .str "turn"]) S = .ok (.bl true) S := by
  have e : rs S (.ref w) = .fl [.str "turn", .str "turn", .str "turn"] := by
    unfold rs
    simp only [hw]
  have e2 : eqD S (.ref w) (.fl [.str "turn", .str "turn", .str "turn"]) = some true := by
    have e3 : eqD S (.ref w) (.fl [.str "turn", .str "turn", .str "turn"]) = eqD [] (.fl [.str "turn", .str "turn", .str "turn"]) (.fl [.str "turn", .str "turn", .str "turn"]) := by
      unfold eqD
      rw [e]
      rfl
    rw [e3]
    decide +kernel
  unfold eqM
  rw [e2]
theorem al_rows {L : List Row} (hL : L.length ≤ 1000000) (h : ∀ r ∈ L, r.length ≤ 1000000) (k : Nat) : Al (k + 3) (.tup (L.map itup)) := .tup (fun d hd => by
  obtain ⟨r, hr, rfl⟩ := List.mem_map.mp hd
  exact al_row r (h r hr) k) (by rw [List.length_map]; exact hL)
/-- the law counts the rounds -/
theorem rounds_go (hn : n ≤ 1000) (hx : IsP n x) (hp : ∀ i, IsP n (pw x i)) (hj : j ≤ 60) (e : pw x j = idp n) (hl : ∀ i, i < j → pw x i ≠ idp n) {u0 u1 u2 u4 u6 u7 u8 u9 u11 u13 u14 u15 u16 u17 u18 : Option D} {its : List D} : ∀ (r : List D) (i : Nat) (v : Option D), i + r.length = j →
    ∃ v', forGo ⟨its, none⟩ (.nm 10) (sq (ifS (tst (b2 eqM (vr 12) (trgM (vr 3)))) (retM (cst (.bl false))) nextM) (setM 12 (callM m__law_behind (consA (vr 12) (consA (vr 5) nilA))))) r [u0, u1, u2, some (.int n), u4, some (itup x), u6, u7, u8, u9, v, u11, some (itup (pw x i)), u13, u14, u15, u16, u17, u18] st = .nx [u0, u1, u2, some (.int n), u4, some (itup x), u6, u7, u8, u9, v', u11, some (itup (idp n)), u13, u14, u15, u16, u17, u18] st
  | [], i, v, h => ⟨v, by
      obtain rfl : i = j := by simpa using h
      rw [forGo_nil rfl, e]⟩
  | d :: r, i, v, h => by
    rw [List.length_cons] at h
    obtain ⟨v', e2⟩ := rounds_go hn hx hp hj e hl (u0 := u0) (u1 := u1) (u2 := u2) (u4 := u4) (u6 := u6) (u7 := u7) (u8 := u8) (u9 := u9) (u11 := u11) (u13 := u13) (u14 := u14) (u15 := u15) (u16 := u16) (u17 := u17) (u18 := u18) (its := its) r (i + 1) (some d) (by omega)
    refine ⟨v', ?_⟩
    have e1 : eqM (itup (pw x i)) (itup (idp n)) st = .ok (.bl false) st := by
      have h1 : eqM (itup (pw x i)) (itup (idp n)) st = .ok (.bl (decide (pw x i = idp n))) st := eqM_row ..
      rw [h1, decide_eq_false (hl i (by omega))]
    have e3 := law_behind_ok st (hp i) hx hn
    rw [← x_behind] at e3
    rw [forGo_cons (l1 := [u0, u1, u2, some (.int n), u4, some (itup x), u6, u7, u8, u9, some d, u11, some (itup (pw x i)), u13, u14, u15, u16, u17, u18]) rfl rfl]
    simp only [sq_s, ifS_s, tst_s, b2_s, vr_s, List.getElem?_cons_succ, List.getElem?_cons_zero, vrK_s, bind_ok, b2K_s, trgM_s, trgK_ok st hn, e1, tstK_s, toS_ok, ifK_f, nextM_s, sqK_nx, setM_s, callM_s, consA_s, consK_s, nilA_s, consJ_s, e3, setK_s, List.set_cons_succ, List.set_cons_zero, forK2_nx]
    exact e2
end
end K01
namespace K01
set_option autoImplicit false
open PySem L2 Rf Sd

section
variable {n j : Nat} {gs B W ws : List Row} {s : List Int} {q : Nat} {st S : Store} {x y z : Row} {cl : List (Str × Addr)}
variable {u0 u1 u2 u3 u4 u5 u6 u7 u8 u9 u10 u11 u12 u13 u14 u15 u16 u17 u18 : Option D}
theorem q2_ok (k : Lk4 n gs B) (st : Store) : ∃ S, q_law_2 cl [u0, u1, some (.tup (gs.map itup)), u3, u4, u5, u6, u7, u8, u9, u10, u11, u12, u13, u14, u15, u16, u17, u18] st = .nx [u0, u1, some (.tup (gs.map itup)), some (.int n), some (.fl (k.toLk.W.map itup)), u5, u6, u7, u8, u9, u10, u11, u12, u13, u14, u15, u16, u17, u18] S ∧ st <+: S := by
  obtain ⟨S, e, p⟩ := law_span_ok (X := .tup (gs.map itup)) k.B0 k.hB k.sub k.n0 k.hn (.inl rfl) (by have := k.l4; omega) st
  have e : Sd.m__law_span [.int n, .tup (gs.map itup)] st = .ok (.fl (k.toLk.W.map itup)) S := e
  rw [← x_lspan] at e
  refine ⟨S, ?_, p⟩
  have hl := k.toLk.len (i := 2) (l := [u0, u1, some (.tup (gs.map itup)), u3, u4, u5, u6, u7, u8, u9, u10, u11, u12, u13, u14, u15, u16, u17, u18]) rfl st
  have h2 : tupM (consA (callM lenM2 (consA (b2 ixM2 (vr 2) (cst (.int 0))) nilA)) (consA (callM m__law_span (consA (callM lenM2 (consA (b2 ixM2 (vr 2) (cst (.int 0))) nilA)) (consA (vr 2) nilA))) nilA)) [u0, u1, some (.tup (gs.map itup)), u3, u4, u5, u6, u7, u8, u9, u10, u11, u12, u13, u14, u15, u16, u17, u18] st = .ok (.tup [.int n, .fl (k.toLk.W.map itup)]) S := by
    rw [tupM_s, disp_s, consA_s, hl, bind_ok, consK_s, consA_s, callM_s, consA_s, hl]
    simp only [bind_ok, consK_s, consA_s, vr_s, List.getElem?_cons_succ, List.getElem?_cons_zero, vrK_s, nilA_s, consJ_s, e, dispK_2, tupK_s]
  unfold q_law_2
  rw [asgM_tp2 h2]
  rfl
theorem q3_ok (k : Lk4 n gs B) (t : TB 0 st) : ∃ S, q_law_3 cl [u0, u1, some (.tup (gs.map itup)), u3, some (.fl (k.toLk.W.map itup)), u5, u6, u7, u8, u9, u10, u11, u12, u13, u14, u15, u16, u17, u18] st = .nx [u0, u1, some (.tup (gs.map itup)), u3, some (.fl (k.toLk.W.map itup)), u5, u6, u7, u8, u9, u10, u11, u12, u13, u14, u15, u16, u17, u18] S ∧ st <+: S := by
  obtain ⟨S, e, p⟩ := all_turns_ok k t
  rw [← x_all_turns] at e
  have hW := k.toLk.hW
  have ha := alike_t (al_rows (L := k.toLk.W) (by omega) (fun r hr => by rw [(inW k.toLk hr).len]; have := k.hn; omega) 17) S
  refine ⟨S, ?_, p⟩
  simp only [q_law_3, ifS_s, notT_s, tst_s, callM_s, consA_s, vr_s, List.getElem?_cons_succ, List.getElem?_cons_zero, vrK_s, bind_ok, consK_s, nilA_s, consJ_s, e, tupOf_fl, ha, tstK_s, notK_s, Bool.not_true, toS_ok, ifK_f, nextM_s]
theorem q4_ok (k : Lk4 n gs B) (hr : ∃ x, st[q]? = some x ∧ IsRow s x) : ∃ x y z S, q_law_4 cl [u0, some (.ref q), u2, some (.int n), some (.fl (k.toLk.W.map itup)), u5, u6, u7, u8, u9, u10, u11, u12, u13, u14, u15, u16, u17, u18] st = .nx [u0, some (.ref q), u2, some (.int n), some (.fl (k.toLk.W.map itup)), some (itup x), some (itup y), some (itup z), u8, u9, u10, u11, u12, u13, u14, u15, u16, u17, u18] S ∧ Gr s q st S ∧ x ∈ k.toLk.W ∧ y ∈ k.toLk.W ∧ IsP n z := by
  have hne : k.toLk.W.map itup ≠ [] := by
    have := List.length_pos_of_mem k.toLk.W0.one
    intro h
    rw [List.map_eq_nil_iff.mp h] at this
    exact absurd this (by simp)
  have hW := k.toLk.hW
  obtain ⟨v, S1, hv, e1, g1⟩ := pick_ok (st := st) (l := k.toLk.W.map itup) hr hne (by rw [List.length_map]; omega)
  obtain ⟨x, hx, rfl⟩ := List.mem_map.mp hv
  obtain ⟨v, S2, hv, e2, g2⟩ := pick_ok (st := S1) (l := k.toLk.W.map itup) g1.row hne (by rw [List.length_map]; omega)
  obtain ⟨y, hy, rfl⟩ := List.mem_map.mp hv
  obtain ⟨z, S3, e3, g3, hz⟩ := permutation_ok (st := S2) (n := n) g2.row k.hn
  rw [← x_pick] at e1 e2
  rw [← x_perm] at e3
  refine ⟨x, y, z, S3, ?_, (g1.trans g2).trans g3, hx, hy, hz⟩
  have h2 : tupM (consA (callM m__law_pick (consA (vr 1) (consA (vr 4) nilA))) (consA (callM m__law_pick (consA (vr 1) (consA (vr 4) nilA))) (consA (callM m__law_permutation (consA (vr 1) (consA (vr 3) nilA))) nilA))) [u0, some (.ref q), u2, some (.int n), some (.fl (k.toLk.W.map itup)), u5, u6, u7, u8, u9, u10, u11, u12, u13, u14, u15, u16, u17, u18] st = .ok (.tup [itup x, itup y, itup z]) S3 := by
    simp only [tupM_s, disp_s, consA_s, callM_s, vr_s, List.getElem?_cons_succ, List.getElem?_cons_zero, vrK_s, bind_ok, consK_s, nilA_s, consJ_s, e1, e2, e3, dispK_3, tupK_s]
  unfold q_law_4
  rw [asgM_tp3 h2]
  rfl
theorem q5_ok (k : Lk4 n gs B) (hz : IsP n z) (t : TB 0 st) : ∃ S, q_law_5 cl [u0, u1, some (.tup (gs.map itup)), u3, some (.fl (k.toLk.W.map itup)), u5, u6, some (itup z), u8, u9, u10, u11, u12, u13, u14, u15, u16, u17, u18] st = .nx [u0, u1, some (.tup (gs.map itup)), u3, some (.fl (k.toLk.W.map itup)), u5, u6, some (itup z), u8, u9, u10, u11, u12, u13, u14, u15, u16, u17, u18] S ∧ st <+: S := by
  obtain ⟨S, e, p⟩ := is_made_ok k hz t
  rw [← x_is_made] at e
  have e2 : inM2 (itup z) (.fl (k.toLk.W.map itup)) S = .ok (.bl (decide (z ∈ k.toLk.W))) S := inM2_fl ..
  refine ⟨S, ?_, p⟩
  simp only [q_law_5, ifS_s, notT_s, tst_s, callM_s, consA_s, vr_s, List.getElem?_cons_succ, List.getElem?_cons_zero, vrK_s, bind_ok, consK_s, nilA_s, consJ_s, e, b2_s, b2K_s, e2, lis_t, tstK_s, notK_s, Bool.not_true, toS_ok, ifK_f, nextM_s]
theorem q6_ok (k : Lk4 n gs B) (hx : x ∈ k.toLk.W) (t : TB 0 st) : ∃ S, q_law_6 cl [u0, u1, some (.tup (gs.map itup)), u3, u4, some (itup x), u6, u7, u8, u9, u10, u11, u12, u13, u14, u15, u16, u17, u18] st = .nx [u0, u1, some (.tup (gs.map itup)), u3, u4, some (itup x), u6, u7, u8, u9, u10, u11, u12, u13, u14, u15, u16, u17, u18] S ∧ st <+: S := by
  obtain ⟨S1, e1, p1, hw⟩ := word_for_ok k hx t
  obtain ⟨m, S2, e2, p2, hm⟩ := law_words_ok k.toLk k.l4 S1
  rw [← x_word_for] at e1
  rw [← x_lwords] at e2
  have e3 := ixM2_dN hm hw
  have ha := alike_t (al_row (wordOf n gs x) (by have := word_len (x := x) k.toLk; omega) 18) S2
  refine ⟨S2, ?_, p1.trans p2⟩
  simp only [q_law_6, ifS_s, notT_s, tst_s, callM_s, consA_s, vr_s, List.getElem?_cons_succ, List.getElem?_cons_zero, vrK_s, bind_ok, consK_s, nilA_s, consJ_s, e1, b2_s, e2, b2K_s, e3, ha, tstK_s, notK_s, Bool.not_true, toS_ok, ifK_f, nextM_s]
theorem q7_ok (k : Lk4 n gs B) (hr : ∃ x, st[q]? = some x ∧ IsRow s x) : ∃ (ws : List Row) (S : Store), q_law_7 cl [u0, some (.ref q), u2, u3, some (.fl (k.toLk.W.map itup)), u5, u6, u7, u8, u9, none, u11, u12, u13, u14, u15, u16, u17, u18] st = .nx [u0, some (.ref q), u2, u3, some (.fl (k.toLk.W.map itup)), u5, u6, u7, some (.tup (ws.map itup)), u9, none, u11, u12, u13, u14, u15, u16, u17, u18] S ∧ Gr s q st S ∧ (∀ p ∈ ws, p ∈ k.toLk.W) ∧ ws.length ≤ 5 := by
  have hne : k.toLk.W ≠ [] := List.ne_nil_of_mem k.toLk.W0.one
  have hW := k.toLk.hW
  obtain ⟨v, S1, e1, g1, _, hv⟩ := taken' (st := st) (many := 5) hr (by decide) (by decide)
  rw [← x_taken] at e1
  obtain ⟨ws, S2, e2, g2, l2, hws⟩ := picks_go (q := q) (s := s) (W := k.toLk.W) hne (by omega) (l0 := [u0, some (.ref q), u2, u3, some (.fl (k.toLk.W.map itup)), u5, u6, u7, u8, u9, none, u11, u12, u13, u14, u15, u16, u17, u18]) (sr := ⟨rngD 0 v, none⟩) (fun _ => rfl) (fun _ => rfl) (fun _ => rfl) (rngD 0 v) S1 g1.row
  have hwl : ws.length = v := by rw [l2]; simp [rngD]
  refine ⟨ws, S2, ?_, g1.trans g2, hws, by omega⟩
  have e3 := rngK_nat (n := v) (by omega) S1
  have e4 : lcM (itR1 (consA (callM m__law_taken (consA (vr 1) (consA (cst (.int 5)) nilA))) nilA)) (.nm 10) yesM (callM m__law_pick (consA (vr 1) (consA (vr 4) nilA))) [10] [u0, some (.ref q), u2, u3, some (.fl (k.toLk.W.map itup)), u5, u6, u7, u8, u9, none, u11, u12, u13, u14, u15, u16, u17, u18] st = .ok (ws.map itup) S2 := by
    unfold lcM
    simp only [itR1_s, consA_s, callM_s, vr_s, List.getElem?_cons_succ, List.getElem?_cons_zero, vrK_s, bind_ok, consK_s, cst_s, nilA_s, consJ_s, e1, e3]
    rw [if_pos (show small _ = true from Nat.ble_eq_true_of_le (by simp [rngD]; omega))]
    exact e2
  unfold q_law_7
  rw [setM_s, callM_s, consA_s, fz_s, e4]
  rfl
theorem q9_ok (hn : n ≤ 1000) (hw : ∀ p ∈ ws, IsP n p) (st : Store) : ∃ v, q_law_9 cl [u0, u1, u2, u3, u4, u5, u6, u7, some (.tup (ws.map itup)), some (itup (idp n)), u10, u11, u12, u13, u14, u15, u16, u17, u18] st = .nx [u0, u1, u2, u3, u4, u5, u6, u7, some (.tup (ws.map itup)), some (itup (prd (idp n) ws)), v, u11, u12, u13, u14, u15, u16, u17, u18] st := by
  have h : ∀ (r : List Row) (a : Row) (u : Option D), IsP n a → (∀ p ∈ r, IsP n p) → ∃ v, forGo ⟨ws.map itup, none⟩ (.nm 10) (setM 9 (callM m__law_behind (consA (vr 9) (consA (vr 10) nilA)))) (r.map itup) [u0, u1, u2, u3, u4, u5, u6, u7, some (.tup (ws.map itup)), some (itup a), u, u11, u12, u13, u14, u15, u16, u17, u18] st = .nx [u0, u1, u2, u3, u4, u5, u6, u7, some (.tup (ws.map itup)), some (itup (prd a r)), v, u11, u12, u13, u14, u15, u16, u17, u18] st := by
    intro r
    induction r with
    | nil => exact fun a u _ _ => ⟨u, forGo_nil rfl⟩
    | cons g r ih =>
      intro a u ha hr
      have hg := hr g List.mem_cons_self
      obtain ⟨v, e⟩ := ih (beh a g) (some (itup g)) (ha.beh hg) (fun p hp => hr p (List.mem_cons_of_mem _ hp))
      have e1 := law_behind_ok st ha hg hn
      rw [← x_behind] at e1
      refine ⟨v, ?_⟩
      rw [List.map_cons, forGo_cons (l1 := [u0, u1, u2, u3, u4, u5, u6, u7, some (.tup (ws.map itup)), some (itup a), some (itup g), u11, u12, u13, u14, u15, u16, u17, u18]) rfl rfl]
      simp only [setM_s, callM_s, consA_s, vr_s, List.getElem?_cons_succ, List.getElem?_cons_zero, vrK_s, bind_ok, consK_s, nilA_s, consJ_s, e1, toS_ok, setK_s, List.set_cons_succ, List.set_cons_zero, forK2_nx]
      exact e
  obtain ⟨v, e⟩ := h ws (idp n) u10 (isP_id n) hw
  exact ⟨v, e⟩
theorem q10_ok (k : Lk4 n gs B) (hx : x ∈ k.toLk.W) (hy : y ∈ k.toLk.W) (hw : ∀ p ∈ ws, p ∈ k.toLk.W) (t : TB 0 st) : ∃ S, q_law_10 cl [u0, u1, some (.tup (gs.map itup)), u3, u4, some (itup x), some (itup y), u7, some (.tup (ws.map itup)), u9, u10, u11, u12, u13, u14, u15, u16, u17, u18] st = .nx [u0, u1, some (.tup (gs.map itup)), u3, u4, some (itup x), some (itup y), u7, some (.tup (ws.map itup)), u9, u10, some (.fl [itup (prd (idp n) ws), itup (bk x), itup (swp x y)]), u12, u13, u14, u15, u16, u17, u18] S ∧ st <+: S := by
  obtain ⟨S1, e1, p1⟩ := join_ok k hw t
  obtain ⟨S2, e2, p2⟩ := undo_ok k hx (TB.pre t p1)
  obtain ⟨S3, e3, p3⟩ := swapped_ok k hx hy (TB.pre t (p1.trans p2))
  rw [← x_join] at e1
  rw [← x_undo] at e2
  rw [← x_swapped] at e3
  refine ⟨S3, ?_, (p1.trans p2).trans p3⟩
  simp only [q_law_10, setM_s, fz_s, disp_s, callM_s, consA_s, vr_s, List.getElem?_cons_succ, List.getElem?_cons_zero, vrK_s, bind_ok, consK_s, nilA_s, consJ_s, e1, e2, e3, dispK_3, flK_s, toS_ok, setK_s, List.set_cons_succ, List.set_cons_zero]
theorem q11_ok (k : Lk4 n gs B) (hx : x ∈ k.toLk.W) (hy : y ∈ k.toLk.W) (hw : ∀ p ∈ ws, p ∈ k.toLk.W) (st : Store) : q_law_11 cl [u0, u1, u2, u3, u4, some (itup x), some (itup y), u7, u8, some (itup (prd (idp n) ws)), u10, some (.fl [itup (prd (idp n) ws), itup (bk x), itup (swp x y)]), u12, u13, u14, u15, u16, u17, u18] st = .nx [u0, u1, u2, u3, u4, some (itup x), some (itup y), u7, u8, some (itup (prd (idp n) ws)), u10, some (.fl [itup (prd (idp n) ws), itup (bk x), itup (swp x y)]), u12, u13, u14, u15, u16, u17, u18] st := by
  have hn := k.hn
  have px := inW k.toLk hx
  have py := inW k.toLk hy
  have e1 := law_back_ok st px hn
  have e2 := law_swap_ok st px py hn
  rw [← x_back] at e1
  rw [← x_lswap] at e2
  have ha : Al 20 (.fl [itup (prd (idp n) ws), itup (bk x), itup (swp x y)]) := .fl (fun d hd => by
    have a1 := (isP_prd (isP_id n) (fun g hg => inW k.toLk (hw g hg))).len
    have a2 := (isP_bk px).len
    have a3 := (isP_swp px py).len
    simp only [List.mem_cons, List.mem_nil_iff, or_false] at hd
    rcases hd with rfl | rfl | rfl <;> exact al_row _ (by omega) 17) (by simp)
  have e3 := alike_t ha st
  simp only [q_law_11, ifS_s, notT_s, tst_s, callM_s, consA_s, fz_s, disp_s, vr_s, List.getElem?_cons_succ, List.getElem?_cons_zero, vrK_s, bind_ok, consK_s, nilA_s, consJ_s, e1, e2, dispK_3, flK_s, e3, tstK_s, notK_s, Bool.not_true, toS_ok, ifK_f, nextM_s]
theorem q12_ok (k : Lk4 n gs B) (hx : x ∈ k.toLk.W) (hj : j ≤ 60) (e : pw x j = idp n) (hl : ∀ i, i < j → pw x i ≠ idp n) (t : TB 0 st) : ∃ S, q_law_12 cl [u0, u1, some (.tup (gs.map itup)), u3, u4, some (itup x), u6, u7, u8, u9, u10, u11, u12, u13, u14, u15, u16, u17, u18] st = .nx [u0, u1, some (.tup (gs.map itup)), u3, u4, some (itup x), u6, u7, u8, u9, u10, u11, some (itup (pw x 0)), some (.int ((j + 1 : Nat) : Int)), u14, u15, u16, u17, u18] S ∧ st <+: S := by
  obtain ⟨S, e1, p1⟩ := rounds_ok k hx hj e hl t
  rw [← x_rounds] at e1
  refine ⟨S, ?_, p1⟩
  simp only [q_law_12, parM_s, callM_s, consA_s, vr_s, List.getElem?_cons_succ, List.getElem?_cons_zero, vrK_s, bind_ok, consK_s, nilA_s, consJ_s, e1, toS_ok, parK_s, List.set_cons_succ, List.set_cons_zero, pw]
theorem q13_ok (k : Lk4 n gs B) (hx : x ∈ k.toLk.W) (hj : j ≤ 60) (e : pw x j = idp n) (hl : ∀ i, i < j → pw x i ≠ idp n) (st : Store) : ∃ v, q_law_13 cl [u0, u1, u2, some (.int n), u4, some (itup x), u6, u7, u8, u9, u10, u11, some (itup (pw x 0)), some (.int ((j + 1 : Nat) : Int)), u14, u15, u16, u17, u18] st = .nx [u0, u1, u2, some (.int n), u4, some (itup x), u6, u7, u8, u9, v, u11, some (itup (idp n)), some (.int ((j + 1 : Nat) : Int)), u14, u15, u16, u17, u18] st := by
  obtain ⟨v, e1⟩ := rounds_go (st := st) k.hn (inW k.toLk hx) (fun i => inW k.toLk (pw_in k.toLk.W0 hx i)) hj e hl (u0 := u0) (u1 := u1) (u2 := u2) (u4 := u4) (u6 := u6) (u7 := u7) (u8 := u8) (u9 := u9) (u11 := u11) (u13 := some (.int ((j + 1 : Nat) : Int))) (u14 := u14) (u15 := u15) (u16 := u16) (u17 := u17) (u18 := u18) (its := rngD 1 ((((j + 1 : Nat) : Int) - 1).toNat)) (rngD 1 ((((j + 1 : Nat) : Int) - 1).toNat)) 0 u10 (by simp [rngD])
  refine ⟨v, ?_⟩
  have e2 := itR2J_ok (i := 1) (j := ((j + 1 : Nat) : Int)) (st := st) (by decide) (by decide) (by omega) (by omega)
  have ea : consA (cst (.int 1)) (consA (vr 13) nilA) [u0, u1, u2, some (.int n), u4, some (itup x), u6, u7, u8, u9, u10, u11, some (itup (pw x 0)), some (.int ((j + 1 : Nat) : Int)), u14, u15, u16, u17, u18] st = .ok [.int 1, .int ((j + 1 : Nat) : Int)] st := rfl
  unfold q_law_13
  rw [forM_s, itR2_s, ea, bind_ok, itR2K_s, e2, toS_ok, forK_s]
  exact e1
theorem q14_ok (hn : n ≤ 1000) (st : Store) : q_law_14 cl [u0, u1, u2, some (.int n), u4, u5, u6, u7, u8, u9, u10, u11, some (itup (idp n)), u13, u14, u15, u16, u17, u18] st = .nx [u0, u1, u2, some (.int n), u4, u5, u6, u7, u8, u9, u10, u11, some (itup (idp n)), u13, u14, u15, u16, u17, u18] st := by
  simp only [q_law_14, ifS_s, tst_s, b2_s, vr_s, List.getElem?_cons_succ, List.getElem?_cons_zero, vrK_s, bind_ok, b2K_s, trgM_s, trgK_ok st hn, neM_row, decide_true, Bool.not_true, tstK_s, toS_ok, ifK_f, nextM_s]
theorem q15_ok (k : Lk4 n gs B) (st : Store) : q_law_15 cl [u0, u1, some (.tup (gs.map itup)), u3, u4, u5, u6, u7, u8, u9, u10, u11, u12, u13, u14, u15, u16, u17, u18] st = .nx [u0, u1, some (.tup (gs.map itup)), u3, u4, u5, u6, u7, u8, u9, u10, u11, u12, u13, some (.fl (odds1 gs)), u15, u16, u17, u18] st := by
  have hne : gs.map itup ≠ [] := fun h => k.ne (List.map_eq_nil_iff.mp h)
  have h4 := k.l4
  have e1 : timesM (.tup (gs.map itup)) (.int 5) st = .ok (.tup (rep (gs.map itup) 5)) st := if_pos ⟨hne, by decide, by decide, by rw [List.length_map]; omega⟩
  have e2 := plusM_tup (u := gs.map itup) (v := [D.tup [.int 0]]) (st := st) (by rw [List.length_map]; simp; omega)
  have ed : ∀ (a b c d e : D) (st : Store), dispK [a, b, c, d, e] st = .ok [a, b, c, d, e] st := fun _ _ _ _ _ _ => rfl
  simp only [q_law_15, setM_s, fz_s, disp_s, consA_s, tupM_s, cst_s, bind_ok, consK_s, nilA_s, consJ_s, dispK_2, tupK_s, dispK_0, b2_s, vr_s, List.getElem?_cons_succ, List.getElem?_cons_zero, vrK_s, b2K_s, e1, dispK_1, e2, callM_s, lenM2_tup, List.length_map, ed, flK_s, toS_ok, setK_s, List.set_cons_succ, List.set_cons_zero]
  rfl
theorem q16_ok (k : Lk4 n gs B) (st : Store) : q_law_16 cl [u0, u1, some (.tup (gs.map itup)), u3, u4, u5, u6, u7, u8, u9, u10, u11, u12, u13, some (.fl (odds1 gs)), u15, u16, u17, u18] st = .nx [u0, u1, some (.tup (gs.map itup)), u3, u4, u5, u6, u7, u8, u9, u10, u11, u12, u13, some (.fl (odds1 gs ++ odds2 (gs.headD []))), u15, u16, u17, u18] st := by
  have e0 : ixM2 (.tup (gs.map itup)) (.int 0) st = .ok (itup (gs.headD [])) st := by
    have hne := k.ne
    cases gs with
    | nil => exact absurd rfl hne
    | cons g gs => rw [ixM2_tup, List.map_cons, atI_0]; rfl
  have e1 : lstOf (consA (b2 ixM2 (vr 2) (cst (.int 0))) nilA) [u0, u1, some (.tup (gs.map itup)), u3, u4, u5, u6, u7, u8, u9, u10, u11, u12, u13, some (.fl (odds1 gs)), u15, u16, u17, u18] st = .ok ((gs.headD []).map D.int) st := by
    unfold lstOf
    simp only [consA_s, b2_s, vr_s, List.getElem?_cons_succ, List.getElem?_cons_zero, vrK_s, bind_ok, b2K_s, cst_s, e0, consK_s, nilA_s, consJ_s]
    rfl
  have e2 : plusM (.fl (odds1 gs)) (.fl (odds2 (gs.headD []))) st = .ok (.fl (odds1 gs ++ odds2 (gs.headD []))) st := rfl
  have e3 : fz (disp (consA (tupM (consA (tupM (consA (fz (lstOf (consA (b2 ixM2 (vr 2) (cst (.int 0))) nilA))) nilA)) (consA (cst (.int 0)) nilA))) (consA (tupM (consA (tupM (consA (tupM (consA (cst (.int 0)) (consA (cst (.int 0)) nilA))) nilA)) (consA (cst (.int 0)) nilA))) (consA (tupM (consA (tupM (consA (tupM (consA (cst (.bl true)) (consA (cst (.int 0)) nilA))) nilA)) (consA (cst (.int 0)) nilA))) nilA)))) [u0, u1, some (.tup (gs.map itup)), u3, u4, u5, u6, u7, u8, u9, u10, u11, u12, u13, some (.fl (odds1 gs)), u15, u16, u17, u18] st = .ok (.fl (odds2 (gs.headD []))) st := by
    simp only [fz_s, disp_s, consA_s, tupM_s, e1, bind_ok, flK_s, consK_s, nilA_s, consJ_s, dispK_1, tupK_s, cst_s, dispK_2, dispK_3]
    rfl
  unfold q_law_16
  rw [setM_s, b2_s]
  simp only [vr_s, List.getElem?_cons_succ, List.getElem?_cons_zero, vrK_s, bind_ok, b2K_s]
  rw [e3]
  simp only [bind_ok, e2, toS_ok, setK_s, List.set_cons_succ, List.set_cons_zero]
theorem q17_ok (k : Lk4 n gs B) (h3 : gs.length ≤ 3) (t : TB 0 st) : ∃ S v9 v15, q_law_17 cl [u0, u1, u2, u3, u4, u5, u6, u7, u8, u9, u10, u11, u12, u13, some (.fl (odds1 gs ++ odds2 (gs.headD []))), u15, none, u17, u18] st = .nx [u0, u1, u2, u3, u4, u5, u6, u7, u8, v9, u10, u11, u12, u13, some (.fl (odds1 gs ++ odds2 (gs.headD []))), v15, none, u17, u18] S ∧ st <+: S := by
  obtain ⟨S, v9, v15, e, p⟩ := odds_go (its := odds1 gs ++ odds2 (gs.headD [])) (u0 := u0) (u1 := u1) (u2 := u2) (u3 := u3) (u4 := u4) (u5 := u5) (u6 := u6) (u7 := u7) (u8 := u8) (u10 := u10) (u11 := u11) (u12 := u12) (u13 := u13) (u14 := some (.fl (odds1 gs ++ odds2 (gs.headD [])))) (u17 := u17) (u18 := u18) (odds1 gs ++ odds2 (gs.headD [])) st u9 u15 (odd_all k h3) t
  refine ⟨S, v9, v15, ?_, p⟩
  have ei : itA (vr 14) [u0, u1, u2, u3, u4, u5, u6, u7, u8, u9, u10, u11, u12, u13, some (.fl (odds1 gs ++ odds2 (gs.headD []))), u15, none, u17, u18] st = .ok ⟨odds1 gs ++ odds2 (gs.headD []), none⟩ st := rfl
  unfold q_law_17
  rw [forM_s, ei, toS_ok, forK_s]
  exact e
theorem q19_ok (k : Lk4 n gs B) (t : TB 0 st) (t2 : st[1]? = some (.tl ("law", none))) {w : Nat} (hw : st[w]? = some (.lst [])) (hw0 : w ≠ 0) (hw1 : w ≠ 1) : ∃ S v, q_law_19 cl [u0, u1, some (.tup (gs.map itup)), some (.int n), u4, some (itup x), u6, u7, u8, u9, u10, u11, u12, u13, u14, u15, none, some (.ref w), u18] st = .nx [u0, u1, some (.tup (gs.map itup)), some (.int n), u4, some (itup x), u6, u7, u8, u9, u10, u11, u12, u13, u14, u15, none, some (.ref w), v] S ∧
    TB 0 S ∧ S[w]? = some (.lst [.str "turn", .str "turn", .str "turn"]) := by
  have hset : ∀ {S T : Store} {o o2 : O} {i : Nat}, S <+: T → S[i]? = some o → i ≠ w → (T.set w o2)[i]? = some o := fun {S T o o2 i} p h hi => by rw [List.getElem?_set_ne (Ne.symm hi)]; exact pre_get p h
  have hself : ∀ {S T : Store} {o o2 : O}, S <+: T → S[w]? = some o → (T.set w o2)[w]? = some o2 := fun {S T o o2} p h => List.getElem?_set_self (List.getElem?_eq_some_iff.mp (pre_get p h)).1
  obtain ⟨S1, e1, p1⟩ := undo_zeros k t
  have a1 : TB 0 (S1.set w (.lst ([] ++ [.str "turn"]))) := hset p1 t (Ne.symm hw0)
  have b1 : (S1.set w (.lst ([] ++ [.str "turn"])))[w]? = some (.lst [.str "turn"]) := hself p1 hw
  obtain ⟨S2, e2, p2⟩ := is_made_non k a1
  have a2 : TB 0 (S2.set w (.lst ([.str "turn"] ++ [.str "turn"]))) := hset p2 a1 (Ne.symm hw0)
  have b2' : (S2.set w (.lst ([.str "turn"] ++ [.str "turn"])))[w]? = some (.lst [.str "turn", .str "turn"]) := hself p2 b1
  obtain ⟨S3, e3, p3⟩ := join_list (l := [itup x]) k a2
  have a3 : TB 0 (S3.set w (.lst ([.str "turn", .str "turn"] ++ [.str "turn"]))) := hset p3 a2 (Ne.symm hw0)
  have b3 : (S3.set w (.lst ([.str "turn", .str "turn"] ++ [.str "turn"])))[w]? = some (.lst [.str "turn", .str "turn", .str "turn"]) := hself p3 b2'
  rw [← x_undo] at e1
  rw [← x_is_made] at e2
  rw [← x_join] at e3
  have hn9 := k.n9
  have hn2 := k.n2
  have m1 : lamb_0 [u0, u1, some (.tup (gs.map itup)), some (.int n), u4, some (itup x), u6, u7, u8, u9, u10, u11, u12, u13, u14, u15, none, some (.ref w), some (.lam [43, 19, 0, 0] cl)] st = .exc "BadTurn" [] S1 := by
    have et : timesM (.tup [.int 0]) (.int n) st = .ok (.tup (rep [.int 0] n)) st := if_pos ⟨by simp, by omega, by omega, by simp⟩
    simp only [lamb_0, callM_s, consA_s, vr_s, List.getElem?_cons_succ, List.getElem?_cons_zero, vrK_s, bind_ok, consK_s, b2_s, tupM_s, disp_s, cst_s, nilA_s, consJ_s, dispK_1, tupK_s, b2K_s, et, e1]
  have m2 : lamb_1 [u0, u1, some (.tup (gs.map itup)), some (.int n), u4, some (itup x), u6, u7, u8, u9, u10, u11, u12, u13, u14, u15, none, some (.ref w), some (.lam [43, 19, 0, 1] cl)] (S1.set w (.lst ([] ++ [.str "turn"]))) = .exc "BadTurn" [] S2 := by
    simp only [lamb_1, callM_s, consA_s, vr_s, List.getElem?_cons_succ, List.getElem?_cons_zero, vrK_s, bind_ok, consK_s, cst_s, nilA_s, consJ_s, e2]
  have m3 : lamb_2 [u0, u1, some (.tup (gs.map itup)), some (.int n), u4, some (itup x), u6, u7, u8, u9, u10, u11, u12, u13, u14, u15, none, some (.ref w), some (.lam [43, 19, 0, 2] cl)] (S2.set w (.lst ([.str "turn"] ++ [.str "turn"]))) = .exc "BadTurn" [] S3 := by
    simp only [lamb_2, callM_s, consA_s, fz_s, disp_s, vr_s, List.getElem?_cons_succ, List.getElem?_cons_zero, vrK_s, bind_ok, consK_s, nilA_s, consJ_s, dispK_1, flK_s, e3]
  have r1 := lB1_ok (cl := cl) (by rfl) m1 (pre_get p1 hw) (by simp)
  have r2 := lB1_ok (cl := cl) (by rfl) m2 (pre_get p2 b1) (by simp)
  have r3 := lB1_ok (cl := cl) (by rfl) m3 (pre_get p3 b2') (by simp)
  refine ⟨_, some (.lam [43, 19, 0, 2] cl), ?_, a3, b3⟩
  have hi : itA (fz (disp (consA (lamM 1 (("law", none) : Str × Option Str) [43, 19, 0, 0] cl) (consA (lamM 1 (("law", none) : Str × Option Str) [43, 19, 0, 1] cl) (consA (lamM 1 (("law", none) : Str × Option Str) [43, 19, 0, 2] cl) nilA))))) [u0, u1, some (.tup (gs.map itup)), some (.int n), u4, some (itup x), u6, u7, u8, u9, u10, u11, u12, u13, u14, u15, none, some (.ref w), u18] st = .ok ⟨[.lam [43, 19, 0, 0] cl, .lam [43, 19, 0, 1] cl, .lam [43, 19, 0, 2] cl], none⟩ st := by
    have hl : ∀ (pth : List Nat) (l : Sl), lamM 1 (("law", none) : Str × Option Str) pth cl l st = .ok (.lam pth cl) st := fun pth l => by
      unfold lamM
      simp only [t2, if_true]
    simp only [itA_s, fz_s, disp_s, consA_s, hl, bind_ok, consK_s, nilA_s, consJ_s, dispK_3, flK_s, itAK_fl]
  unfold q_law_19
  rw [forM_s, hi]
  simp only [toS_ok, forK_s]
  have hgo : forGo ⟨[.lam [43, 19, 0, 0] cl, .lam [43, 19, 0, 1] cl, .lam [43, 19, 0, 2] cl], none⟩ (.nm 18) (lB1 cl) [.lam [43, 19, 0, 0] cl, .lam [43, 19, 0, 1] cl, .lam [43, 19, 0, 2] cl] [u0, u1, some (.tup (gs.map itup)), some (.int n), u4, some (itup x), u6, u7, u8, u9, u10, u11, u12, u13, u14, u15, none, some (.ref w), u18] st = .nx [u0, u1, some (.tup (gs.map itup)), some (.int n), u4, some (itup x), u6, u7, u8, u9, u10, u11, u12, u13, u14, u15, none, some (.ref w), some (.lam [43, 19, 0, 2] cl)] (S3.set w (.lst ([.str "turn", .str "turn"] ++ [.str "turn"]))) := by
   rw [forGo_cons (l1 := [u0, u1, some (.tup (gs.map itup)), some (.int n), u4, some (itup x), u6, u7, u8, u9, u10, u11, u12, u13, u14, u15, none, some (.ref w), some (.lam [43, 19, 0, 0] cl)]) rfl rfl, r1, forK2_nx,
    forGo_cons (l1 := [u0, u1, some (.tup (gs.map itup)), some (.int n), u4, some (itup x), u6, u7, u8, u9, u10, u11, u12, u13, u14, u15, none, some (.ref w), some (.lam [43, 19, 0, 1] cl)]) rfl rfl, r2, forK2_nx,
    forGo_cons (l1 := [u0, u1, some (.tup (gs.map itup)), some (.int n), u4, some (itup x), u6, u7, u8, u9, u10, u11, u12, u13, u14, u15, none, some (.ref w), some (.lam [43, 19, 0, 2] cl)]) rfl rfl, r3, forK2_nx, forGo_nil rfl]
  exact hgo
theorem q20_ok (t : TB 0 st) {w : Nat} (hw : st[w]? = some (.lst [.str "turn", .str "turn", .str "turn"])) : ∃ S, q_law_20 cl [u0, u1, u2, u3, u4, u5, u6, u7, u8, u9, u10, u11, u12, u13, u14, u15, none, some (.ref w), u18] st = .rt (.bl true) S := by
  obtain ⟨S, e, p⟩ := all_turns_many t
  rw [← x_all_turns] at e
  refine ⟨S, ?_⟩
  have h6 : ∀ l : Sl, consA (tupM (consA (tupM (consA (cst (.int 1)) (consA (cst (.int 2)) (consA (cst (.int 3)) (consA (cst (.int 4)) (consA (cst (.int 5)) (consA (cst (.int 0)) nilA))))))) (consA (tupM (consA (cst (.int 1)) (consA (cst (.int 0)) (consA (cst (.int 2)) (consA (cst (.int 3)) (consA (cst (.int 4)) (consA (cst (.int 5)) nilA))))))) nilA))) nilA l st = .ok [.tup (s6.map itup)] st := fun _ => rfl
  have hb : exprM (callM m_all_turns (consA (tupM (consA (tupM (consA (cst (.int 1)) (consA (cst (.int 2)) (consA (cst (.int 3)) (consA (cst (.int 4)) (consA (cst (.int 5)) (consA (cst (.int 0)) nilA))))))) (consA (tupM (consA (cst (.int 1)) (consA (cst (.int 0)) (consA (cst (.int 2)) (consA (cst (.int 3)) (consA (cst (.int 4)) (consA (cst (.int 5)) nilA))))))) nilA))) nilA)) [u0, u1, u2, u3, u4, u5, u6, u7, u8, u9, u10, u11, u12, u13, u14, u15, none, some (.ref w), u18] st = .exc "TooMany" [("most", .int 240)] [u0, u1, u2, u3, u4, u5, u6, u7, u8, u9, u10, u11, u12, u13, u14, u15, none, some (.ref w), u18] S := by
    rw [exprM_s, callM_s, h6, bind_ok, e, toS_exc]
  unfold q_law_20
  rw [tryM_exc hb (by rfl) (by simp)]
  have e1 := eq_turns (pre_get p hw)
  have e2 : fz (repL (fz (disp (consA (cst (.str "turn")) nilA))) (cst (.int 3))) [u0, u1, u2, u3, u4, u5, u6, u7, u8, u9, u10, u11, u12, u13, u14, u15, none, some (.ref w), u18] S = .ok (.fl [.str "turn", .str "turn", .str "turn"]) S := rfl
  have e3 : xfM "TooMany" [("most", .int 240)] "TooMany" "most" [u0, u1, u2, u3, u4, u5, u6, u7, u8, u9, u10, u11, u12, u13, u14, u15, none, some (.ref w), u18] S = .ok (.int 240) S := rfl
  simp only [List.set_cons_succ, List.set_cons_zero]
  rw [retM_s, andV_s, b2_s]
  simp only [vr_s, List.getElem?_cons_succ, List.getElem?_cons_zero, vrK_s, bind_ok, b2K_s, e2, e1, andVK_t, b2_s, e3, cst_s, eqM_int, decide_true, toS_ok, rtK_s, xEnd]
end
theorem law_true (ns : List Int) (hl : ns.length ≤ 63) (cl : List (Str × Addr)) : ∃ st', m_law cl [.rd (ns.map D.int)] (tf.map (oK lm)) = .ok (.bl true) st' := by
  have tS : TB 0 (tf.map (oK lm) ++ [rowO ns 0 7701 0]) := by rfl
  have tL : (tf.map (oK lm) ++ [rowO ns 0 7701 0])[1]? = some (.tl ("law", none)) := by rfl
  have hr : ∃ x, (tf.map (oK lm) ++ [rowO ns 0 7701 0])[2]? = some x ∧ IsRow ns x := ⟨_, rfl, 0, 7701, 0, rfl⟩
  obtain ⟨n, gs, B, S1, e1, g1, k, hB, h3⟩ := lock_ok3 (nm := nm) hr (by decide) (by decide) nm_ok
  rw [← x_llock] at e1
  have hn := k.hn
  have hW := k.toLk.hW
  have gt : ∀ {S T : Store}, TB 0 S → Gr ns 2 S T → TB 0 T := fun t g => g.get t (by decide)
  have gl : ∀ {S T : Store}, S[1]? = some (O.tl ("law", none)) → Gr ns 2 S T → T[1]? = some (O.tl ("law", none)) := fun t g => g.get t (by decide)
  have t1 := gt tS g1
  have L1 := gl tL g1
  have r1 := g1.row
  have rp : ∀ {S T : Store}, (∃ x, S[2]? = some x ∧ IsRow ns x) → S <+: T → (∃ x, T[2]? = some x ∧ IsRow ns x) := fun ⟨x, h, i⟩ p => ⟨x, pre_get p h, i⟩
  obtain ⟨S2, f2, p2⟩ := q2_ok (cl := cl) k S1 (u0 := some (.rd (ns.map D.int))) (u1 := some (.ref 2)) (u3 := none) (u4 := none) (u5 := none) (u6 := none) (u7 := none) (u8 := none) (u9 := none) (u10 := none) (u11 := none) (u12 := none) (u13 := none) (u14 := none) (u15 := none) (u16 := none) (u17 := none) (u18 := none)
  obtain ⟨S3, f3, p3⟩ := q3_ok (cl := cl) k (TB.pre t1 p2) (u0 := some (.rd (ns.map D.int))) (u1 := some (.ref 2)) (u3 := some (.int n)) (u5 := none) (u6 := none) (u7 := none) (u8 := none) (u9 := none) (u10 := none) (u11 := none) (u12 := none) (u13 := none) (u14 := none) (u15 := none) (u16 := none) (u17 := none) (u18 := none)
  have p13 := p2.trans p3
  obtain ⟨x, y, z, S4, f4, g4, hx, hy, hz⟩ := q4_ok (cl := cl) k (rp r1 p13) (u0 := some (.rd (ns.map D.int))) (u2 := some (.tup (gs.map itup))) (u5 := none) (u6 := none) (u7 := none) (u8 := none) (u9 := none) (u10 := none) (u11 := none) (u12 := none) (u13 := none) (u14 := none) (u15 := none) (u16 := none) (u17 := none) (u18 := none)
  have t4 := gt (TB.pre t1 p13) g4
  have L4 := gl (pre_get p13 L1) g4
  obtain ⟨S5, f5, p5⟩ := q5_ok (cl := cl) k hz t4 (u0 := some (.rd (ns.map D.int))) (u1 := some (.ref 2)) (u3 := some (.int n)) (u5 := some (itup x)) (u6 := some (itup y)) (u8 := none) (u9 := none) (u10 := none) (u11 := none) (u12 := none) (u13 := none) (u14 := none) (u15 := none) (u16 := none) (u17 := none) (u18 := none)
  obtain ⟨S6, f6, p6⟩ := q6_ok (cl := cl) k hx (TB.pre t4 p5) (u0 := some (.rd (ns.map D.int))) (u1 := some (.ref 2)) (u3 := some (.int n)) (u4 := some (.fl (k.toLk.W.map itup))) (u6 := some (itup y)) (u7 := some (itup z)) (u8 := none) (u9 := none) (u10 := none) (u11 := none) (u12 := none) (u13 := none) (u14 := none) (u15 := none) (u16 := none) (u17 := none) (u18 := none)
  have p46 := p5.trans p6
  obtain ⟨ws, S7, f7, g7, hws, lws⟩ := q7_ok (cl := cl) k (rp g4.row p46) (u0 := some (.rd (ns.map D.int))) (u2 := some (.tup (gs.map itup))) (u3 := some (.int n)) (u5 := some (itup x)) (u6 := some (itup y)) (u7 := some (itup z)) (u8 := none) (u9 := none) (u11 := none) (u12 := none) (u13 := none) (u14 := none) (u15 := none) (u16 := none) (u17 := none) (u18 := none)
  have t7 := gt (TB.pre t4 p46) g7
  have L7 := gl (pre_get p46 L4) g7
  obtain ⟨v10, f9⟩ := q9_ok (cl := cl) (ws := ws) hn (fun p hp => inW k.toLk (hws p hp)) S7 (u0 := some (.rd (ns.map D.int))) (u1 := some (.ref 2)) (u2 := some (.tup (gs.map itup))) (u3 := some (.int n)) (u4 := some (.fl (k.toLk.W.map itup))) (u5 := some (itup x)) (u6 := some (itup y)) (u7 := some (itup z)) (u10 := none) (u11 := none) (u12 := none) (u13 := none) (u14 := none) (u15 := none) (u16 := none) (u17 := none) (u18 := none)
  obtain ⟨S10, f10, p10⟩ := q10_ok (cl := cl) k hx hy hws t7 (u0 := some (.rd (ns.map D.int))) (u1 := some (.ref 2)) (u3 := some (.int n)) (u4 := some (.fl (k.toLk.W.map itup))) (u7 := some (itup z)) (u9 := some (itup (prd (idp n) ws))) (u10 := v10) (u11 := none) (u12 := none) (u13 := none) (u14 := none) (u15 := none) (u16 := none) (u17 := none) (u18 := none)
  have f11 := q11_ok (cl := cl) k hx hy hws S10 (u0 := some (.rd (ns.map D.int))) (u1 := some (.ref 2)) (u2 := some (.tup (gs.map itup))) (u3 := some (.int n)) (u4 := some (.fl (k.toLk.W.map itup))) (u7 := some (itup z)) (u8 := some (.tup (ws.map itup))) (u10 := v10) (u12 := none) (u13 := none) (u14 := none) (u15 := none) (u16 := none) (u17 := none) (u18 := none)
  have t10 := TB.pre t7 p10
  have L10 := pre_get p10 L7
  obtain ⟨j, hj, ej, hlj⟩ := pw_ends k.toLk.W0 hx hW
  obtain ⟨S12, f12, p12⟩ := q12_ok (cl := cl) k hx hj ej hlj t10 (u0 := some (.rd (ns.map D.int))) (u1 := some (.ref 2)) (u3 := some (.int n)) (u4 := some (.fl (k.toLk.W.map itup))) (u6 := some (itup y)) (u7 := some (itup z)) (u8 := some (.tup (ws.map itup))) (u9 := some (itup (prd (idp n) ws))) (u10 := v10) (u11 := some (.fl [itup (prd (idp n) ws), itup (bk x), itup (swp x y)])) (u12 := none) (u13 := none) (u14 := none) (u15 := none) (u16 := none) (u17 := none) (u18 := none)
  obtain ⟨w10, f13⟩ := q13_ok (cl := cl) k hx hj ej hlj S12 (u0 := some (.rd (ns.map D.int))) (u1 := some (.ref 2)) (u2 := some (.tup (gs.map itup))) (u4 := some (.fl (k.toLk.W.map itup))) (u6 := some (itup y)) (u7 := some (itup z)) (u8 := some (.tup (ws.map itup))) (u9 := some (itup (prd (idp n) ws))) (u10 := v10) (u11 := some (.fl [itup (prd (idp n) ws), itup (bk x), itup (swp x y)])) (u14 := none) (u15 := none) (u16 := none) (u17 := none) (u18 := none)
  have f14 := q14_ok (cl := cl) hn S12 (u0 := some (.rd (ns.map D.int))) (u1 := some (.ref 2)) (u2 := some (.tup (gs.map itup))) (u4 := some (.fl (k.toLk.W.map itup))) (u5 := some (itup x)) (u6 := some (itup y)) (u7 := some (itup z)) (u8 := some (.tup (ws.map itup))) (u9 := some (itup (prd (idp n) ws))) (u10 := w10) (u11 := some (.fl [itup (prd (idp n) ws), itup (bk x), itup (swp x y)])) (u13 := some (.int ((j + 1 : Nat) : Int))) (u14 := none) (u15 := none) (u16 := none) (u17 := none) (u18 := none)
  have f15 := q15_ok (cl := cl) k S12 (u0 := some (.rd (ns.map D.int))) (u1 := some (.ref 2)) (u3 := some (.int n)) (u4 := some (.fl (k.toLk.W.map itup))) (u5 := some (itup x)) (u6 := some (itup y)) (u7 := some (itup z)) (u8 := some (.tup (ws.map itup))) (u9 := some (itup (prd (idp n) ws))) (u10 := w10) (u11 := some (.fl [itup (prd (idp n) ws), itup (bk x), itup (swp x y)])) (u12 := some (itup (idp n))) (u13 := some (.int ((j + 1 : Nat) : Int))) (u14 := none) (u15 := none) (u16 := none) (u17 := none) (u18 := none)
  have f16 := q16_ok (cl := cl) k S12 (u0 := some (.rd (ns.map D.int))) (u1 := some (.ref 2)) (u3 := some (.int n)) (u4 := some (.fl (k.toLk.W.map itup))) (u5 := some (itup x)) (u6 := some (itup y)) (u7 := some (itup z)) (u8 := some (.tup (ws.map itup))) (u9 := some (itup (prd (idp n) ws))) (u10 := w10) (u11 := some (.fl [itup (prd (idp n) ws), itup (bk x), itup (swp x y)])) (u12 := some (itup (idp n))) (u13 := some (.int ((j + 1 : Nat) : Int))) (u15 := none) (u16 := none) (u17 := none) (u18 := none)
  have t12 := TB.pre t10 p12
  obtain ⟨S17, v9, v15, f17, p17⟩ := q17_ok (cl := cl) k h3 t12 (u0 := some (.rd (ns.map D.int))) (u1 := some (.ref 2)) (u2 := some (.tup (gs.map itup))) (u3 := some (.int n)) (u4 := some (.fl (k.toLk.W.map itup))) (u5 := some (itup x)) (u6 := some (itup y)) (u7 := some (itup z)) (u8 := some (.tup (ws.map itup))) (u9 := some (itup (prd (idp n) ws))) (u10 := w10) (u11 := some (.fl [itup (prd (idp n) ws), itup (bk x), itup (swp x y)])) (u12 := some (itup (idp n))) (u13 := some (.int ((j + 1 : Nat) : Int))) (u15 := none) (u17 := none) (u18 := none)
  have t17 := TB.pre t12 p17
  have L17 := pre_get p17 (pre_get p12 L10)
  have hlen : 2 ≤ S17.length := by
    have := (List.getElem?_eq_some_iff.mp L17).1
    omega
  have t18 : TB 0 (S17 ++ [O.lst []]) := TB.pre t17 (List.prefix_append _ _)
  obtain ⟨S19, v18, f19, t19, w19⟩ := q19_ok (cl := cl) (x := x) k t18 (pre_get (List.prefix_append _ _) L17) (w := S17.length) (by rw [List.getElem?_concat_length]) (by omega) (by omega) (u0 := some (.rd (ns.map D.int))) (u1 := some (.ref 2)) (u4 := some (.fl (k.toLk.W.map itup))) (u6 := some (itup y)) (u7 := some (itup z)) (u8 := some (.tup (ws.map itup))) (u9 := v9) (u10 := w10) (u11 := some (.fl [itup (prd (idp n) ws), itup (bk x), itup (swp x y)])) (u12 := some (itup (idp n))) (u13 := some (.int ((j + 1 : Nat) : Int))) (u14 := some (.fl (odds1 gs ++ odds2 (gs.headD [])))) (u15 := v15) (u18 := none)
  obtain ⟨S20, f20⟩ := q20_ok (cl := cl) t19 w19 (u0 := some (.rd (ns.map D.int))) (u1 := some (.ref 2)) (u2 := some (.tup (gs.map itup))) (u3 := some (.int n)) (u4 := some (.fl (k.toLk.W.map itup))) (u5 := some (itup x)) (u6 := some (itup y)) (u7 := some (itup z)) (u8 := some (.tup (ws.map itup))) (u9 := v9) (u10 := w10) (u11 := some (.fl [itup (prd (idp n) ws), itup (bk x), itup (swp x y)])) (u12 := some (itup (idp n))) (u13 := some (.int ((j + 1 : Nat) : Int))) (u14 := some (.fl (odds1 gs ++ odds2 (gs.headD [])))) (u15 := v15) (u18 := v18)
  have f0 : q_law_0 cl (some (.rd (ns.map D.int)) :: List.replicate (19 - 1) none) (tf.map (oK lm)) = .nx [some (.rd (ns.map D.int)), some (.ref 2), none, none, none, none, none, none, none, none, none, none, none, none, none, none, none, none, none] (tf.map (oK lm) ++ [rowO ns 0 7701 0]) := rfl
  have f1 : q_law_1 cl [some (.rd (ns.map D.int)), some (.ref 2), none, none, none, none, none, none, none, none, none, none, none, none, none, none, none, none, none] (tf.map (oK lm) ++ [rowO ns 0 7701 0]) = .nx [some (.rd (ns.map D.int)), some (.ref 2), some (.tup (gs.map itup)), none, none, none, none, none, none, none, none, none, none, none, none, none, none, none, none] S1 := by
    have ea : ∀ st : Store, consA (vr 1) (consA (fz (disp (consA (cst (.str "four")) (consA (cst (.str "square")) (consA (cst (.str "quaternions")) (consA (cst (.str "threes")) (consA (cst (.str "three")) (consA (cst (.str "tetra")) (consA (cst (.str "six")) (consA (cst (.str "five")) nilA)))))))))) nilA) [some (.rd (ns.map D.int)), some (.ref 2), none, none, none, none, none, none, none, none, none, none, none, none, none, none, none, none, none] st = .ok [.ref 2, .fl (nm.map D.str)] st := fun _ => rfl
    unfold q_law_1
    rw [setM_s, callM_s, ea, bind_ok, e1]
    rfl
  have f8 : q_law_8 cl [some (.rd (ns.map D.int)), some (.ref 2), some (.tup (gs.map itup)), some (.int n), some (.fl (k.toLk.W.map itup)), some (itup x), some (itup y), some (itup z), some (.tup (ws.map itup)), none, none, none, none, none, none, none, none, none, none] S7 = .nx [some (.rd (ns.map D.int)), some (.ref 2), some (.tup (gs.map itup)), some (.int n), some (.fl (k.toLk.W.map itup)), some (itup x), some (itup y), some (itup z), some (.tup (ws.map itup)), some (itup (idp n)), none, none, none, none, none, none, none, none, none] S7 := by
    simp only [q_law_8, setM_s, trgM_s, vr_s, List.getElem?_cons_succ, List.getElem?_cons_zero, vrK_s, bind_ok, trgK_ok S7 hn, toS_ok, setK_s, List.set_cons_succ, List.set_cons_zero]
  have f18 : q_law_18 cl [some (.rd (ns.map D.int)), some (.ref 2), some (.tup (gs.map itup)), some (.int n), some (.fl (k.toLk.W.map itup)), some (itup x), some (itup y), some (itup z), some (.tup (ws.map itup)), v9, w10, some (.fl [itup (prd (idp n) ws), itup (bk x), itup (swp x y)]), some (itup (idp n)), some (.int ((j + 1 : Nat) : Int)), some (.fl (odds1 gs ++ odds2 (gs.headD []))), v15, none, none, none] S17 = .nx [some (.rd (ns.map D.int)), some (.ref 2), some (.tup (gs.map itup)), some (.int n), some (.fl (k.toLk.W.map itup)), some (itup x), some (itup y), some (itup z), some (.tup (ws.map itup)), v9, w10, some (.fl [itup (prd (idp n) ws), itup (bk x), itup (swp x y)]), some (itup (idp n)), some (.int ((j + 1 : Nat) : Int)), some (.fl (odds1 gs ++ odds2 (gs.headD []))), v15, none, some (.ref S17.length), none] (S17 ++ [.lst []]) := rfl
  refine ⟨S20, ?_⟩
  have eM : m_law cl = dfM 1 19 (b_law cl) := rfl
  rw [eM, dfM_1]
  unfold b_law
  rw [sq_nx f0, sq_nx f1, sq_nx f2, sq_nx f3, sq_nx f4, sq_nx f5, sq_nx f6, sq_nx f7, sq_nx f8, sq_nx f9, sq_nx f10, sq_nx f11, sq_nx f12, sq_nx f13, sq_nx f14, sq_nx f15, sq_nx f16, sq_nx f17, sq_nx f18, sq_nx f19, sq_s, f20]
  rfl
end K01
namespace K01
open PySem PySem.Spec PyProof.Rows L2 Rf
abbrev lR : PySem.W.OpenRow := PySem.W.OpenLaw.row PySem.Challenge.rw_lockturns_k01_whole_locks
abbrev lH : PySem.W.Hook := He.hookX 6 fa fn [] tf (exB fx tf)
def lO (s : PySem.W.SharedT) : He.AlX := He.obsX 6 fa fn [] tf (exB fx tf) (HandSHeadRun.getT s)
theorem lO_eq (s : PySem.W.SharedT) : lO s = lH.obs s.abs := He.obsX_eq (HandSHeadRun.getT_eq s)
def lN : List Str := List.append (["LockError", "BadLock", "BadTurn", "TooMany", "is_number", "is_turn", "still", "behind", "back", "product", "times_round", "swap_of"] : List Str) (List.append (["LEAST_PLACES", "MOST_PLACES", "MOST_GIVEN", "MOST_TURNS", "need_lock", "spanned", "turns_of", "all_turns", "need_turn", "is_made", "word_for", "join"] : List Str) (List.append (["undo", "rounds", "swapped", "_law_taken", "_law_pick", "_law_alike", "_law_is", "_law_permutation", "_law_behind", "_law_back", "_law_swap", "_law_span"] : List Str) (List.append (["_law_known", "_law_lock", "_law_words"] : List Str) ([]))))
theorem lrun (w : World) : HandSHeadRun.RunEq lR (PySem.W.view lR.prog [43]) lH lO 4000 lN w := by
  intro os
  kernel_rfl
theorem lat {w : World} {K : PySem.W.Frag} {h : Heap} {mg : Str → Option Value} {f : Addr} (X : K.In h) (G : h.Ns mainGlobals mg) (hfa : mg ("law" : Str) = some (.ref f)) (c : He.SaysX fa fn [] tf (exB fx tf) w h K) :
    LamX.LawAtS PySem.Challenge.rw_lockturns_k01_whole_locks w K (fun _ _ _ _ _ _ => False) 23 63 "_law_script" mg f h := by
  have T : Tp fa fx fn K mg := ⟨saysR_of c, h, X, G⟩
  obtain ⟨fd, F⟩ := T.def_ lawD
  have e := hfa.symm.trans (T.glo lawG)
  cases e
  have b := FunD.bindsA (ps := ["_law_script"]) F fun _ _ _ _ _ _ us hl => match us, hl with | [_], _ => rfl
  refine ⟨fd, tf.map (He.cT K), fun vs H Q _ => ∀ cl, spF ⟨K, (PySem.Challenge.rw_lockturns_k01_whole_locks).prog, w⟩ 1 (m_law cl) vs H Q fun _ _ _ => False, fun p hp => ?_, fun p hp => ?_, fun p hp => ?_, fun s v => b s [v] rfl, fun H a ns hl _ hT hS => ?_, fun base _ _ TB => ?_⟩
  · obtain ⟨q, hq, rfl⟩ := List.mem_map.mp hp
    exact c.empty q hq
  · obtain ⟨q, hq, rfl⟩ := List.mem_map.mp hp
    exact c.out q hq
  · obtain ⟨q, hq, rfl⟩ := List.mem_map.mp hp
    exact PySem.W.codeHd_of_K X (c.hd q hq)
  · exact lpostL (lm := lm) hS (fun p hp => hT _ (List.mem_map.mpr ⟨p, hp, rfl⟩)) (tabs_nodup c) (law_true ns hl)
  · exact fn_closed (law_fn T (fun p hp => by
      obtain ⟨a1, a2, a3⟩ := TB _ (List.mem_map.mpr ⟨p, hp, rfl⟩)
      exact ⟨a1, a2, a3⟩) (fun _ => rfl) F)
end K01
open PySem PySem.W PySem.Calls PyProof.Rows
theorem PySem.Challenge.cw_lockturns_k01_whole_locks_holds : PySem.Challenge.rw_lockturns_k01_whole_locks.Holds := by
  w_on; o_law
  refine HandSHeadRun.head_any (r := OpenLaw.row PySem.Challenge.rw_lockturns_k01_whole_locks) (q := view (OpenLaw.row PySem.Challenge.rw_lockturns_k01_whole_locks).prog [43]) (H := K01.lH) (ob := K01.lO) (M := 4000) (loose := K01.lN) (d := HandSHeadRun.topDef (OpenLaw.row PySem.Challenge.rw_lockturns_k01_whole_locks).prog 43) (kwd := []) K01.lO_eq
    (by kernel_rfl) (fun s => by kernel_rfl) K01.lrun (by kernel_rfl) (by kernel_rfl) (by kernel_rfl) (by rfl) (by first | assumption | decide +kernel) (by decide +kernel) ⟨rfl, rfl, rfl, rfl, rfl, by decide +kernel⟩ ?hw ?hc
  case hw => w_witness2
  case hc =>
    refine LamX.walk_ofTsE (l := PySem.Challenge.rw_lockturns_k01_whole_locks) (n := 63) (k := 23) (x := "_law_script") (CX := fun _ => fun _ _ _ _ _ _ => False) rfl (by decide) (by kernel_rfl) ⟨rfl, by decide, by decide⟩ ?F (fun _ _ _ _ _ h => h)
    case F =>
      intro w mg fa h Y G hmg0
      obtain ⟨K, KX, c⟩ := Y
      have hmg : mg ("law" : PySem.Str) = some (.ref fa) := by
        have e : (HandSHeadRun.topDef (OpenLaw.row PySem.Challenge.rw_lockturns_k01_whole_locks).prog 43).name = ("law" : PySem.Str) := by kernel_rfl
        rw [← e]
        exact hmg0
      exact ⟨K, KX, K01.lat KX G hmg c⟩
