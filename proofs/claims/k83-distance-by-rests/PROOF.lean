import PyProof.Rows.All
import Wide.All
import OpenK.AllK
import Wide.FinOn
import HandS.ForMost
import HandS.ForExc
import KE.KDictKeyed
import KE.SortData
import KE.SortKeyHeap
import HandS.TupAny
import HandS.IsInst
import HandS.WordsExc
import HandS.TryOnly
import HandS.Comp
import HandS.Flt
import HandS.List
import HandS.Sort
import HandS.Conv
import PyProof.ListRange
import PyProof.ReprRoads
import HandS.Ends
import HandS.EndBits
import KE.KNest
import HandS.Text
import PySem.Challenge.RW_formgrove_k83_distance_by_rests
set_option Elab.async false
set_option linter.all false
set_option maxRecDepth 100000
set_option maxHeartbeats 4000000
/-! PL: a layer of pure data over HandS: tuples are plain trees, what changes (lists, dicts, instances) stands in a partial heap. -/
namespace PL
open PySem PySem.Spec L2

/-- a value: tuples are data -/
inductive D where
  | non | bl (b : Bool) | int (i : Int) | str (x : Str) | tup (xs : List D) | ref (a : Addr) | ty (n : String)
/-- an object that is known -/
inductive O where
  | lst (xs : List D)
  | lsr (xs : List D)
  | dct (kvs : List (D × D))
  | dcl (kvs : List (D × D))
  | ins (C : Addr) (fs : List (Str × D))
abbrev PH := Addr → Option O

/-- what the whole run keeps -/
structure En where
  K : PySem.W.Frag
  P : Program
  w : World

mutual
def Rep (K : PySem.W.Frag) (H : Hp) : D → V → Prop
  | .non, v => v = .non
  | .bl b, v => v = .bl b
  | .int i, v => v = .int i
  | .str x, v => v = .str x
  | .tup xs, v => ∃ a vs, v = .ref a ∧ SqT K H a vs ∧ Reps K H xs vs
  | .ref a, v => v = .ref a
  | .ty n, v => v = .ty n
def Reps (K : PySem.W.Frag) (H : Hp) : List D → List V → Prop
  | [], vs => vs = []
  | d :: ds, vs => ∃ v r, vs = v :: r ∧ Rep K H d v ∧ Reps K H ds r
end

/-- all tuples stay -/
def TK (K : PySem.W.Frag) (H H' : Hp) : Prop := ∀ a xs, SqT K H a xs → SqT K H' a xs
theorem TK.refl (K : PySem.W.Frag) (H : Hp) : TK K H H := fun _ _ h => h
theorem TK.trans {K : PySem.W.Frag} {H H1 H2 : Hp} (a : TK K H H1) (b : TK K H1 H2) : TK K H H2 := fun c xs h => b c xs (a c xs h)
/-- is it no tuple -/
def NoTup : Option HO → Prop
  | some (.tup _) => False
  | some (.frz _ (.tup _)) => False
  | _ => True
theorem TK.upd {K : PySem.W.Frag} {H : Hp} {a : Addr} {o : HO} (n : NoTup (H a)) : TK K H (upd H a o) := by
  intro b xs h
  rcases h with h | h
  · have hb : b ≠ a := by
      rintro rfl
      rcases h with h | ⟨o', h⟩ <;> rw [h] at n <;> exact n
    refine .inl ?_
    rcases h with h | ⟨o', h⟩
    · exact .inl (by rw [upd_ne hb]; exact h)
    · exact .inr ⟨o', by rw [upd_ne hb]; exact h⟩
  · exact .inr h
theorem TK.new {K : PySem.W.Frag} {H : Hp} {a : Addr} {o : HO} (n : H a = none) : TK K H (L2.upd H a o) := TK.upd (by rw [n]; trivial)

mutual
theorem Rep.tk {K : PySem.W.Frag} {H H' : Hp} (k : TK K H H') : ∀ (d : D) (v : V), Rep K H d v → Rep K H' d v
  | .non, _, h => h
  | .bl _, _, h => h
  | .int _, _, h => h
  | .str _, _, h => h
  | .ref _, _, h => h
  | .ty _, _, h => h
  | .tup xs, v, h => by
    obtain ⟨a, vs, e, q, r⟩ := h
    exact ⟨a, vs, e, k _ _ q, Reps.tk k xs vs r⟩
theorem Reps.tk {K : PySem.W.Frag} {H H' : Hp} (k : TK K H H') : ∀ (ds : List D) (vs : List V), Reps K H ds vs → Reps K H' ds vs
  | [], _, h => h
  | d :: ds, vs, h => by
    obtain ⟨v, r, e, h1, h2⟩ := h
    exact ⟨v, r, e, Rep.tk k d v h1, Reps.tk k ds r h2⟩
end
theorem Reps.length {K : PySem.W.Frag} {H : Hp} : ∀ {ds : List D} {vs : List V}, Reps K H ds vs → ds.length = vs.length
  | [], vs, h => by have e : vs = [] := h; rw [e]; rfl
  | d :: ds, vs, h => by
    obtain ⟨v, r, rfl, h1, h2⟩ := h
    simp [Reps.length h2]
theorem Reps.append {K : PySem.W.Frag} {H : Hp} : ∀ {ds es : List D} {vs us : List V}, Reps K H ds vs → Reps K H es us → Reps K H (ds ++ es) (vs ++ us)
  | [], _, _, _, h, h' => by
    have e : _ = [] := h
    rw [e]; exact h'
  | d :: ds, es, vs, us, h, h' => by
    obtain ⟨v, r, rfl, h1, h2⟩ := h
    exact ⟨v, r ++ us, rfl, h1, Reps.append h2 h'⟩
theorem Reps.one {K : PySem.W.Frag} {H : Hp} {d : D} {v : V} (h : Rep K H d v) : Reps K H [d] [v] := ⟨v, [], rfl, h, rfl⟩
theorem Reps.get {K : PySem.W.Frag} {H : Hp} : ∀ {ds : List D} {vs : List V} {i : Nat} {d : D}, Reps K H ds vs → ds[i]? = some d → ∃ v, vs[i]? = some v ∧ Rep K H d v
  | [], _, _, _, _, e => by simp at e
  | x :: xs, vs, 0, d, h, e => by
    obtain ⟨v, r, rfl, h1, h2⟩ := h
    simp at e; subst e
    exact ⟨v, rfl, h1⟩
  | x :: xs, vs, i + 1, d, h, e => by
    obtain ⟨v, r, rfl, h1, h2⟩ := h
    obtain ⟨u, e1, e2⟩ := Reps.get (i := i) h2 (by simpa using e)
    exact ⟨u, by simpa using e1, e2⟩
theorem Reps.getV {K : PySem.W.Frag} {H : Hp} {ds : List D} {vs : List V} {i : Nat} {v : V} (h : Reps K H ds vs) (e : vs[i]? = some v) : ∃ d, ds[i]? = some d ∧ Rep K H d v := by
  have hi : i < ds.length := by rw [h.length]; exact (List.getElem?_eq_some_iff.mp e).1
  obtain ⟨u, e1, e2⟩ := h.get (List.getElem?_eq_getElem hi)
  rw [e] at e1; cases e1
  exact ⟨_, List.getElem?_eq_getElem hi, e2⟩
theorem Reps.take {K : PySem.W.Frag} {H : Hp} : ∀ {ds : List D} {vs : List V} (n : Nat), Reps K H ds vs → Reps K H (ds.take n) (vs.take n)
  | _, _, 0, _ => by simp [Reps]
  | [], _, n + 1, h => by have e : _ = [] := h; rw [e]; simp [Reps]
  | x :: xs, vs, n + 1, h => by
    obtain ⟨v, r, rfl, h1, h2⟩ := h
    exact ⟨v, r.take n, rfl, h1, Reps.take n h2⟩
theorem Reps.drop {K : PySem.W.Frag} {H : Hp} : ∀ {ds : List D} {vs : List V} (n : Nat), Reps K H ds vs → Reps K H (ds.drop n) (vs.drop n)
  | _, _, 0, h => by simpa using h
  | [], _, n + 1, h => by have e : _ = [] := h; rw [e]; simp [Reps]
  | x :: xs, vs, n + 1, h => by
    obtain ⟨v, r, rfl, h1, h2⟩ := h
    simpa using Reps.drop n h2
theorem Reps.set {K : PySem.W.Frag} {H : Hp} {d : D} {v : V} (hd : Rep K H d v) : ∀ {ds : List D} {vs : List V} (i : Nat), Reps K H ds vs → Reps K H (ds.set i d) (vs.set i v)
  | [], _, i, h => by have e : _ = [] := h; rw [e]; cases i <;> simp [Reps]
  | x :: xs, vs, 0, h => by
    obtain ⟨u, r, rfl, h1, h2⟩ := h
    exact ⟨v, r, rfl, hd, h2⟩
  | x :: xs, vs, i + 1, h => by
    obtain ⟨u, r, rfl, h1, h2⟩ := h
    exact ⟨u, r.set i v, rfl, h1, Reps.set hd i h2⟩
theorem Reps.dropLast {K : PySem.W.Frag} {H : Hp} {ds : List D} {vs : List V} (h : Reps K H ds vs) : Reps K H ds.dropLast vs.dropLast := by
  rw [List.dropLast_eq_take, List.dropLast_eq_take, h.length]
  exact h.take _
theorem Reps.reverse {K : PySem.W.Frag} {H : Hp} : ∀ {ds : List D} {vs : List V}, Reps K H ds vs → Reps K H ds.reverse vs.reverse
  | [], _, h => by have e : _ = [] := h; rw [e]; simp [Reps]
  | x :: xs, vs, h => by
    obtain ⟨v, r, rfl, h1, h2⟩ := h
    rw [List.reverse_cons, List.reverse_cons]
    exact Reps.append (Reps.reverse h2) (Reps.one h1)

/-! ### slots, fields -/
def RO (K : PySem.W.Frag) (H : Hp) : Option D → Option V → Prop
  | none, _ => True
  | some d, some v => Rep K H d v
  | some _, none => False
def RSt (K : PySem.W.Frag) (H : Hp) : List (Option D) → St → Prop
  | [], σ => σ = []
  | d :: ds, σ => ∃ v r, σ = v :: r ∧ RO K H d v ∧ RSt K H ds r
theorem RO.tk {K : PySem.W.Frag} {H H' : Hp} (k : TK K H H') {d : Option D} {v : Option V} (h : RO K H d v) : RO K H' d v := by
  cases d with
  | none => trivial
  | some d => cases v with
    | none => exact h
    | some v => exact Rep.tk k d v h
theorem RSt.tk {K : PySem.W.Frag} {H H' : Hp} (k : TK K H H') : ∀ {ds : List (Option D)} {σ : St}, RSt K H ds σ → RSt K H' ds σ
  | [], _, h => h
  | d :: ds, σ, h => by
    obtain ⟨v, r, e, h1, h2⟩ := h
    exact ⟨v, r, e, h1.tk k, RSt.tk k h2⟩
theorem RSt.get {K : PySem.W.Frag} {H : Hp} : ∀ {ds : List (Option D)} {σ : St} {i : Nat} {d : D}, RSt K H ds σ → ds[i]? = some (some d) → ∃ v, σ[i]? = some (some v) ∧ Rep K H d v
  | [], _, _, _, _, e => by simp at e
  | x :: xs, σ, 0, d, h, e => by
    obtain ⟨v, r, rfl, h1, h2⟩ := h
    simp at e; subst e
    cases v with
    | none => exact h1.elim
    | some v => exact ⟨v, rfl, h1⟩
  | x :: xs, σ, i + 1, d, h, e => by
    obtain ⟨v, r, rfl, h1, h2⟩ := h
    obtain ⟨u, e1, e2⟩ := RSt.get (i := i) h2 (by simpa using e)
    exact ⟨u, by simpa using e1, e2⟩
theorem RSt.set {K : PySem.W.Frag} {H : Hp} {d : D} {v : V} (hd : Rep K H d v) : ∀ {ds : List (Option D)} {σ : St} (i : Nat), RSt K H ds σ → RSt K H (ds.set i (some d)) (σ.set i (some v))
  | [], _, i, h => by have e : _ = [] := h; rw [e]; cases i <;> simp [RSt]
  | x :: xs, σ, 0, h => by
    obtain ⟨u, r, rfl, h1, h2⟩ := h
    exact ⟨_, r, rfl, hd, h2⟩
  | x :: xs, σ, i + 1, h => by
    obtain ⟨u, r, rfl, h1, h2⟩ := h
    exact ⟨u, r.set i _, rfl, h1, RSt.set hd i h2⟩
theorem RSt.length {K : PySem.W.Frag} {H : Hp} : ∀ {ds : List (Option D)} {σ : St}, RSt K H ds σ → ds.length = σ.length
  | [], σ, h => by have e : σ = [] := h; rw [e]; rfl
  | d :: ds, σ, h => by
    obtain ⟨v, r, rfl, h1, h2⟩ := h
    simp [RSt.length h2]
/-- slots forgotten -/
def Fg : List (Option D) → List (Option D) → Prop
  | [], σ => σ = []
  | d :: ds, σ => ∃ e r, σ = e :: r ∧ (d = none ∨ d = e) ∧ Fg ds r
theorem Fg.refl : ∀ σ : List (Option D), Fg σ σ
  | [] => rfl
  | d :: ds => ⟨d, ds, rfl, .inr rfl, Fg.refl ds⟩
theorem RSt.fg {K : PySem.W.Frag} {H : Hp} : ∀ {ds es : List (Option D)} {σ : St}, Fg ds es → RSt K H es σ → RSt K H ds σ
  | [], es, σ, f, h => by have e : es = [] := f; subst e; exact h
  | d :: ds, es, σ, f, h => by
    obtain ⟨e, r, rfl, f1, f2⟩ := f
    obtain ⟨v, s, rfl, h1, h2⟩ := h
    refine ⟨v, s, rfl, ?_, RSt.fg f2 h2⟩
    rcases f1 with rfl | rfl
    · trivial
    · exact h1
def RF (K : PySem.W.Frag) (H : Hp) : List (Str × D) → List (Str × V) → Prop
  | [], gs => gs = []
  | p :: ps, gs => ∃ v r, gs = (p.1, v) :: r ∧ Rep K H p.2 v ∧ RF K H ps r
theorem RF.tk {K : PySem.W.Frag} {H H' : Hp} (k : TK K H H') : ∀ {ps : List (Str × D)} {gs : List (Str × V)}, RF K H ps gs → RF K H' ps gs
  | [], _, h => h
  | p :: ps, gs, h => by
    obtain ⟨v, r, e, h1, h2⟩ := h
    exact ⟨v, r, e, Rep.tk k _ _ h1, RF.tk k h2⟩
theorem RF.lookup {K : PySem.W.Frag} {H : Hp} {f : Str} : ∀ {ps : List (Str × D)} {gs : List (Str × V)}, RF K H ps gs → (∀ d, ps.lookup f = some d → ∃ v, gs.lookup f = some v ∧ Rep K H d v) ∧ (ps.lookup f = none → gs.lookup f = none)
  | [], gs, h => by have e : gs = [] := h; subst e; exact ⟨fun d e => by simp [List.lookup] at e, fun _ => rfl⟩
  | p :: ps, gs, h => by
    obtain ⟨v, r, rfl, h1, h2⟩ := h
    obtain ⟨i1, i2⟩ := RF.lookup (f := f) h2
    simp only [List.lookup]
    cases hf : f == p.1 with
    | true => exact ⟨fun d e => ⟨v, rfl, by cases e; exact h1⟩, fun e => nomatch e⟩
    | false => exact ⟨i1, i2⟩
/-- a field stored -/
def putD (f : Str) (d : D) : List (Str × D) → List (Str × D)
  | [] => [(f, d)]
  | p :: ps => if p.1 = f then (p.1, d) :: ps else p :: putD f d ps
theorem RF.put {K : PySem.W.Frag} {H : Hp} {f : Str} {d : D} {v : V} (hd : Rep K H d v) : ∀ {ps : List (Str × D)} {gs : List (Str × V)}, RF K H ps gs → RF K H (putD f d ps) (putF f v gs)
  | [], gs, h => by have e : gs = [] := h; subst e; exact ⟨v, [], rfl, hd, rfl⟩
  | p :: ps, gs, h => by
    obtain ⟨u, r, rfl, h1, h2⟩ := h
    show RF K H (if p.1 = f then _ else _) (if p.1 = f then _ else _)
    by_cases e : p.1 = f
    · rw [if_pos e, if_pos e]
      refine ⟨v, r, ?_, hd, h2⟩
      first | rfl | rw [e]
    · rw [if_neg e, if_neg e]
      exact ⟨u, _, rfl, h1, RF.put hd h2⟩
theorem RF.length {K : PySem.W.Frag} {H : Hp} : ∀ {ps : List (Str × D)} {gs : List (Str × V)}, RF K H ps gs → ps.length = gs.length
  | [], gs, h => by have e : gs = [] := h; rw [e]; rfl
  | d :: ds, σ, h => by
    obtain ⟨v, r, rfl, h1, h2⟩ := h
    simp [RF.length h2]
end PL
namespace PL
open PySem PySem.Spec L2

/-! ### keys -/
mutual
def toKey : D → NestedKey
  | .non => .none
  | .bl b => .num (if b = true then 1 else 0)
  | .int i => .num i
  | .str x => .text x
  | .tup xs => .tup (toKeys xs)
  | .ref _ => .none
  | .ty _ => .none
def toKeys : List D → List NestedKey
  | [] => []
  | d :: ds => toKey d :: toKeys ds
end
mutual
def keyOk : D → Bool
  | .non => true
  | .bl _ => true
  | .int _ => true
  | .str _ => true
  | .tup xs => keysOk xs
  | .ref _ => false
  | .ty _ => false
def keysOk : List D → Bool
  | [] => true
  | d :: ds => keyOk d && keysOk ds
end
def isTup : D → Bool
  | .tup _ => true
  | _ => false
/-- a tuple that may be a key -/
def KeyT (d : D) : Prop := isTup d = true ∧ keyOk d = true ∧ (toKey d).depth ≤ 8
/-- an int or a text -/
def kD : Key → D
  | .inl i => .int i
  | .inr x => .str x
def keq (a b : D) : Bool := decide (toKey a = toKey b)
def dLook (kvs : List (D × D)) (k : D) : Option D := (kvs.find? fun e => keq e.1 k).map (·.2)
def dHas (kvs : List (D × D)) (k : D) : Bool := kvs.any fun e => keq e.1 k
def dPut (kvs : List (D × D)) (k v : D) : List (D × D) := if dHas kvs k = true then kvs.map (fun e => if keq e.1 k = true then (e.1, v) else e) else kvs ++ [(k, v)]
def dDel (kvs : List (D × D)) (k : D) : List (D × D) := kvs.filter fun e => !keq e.1 k

/-! ### what stands -/
/-- a dict whose keys are tuples: its one object -/
def DN (P : Program) (w : World) (a : Addr) (xs : List (NestedKey × Addr × Value)) : HO := .ext fun h =>
  (a == sysModules) = false ∧ xs.length ≤ sizeLine ∧ (xs.map (·.1)).Nodup ∧ ∃ o es ep, h.get? a = some o ∧ o.ExactDict ∧ o.data = .dict es ep ∧ es.toList = xs.map (entryOfKey (nestedKind P w))
def DK (K : PySem.W.Frag) (H : Hp) : List (D × D) → List (Key × V) → Prop
  | [], gs => gs = []
  | e :: es, gs => ∃ k v r, gs = (k, v) :: r ∧ e.1 = kD k ∧ Rep K H e.2 v ∧ DK K H es r
def DX (K : PySem.W.Frag) (H : Hp) : List (D × D) → List (NestedKey × Addr × Value) → Prop
  | [], xs => xs = []
  | e :: es, xs => ∃ b u r, xs = (toKey e.1, b, u) :: r ∧ KeyT e.1 ∧ Rep K H e.1 (.ref b) ∧ (∃ v, RelV v u ∧ Rep K H e.2 v) ∧ DX K H es r
def DRep (G : En) (H : Hp) (a : Addr) (u : HO) (kvs : List (D × D)) : Prop :=
  (∃ gs, u = .dK gs ∧ DK G.K H kvs gs) ∨ (kvs ≠ [] ∧ ∃ xs, u = DN G.P G.w a xs ∧ DX G.K H kvs xs)
def RepO (G : En) (H : Hp) (a : Addr) : O → Prop
  | .lst xs => ∃ vs, H a = some (.lst vs) ∧ Reps G.K H xs vs
  | .lsr xs => ∃ vs, Rd H a (.lst vs) ∧ Reps G.K H xs vs
  | .dct kvs => ∃ u, H a = some u ∧ DRep G H a u kvs
  | .dcl kvs => ∃ o u, H a = some (.frz o u) ∧ DRep G H a u kvs
  | .ins C fs => ∃ dx gs, H a = some (.ins C dx gs) ∧ RF G.K H fs gs
def RepH (G : En) (H : Hp) (P : PH) : Prop := ∀ a o, P a = some o → RepO G H a o
def up (P : PH) (a : Addr) (o : O) : PH := fun b => if b = a then some o else P b
theorem up_same {P : PH} {a : Addr} {o : O} : up P a o a = some o := by unfold up; rw [if_pos rfl]
theorem up_ne {P : PH} {a b : Addr} {o : O} (h : b ≠ a) : up P a o b = P b := by unfold up; rw [if_neg h]
theorem up_up {P : PH} {a : Addr} {o u : O} : up (up P a o) a u = up P a u := by funext b; unfold up; split <;> rfl
theorem up_none {P : PH} {a b : Addr} {o : O} : up P a o b = none ↔ b ≠ a ∧ P b = none := by
  unfold up
  by_cases h : b = a
  · rw [if_pos h]; simp [h]
  · rw [if_neg h]; simp [h]
theorem up_comm {P : PH} {a b : Addr} {o u : O} (h : a ≠ b) : up (up P a o) b u = up (up P b u) a o := by
  funext c; unfold up
  by_cases h1 : c = a
  · by_cases h2 : c = b
    · exact absurd (h1.symm.trans h2) h
    · rw [if_neg h2, if_pos h1, if_pos h1]
  · by_cases h2 : c = b
    · rw [if_pos h2, if_neg h1, if_pos h2]
    · rw [if_neg h2, if_neg h1, if_neg h1, if_neg h2]
theorem up_id {P : PH} {a : Addr} {o : O} (h : P a = some o) : up P a o = P := by
  funext b; unfold up
  by_cases e : b = a
  · rw [if_pos e, e, h]
  · rw [if_neg e]
/-- fewer things known -/
def Le (P P' : PH) : Prop := ∀ a o, P a = some o → P' a = some o
theorem Le.refl (P : PH) : Le P P := fun _ _ h => h
theorem Le.trans {P P1 P2 : PH} (a : Le P P1) (b : Le P1 P2) : Le P P2 := fun c o h => b c o (a c o h)
theorem Le.new {P : PH} {a : Addr} {o : O} (h : P a = none) : Le P (up P a o) := fun b u e => by
  rw [up_ne (fun z => by rw [z, h] at e; cases e)]; exact e
theorem Le.up {P P' : PH} (l : Le P P') (a : Addr) (o : O) : Le (up P a o) (up P' a o) := fun b u e => by
  by_cases h : b = a
  · subst h; rw [up_same] at e ⊢; exact e
  · rw [up_ne h] at e ⊢; exact l b u e
theorem Le.newR {P P' : PH} (l : Le P P') {a : Addr} {o : O} (h : P a = none) : Le P (PL.up P' a o) := fun b u e => by
  rw [up_ne (fun z => by rw [z, h] at e; cases e)]; exact l b u e
theorem Le.none {P P' : PH} (l : Le P P') {a : Addr} (h : P' a = none) : P a = none := by
  cases e : P a with
  | none => rfl
  | some o => rw [l a o e] at h; cases h

theorem DK.tk {K : PySem.W.Frag} {H H' : Hp} (k : TK K H H') : ∀ {kvs : List (D × D)} {gs : List (Key × V)}, DK K H kvs gs → DK K H' kvs gs
  | [], _, h => h
  | e :: es, gs, h => by
    obtain ⟨x, v, r, e1, e2, h1, h2⟩ := h
    exact ⟨x, v, r, e1, e2, Rep.tk k _ _ h1, DK.tk k h2⟩
theorem DX.tk {K : PySem.W.Frag} {H H' : Hp} (k : TK K H H') : ∀ {kvs : List (D × D)} {xs : List (NestedKey × Addr × Value)}, DX K H kvs xs → DX K H' kvs xs
  | [], _, h => h
  | e :: es, gs, h => by
    obtain ⟨b, u, r, e1, e2, e3, ⟨v, e4, e5⟩, h2⟩ := h
    exact ⟨b, u, r, e1, e2, Rep.tk k _ _ e3, ⟨v, e4, Rep.tk k _ _ e5⟩, DX.tk k h2⟩
theorem DRep.tk {G : En} {H H' : Hp} (k : TK G.K H H') {a : Addr} {u : HO} {kvs : List (D × D)} (h : DRep G H a u kvs) : DRep G H' a u kvs := by
  rcases h with ⟨gs, e, h⟩ | ⟨n, xs, e, h⟩
  · exact .inl ⟨gs, e, h.tk k⟩
  · exact .inr ⟨n, xs, e, h.tk k⟩
theorem RepO.step {G : En} {H H' : Hp} (k : TK G.K H H') {a : Addr} (s : H' a = H a) {o : O} (h : RepO G H a o) : RepO G H' a o := by
  cases o with
  | lst xs =>
    obtain ⟨vs, e, r⟩ := h
    exact ⟨vs, s.trans e, Reps.tk k _ _ r⟩
  | lsr xs =>
    obtain ⟨vs, e, r⟩ := h
    refine ⟨vs, ?_, Reps.tk k _ _ r⟩
    rcases e with e | ⟨o, e⟩
    · exact .inl (s.trans e)
    · exact .inr ⟨o, s.trans e⟩
  | dct kvs =>
    obtain ⟨u, e, r⟩ := h
    exact ⟨u, s.trans e, r.tk k⟩
  | dcl kvs =>
    obtain ⟨o, u, e, r⟩ := h
    exact ⟨o, u, s.trans e, r.tk k⟩
  | ins C fs =>
    obtain ⟨dx, gs, e, r⟩ := h
    exact ⟨dx, gs, s.trans e, r.tk k⟩
theorem RepO.there {G : En} {H : Hp} {a : Addr} {o : O} (h : RepO G H a o) : ∃ u, H a = some u := by
  cases o with
  | lst xs => obtain ⟨vs, e, _⟩ := h; exact ⟨_, e⟩
  | lsr xs => obtain ⟨vs, e | ⟨o, e⟩, _⟩ := h <;> exact ⟨_, e⟩
  | dct kvs => obtain ⟨u, e, _⟩ := h; exact ⟨_, e⟩
  | dcl kvs => obtain ⟨o, u, e, _⟩ := h; exact ⟨_, e⟩
  | ins C fs => obtain ⟨dx, gs, e, _⟩ := h; exact ⟨_, e⟩
theorem RepH.free {G : En} {H : Hp} {P : PH} (h : RepH G H P) {a : Addr} (n : H a = none) : P a = none := by
  cases e : P a with
  | none => rfl
  | some o =>
    obtain ⟨u, q⟩ := (h a o e).there
    rw [n] at q; cases q
theorem RepH.le {G : En} {H : Hp} {P P' : PH} (l : Le P P') (h : RepH G H P') : RepH G H P := fun a o e => h a o (l a o e)
theorem RepH.write {G : En} {H : Hp} {P : PH} (h : RepH G H P) {a : Addr} {u : HO} {o : O} (n : NoTup (H a)) (q : RepO G (upd H a u) a o) : RepH G (upd H a u) (up P a o) := fun b x e => by
  by_cases hb : b = a
  · subst hb; rw [up_same] at e; cases e; exact q
  · rw [up_ne hb] at e
    exact (h b x e).step (TK.upd n) (upd_ne hb)
theorem RepH.new {G : En} {H : Hp} {P : PH} (h : RepH G H P) {a : Addr} {u : HO} {o : O} (n : H a = none) (q : RepO G (upd H a u) a o) : RepH G (upd H a u) (up P a o) := h.write (by rw [n]; trivial) q
/-- a new thing that is not told -/
theorem RepH.hid {G : En} {H : Hp} {P : PH} (h : RepH G H P) {a : Addr} {u : HO} (n : H a = none) : RepH G (upd H a u) P := fun b x e => by
  have hb : b ≠ a := fun z => by
    rw [z] at e
    rw [h.free n] at e; cases e
  exact (h b x e).step (TK.new n) (upd_ne hb)

/-! ### the judgements -/
abbrev PK := D → PH → Prop
/-- an own error without fields leaves -/
abbrev PX := Addr → PH → Prop
abbrev PSt := List (Option D)
abbrev QTE := PSt → PH → PK → PX → Prop
abbrev QTT := PSt → PH → (Bool → PH → Prop) → PX → Prop
abbrev QTA := PSt → PH → (List D → PH → Prop) → PX → Prop
structure PEnds where
  nx : PSt → PH → Prop
  rt : PK
  ex : Addr → PSt → PH → Prop := fun _ _ _ => False
  bk : PSt → PH → Prop := fun _ _ => False
  ct : PSt → PH → Prop := fun _ _ => False
abbrev QTS := PEnds → PSt → PH → Prop

structure KE {α β : Type} (G : En) (W : WX) (rel : Hp → α → β → Prop) (H : Hp) (σ : St) (Qp : α → PH → Prop) (Ep : PX) (Q : β → Hp → Prop) : Prop where
  ok : ∀ d P' v H', Qp d P' → rel H' d v → RepH G H' P' → TK G.K H H' → Q v H'
  ex : ∀ C P' H', Ep C P' → RepH G H' P' → TK G.K H H' → W (.ref C) none σ H'
theorem KE.tk {α β : Type} {G : En} {W : WX} {rel : Hp → α → β → Prop} {H H1 : Hp} {σ : St} {Qp : α → PH → Prop} {Ep : PX} {Q : β → Hp → Prop} (k : KE G W rel H σ Qp Ep Q) (t : TK G.K H H1) : KE G W rel H1 σ Qp Ep Q :=
  ⟨fun d P' v H' a b c e => k.ok d P' v H' a b c (t.trans e), fun C P' H' a b c => k.ex C P' H' a b (t.trans c)⟩
def lf {α β : Type} (G : En) (W : WX) (rel : Hp → α → β → Prop) (t : PSt → PH → (α → PH → Prop) → PX → Prop) : St → Hp → (β → Hp → Prop) → Prop :=
  fun σ H Q => ∃ σp P Qp Ep, RSt G.K H σp σ ∧ RepH G H P ∧ t σp P Qp Ep ∧ KE G W rel H σ Qp Ep Q
abbrev lfE (G : En) (W : WX) (t : QTE) : TE := lf G W (Rep G.K) t
abbrev relB : Hp → Bool → Bool → Prop := fun _ a b => a = b
abbrev lfT (G : En) (W : WX) (t : QTT) : TT := lf G W relB t
abbrev lfA (G : En) (W : WX) (t : QTA) : TA := lf G W (Reps G.K) t
structure LEnds (G : En) (W : WX) (H : Hp) (Dp : PEnds) (D : Ends) : Prop where
  nx : ∀ σp P σ H', Dp.nx σp P → RSt G.K H' σp σ → RepH G H' P → TK G.K H H' → D.nx σ H'
  rt : ∀ d P v H', Dp.rt d P → Rep G.K H' d v → RepH G H' P → TK G.K H H' → D.rt v H'
  ex : ∀ C σp P σ H', Dp.ex C σp P → RSt G.K H' σp σ → RepH G H' P → TK G.K H H' → W (.ref C) none σ H'
  bk : ∀ σp P σ H', Dp.bk σp P → RSt G.K H' σp σ → RepH G H' P → TK G.K H H' → D.bk σ H'
  ct : ∀ σp P σ H', Dp.ct σp P → RSt G.K H' σp σ → RepH G H' P → TK G.K H H' → D.ct σ H'
def lfS (G : En) (W : WX) (t : QTS) : TS := fun D σ H => ∃ σp P Dp, RSt G.K H σp σ ∧ RepH G H P ∧ t Dp σp P ∧ LEnds G W H Dp D
theorem LEnds.tk {G : En} {W : WX} {H H1 : Hp} {Dp : PEnds} {D : Ends} (l : LEnds G W H Dp D) (k : TK G.K H H1) : LEnds G W H1 Dp D :=
  ⟨fun a b c d e f g h => l.nx a b c d e f g (k.trans h), fun a b c d e f g h => l.rt a b c d e f g (k.trans h), fun a b c d e f g h i => l.ex a b c d e f g h (k.trans i),
   fun a b c d e f g h => l.bk a b c d e f g (k.trans h), fun a b c d e f g h => l.ct a b c d e f g (k.trans h)⟩

def Cx.en (X : Cx) : En := ⟨X.K, X.prog, X.w⟩
abbrev QE (X : Cx) (W : WX) (e : Expr) (t : QTE) : Prop := PE X e (lfE (Cx.en X) W t)
abbrev QT (X : Cx) (W : WX) (e : Expr) (t : QTT) : Prop := PT X e (lfT (Cx.en X) W t)
abbrev QW (X : Cx) (W : WX) (e : Expr) (t : QTT) : Prop := PW X e (lfT (Cx.en X) W t)
abbrev QA (X : Cx) (W : WX) (es : List Expr) (t : QTA) : Prop := PA X es (lfA (Cx.en X) W t)
abbrev QS (X : Cx) (W : WX) (st : Stmt) (t : QTS) : Prop := PS X st (lfS (Cx.en X) W t)
abbrev QSs (X : Cx) (W : WX) (st : List Stmt) (t : QTS) : Prop := PSs X st (lfS (Cx.en X) W t)

section
variable {X : Cx} {W : WX}
theorem pe_of {e : Expr} {t t' : TE} (h : PE X e t) (i : ∀ σ H Q, t' σ H Q → t σ H Q) : PE X e t' := ⟨fun pins s σ H Q I hw => h.run pins s σ H Q I (i σ H Q hw)⟩
theorem pt_of {e : Expr} {t t' : TT} (h : PT X e t) (i : ∀ σ H Q, t' σ H Q → t σ H Q) : PT X e t' := ⟨fun pins s σ H Q I hw => h.run pins s σ H Q I (i σ H Q hw)⟩
theorem pw_of {e : Expr} {t t' : TT} (h : PW X e t) (i : ∀ σ H Q, t' σ H Q → t σ H Q) : PW X e t' := ⟨fun wh pins s σ H Q I hw => h.run wh pins s σ H Q I (i σ H Q hw)⟩
theorem pa_of {e : List Expr} {t t' : TA} (h : PA X e t) (i : ∀ σ H Q, t' σ H Q → t σ H Q) : PA X e t' := ⟨fun pos pins s σ H Q I hw => h.run pos pins s σ H Q I (i σ H Q hw)⟩
theorem ps_of {e : Stmt} {t t' : TS} (h : PS X e t) (i : ∀ D σ H, t' D σ H → t D σ H) : PS X e t' := ⟨fun pins s σ H D I hw => h.run pins s σ H D I (i D σ H hw)⟩
theorem pss_of {e : List Stmt} {t t' : TS} (h : PSs X e t) (i : ∀ D σ H, t' D σ H → t D σ H) : PSs X e t' := ⟨fun pins s σ H D I hw => h.run pins s σ H D I (i D σ H hw)⟩

/-! ### names, constants -/
def slot (σ : PSt) (i : Nat) (k : D → Prop) : Prop := match σ[i]? with
  | some (some d) => k d
  | _ => False
theorem slot_get {σ : PSt} {i : Nat} {k : D → Prop} (h : slot σ i k) : ∃ d, σ[i]? = some (some d) ∧ k d := by
  unfold slot at h
  split at h
  · rename_i d e; exact ⟨d, e, h⟩
  · exact h.elim
def qVar (i : Nat) : QTE := fun σ P Q _ => slot σ i fun d => Q d P
def qC (d : D) : QTE := fun _ P Q _ => Q d P
theorem qv (i : Nat) {x : Str} {pos : Pos} (hN : X.N[i]? = some x := by rfl) (hv : Vis X.env.scope x := by first | exact Or.inl rfl | exact Or.inr (Or.inl rfl) | exact Or.inr (Or.inr rfl)) (hd : (x == ("__debug__" : Str)) = false := by decide)
    (hcd : (x == ("__classdict__" : Str)) = false := by decide) : QE X W (.Name x pos) (qVar i) := by
  refine pe_of (pe_var hN hv hd hcd) fun σ H Q ⟨σp, P, Qp, Ep, r, p, t, k⟩ => ?_
  obtain ⟨d, e, q⟩ := slot_get t
  obtain ⟨v, e1, e2⟩ := r.get e
  exact ⟨v, e1, k.ok d P v H q e2 p (TK.refl _ _)⟩
theorem qe_c {e : Expr} {d : D} {v : V} (h : PE X e (tC v)) (r : ∀ H, Rep X.K H d v) : QE X W e (qC d) :=
  pe_of h fun σ H Q ⟨σp, P, Qp, Ep, _, p, t, k⟩ => k.ok d P v H t (r H) p (TK.refl _ _)
theorem qe_int {i j pos} : QE X W (.Constant (.int i) j pos) (qC (.int i)) := qe_c pe_int fun _ => rfl
theorem qe_bl {b j pos} : QE X W (.Constant (.bool b) j pos) (qC (.bl b)) := qe_c pe_bl fun _ => rfl
theorem qe_non {j pos} : QE X W (.Constant .none j pos) (qC .non) := qe_c pe_non fun _ => rfl
theorem qe_str {x j pos} : QE X W (.Constant (.str x) j pos) (qC (.str x)) := qe_c pe_str fun _ => rfl
/-- a module's constant -/
def MgI (mg : Str → Option Value) (x : Str) (i : Int) : Prop := ∃ t, mg x = some (.int i t)
def MgS (mg : Str → Option Value) (x : Str) (i : Str) : Prop := ∃ t, mg x = some (.str i t)
theorem qe_globI {x : Str} {i : Int} {pos : Pos} (hm : MgI X.mg x i) (hg : Gl X x := by rfl) (hd : (x == ("__debug__" : Str)) = false := by decide) : QE X W (.Name x pos) (qC (.int i)) :=
  let ⟨t, e⟩ := hm; qe_c (pe_glob (v := .int i) hg e ⟨t, rfl⟩ hd) fun _ => rfl
theorem qe_globS {x : Str} {i : Str} {pos : Pos} (hm : MgS X.mg x i) (hg : Gl X x := by rfl) (hd : (x == ("__debug__" : Str)) = false := by decide) : QE X W (.Name x pos) (qC (.str i)) :=
  let ⟨t, e⟩ := hm; qe_c (pe_glob (v := .str i) hg e ⟨t, rfl⟩ hd) fun _ => rfl

/-! ### operators by values (nothing is raised) -/
abbrev QR := D → D → PH → PK → Prop
structure KV0 (G : En) (H : Hp) (Qp : PK) (Q : VK) : Prop where
  ok : ∀ d P' v H', Qp d P' → Rep G.K H' d v → RepH G H' P' → TK G.K H H' → Q v H'
theorem KE.kv {G : En} {W : WX} {H H1 : Hp} {σ : St} {Qp : PK} {Ep : PX} {Q : VK} (k : KE G W (Rep G.K) H σ Qp Ep Q) (t : TK G.K H H1) : KV0 G H1 Qp Q := ⟨fun d P' v H' a b c e => k.ok d P' v H' a b c (t.trans e)⟩
def lfR (G : En) (r : QR) : R2 := fun x y H Q => ∃ dx dy P Qp, Rep G.K H dx x ∧ Rep G.K H dy y ∧ RepH G H P ∧ r dx dy P Qp ∧ KV0 G H Qp Q
def qOp (r : QR) (ta tb : QTE) : QTE := fun σ P Q E => ta σ P (fun x P1 => tb σ P1 (fun y P2 => r x y P2 Q) E) E
theorem lf_bin {G : En} {r : QR} {ta tb : QTE} {σ : St} {H : Hp} {Q : VK} (h : lfE G W (qOp r ta tb) σ H Q) : tOp (lfR G r) (lfE G W ta) (lfE G W tb) σ H Q := by
  obtain ⟨σp, P, Qp, Ep, rs, p, t, k⟩ := h
  refine ⟨σp, P, _, Ep, rs, p, t, ⟨fun x P1 v H1 t1 rx p1 k1 => ?_, k.ex⟩⟩
  refine ⟨σp, P1, _, Ep, rs.tk k1, p1, t1, ⟨fun y P2 u H2 t2 ry p2 k2 => ?_, (k.tk k1).ex⟩⟩
  exact ⟨x, y, P2, Qp, Rep.tk k2 _ _ rx, ry, p2, t2, k.kv (k1.trans k2)⟩
variable {a b c : Expr} {ta tb tc : QTE} {pos : Pos}
theorem qe_op {op : Operator} {r : QR} (ho : OpR X (binaryOp op) (lfR (Cx.en X) r)) (ha : QE X W a ta) (hb : QE X W b tb) : QE X W (.BinOp a op b pos) (qOp r ta tb) := pe_of (pe_op ho ha hb) fun _ _ _ => lf_bin
theorem qe_cmp {op : CmpOp} {r : QR} (ho : OpR X (compareOp op) (lfR (Cx.en X) r)) (ha : QE X W a ta) (hb : QE X W b tb) (hm : behindInMarks op b = false) : QE X W (.Compare a [op] [b] pos) (qOp r ta tb) := pe_of (pe_cmpR ho ha hb hm) fun _ _ _ => lf_bin
abbrev QU := D → PH → PK → Prop
def lfU (G : En) (r : QU) : V → Hp → VK → Prop := fun x H Q => ∃ dx P Qp, Rep G.K H dx x ∧ RepH G H P ∧ r dx P Qp ∧ KV0 G H Qp Q
def qUn (r : QU) (ta : QTE) : QTE := fun σ P Q E => ta σ P (fun x P1 => r x P1 Q) E
theorem qe_un {op : UnaryOp} {r : QU} (ho : UnR X (unaryOp op) (lfU (Cx.en X) r)) (ha : QE X W a ta) : QE X W (.UnaryOp op a pos) (qUn r ta) :=
  pe_of (pe_un ho ha) fun σ H Q ⟨σp, P, Qp, Ep, rs, p, t, k⟩ => ⟨σp, P, _, Ep, rs, p, t, ⟨fun x P1 v H1 t1 rx p1 k1 => ⟨x, P1, Qp, rx, p1, t1, k.kv k1⟩, k.ex⟩⟩
/-- a value as a test -/
def qTest (t : QTE) : QTT := fun σ P Q E => t σ P (fun x P' => match x with
  | .bl k => Q k P'
  | _ => False) E
theorem lf_test {G : En} {t : QTE} {σ : St} {H : Hp} {Q : Bool → Hp → Prop} (h : lfT G W (qTest t) σ H Q) : lfE G W t σ H fun x H' => ∃ k, x = .bl k ∧ Q k H' := by
  obtain ⟨σp, P, Qp, Ep, rs, p, t, k⟩ := h
  refine ⟨σp, P, _, Ep, rs, p, t, ⟨fun d P' v H' q r p' k' => ?_, k.ex⟩⟩
  cases d with
  | bl c =>
    obtain rfl : v = .bl c := r
    exact ⟨c, rfl, k.ok c P' c H' q rfl p' k'⟩
  | _ => exact q.elim
theorem qt_cmp {op : CmpOp} {r : QR} (ho : OpR X (compareOp op) (lfR (Cx.en X) r)) (ha : QE X W a ta) (hb : QE X W b tb) (hm : behindInMarks op b = false) : QT X W (.Compare a [op] [b] pos) (qTest (qOp r ta tb)) :=
  pt_of (pt_cmpR ho ha hb hm) fun _ _ _ h => lf_bin (lf_test h)
theorem qt_val {e : Expr} {t : QTE} (h : QE X W e t) (he : ∀ whole, isTrue e X.env whole = (do let v ← whole; standAt e.pos; holding [v] (truthy v)) := by intro _; rfl) : QT X W e (qTest t) :=
  pt_of (pt_val h he) fun _ _ _ => lf_test
/-! ### and, or, not -/
variable {tA tB : QTT} {rest : List Expr}
def qAnd (t u : QTT) : QTT := fun σ P Q E => t σ P (fun c P1 => if c = true then u σ P1 Q E else Q false P1) E
def qOr (t u : QTT) : QTT := fun σ P Q E => t σ P (fun c P1 => if c = true then Q true P1 else u σ P1 Q E) E
def qNot (t : QTT) : QTT := fun σ P Q E => t σ P (fun c P1 => Q (!c) P1) E
theorem lf_and {G : En} {t u : QTT} {σ : St} {H : Hp} {Q : Bool → Hp → Prop} (h : lfT G W (qAnd t u) σ H Q) : tAnd (lfT G W t) (lfT G W u) σ H Q := by
  obtain ⟨σp, P, Qp, Ep, rs, p, t, k⟩ := h
  refine ⟨σp, P, _, Ep, rs, p, t, ⟨fun c P1 d H1 q e p1 k1 => ?_, k.ex⟩⟩
  obtain rfl : c = d := e
  cases c with
  | true => exact ⟨σp, P1, Qp, Ep, rs.tk k1, p1, q, k.tk k1⟩
  | false => exact k.ok _ _ _ _ q rfl p1 k1
theorem lf_or {G : En} {t u : QTT} {σ : St} {H : Hp} {Q : Bool → Hp → Prop} (h : lfT G W (qOr t u) σ H Q) : tOr (lfT G W t) (lfT G W u) σ H Q := by
  obtain ⟨σp, P, Qp, Ep, rs, p, t, k⟩ := h
  refine ⟨σp, P, _, Ep, rs, p, t, ⟨fun c P1 d H1 q e p1 k1 => ?_, k.ex⟩⟩
  obtain rfl : c = d := e
  cases c with
  | false => exact ⟨σp, P1, Qp, Ep, rs.tk k1, p1, q, k.tk k1⟩
  | true => exact k.ok _ _ _ _ q rfl p1 k1
theorem lf_not {G : En} {t : QTT} {σ : St} {H : Hp} {Q : Bool → Hp → Prop} (h : lfT G W (qNot t) σ H Q) : tNot (lfT G W t) σ H Q := by
  obtain ⟨σp, P, Qp, Ep, rs, p, t, k⟩ := h
  exact ⟨σp, P, _, Ep, rs, p, t, ⟨fun c P1 d H1 q e p1 k1 => by
    obtain rfl : c = d := e
    exact k.ok _ _ _ _ q rfl p1 k1, k.ex⟩⟩
theorem qw_and1 (ha : QT X W a tA) : QW X W (.BoolOp .And [a] pos) tA := pw_and1 ha
theorem qw_or1 (ha : QT X W a tA) : QW X W (.BoolOp .Or [a] pos) tA := pw_or1 ha
theorem qw_and (ha : QT X W a tA) (hb : QW X W (.BoolOp .And (b :: rest) pos) tB) : QW X W (.BoolOp .And (a :: b :: rest) pos) (qAnd tA tB) := pw_of (pw_and ha hb) fun _ _ _ => lf_and
theorem qw_or (ha : QT X W a tA) (hb : QW X W (.BoolOp .Or (b :: rest) pos) tB) : QW X W (.BoolOp .Or (a :: b :: rest) pos) (qOr tA tB) := pw_of (pw_or ha hb) fun _ _ _ => lf_or
theorem qt_w {e : Expr} {t : QTT} (h : QW X W e t) : QT X W e t := h.pt
theorem qt_not (ha : QT X W a tA) : QT X W (.UnaryOp .Not a pos) (qNot tA) := pt_of (pt_not ha) fun _ _ _ => lf_not
/-- .. as values -/
def qAndV (ta tb : QTE) : QTE := fun σ P Q E => ta σ P (fun x P1 => match x with
  | .bl c => if c = true then tb σ P1 Q E else Q (.bl false) P1
  | _ => False) E
def qOrV (ta tb : QTE) : QTE := fun σ P Q E => ta σ P (fun x P1 => match x with
  | .bl c => if c = true then Q (.bl true) P1 else tb σ P1 Q E
  | _ => False) E
def qNotV (ta : QTE) : QTE := fun σ P Q E => ta σ P (fun x P1 => match x with
  | .bl c => Q (.bl (!c)) P1
  | _ => False) E
theorem qe_one {op} {t : QTE} (h : QE X W a t) : QE X W (.BoolOp op [a] pos) t := pe_one h
theorem qe_and (ha : QE X W a ta) (hb : QE X W (.BoolOp .And (b :: rest) pos) tb) : QE X W (.BoolOp .And (a :: b :: rest) pos) (qAndV ta tb) :=
  pe_of (pe_and ha hb) fun σ H Q ⟨σp, P, Qp, Ep, rs, p, t, k⟩ => by
    refine ⟨σp, P, _, Ep, rs, p, t, ⟨fun d P1 v H1 q r p1 k1 => ?_, k.ex⟩⟩
    cases d with
    | bl c =>
      obtain rfl : v = .bl c := r
      refine ⟨c, rfl, ?_⟩
      cases c with
      | true => exact ⟨σp, P1, Qp, Ep, rs.tk k1, p1, q, k.tk k1⟩
      | false => exact k.ok _ _ _ _ q rfl p1 k1
    | _ => exact q.elim
theorem qe_or (ha : QE X W a ta) (hb : QE X W (.BoolOp .Or (b :: rest) pos) tb) : QE X W (.BoolOp .Or (a :: b :: rest) pos) (qOrV ta tb) :=
  pe_of (pe_or ha hb) fun σ H Q ⟨σp, P, Qp, Ep, rs, p, t, k⟩ => by
    refine ⟨σp, P, _, Ep, rs, p, t, ⟨fun d P1 v H1 q r p1 k1 => ?_, k.ex⟩⟩
    cases d with
    | bl c =>
      obtain rfl : v = .bl c := r
      refine ⟨c, rfl, ?_⟩
      cases c with
      | false => exact ⟨σp, P1, Qp, Ep, rs.tk k1, p1, q, k.tk k1⟩
      | true => exact k.ok _ _ _ _ q rfl p1 k1
    | _ => exact q.elim
theorem qe_not (ha : QE X W a ta) : QE X W (.UnaryOp .Not a pos) (qNotV ta) :=
  pe_of (pe_not ha) fun σ H Q ⟨σp, P, Qp, Ep, rs, p, t, k⟩ => by
    refine ⟨σp, P, _, Ep, rs, p, t, ⟨fun d P1 v H1 q r p1 k1 => ?_, k.ex⟩⟩
    cases d with
    | bl c =>
      obtain rfl : v = .bl c := r
      exact ⟨c, rfl, k.ok _ _ _ _ q rfl p1 k1⟩
    | _ => exact q.elim
def qIf (t : QTT) (ta tb : QTE) : QTE := fun σ P Q E => t σ P (fun c P1 => if c = true then ta σ P1 Q E else tb σ P1 Q E) E
theorem qe_ifExp {c : Expr} (hc : QT X W c tA) (ha : QE X W a ta) (hb : QE X W b tb) : QE X W (.IfExp c a b pos) (qIf tA ta tb) :=
  pe_of (pe_ifExp hc ha hb) fun σ H Q ⟨σp, P, Qp, Ep, rs, p, t, k⟩ => by
    refine ⟨σp, P, _, Ep, rs, p, t, ⟨fun c P1 d H1 q e p1 k1 => ?_, k.ex⟩⟩
    obtain rfl : c = d := e
    cases c with
    | true => exact ⟨σp, P1, Qp, Ep, rs.tk k1, p1, q, k.tk k1⟩
    | false => exact ⟨σp, P1, Qp, Ep, rs.tk k1, p1, q, k.tk k1⟩

/-! ### arguments, displays -/
variable {e : Expr} {te : QTE} {es : List Expr} {t : QTA}
def qNil : QTA := fun _ P Q _ => Q [] P
def qCons (ta : QTE) (tr : QTA) : QTA := fun σ P Q E => ta σ P (fun x P1 => tr σ P1 (fun xs P2 => Q (x :: xs) P2) E) E
theorem qa_nil : QA X W [] qNil := pa_of pa_nil fun σ H Q ⟨σp, P, Qp, Ep, rs, p, t, k⟩ => k.ok [] P [] H t rfl p (TK.refl _ _)
theorem lf_cons {G : En} {ta : QTE} {tr : QTA} {σ : St} {H : Hp} {Q : List V → Hp → Prop} (h : lfA G W (qCons ta tr) σ H Q) : tCons (lfE G W ta) (lfA G W tr) σ H Q := by
  obtain ⟨σp, P, Qp, Ep, rs, p, t, k⟩ := h
  refine ⟨σp, P, _, Ep, rs, p, t, ⟨fun x P1 v H1 t1 rx p1 k1 => ?_, k.ex⟩⟩
  refine ⟨σp, P1, _, Ep, rs.tk k1, p1, t1, ⟨fun xs P2 vs H2 t2 ry p2 k2 => ?_, (k.tk k1).ex⟩⟩
  exact k.ok _ _ _ _ t2 ⟨v, vs, rfl, Rep.tk k2 _ _ rx, ry⟩ p2 (k1.trans k2)
theorem qa_cons (ha : QE X W e te) (hr : QA X W es t) (hs : starEach (e :: es) X.env = (false, eval e X.env) :: starEach es X.env := by rfl) : QA X W (e :: es) (qCons te t) := pa_of (pa_cons ha hr hs) fun _ _ _ => lf_cons
def qTup (t : QTA) : QTE := fun σ P Q E => t σ P (fun xs P1 => xs.length ≤ sizeLine ∧ Q (.tup xs) P1) E
def qLst (t : QTA) : QTE := fun σ P Q E => t σ P (fun xs P1 => xs.length ≤ sizeLine ∧ ∀ p, P1 p = none → Q (.ref p) (up P1 p (.lst xs))) E
theorem SqT.new {K : PySem.W.Frag} {H : Hp} {p : Addr} {vs : List V} : SqT K (upd H p (.tup vs)) p vs := SqT.of upd_same
theorem qe_tup {x1} (h : QA X W es t) : QE X W (.Tuple es x1 pos) (qTup t) :=
  pe_of (pe_tup h) fun σ H Q ⟨σp, P, Qp, Ep, rs, p, t, k⟩ => by
    refine ⟨σp, P, _, Ep, rs, p, t, ⟨fun xs P1 vs H1 q r p1 k1 => ⟨by rw [← Reps.length r]; exact q.1, fun a ha => ?_⟩, k.ex⟩⟩
    exact k.ok _ _ _ _ q.2 ⟨a, vs, rfl, SqT.new, Reps.tk (TK.new ha) _ _ r⟩ (p1.hid ha) (k1.trans (TK.new ha))
theorem qe_lst (h : QA X W es t) : QE X W (.List es pos) (qLst t) :=
  pe_of (pe_lst h) fun σ H Q ⟨σp, P, Qp, Ep, rs, p, t, k⟩ => by
    refine ⟨σp, P, _, Ep, rs, p, t, ⟨fun xs P1 vs H1 q r p1 k1 => ⟨by rw [← Reps.length r]; exact q.1, fun a ha => ?_⟩, k.ex⟩⟩
    exact k.ok _ _ _ _ (q.2 a (p1.free ha)) rfl (p1.new ha ⟨vs, upd_same, Reps.tk (TK.new ha) _ _ r⟩) (k1.trans (TK.new ha))
end
end PL
namespace PL
open PySem PySem.Spec L2

/-! ### blocks -/
section
variable {X : Cx} {W : WX} {st : Stmt} {rest : List Stmt} {t u : QTS} {e : Expr} {te : QTE} {pos : Pos}
def qNext : QTS := fun D σ P => D.nx σ P
def qSeq (t u : QTS) : QTS := fun D σ P => t { D with nx := u D } σ P
theorem qss_nil : QSs X W [] qNext := pss_of pss_nil fun D σ H ⟨σp, P, Dp, rs, p, t, l⟩ => l.nx _ _ _ _ t rs p (TK.refl _ _)
theorem qss_cons (h1 : QS X W st t) (h2 : QSs X W rest u) : QSs X W (st :: rest) (qSeq t u) := pss_of (pss_cons h1 h2) fun D σ H ⟨σp, P, Dp, rs, p, t, l⟩ => by
  refine ⟨σp, P, { Dp with nx := _ }, rs, p, t, ⟨fun σ1 P1 σ' H' q r p' k => ⟨σ1, P1, Dp, r, p', q, l.tk k⟩, l.rt, l.ex, l.bk, l.ct⟩⟩
theorem qss_one (h1 : QS X W st t) : QSs X W [st] t := pss_one h1
def qBreak : QTS := fun D σ P => D.bk σ P
def qCont : QTS := fun D σ P => D.ct σ P
theorem qs_pass : QS X W (.Pass pos) qNext := ps_of ps_pass fun D σ H ⟨σp, P, Dp, rs, p, t, l⟩ => l.nx _ _ _ _ t rs p (TK.refl _ _)
theorem qs_break : QS X W (.Break pos) qBreak := ps_of ps_break fun D σ H ⟨σp, P, Dp, rs, p, t, l⟩ => l.bk _ _ _ _ t rs p (TK.refl _ _)
theorem qs_continue : QS X W (.Continue pos) qCont := ps_of ps_continue fun D σ H ⟨σp, P, Dp, rs, p, t, l⟩ => l.ct _ _ _ _ t rs p (TK.refl _ _)
def qDrop (te : QTE) : QTS := fun D σ P => te σ P (fun _ P1 => D.nx σ P1) fun C P1 => D.ex C σ P1
/-- what an expression wants behind it -/
theorem LEnds.ke {α β : Type} {G : En} {rel : Hp → α → β → Prop} {H : Hp} {Dp : PEnds} {D : Ends} {σ : St} {σp : PSt} {Qp : α → PH → Prop} {Q : β → Hp → Prop} (l : LEnds G W H Dp D) (rs : RSt G.K H σp σ)
    (ok : ∀ d P' v H', Qp d P' → rel H' d v → RepH G H' P' → TK G.K H H' → RSt G.K H' σp σ → LEnds G W H' Dp D → Q v H') : KE G W rel H σ Qp (fun C P1 => Dp.ex C σp P1) Q :=
  ⟨fun d P' v H' a b c k => ok d P' v H' a b c k (rs.tk k) (l.tk k), fun C P' H' a b k => l.ex C σp P' σ H' a (rs.tk k) b k⟩
theorem qs_expr (he : QE X W e te) (hs : swapsWith e none pos.line X.env = pure false := by rfl) : QS X W (.Expr e pos) (qDrop te) := ps_of (ps_expr he hs) fun D σ H ⟨σp, P, Dp, rs, p, t, l⟩ =>
  ⟨σp, P, _, _, rs, p, t, l.ke rs fun d P1 v H1 a _ c k r l1 => l1.nx _ _ _ _ a r c (TK.refl _ _)⟩
def qRet (te : QTE) : QTS := fun D σ P => te σ P D.rt fun C P1 => D.ex C σ P1
theorem qs_ret (he : QE X W e te) : QS X W (.Return (some e) pos) (qRet te) := ps_of (ps_ret he) fun D σ H ⟨σp, P, Dp, rs, p, t, l⟩ =>
  ⟨σp, P, _, _, rs, p, t, l.ke rs fun d P1 v H1 a b c k r l1 => l1.rt _ _ _ _ a b c (TK.refl _ _)⟩
def qRetN : QTS := fun D _ P => D.rt .non P
theorem qs_retN : QS X W (.Return none pos) qRetN := ps_of ps_retN fun D σ H ⟨σp, P, Dp, rs, p, t, l⟩ => l.rt .non P .non H t rfl p (TK.refl _ _)
def qIfS (c : QTT) (t u : QTS) : QTS := fun D σ P => c σ P (fun b P1 => if b = true then t D σ P1 else u D σ P1) fun C P1 => D.ex C σ P1
theorem qs_if {c : Expr} {a b : List Stmt} {tc : QTT} (hc : QT X W c tc) (ha : QSs X W a t) (hb : QSs X W b u) : QS X W (.If c a b pos) (qIfS tc t u) := ps_of (ps_if hc ha hb) fun D σ H ⟨σp, P, Dp, rs, p, t, l⟩ =>
  ⟨σp, P, _, _, rs, p, t, l.ke rs fun d P1 v H1 q e c k r l1 => by
    obtain rfl : d = v := e
    cases d with
    | true => exact ⟨σp, P1, Dp, r, c, q, l1⟩
    | false => exact ⟨σp, P1, Dp, r, c, q, l1⟩⟩
theorem qs_doc {x j pos pos'} : QS X W (.Expr (.Constant (.str x) j pos) pos') qNext := ps_of ps_doc fun D σ H ⟨σp, P, Dp, rs, p, t, l⟩ => l.nx _ _ _ _ t rs p (TK.refl _ _)

/-! ### targets -/
abbrev QTG := D → PSt → PH → (PSt → PH → Prop) → Prop
abbrev QTGs := List D → PSt → PH → (PSt → PH → Prop) → Prop
structure KG (G : En) (H : Hp) (Qp : PSt → PH → Prop) (Q : St → Hp → Prop) : Prop where
  ok : ∀ σp P σ H', Qp σp P → RSt G.K H' σp σ → RepH G H' P → TK G.K H H' → Q σ H'
theorem KG.tk {G : En} {H H1 : Hp} {Qp : PSt → PH → Prop} {Q : St → Hp → Prop} (k : KG G H Qp Q) (t : TK G.K H H1) : KG G H1 Qp Q := ⟨fun a b c d e f g h => k.ok a b c d e f g (t.trans h)⟩
def lfG (G : En) (g : QTG) : TG := fun v σ H Q => ∃ d σp P Qp, Rep G.K H d v ∧ RSt G.K H σp σ ∧ RepH G H P ∧ g d σp P Qp ∧ KG G H Qp Q
def lfGs (G : En) (g : QTGs) : TGs := fun vs σ H Q => ∃ ds σp P Qp, Reps G.K H ds vs ∧ RSt G.K H σp σ ∧ RepH G H P ∧ g ds σp P Qp ∧ KG G H Qp Q
abbrev QG (X : Cx) (tg : Expr) (g : QTG) : Prop := PG X tg (lfG (Cx.en X) g)
abbrev QGs (X : Cx) (ts : List Expr) (g : QTGs) : Prop := PGs X ts (lfGs (Cx.en X) g)
theorem pg_of {tg : Expr} {t t' : TG} (h : PG X tg t) (i : ∀ v σ H Q, t' v σ H Q → t v σ H Q) : PG X tg t' := ⟨fun pins s σ H v u Q I r hw => h.run pins s σ H v u Q I r (i v σ H Q hw)⟩
theorem pgs_of {tg : List Expr} {t t' : TGs} (h : PGs X tg t) (i : ∀ v σ H Q, t' v σ H Q → t v σ H Q) : PGs X tg t' := ⟨fun pins s σ H v u Q I r hw => h.run pins s σ H v u Q I r (i v σ H Q hw)⟩
def qgName (i : Nat) : QTG := fun d σ P Q => Q (σ.set i (some d)) P
theorem qg_name {i : Nat} {x : Str} (hN : X.N.Nodup) (hi : X.N[i]? = some x := by rfl) (hx : Loc X.env.scope x := by first | exact Or.inl rfl | exact Or.inr rfl) (hf : X.fn x = true ∨ X.env.scope.names.lookup x = some .local := by first | exact .inl rfl | exact .inr rfl | assumption) : QG X (.Name x pos) (qgName i) :=
  pg_of (pg_name hN hi hx hf) fun v σ H Q ⟨d, σp, P, Qp, r, rs, p, t, k⟩ => k.ok _ _ _ _ t (RSt.set r i rs) p (TK.refl _ _)
def qgNil : QTGs := fun vs σ P Q => vs = [] ∧ Q σ P
def qgCons (t : QTG) (u : QTGs) : QTGs := fun vs σ P Q => match vs with
  | v :: r => t v σ P fun σ' P' => u r σ' P' Q
  | [] => False
theorem qgs_nil : QGs X [] qgNil := pgs_of pgs_nil fun v σ H Q ⟨d, σp, P, Qp, r, rs, p, t, k⟩ => by
  obtain ⟨e, t⟩ := t
  subst e
  exact ⟨r, k.ok _ _ _ _ t rs p (TK.refl _ _)⟩
theorem qgs_cons {e : Expr} {es : List Expr} {t : QTG} {u : QTGs} (h1 : QG X e t) (h2 : QGs X es u) (hs : (assignEach (e :: es) X.env).map (·.2) = assign e X.env :: (assignEach es X.env).map (·.2) := by rfl) : QGs X (e :: es) (qgCons t u) :=
  pgs_of (pgs_cons h1 h2 hs) fun v σ H Q ⟨ds, σp, P, Qp, r, rs, p, t, k⟩ => by
    cases ds with
    | nil => exact t.elim
    | cons d ds =>
      obtain ⟨x, xs, rfl, r1, r2⟩ := r
      exact ⟨x, xs, rfl, d, σp, P, _, r1, rs, p, t, ⟨fun σ1 P1 σ' H' q rs' p' k' => ⟨ds, σ1, P1, Qp, Reps.tk k' _ _ r2, rs', p', q, k.tk k'⟩⟩⟩
/-- (a, b, ..) = a tuple -/
def qgTup (n : Nat) (t : QTGs) : QTG := fun v σ P Q => match v with
  | .tup xs => xs.length = n ∧ t xs σ P Q
  | _ => False
theorem qg_tup {es : List Expr} {k : Nat} {t : QTGs} {n : Nat} (hc : X.calm = true) (h : QGs X es t) (hn : (assignEach es X.env).length = n := by rfl) (hst : (assignEach es X.env).findIdx? (·.1) = none := by rfl) : QG X (.Tuple es k pos) (qgTup n t) :=
  pg_of (pg_tup hc h hn hst) fun v σ H Q ⟨d, σp, P, Qp, r, rs, p, t, k⟩ => by
    cases d with
    | tup xs =>
      obtain ⟨a, vs, rfl, q, r⟩ := r
      exact ⟨a, vs, rfl, q, by rw [← Reps.length r]; exact t.1, xs, σp, P, Qp, r, rs, p, t.2, k⟩
    | _ => exact t.elim
/-- o[i] = v by values -/
abbrev QSet := D → D → D → PH → (PH → Prop) → Prop
structure KH (G : En) (H : Hp) (Qp : PH → Prop) (Q : Hp → Prop) : Prop where
  ok : ∀ P H', Qp P → RepH G H' P → TK G.K H H' → Q H'
def lfSet (G : En) (t : QSet) : TSet := fun o i v H Q => ∃ od id vd P Qp, Rep G.K H od o ∧ Rep G.K H id i ∧ Rep G.K H vd v ∧ RepH G H P ∧ t od id vd P Qp ∧ KH G H Qp Q
def qgSub (to ti : QTE) (s : QSet) : QTG := fun v σ P Q => to σ P (fun o P1 => ti σ P1 (fun i P2 => s o i v P2 fun P3 => Q σ P3) fun _ _ => False) fun _ _ => False
/-- a target's parts raise nothing -/
theorem qg_sub {o i : Expr} {to ti : QTE} {s : QSet} (ho : QE X W o to) (hi : QE X W i ti) (hs : PSet X (lfSet (Cx.en X) s))
    (ha : ∀ v, assign (.Subscript o i pos) X.env v = (do
      let ov ← holding [v] (eval o X.env)
      let iv ← holding [v, ov] (eval i X.env)
      standAt pos
      holding [v, ov, iv] (setItem ov iv v)
      release [v, ov, iv] []) := by intro _; rfl) : QG X (.Subscript o i pos) (qgSub to ti s) :=
  pg_of (pg_sub ho hi hs ha) fun v σ H Q ⟨d, σp, P, Qp, r, rs, p, t, k⟩ => by
    refine ⟨σp, P, _, _, rs, p, t, ⟨fun od P1 o1 H1 q r1 p1 k1 => ?_, fun _ _ _ f _ _ => f.elim⟩⟩
    refine ⟨σp, P1, _, _, rs.tk k1, p1, q, ⟨fun id P2 i2 H2 q2 r2 p2 k2 => ?_, fun _ _ _ f _ _ => f.elim⟩⟩
    exact ⟨od, id, d, P2, _, Rep.tk k2 _ _ r1, r2, Rep.tk (k1.trans k2) _ _ r, p2, q2, ⟨fun P3 H3 q3 p3 k3 => k.ok _ _ _ _ q3 (rs.tk (k1.trans (k2.trans k3))) p3 (k1.trans (k2.trans k3))⟩⟩
def qAsg (te : QTE) (g : QTG) : QTS := fun D σ P => te σ P (fun x P1 => g x σ P1 D.nx) fun C P1 => D.ex C σ P1
theorem qs_asg {tg e : Expr} {te : QTE} {g : QTG} (he : QE X W e te) (hg : QG X tg g) (hs : swapsWithSole [tg] e pos.line X.env = pure false := by rfl) (hw : swappedStores [tg] e X.env = pure none := by rfl)
    (h1 : (assignEach [tg] X.env).map (·.2) = [assign tg X.env] := by rfl) : QS X W (.Assign [tg] e pos) (qAsg te g) := ps_of (ps_asg he hg hs hw h1) fun D σ H ⟨σp, P, Dp, rs, p, t, l⟩ =>
  ⟨σp, P, _, _, rs, p, t, l.ke rs fun d P1 v H1 a b c k r l1 => ⟨d, σp, P1, _, b, r, c, a, ⟨fun σ2 P2 σ' H' q rs' p' k' => l1.nx _ _ _ _ q rs' p' k'⟩⟩⟩
theorem qs_set {i : Nat} {x : Str} {e : Expr} {te : QTE} {pos' : Pos} (hN : X.N.Nodup) (he : QE X W e te) (hi : X.N[i]? = some x := by rfl) (hx : Loc X.env.scope x := by first | exact Or.inl rfl | exact Or.inr rfl) (hs : swapsWith e (some (.Name x pos')) pos.line X.env = pure false := by rfl) (hf : X.fn x = true ∨ X.env.scope.names.lookup x = some .local := by first | exact .inl rfl | exact .inr rfl | assumption) :
    QS X W (.Assign [.Name x pos'] e pos) (qAsg te (qgName i)) := ps_of (ps_set hN hi hx he hs hf) fun D σ H ⟨σp, P, Dp, rs, p, t, l⟩ =>
  ⟨σp, P, _, _, rs, p, t, l.ke rs fun d P1 v H1 a b c k r l1 => l1.nx _ _ _ _ a (RSt.set b i r) c (TK.refl _ _)⟩
/-- a, b = x, y -/
def qPar (i j : Nat) (ta : QTA) : QTS := fun D σ P => ta σ P (fun vs P1 => match vs with
  | [v, w] => D.nx ((σ.set i (some v)).set j (some w)) P1
  | _ => False) fun C P1 => D.ex C σ P1
theorem qs_par {i j : Nat} {x y : Str} {a b : Expr} {ta : QTA} {px py pt : Pos} {kt k2 pt2} (hc : X.calm = true) (hN : X.N.Nodup) (ha : QA X W [a, b] ta) (hi : X.N[i]? = some x := by rfl) (hj : X.N[j]? = some y := by rfl) (hij : i ≠ j := by decide)
    (hx : X.env.scope.names.lookup x = some .local := by rfl) (hy : X.env.scope.names.lookup y = some .local := by rfl)
    (hw : swappedStores [.Tuple [.Name x px, .Name y py] kt pt] (.Tuple [a, b] k2 pt2) X.env = pure (some [x, y]) := by rfl)
    (hs : swapsWithSole [.Tuple [.Name x px, .Name y py] kt pt] (.Tuple [a, b] k2 pt2) pos.line X.env = pure false := by rfl) :
    QS X W (.Assign [.Tuple [.Name x px, .Name y py] kt pt] (.Tuple [a, b] k2 pt2) pos) (qPar i j ta) := ps_of (ps_par hc hN hi hj hij hx hy ha hw hs) fun D σ H ⟨σp, P, Dp, rs, p, t, l⟩ =>
  ⟨σp, P, _, _, rs, p, t, l.ke rs fun ds P1 vs H1 q r c k rs1 l1 => by
    match ds, q, r with
    | [d, e], q, r =>
      obtain ⟨v, r1, rfl, h1, h2⟩ := r
      obtain ⟨w', r2, rfl, h3, h4⟩ := h2
      have e4 : r2 = [] := h4
      subst e4
      exact ⟨v, w', rfl, l1.nx _ _ _ _ q (RSt.set h3 j (RSt.set h1 i rs1)) c (TK.refl _ _)⟩⟩
/-- code that one never comes to -/
def qNever : QTS := fun _ _ _ => False
theorem qss_never {sts : List Stmt} : QSs X W sts qNever := pss_of pss_never fun D σ H ⟨σp, P, Dp, rs, p, t, l⟩ => t
theorem qs_never {st : Stmt} : QS X W st qNever := ps_of ps_never fun D σ H ⟨σp, P, Dp, rs, p, t, l⟩ => t

/-! ### while -/
/-- what a loop's body is to reach -/
def LoopEnds (D : PEnds) (N : PSt → PH → Prop) : PEnds := { D with nx := N, ct := N, bk := D.nx }
def qWhile (c : QTT) (tb : QTS) : QTS := fun D σ P => ∃ V : Nat → PSt → PH → Prop, (∃ m, V m σ P) ∧ ∀ m σ P, V m σ P →
  c σ P (fun b P1 => if b = true then tb (LoopEnds D fun σ' P' => ∃ m' σ0 P0, m' < m ∧ Fg σ0 σ' ∧ Le P0 P' ∧ V m' σ0 P0) σ P1 else D.nx σ P1) fun C P1 => D.ex C σ P1
theorem qs_while {c : Expr} {body : List Stmt} {tc : QTT} {tb : QTS} (hp : PassesOwn (model X.prog X.w) X.A X.env X.xe) (hc : QT X W c tc) (hb : QSs X W body tb) : QS X W (.While c body [] pos) (qWhile tc tb) :=
  ps_of (ps_while hp hc hb) fun D σ H ⟨σp, P, Dp, rs, p, ⟨V, ⟨m0, v0⟩, turn⟩, l⟩ => by
    refine ⟨fun m σ' H' => ∃ σp P, RSt (Cx.en X).K H' σp σ' ∧ RepH (Cx.en X) H' P ∧ TK (Cx.en X).K H H' ∧ V m σp P, ⟨m0, σp, P, rs, p, TK.refl _ _, v0⟩, ?_⟩
    rintro m σ1 H1 ⟨σp1, P1, rs1, p1, k1, v1⟩
    have l1 := l.tk k1
    refine ⟨σp1, P1, _, _, rs1, p1, turn m σp1 P1 v1, l1.ke rs1 fun d P2 v H2 q e p2 k2 rs2 l2 => ?_⟩
    obtain rfl : d = v := e
    cases d with
    | false => exact l2.nx _ _ _ _ q rs2 p2 (TK.refl _ _)
    | true =>
      rw [if_pos rfl] at q ⊢
      refine ⟨fun σ3 H3 => ∃ m' σp P, m' < m ∧ RSt (Cx.en X).K H3 σp σ3 ∧ RepH (Cx.en X) H3 P ∧ TK (Cx.en X).K H H3 ∧ V m' σp P, fun σ3 H3 ⟨m', a, b, h1, h2, h3, h4, h5⟩ => ⟨m', h1, a, b, h2, h3, h4, h5⟩, ?_⟩
      have stp : ∀ σp3 P3 σ3 H3, (∃ m' σ0 P0, m' < m ∧ Fg σ0 σp3 ∧ Le P0 P3 ∧ V m' σ0 P0) → RSt (Cx.en X).K H3 σp3 σ3 → RepH (Cx.en X) H3 P3 → TK (Cx.en X).K H2 H3 → ∃ m' σp P, m' < m ∧ RSt (Cx.en X).K H3 σp σ3 ∧ RepH (Cx.en X) H3 P ∧ TK (Cx.en X).K H H3 ∧ V m' σp P :=
        fun σp3 P3 σ3 H3 ⟨m', σ0, P0, h1, h2, h3, h4⟩ r3 p3 k3 => ⟨m', σ0, P0, h1, r3.fg h2, p3.le h3, k1.trans (k2.trans k3), h4⟩
      exact ⟨σp1, P2, _, rs2, p2, q, ⟨stp, l2.rt, l2.ex, l2.nx, stp⟩⟩

/-! ### for -/
/-- the iterator J hands out the items xs, while St of what is known -/
structure ItOk (G : En) (H1 : Hp) (J : It) (xs : List D) (S : PH → Prop) : Prop where
  go : ∀ i H P, TK G.K H1 H → RepH G H P → S P → i < xs.length → J.go i H
  yld : ∀ i H P x H', TK G.K H1 H → RepH G H P → S P → i < xs.length → J.yld i H x H' → TK G.K H H' ∧ RepH G H' P ∧ ∃ d, xs[i]? = some d ∧ Rep G.K H' d x
  stop : ∀ H P, TK G.K H1 H → RepH G H P → S P → J.stop xs.length H
abbrev QTI := PSt → PH → (List D → (PH → Prop) → PH → Prop) → PX → Prop
def lfI (G : En) (W : WX) (t : QTI) : TI := fun σ H R => ∃ σp P Rp Ep, RSt G.K H σp σ ∧ RepH G H P ∧ t σp P Rp Ep ∧ (∀ xs S P' H' J, Rp xs S P' → RepH G H' P' → TK G.K H H' → ItOk G H' J xs S → R J H') ∧
  ∀ C P' H', Ep C P' → RepH G H' P' → TK G.K H H' → W (.ref C) none σ H'
abbrev QI (X : Cx) (W : WX) (tg iter : Expr) (t : QTI) : Prop := PI X tg iter (lfI (Cx.en X) W t)
theorem pi_of {tg iter : Expr} {t t' : TI} (h : PI X tg iter t) (i : ∀ σ H R, t' σ H R → t σ H R) : PI X tg iter t' := ⟨fun pins s σ H R I hw => h.run pins s σ H R I (i σ H R hw)⟩
def qFor (qi : QTI) (g : QTG) (tb : QTS) : QTS := fun D σ P => qi σ P (fun xs S P1 => ∃ V : Nat → PSt → PH → Prop, V 0 σ P1 ∧
  (∀ i x σ P, xs[i]? = some x → V i σ P → S P ∧ g x σ P fun σ2 P2 => tb (LoopEnds D fun σ' P' => ∃ σ0 P0, Fg σ0 σ' ∧ Le P0 P' ∧ V (i + 1) σ0 P0) σ2 P2) ∧
  ∀ σ P, V xs.length σ P → S P ∧ D.nx σ P) fun C P1 => D.ex C σ P1
theorem qs_for {tg iter : Expr} {body : List Stmt} {qi : QTI} {g : QTG} {tb : QTS} (hp : PassesOwn (model X.prog X.w) X.A X.env X.xe) (hc : X.calm = true) (hi : QI X W tg iter qi) (hg : QG X tg g) (hb : QSs X W body tb)
    (hs : ∀ x, foldedSetIterable iter X.env x = pure x := by intro _; rfl) : QS X W (.For tg iter body [] pos) (qFor qi g tb) :=
  ps_of (ps_for hp hc hi hg hb hs) fun D σ H ⟨σp, P, Dp, rs, p, t, l⟩ => by
    refine ⟨σp, P, _, _, rs, p, t, fun xs S P1 H1 J ⟨V, v0, step, done⟩ p1 k1 ok => ?_, fun C P' H' a b k => l.ex C σp P' σ H' a (rs.tk k) b k⟩
    refine ⟨fun i m σ' H' => ∃ σp P, m = xs.length - i ∧ i ≤ xs.length ∧ RSt (Cx.en X).K H' σp σ' ∧ RepH (Cx.en X) H' P ∧ TK (Cx.en X).K H1 H' ∧ V i σp P, ⟨_, σp, P1, rfl, Nat.zero_le _, rs.tk k1, p1, TK.refl _ _, v0⟩, ?_⟩
    rintro i m σ2 H2 ⟨σp2, P2, rfl, hi, rs2, p2, k2, v2⟩
    have l2 := l.tk (k1.trans k2)
    by_cases hlt : i < xs.length
    · have hx := List.getElem?_eq_getElem hlt
      obtain ⟨s2, _⟩ := step i _ σp2 P2 hx v2
      refine .inr ⟨ok.go i H2 P2 k2 p2 s2 hlt, fun σ' H' => ∃ σp P, RSt (Cx.en X).K H' σp σ' ∧ RepH (Cx.en X) H' P ∧ TK (Cx.en X).K H1 H' ∧ V (i + 1) σp P, fun σ' H' ⟨a, b, h1, h2, h3, h4⟩ => ⟨xs.length - (i + 1), by omega, a, b, rfl, hlt, h1, h2, h3, h4⟩, fun x H3 y => ?_⟩
      obtain ⟨k3, p3, d, hd, r3⟩ := ok.yld i H2 P2 x H3 k2 p2 s2 hlt y
      obtain ⟨_, q⟩ := step i d σp2 P2 hd v2
      refine ⟨d, σp2, P2, _, r3, rs2.tk k3, p3, q, ⟨fun σp4 P4 σ4 H4 q4 rs4 p4 k4 => ?_⟩⟩
      have l4 := l2.tk (k3.trans k4)
      have stp : ∀ σp3 P3 σ3 H3, (∃ σ0 P0, Fg σ0 σp3 ∧ Le P0 P3 ∧ V (i + 1) σ0 P0) → RSt (Cx.en X).K H3 σp3 σ3 → RepH (Cx.en X) H3 P3 → TK (Cx.en X).K H4 H3 → ∃ σp P, RSt (Cx.en X).K H3 σp σ3 ∧ RepH (Cx.en X) H3 P ∧ TK (Cx.en X).K H1 H3 ∧ V (i + 1) σp P :=
        fun σp3 P3 σ3 H3 ⟨σ0, P0, h2, h3, h4⟩ r3 p3 k5 => ⟨σ0, P0, r3.fg h2, p3.le h3, k2.trans (k3.trans (k4.trans k5)), h4⟩
      exact ⟨σp4, P4, _, rs4, p4, q4, ⟨stp, l4.rt, l4.ex, l4.nx, stp⟩⟩
    · have e : i = xs.length := by omega
      subst e
      obtain ⟨s2, q⟩ := done σp2 P2 v2
      exact .inl ⟨ok.stop H2 P2 k2 p2 s2, l2.nx _ _ _ _ q rs2 p2 (TK.refl _ _)⟩

/-! ### what a for walks -/
/-- by a value -/
def PIV (X : Cx) (tg : Expr) (r : V → Hp → (It → Hp → Prop) → Prop) : Prop := ∀ (pins : List (Addr × Obj)) (s : Shared) (σ : St) (H : Hp) (x : V) (v : Value) (R : It → Hp → Prop), Inv X pins σ H s → RelV x v → r x H R →
  wpAny (model X.prog X.w) X.A (pyIter v) (PIE X pins σ tg R) X.xe s
theorem piv_list {tg : Expr} : PIV X tg fun x H R => ∃ a, x = .ref a ∧ (∃ xs, SqL X.K H a xs) ∧ R (Itl X.K a) H := by
  intro pins s σ H x v R I r ⟨a, e, ⟨xs, hq⟩, q⟩
  subst e
  cases r
  obtain ⟨its, rv, p, hz⟩ := I.list hq
  refine wpAny_pyIter_list p.isList ?_
  refine ⟨s.heap.objs.size, [s.heap.objs.size], _, _, H, rfl, I.kept (t' := s.toks) fun b o e => Heap.get?_push_of_some _ e, turn_list a _, ⟨_, Heap.get?_push_size _ rfl, rfl, rfl⟩, fun b hb => ?_, q⟩
  have e : b = s.heap.objs.size := by simpa using hb
  subst e
  exact I.fpOk (Nat.le_refl _) (I.hok.fresh (Nat.le_refl _))
theorem piv_tup {tg : Expr} : PIV X tg fun x H R => ∃ a, x = .ref a ∧ (∃ xs, SqT X.K H a xs) ∧ R (Itt X.K a) H := by
  intro pins s σ H x v R I r ⟨a, e, ⟨xs, hq⟩, q⟩
  subst e
  cases r
  obtain ⟨its, rv, p, hz⟩ := I.tuple hq
  refine wpAny_pyIter_tuple (show s.heap.IsTuple a its.toArray from p) ?_
  refine ⟨s.heap.objs.size, [s.heap.objs.size], _, _, H, rfl, I.kept (t' := s.toks) fun b o e => Heap.get?_push_of_some _ e, turn_tuple a _, ⟨_, Heap.get?_push_size _ rfl, rfl, rfl⟩, fun b hb => ?_, q⟩
  have e : b = s.heap.objs.size := by simpa using hb
  subst e
  exact I.fpOk (Nat.le_refl _) (I.hok.fresh (Nat.le_refl _))
theorem piv_str {tg : Expr} : PIV X tg fun v H R => ∃ x, v = .str x ∧ R (Its x) H := by
  intro pins s σ H x v R I r ⟨z, e, q⟩
  subst e
  obtain ⟨t, rfl⟩ := r
  cases ha : z.cps.all (· < 128)
  · exact wpAny_pyIter_wide ha (pi_one (tk := s.toks) I _ (turn_str _ z t "str_iterator" (.inr rfl)) ⟨_, Heap.get?_push_size _ rfl, rfl, rfl⟩ q)
  · exact wpAny_pyIter_ascii ha (pi_one (tk := s.toks) I _ (turn_str _ z t "str_ascii_iterator" (.inl rfl)) ⟨_, Heap.get?_push_size _ rfl, rfl, rfl⟩ q)
/-- a list that may be read -/
def RdL (P : PH) (a : Addr) (xs : List D) : Prop := P a = some (.lst xs) ∨ P a = some (.lsr xs)
theorem RdL.sq {G : En} {H : Hp} {P : PH} {a : Addr} {xs : List D} (h : RdL P a xs) (p : RepH G H P) : ∃ vs, SqL G.K H a vs ∧ Reps G.K H xs vs := by
  rcases h with h | h
  · obtain ⟨vs, e, r⟩ := p a _ h
    exact ⟨vs, SqL.of e, r⟩
  · obtain ⟨vs, e, r⟩ := p a _ h
    exact ⟨vs, .inl e, r⟩
/-- the signs of a text, each a text -/
def signs (x : Str) : List D := x.cps.toList.map fun c => .str ⟨#[c]⟩
def qiVal (te : QTE) : QTI := fun σ P R E => te σ P (fun v P1 => match v with
  | .ref a => ∃ xs, RdL P1 a xs ∧ R xs (fun P' => RdL P' a xs) P1
  | .tup xs => R xs (fun _ => True) P1
  | .str x => R (signs x) (fun _ => True) P1
  | _ => False) E
theorem pi_piv {tg e : Expr} {te : TE} {r : V → Hp → (It → Hp → Prop) → Prop} (he : PE X e te) (h : PIV X tg r) : PI X tg e (fun σ H R => te σ H fun x H1 => r x H1 R) :=
  ⟨fun pins s σ H R I hw => thn (he.run pins s σ H _ I hw) fun v s1 ⟨x, H1, I1, r1, q1⟩ => h pins s1 σ H1 x v R I1 r1 q1⟩
theorem PIV.or {tg : Expr} {r r' : V → Hp → (It → Hp → Prop) → Prop} (h : PIV X tg r) (h' : PIV X tg r') : PIV X tg fun x H R => r x H R ∨ r' x H R := by
  intro pins s σ H x v R I rv q
  rcases q with q | q
  · exact h pins s σ H x v R I rv q
  · exact h' pins s σ H x v R I rv q
theorem signs_get {x : Str} {i : Nat} (h : i < x.cps.size) : (signs x)[i]? = some (.str ⟨#[x.cps[i]]⟩) := by
  unfold signs
  rw [List.getElem?_map, Array.getElem?_toList, Array.getElem?_eq_getElem h]
  all_goals rfl
theorem signs_length (x : Str) : (signs x).length = x.cps.size := by unfold signs; simp
theorem qi_val {tg : Expr} (he : QE X W e te) : QI X W tg e (qiVal te) := by
  refine pi_of (pi_piv he (piv_list.or (piv_tup.or piv_str))) fun σ H R ⟨σp, P, Rp, Ep, rs, p, t, ok, ex⟩ => ?_
  refine ⟨σp, P, _, Ep, rs, p, t, ⟨fun d P1 v H1 q r p1 k1 => ?_, ex⟩⟩
  cases d with
  | ref a =>
    obtain rfl : v = .ref a := r
    obtain ⟨xs, hx, q⟩ := q
    obtain ⟨vs, sq, rx⟩ := hx.sq p1
    refine .inl ⟨a, rfl, ⟨vs, sq⟩, ok _ _ _ _ _ q p1 k1 ⟨fun i H2 P2 k2 p2 s2 hi => ?_, fun i H2 P2 x H3 k2 p2 s2 hi y => ?_, fun H2 P2 k2 p2 s2 => ?_⟩⟩
    · obtain ⟨us, sq, ru⟩ := s2.sq p2
      have hl := Reps.length ru
      exact ⟨us, us[i], sq, List.getElem?_eq_getElem (by omega)⟩
    · obtain ⟨e, y⟩ := y
      subst e
      obtain ⟨us, sq, ru⟩ := s2.sq p2
      obtain ⟨d, e1, e2⟩ := ru.getV (y us sq)
      exact ⟨TK.refl _ _, p2, d, e1, e2⟩
    · obtain ⟨us, sq, ru⟩ := s2.sq p2
      exact ⟨us, sq, by rw [Reps.length ru]; exact Nat.le_refl _⟩
  | tup xs =>
    obtain ⟨a, vs, rfl, sq, rx⟩ := r
    refine .inr (.inl ⟨a, rfl, ⟨vs, sq⟩, ok _ _ _ _ _ q p1 k1 ⟨fun i H2 P2 k2 p2 s2 hi => ?_, fun i H2 P2 x H3 k2 p2 s2 hi y => ?_, fun H2 P2 k2 p2 s2 => ?_⟩⟩)
    · have hl := Reps.length rx
      exact ⟨vs, vs[i], k2 _ _ sq, List.getElem?_eq_getElem (by omega)⟩
    · obtain ⟨e, y⟩ := y
      subst e
      obtain ⟨d, e1, e2⟩ := rx.getV (y vs (k2 _ _ sq))
      exact ⟨TK.refl _ _, p2, d, e1, Rep.tk k2 _ _ e2⟩
    · exact ⟨vs, k2 _ _ sq, by rw [Reps.length rx]; exact Nat.le_refl _⟩
  | str x =>
    obtain rfl : v = .str x := r
    refine .inr (.inr ⟨x, rfl, ok _ _ _ _ _ q p1 k1 ⟨fun i H2 P2 k2 p2 s2 hi => ?_, fun i H2 P2 y H3 k2 p2 s2 hi z => ?_, fun H2 P2 k2 p2 s2 => ?_⟩⟩)
    · rw [signs_length] at hi; exact hi
    · rw [signs_length] at hi
      obtain ⟨e, c, hc, ec⟩ := z
      subst e
      rw [Array.getElem?_eq_getElem hi] at hc
      cases hc
      exact ⟨TK.refl _ _, p2, _, signs_get hi, ec⟩
    · show x.cps.size ≤ (signs x).length
      rw [signs_length]; exact Nat.le_refl _
  | _ => exact q.elim
/-- lo, lo + 1, .. -/
def rgD (lo : Int) (n : Nat) : List D := (List.range n).map fun i => .int (lo + (i : Nat))
theorem rgD_length (lo : Int) (n : Nat) : (rgD lo n).length = n := by unfold rgD; simp
theorem rgD_get {lo : Int} {n i : Nat} (h : i < n) : (rgD lo n)[i]? = some (.int (lo + (i : Nat))) := by
  unfold rgD
  rw [List.getElem?_map, List.getElem?_range h]
  all_goals rfl
theorem itOk_range {G : En} {H : Hp} (lo : Int) (n : Nat) : ItOk G H (Itr lo n) (rgD lo n) fun _ => True :=
  ⟨fun i H2 P2 k2 p2 s2 hi => by rw [rgD_length] at hi; exact hi, fun i H2 P2 y H3 k2 p2 s2 hi z => by
    rw [rgD_length] at hi
    obtain ⟨e, ey⟩ := z
    subst e
    exact ⟨TK.refl _ _, p2, _, rgD_get hi, ey⟩, fun H2 P2 k2 p2 s2 => by
    show n ≤ (rgD lo n).length
    rw [rgD_length]; exact Nat.le_refl _⟩
def qiRng1 (ta : QTA) : QTI := fun σ P R E => ta σ P (fun vs P1 => match vs with
  | [.int j] => (-(2 ^ 62) ≤ j ∧ j < 2 ^ 62) ∧ R (rgD 0 j.toNat) (fun _ => True) P1
  | _ => False) E
def qiRng2 (ta : QTA) : QTI := fun σ P R E => ta σ P (fun vs P1 => match vs with
  | [.int i, .int j] => (-(2 ^ 62) ≤ i ∧ i < 2 ^ 62 ∧ -(2 ^ 62) ≤ j ∧ j < 2 ^ 62) ∧ R (rgD i (j - i).toNat) (fun _ => True) P1
  | _ => False) E
theorem qi_range1 {tg a : Expr} {ta : QTA} {p pos : Pos} (hm : X.mg "range" = none) (ha : QA X W [a] ta) (hg : Gl X "range" := by rfl) (hs : starEach [a] X.env = [(false, eval a X.env)] := by rfl) : QI X W tg (.Call (.Name "range" p) [a] [] pos) (qiRng1 ta) :=
  pi_of (pi_range1 hg hm ha hs) fun σ H R ⟨σp, P, Rp, Ep, rs, p, t, ok, ex⟩ => ⟨σp, P, _, Ep, rs, p, t, ⟨fun d P1 v H1 q r p1 k1 => by
    match d, q, r with
    | [.int j], q, r =>
      obtain ⟨v1, r1, rfl, h1, h2⟩ := r
      obtain rfl : v1 = .int j := h1
      obtain rfl : r1 = [] := h2
      exact ⟨j, rfl, q.1.1, q.1.2, ok _ _ _ _ _ q.2 p1 k1 (itOk_range _ _)⟩, ex⟩⟩
theorem qi_range2 {tg a b : Expr} {ta : QTA} {p pos : Pos} (hm : X.mg "range" = none) (ha : QA X W [a, b] ta) (hg : Gl X "range" := by rfl) (hs : starEach [a, b] X.env = [(false, eval a X.env), (false, eval b X.env)] := by rfl) (hs2 : starEach [b] X.env = [(false, eval b X.env)] := by rfl) :
    QI X W tg (.Call (.Name "range" p) [a, b] [] pos) (qiRng2 ta) :=
  pi_of (pi_range2 hg hm ha hs hs2) fun σ H R ⟨σp, P, Rp, Ep, rs, p, t, ok, ex⟩ => ⟨σp, P, _, Ep, rs, p, t, ⟨fun d P1 v H1 q r p1 k1 => by
    match d, q, r with
    | [.int i, .int j], q, r =>
      obtain ⟨v1, r1, rfl, h1, h2⟩ := r
      obtain rfl : v1 = .int i := h1
      obtain ⟨v2, r2, rfl, h3, h4⟩ := h2
      obtain rfl : v2 = .int j := h3
      obtain rfl : r2 = [] := h4
      exact ⟨i, j, rfl, q.1, ok _ _ _ _ _ q.2 p1 k1 (itOk_range _ _)⟩, ex⟩⟩
/-- lo, lo + c, .. -/
def rgC (lo c : Int) (n : Nat) : List D := (List.range n).map fun i => .int (lo + (i : Nat) * c)
theorem rgC_length (lo c : Int) (n : Nat) : (rgC lo c n).length = n := by unfold rgC; simp
theorem rgC_get {lo c : Int} {n i : Nat} (h : i < n) : (rgC lo c n)[i]? = some (.int (lo + (i : Nat) * c)) := by
  unfold rgC
  rw [List.getElem?_map, List.getElem?_range h]
  all_goals rfl
theorem itOk_rangeC {G : En} {H : Hp} (lo c : Int) (n : Nat) : ItOk G H (Itc lo c n) (rgC lo c n) fun _ => True :=
  ⟨fun i H2 P2 k2 p2 s2 hi => by rw [rgC_length] at hi; exact hi, fun i H2 P2 y H3 k2 p2 s2 hi z => by
    rw [rgC_length] at hi
    obtain ⟨e, ey⟩ := z
    subst e
    exact ⟨TK.refl _ _, p2, _, rgC_get hi, ey⟩, fun H2 P2 k2 p2 s2 => by
    show n ≤ (rgC lo c n).length
    rw [rgC_length]; exact Nat.le_refl _⟩
def qiRng3 (ta : QTA) : QTI := fun σ P R E => ta σ P (fun vs P1 => match vs with
  | [.int i, .int j, .int c] => ∃ n, RgC i j c n ∧ R (rgC i c n) (fun _ => True) P1
  | _ => False) E
theorem qi_range3 {tg a b c : Expr} {ta : QTA} {p pos : Pos} (hm : X.mg "range" = none) (ha : QA X W [a, b, c] ta) (hi : PI X tg (.Call (.Name "range" p) [a, b, c] [] pos) (iRng3 (lfA (Cx.en X) W ta))) :
    QI X W tg (.Call (.Name "range" p) [a, b, c] [] pos) (qiRng3 ta) :=
  pi_of hi fun σ H R ⟨σp, P, Rp, Ep, rs, p, t, ok, ex⟩ => ⟨σp, P, _, Ep, rs, p, t, ⟨fun d P1 v H1 q r p1 k1 => by
    match d, q, r with
    | [.int i, .int j, .int c], q, r =>
      obtain ⟨v1, r1, rfl, h1, h2⟩ := r
      obtain rfl : v1 = .int i := h1
      obtain ⟨v2, r2, rfl, h3, h4⟩ := h2
      obtain rfl : v2 = .int j := h3
      obtain ⟨v3, r3, rfl, h5, h6⟩ := h4
      obtain rfl : v3 = .int c := h5
      obtain rfl : r3 = [] := h6
      obtain ⟨n, q1, q2⟩ := q
      exact ⟨i, j, c, n, rfl, q1, ok _ _ _ _ _ q2 p1 k1 (itOk_rangeC _ _ _)⟩, ex⟩⟩
end
end PL
namespace PL
open PySem PySem.Spec L2

/-! ### == of data -/
mutual
def D.beq : D → D → Bool
  | .non, .non => true
  | .bl a, .bl b => a == b
  | .int a, .int b => decide (a = b)
  | .str a, .str b => decide (a = b)
  | .tup a, .tup b => D.beqs a b
  | .ref a, .ref b => decide (a = b)
  | .ty a, .ty b => decide (a = b)
  | _, _ => false
def D.beqs : List D → List D → Bool
  | [], [] => true
  | a :: as, b :: bs => D.beq a b && D.beqs as bs
  | _, _ => false
end
mutual
theorem D.beq_self : ∀ a : D, D.beq a a = true
  | .non => by simp [D.beq]
  | .bl a => by simp [D.beq]
  | .int a => by simp [D.beq]
  | .str a => by simp [D.beq]
  | .tup a => by rw [D.beq]; exact D.beqs_self a
  | .ref a => by simp [D.beq]
  | .ty a => by simp [D.beq]
theorem D.beqs_self : ∀ a : List D, D.beqs a a = true
  | [] => by simp [D.beqs]
  | a :: as => by rw [D.beqs, D.beq_self a, D.beqs_self as]; rfl
end
mutual
theorem D.eq_of_beq : ∀ a b : D, D.beq a b = true → a = b
  | .non, b, h => by cases b <;> simp [D.beq] at h ⊢
  | .bl a, b, h => by cases b <;> simp [D.beq] at h ⊢ <;> exact h
  | .int a, b, h => by cases b <;> simp [D.beq] at h ⊢ <;> exact h
  | .str a, b, h => by cases b <;> simp [D.beq] at h ⊢ <;> exact h
  | .tup a, b, h => by
    cases b with
    | tup b => rw [D.beq] at h; rw [D.eq_of_beqs a b h]
    | _ => simp [D.beq] at h
  | .ref a, b, h => by cases b <;> simp [D.beq] at h ⊢ <;> exact h
  | .ty a, b, h => by cases b <;> simp [D.beq] at h ⊢ <;> exact h
theorem D.eq_of_beqs : ∀ a b : List D, D.beqs a b = true → a = b
  | [], b, h => by cases b <;> simp [D.beqs] at h ⊢
  | a :: as, b, h => by
    cases b with
    | nil => simp [D.beqs] at h
    | cons b bs =>
      rw [D.beqs, Bool.and_eq_true] at h
      rw [D.eq_of_beq a b h.1, D.eq_of_beqs as bs h.2]
end
instance : DecidableEq D := fun a b => if h : D.beq a b = true then .isTrue (D.eq_of_beq a b h) else .isFalse fun e => h (e ▸ D.beq_self a)

/- data without lists, bools, things that change -/
mutual
def pure1 : D → Bool
  | .non => true
  | .int _ => true
  | .str x => PyData.strOk x
  | .tup xs => pures xs
  | _ => false
def pures : List D → Bool
  | [] => true
  | d :: ds => pure1 d && pures ds
end
mutual
def toPd : D → PyData
  | .non => .none
  | .bl b => .bool b
  | .int i => .int i
  | .str x => .str x
  | .tup xs => .tuple (toPds xs)
  | .ref _ => .none
  | .ty _ => .none
def toPds : List D → List PyData
  | [] => []
  | d :: ds => toPd d :: toPds ds
end
mutual
def dep : D → Nat
  | .tup xs => deps xs + 1
  | _ => 0
def deps : List D → Nat
  | [] => 0
  | d :: ds => max (dep d) (deps ds)
end
theorem toPds_map : ∀ xs : List D, toPds xs = xs.map toPd
  | [] => rfl
  | x :: xs => by rw [toPds, List.map_cons, toPds_map xs]
theorem pures_all : ∀ {xs : List D}, pures xs = true ↔ ∀ x ∈ xs, pure1 x = true
  | [] => by simp [pures]
  | x :: xs => by rw [pures, Bool.and_eq_true, pures_all]; simp
mutual
theorem toPd_lay : ∀ d : D, pure1 d = true → (toPd d).canLay0 = true
  | .non, _ => by simp [toPd, PyData.canLay0]
  | .int _, _ => by simp [toPd, PyData.canLay0]
  | .str x, h => by simpa [toPd, PyData.canLay0, pure1] using h
  | .tup xs, h => by
    rw [toPd, PyData.canLay0]
    exact toPds_lay xs (by simpa [pure1] using h)
  | .bl _, h => by simp [pure1] at h
  | .ref _, h => by simp [pure1] at h
  | .ty _, h => by simp [pure1] at h
theorem toPds_lay : ∀ ds : List D, pures ds = true → PyData.canLayAll0 (toPds ds) = true
  | [], _ => by simp [toPds, PyData.canLayAll0]
  | d :: ds, h => by
    rw [pures, Bool.and_eq_true] at h
    rw [toPds, PyData.canLayAll0, toPd_lay d h.1, toPds_lay ds h.2]
    rfl
end
mutual
theorem toPd_dep : ∀ d : D, (toPd d).depth = dep d
  | .non => by simp [toPd, PyData.depth, dep]
  | .bl _ => by simp [toPd, PyData.depth, dep]
  | .int _ => by simp [toPd, PyData.depth, dep]
  | .str _ => by simp [toPd, PyData.depth, dep]
  | .tup xs => by rw [toPd, PyData.depth, dep, toPds_dep xs]
  | .ref _ => by simp [toPd, PyData.depth, dep]
  | .ty _ => by simp [toPd, PyData.depth, dep]
theorem toPds_dep : ∀ ds : List D, PyData.depthAll (toPds ds) = deps ds
  | [] => by simp [toPds, PyData.depthAll, deps]
  | d :: ds => by rw [toPds, PyData.depthAll, deps, toPd_dep d, toPds_dep ds]
end
mutual
theorem eqv_pure : ∀ a b : D, pure1 a = true → pure1 b = true → PyData.eqv (toPd a) (toPd b) = decide (a = b)
  | .non, b, _, hb => by cases b <;> simp [toPd, PyData.eqv, pure1] at hb ⊢
  | .int i, b, _, hb => by cases b <;> simp [toPd, PyData.eqv, pure1, Bool.beq_eq_decide_eq] at hb ⊢
  | .str x, b, _, hb => by cases b <;> simp [toPd, PyData.eqv, pure1, Bool.beq_eq_decide_eq] at hb ⊢
  | .tup xs, b, ha, hb => by
    cases b with
    | tup ys =>
      rw [toPd, toPd, PyData.eqv, eqvs_pure xs ys (by simpa [pure1] using ha) (by simpa [pure1] using hb)]
      simp
    | _ => simp [toPd, PyData.eqv, pure1] at hb ⊢
  | .bl _, _, h, _ => by simp [pure1] at h
  | .ref _, _, h, _ => by simp [pure1] at h
  | .ty _, _, h, _ => by simp [pure1] at h
theorem eqvs_pure : ∀ a b : List D, pures a = true → pures b = true → PyData.eqvAll (toPds a) (toPds b) = decide (a = b)
  | [], b, _, _ => by cases b <;> simp [toPds, PyData.eqvAll]
  | a :: as, b, ha, hb => by
    cases b with
    | nil => simp [toPds, PyData.eqvAll]
    | cons b bs =>
      rw [pures, Bool.and_eq_true] at ha hb
      rw [toPds, toPds, PyData.eqvAll, eqv_pure a b ha.1 hb.1, eqvs_pure as bs ha.2 hb.2]
      simp
end
mutual
theorem rep_dp {K : PySem.W.Frag} {H : Hp} : ∀ (d : D) (v : V), pure1 d = true → Rep K H d v → Dp K H v (toPd d)
  | .non, _, _, h => by rw [Rep] at h; rw [h]; exact .non
  | .int i, _, _, h => by rw [Rep] at h; rw [h]; exact .int i
  | .str x, _, _, h => by rw [Rep] at h; rw [h]; exact .str x
  | .tup xs, v, p, h => by
    obtain ⟨a, vs, rfl, sq, r⟩ := h
    exact .tup sq (reps_dp xs vs (by simpa [pure1] using p) r)
  | .bl _, _, h, _ => by simp [pure1] at h
  | .ref _, _, h, _ => by simp [pure1] at h
  | .ty _, _, h, _ => by simp [pure1] at h
theorem reps_dp {K : PySem.W.Frag} {H : Hp} : ∀ (ds : List D) (vs : List V), pures ds = true → Reps K H ds vs → DpAll K H vs (toPds ds)
  | [], _, _, h => by rw [Reps] at h; rw [h]; exact .nil
  | d :: ds, vs, p, h => by
    rw [pures, Bool.and_eq_true] at p
    obtain ⟨v, r, rfl, h1, h2⟩ := h
    exact .cons (rep_dp d v p.1 h1) (reps_dp ds r p.2 h2)
end
/- data with lists, read in a heap -/
mutual
inductive Dt (P : PH) : D → PyData → Prop
  | pur {d : D} : pure1 d = true → Dt P d (toPd d)
  | bl (b : Bool) : Dt P (.bl b) (.bool b)
  | tup {xs : List D} {ds : List PyData} : Dts P xs ds → Dt P (.tup xs) (.tuple ds)
  | lst {a : Addr} {xs : List D} {ds : List PyData} : RdL P a xs → Dts P xs ds → Dt P (.ref a) (.list ds)
inductive Dts (P : PH) : List D → List PyData → Prop
  | nil : Dts P [] []
  | cons {x : D} {xs : List D} {d : PyData} {ds : List PyData} : Dt P x d → Dts P xs ds → Dts P (x :: xs) (d :: ds)
end
mutual
theorem Dt.dp {G : En} {H : Hp} {P : PH} (p : RepH G H P) : ∀ {d : D} {e : PyData} {v : V}, Dt P d e → Rep G.K H d v → Dp G.K H v e
  | _, _, v, .pur h, r => rep_dp _ v h r
  | _, _, v, .bl b, r => by rw [Rep] at r; rw [r]; exact .bl b
  | _, _, v, .tup h, r => by
    obtain ⟨a, vs, rfl, sq, r⟩ := r
    exact .tup sq (Dts.dp p h r)
  | _, _, v, .lst h h', r => by
    rw [Rep] at r
    obtain ⟨vs, sq, ru⟩ := h.sq p
    rw [r]
    exact .lst sq (Dts.dp p h' ru)
theorem Dts.dp {G : En} {H : Hp} {P : PH} (p : RepH G H P) : ∀ {ds : List D} {es : List PyData} {vs : List V}, Dts P ds es → Reps G.K H ds vs → DpAll G.K H vs es
  | _, _, vs, .nil, r => by rw [Reps] at r; rw [r]; exact .nil
  | _, _, vs, .cons h h', r => by
    obtain ⟨v, r', rfl, h1, h2⟩ := r
    exact .cons (Dt.dp p h h1) (Dts.dp p h' h2)
end
theorem Dts.pures {P : PH} : ∀ {xs : List D}, pures xs = true → Dts P xs (toPds xs)
  | [], _ => by rw [toPds]; exact .nil
  | x :: xs, h => by
    rw [PL.pures, Bool.and_eq_true] at h
    rw [toPds]
    exact .cons (.pur h.1) (Dts.pures h.2)

section
variable {X : Cx}
def qEqG (neg : Bool) (x y : D) (P : PH) (Q : PK) : Prop := ∃ dx dy, Dt P x dx ∧ Dt P y dy ∧ dx.canLay0 = true ∧ dy.canLay0 = true ∧ min dx.depth dy.depth ≤ 64 ∧ Q (.bl (if neg = true then !PyData.eqv dx dy else PyData.eqv dx dy)) P
def qEq (neg : Bool) : QR := fun x y P Q => match x, y with
  | .int i, .int j => Q (.bl (if neg = true then !decide (i = j) else decide (i = j))) P
  | .str i, .str j => Q (.bl (if neg = true then !decide (i = j) else decide (i = j))) P
  | .bl i, .bl j => Q (.bl (if neg = true then !decide (i = j) else decide (i = j))) P
  | .tup i, .tup j => qEqG neg (.tup i) (.tup j) P Q
  | .non, y => qEqG neg .non y P Q
  | x, .non => qEqG neg x .non P Q
  | .ref a, .ref b => qEqG neg (.ref a) (.ref b) P Q
  | x, y => qEqG neg x y P Q
theorem op_eqG {neg : Bool} {op : CmpOp} (hop : op = if neg = true then .NotEq else .Eq) (hu : X.A.units + 64 < cLine) : OpR X (compareOp op) (lfR (Cx.en X) (qEqG neg)) := by
  intro pins s σ H x y v u Q I rx ry h
  obtain ⟨dx, dy, P, Qp, r1, r2, p, ⟨d, e, hd, he, cd, ce, hm, q⟩, k⟩ := h
  obtain ⟨as, q1⟩ := Dp.reads I d x v (hd.dp p r1) rx
  obtain ⟨bs, q2⟩ := Dp.reads I e y u (he.dp p r2) ry
  cases neg with
  | false =>
    rw [if_neg (by decide)] at hop
    subst hop
    exact SeqAt.compareEq_reads q1 q2 cd ce (by omega) ⟨.bl _, H, I, rfl, k.ok _ _ _ _ q rfl p (TK.refl _ _)⟩
  | true =>
    rw [if_pos rfl] at hop
    subst hop
    exact SeqAt.compareNe_reads q1 q2 cd ce (by omega) ⟨.bl _, H, I, rfl, k.ok _ _ _ _ q rfl p (TK.refl _ _)⟩
theorem opR_imp {f : Value → Value → Sem Value} {r r' : R2} (h : OpR X f r) (i : ∀ x y H Q, r' x y H Q → r x y H Q) : OpR X f r' := fun pins s σ H x y v u Q I rx ry q => h pins s σ H x y v u Q I rx ry (i x y H Q q)
theorem op_qeq (hu : X.A.units + 64 < cLine) : OpR X (compareOp .Eq) (lfR (Cx.en X) (qEq false)) := by
  refine opR_imp (op_eq.or (op_eqG (neg := false) rfl hu)) ?_
  rintro x y H Q ⟨dx, dy, P, Qp, r1, r2, p, t, k⟩
  have go : qEqG false dx dy P Qp → (rEq x y H Q ∨ lfR (Cx.en X) (qEqG false) x y H Q) := fun z => .inr ⟨dx, dy, P, Qp, r1, r2, p, z, k⟩
  cases dx <;> cases dy <;> first
    | exact go t
    | (rw [Rep] at r1 r2; subst r1 r2
       refine .inl ⟨rfl, k.ok _ _ _ _ t ?_ p (TK.refl _ _)⟩
       show V.bl _ = V.bl _
       simp)
theorem op_qne (hu : X.A.units + 64 < cLine) : OpR X (compareOp .NotEq) (lfR (Cx.en X) (qEq true)) := by
  refine opR_imp (op_ne.or (op_eqG (neg := true) rfl hu)) ?_
  rintro x y H Q ⟨dx, dy, P, Qp, r1, r2, p, t, k⟩
  have go : qEqG true dx dy P Qp → (rNe x y H Q ∨ lfR (Cx.en X) (qEqG true) x y H Q) := fun z => .inr ⟨dx, dy, P, Qp, r1, r2, p, z, k⟩
  cases dx <;> cases dy <;> first
    | exact go t
    | (rw [Rep] at r1 r2; subst r1 r2
       refine .inl ⟨rfl, k.ok _ _ _ _ t ?_ p (TK.refl _ _)⟩
       show V.bl _ = V.bl _
       simp)
/-- == of pure data -/
theorem qEqG_pure {neg : Bool} {x y : D} {P : PH} {Q : PK} (hx : pure1 x = true) (hy : pure1 y = true) (hd : min (dep x) (dep y) ≤ 64) (q : Q (.bl (if neg = true then !decide (x = y) else decide (x = y))) P) : qEqG neg x y P Q :=
  ⟨_, _, .pur hx, .pur hy, toPd_lay _ hx, toPd_lay _ hy, by rw [toPd_dep, toPd_dep]; exact hd, by rw [eqv_pure _ _ hx hy]; exact q⟩
/-- == of lists of pure data -/
theorem qEqG_list {neg : Bool} {a b : Addr} {xs ys : List D} {P : PH} {Q : PK} (ha : RdL P a xs) (hb : RdL P b ys) (hx : pures xs = true) (hy : pures ys = true) (hd : min (deps xs) (deps ys) < 64)
    (q : Q (.bl (if neg = true then !decide (xs = ys) else decide (xs = ys))) P) : qEqG neg (.ref a) (.ref b) P Q :=
  ⟨_, _, .lst ha (Dts.pures hx), .lst hb (Dts.pures hy), by rw [PyData.canLay0]; exact toPds_lay _ hx, by rw [PyData.canLay0]; exact toPds_lay _ hy, by rw [PyData.depth, PyData.depth, toPds_dep, toPds_dep]; omega, by
    rw [PyData.eqv, eqvs_pure _ _ hx hy]; exact q⟩

/-! ### < -/
open PySem.W in
def qLtG (x y : D) (P : PH) (Q : PK) : Prop := ∃ dx dy, Dt P x dx ∧ Dt P y dy ∧ alike dx dy = true ∧ dx ≠ .none ∧ min dx.depth dy.depth ≤ 64 ∧ Q (.bl (dataLt dx dy)) P
def qLt : QR := fun x y P Q => match x, y with
  | .int i, .int j => Q (.bl (decide (i < j))) P
  | .str i, .str j => Q (.bl (decide (i.cps.toList < j.cps.toList))) P
  | x, y => qLtG x y P Q
theorem op_ltG (hu : X.A.units + 64 < cLine) : OpR X (compareOp .Lt) (lfR (Cx.en X) qLtG) := by
  intro pins s σ H x y v u Q I rx ry h
  obtain ⟨dx, dy, P, Qp, r1, r2, p, ⟨d, e, hd, he, ha, hn, hm, q⟩, k⟩ := h
  obtain ⟨as, q1⟩ := Dp.reads I d x v (hd.dp p r1) rx
  obtain ⟨bs, q2⟩ := Dp.reads I e y u (he.dp p r2) ry
  exact PySem.W.rcLt_alike d e X.A s v u as bs q1 q2 ha hn (by omega) _ _ _ _ ⟨.bl _, H, I, rfl, k.ok _ _ _ _ q rfl p (TK.refl _ _)⟩
theorem op_qlt (hu : X.A.units + 64 < cLine) : OpR X (compareOp .Lt) (lfR (Cx.en X) qLt) := by
  refine opR_imp (op_lt.or (op_lt_str.or (op_ltG hu))) ?_
  rintro x y H Q ⟨dx, dy, P, Qp, r1, r2, p, t, k⟩
  have go : qLtG dx dy P Qp → lfR (Cx.en X) qLtG x y H Q := fun z => ⟨dx, dy, P, Qp, r1, r2, p, z, k⟩
  cases dx <;> cases dy <;> first
    | exact .inr (.inr (go t))
    | (rw [Rep] at r1 r2; subst r1 r2
       exact .inl ⟨_, _, rfl, rfl, k.ok _ _ _ _ t rfl p (TK.refl _ _)⟩)
    | (rw [Rep] at r1 r2; subst r1 r2
       exact .inr (.inl ⟨_, _, rfl, rfl, k.ok _ _ _ _ t rfl p (TK.refl _ _)⟩))

/-! ### ints -/
def qI2 (C : Int → Int → Prop) (f : Int → Int → Int) : QR := fun x y P Q => match x, y with
  | .int i, .int j => C i j ∧ Q (.int (f i j)) P
  | _, _ => False
def qB2 (f : Int → Int → Bool) : QR := fun x y P Q => match x, y with
  | .int i, .int j => Q (.bl (f i j)) P
  | _, _ => False
theorem op_qI {g : Value → Value → Sem Value} {C : Int → Int → Prop} {f : Int → Int → Int} (h : OpR X g (rI C fun i j => .int (f i j))) : OpR X g (lfR (Cx.en X) (qI2 C f)) := by
  refine opR_imp h ?_
  rintro x y H Q ⟨dx, dy, P, Qp, r1, r2, p, t, k⟩
  cases dx <;> cases dy <;> first
    | exact t.elim
    | (rw [Rep] at r1 r2; subst r1 r2
       exact ⟨_, _, rfl, rfl, t.1, k.ok _ _ _ _ t.2 rfl p (TK.refl _ _)⟩)
theorem op_qI0 {g : Value → Value → Sem Value} {f : Int → Int → Int} (h : OpR X g (rI0 fun i j => .int (f i j))) : OpR X g (lfR (Cx.en X) (qI2 (fun _ _ => True) f)) := by
  refine opR_imp h ?_
  rintro x y H Q ⟨dx, dy, P, Qp, r1, r2, p, t, k⟩
  cases dx <;> cases dy <;> first
    | exact t.elim
    | (rw [Rep] at r1 r2; subst r1 r2
       exact ⟨_, _, rfl, rfl, k.ok _ _ _ _ t.2 rfl p (TK.refl _ _)⟩)
theorem op_qB0 {g : Value → Value → Sem Value} {f : Int → Int → Bool} (h : OpR X g (rI0 fun i j => .bl (f i j))) : OpR X g (lfR (Cx.en X) (qB2 f)) := by
  refine opR_imp h ?_
  rintro x y H Q ⟨dx, dy, P, Qp, r1, r2, p, t, k⟩
  cases dx <;> cases dy <;> first
    | exact t.elim
    | (rw [Rep] at r1 r2; subst r1 r2
       exact ⟨_, _, rfl, rfl, k.ok _ _ _ _ t rfl p (TK.refl _ _)⟩)
def qLe : QR := qB2 fun i j => decide (i ≤ j)
def qGt : QR := qB2 fun i j => decide (j < i)
def qGe : QR := qB2 fun i j => decide (j ≤ i)
theorem op_qle : OpR X (compareOp .LtE) (lfR (Cx.en X) qLe) := op_qB0 op_le
theorem op_qgt : OpR X (compareOp .Gt) (lfR (Cx.en X) qGt) := op_qB0 op_gt
theorem op_qge : OpR X (compareOp .GtE) (lfR (Cx.en X) qGe) := op_qB0 op_ge
def qSub : QR := qI2 (fun _ _ => True) fun i j => i - j
def qMul : QR := qI2 CMul fun i j => i * j
def qMod : QR := qI2 (fun _ j => 0 < j) fun i j => i % j
def qFdiv : QR := qI2 CDiv fun i j => i / j
def qPow : QR := qI2 CPow fun i j => i ^ j.toNat
theorem op_qsub : OpR X (binaryOp .Sub) (lfR (Cx.en X) qSub) := op_qI0 op_sub
theorem op_qmul : OpR X (binaryOp .Mult) (lfR (Cx.en X) qMul) := op_qI op_mul
theorem op_qmod : OpR X (binaryOp .Mod) (lfR (Cx.en X) qMod) := op_qI op_mod
theorem op_qfdiv : OpR X (binaryOp .FloorDiv) (lfR (Cx.en X) qFdiv) := op_qI op_fdiv
theorem op_qpow : OpR X (binaryOp .Pow) (lfR (Cx.en X) qPow) := op_qI op_pow
def qNeg : QU := fun x P Q => match x with
  | .int i => Q (.int (-i)) P
  | _ => False
theorem un_qneg : UnR X (unaryOp .USub) (lfU (Cx.en X) qNeg) := fun pins s σ H x v Q I rx ⟨dx, P, Qp, r1, p, t, k⟩ => by
  refine un_neg pins s σ H x v Q I rx ?_
  cases dx <;> first
    | exact t.elim
    | (rw [Rep] at r1; subst r1
       exact ⟨_, rfl, k.ok _ _ _ _ t rfl p (TK.refl _ _)⟩)

/-! ### + -/
/-- () + t -/
theorem op_catT0 : OpR X (binaryOp .Add) (fun x y H Q => ∃ a b ys, x = .ref a ∧ y = .ref b ∧ SqT X.K H a [] ∧ SqT X.K H b ys ∧ Q (.ref b) H) := by
  intro pins s σ H x y v u Q I rx ry h
  obtain ⟨a, b, ys, rfl, rfl, ha, hb, q⟩ := h
  cases rx
  cases ry
  obtain ⟨its, r, ht, hz⟩ := I.tuple ha
  cases r
  obtain ⟨its2, r2, ht2, hz2⟩ := I.tuple hb
  obtain ⟨⟨cls, dd, data, sl⟩, ho, hc, n, hd⟩ := id ht
  obtain ⟨⟨cls2, dd2, data2, sl2⟩, ho2, hc2, n2, hd2⟩ := id ht2
  simp only at hc hd hc2 hd2
  subst hc hd hc2 hd2
  exact concat_meets ⟨_, ho, rfl⟩ ⟨_, ho2, rfl⟩ noFill_tuple_add seq_tuple_add PySem.F.slot_tuple_add PySem.F.entry_tuple_add (PySem.F.args_tuple_add_2 _ _)
    (PyProof.Rows.tuple_addW0 a b _ _ n n2 dd dd2 sl sl2 rfl) ⟨ho, ho2, ⟨.ref b, H, I, rfl, q⟩⟩
def qAdd : QR := fun x y P Q => match x, y with
  | .int i, .int j => Q (.int (i + j)) P
  | .str i, .str j => i.length + j.length ≤ sizeLine ∧ Q (.str (i ++ j)) P
  | .tup xs, .tup ys => xs.length + ys.length ≤ sizeLine ∧ Q (.tup (xs ++ ys)) P
  | .ref a, .ref b => ∃ xs ys, P a = some (.lst xs) ∧ P b = some (.lst ys) ∧ xs.length + ys.length ≤ sizeLine ∧ ∀ p, P p = none → Q (.ref p) (up P p (.lst (xs ++ ys)))
  | _, _ => False
theorem op_qadd : OpR X (binaryOp .Add) (lfR (Cx.en X) qAdd) := by
  refine opR_imp (op_add.or (op_add_str.or (op_catT0.or (op_catT.or op_cat)))) ?_
  rintro x y H Q ⟨dx, dy, P, Qp, r1, r2, p, t, k⟩
  cases dx with
  | int i =>
    cases dy with
    | int j => rw [Rep] at r1 r2; subst r1 r2; exact .inl ⟨_, _, rfl, rfl, k.ok _ _ _ _ t rfl p (TK.refl _ _)⟩
    | _ => exact t.elim
  | str i =>
    cases dy with
    | str j => rw [Rep] at r1 r2; subst r1 r2; exact .inr (.inl ⟨_, _, rfl, rfl, t.1, k.ok _ _ _ _ t.2 rfl p (TK.refl _ _)⟩)
    | _ => exact t.elim
  | tup xs =>
    cases dy with
    | tup ys =>
      obtain ⟨a, vs, rfl, sq, r⟩ := r1
      obtain ⟨b, us, rfl, sq2, r'⟩ := r2
      have l1 := Reps.length r
      have l2 := Reps.length r'
      cases xs with
      | nil =>
        have e : vs = [] := r
        subst e
        exact .inr (.inr (.inl ⟨a, b, us, rfl, rfl, sq, sq2, k.ok _ _ _ _ t.2 ⟨b, us, rfl, sq2, r'⟩ p (TK.refl _ _)⟩))
      | cons z zs =>
        refine .inr (.inr (.inr (.inl ⟨a, b, vs, us, rfl, rfl, sq, sq2, ?_, by rw [← l1, ← l2]; exact t.1, ?_⟩)))
        · intro e; rw [e] at l1; simp at l1
        · refine ⟨fun e => ?_, fun e q hq => ?_⟩
          · rw [e] at r' l2
            have e2 : ys = [] := List.length_eq_zero_iff.mp (by simpa using l2)
            subst e2
            have t2 : Qp (.tup ((z :: zs) ++ [])) P := t.2
            rw [List.append_nil] at t2
            exact k.ok _ _ _ _ t2 ⟨a, vs, rfl, sq, r⟩ p (TK.refl _ _)
          · exact k.ok _ _ _ _ t.2 ⟨q, vs ++ us, rfl, SqT.new, Reps.tk (TK.new hq) _ _ (Reps.append r r')⟩ (p.hid hq) (TK.new hq)
    | _ => exact t.elim
  | ref a =>
    cases dy with
    | ref b =>
      rw [Rep] at r1 r2; subst r1 r2
      obtain ⟨xs, ys, ha, hb, hl, q⟩ := t
      obtain ⟨vs, e1, h1⟩ := p a _ ha
      obtain ⟨us, e2, h2⟩ := p b _ hb
      refine .inr (.inr (.inr (.inr ⟨a, b, vs, us, rfl, rfl, e1, e2, by rw [← Reps.length h1, ← Reps.length h2]; exact hl, fun q' hq => ?_⟩)))
      exact k.ok _ _ _ _ (q q' (p.free hq)) rfl (p.new hq ⟨_, upd_same, Reps.tk (TK.new hq) _ _ (Reps.append h1 h2)⟩) (TK.new hq)
    | _ => exact t.elim
  | _ => cases dy <;> exact t.elim
end
end PL
namespace PL
open PySem PySem.Spec L2

/-! ### the same value, read twice -/
section
variable {X : Cx} {pins : List (Addr × Obj)} {σ : St} {H : Hp} {s : Shared}
mutual
theorem Rep.inj (I : Inv X pins σ H s) : ∀ (d e : D) (v : V), pure1 d = true → pure1 e = true → Rep X.K H d v → Rep X.K H e v → d = e
  | .non, e, v, _, he, h, h' => by
    rw [Rep] at h; subst h
    cases e <;> simp [Rep, pure1] at he h' ⊢
  | .int i, e, v, _, he, h, h' => by
    rw [Rep] at h; subst h
    cases e <;> simp [Rep, pure1] at he h' ⊢ <;> exact h'
  | .str x, e, v, _, he, h, h' => by
    rw [Rep] at h; subst h
    cases e <;> simp [Rep, pure1] at he h' ⊢ <;> exact h'
  | .tup xs, e, v, hd, he, h, h' => by
    obtain ⟨a, vs, rfl, sq, r⟩ := h
    cases e with
    | tup ys =>
      obtain ⟨b, us, e1, sq', r'⟩ := h'
      cases e1
      have e2 := I.tuple_inj sq sq'
      subst e2
      rw [Reps.inj I xs ys vs (by simpa [pure1] using hd) (by simpa [pure1] using he) r r']
    | _ => simp [Rep, pure1] at he h'
  | .bl _, _, _, h, _, _, _ => by simp [pure1] at h
  | .ref _, _, _, h, _, _, _ => by simp [pure1] at h
  | .ty _, _, _, h, _, _, _ => by simp [pure1] at h
theorem Reps.inj (I : Inv X pins σ H s) : ∀ (ds es : List D) (vs : List V), pures ds = true → pures es = true → Reps X.K H ds vs → Reps X.K H es vs → ds = es
  | [], es, vs, _, _, h, h' => by
    rw [Reps] at h; subst h
    cases es with
    | nil => rfl
    | cons e es => obtain ⟨_, _, q, _⟩ := h'; cases q
  | d :: ds, es, vs, hd, he, h, h' => by
    obtain ⟨v, r, rfl, h1, h2⟩ := h
    cases es with
    | nil => rw [Reps] at h'; cases h'
    | cons e es =>
      obtain ⟨v', r', q, h3, h4⟩ := h'
      cases q
      rw [pures, Bool.and_eq_true] at hd he
      rw [Rep.inj I d e v hd.1 he.1 h1 h3, Reps.inj I ds es r hd.2 he.2 h2 h4]
end
/-- the item u of a list equals x -/
noncomputable def memF (its : List Value) (xs : List D) (x : D) (u : Value) : Bool := by
  classical exact decide (∃ j : Nat, its[j]? = some u ∧ xs[j]? = some x)
theorem memF_at (I : Inv X pins σ H s) {xs : List D} {vs : List V} {its : List Value} {x : D} (hx : pure1 x = true) (hp : pures xs = true) (r : Reps X.K H xs vs) (rv : Vals vs its) {j : Nat} {u : Value} {d : D} (hj : its[j]? = some u) (hd : xs[j]? = some d) : memF its xs x u = decide (d = x) := by
  classical
  unfold memF
  rw [Bool.eq_iff_iff]
  simp only [decide_eq_true_eq]
  constructor
  · rintro ⟨i, h1, h2⟩
    obtain ⟨v, e1, e2⟩ := r.get hd
    obtain ⟨v', e3, e4⟩ := r.get h2
    obtain ⟨u1, q1, q2⟩ := rv.get e1
    obtain ⟨u2, q3, q4⟩ := rv.get e3
    rw [hj] at q1; cases q1
    rw [h1] at q3; cases q3
    have ev : v = v' := q2.inj q4
    subst ev
    exact Rep.inj I d x v (pures_all.mp hp d (List.mem_of_getElem? hd)) hx e2 e4
  · intro e
    exact ⟨j, hj, by rw [hd, e]⟩
theorem any_at {α : Type} {its : List Value} {f : Value → Bool} {g : α → Bool} {xs : List α} (hl : its.length = xs.length) (h : ∀ (j : Nat) u d, its[j]? = some u → xs[j]? = some d → f u = g d) : its.any f = xs.any g := by
  induction its generalizing xs with
  | nil => cases xs with
    | nil => rfl
    | cons _ _ => simp at hl
  | cons u us ih => cases xs with
    | nil => simp at hl
    | cons d ds =>
      rw [List.any_cons, List.any_cons, h 0 u d rfl rfl, ih (by simpa using hl) fun j u d h1 h2 => h (j + 1) u d (by simpa using h1) (by simpa using h2)]
theorem eqAt_pure (I : Inv X pins σ H s) {A : Around} {x y : D} {vx vy : V} {ux uy : Value} (hx : pure1 x = true) (hy : pure1 y = true) (rx : Rep X.K H x vx) (ry : Rep X.K H y vy) (qx : RelV vx ux) (qy : RelV vy uy) (hu : A.units + min (dep y) (dep x) < cLine) :
    SeqAt.EqAt A s uy ux (decide (y = x)) := by
  obtain ⟨as, q1⟩ := Dp.reads I _ vx ux (rep_dp x vx hx rx) qx
  obtain ⟨bs, q2⟩ := Dp.reads I _ vy uy (rep_dp y vy hy ry) qy
  have z := SeqAt.eqAt_reads _ _ A s uy ux bs as q2 q1 (toPd_lay y hy) (toPd_lay x hx) (by rw [toPd_dep, toPd_dep]; exact hu)
  rw [eqv_pure y x hy hx] at z
  exact z
end
section
variable {X : Cx}
/-- x in a list or tuple of pure data -/
def qInL (neg : Bool) (x : D) (xs : List D) (P : PH) (Q : PK) : Prop := pure1 x = true ∧ pures xs = true ∧ dep x ≤ 63 ∧ Q (.bl (if neg = true then !decide (x ∈ xs) else decide (x ∈ xs))) P
theorem any_mem {x : D} : ∀ {xs : List D}, xs.any (fun d => decide (d = x)) = decide (x ∈ xs)
  | [] => by simp
  | y :: xs => by
    rw [List.any_cons, any_mem, Bool.eq_iff_iff]
    simp only [Bool.or_eq_true, decide_eq_true_eq, List.mem_cons]
    constructor
    · rintro (h | h)
      · exact .inl h.symm
      · exact .inr h
    · rintro (h | h)
      · exact .inl h.symm
      · exact .inr h
theorem in_pure {neg : Bool} {op : CmpOp} (hop : op = if neg = true then .NotIn else .In) (hu : X.A.units + 64 < cLine) {pins : List (Addr × Obj)} {s : Shared} {σ : St} {H : Hp} {v : V} {u : Value} {p : Addr} {vs : List V} {x : D} {xs : List D} {Q : VK}
    (I : Inv X pins σ H s) (hq : SqL X.K H p vs ∨ SqT X.K H p vs) (r : Reps X.K H xs vs) (rx : Rep X.K H x v) (rv : RelV v u) (hx : pure1 x = true) (hp : pures xs = true) (hd : dep x ≤ 63)
    (q : Q (.bl (if neg = true then !decide (x ∈ xs) else decide (x ∈ xs))) H) : wpAny (model X.prog X.w) X.A (compareOp op u (.ref p)) (EP X pins σ Q) X.xe s := by
  have key : ∀ {its : List Value}, Vals vs its → (∀ w ∈ its.toArray, SeqAt.EqAt X.A.in1 s w u (memF its xs x w)) ∧ its.toArray.any (memF its xs x) = decide (x ∈ xs) := fun {its} ri => by
    have l1 := Reps.length r
    have l2 := ri.length
    refine ⟨fun w hw => ?_, ?_⟩
    · obtain ⟨j, hj⟩ := List.getElem?_of_mem (show w ∈ its by simpa using hw)
      have hlt : j < its.length := (List.getElem?_eq_some_iff.mp hj).1
      have hd' : xs[j]? = some xs[j] := List.getElem?_eq_getElem (by omega)
      rw [memF_at I hx hp r ri hj hd']
      obtain ⟨vy, e1, e2⟩ := r.get hd'
      obtain ⟨uy, e3, e4⟩ := ri.get e1
      rw [hj] at e3; cases e3
      refine eqAt_pure I hx (pures_all.mp hp _ (List.mem_of_getElem? hd')) rx e2 rv e4 ?_
      have e5 : X.A.in1.units = X.A.units + 1 := Around.in1_units ..
      rw [e5]
      have := Nat.min_le_right (dep xs[j]) (dep x)
      omega
    · rw [List.any_toArray, any_at (g := fun d => decide (d = x)) (by omega) fun j u d h1 h2 => memF_at I hx hp r ri h1 h2, any_mem]
  rcases hq with hq | hq
  · obtain ⟨its, ri, pl, hz⟩ := I.list hq
    obtain ⟨k1, k2⟩ := key ri
    cases neg with
    | false =>
      rw [if_neg (by decide)] at hop; subst hop
      exact SeqAt.in_listAt _ pl.isList k1 ⟨.bl _, H, I, rfl, by rw [k2]; exact q⟩
    | true =>
      rw [if_pos rfl] at hop; subst hop
      exact SeqAt.notIn_listAt _ pl.isList k1 ⟨.bl _, H, I, rfl, by rw [k2]; exact q⟩
  · obtain ⟨its, ri, pl, hz⟩ := I.tuple hq
    obtain ⟨k1, k2⟩ := key ri
    cases neg with
    | false =>
      rw [if_neg (by decide)] at hop; subst hop
      exact SeqAt.in_tupleAt _ pl k1 ⟨.bl _, H, I, rfl, by rw [k2]; exact q⟩
    | true =>
      rw [if_pos rfl] at hop; subst hop
      exact SeqAt.notIn_tupleAt _ pl k1 ⟨.bl _, H, I, rfl, by rw [k2]; exact q⟩

/-! ### dicts at the heap -/
def keyS : D → Bool
  | .int _ => true
  | .str _ => true
  | _ => false
/-- a key that fits the dict -/
def KeyFor (kvs : List (D × D)) (k : D) : Prop := (keyS k = true ∧ ∀ e ∈ kvs, keyS e.1 = true) ∨ (KeyT k ∧ ∀ e ∈ kvs, isTup e.1 = true)
mutual
theorem nk_of {pins : List (Addr × Obj)} {σ : St} {H : Hp} {s : Shared} (I : Inv X pins σ H s) : ∀ (d : D) (v : V) (u : Value), keyOk d = true → Rep X.K H d v → RelV v u → NestedIs s.heap (toKey d) u
  | .non, v, u, _, h, r => by rw [Rep] at h; subst h; cases r; rw [toKey]; exact .none
  | .bl b, v, u, _, h, r => by rw [Rep] at h; subst h; cases r; rw [toKey]; exact .bool rfl
  | .int i, v, u, _, h, r => by rw [Rep] at h; subst h; obtain ⟨t, rfl⟩ := r; rw [toKey]; exact .int _ _
  | .str x, v, u, _, h, r => by rw [Rep] at h; subst h; obtain ⟨t, rfl⟩ := r; rw [toKey]; exact .text _ _
  | .tup xs, v, u, k, h, r => by
    obtain ⟨a, vs, rfl, sq, rr⟩ := h
    cases r
    obtain ⟨its, rv, ⟨o, ho, hc, n, hd⟩, hz⟩ := I.tuple sq
    rw [toKey]
    exact .tup ho hc hd (by simpa using nks_of I xs vs its (by simpa [keyOk] using k) rr rv)
  | .ref _, _, _, h, _, _ => by simp [keyOk] at h
  | .ty _, _, _, h, _, _ => by simp [keyOk] at h
theorem nks_of {pins : List (Addr × Obj)} {σ : St} {H : Hp} {s : Shared} (I : Inv X pins σ H s) : ∀ (ds : List D) (vs : List V) (us : List Value), keysOk ds = true → Reps X.K H ds vs → Vals vs us → NestedAll s.heap (toKeys ds) us
  | [], vs, us, _, h, r => by rw [Reps] at h; subst h; cases r; rw [toKeys]; exact .nil
  | d :: ds, vs, us, k, h, r => by
    obtain ⟨v, vr, rfl, h1, h2⟩ := h
    rw [keysOk, Bool.and_eq_true] at k
    cases r with
    | cons r1 r2 =>
      rw [toKeys]
      exact .cons (nk_of I d v _ k.1 h1 r1) (nks_of I ds vr _ k.2 h2 r2)
end
theorem keyT_is {pins : List (Addr × Obj)} {σ : St} {H : Hp} {s : Shared} (I : Inv X pins σ H s) {d : D} {v : V} (k : KeyT d) (r : Rep X.K H d v) : ∃ b, v = .ref b ∧ (nestedKind X.prog X.w).is s.heap (toKey d) b := by
  obtain ⟨k1, k2, k3⟩ := k
  cases d with
  | tup xs =>
    obtain ⟨b, vs, e, sq, rr⟩ := id r
    subst e
    exact ⟨b, rfl, nk_of I _ _ _ k2 r rfl, k3⟩
  | _ => simp [isTup] at k1
theorem DX.all {pins : List (Addr × Obj)} {σ : St} {H : Hp} {s : Shared} (I : Inv X pins σ H s) : ∀ {kvs : List (D × D)} {xs : List (NestedKey × Addr × Value)}, DX X.K H kvs xs → ∀ x ∈ xs, (nestedKind X.prog X.w).is s.heap x.1 x.2.1
  | [], xs, h => by have e : xs = [] := h; subst e; intro x hx; cases hx
  | e :: es, xs, h => by
    obtain ⟨b, u, r, rfl, h1, h2, _, h4⟩ := h
    intro x hx
    rcases List.mem_cons.mp hx with rfl | hx
    · obtain ⟨b', e', q⟩ := keyT_is I h1 h2
      cases e'
      exact q
    · exact DX.all I h4 x hx
theorem DX.length {K : PySem.W.Frag} {H : Hp} : ∀ {kvs : List (D × D)} {xs : List (NestedKey × Addr × Value)}, DX K H kvs xs → kvs.length = xs.length
  | [], xs, h => by have e : xs = [] := h; subst e; rfl
  | e :: es, xs, h => by
    obtain ⟨b, u, r, rfl, h1, h2, _, h4⟩ := h
    simp [DX.length h4]
theorem DK.length {K : PySem.W.Frag} {H : Hp} : ∀ {kvs : List (D × D)} {xs : List (Key × V)}, DK K H kvs xs → kvs.length = xs.length
  | [], xs, h => by have e : xs = [] := h; subst e; rfl
  | e :: es, xs, h => by
    obtain ⟨k, v, r, rfl, h1, h2, h4⟩ := h
    simp [DK.length h4]
theorem toKey_kD (k : Key) : toKey (kD k) = match k with
    | .inl i => .num i
    | .inr x => .text x := by cases k <;> simp [kD, toKey]
theorem keq_kD (a b : Key) : keq (kD a) (kD b) = decide (a = b) := by
  unfold keq
  rw [toKey_kD, toKey_kD, Bool.eq_iff_iff]
  cases a <;> cases b <;> simp
theorem DK.find {K : PySem.W.Frag} {H : Hp} (k : Key) : ∀ {kvs : List (D × D)} {gs : List (Key × V)}, DK K H kvs gs → (∀ d, dLook kvs (kD k) = some d → ∃ v, valV gs k = some v ∧ Rep K H d v) ∧ (dLook kvs (kD k) = none → valV gs k = none)
  | [], gs, h => by have e : gs = [] := h; subst e; exact ⟨fun d e => by simp [dLook] at e, fun _ => rfl⟩
  | e :: es, gs, h => by
    obtain ⟨x, v, r, rfl, h1, h2, h4⟩ := h
    obtain ⟨i1, i2⟩ := DK.find k h4
    unfold dLook valV at *
    simp only [List.find?_cons, h1, keq_kD]
    by_cases hk : x = k
    · simp only [hk, decide_true, Option.map_some]
      exact ⟨fun d e => by cases e; exact ⟨v, rfl, h2⟩, fun e => nomatch e⟩
    · simp only [hk, decide_false]
      exact ⟨i1, i2⟩
theorem DX.find {K : PySem.W.Frag} {H : Hp} (k : D) : ∀ {kvs : List (D × D)} {xs : List (NestedKey × Addr × Value)}, DX K H kvs xs → (∀ d, dLook kvs k = some d → ∃ p v, atKey xs (toKey k) = some p ∧ RelV v p.2 ∧ Rep K H d v) ∧ (dLook kvs k = none → atKey xs (toKey k) = none)
  | [], xs, h => by have e : xs = [] := h; subst e; exact ⟨fun d e => by simp [dLook] at e, fun _ => rfl⟩
  | e :: es, xs, h => by
    obtain ⟨b, u, r, rfl, h1, h2, ⟨v, h5, h6⟩, h4⟩ := h
    obtain ⟨i1, i2⟩ := DX.find k h4
    unfold dLook atKey keq at *
    simp only [List.find?_cons]
    by_cases hk : toKey e.1 = toKey k
    · simp only [hk, decide_true, Option.map_some]
      exact ⟨fun d e => by cases e; exact ⟨(b, u), v, rfl, h5, h6⟩, fun e => nomatch e⟩
    · simp only [hk, decide_false]
      exact ⟨i1, i2⟩
theorem dHas_look (kvs : List (D × D)) (k : D) : dHas kvs k = (dLook kvs k).isSome := by
  unfold dHas dLook
  induction kvs with
  | nil => rfl
  | cons e es ih =>
    rw [List.any_cons, List.find?_cons]
    cases h : keq e.1 k with
    | true => rfl
    | false => rw [Bool.false_or]; exact ih
/-- the dict at the address, as a dict with keys that are tuples -/
theorem dictH_of {pins : List (Addr × Obj)} {σ : St} {H : Hp} {s : Shared} (I : Inv X pins σ H s) {a : Addr} {u : HO} {kvs : List (D × D)} (e : Rd H a u) (r : DRep (Cx.en X) H a u kvs) (hk : ∀ p ∈ kvs, isTup p.1 = true) :
    ∃ xs, DX X.K H kvs xs ∧ s.heap.DictOfH (nestedKind X.prog X.w) a xs ∧ (a == sysModules) = false ∧ xs.length ≤ sizeLine := by
  rcases r with ⟨gs, rfl, r⟩ | ⟨hn, xs, rfl, r⟩
  · cases kvs with
    | cons p ps =>
      obtain ⟨k, v, r', rfl, h1, _⟩ := r
      have := hk p List.mem_cons_self
      rw [h1] at this
      cases k <;> simp [kD, isTup] at this
    | nil =>
      have e1 : gs = [] := r
      subst e1
      obtain ⟨z, hd, vs, rel, o, es, ep, ho, hx, hdat, _, he, hnd⟩ := dk_rd I.hok e
      cases rel
      have he' : es.toList = [] := by
        cases q : es.toList with
        | nil => rfl
        | cons _ _ => rw [q] at he; cases he
      refine ⟨[], rfl, ⟨o, es, ep, ho, hx, hdat, by simpa using he', ?_, List.nodup_nil⟩, hd, Nat.zero_le _⟩
      intro x hx
      exact absurd hx (by simp)
  · have ob := e.ok I.hok
    obtain ⟨⟨hd, hz, hnd, o, es, ep, ho, hx, hdat, he⟩, _, _⟩ := ob
    exact ⟨xs, r, ⟨o, es, ep, ho, hx, hdat, he, r.all I, hnd⟩, hd, hz⟩
/-- .. with keys that are ints and texts -/
theorem dictK_of {H : Hp} {a : Addr} {u : HO} {kvs : List (D × D)} (r : DRep (Cx.en X) H a u kvs) (hk : ∀ p ∈ kvs, keyS p.1 = true) : ∃ gs, u = .dK gs ∧ DK X.K H kvs gs := by
  rcases r with ⟨gs, rfl, r⟩ | ⟨hn, xs, rfl, r⟩
  · exact ⟨gs, rfl, r⟩
  · cases kvs with
    | nil => exact absurd rfl hn
    | cons p ps =>
      obtain ⟨b, u, r', rfl, h1, _⟩ := r
      have := hk p List.mem_cons_self
      cases hp : p.1 <;> rw [hp] at this h1 <;> simp [keyS] at this <;> exact absurd h1.1 (by simp [isTup])
theorem keyS_kD {d : D} (h : keyS d = true) : ∃ k, d = kD k := by
  cases d with
  | int i => exact ⟨.inl i, rfl⟩
  | str x => exact ⟨.inr x, rfl⟩
  | _ => simp [keyS] at h
theorem rep_kD {K : PySem.W.Frag} {H : Hp} {k : Key} {v : V} (h : Rep K H (kD k) v) : v = kV k := by cases k <;> exact h
/-- a dict that may be read -/
def RdD (P : PH) (a : Addr) (kvs : List (D × D)) : Prop := P a = some (.dct kvs) ∨ P a = some (.dcl kvs)
theorem RdD.rd {G : En} {H : Hp} {P : PH} {a : Addr} {kvs : List (D × D)} (h : RdD P a kvs) (p : RepH G H P) : ∃ u, Rd H a u ∧ DRep G H a u kvs := by
  rcases h with h | h
  · obtain ⟨u, e, r⟩ := p a _ h
    exact ⟨u, .inl e, r⟩
  · obtain ⟨o, u, e, r⟩ := p a _ h
    exact ⟨u, .inr ⟨o, e⟩, r⟩
theorem nk_room {A : Around} (hu : A.units + 64 < cLine) : (nestedKind X.prog X.w).room A.in1 := by
  show A.in1.units + 8 < cLine
  have e5 : A.in1.units = A.units + 1 := Around.in1_units ..
  omega
end
end PL
namespace PL
open PySem PySem.Spec L2

theorem Inv.rd_un {X : Cx} {pins : List (Addr × Obj)} {σ : St} {H : Hp} {s : Shared} {a : Addr} {u v : HO} (h : H a = some u) (e : Rd H a v) (hn : ∀ o w, u ≠ .frz o w) : u = v := by
  rcases e with e | ⟨o, e⟩
  · rw [h] at e; exact Option.some.inj e
  · rw [h] at e; exact absurd (Option.some.inj e) (hn _ _)
theorem dPut_any (kvs : List (D × D)) (k v : D) : dPut kvs k v = if (dLook kvs k).isSome = true then kvs.map (fun e => if keq e.1 k = true then (e.1, v) else e) else kvs ++ [(k, v)] := by
  unfold dPut
  rw [dHas_look]
theorem dPut_length (kvs : List (D × D)) (k v : D) : (dPut kvs k v).length ≤ kvs.length + 1 := by
  unfold dPut; split <;> simp
theorem dPut_ne (kvs : List (D × D)) (k v : D) : dPut kvs k v ≠ [] := by
  unfold dPut
  split
  · rename_i h
    cases kvs with
    | nil => simp [dHas] at h
    | cons e es => simp
  · simp
theorem DK.put {K : PySem.W.Frag} {H : Hp} {k : Key} {d : D} {v : V} (hv : Rep K H d v) {kvs : List (D × D)} {gs : List (Key × V)} (h : DK K H kvs gs) : DK K H (dPut kvs (kD k) d) (putK gs k v) := by
  have m : ∀ {kvs : List (D × D)} {gs : List (Key × V)}, DK K H kvs gs → DK K H (kvs.map (fun e => if keq e.1 (kD k) = true then (e.1, d) else e)) (gs.map (fun kv => if kv.1 = k then (kv.1, v) else kv)) := by
    intro kvs
    induction kvs with
    | nil => intro gs h; have e : gs = [] := h; subst e; rfl
    | cons e es ih =>
      intro gs h
      obtain ⟨x, u, r, rfl, h1, h2, h4⟩ := h
      rw [List.map_cons, List.map_cons]
      by_cases hk : x = k
      · have e1 : keq e.1 (kD k) = true := by rw [h1, keq_kD, decide_eq_true hk]
        rw [if_pos e1, if_pos hk]
        exact ⟨x, v, _, rfl, h1, hv, ih h4⟩
      · have e1 : ¬ keq e.1 (kD k) = true := by rw [h1, keq_kD, decide_eq_false hk]; decide
        rw [if_neg e1, if_neg hk]
        exact ⟨x, u, _, rfl, h1, h2, ih h4⟩
  have ap : ∀ {kvs : List (D × D)} {gs : List (Key × V)}, DK K H kvs gs → DK K H (kvs ++ [(kD k, d)]) (gs ++ [(k, v)]) := by
    intro kvs
    induction kvs with
    | nil => intro gs h; have e : gs = [] := h; subst e; exact ⟨k, v, [], rfl, rfl, hv, rfl⟩
    | cons e es ih =>
      intro gs h
      obtain ⟨x, u, r, rfl, h1, h2, h4⟩ := h
      exact ⟨x, u, _, rfl, h1, h2, ih h4⟩
  obtain ⟨f1, f2⟩ := h.find k
  rw [dPut_any]
  unfold putK
  rw [valV_any]
  cases e : dLook kvs (kD k) with
  | none =>
    rw [f2 e]
    rw [if_neg (by decide), if_neg (by decide)]
    exact ap h
  | some q =>
    obtain ⟨z, e2, _⟩ := f1 q e
    rw [e2]
    simp only [Option.isSome_some, if_true]
    exact m h
theorem DX.put {K : PySem.W.Frag} {H : Hp} {k d : D} {b : Addr} {u : Value} {v : V} (hk : KeyT k) (hb : Rep K H k (.ref b)) (hv : Rep K H d v) (hu : RelV v u) {kvs : List (D × D)} {xs : List (NestedKey × Addr × Value)} (h : DX K H kvs xs) :
    DX K H (dPut kvs k d) (storedH xs (toKey k) b u) := by
  have m : ∀ {kvs : List (D × D)} {xs : List (NestedKey × Addr × Value)}, DX K H kvs xs → DX K H (kvs.map (fun e => if keq e.1 k = true then (e.1, d) else e)) (xs.map (putAt (toKey k) u)) := by
    intro kvs
    induction kvs with
    | nil => intro gs h; have e : gs = [] := h; subst e; rfl
    | cons e es ih =>
      intro gs h
      obtain ⟨c, w, r, rfl, h1, h2, h3, h4⟩ := h
      rw [List.map_cons, List.map_cons]
      unfold putAt
      by_cases hq : toKey e.1 = toKey k
      · have e1 : keq e.1 k = true := decide_eq_true hq
        rw [if_pos e1, if_pos hq]
        exact ⟨c, u, _, rfl, h1, h2, ⟨v, hu, hv⟩, ih h4⟩
      · have e1 : ¬ keq e.1 k = true := by unfold keq; rw [decide_eq_false hq]; decide
        rw [if_neg e1, if_neg hq]
        exact ⟨c, w, _, rfl, h1, h2, h3, ih h4⟩
  have ap : ∀ {kvs : List (D × D)} {xs : List (NestedKey × Addr × Value)}, DX K H kvs xs → DX K H (kvs ++ [(k, d)]) (xs ++ [(toKey k, b, u)]) := by
    intro kvs
    induction kvs with
    | nil => intro gs h; have e : gs = [] := h; subst e; exact ⟨b, u, [], rfl, hk, hb, ⟨v, hu, hv⟩, rfl⟩
    | cons e es ih =>
      intro gs h
      obtain ⟨c, w, r, rfl, h1, h2, h3, h4⟩ := h
      exact ⟨c, w, _, rfl, h1, h2, h3, ih h4⟩
  obtain ⟨f1, f2⟩ := h.find k
  rw [dPut_any]
  unfold storedH
  cases e : dLook kvs k with
  | none =>
    rw [f2 e, if_neg (by decide), if_neg (by decide)]
    exact ap h
  | some q =>
    obtain ⟨z, _, e2, _⟩ := f1 q e
    rw [e2]
    simp only [Option.isSome_some, if_true]
    exact m h
theorem DX.del {K : PySem.W.Frag} {H : Hp} {k : D} : ∀ {kvs : List (D × D)} {xs : List (NestedKey × Addr × Value)}, DX K H kvs xs → DX K H (dDel kvs k) (withoutH xs (toKey k))
  | [], xs, h => by have e : xs = [] := h; subst e; rfl
  | e :: es, xs, h => by
    obtain ⟨c, w, r, rfl, h1, h2, h3, h4⟩ := h
    have ih := DX.del (k := k) h4
    unfold dDel withoutH at *
    rw [List.filter_cons, List.filter_cons]
    by_cases hq : toKey e.1 = toKey k
    · have e1 : keq e.1 k = true := decide_eq_true hq
      simp only [e1, hq, ne_eq, not_true_eq_false, decide_false, Bool.not_true, Bool.false_eq_true, if_false]
      exact ih
    · have e1 : keq e.1 k = false := decide_eq_false hq
      simp only [e1, hq, ne_eq, not_false_eq_true, decide_true, Bool.not_false, if_true]
      exact ⟨c, w, _, rfl, h1, h2, h3, ih⟩
theorem DK.del {K : PySem.W.Frag} {H : Hp} {k : Key} : ∀ {kvs : List (D × D)} {gs : List (Key × V)}, DK K H kvs gs → DK K H (dDel kvs (kD k)) (dropK gs k)
  | [], xs, h => by have e : xs = [] := h; subst e; rfl
  | e :: es, xs, h => by
    obtain ⟨x, u, r, rfl, h1, h2, h4⟩ := h
    have ih := DK.del (k := k) h4
    unfold dDel dropK at *
    rw [List.filter_cons, List.filter_cons, h1, keq_kD]
    by_cases hq : x = k
    · simp only [hq, ne_eq, not_true_eq_false, decide_false, decide_true, Bool.not_true, Bool.false_eq_true, if_false]
      exact ih
    · simp only [hq, ne_eq, not_false_eq_true, decide_true, decide_false, Bool.not_false, if_true]
      exact ⟨x, u, _, rfl, h1, h2, ih⟩

section
variable {X : Cx} {W : WX}
/-- the object behind a store into a dict with tuples as keys -/
theorem dn_ok {P : Program} {w : World} {H' : Hp} {h' : Heap} {a : Addr} {xs : List (NestedKey × Addr × Value)} (z : xs.length ≤ sizeLine) (hd : (a == sysModules) = false) (dd : h'.DictOfH (nestedKind P w) a xs) : ObjOk P w H' h' a (DN P w a xs) := by
  obtain ⟨o, es, ep, ho, hx, hdat, he, _, hnd⟩ := dd
  refine ⟨⟨hd, z, hnd, o, es, ep, ho, hx, hdat, he⟩, ⟨o, ho⟩, ?_⟩
  rintro h1 h2 ⟨q1, q2, q3, o', es', ep', q4, q5, q6, q7⟩ k
  exact ⟨q1, q2, q3, o', es', ep', k _ q4, q5, q6, q7⟩
theorem dk0_ok {P : Program} {w : World} {H' : Hp} {h' : Heap} {a : Addr} (hd : (a == sysModules) = false) (dd : h'.DictOfH (nestedKind P w) a []) : ObjOk P w H' h' a (.dK []) := by
  obtain ⟨o, es, ep, ho, hx, hdat, he, _, hnd⟩ := dd
  have he' : es.toList = [] := by simpa using he
  refine ⟨Nat.zero_le _, hd, [], .nil, o, es, ep, ho, hx, hdat, ?_, by rw [he']; exact .nil, List.nodup_nil⟩
  intro e hm
  have : e ∈ es.toList := by simpa using hm
  rw [he'] at this; cases this
theorem mut_of {H : Hp} {a : Addr} {u : HO} {G : En} {kvs : List (D × D)} (e : H a = some u) (r : DRep G H a u kvs) : Mut (H a) := by
  rw [e]
  rcases r with ⟨gs, rfl, _⟩ | ⟨_, xs, rfl, _⟩ <;> trivial
theorem noTup_of {H : Hp} {a : Addr} {u : HO} {G : En} {kvs : List (D × D)} (e : H a = some u) (r : DRep G H a u kvs) : NoTup (H a) := by
  rw [e]
  rcases r with ⟨gs, rfl, _⟩ | ⟨_, xs, rfl, _⟩ <;> trivial
/-- d[k] = v -/
theorem d_setD (hu : X.A.units + 64 < cLine) {pins : List (Addr × Obj)} {s : Shared} {σ : St} {H : Hp} {a : Addr} {k d : D} {y v : V} {uy uv : Value} {kvs : List (D × D)} {P : PH} {Qp : PH → Prop} {Q : Hp → Prop} (I : Inv X pins σ H s) (p : RepH (Cx.en X) H P)
    (ha : P a = some (.dct kvs)) (kf : KeyFor kvs k) (hz : kvs.length < sizeLine) (rk : Rep X.K H k y) (rd : Rep X.K H d v) (ry : RelV y uy) (rv : RelV v uv) (q : Qp (up P a (.dct (dPut kvs k d)))) (kk : KH (Cx.en X) H Qp Q) :
    wpAny (model X.prog X.w) X.A (setItem (.ref a) uy uv) (fun _ s' => ∃ H', Inv X pins σ H' s' ∧ Q H') X.xe s := by
  obtain ⟨u, e, r⟩ := p a _ ha
  have hu1 : X.A.units + 1 < cLine := by omega
  rcases kf with ⟨k1, k2⟩ | ⟨k1, k2⟩
  · obtain ⟨gs, rfl, dk⟩ := dictK_of r k2
    obtain ⟨kx, rfl⟩ := keyS_kD k1
    have ey := rep_kD rk
    subst ey
    refine d_setItem hu1 I (DPut.k (v := v) e (by rw [← dk.length]; exact hz)) ry rv fun s' I' => ⟨_, I', ?_⟩
    have n : NoTup (H a) := by rw [e]; trivial
    exact kk.ok _ _ q (p.write n ⟨_, upd_same, .inl ⟨_, rfl, (dk.put rd).tk (TK.upd n)⟩⟩) (TK.upd n)
  · obtain ⟨xs, dx, dd, hd, hl⟩ := dictH_of I (.inl e) r k2
    obtain ⟨b, rfl, kis⟩ := keyT_is I k1 rk
    cases ry
    refine wpAny_setItem_heap (hsz := hl) (nk_room hu) kis dd fun h' dd' hs => ?_
    have hl2 : (storedH xs (toKey k) b uv).length ≤ sizeLine := by
      have z := (dx.put k1 rk rd rv).length
      have z2 := dPut_length kvs k d
      omega
    have n : NoTup (H a) := noTup_of e r
    refine ⟨upd H a (DN X.prog X.w a (storedH xs (toKey k) b uv)), d_write I (mut_of e r) hs (let ⟨q, _, _, hq, _⟩ := dd'; ⟨q, hq⟩) (dn_ok hl2 hd dd'), ?_⟩
    exact kk.ok _ _ q (p.write n ⟨_, upd_same, .inr ⟨dPut_ne _ _ _, _, rfl, (dx.put k1 rk rd rv).tk (TK.upd n)⟩⟩) (TK.upd n)
/-- o[i] = v of a list or a dict -/
def qSet : QSet := fun o i v P Q => match o with
  | .ref a => (∃ xs k j, P a = some (.lst xs) ∧ i = .int k ∧ ixN xs.length k = some j ∧ Q (up P a (.lst (xs.set j v)))) ∨
      ∃ kvs, P a = some (.dct kvs) ∧ KeyFor kvs i ∧ kvs.length < sizeLine ∧ Q (up P a (.dct (dPut kvs i v)))
  | _ => False
theorem set_q (hu : X.A.units + 64 < cLine) : PSet X (lfSet (Cx.en X) qSet) := by
  intro pins s σ H o i v ov iv u Q I ro ri rv ⟨od, id, vd, P, Qp, r1, r2, r3, p, t, k⟩
  cases od with
  | ref a =>
    rw [Rep] at r1; subst r1
    cases ro
    rcases t with ⟨xs, kx, j, ha, hi, hj, q⟩ | ⟨kvs, ha, kf, hz, q⟩
    · subst hi
      rw [Rep] at r2; subst r2
      obtain ⟨vs, e, rr⟩ := p a _ ha
      have n : NoTup (H a) := by rw [e]; trivial
      refine set_list pins s σ H (.ref a) (.int kx) v _ iv u Q I rfl ri rv ⟨a, vs, kx, j, rfl, rfl, e, by rw [← Reps.length rr]; exact hj, ?_⟩
      exact k.ok _ _ q (p.write n ⟨_, upd_same, Reps.tk (TK.upd n) _ _ (Reps.set r3 j rr)⟩) (TK.upd n)
    · exact d_setD hu I p ha kf hz r2 r3 ri rv q k
  | _ => exact t.elim

/-! ### in, not in -/
theorem d_look (hu : X.A.units + 64 < cLine) {pins : List (Addr × Obj)} {s : Shared} {σ : St} {H : Hp} {a : Addr} {k : D} {y : V} {uy : Value} {kvs : List (D × D)} {P : PH} (I : Inv X pins σ H s) (p : RepH (Cx.en X) H P)
    (ha : RdD P a kvs) (kf : KeyFor kvs k) (rk : Rep X.K H k y) (ry : RelV y uy) :
    (∃ gs kx, Rd H a (.dK gs) ∧ k = kD kx ∧ y = kV kx ∧ DK X.K H kvs gs) ∨ ∃ xs b, DX X.K H kvs xs ∧ s.heap.DictOfH (nestedKind X.prog X.w) a xs ∧ (a == sysModules) = false ∧ xs.length ≤ sizeLine ∧ uy = .ref b ∧ (nestedKind X.prog X.w).is s.heap (toKey k) b := by
  obtain ⟨u, e, r⟩ := ha.rd p
  rcases kf with ⟨k1, k2⟩ | ⟨k1, k2⟩
  · obtain ⟨gs, rfl, dk⟩ := dictK_of r k2
    obtain ⟨kx, rfl⟩ := keyS_kD k1
    exact .inl ⟨gs, kx, e, rfl, rep_kD rk, dk⟩
  · obtain ⟨xs, dx, dd, hd, hl⟩ := dictH_of I e r k2
    obtain ⟨b, rfl, kis⟩ := keyT_is I k1 rk
    cases ry
    exact .inr ⟨xs, b, dx, dd, hd, hl, rfl, kis⟩
theorem isSome_K {K : PySem.W.Frag} {H : Hp} {kvs : List (D × D)} {gs : List (Key × V)} (dk : DK K H kvs gs) (k : Key) : (valV gs k).isSome = dHas kvs (kD k) := by
  obtain ⟨f1, f2⟩ := dk.find k
  rw [dHas_look]
  cases e : dLook kvs (kD k) with
  | none => rw [f2 e]; rfl
  | some d => obtain ⟨v, e2, _⟩ := f1 d e; rw [e2]; rfl
theorem isSome_X {K : PySem.W.Frag} {H : Hp} {kvs : List (D × D)} {xs : List (NestedKey × Addr × Value)} (dx : DX K H kvs xs) (k : D) : (atKey xs (toKey k)).isSome = dHas kvs k := by
  obtain ⟨f1, f2⟩ := dx.find k
  rw [dHas_look]
  cases e : dLook kvs k with
  | none => rw [f2 e]; rfl
  | some d => obtain ⟨v, _, e2, _⟩ := f1 d e; rw [e2]; rfl
/-- the one text within the other -/
def subS (i j : Str) : Bool := !(Builtin.Str.occurrences j i 0 j.length 1).isEmpty
def qIn (neg : Bool) : QR := fun x y P Q => match y with
  | .tup xs => qInL neg x xs P Q
  | .str j => match x with
    | .str i => Q (.bl (if neg = true then !subS i j else subS i j)) P
    | _ => False
  | .ref a => (∃ xs, RdL P a xs ∧ qInL neg x xs P Q) ∨ ∃ kvs, RdD P a kvs ∧ KeyFor kvs x ∧ Q (.bl (if neg = true then !dHas kvs x else dHas kvs x)) P
  | _ => False
theorem in_qG {neg : Bool} {op : CmpOp} (hop : op = if neg = true then .NotIn else .In) (hu : X.A.units + 64 < cLine) : OpR X (compareOp op) (lfR (Cx.en X) (qIn neg)) := by
  intro pins s σ H x y v u Q I rx ry ⟨dx, dy, P, Qp, r1, r2, p, t, k⟩
  have fin : ∀ {b : Bool}, Qp (.bl b) P → Q (.bl b) H := fun q => k.ok _ _ _ _ q rfl p (TK.refl _ _)
  cases dy with
  | tup xs =>
    obtain ⟨a, vs, rfl, sq, rr⟩ := r2
    cases ry
    obtain ⟨h1, h2, h3, h4⟩ := t
    exact in_pure hop hu I (.inr sq) rr r1 rx h1 h2 h3 (fin h4)
  | str j =>
    cases dx with
    | str i =>
      rw [Rep] at r1 r2; subst r1 r2
      obtain ⟨t1, rfl⟩ := rx
      obtain ⟨t2, rfl⟩ := ry
      cases neg with
      | false =>
        rw [if_neg (by decide)] at hop; subst hop
        exact PyProof.Rows.in_str ⟨.bl _, H, I, rfl, fin t⟩
      | true =>
        rw [if_pos rfl] at hop; subst hop
        exact PyProof.Rows.notIn_str ⟨.bl _, H, I, rfl, fin t⟩
    | _ => exact t.elim
  | ref a =>
    rw [Rep] at r2; subst r2
    cases ry
    rcases t with ⟨xs, ha, h1, h2, h3, h4⟩ | ⟨kvs, ha, kf, q⟩
    · obtain ⟨vs, sq, rr⟩ := ha.sq p
      exact in_pure hop hu I (.inl sq) rr r1 rx h1 h2 h3 (fin h4)
    · have hu1 : X.A.units + 1 < cLine := by omega
      rcases d_look hu I p ha kf r1 rx with ⟨gs, kx, e, rfl, rfl, dk⟩ | ⟨xs, b, dx', dd, hd, hl, rfl, kis⟩
      · have g : DGet H a (kV kx) (valV gs kx) := .inl ⟨gs, kx, e, rfl, rfl⟩
        rw [← isSome_K dk] at q
        cases neg with
        | false =>
          rw [if_neg (by decide)] at hop; subst hop
          exact d_in hu1 I g rx fun s' I' => ⟨.bl _, H, I', rfl, fin q⟩
        | true =>
          rw [if_pos rfl] at hop; subst hop
          exact d_notIn hu1 I g rx fun s' I' => ⟨.bl _, H, I', rfl, fin q⟩
      · rw [← isSome_X dx'] at q
        cases neg with
        | false =>
          rw [if_neg (by decide)] at hop; subst hop
          exact wpAny_in_heap (nk_room hu) kis hd dd ⟨.bl _, H, I.tok _, rfl, fin q⟩
        | true =>
          rw [if_pos rfl] at hop; subst hop
          refine notIn_keyed (nk_room hu) kis hd ⟨xs, dd, rfl⟩ ⟨.bl _, H, I.tok _, rfl, ?_⟩
          rw [valueAt_pairsH, Option.isSome_map]
          exact fin q
  | _ => exact t.elim
theorem op_qin (hu : X.A.units + 64 < cLine) : OpR X (compareOp .In) (lfR (Cx.en X) (qIn false)) := in_qG (neg := false) rfl hu
theorem op_qnotin (hu : X.A.units + 64 < cLine) : OpR X (compareOp .NotIn) (lfR (Cx.en X) (qIn true)) := in_qG (neg := true) rfl hu

/-! ### subscripts -/
def qIx : QR := fun x y P Q => match x with
  | .tup xs => ∃ i d, y = .int i ∧ atI xs i = some d ∧ Q d P
  | .str z => ∃ i c, y = .int i ∧ z.length ≤ sizeLine ∧ atI z.cps.toList i = some c ∧ Q (.str ⟨#[c]⟩) P
  | .ref a => (∃ xs i d, RdL P a xs ∧ y = .int i ∧ atI xs i = some d ∧ Q d P) ∨ ∃ kvs d, RdD P a kvs ∧ KeyFor kvs y ∧ dLook kvs y = some d ∧ Q d P
  | _ => False
theorem atI_rep {K : PySem.W.Frag} {H : Hp} {xs : List D} {vs : List V} {i : Int} {d : D} (r : Reps K H xs vs) (h : atI xs i = some d) : ∃ v, atI vs i = some v ∧ Rep K H d v := by
  unfold atI at h ⊢
  rw [← Reps.length r]
  cases e : ixN xs.length i with
  | none => rw [e] at h; cases h
  | some j =>
    rw [e] at h
    exact r.get h
theorem tailD {prog : Program} {w : World} {A : Around} {E : Value → Shared → Prop} {s : Shared} {value slice : Expr} {o i : Value} {Q : Value → Shared → Prop} (hT : s.TypeIs o "dict")
    (hs : subscripted slice false o i = operate [o, i] (getItem o i)) (h : wpAny (model prog w) A (getItem o i) Q E s) : wpAny (model prog w) A (PyProof.Rows.subscriptTail value slice o i) Q E s := by
  unfold PyProof.Rows.subscriptTail
  refine wpAny_bind ?_
  rw [getitemInPython_of_ne hT.not_modules]
  refine wpAny_bind (wpAny_specialOf hT PySem.F.slot_dict_getitem.lookup ?_)
  have fin : wpAny (model prog w) A (subscripted slice false o i) (fun r s₃ => wpAny (model prog w) A (letTemporaryGo value o r >>= fun _ => pure r) Q E s₃) E s := by
    rw [hs]
    exact wpAny_operating (wpAny_mono h (fun r s₃ h₃ => wpAny_bind (wpAny_letTemporaryGo (wpAny_pure h₃))) fun _ _ x => x)
  first
    | exact wpAny_pure (wpAny_bind fin)
    | exact wpAny_bind (wpAny_pure (wpAny_bind fin))
    | exact wpAny_bind fin
theorem ix_q (hu : X.A.units + 64 < cLine) : IxR X (lfR (Cx.en X) qIx) := by
  intro value slice pins s σ H x y v u Q I rx ry ⟨dx, dy, P, Qp, r1, r2, p, t, k⟩ hs
  cases dx with
  | tup xs =>
    obtain ⟨a, vs, rfl, sq, rr⟩ := r1
    obtain ⟨i, d, rfl, hi, q⟩ := t
    rw [Rep] at r2; subst r2
    obtain ⟨w', e1, e2⟩ := atI_rep rr hi
    exact ix_tup value slice pins s σ H _ _ v u Q I rx ry ⟨a, vs, i, w', rfl, rfl, sq, e1, k.ok _ _ _ _ q e2 p (TK.refl _ _)⟩ hs
  | str z =>
    rw [Rep] at r1; subst r1
    obtain ⟨i, c, rfl, hz, hi, q⟩ := t
    rw [Rep] at r2; subst r2
    exact ix_str value slice pins s σ H _ _ v u Q I rx ry ⟨z, i, c, rfl, rfl, hz, hi, k.ok _ _ _ _ q rfl p (TK.refl _ _)⟩ hs
  | ref a =>
    rw [Rep] at r1; subst r1
    rcases t with ⟨xs, i, d, ha, rfl, hi, q⟩ | ⟨kvs, d, ha, kf, hl, q⟩
    · rw [Rep] at r2; subst r2
      obtain ⟨vs, sq, rr⟩ := ha.sq p
      obtain ⟨w', e1, e2⟩ := atI_rep rr hi
      exact ix_list value slice pins s σ H _ _ v u Q I rx ry ⟨a, vs, i, w', rfl, rfl, sq, e1, k.ok _ _ _ _ q e2 p (TK.refl _ _)⟩ hs
    · cases rx
      have hu1 : X.A.units + 1 < cLine := by omega
      rcases d_look hu I p ha kf r2 ry with ⟨gs, kx, e, rfl, rfl, dk⟩ | ⟨xs, b, dx', dd, hd, hz, rfl, kis⟩
      · obtain ⟨w', e1, e2⟩ := (dk.find kx).1 d hl
        have g : DGet H a (kV kx) (some w') := .inl ⟨gs, kx, e, rfl, e1.symm⟩
        exact tailD (dict_typeIs I g) hs (d_getItem hu1 I g ry fun u' s3 I3 r3 => ⟨w', H, I3, r3, k.ok _ _ _ _ q e2 p (TK.refl _ _)⟩)
      · obtain ⟨pr, w', e1, e2, e3⟩ := (dx'.find dy).1 d hl
        exact tailD dd.typeIs hs (wpAny_getItem_heap (nk_room hu) kis dd e1 ⟨w', H, I.tok _, e2, k.ok _ _ _ _ q e3 p (TK.refl _ _)⟩)
  | _ => exact t.elim
theorem qe_ix {a b : Expr} {ta tb : QTE} {pos : Pos} (hu : X.A.units + 64 < cLine) (ha : QE X W a ta) (hb : QE X W b tb) (hs : PlainIx b := by exact fun _ _ => rfl) : QE X W (.Subscript a b pos) (qOp qIx ta tb) := pe_of (pe_ix (ix_q hu) ha hb hs) fun _ _ _ => lf_bin

/-! ### slices -/
abbrev QTO := PSt → PH → (Option Int → PH → Prop) → PX → Prop
abbrev relO : Hp → Option Int → Option Int → Prop := fun _ a b => a = b
abbrev QO (X : Cx) (W : WX) (e : Option Expr) (t : QTO) : Prop := PO X e (lf (Cx.en X) W relO t)
theorem po_of {e : Option Expr} {t t' : TO} (h : PO X e t) (i : ∀ σ H Q, t' σ H Q → t σ H Q) : PO X e t' := ⟨fun pins s σ H Q I hw => h.run pins s σ H Q I (i σ H Q hw)⟩
def qNoPart : QTO := fun _ P Q _ => Q none P
def qPart (t : QTE) : QTO := fun σ P Q E => t σ P (fun x P1 => match x with
  | .int i => Q (some i) P1
  | _ => False) E
theorem qo_none : QO X W none qNoPart := po_of po_none fun σ H Q ⟨σp, P, Qp, Ep, rs, p, t, k⟩ => k.ok _ _ _ _ t rfl p (TK.refl _ _)
theorem qo_some {e : Expr} {te : QTE} (h : QE X W e te) : QO X W (some e) (qPart te) := po_of (po_some h) fun σ H Q ⟨σp, P, Qp, Ep, rs, p, t, k⟩ => by
  refine ⟨σp, P, _, Ep, rs, p, t, ⟨fun d P1 v H1 q r p1 k1 => ?_, k.ex⟩⟩
  cases d with
  | int i =>
    rw [Rep] at r; subst r
    exact ⟨i, rfl, k.ok _ _ _ _ q rfl p1 k1⟩
  | _ => exact q.elim
def cutD (xs : List D) (lo hi : Option Int) : List D := (xs.drop (HT.sIx xs.length 0 lo)).take (HT.sIx xs.length xs.length hi - HT.sIx xs.length 0 lo)
theorem cut_rep {K : PySem.W.Frag} {H : Hp} {xs : List D} {vs : List V} (r : Reps K H xs vs) (lo hi : Option Int) : Reps K H (cutD xs lo hi) (cutV vs lo hi) := by
  unfold cutD cutV
  rw [Reps.length r]
  exact (r.drop _).take _
end
end PL
namespace PL
open PySem PySem.Spec L2
section
variable {X : Cx} {W : WX}

/-! ### slices -/
def qSl (te : QTE) (tl th : QTO) : QTE := fun σ P Q E => te σ P (fun x P1 => tl σ P1 (fun lo P2 => th σ P2 (fun hi P3 => match x with
  | .tup xs => Q (.tup (cutD xs lo hi)) P3
  | .str z => z.length ≤ sizeLine ∧ Q (.str (cutS z lo hi)) P3
  | .ref a => ∃ xs, RdL P3 a xs ∧ ∀ p, P3 p = none → Q (.ref p) (up P3 p (.lst (cutD xs lo hi)))
  | _ => False) E) E) E
theorem cutD_all {xs : List D} {lo hi : Option Int} (h : HT.sIx xs.length 0 lo = 0 ∧ HT.sIx xs.length xs.length hi = xs.length) : cutD xs lo hi = xs := by
  unfold cutD
  rw [h.1, h.2]
  simp
theorem qe_slice {e : Expr} {lo hi : Option Expr} {te : QTE} {tl th : QTO} {pos p2 : Pos} (he : QE X W e te) (hl : QO X W lo tl) (hh : QO X W hi th) : QE X W (.Subscript e (.Slice lo hi none p2) pos) (qSl te tl th) := by
  refine pe_of (pe_slice (sl_list.or (sl_tupA.or sl_str)) he hl hh) fun σ H Q ⟨σp, P, Qp, Ep, rs, p, t, k⟩ => ?_
  refine ⟨σp, P, _, Ep, rs, p, t, ⟨fun d P1 v H1 q r p1 k1 => ?_, k.ex⟩⟩
  refine ⟨σp, P1, _, Ep, rs.tk k1, p1, q, ⟨fun l P2 l' H2 q2 e2 p2 k2 => ?_, (k.tk k1).ex⟩⟩
  obtain rfl : l = l' := e2
  refine ⟨σp, P2, _, Ep, rs.tk (k1.trans k2), p2, q2, ⟨fun u P3 u' H3 q3 e3 p3 k3 => ?_, (k.tk (k1.trans k2)).ex⟩⟩
  obtain rfl : u = u' := e3
  have kk := k1.trans (k2.trans k3)
  cases d with
  | tup xs =>
    obtain ⟨a, vs, rfl, sq, rr⟩ := Rep.tk (k2.trans k3) _ _ r
    have hn := Reps.length rr
    refine .inr (.inl ⟨a, vs, rfl, sq, fun h => ?_, fun h b hb => ?_⟩)
    · rw [← hn] at h
      have q3' : Qp (.tup (cutD xs l u)) P3 := q3
      rw [cutD_all h] at q3'
      exact k.ok _ _ _ _ q3' ⟨a, vs, rfl, sq, rr⟩ p3 kk
    · exact k.ok _ _ _ _ q3 ⟨b, _, rfl, SqT.new, Reps.tk (TK.new hb) _ _ (cut_rep rr l u)⟩ (p3.hid hb) (kk.trans (TK.new hb))
  | str z =>
    rw [Rep] at r; subst r
    exact .inr (.inr ⟨z, rfl, q3.1, k.ok _ _ _ _ q3.2 rfl p3 kk⟩)
  | ref a =>
    rw [Rep] at r; subst r
    obtain ⟨xs, ha, q3⟩ := q3
    obtain ⟨vs, sq, rr⟩ := ha.sq p3
    exact .inl ⟨a, vs, rfl, sq, fun b hb => k.ok _ _ _ _ (q3 b (p3.free hb)) rfl (p3.new hb ⟨_, upd_same, Reps.tk (TK.new hb) _ _ (cut_rep rr l u)⟩) (kk.trans (TK.new hb))⟩
  | _ => exact q3.elim

/-! ### calls of built-ins -/
abbrev QC := List D → PH → PK → Prop
def lfC (G : En) (r : QC) : List V → Hp → VK → Prop := fun xs H Q => ∃ ds P Qp, Reps G.K H ds xs ∧ RepH G H P ∧ r ds P Qp ∧ KV0 G H Qp Q
def qCB (r : QC) (t : QTA) : QTE := fun σ P Q E => t σ P (fun ds P1 => r ds P1 Q) E
theorem lf_cb {G : En} {r : QC} {t : QTA} {σ : St} {H : Hp} {Q : VK} (h : lfE G W (qCB r t) σ H Q) : tCB (lfC G r) (lfA G W t) σ H Q := by
  obtain ⟨σp, P, Qp, Ep, rs, p, t, k⟩ := h
  exact ⟨σp, P, _, Ep, rs, p, t, ⟨fun ds P1 vs H1 q r p1 k1 => ⟨ds, P1, Qp, r, p1, q, k.kv k1⟩, k.ex⟩⟩
theorem qe_callB {r : QC} {id : String} {x : Str} {p pos : Pos} {e : Expr} {es : List Expr} {t : QTA} (hc : CallR X (.builtin id) (lfC (Cx.en X) r)) (hm : X.mg x = none) (hv : bootBuiltins x = some (.builtin id)) (ha : QA X W (e :: es) t) (hg : Gl X x := by rfl) (hn : x ≠ "__name__" := by decide) (hdb : (x == ("__debug__" : Str)) = false := by decide)
    (he : starEach (e :: es) X.env = (false, eval e X.env) :: starEach es X.env := by rfl) (hpl : (backTo pos (starEach es X.env)).any (·.1) = false := by rfl) : QE X W (.Call (.Name x p) (e :: es) [] pos) (qCB r t) :=
  pe_of (pe_callB hc hg hm hv ha hn hdb he hpl) fun _ _ _ => lf_cb
theorem qe_callTy {r : QC} {T : String} {x : Str} {p pos : Pos} {e : Expr} {es : List Expr} {t : QTA} (hc : CallR X (.type T) (lfC (Cx.en X) r)) (hm : X.mg x = none) (hv : bootBuiltins x = some (.type T)) (ha : QA X W (e :: es) t) (hg : Gl X x := by rfl) (hn : x ≠ "__name__" := by decide) (hdb : (x == ("__debug__" : Str)) = false := by decide)
    (he : starEach (e :: es) X.env = (false, eval e X.env) :: starEach es X.env := by rfl) (hpl : (backTo pos (starEach es X.env)).any (·.1) = false := by rfl) : QE X W (.Call (.Name x p) (e :: es) [] pos) (qCB r t) :=
  pe_of (pe_callTy hc hg hm hv ha hn hdb he hpl) fun _ _ _ => lf_cb
theorem callR_imp {f : Value} {r r' : List V → Hp → VK → Prop} (h : CallR X f r) (i : ∀ xs H Q, r' xs H Q → r xs H Q) : CallR X f r' := fun pins s σ H xs us Q I rv q => h pins s σ H xs us Q I rv (i xs H Q q)
theorem reps1 {K : PySem.W.Frag} {H : Hp} {d : D} {vs : List V} (h : Reps K H [d] vs) : ∃ v, vs = [v] ∧ Rep K H d v := by
  obtain ⟨v, r, rfl, h1, h2⟩ := h
  have e : r = [] := h2
  subst e
  exact ⟨v, rfl, h1⟩
theorem reps2 {K : PySem.W.Frag} {H : Hp} {d e : D} {vs : List V} (h : Reps K H [d, e] vs) : ∃ v u, vs = [v, u] ∧ Rep K H d v ∧ Rep K H e u := by
  obtain ⟨v, r, rfl, h1, h2⟩ := h
  obtain ⟨u, rfl, h3⟩ := reps1 h2
  exact ⟨v, u, rfl, h1, h3⟩
def q1 (f : D → PH → PK → Prop) : QC := fun ds P Q => match ds with
  | [d] => f d P Q
  | _ => False
theorem q1_inv {f : D → PH → PK → Prop} {ds : List D} {P : PH} {Q : PK} (h : q1 f ds P Q) : ∃ d, ds = [d] ∧ f d P Q := by
  match ds, h with
  | [d], h => exact ⟨d, rfl, h⟩
def q2 (f : D → D → PH → PK → Prop) : QC := fun ds P Q => match ds with
  | [d, e] => f d e P Q
  | _ => False
theorem q2_inv {f : D → D → PH → PK → Prop} {ds : List D} {P : PH} {Q : PK} (h : q2 f ds P Q) : ∃ d e, ds = [d, e] ∧ f d e P Q := by
  match ds, h with
  | [d, e], h => exact ⟨d, e, rfl, h⟩
/-- len -/
def qLen : QC := q1 fun d P Q => match d with
  | .tup xs => Q (.int (xs.length : Nat)) P
  | .str z => z.length ≤ sizeLine ∧ Q (.int (z.length : Nat)) P
  | .ref a => (∃ xs, RdL P a xs ∧ Q (.int (xs.length : Nat)) P) ∨ ∃ kvs, RdD P a kvs ∧ Q (.int (kvs.length : Nat)) P
  | _ => False
theorem len_dn {pins : List (Addr × Obj)} {s : Shared} {σ : St} {H : Hp} {a : Addr} {kvs : List (D × D)} {P : PH} {Q : VK} (I : Inv X pins σ H s) (p : RepH (Cx.en X) H P) (ha : RdD P a kvs) (q : Q (.int (kvs.length : Nat)) H) :
    wpAny (model X.prog X.w) X.A (call (.builtin "len") [.ref a]) (EP X pins σ Q) X.xe s := by
  obtain ⟨u, e, r⟩ := ha.rd p
  rcases r with ⟨gs, rfl, dk⟩ | ⟨hn, xs, rfl, dx⟩
  · exact d_len I e fun t s' I' => ⟨.int (kvs.length : Nat), H, I', ⟨t, by rw [dk.length]⟩, q⟩
  · obtain ⟨⟨hd, hz, hnd, o, es, ep, ho, hx, hdat, he⟩, _, _⟩ := e.ok I.hok
    have dd : s.heap.DictOfH (nestedKind X.prog X.w) a xs := ⟨o, es, ep, ho, hx, hdat, he, dx.all I, hnd⟩
    have hk : s.heap.DictKeyed (nestedKind X.prog X.w) a (pairsH xs) := ⟨xs, dd, rfl⟩
    have hl : (pairsH xs).length = kvs.length := by rw [pairsH_length, dx.length]
    have hs := line63
    refine PyProof.Rows.call_len_slot (n := ((pairsH xs).length : Nat)) dd.typeIs PySem.F.slot_dict_len (fun Q' hq => len_keyed hd hk hq) (by omega) (by rw [pairsH_length]; omega) ?_
    rw [hl]
    exact ⟨.int (kvs.length : Nat), H, I.tok _, ⟨_, rfl⟩, q⟩
theorem call_qlen : CallR X (.builtin "len") (lfC (Cx.en X) qLen) := by
  intro pins s σ H xs us Q I rv ⟨ds, P, Qp, r, p, t, k⟩
  have fin : ∀ {i : Int}, Qp (.int i) P → Q (.int i) H := fun q => k.ok _ _ _ _ q rfl p (TK.refl _ _)
  obtain ⟨d, rfl, t⟩ := q1_inv t
  cases d with
  | tup ys =>
    obtain ⟨v, rfl, a, vs, rfl, sq, rr⟩ := reps1 r
    exact call_len_seq pins s σ H _ us Q I rv ⟨a, vs, rfl, .inr sq, by rw [← Reps.length rr]; exact fin t⟩
  | str z =>
    obtain ⟨v, rfl, rfl⟩ := reps1 r
    exact call_len_str pins s σ H _ us Q I rv ⟨z, rfl, t.1, fin t.2⟩
  | ref a =>
    obtain ⟨v, rfl, rfl⟩ := reps1 r
    rcases t with ⟨ys, ha, q⟩ | ⟨kvs, ha, q⟩
    · obtain ⟨vs, sq, rr⟩ := ha.sq p
      exact call_len_seq pins s σ H _ us Q I rv ⟨a, vs, rfl, .inl sq, by rw [← Reps.length rr]; exact fin q⟩
    · obtain ⟨u, rfl, ru⟩ := vals1 rv
      cases ru
      exact len_dn I p ha (fin q)
  | _ => exact t.elim
theorem qe_len {p pos : Pos} {e : Expr} {te : QTE} (hm : X.mg "len" = none) (he : QE X W e te) (hg : Gl X "len" := by rfl) (hst : starEach [e] X.env = (false, eval e X.env) :: starEach [] X.env := by rfl) (hpl : (backTo pos (starEach [] X.env)).any (·.1) = false := by rfl) : QE X W (.Call (.Name "len" p) [e] [] pos) (qCB qLen (qCons te qNil)) :=
  qe_callB call_qlen hm PySem.boot_len (qa_cons he qa_nil hst) hg (by decide) (by decide) hst hpl
/-- list(x) -/
def qListOf : QC := q1 fun d P Q => match d with
  | .tup xs => ∀ p, P p = none → Q (.ref p) (up P p (.lst xs))
  | .ref a => ∃ xs, RdL P a xs ∧ ∀ p, P p = none → Q (.ref p) (up P p (.lst xs))
  | _ => False
theorem call_qlist : CallR X (.type "list") (lfC (Cx.en X) qListOf) := callR_imp call_list_of fun xs H Q ⟨ds, P, Qp, r, p, t, k⟩ => by
  obtain ⟨d, rfl, t⟩ := q1_inv t
  cases d with
  | tup ys =>
    obtain ⟨v, rfl, a, vs, rfl, sq, rr⟩ := reps1 r
    exact ⟨a, vs, rfl, .inr sq, fun l hl => k.ok _ _ _ _ (t l (p.free hl)) rfl (p.new hl ⟨_, upd_same, Reps.tk (TK.new hl) _ _ rr⟩) (TK.new hl)⟩
  | ref a =>
    obtain ⟨v, rfl, rfl⟩ := reps1 r
    obtain ⟨ys, ha, t⟩ := t
    obtain ⟨vs, sq, rr⟩ := ha.sq p
    exact ⟨a, vs, rfl, .inl sq, fun l hl => k.ok _ _ _ _ (t l (p.free hl)) rfl (p.new hl ⟨_, upd_same, Reps.tk (TK.new hl) _ _ rr⟩) (TK.new hl)⟩
  | _ => exact t.elim
/-- tuple(x) -/
def qTupOf : QC := q1 fun d P Q => match d with
  | .tup xs => Q (.tup xs) P
  | .ref a => ∃ xs, RdL P a xs ∧ Q (.tup xs) P
  | _ => False
theorem call_qtuple : CallR X (.type "tuple") (lfC (Cx.en X) qTupOf) := callR_imp call_tuple_of fun xs H Q ⟨ds, P, Qp, r, p, t, k⟩ => by
  obtain ⟨d, rfl, t⟩ := q1_inv t
  cases d with
  | tup ys =>
    obtain ⟨v, rfl, a, vs, rfl, sq, rr⟩ := reps1 r
    exact ⟨a, vs, rfl, .inr ⟨sq, k.ok _ _ _ _ t ⟨a, vs, rfl, sq, rr⟩ p (TK.refl _ _)⟩⟩
  | ref a =>
    obtain ⟨v, rfl, rfl⟩ := reps1 r
    obtain ⟨ys, ha, t⟩ := t
    obtain ⟨vs, sq, rr⟩ := ha.sq p
    exact ⟨a, vs, rfl, .inl ⟨sq, fun l hl => k.ok _ _ _ _ t ⟨l, vs, rfl, SqT.new, Reps.tk (TK.new hl) _ _ rr⟩ (p.hid hl) (TK.new hl)⟩⟩
  | _ => exact t.elim
/-- int(x) -/
def qInt1 : QC := q1 fun d P Q => match d with
  | .int i => Q (.int i) P
  | .bl b => Q (.int (if b = true then 1 else 0)) P
  | _ => False
theorem call_qint : CallR X (.type "int") (lfC (Cx.en X) qInt1) := callR_imp call_int1 fun xs H Q ⟨ds, P, Qp, r, p, t, k⟩ => by
  obtain ⟨d, rfl, t⟩ := q1_inv t
  cases d with
  | int i =>
    obtain ⟨v, rfl, rfl⟩ := reps1 r
    exact .inl ⟨i, rfl, k.ok _ _ _ _ t rfl p (TK.refl _ _)⟩
  | bl b =>
    obtain ⟨v, rfl, rfl⟩ := reps1 r
    exact .inr ⟨b, rfl, k.ok _ _ _ _ t rfl p (TK.refl _ _)⟩
  | _ => exact t.elim
def qMin2 : QC := q2 fun d e P Q => match d, e with
  | .int i, .int j => Q (.int (if j < i then j else i)) P
  | _, _ => False
def qMax2 : QC := q2 fun d e P Q => match d, e with
  | .int i, .int j => Q (.int (if j > i then j else i)) P
  | _, _ => False
theorem call_qmin2 (hc : X.calm = true) : CallR X (.builtin "min") (lfC (Cx.en X) qMin2) := callR_imp (call_min2 hc) fun xs H Q ⟨ds, P, Qp, r, p, t, k⟩ => by
  obtain ⟨d, e, rfl, t⟩ := q2_inv t
  cases d <;> cases e <;> first
    | exact t.elim
    | (obtain ⟨v, u, rfl, rfl, rfl⟩ := reps2 r
       exact ⟨_, _, rfl, k.ok _ _ _ _ t rfl p (TK.refl _ _)⟩)
theorem call_qmax2 (hc : X.calm = true) : CallR X (.builtin "max") (lfC (Cx.en X) qMax2) := callR_imp (call_max2 hc) fun xs H Q ⟨ds, P, Qp, r, p, t, k⟩ => by
  obtain ⟨d, e, rfl, t⟩ := q2_inv t
  cases d <;> cases e <;> first
    | exact t.elim
    | (obtain ⟨v, u, rfl, rfl, rfl⟩ := reps2 r
       exact ⟨_, _, rfl, k.ok _ _ _ _ t rfl p (TK.refl _ _)⟩)

/-! ### methods of built-in types -/
/-- what the receiver is -/
def tyD (T : String) (x : D) (P : PH) : Prop := match x with
  | .str _ => T = "str"
  | .ref a => (T = "list" ∧ ∃ xs, RdL P a xs) ∨ (T = "dict" ∧ ∃ kvs, RdD P a kvs)
  | _ => False
theorem tyD_is {pins : List (Addr × Obj)} {σ : St} {H : Hp} {s : Shared} {T : String} {d : D} {x : V} {v : Value} {P : PH} (I : Inv X pins σ H s) (p : RepH (Cx.en X) H P) (rd : Rep X.K H d x) (r : RelV x v) (ty : tyD T d P) :
    s.TypeIs v T ∧ ∀ a, v = .ref a → ∃ ob, s.heap.get? a = some ob ∧ ob.dict = none := by
  cases d with
  | str z => rw [Rep] at rd; subst rd; exact tyV_is I r (T := T) ty
  | ref a =>
    rw [Rep] at rd; subst rd
    rcases ty with ⟨rfl, xs, h⟩ | ⟨rfl, kvs, h⟩
    · obtain ⟨vs, sq, _⟩ := h.sq p
      exact tyV_is I r (T := "list") (.inl ⟨rfl, vs, sq⟩)
    · cases r
      obtain ⟨u, e, rr⟩ := h.rd p
      have z : ∃ o, s.heap.get? a = some o ∧ o.ExactDict := by
        rcases rr with ⟨gs, rfl, _⟩ | ⟨_, xs, rfl, _⟩
        · obtain ⟨_, _, _, _, o, _, _, e, ex, _⟩ := dk_rd I.hok e
          exact ⟨o, e, ex⟩
        · obtain ⟨⟨_, _, _, o, _, _, h1, h2, _⟩, _⟩ := e.ok I.hok
          exact ⟨o, h1, h2⟩
      obtain ⟨o, e, ex⟩ := z
      refine ⟨⟨o, e, ex.1⟩, fun a e2 => ?_⟩
      cases e2
      exact ⟨o, e, ex.2.1⟩
  | _ => exact ty.elim
abbrev QM := D → List D → PH → PK → Prop
def lfM (G : En) (r : QM) : V → List V → Hp → VK → Prop := fun x xs H Q => ∃ d ds P Qp, Rep G.K H d x ∧ Reps G.K H ds xs ∧ RepH G H P ∧ r d ds P Qp ∧ KV0 G H Qp Q
def qBM (T : String) (r : QM) (to : QTE) (t : QTA) : QTE := fun σ P Q E => to σ P (fun x P1 => tyD T x P1 ∧ t σ P1 (fun xs P2 => r x xs P2 Q) E) E
variable {o e : Expr} {es : List Expr} {to : QTE} {t : QTA} {name : Str} {apos cpos : Pos} {T id : String} {r : QM}
theorem qe_bm0 (pa : PlainAttrs T) (slot : Slot T name id) (hty : typeOf (.builtin id) = pure (.type "method_descriptor")) (hm : MtR X id (lfM (Cx.en X) r)) (ho : QE X W o to)
    (hbase : attributeBase o name X.env (eval o X.env) = eval o X.env := by rfl) (hline : (apos.endLine == cpos.line) = true := by rfl) : QE X W (.Call (.Attribute o name apos) [] [] cpos) (qBM T r to qNil) := by
  refine ⟨fun pins s σ H Q I ⟨σp, P, Qp, Ep, rs, p, t, k⟩ => ?_⟩
  refine wpAny_Call_method0_late hbase hline (thn (ho.run pins s σ H (fun v H1 => ∃ d P1, Rep X.K H1 d v ∧ RepH (Cx.en X) H1 P1 ∧ TK X.K H H1 ∧ tyD T d P1 ∧ r d [] P1 Qp) I ⟨σp, P, _, Ep, rs, p, t, ⟨fun d P1 v H1 q rd p1 k1 => ⟨d, P1, rd, p1, k1, q⟩, k.ex⟩⟩) fun v s1 ⟨x, H1, I1, r1, d, P1, rd, p1, k1, ty, q1⟩ => ?_)
  obtain ⟨h1, h2⟩ := tyD_is I1 p1 rd r1 ty
  exact ⟨T, id, pa, slot, hty, h1, h2, Calls.callWith_builtin rfl (PySem.evalArgs_none (hm pins s1 σ H1 x [] v [] Q I1 r1 .nil ⟨d, [], P1, Qp, rd, rfl, p1, q1, k.kv k1⟩))⟩
theorem qe_bm (pa : PlainAttrs T) (slot : Slot T name id) (hty : typeOf (.builtin id) = pure (.type "method_descriptor")) (hm : MtR X id (lfM (Cx.en X) r)) (ho : QE X W o to) (ha : QA X W (e :: es) t)
    (hbase : attributeBase o name X.env (eval o X.env) = eval o X.env := by rfl)
    (hfew : ((backTo cpos (starEach (e :: es) X.env)).all (fun x => !x.1) && (backToKw cpos (keywordEach [] X.env)).all (fun x => x.1.isSome)
      && decide ((e :: es).length + ([] : List Keyword).length + (if ([] : List Keyword).isEmpty then 0 else 1) < 30)) = true := by rfl)
    (hline : (apos.endLine == cpos.line) = true := by rfl) (hs : starEach (e :: es) X.env = (false, eval e X.env) :: starEach es X.env := by rfl) (hplain : (backTo cpos (starEach es X.env)).any (·.1) = false := by rfl) :
    QE X W (.Call (.Attribute o name apos) (e :: es) [] cpos) (qBM T r to t) := by
  refine ⟨fun pins s σ H Q I ⟨σp, P, Qp, Ep, rs, p, tt, k⟩ => ?_⟩
  refine wpAny_Call_method_late hbase hfew hline rfl (thn (ho.run pins s σ H (fun v H1 => ∃ d P1, Rep X.K H1 d v ∧ RepH (Cx.en X) H1 P1 ∧ TK X.K H H1 ∧ tyD T d P1 ∧ t σp P1 (fun xs P2 => r d xs P2 Qp) Ep) I
    ⟨σp, P, _, Ep, rs, p, tt, ⟨fun d P1 v H1 q rd p1 k1 => ⟨d, P1, rd, p1, k1, q⟩, k.ex⟩⟩) fun v s1 ⟨x, H1, I1, r1, d, P1, rd, p1, k1, ty, q1⟩ => ?_)
  obtain ⟨h1, h2⟩ := tyD_is I1 p1 rd r1 ty
  refine ⟨T, id, pa, slot, hty, h1, h2, ?_⟩
  have hA := ha.run cpos pins s1 σ H1 (fun vs H2 => ∃ ds P2, Reps X.K H2 ds vs ∧ RepH (Cx.en X) H2 P2 ∧ TK X.K H1 H2 ∧ r d ds P2 Qp) I1 ⟨σp, P1, _, Ep, rs.tk k1, p1, q1, ⟨fun ds P2 vs H2 q rd p2 k2 => ⟨ds, P2, rd, p2, k2, q⟩, (k.tk k1).ex⟩⟩
  rw [hs] at hA ⊢
  refine Calls.callWith_builtin (by show (false || (backTo cpos (starEach es X.env)).any (·.1)) = false; rw [hplain] <;> rfl) (Calls.evalArgs_plain ?_)
  exact thn hA fun us s2 ⟨vs, H2, I2, r2, ds, P2, rds, p2, k2, q2⟩ => hm pins s2 σ H2 x vs v us Q I2 r1 r2 ⟨d, ds, P2, Qp, Rep.tk k2 _ _ rd, rds, p2, q2, k.kv (k1.trans k2)⟩
theorem mtR_imp {id : String} {r r' : V → List V → Hp → VK → Prop} (h : MtR X id r) (i : ∀ x xs H Q, r' x xs H Q → r x xs H Q) : MtR X id r' := fun pins s σ H x xs v us Q I rx rv q => h pins s σ H x xs v us Q I rx rv (i x xs H Q q)
def m0 (f : D → PH → PK → Prop) : QM := fun x ds P Q => match ds with
  | [] => f x P Q
  | _ => False
theorem m0_inv {f : D → PH → PK → Prop} {x : D} {ds : List D} {P : PH} {Q : PK} (h : m0 f x ds P Q) : ds = [] ∧ f x P Q := by
  match ds, h with
  | [], h => exact ⟨rfl, h⟩
def m1 (f : D → D → PH → PK → Prop) : QM := fun x ds P Q => match ds with
  | [d] => f x d P Q
  | _ => False
theorem m1_inv {f : D → D → PH → PK → Prop} {x : D} {ds : List D} {P : PH} {Q : PK} (h : m1 f x ds P Q) : ∃ d, ds = [d] ∧ f x d P Q := by
  match ds, h with
  | [d], h => exact ⟨d, rfl, h⟩
def m2 (f : D → D → D → PH → PK → Prop) : QM := fun x ds P Q => match ds with
  | [d, e] => f x d e P Q
  | _ => False
theorem m2_inv {f : D → D → D → PH → PK → Prop} {x : D} {ds : List D} {P : PH} {Q : PK} (h : m2 f x ds P Q) : ∃ d e, ds = [d, e] ∧ f x d e P Q := by
  match ds, h with
  | [d, e], h => exact ⟨d, e, rfl, h⟩
def qAppend : QM := m1 fun x d P Q => match x with
  | .ref a => ∃ xs, P a = some (.lst xs) ∧ xs.length < sizeLine ∧ Q .non (up P a (.lst (xs ++ [d])))
  | _ => False
theorem mt_qappend : MtR X "list.append" (lfM (Cx.en X) qAppend) := mtR_imp mt_append fun x xs H Q ⟨d, ds, P, Qp, rd, rds, p, t, k⟩ => by
  obtain ⟨y, rfl, t⟩ := m1_inv t
  cases d with
  | ref a =>
    rw [Rep] at rd; subst rd
    obtain ⟨v, rfl, rv⟩ := reps1 rds
    obtain ⟨ys, ha, hz, q⟩ := t
    obtain ⟨vs, e, rr⟩ := p a _ ha
    have n : NoTup (H a) := by rw [e]; trivial
    exact ⟨a, vs, v, rfl, rfl, e, by rw [← Reps.length rr]; exact hz, k.ok _ _ _ _ q rfl (p.write n ⟨_, upd_same, Reps.tk (TK.upd n) _ _ (Reps.append rr (Reps.one rv))⟩) (TK.upd n)⟩
  | _ => exact t.elim
def qPop : QM := m0 fun x P Q => match x with
  | .ref a => ∃ xs d, P a = some (.lst xs) ∧ xs[xs.length - 1]? = some d ∧ Q d (up P a (.lst xs.dropLast))
  | _ => False
theorem mt_qpop : MtR X "list.pop" (lfM (Cx.en X) qPop) := mtR_imp mt_pop fun x xs H Q ⟨d, ds, P, Qp, rd, rds, p, t, k⟩ => by
  obtain ⟨rfl, t⟩ := m0_inv t
  rw [Reps] at rds; subst rds
  cases d with
  | ref a =>
    rw [Rep] at rd; subst rd
    obtain ⟨ys, z, ha, hz, q⟩ := t
    obtain ⟨vs, e, rr⟩ := p a _ ha
    obtain ⟨v, e1, e2⟩ := rr.get hz
    have n : NoTup (H a) := by rw [e]; trivial
    exact ⟨a, vs, v, rfl, rfl, e, by rw [← Reps.length rr]; exact e1, k.ok _ _ _ _ q (Rep.tk (TK.upd n) _ _ e2) (p.write n ⟨_, upd_same, Reps.tk (TK.upd n) _ _ rr.dropLast⟩) (TK.upd n)⟩
  | _ => exact t.elim
def qClear : QM := m0 fun x P Q => match x with
  | .ref a => ∃ xs, P a = some (.lst xs) ∧ Q .non (up P a (.lst []))
  | _ => False
theorem mt_qclear : MtR X "list.clear" (lfM (Cx.en X) qClear) := mtR_imp mt_clear fun x xs H Q ⟨d, ds, P, Qp, rd, rds, p, t, k⟩ => by
  obtain ⟨rfl, t⟩ := m0_inv t
  rw [Reps] at rds; subst rds
  cases d with
  | ref a =>
    rw [Rep] at rd; subst rd
    obtain ⟨ys, ha, q⟩ := t
    obtain ⟨vs, e, rr⟩ := p a _ ha
    have n : NoTup (H a) := by rw [e]; trivial
    exact ⟨a, vs, rfl, rfl, e, k.ok _ _ _ _ q rfl (p.write n ⟨_, upd_same, rfl⟩) (TK.upd n)⟩
  | _ => exact t.elim
def qExtend : QM := m1 fun x d P Q => match x, d with
  | .ref a, .ref b => ∃ xs ys, P a = some (.lst xs) ∧ P b = some (.lst ys) ∧ xs.length + ys.length ≤ sizeLine ∧ Q .non (up P a (.lst (xs ++ ys)))
  | _, _ => False
theorem mt_qextend : MtR X "list.extend" (lfM (Cx.en X) qExtend) := mtR_imp mt_extend fun x xs H Q ⟨d, ds, P, Qp, rd, rds, p, t, k⟩ => by
  obtain ⟨y, rfl, t⟩ := m1_inv t
  cases d with
  | ref a =>
    cases y with
    | ref b =>
      rw [Rep] at rd; subst rd
      obtain ⟨v, rfl, rv⟩ := reps1 rds
      rw [Rep] at rv; subst rv
      obtain ⟨xs, ys, ha, hb, hz, q⟩ := t
      obtain ⟨vs, e, rr⟩ := p a _ ha
      obtain ⟨us, e', rr'⟩ := p b _ hb
      have n : NoTup (H a) := by rw [e]; trivial
      exact ⟨a, b, vs, us, rfl, rfl, e, e', by rw [← Reps.length rr, ← Reps.length rr']; exact hz, k.ok _ _ _ _ q rfl (p.write n ⟨_, upd_same, Reps.tk (TK.upd n) _ _ (Reps.append rr rr')⟩) (TK.upd n)⟩
    | _ => exact t.elim
  | _ => exact t.elim
theorem qe_append {a : Expr} {ta : QTE} (ho : QE X W o to) (ha : QE X W a ta) (hbase : attributeBase o "append" X.env (eval o X.env) = eval o X.env := by rfl)
    (hfew : ((backTo cpos (starEach [a] X.env)).all (fun x => !x.1) && (backToKw cpos (keywordEach [] X.env)).all (fun x => x.1.isSome)
      && decide ([a].length + ([] : List Keyword).length + (if ([] : List Keyword).isEmpty then 0 else 1) < 30)) = true := by rfl)
    (hline : (apos.endLine == cpos.line) = true := by rfl) (hs : starEach [a] X.env = (false, eval a X.env) :: starEach [] X.env := by rfl) (hplain : (backTo cpos (starEach [] X.env)).any (·.1) = false := by rfl) :
    QE X W (.Call (.Attribute o "append" apos) [a] [] cpos) (qBM "list" qAppend to (qCons ta qNil)) :=
  qe_bm PySem.F.plainAttrs_list PySem.F.slot_list_append PySem.F.type_list_append mt_qappend ho (qa_cons ha qa_nil hs) hbase hfew hline hs hplain
theorem qe_pop (ho : QE X W o to) (hbase : attributeBase o "pop" X.env (eval o X.env) = eval o X.env := by rfl) (hline : (apos.endLine == cpos.line) = true := by rfl) : QE X W (.Call (.Attribute o "pop" apos) [] [] cpos) (qBM "list" qPop to qNil) :=
  qe_bm0 PySem.F.plainAttrs_list PySem.F.slot_list_pop PySem.F.type_list_pop mt_qpop ho hbase hline
theorem qe_clear (ho : QE X W o to) (hbase : attributeBase o "clear" X.env (eval o X.env) = eval o X.env := by rfl) (hline : (apos.endLine == cpos.line) = true := by rfl) : QE X W (.Call (.Attribute o "clear" apos) [] [] cpos) (qBM "list" qClear to qNil) :=
  qe_bm0 PySem.F.plainAttrs_list PySem.F.slot_list_clear PySem.F.type_list_clear mt_qclear ho hbase hline
theorem qe_extend {a : Expr} {ta : QTE} (ho : QE X W o to) (ha : QE X W a ta) (hbase : attributeBase o "extend" X.env (eval o X.env) = eval o X.env := by rfl)
    (hfew : ((backTo cpos (starEach [a] X.env)).all (fun x => !x.1) && (backToKw cpos (keywordEach [] X.env)).all (fun x => x.1.isSome)
      && decide ([a].length + ([] : List Keyword).length + (if ([] : List Keyword).isEmpty then 0 else 1) < 30)) = true := by rfl)
    (hline : (apos.endLine == cpos.line) = true := by rfl) (hs : starEach [a] X.env = (false, eval a X.env) :: starEach [] X.env := by rfl) (hplain : (backTo cpos (starEach [] X.env)).any (·.1) = false := by rfl) :
    QE X W (.Call (.Attribute o "extend" apos) [a] [] cpos) (qBM "list" qExtend to (qCons ta qNil)) :=
  qe_bm PySem.F.plainAttrs_list PySem.F.slot_list_extend PySem.F.type_list_extend mt_qextend ho (qa_cons ha qa_nil hs) hbase hfew hline hs hplain
end
end PL
namespace PL
open PySem PySem.Spec L2
section
variable {X : Cx} {W : WX}

/-! ### {} and the methods of dicts -/
def qDNew : QTE := fun _ P Q _ => ∀ p, P p = none → Q (.ref p) (up P p (.dct []))
theorem qe_dnew {pos : Pos} : QE X W (.Dict [] [] pos) qDNew := pe_of pe_dnewK fun σ H Q ⟨σp, P, Qp, Ep, rs, p, t, k⟩ a ha =>
  k.ok _ _ _ _ (t a (p.free ha)) rfl (p.new ha ⟨_, upd_same, .inl ⟨[], rfl, rfl⟩⟩) (TK.new ha)
def qDGet1 : QM := m1 fun x y P Q => match x with
  | .ref a => ∃ kvs, RdD P a kvs ∧ KeyFor kvs y ∧ Q ((dLook kvs y).getD .non) P
  | _ => False
def qDGet2 : QM := m2 fun x y z P Q => match x with
  | .ref a => ∃ kvs, RdD P a kvs ∧ KeyFor kvs y ∧ Q ((dLook kvs y).getD z) P
  | _ => False
def qDPop : QM := m1 fun x y P Q => match x with
  | .ref a => ∃ kvs d, P a = some (.dct kvs) ∧ KeyFor kvs y ∧ dLook kvs y = some d ∧ Q d (up P a (.dct (dDel kvs y)))
  | _ => False
theorem look_K {K : PySem.W.Frag} {H : Hp} {kvs : List (D × D)} {gs : List (Key × V)} (dk : DK K H kvs gs) (k : Key) {z : D} {zv : V} (rz : Rep K H z zv) : Rep K H ((dLook kvs (kD k)).getD z) ((valV gs k).getD zv) := by
  obtain ⟨f1, f2⟩ := dk.find k
  cases e : dLook kvs (kD k) with
  | none => rw [f2 e]; exact rz
  | some d => obtain ⟨v, e2, e3⟩ := f1 d e; rw [e2]; exact e3
theorem mt_qdget1 (hu : X.A.units + 64 < cLine) : MtR X "dict.get" (lfM (Cx.en X) qDGet1) := by
  intro pins s σ H x xs v us Q I rx rv ⟨d, ds, P, Qp, rd, rds, p, t, k⟩
  obtain ⟨y, rfl, t⟩ := m1_inv t
  cases d with
  | ref a =>
    rw [Rep] at rd; subst rd
    cases rx
    obtain ⟨y', rfl, ry⟩ := reps1 rds
    obtain ⟨u, rfl, ru⟩ := vals1 rv
    obtain ⟨kvs, ha, kf, q⟩ := t
    have hu1 : X.A.units + 1 < cLine := by omega
    rcases d_look hu I p ha kf ry ru with ⟨gs, kx, e, rfl, rfl, dk⟩ | ⟨xs, b, dx, dd, hd, hz, rfl, kis⟩
    · have g : DGet H a (kV kx) (valV gs kx) := .inl ⟨gs, kx, e, rfl, rfl⟩
      exact d_get1 hu1 I g ru fun w' s' I' rw' => ⟨_, H, I', rw', k.ok _ _ _ _ q (look_K dk kx (z := .non) (zv := .non) rfl) p (TK.refl _ _)⟩
    · refine get_keyed (nk_room hu) kis hd ⟨xs, dd, rfl⟩ ?_
      rw [valueAt_pairsH]
      obtain ⟨f1, f2⟩ := dx.find y
      cases e : dLook kvs y with
      | none =>
        rw [f2 e]
        rw [e] at q
        exact ⟨.non, H, I.tok _, rfl, k.ok _ _ _ _ q rfl p (TK.refl _ _)⟩
      | some d =>
        obtain ⟨pr, v, e1, e2, e3⟩ := f1 d e
        rw [e1]
        rw [e] at q
        exact ⟨v, H, I.tok _, e2, k.ok _ _ _ _ q e3 p (TK.refl _ _)⟩
  | _ => exact t.elim
theorem mt_qdget2 (hu : X.A.units + 64 < cLine) : MtR X "dict.get" (lfM (Cx.en X) qDGet2) := by
  intro pins s σ H x xs v us Q I rx rv ⟨d, ds, P, Qp, rd, rds, p, t, k⟩
  obtain ⟨y, z, rfl, t⟩ := m2_inv t
  cases d with
  | ref a =>
    rw [Rep] at rd; subst rd
    cases rx
    obtain ⟨y', z', rfl, ry, rz⟩ := reps2 rds
    obtain ⟨u, u2, rfl, ru, ru2⟩ := vals2 rv
    obtain ⟨kvs, ha, kf, q⟩ := t
    have hu1 : X.A.units + 1 < cLine := by omega
    rcases d_look hu I p ha kf ry ru with ⟨gs, kx, e, rfl, rfl, dk⟩ | ⟨xs, b, dx, dd, hd, hz, rfl, kis⟩
    · have g : DGet H a (kV kx) (valV gs kx) := .inl ⟨gs, kx, e, rfl, rfl⟩
      exact d_get2 hu1 I g ru ru2 fun w' s' I' rw' => ⟨_, H, I', rw', k.ok _ _ _ _ q (look_K dk kx rz) p (TK.refl _ _)⟩
    · refine getOr_keyed (nk_room hu) kis hd ⟨xs, dd, rfl⟩ ?_
      rw [valueAt_pairsH]
      obtain ⟨f1, f2⟩ := dx.find y
      cases e : dLook kvs y with
      | none =>
        rw [f2 e]
        rw [e] at q
        exact ⟨z', H, I.tok _, ru2, k.ok _ _ _ _ q rz p (TK.refl _ _)⟩
      | some d =>
        obtain ⟨pr, v, e1, e2, e3⟩ := f1 d e
        rw [e1]
        rw [e] at q
        exact ⟨v, H, I.tok _, e2, k.ok _ _ _ _ q e3 p (TK.refl _ _)⟩
  | _ => exact t.elim
theorem mt_qdpop (hu : X.A.units + 64 < cLine) : MtR X "dict.pop" (lfM (Cx.en X) qDPop) := by
  intro pins s σ H x xs v us Q I rx rv ⟨d, ds, P, Qp, rd, rds, p, t, k⟩
  obtain ⟨y, rfl, t⟩ := m1_inv t
  cases d with
  | ref a =>
    rw [Rep] at rd; subst rd
    cases rx
    obtain ⟨y', rfl, ry⟩ := reps1 rds
    obtain ⟨u, rfl, ru⟩ := vals1 rv
    obtain ⟨kvs, z, ha, kf, hl, q⟩ := t
    obtain ⟨ob, e, r⟩ := p a _ ha
    have n : NoTup (H a) := noTup_of e r
    rcases kf with ⟨k1, k2⟩ | ⟨k1, k2⟩
    · obtain ⟨gs, rfl, dk⟩ := dictK_of r k2
      obtain ⟨kx, rfl⟩ := keyS_kD k1
      have ey := rep_kD ry
      subst ey
      obtain ⟨v', e1, e2⟩ := (dk.find kx).1 z hl
      refine d_pop I e ru e1 (.inl rfl) fun w' s' I' rw' => ⟨v', _, I', rw', ?_⟩
      exact k.ok _ _ _ _ q (Rep.tk (TK.upd n) _ _ e2) (p.write n ⟨_, upd_same, .inl ⟨_, rfl, dk.del.tk (TK.upd n)⟩⟩) (TK.upd n)
    · obtain ⟨xs, dx, dd, hd, hz⟩ := dictH_of I (.inl e) r k2
      obtain ⟨b, rfl, kis⟩ := keyT_is I k1 ry
      cases ru
      obtain ⟨pr, v', e1, e2, e3⟩ := (dx.find y).1 z hl
      refine call_pop_heap (hsz := hz) (more := []) (.inl rfl) (PySem.F.args_dict_pop_2 _ _) (nk_room hu) kis hd dd e1 fun h' dd' hs => ?_
      have dx' := dx.del (k := y)
      have hz' : (withoutH xs (toKey y)).length ≤ sizeLine := Nat.le_trans (List.length_filter_le _ _) hz
      cases hn : dDel kvs y with
      | nil =>
        rw [hn] at dx' q
        have e4 : withoutH xs (toKey y) = [] := dx'
        rw [e4] at dd'
        refine ⟨v', upd H a (.dK []), d_write I (mut_of e r) hs (let ⟨q, _, _, hq, _⟩ := dd'; ⟨q, hq⟩) (dk0_ok hd dd'), e2, ?_⟩
        exact k.ok _ _ _ _ q (Rep.tk (TK.upd n) _ _ e3) (p.write n ⟨_, upd_same, .inl ⟨[], rfl, rfl⟩⟩) (TK.upd n)
      | cons z1 z2 =>
        have hne : dDel kvs y ≠ [] := by rw [hn]; simp
        refine ⟨v', upd H a (DN X.prog X.w a (withoutH xs (toKey y))), d_write I (mut_of e r) hs (let ⟨q, _, _, hq, _⟩ := dd'; ⟨q, hq⟩) (dn_ok hz' hd dd'), e2, ?_⟩
        exact k.ok _ _ _ _ q (Rep.tk (TK.upd n) _ _ e3) (p.write n ⟨_, upd_same, .inr ⟨hne, _, rfl, dx'.tk (TK.upd n)⟩⟩) (TK.upd n)
  | _ => exact t.elim
variable {o a b : Expr} {to ta tb : QTE} {apos cpos : Pos}
theorem qe_dget1 (hu : X.A.units + 64 < cLine) (ho : QE X W o to) (ha : QE X W a ta) (hbase : attributeBase o "get" X.env (eval o X.env) = eval o X.env := by rfl)
    (hfew : ((backTo cpos (starEach [a] X.env)).all (fun x => !x.1) && (backToKw cpos (keywordEach [] X.env)).all (fun x => x.1.isSome)
      && decide ([a].length + ([] : List Keyword).length + (if ([] : List Keyword).isEmpty then 0 else 1) < 30)) = true := by rfl)
    (hline : (apos.endLine == cpos.line) = true := by rfl) (hs : starEach [a] X.env = (false, eval a X.env) :: starEach [] X.env := by rfl) (hplain : (backTo cpos (starEach [] X.env)).any (·.1) = false := by rfl) :
    QE X W (.Call (.Attribute o "get" apos) [a] [] cpos) (qBM "dict" qDGet1 to (qCons ta qNil)) :=
  qe_bm PySem.F.plainAttrs_dict PySem.F.slot_dict_get PySem.F.type_dict_get (mt_qdget1 hu) ho (qa_cons ha qa_nil hs) hbase hfew hline hs hplain
theorem qe_dget2 (hu : X.A.units + 64 < cLine) (ho : QE X W o to) (ha : QE X W a ta) (hb : QE X W b tb) (hbase : attributeBase o "get" X.env (eval o X.env) = eval o X.env := by rfl)
    (hfew : ((backTo cpos (starEach [a, b] X.env)).all (fun x => !x.1) && (backToKw cpos (keywordEach [] X.env)).all (fun x => x.1.isSome)
      && decide ([a, b].length + ([] : List Keyword).length + (if ([] : List Keyword).isEmpty then 0 else 1) < 30)) = true := by rfl)
    (hline : (apos.endLine == cpos.line) = true := by rfl) (hs : starEach [a, b] X.env = (false, eval a X.env) :: starEach [b] X.env := by rfl) (hs2 : starEach [b] X.env = (false, eval b X.env) :: starEach [] X.env := by rfl) (hplain : (backTo cpos (starEach [b] X.env)).any (·.1) = false := by rfl) :
    QE X W (.Call (.Attribute o "get" apos) [a, b] [] cpos) (qBM "dict" qDGet2 to (qCons ta (qCons tb qNil))) :=
  qe_bm PySem.F.plainAttrs_dict PySem.F.slot_dict_get PySem.F.type_dict_get (mt_qdget2 hu) ho (qa_cons ha (qa_cons hb qa_nil hs2) hs) hbase hfew hline hs hplain
theorem qe_dpop (hu : X.A.units + 64 < cLine) (ho : QE X W o to) (ha : QE X W a ta) (hbase : attributeBase o "pop" X.env (eval o X.env) = eval o X.env := by rfl)
    (hfew : ((backTo cpos (starEach [a] X.env)).all (fun x => !x.1) && (backToKw cpos (keywordEach [] X.env)).all (fun x => x.1.isSome)
      && decide ([a].length + ([] : List Keyword).length + (if ([] : List Keyword).isEmpty then 0 else 1) < 30)) = true := by rfl)
    (hline : (apos.endLine == cpos.line) = true := by rfl) (hs : starEach [a] X.env = (false, eval a X.env) :: starEach [] X.env := by rfl) (hplain : (backTo cpos (starEach [] X.env)).any (·.1) = false := by rfl) :
    QE X W (.Call (.Attribute o "pop" apos) [a] [] cpos) (qBM "dict" qDPop to (qCons ta qNil)) :=
  qe_bm PySem.F.plainAttrs_dict PySem.F.slot_dict_pop PySem.F.type_dict_pop (mt_qdpop hu) ho (qa_cons ha qa_nil hs) hbase hfew hline hs hplain

/-! ### fields -/
structure FldOk (K : PySem.W.Frag) (C : Addr) (f : Str) : Prop where
  cl : Cls K C
  no : NoAttr K C f
def qFld (K : PySem.W.Frag) (f : Str) (te : QTE) : QTE := fun σ P Q E => te σ P (fun x P1 => match x with
  | .ref a => ∃ C fs d, P1 a = some (.ins C fs) ∧ FldOk K C f ∧ fs.lookup f = some d ∧ Q d P1
  | _ => False) E
theorem qe_fld {e : Expr} {te : QTE} {f : Str} {pos : Pos} (he : QE X W e te) (hb : attributeBase e f X.env (eval e X.env) = eval e X.env := by rfl) : QE X W (.Attribute e f pos) (qFld X.K f te) :=
  pe_of (pe_fld he hb) fun σ H Q ⟨σp, P, Qp, Ep, rs, p, t, k⟩ => ⟨σp, P, _, Ep, rs, p, t, ⟨fun d P1 v H1 q r p1 k1 => by
    cases d with
    | ref a =>
      rw [Rep] at r; subst r
      obtain ⟨C, fs, d, ha, ok, hl, q⟩ := q
      obtain ⟨dx, gs, e, rf⟩ := p1 a _ ha
      obtain ⟨v, e2, rv⟩ := (rf.lookup (f := f)).1 d hl
      exact ⟨a, C, dx, gs, v, rfl, e, ok.cl, ok.no, e2, k.ok _ _ _ _ q rv p1 k1⟩
    | _ => exact q.elim, k.ex⟩⟩
def qFldS (K : PySem.W.Frag) (f : Str) (te tv : QTE) : QTS := fun D σ P => tv σ P (fun y P1 => te σ P1 (fun x P2 => match x with
  | .ref a => ∃ C fs, P2 a = some (.ins C fs) ∧ FldOk K C f ∧ fs.length < 1000 ∧ D.nx σ (up P2 a (.ins C (putD f y fs)))
  | _ => False) fun C P2 => D.ex C σ P2) fun C P1 => D.ex C σ P1
theorem qs_fld {o value : Expr} {te tv : QTE} {f : Str} {pos pos' : Pos} (ho : QE X W o te) (hv : QE X W value tv) (hs : swapsWith value (some (.Attribute o f pos')) pos.line X.env = pure false := by rfl) : QS X W (.Assign [.Attribute o f pos'] value pos) (qFldS X.K f te tv) :=
  ps_of (ps_fld ho hv hs) fun D σ H ⟨σp, P, Dp, rs, p, t, l⟩ => by
    refine ⟨σp, P, _, _, rs, p, t, l.ke rs fun y P1 v H1 q r p1 k1 rs1 l1 => ?_⟩
    refine ⟨σp, P1, _, _, rs1, p1, q, l1.ke rs1 fun x P2 u H2 q2 r2 p2 k2 rs2 l2 => ?_⟩
    cases x with
    | ref a =>
      rw [Rep] at r2; subst r2
      obtain ⟨C, fs, ha, ok, hl, q⟩ := q2
      obtain ⟨dx, gs, e, rf⟩ := p2 a _ ha
      have n : NoTup (H2 a) := by rw [e]; trivial
      refine ⟨a, C, dx, gs, rfl, e, ok.cl, ok.no, by rw [← rf.length]; exact hl, ?_⟩
      exact l2.nx _ _ _ _ q (rs2.tk (TK.upd n)) (p2.write n ⟨dx, _, upd_same, (RF.put (Rep.tk k2 _ _ r) rf).tk (TK.upd n)⟩) (TK.upd n)
    | _ => exact q2.elim

/-! ### isinstance with a built-in class -/
def tyName : D → PH → Option String
  | .non, _ => some "NoneType"
  | .bl _, _ => some "bool"
  | .int _, _ => some "int"
  | .str _, _ => some "str"
  | .tup _, _ => some "tuple"
  | _, _ => none
/-- a value, what it is, the class's name -/
def qIsi (K : PySem.W.Frag) : QC := q2 fun x c P Q => match c with
  | .ty n => ∃ T b, (tyName x P = some T ∨ ∃ a xs, x = .ref a ∧ P a = some (.lst xs) ∧ T = "list") ∧ PySem.W.kitOne K (.type T) (.type n) = some b ∧ Q (.bl b) P
  | _ => False
theorem sqt_ty {K : PySem.W.Frag} {H : Hp} {a : Addr} {vs : List V} (h : SqT K H a vs) : TyX K H (.ref a) (.type "tuple") := by
  rcases h with (h | ⟨o, h⟩) | ⟨o, its, n, h1, h2, _⟩
  · exact .base (.tup h)
  · exact .fTuple h
  · exact .kTuple h1 h2
theorem call_qisi : CallR X (.builtin "isinstance") (lfC (Cx.en X) (qIsi X.K)) := callR_imp call_isi fun xs H Q ⟨ds, P, Qp, r, p, t, k⟩ => by
  obtain ⟨d, c, rfl, t⟩ := q2_inv t
  obtain ⟨v, u, rfl, r1, r2⟩ := reps2 r
  cases c with
  | ty n =>
    rw [Rep] at r2; subst r2
    obtain ⟨T, b, ht, hk, q⟩ := t
    have q' := k.ok _ _ _ _ q rfl p (TK.refl _ _)
    refine ⟨v, .ty n, .type T, .type n, b, rfl, .ty n, ?_, hk, q'⟩
    rcases ht with ht | ⟨a, xs, rfl, ha, rfl⟩
    · cases d with
      | tup xs =>
        obtain ⟨a, vs, rfl, sq, _⟩ := r1
        cases ht
        exact sqt_ty sq
      | non => rw [Rep] at r1; subst r1; cases ht; exact .base .non
      | bl b => rw [Rep] at r1; subst r1; cases ht; exact .base (.bl _)
      | int i => rw [Rep] at r1; subst r1; cases ht; exact .base (.int _)
      | str x => rw [Rep] at r1; subst r1; cases ht; exact .base (.str _)
      | ref a => cases ht
      | ty n => cases ht
    · rw [Rep] at r1; subst r1
      obtain ⟨vs, e, _⟩ := p a _ ha
      exact .base (.lst e)
  | _ => exact t.elim
/-- a built-in class as a value -/
theorem qe_ty {x : Str} {n : String} {pos : Pos} (hm : X.mg x = none) (hv : bootBuiltins x = some (.type n)) (hg : Gl X x := by rfl) (hn : x ≠ "__name__" := by decide) (hd : (x == ("__debug__" : Str)) = false := by decide) : QE X W (.Name x pos) (qC (.ty n)) :=
  qe_c (pe_bltn (v := .ty n) hg hm hv rfl hn hd) fun _ => rfl
theorem qe_isi {p pos : Pos} {e c : Expr} {te tc : QTE} (hm : X.mg "isinstance" = none) (he : QE X W e te) (hc : QE X W c tc) (hg : Gl X "isinstance" := by rfl) (hst : starEach [e, c] X.env = (false, eval e X.env) :: starEach [c] X.env := by rfl) (hst2 : starEach [c] X.env = (false, eval c X.env) :: starEach [] X.env := by rfl)
    (hpl : (backTo pos (starEach [c] X.env)).any (·.1) = false := by rfl) : QE X W (.Call (.Name "isinstance" p) [e, c] [] pos) (qCB (qIsi X.K) (qCons te (qCons tc qNil))) :=
  qe_callB call_qisi hm (by decide +kernel) (qa_cons he (qa_cons hc qa_nil hst2) hst) hg (by decide) (by decide) hst hpl
end
end PL
namespace PL
open PySem PySem.Spec L2

/-! ### what a def promises -/
/-- arguments, what stands, the wanted end, the wanted error -/
abbrev PSp := List D → PH → PK → PX → Prop
def lfSp (G : En) (sp : PSp) : Sp := fun vs H Q E => ∃ ds P Qp Ep, Reps G.K H ds vs ∧ RepH G H P ∧ sp ds P Qp Ep ∧ KE G (fun cls d _ H' => E cls d H') (Rep G.K) H [] Qp Ep Q
/-- things forgotten at the end -/
def wkK (Q : PK) : PK := fun d P' => ∃ P0, Le P0 P' ∧ Q d P0
def wkX (E : PX) : PX := fun C P' => ∃ P0, Le P0 P' ∧ E C P0
def dEnds (Q : PK) (E : PX) : PEnds := { nx := fun _ P' => wkK Q .non P', rt := wkK Q, ex := fun C _ P' => wkX E C P' }
def startD (N : List Str) (ds : List D) : PSt := ds.map some ++ List.replicate (N.length - ds.length) none
theorem rst_start {K : PySem.W.Frag} {H : Hp} {N : List Str} {ds : List D} {vs : List V} (h : Reps K H ds vs) : RSt K H (startD N ds) (L2.start N vs) := by
  have aux : ∀ (n : Nat), RSt K H (List.replicate n none) (List.replicate n none) := fun n => by
    induction n with
    | zero => rfl
    | succ n ih => exact ⟨none, _, rfl, trivial, ih⟩
  unfold startD L2.start
  rw [h.length]
  generalize N.length - vs.length = n
  induction ds generalizing vs with
  | nil =>
    have e : vs = [] := h
    subst e
    exact aux n
  | cons d ds ih =>
    obtain ⟨v, r, rfl, h1, h2⟩ := h
    exact ⟨some v, r.map some ++ List.replicate n none, rfl, h1, ih h2⟩
abbrev dX (G : En) (mg : Str → Option Value) (base : Heap) (N : List Str) (qual : Str) (st : Stmt) (f : Addr) (cdv : Value) (A : Around) (outer : List Env) (s : Shared) (H : Hp) (E : XK) : Cx :=
  cxOf (L2.CX G.P G.w) G.P G.w G.K mg base N qual (defScope st) f cdv A outer s H E
abbrev dW (E : XK) : WX := fun cls d _ H => E cls d H
/-- a def's body as a term of rules -/
def DBody (G : En) (mg : Str → Option Value) (base : Heap) (N : List Str) (qual : Str) (st : Stmt) (k : Nat) (t : QTS) : Prop :=
  ∀ (f : Addr) (cdv : Value) (A : Around) (outer : List Env) (s : Shared) (H : Hp) (E : XK), Room k (dX G mg base N qual st f cdv A outer s H E).A → Takes (dX G mg base N qual st f cdv A outer s H E) (dW E) →
    PassesOwn (model (dX G mg base N qual st f cdv A outer s H E).prog (dX G mg base N qual st f cdv A outer s H E).w) (dX G mg base N qual st f cdv A outer s H E).A (dX G mg base N qual st f cdv A outer s H E).env (dX G mg base N qual st f cdv A outer s H E).xe →
    QSs (dX G mg base N qual st f cdv A outer s H E) (dW E) (defBody st) t
/-- THE RULE for a def -/
theorem def_ok {G : En} {mg : Str → Option Value} {base : Heap} {x qual : Str} {st : Stmt} {f : Addr} {fd : FuncData} {N ps : List Str} {k : Nat} {sp : PSp} (F : Fun G.K x qual st f fd) (S : FnScope N ps (defScope st))
    (len : ∀ ds P Q E, sp ds P Q E → ds.length = ps.length) (read : ∀ ds P Q E, sp ds P Q E → ∃ t, DBody G mg base N qual st k t ∧ t (dEnds Q E) (startD N ds) P) :
    FnOk G.P G.w G.K mg base (L2.CX G.P G.w) (k + 1) f fd ps (lfSp G sp) := by
  refine F.okX S (fun vs H Q E h => ?_) (fun cdv A outer s H vs Q E hr h => ?_)
  · obtain ⟨ds, P, Qp, Ep, r, p, h, ke⟩ := h
    rw [← r.length]
    exact len _ _ _ _ h
  · obtain ⟨ds, P, Qp, Ep, r, p, h, ke⟩ := h
    obtain ⟨t, b, q⟩ := read _ _ _ _ h
    refine ⟨_, b f cdv A outer s H E hr (takes_of rfl rfl rfl rfl) (passes_of (K := fun e s'' => L2.CX G.P G.w outer H s E e s'') rfl), ?_⟩
    refine ⟨_, P, _, rst_start r, p, q, ⟨?_, ?_, ?_, fun _ _ _ _ z => z.elim, fun _ _ _ _ z => z.elim⟩⟩
    · rintro σp P' σ H' ⟨P0, l, q⟩ rs p' k'
      exact ke.ok _ _ _ _ q rfl (p'.le l) k'
    · rintro d P' v H' ⟨P0, l, q⟩ rd p' k'
      exact ke.ok _ _ _ _ q rd (p'.le l) k'
    · rintro C σp P' σ H' ⟨P0, l, q⟩ rs p' k'
      exact ke.ex _ _ _ q (p'.le l) k'

/-! ### calls -/
/-- a def that may be called by its name -/
structure Cal (G : En) (mg : Str → Option Value) (base : Heap) (k : Nat) (x : Str) (sp : PSp) : Prop where
  ex : ∃ (f : Addr) (fd : FuncData) (ps : List Str), FnOk G.P G.w G.K mg base (L2.CX G.P G.w) k f fd ps (lfSp G sp) ∧ mg x = some (.ref f) ∧ PySem.W.keepIn G.K (.ref f) = true ∧ Binds G.K fd ps []
/-- a method of the class at C -/
structure Met (G : En) (mg : Str → Option Value) (base : Heap) (k : Nat) (C : Addr) (m : Str) (sp : PSp) : Prop where
  ex : ∃ (f : Addr) (fd : FuncData) (ps : List Str), Cls G.K C ∧ Meth G.K C m f ∧ FnOk G.P G.w G.K mg base (L2.CX G.P G.w) k f fd ps (lfSp G sp) ∧ Binds G.K fd ps []
/-- a class that may be made; sp: its __init__ -/
structure Mak (G : En) (mg : Str → Option Value) (base : Heap) (k : Nat) (x : Str) (C : Addr) (sp : PSp) : Prop where
  ex : ∃ (f : Addr) (fd : FuncData) (ps : List Str), Mk G.K C f ∧ FnOk G.P G.w G.K mg base (L2.CX G.P G.w) k f fd ps (lfSp G sp) ∧ mg x = some (.ref C) ∧ Binds G.K fd ps []
theorem Cal.mono {G : En} {mg : Str → Option Value} {base : Heap} {j k : Nat} {x : Str} {sp : PSp} (c : Cal G mg base j x sp) (h : j ≤ k) : Cal G mg base k x sp := let ⟨f, fd, ps, a, b, c, d⟩ := c.ex; ⟨f, fd, ps, a.mono h, b, c, d⟩
theorem Met.mono {G : En} {mg : Str → Option Value} {base : Heap} {j k : Nat} {C : Addr} {x : Str} {sp : PSp} (c : Met G mg base j C x sp) (h : j ≤ k) : Met G mg base k C x sp := let ⟨f, fd, ps, a, b, c, d⟩ := c.ex; ⟨f, fd, ps, a, b, c.mono h, d⟩
theorem Mak.mono {G : En} {mg : Str → Option Value} {base : Heap} {j k : Nat} {C : Addr} {x : Str} {sp : PSp} (c : Mak G mg base j x C sp) (h : j ≤ k) : Mak G mg base k x C sp := let ⟨f, fd, ps, a, b, c, d⟩ := c.ex; ⟨f, fd, ps, a, b.mono h, c, d⟩
theorem lfSp_imp {G : En} {sp sp' : PSp} (h : ∀ ds P Q E, sp' ds P Q E → sp ds P Q E) : ∀ vs H Q E, lfSp G sp' vs H Q E → lfSp G sp vs H Q E := fun _ _ _ _ ⟨ds, P, Qp, Ep, r, p, q, ke⟩ => ⟨ds, P, Qp, Ep, r, p, h _ _ _ _ q, ke⟩
theorem Cal.imp {G : En} {mg : Str → Option Value} {base : Heap} {k : Nat} {x : Str} {sp sp' : PSp} (c : Cal G mg base k x sp) (h : ∀ ds P Q E, sp' ds P Q E → sp ds P Q E) : Cal G mg base k x sp' := let ⟨f, fd, ps, a, b, c, d⟩ := c.ex; ⟨f, fd, ps, a.imp (lfSp_imp h), b, c, d⟩
theorem Met.imp {G : En} {mg : Str → Option Value} {base : Heap} {k : Nat} {C : Addr} {x : Str} {sp sp' : PSp} (c : Met G mg base k C x sp) (h : ∀ ds P Q E, sp' ds P Q E → sp ds P Q E) : Met G mg base k C x sp' := let ⟨f, fd, ps, a, b, c, d⟩ := c.ex; ⟨f, fd, ps, a, b, c.imp (lfSp_imp h), d⟩
/-- what is wished of errors, whatever the slots hold -/
def EW (W : WX) : XK := fun cls d H => ∃ σ, W cls d σ H
/-- a wish that looks at no slot -/
def Calm (W : WX) : Prop := ∀ cls d σ σ' H, W cls d σ H → W cls d σ' H
theorem calm_dW {E : XK} : Calm (dW E) := fun _ _ _ _ _ h => h
theorem px {X : Cx} {W : WX} (tk : Takes X W) (c : Calm W) : Passes (L2.CX X.prog X.w) X (EW W) := fun pins σ H s e s' I h => passes_call tk (fun cls d σ H ⟨σ', q⟩ => c _ _ _ _ _ q) pins σ H s e s' I h
section
variable {X : Cx} {W : WX} {k j : Nat} {x m : Str} {sp : PSp} {p pos apos : Pos} {e o : Expr} {es : List Expr} {te : QTE} {t : QTA} {C : Addr}
def qCall (sp : PSp) (t : QTA) : QTE := fun σ P Q E => t σ P (fun ds P1 => sp ds P1 Q E) E
theorem qe_call (tk : Takes X W) (c : Cal (Cx.en X) X.mg X.base k x sp) (hr : Room k X.A) (ha : QA X W (e :: es) t) (hg : Gl X x := by rfl) (hdb : (x == ("__debug__" : Str)) = false := by decide) (he : starEach (e :: es) X.env = (false, eval e X.env) :: starEach es X.env := by rfl)
    (hpl : (backTo pos (starEach es X.env)).any (·.1) = false := by rfl) : QE X W (.Call (.Name x p) (e :: es) [] pos) (qCall sp t) := by
  obtain ⟨f, fd, ps, F, hm, hk, hb⟩ := c.ex
  refine pe_of (pe_callS F hr hg hm hk hb (passAt tk) ha hdb he hpl) fun σ H Q ⟨σp, P, Qp, Ep, rs, p, t, k⟩ => ?_
  refine ⟨σp, P, _, Ep, rs, p, t, ⟨fun ds P1 vs H1 q r p1 k1 => ?_, k.ex⟩⟩
  exact ⟨ds, P1, Qp, Ep, r, p1, q, ⟨fun d P2 v H2 a b c e => k.ok d P2 v H2 a b c (k1.trans e), fun C P2 H2 a b c => k.ex C P2 H2 a b (k1.trans c)⟩⟩
/-- o.m(..) -/
def qMeth (C : Addr) (m : Str) (sp : PSp) (te : QTE) (t : QTA) : QTE := fun σ P Q E => te σ P (fun x P1 => match x with
  | .ref a => ∃ fs, P1 a = some (.ins C fs) ∧ fs.lookup m = none ∧ t σ P1 (fun ds P2 => sp (.ref a :: ds) P2 Q E) E
  | _ => False) E
theorem qe_methOf {e' : Expr} (h : PE X e' (tMeth C m (lfSp (Cx.en X) sp) [] (EW W) (lfE (Cx.en X) W te) (lfA (Cx.en X) W t))) : QE X W e' (qMeth C m sp te t) := by
  refine pe_of h fun σ H Q ⟨σp, P, Qp, Ep, rs, p, t, k⟩ => ?_
  refine ⟨σp, P, _, Ep, rs, p, t, ⟨fun x P1 v H1 q r p1 k1 => ?_, k.ex⟩⟩
  cases x with
  | ref a =>
    rw [Rep] at r; subst r
    obtain ⟨fs, ha, hl, q⟩ := q
    obtain ⟨dx, gs, e, rf⟩ := p1 a _ ha
    refine ⟨a, dx, gs, rfl, e, (rf.lookup (f := m)).2 hl, σp, P1, _, Ep, rs.tk k1, p1, q, ⟨fun ds P2 vs H2 q2 r2 p2 k2 => ?_, (k.tk k1).ex⟩⟩
    refine ⟨.ref a :: ds, P2, Qp, Ep, ⟨.ref a, vs, by rw [List.append_nil], rfl, r2⟩, p2, q2, ⟨fun d P3 u H3 a b c e => k.ok d P3 u H3 a b c (k1.trans (k2.trans e)), fun C P3 H3 a b c => ⟨σ, k.ex C P3 H3 a b (k1.trans (k2.trans c))⟩⟩⟩
  | _ => exact q.elim
theorem qe_methOf0 {e' : Expr} (h : PE X e' (tMeth C m (lfSp (Cx.en X) sp) [] (EW W) (lfE (Cx.en X) W te) tNil)) : QE X W e' (qMeth C m sp te qNil) := by
  refine pe_of h fun σ H Q ⟨σp, P, Qp, Ep, rs, p, t, k⟩ => ?_
  refine ⟨σp, P, _, Ep, rs, p, t, ⟨fun x P1 v H1 q r p1 k1 => ?_, k.ex⟩⟩
  cases x with
  | ref a =>
    rw [Rep] at r; subst r
    obtain ⟨fs, ha, hl, q⟩ := q
    obtain ⟨dx, gs, e, rf⟩ := p1 a _ ha
    refine ⟨a, dx, gs, rfl, e, (rf.lookup (f := m)).2 hl, ?_⟩
    exact ⟨[.ref a], P1, Qp, Ep, ⟨.ref a, [], rfl, rfl, rfl⟩, p1, q, ⟨fun d P3 u H3 a b c e => k.ok d P3 u H3 a b c (k1.trans e), fun C P3 H3 a b c => ⟨σ, k.ex C P3 H3 a b (k1.trans c)⟩⟩⟩
  | _ => exact q.elim
/-- C(..) -/
def qMake (C : Addr) (sp : PSp) (t : QTA) : QTE := fun σ P Q E => t σ P (fun ds P1 => ∀ a, P1 a = none → sp (.ref a :: ds) (up P1 a (.ins C [])) (fun v P2 => v = .non ∧ Q (.ref a) P2) E) E
theorem made_h {G : En} {H : Hp} {P : PH} {a dx C : Addr} (p : RepH G H P) (ha : H a = none) (hd : H dx = none) (hn : dx ≠ a) : RepH G (upd (upd H dx (.own a)) a (.ins C dx [])) (up P a (.ins C [])) ∧ TK G.K H (upd (upd H dx (.own a)) a (.ins C dx [])) ∧ P a = none := by
  have ha' : upd H dx (.own a) a = none := by rw [upd_ne hn.symm]; exact ha
  exact ⟨(p.hid hd).new ha' ⟨dx, [], upd_same, rfl⟩, (TK.new hd).trans (TK.new ha'), p.free ha⟩
theorem qe_makeOf {e' : Expr} (h : PE X e' (tMake C (lfSp (Cx.en X) sp) [] (EW W) (lfA (Cx.en X) W t))) : QE X W e' (qMake C sp t) := by
  refine pe_of h fun σ H Q ⟨σp, P, Qp, Ep, rs, p, t, k⟩ => ?_
  refine ⟨σp, P, _, Ep, rs, p, t, ⟨fun ds P1 vs H1 q r p1 k1 => ?_, k.ex⟩⟩
  intro a dx ha hd hn
  obtain ⟨p2, k2, h0⟩ := made_h (C := C) p1 ha hd hn
  refine ⟨.ref a :: ds, _, _, Ep, ⟨.ref a, vs, by rw [List.append_nil], rfl, Reps.tk k2 _ _ r⟩, p2, q a h0, ⟨fun d P3 u H3 hq b c e => ?_, fun C P3 H3 a b c => ⟨σ, k.ex C P3 H3 a b (k1.trans (k2.trans c))⟩⟩⟩
  obtain ⟨rfl, hq⟩ := hq
  exact ⟨b, k.ok _ P3 _ H3 hq rfl c (k1.trans (k2.trans e))⟩
theorem qe_makeOf0 {e' : Expr} (h : PE X e' (tMake C (lfSp (Cx.en X) sp) [] (EW W) tNil)) : QE X W e' (qMake C sp qNil) := by
  refine pe_of h fun σ H Q ⟨σp, P, Qp, Ep, rs, p, t, k⟩ => ?_
  intro a dx ha hd hn
  obtain ⟨p2, k2, h0⟩ := made_h (C := C) p ha hd hn
  refine ⟨[.ref a], _, _, Ep, ⟨.ref a, [], rfl, rfl, rfl⟩, p2, t a h0, ⟨fun d P3 u H3 hq b c e => ?_, fun C P3 H3 a b c => ⟨σ, k.ex C P3 H3 a b (k2.trans c)⟩⟩⟩
  obtain ⟨rfl, hq⟩ := hq
  exact ⟨b, k.ok _ P3 _ H3 hq rfl c (k2.trans e)⟩
/-- .. whose __init__ raises nothing, whatever is wished -/
def spQ (sp : PSp) : PSp := fun ds P Q _ => sp ds P Q fun _ _ => False
theorem qe_makeQ {e' : Expr} (h : PE X e' (tMake C (lfSp (Cx.en X) sp) [] (fun _ _ _ => False) (lfA (Cx.en X) W t))) : QE X W e' (qMake C (spQ sp) t) := by
  refine pe_of h fun σ H Q ⟨σp, P, Qp, Ep, rs, p, t, k⟩ => ?_
  refine ⟨σp, P, _, Ep, rs, p, t, ⟨fun ds P1 vs H1 q r p1 k1 => ?_, k.ex⟩⟩
  intro a dx ha hd hn
  obtain ⟨p2, k2, h0⟩ := made_h (C := C) p1 ha hd hn
  refine ⟨.ref a :: ds, _, _, fun _ _ => False, ⟨.ref a, vs, by rw [List.append_nil], rfl, Reps.tk k2 _ _ r⟩, p2, q a h0, ⟨fun d P3 u H3 hq b c e => ?_, fun C P3 H3 a b c => a.elim⟩⟩
  obtain ⟨rfl, hq⟩ := hq
  exact ⟨b, k.ok _ P3 _ H3 hq rfl c (k1.trans (k2.trans e))⟩
theorem pxQ {X : Cx} : Passes (L2.CX X.prog X.w) X (fun _ _ _ => False) := fun pins σ H s e s' I h => by
  obtain ⟨_, _, _, _, _, _, _, _, _, _, _, _, z⟩ := h
  exact z.elim

/-! ### raise, try -/
/-- raise X('..') -/
def qRaise (C : Addr) : QTS := fun D σ P => D.ex C σ P
def vB : List Value := [.type "ValueError", .type "Exception", .type "BaseException", .type "object"]
structure ErrC (K : PySem.W.Frag) (mg : Str → Option Value) (x : Str) (C : Addr) : Prop where
  own : PySem.W.excIn K C vB "ValueError.__new__" = true
  mgC : mg x = some (.ref C)
  kp : PySem.W.keepIn K (.ref C) = true
  sub : PySem.W.subIn K (.ref C) (.type "BaseException") = some true
  tyC : PySem.W.typeIn K (.ref C) = some (.type "type")
theorem qs_raise {z : Str} {i : Nat} {p2 pos' : Pos} (hc : X.calm = true) (tk : Takes X W) (c : ErrC X.K X.mg x C) (hg : Gl X x := by rfl) (hdb : (x == ("__debug__" : Str)) = false := by decide) :
    QS X W (.Raise (some (.Call (.Name x p) [.Constant (.str z) i p2] [] pos)) none pos') (qRaise C) :=
  ps_of (ps_raise hc tk (pmk_own PySem.F.excBase_ValueError c.own c.mgC c.kp (raises_own c.sub c.tyC) hg hdb)) fun D σ H ⟨σp, P, Dp, rs, p, t, l⟩ => l.ex C σp P σ H t rs p (TK.refl _ _)
/-- try: .. except X: .. -/
def qTry (K : PySem.W.Frag) (C : Addr) (tb ts : QTS) : QTS := fun D σ P => tb { D with ex := fun C' σ' P' => ∃ b, PySem.W.exmOne K (.ref C') (.ref C) = some b ∧ (b = true → ts D σ' P') ∧ (b = false → D.ex C' σ' P') } σ P
theorem qs_tryOf {K : PySem.W.Frag} {body : List Stmt} {st : Stmt} {tb ts : QTS} (hK : X.K = K)
    (h : PS X st (fun D σ H => lfS (Cx.en X) (wOnly X.K (.ref C) (fun _ _ _ => lfS (Cx.en X) W ts) W D) tb D σ H)) : QS X W st (qTry K C tb ts) := by
  subst hK
  refine ps_of h fun D σ H ⟨σp, P, Dp, rs, p, t, l⟩ => ?_
  refine ⟨σp, P, _, rs, p, t, ⟨l.nx, l.rt, fun C' σp1 P1 σ1 H1 ⟨b, e, q1, q2⟩ r1 p1 k1 => ⟨b, e, fun hb a _ => ?_, fun hb => l.ex _ _ _ _ _ (q2 hb) r1 p1 k1⟩, l.bk, l.ct⟩⟩
  exact ⟨σp1, P1, Dp, r1, p1, q1 hb, l.tk k1⟩
end
end PL
namespace PL
open PySem PySem.Spec L2

/-! ### list comprehensions -/
def wipeD (σ : PSt) : List Nat → PSt
  | [] => σ
  | v :: vs => (wipeD σ vs).set v none
theorem RSt.setN {K : PySem.W.Frag} {H : Hp} : ∀ {ds : List (Option D)} {σ : St} (i : Nat), RSt K H ds σ → RSt K H (ds.set i none) (σ.set i none)
  | [], σ, i, h => by have e : σ = [] := h; rw [e]; cases i <;> simp [RSt]
  | x :: xs, σ, 0, h => by
    obtain ⟨u, r, rfl, h1, h2⟩ := h
    exact ⟨none, r, rfl, trivial, h2⟩
  | x :: xs, σ, i + 1, h => by
    obtain ⟨u, r, rfl, h1, h2⟩ := h
    exact ⟨u, r.set i none, rfl, h1, RSt.setN i h2⟩
theorem RSt.wipe {K : PySem.W.Frag} {H : Hp} {ds : List (Option D)} {σ : St} (h : RSt K H ds σ) : ∀ vs : List Nat, RSt K H (wipeD ds vs) (L2.wipe σ vs)
  | [] => h
  | v :: vs => (RSt.wipe h vs).setN v
theorem wipe_at {σ : St} {i : Nat} : ∀ {vs : List Nat}, i ∈ vs → (wipe σ vs)[i]? = (σ[i]?).map fun _ => none
  | v :: vs, h => by
    unfold wipe
    by_cases e : v = i
    · subst e
      rw [List.getElem?_set, wipe_length]
      by_cases hv : v < σ.length
      · rw [if_pos rfl, if_pos hv, List.getElem?_eq_getElem hv]
        all_goals rfl
      · rw [if_pos rfl, if_neg hv, List.getElem?_eq_none (by omega)]
        all_goals rfl
    · rw [List.getElem?_set_ne e]
      have m : i ∈ vs := by
        rcases List.mem_cons.mp h with h | h
        · exact absurd h.symm e
        · exact h
      exact wipe_at m
theorem wipe_ext {σ τ : St} {vs : List Nat} (hl : σ.length = τ.length) (h : ∀ i, i ∉ vs → σ[i]? = τ[i]?) : wipe σ vs = wipe τ vs := by
  refine List.ext_getElem? fun i => ?_
  by_cases hi : i ∈ vs
  · rw [wipe_at hi, wipe_at hi]
    by_cases hv : i < σ.length
    · rw [List.getElem?_eq_getElem hv, List.getElem?_eq_getElem (by omega)]
      all_goals rfl
    · rw [List.getElem?_eq_none (by omega), List.getElem?_eq_none (by omega)]
  · rw [wipe_out hi, wipe_out hi, h i hi]
theorem wipe_wipe (σ : St) (vs : List Nat) : wipe (wipe σ vs) vs = wipe σ vs := wipe_ext (wipe_length _ _) fun i hi => wipe_out hi
theorem wipe_set {σ : St} {vs : List Nat} {i : Nat} {x : Option V} (h : i ∈ vs) : wipe (σ.set i x) vs = wipe σ vs := wipe_ext (by simp) fun j hj => by
  rw [List.getElem?_set_ne]
  intro e
  subst e
  exact hj h
/-- a target within a block: it stores into the block's own names alone -/
abbrev QGw (X : Cx) (tg : Expr) (vs : List Nat) (g : QTG) : Prop := PG X tg (fun v σ H Q => lfG (Cx.en X) g v σ H fun σ' H' => wipe σ' vs = wipe σ vs → Q σ' H')
abbrev QGsw (X : Cx) (ts : List Expr) (vs : List Nat) (g : QTGs) : Prop := PGs X ts (fun v σ H Q => lfGs (Cx.en X) g v σ H fun σ' H' => wipe σ' vs = wipe σ vs → Q σ' H')
section
variable {X : Cx} {W : WX} {pos : Pos} {vs : List Nat}
theorem qgw_name {i : Nat} {x : Str} (hN : X.N.Nodup) (hm : i ∈ vs := by decide) (hi : X.N[i]? = some x := by rfl) (hx : Loc X.env.scope x := by first | exact Or.inl rfl | exact Or.inr rfl) (hf : X.fn x = true ∨ X.env.scope.names.lookup x = some .local := by first | exact .inl rfl | exact .inr rfl | assumption) : QGw X (.Name x pos) vs (qgName i) :=
  pg_of (pg_name hN hi hx hf) fun v σ H Q ⟨d, σp, P, Qp, r, rs, p, t, k⟩ => k.ok _ _ _ _ t (RSt.set r i rs) p (TK.refl _ _) (wipe_set hm)
theorem qgsw_nil : QGsw X [] vs qgNil := pgs_of pgs_nil fun v σ H Q ⟨d, σp, P, Qp, r, rs, p, t, k⟩ => by
  obtain ⟨e, t⟩ := t
  subst e
  exact ⟨r, k.ok _ _ _ _ t rs p (TK.refl _ _) rfl⟩
theorem qgsw_cons {e : Expr} {es : List Expr} {t : QTG} {u : QTGs} (h1 : QGw X e vs t) (h2 : QGsw X es vs u) (hs : (assignEach (e :: es) X.env).map (·.2) = assign e X.env :: (assignEach es X.env).map (·.2) := by rfl) : QGsw X (e :: es) vs (qgCons t u) :=
  pgs_of (pgs_cons h1 h2 hs) fun v σ H Q ⟨ds, σp, P, Qp, r, rs, p, t, k⟩ => by
    cases ds with
    | nil => exact t.elim
    | cons d ds =>
      obtain ⟨x, xs, rfl, r1, r2⟩ := r
      exact ⟨x, xs, rfl, d, σp, P, _, r1, rs, p, t, ⟨fun σ1 P1 σ' H' q rs' p' k' hw => ⟨ds, σ1, P1, Qp, Reps.tk k' _ _ r2, rs', p', q, ⟨fun σ2 P2 σ'' H'' q2 rs2 p2 k2 hw2 => k.ok _ _ _ _ q2 rs2 p2 (k'.trans k2) (hw2.trans hw)⟩⟩⟩⟩
theorem qgw_tup {es : List Expr} {k : Nat} {t : QTGs} {n : Nat} (hc : X.calm = true) (h : QGsw X es vs t) (hn : (assignEach es X.env).length = n := by rfl) (hst : (assignEach es X.env).findIdx? (·.1) = none := by rfl) : QGw X (.Tuple es k pos) vs (qgTup n t) :=
  pg_of (pg_tup hc h hn hst) fun v σ H Q ⟨d, σp, P, Qp, r, rs, p, t, k⟩ => by
    cases d with
    | tup xs =>
      obtain ⟨a, vs, rfl, q, r⟩ := r
      exact ⟨a, vs, rfl, q, by rw [← Reps.length r]; exact t.1, xs, σp, P, Qp, r, rs, p, t.2, k⟩
    | _ => exact t.elim
abbrev QTs (X : Cx) (W : WX) (ifs : List Expr) (t : QTT) : Prop := PTs X ifs (lfT (Cx.en X) W t)
def qYes : QTT := fun _ P Q _ => Q true P
theorem qts_nil : QTs X W [] qYes := ⟨fun pins s σ H Q I ⟨σp, P, Qp, Ep, rs, p, t, k⟩ => (pts_nil (X := X)).run pins s σ H Q I (k.ok true P true H t rfl p (TK.refl _ _))⟩
theorem qts_one {c : Expr} {t : QTT} (h : QT X W c t) : QTs X W [c] t := pts_one h
/-- within a comprehension nothing is raised -/
abbrev W0 : WX := fun _ _ _ _ => False
abbrev X0 : PX := fun _ _ => False
/-- [elt for target in iter if ..]: l the new list; V by the turn, what is made, what stands -/
def qLc (qi : QTI) (g : QTG) (tt : QTT) (te : QTE) (vs : List Nat) : QTE := fun σ P Q E => qi σ P (fun xs S P1 => ∀ l, P1 l = none → ∃ V : Nat → List D → PH → Prop, V 0 [] (up P1 l (.lst [])) ∧
  (∀ i x acc P2, xs[i]? = some x → V i acc P2 → P2 l = some (.lst acc) → S P2 ∧ acc.length < sizeLine ∧ g x (wipeD σ vs) P2 fun σ3 P3 => tt σ3 P3 (fun b P4 => if b = true then te σ3 P4 (fun y P5 => P5 l = some (.lst acc) ∧ ∃ P0, Le P0 (up P5 l (.lst (acc ++ [y]))) ∧ P0 l = some (.lst (acc ++ [y])) ∧ V (i + 1) (acc ++ [y]) P0) X0
    else ∃ P0, Le P0 P4 ∧ P0 l = some (.lst acc) ∧ V (i + 1) acc P0) X0) ∧
  ∀ acc P2, V xs.length acc P2 → P2 l = some (.lst acc) → S P2 ∧ Q (.ref l) P2) E
theorem lc_lift {K : PySem.W.Frag} {G : En} {tg iter : Expr} {qi : QTI} {g : QTG} {tt : QTT} {te : QTE} {σ : St} {H : Hp} {Q : VK} (hK : G.K = K) (h : lfE G W (qLc qi g tt te vs) σ H Q) :
    tLc (lfI G W qi) (fun v σ H Q => lfG G g v σ H fun σ' H' => wipe σ' vs = wipe σ vs → Q σ' H') (lfT G W0 tt) (lfE G W0 te) vs σ H Q := by
  obtain ⟨σp, P, Qp, Ep, rs, p, t, k⟩ := h
  refine ⟨σp, P, _, Ep, rs, p, t, fun xs S P1 H1 J q p1 k1 okI => ?_, k.ex⟩
  intro L hL
  obtain ⟨V, v0, step, done⟩ := q L (p1.free hL)
  have kL : TK G.K H1 (upd H1 L (.lst [])) := TK.new hL
  refine ⟨fun i m H' => ∃ acc P2, m = xs.length - i ∧ i ≤ xs.length ∧ RepH G H' P2 ∧ TK G.K (upd H1 L (.lst [])) H' ∧ P2 L = some (.lst acc) ∧ V i acc P2, ⟨_, [], up P1 L (.lst []), rfl, Nat.zero_le _, p1.new hL ⟨[], upd_same, rfl⟩, TK.refl _ _, up_same, v0⟩, ?_⟩
  rintro i m H2 ⟨acc, P2, rfl, hi, p2, k2, hacc, v2⟩
  by_cases hlt : i < xs.length
  · have hx := List.getElem?_eq_getElem hlt
    obtain ⟨s2, hz, _⟩ := step i _ acc P2 hx v2 hacc
    refine .inr ⟨okI.go i H2 P2 (kL.trans k2) p2 s2 hlt, fun H' => ∃ acc P2, RepH G H' P2 ∧ TK G.K (upd H1 L (.lst [])) H' ∧ P2 L = some (.lst acc) ∧ V (i + 1) acc P2, fun H' ⟨a, b, h1, h2, h3, h4⟩ => ⟨xs.length - (i + 1), by omega, a, b, rfl, hlt, h1, h2, h3, h4⟩, fun x H3 y => ?_⟩
    obtain ⟨k3, p3, d, hd, r3⟩ := okI.yld i H2 P2 x H3 (kL.trans k2) p2 s2 hlt y
    obtain ⟨_, _, q⟩ := step i d acc P2 hd v2 hacc
    have rsw := (rs.tk (k1.trans (kL.trans (k2.trans k3)))).wipe vs
    refine ⟨d, wipeD σp vs, P2, _, r3, rsw, p3, q, ⟨fun σ4 P4 σ' H4 q4 rs4 p4 k4 hw => ⟨hw.trans (wipe_wipe _ _), ?_⟩⟩⟩
    refine ⟨σ4, P4, _, _, rs4, p4, q4, ⟨fun b P5 b' H5 q5 e p5 k5 => ?_, fun _ _ _ z => z.elim⟩⟩
    obtain rfl : b = b' := e
    cases b with
    | false =>
      obtain ⟨P0, l0, e0, v0⟩ := q5
      exact ⟨acc, P0, p5.le l0, k2.trans (k3.trans (k4.trans k5)), e0, v0⟩
    | true =>
      refine ⟨σ4, P5, _, _, rs4.tk k5, p5, q5, ⟨fun y P6 u H6 q6 r6 p6 k6 => ?_, fun _ _ _ z => z.elim⟩⟩
      obtain ⟨e6, P0, l0, e0, v0⟩ := q6
      obtain ⟨us, e7, r7⟩ := p6 L _ e6
      have n6 : NoTup (H6 L) := by rw [e7]; trivial
      refine ⟨us, e7, by rw [← r7.length]; exact hz, acc ++ [y], P0, ?_, k2.trans (k3.trans (k4.trans (k5.trans (k6.trans (TK.upd n6))))), e0, v0⟩
      exact (p6.write (o := .lst (acc ++ [y])) n6 ⟨us ++ [u], upd_same, Reps.append (Reps.tk (TK.upd n6) _ _ r7) (Reps.one (Rep.tk (TK.upd n6) _ _ r6))⟩).le l0
  · have e : i = xs.length := by omega
    subst e
    obtain ⟨s2, q⟩ := done acc P2 v2 hacc
    exact .inl ⟨okI.stop H2 P2 (kL.trans k2) p2 s2, k.ok _ P2 _ H2 q rfl p2 (k1.trans (kL.trans k2))⟩
variable {elt tg iter : Expr} {ifs : List Expr} {scope : Scope} {own : List (Str × Nat)} {qi : QTI} {g : QTG} {tt : QTT} {te : QTE}
theorem qe_lc (hc : X.calm = true) (hN : X.N.Nodup) (hi : QI X W tg iter qi) (ok : BlkOk X.N X.env.scope scope own)
    (hg : ∀ (s : Shared) (H : Hp) (C : Addr) (cl : List (Str × Addr)) (fp : List Addr), QGw (X.blk s H scope (compEnvC scope cl C X.env) fp) tg (own.map (·.2)) g) (ht : ∀ (s : Shared) (H : Hp) (C : Addr) (cl : List (Str × Addr)) (fp : List Addr), QTs (X.blk s H scope (compEnvC scope cl C X.env) fp) W0 ifs tt)
    (he : ∀ (s : Shared) (H : Hp) (C : Addr) (cl : List (Str × Addr)) (fp : List Addr), QE (X.blk s H scope (compEnvC scope cl C X.env) fp) W0 elt te) (hs : ∀ x, foldedSetIterable iter X.env x = pure x := by intro _; rfl) :
    QE X W (.ListComp elt [⟨tg, iter, ifs, 0⟩] scope pos) (qLc qi g tt te (own.map (·.2))) := pe_of (pe_lc hc hN hi ok hg ht he hs) fun σ H Q h => lc_lift (K := X.K) (tg := tg) (iter := iter) rfl h
/-- name = [..] -/
theorem qs_setLc {i : Nat} {y : Str} {py spos : Pos} (hc : X.calm = true) (hN : X.N.Nodup) (hi : QI X W tg iter qi) (ok : BlkOk X.N X.env.scope scope own)
    (hg : ∀ (s : Shared) (H : Hp) (C : Addr) (cl : List (Str × Addr)) (fp : List Addr), QGw (X.blk s H scope (compEnvC scope cl C X.env) fp) tg (own.map (·.2)) g) (ht : ∀ (s : Shared) (H : Hp) (C : Addr) (cl : List (Str × Addr)) (fp : List Addr), QTs (X.blk s H scope (compEnvC scope cl C X.env) fp) W0 ifs tt)
    (he : ∀ (s : Shared) (H : Hp) (C : Addr) (cl : List (Str × Addr)) (fp : List Addr), QE (X.blk s H scope (compEnvC scope cl C X.env) fp) W0 elt te)
    (hsw : swapsWith (.ListComp elt [⟨tg, iter, ifs, 0⟩] scope pos) (some (.Name y py)) spos.line X.env = pure true) (hy : X.N[i]? = some y := by rfl) (hyl : X.env.scope.names.lookup y = some .local := by rfl) (hs : ∀ x, foldedSetIterable iter X.env x = pure x := by intro _; rfl) :
    QS X W (.Assign [.Name y py] (.ListComp elt [⟨tg, iter, ifs, 0⟩] scope pos) spos) (qAsg (qLc qi g tt te (own.map (·.2))) (qgName i)) := ps_of (ps_setLc hc hN hy hyl hsw hi ok hg ht he hs) fun D σ H ⟨σp, P, Dp, rs, p, t, l⟩ =>
  lc_lift (K := X.K) (tg := tg) (iter := iter) rfl ⟨σp, P, _, _, rs, p, t, l.ke rs fun d P1 v H1 a b c k r l1 => l1.nx _ _ _ _ a (RSt.set b i r) c (TK.refl _ _)⟩
end
/-- a comprehension that changes nothing: f tells what each item gives -/
theorem lc_pure (f : D → Option D) {xs : List D} {S : PH → Prop} {g : QTG} {tt : QTT} {te : QTE} {vs : List Nat} {σ : PSt} {P1 : PH} {Q : PK} (hz : xs.length ≤ sizeLine) (hS : ∀ P2, Le P1 P2 → S P2)
    (step : ∀ (i : Nat) (x : D) (P2 : PH) (K : D → PH → Prop) (N : PH → Prop), xs[i]? = some x → Le P1 P2 → (∀ y P5, Le P2 P5 → f x = some y → K y P5) → (∀ P5, Le P2 P5 → f x = none → N P5) →
      g x (wipeD σ vs) P2 fun σ3 P3 => tt σ3 P3 (fun b P4 => if b = true then te σ3 P4 K X0 else N P4) X0)
    (hQ : ∀ l, P1 l = none → Q (.ref l) (up P1 l (.lst (xs.filterMap f)))) :
    ∀ l, P1 l = none → ∃ V : Nat → List D → PH → Prop, V 0 [] (up P1 l (.lst [])) ∧
      (∀ i x acc P2, xs[i]? = some x → V i acc P2 → P2 l = some (.lst acc) → S P2 ∧ acc.length < sizeLine ∧ g x (wipeD σ vs) P2 fun σ3 P3 => tt σ3 P3 (fun b P4 => if b = true then te σ3 P4 (fun y P5 => P5 l = some (.lst acc) ∧ ∃ P0, Le P0 (up P5 l (.lst (acc ++ [y]))) ∧ P0 l = some (.lst (acc ++ [y])) ∧ V (i + 1) (acc ++ [y]) P0) X0
        else ∃ P0, Le P0 P4 ∧ P0 l = some (.lst acc) ∧ V (i + 1) acc P0) X0) ∧
      ∀ acc P2, V xs.length acc P2 → P2 l = some (.lst acc) → S P2 ∧ Q (.ref l) P2 := by
  intro l hl
  have n1 : ∀ o, Le P1 (up P1 l o) := fun o => Le.new hl
  refine ⟨fun i acc P2 => acc = (xs.take i).filterMap f ∧ P2 = up P1 l (.lst acc), ⟨by simp, rfl⟩, ?_, ?_⟩
  · rintro i x acc P2 hx ⟨rfl, rfl⟩ _
    have hi : i < xs.length := (List.getElem?_eq_some_iff.mp hx).1
    have ht : xs.take (i + 1) = xs.take i ++ [x] := by rw [List.take_add_one, hx]; rfl
    refine ⟨hS _ (n1 _), ?_, step i x _ _ _ hx (n1 _) (fun y P5 l5 hy => ?_) (fun P5 l5 hy => ?_)⟩
    · refine Nat.lt_of_le_of_lt (List.length_filterMap_le _ _) ?_
      rw [List.length_take]
      omega
    · refine ⟨l5 _ _ up_same, up P1 l (.lst ((xs.take i).filterMap f ++ [y])), ?_, up_same, ?_, rfl⟩
      · intro b u e
        by_cases hb : b = l
        · subst hb
          rw [up_same] at e ⊢
          exact e
        · rw [up_ne hb] at e ⊢
          exact l5 b u (by rw [up_ne hb]; exact e)
      · rw [ht, List.filterMap_append]
        simp [hy]
    · refine ⟨_, l5, up_same, ?_, rfl⟩
      rw [ht, List.filterMap_append]
      simp [hy]
  · rintro acc P2 ⟨rfl, rfl⟩ _
    rw [List.take_length]
    exact ⟨hS _ (n1 _), hQ l hl⟩
end PL
namespace PL
open PySem PySem.Spec L2
section
variable {X : Cx} {W : WX}
def q3 (f : D → D → D → PH → PK → Prop) : QC := fun ds P Q => match ds with
  | [d, e, g] => f d e g P Q
  | _ => False
theorem q3_inv {f : D → D → D → PH → PK → Prop} {ds : List D} {P : PH} {Q : PK} (h : q3 f ds P Q) : ∃ d e g, ds = [d, e, g] ∧ f d e g P Q := by
  match ds, h with
  | [d, e, g], h => exact ⟨d, e, g, rfl, h⟩
theorem reps3 {K : PySem.W.Frag} {H : Hp} {d e g : D} {vs : List V} (h : Reps K H [d, e, g] vs) : ∃ v u w, vs = [v, u, w] ∧ Rep K H d v ∧ Rep K H e u ∧ Rep K H g w := by
  obtain ⟨v, r, rfl, h1, h2⟩ := h
  obtain ⟨u, w, rfl, h3, h4⟩ := reps2 h2
  exact ⟨v, u, w, rfl, h1, h3, h4⟩
/-- min(i, j, k) -/
def qMin3 : QC := q3 fun d e g P Q => match d, e, g with
  | .int i, .int j, .int k => Q (.int (min (min i j) k)) P
  | _, _, _ => False
theorem min_if (i j : Int) : (if decide (j < i) = true then V.int j else V.int i) = V.int (min i j) := by
  by_cases h : j < i
  · rw [if_pos (decide_eq_true h), Int.min_eq_right (Int.le_of_lt h)]
  · rw [if_neg (by simpa using h), Int.min_eq_left (by omega)]
theorem numin3 (i j k : Int) : nuMin3 (.int i) (.int j) (.int k) = some (.int (min (min i j) k)) := by
  show ((some (decide (j < i))).map _).bind _ = _
  show (nuMin2 (if decide (j < i) = true then V.int j else V.int i) (V.int k)) = _
  rw [min_if]
  show some (if decide (k < min i j) = true then V.int k else V.int (min i j)) = _
  rw [min_if]
theorem call_qmin3 (hc : X.calm = true) : CallR X (.builtin "min") (lfC (Cx.en X) qMin3) := callR_imp (call_min3Nu hc) fun xs H Q ⟨ds, P, Qp, r, p, t, k⟩ => by
  obtain ⟨d, e, g, rfl, t⟩ := q3_inv t
  cases d <;> cases e <;> cases g <;> first
    | exact t.elim
    | (obtain ⟨v, u, w, rfl, rfl, rfl, rfl⟩ := reps3 r
       exact ⟨_, _, _, _, rfl, numin3 _ _ _, k.ok _ _ _ _ t rfl p (TK.refl _ _)⟩)
/-- sum of a list of ints -/
def intsOf : List D → Option (List Int)
  | [] => some []
  | .int i :: r => (intsOf r).map (i :: ·)
  | _ => none
theorem intsOf_map (ns : List Int) : intsOf (ns.map D.int) = some ns := by
  induction ns with
  | nil => rfl
  | cons n ns ih => show (intsOf (ns.map D.int)).map _ = _; rw [ih]; rfl
theorem intsOf_eq : ∀ {xs : List D} {ns : List Int}, intsOf xs = some ns → xs = ns.map D.int
  | [], ns, h => by cases h; rfl
  | .int i :: r, ns, h => by
    have h : (intsOf r).map (i :: ·) = some ns := h
    cases e : intsOf r with
    | none => rw [e] at h; cases h
    | some m => rw [e] at h; cases h; rw [intsOf_eq e]; rfl
  | .non :: r, ns, h => by cases h
  | .bl _ :: r, ns, h => by cases h
  | .str _ :: r, ns, h => by cases h
  | .tup _ :: r, ns, h => by cases h
  | .ref _ :: r, ns, h => by cases h
  | .ty _ :: r, ns, h => by cases h
theorem reps_ints {K : PySem.W.Frag} {H : Hp} : ∀ {ns : List Int} {vs : List V}, Reps K H (ns.map D.int) vs → vs = ns.map V.int
  | [], vs, h => h
  | n :: ns, vs, h => by
    obtain ⟨v, r, rfl, h1, h2⟩ := h
    have e : v = .int n := h1
    rw [e, reps_ints h2]; rfl
theorem ints_reps {K : PySem.W.Frag} {H : Hp} : ∀ (ns : List Int), Reps K H (ns.map D.int) (ns.map V.int)
  | [] => rfl
  | n :: ns => ⟨_, _, rfl, rfl, ints_reps ns⟩
def qSum : QC := q1 fun d P Q => match d with
  | .ref a => ∃ ns : List Int, RdL P a (ns.map D.int) ∧ Q (.int ns.sum) P
  | _ => False
theorem call_qsum (hc : X.calm = true) : CallR X (.builtin "sum") (lfC (Cx.en X) qSum) := callR_imp (cr_sum hc) fun xs H Q ⟨ds, P, Qp, r, p, t, k⟩ => by
  obtain ⟨d, rfl, t⟩ := q1_inv t
  cases d with
  | ref a =>
    obtain ⟨v, rfl, rfl⟩ := reps1 r
    obtain ⟨ns, ha, q⟩ := t
    obtain ⟨vs, sq, rr⟩ := ha.sq p
    rw [reps_ints rr] at sq
    exact ⟨a, ns, rfl, sq, k.ok _ _ _ _ q rfl p (TK.refl _ _)⟩
  | _ => exact t.elim
/-- list(range(n)) -/
theorem cr_range1 : CallR X (.type "range") (fun vs H Q => ∃ j, vs = [V.int j] ∧ ∀ p, H p = none → Q (.ref p) (upd H p (.rng 0 j))) := by
  intro pins s σ H vs us Q I r h
  obtain ⟨j, rfl, q⟩ := h
  obtain ⟨u1, rfl, t, rfl⟩ := vals1 r
  refine call_range_1 ⟨.ref s.heap.objs.size, upd H s.heap.objs.size (.rng 0 j), I.laid (t' := s.toks + 1 + 1) (fun b o e => Heap.get?_push_of_some _ e) (Nat.le_refl _) ?_, rfl, q _ (I.hok.fresh (Nat.le_refl _))⟩
  exact ⟨_, _, _, Heap.get?_push_size _ rfl⟩
theorem cr_listRng (hc : X.calm = true) : CallR X (.type "list") (fun vs H Q => ∃ a j, vs = [V.ref a] ∧ H a = some (.rng 0 j) ∧ 0 ≤ j ∧ j ≤ 1000000 ∧ ∀ p, H p = none → Q (.ref p) (upd H p (.lst ((List.range j.toNat).map fun i => V.int (i : Nat))))) := by
  intro pins s σ H vs us Q I r h
  obtain ⟨a, j, rfl, ha, h0, hj, q⟩ := h
  rw [Vals.ref1 r]
  obtain ⟨t1, t2, t3, hr⟩ := I.hok _ _ ha
  have hn : Builtin.Range.rangeSize 0 j 1 = j.toNat := by
    rw [PyProof.Rows.rangeSize_nat]
    simp
  refine call_list_range (n := j.toNat) (I.ok.hd hc) hr (small_one (by omega) (by omega) (by omega) (by omega)) hn (by omega) fun h' tk acc c hk hd hI => ?_
  obtain ⟨hs, hI⟩ := hI
  have hz : ((List.range j.toNat).map fun i => V.int (i : Nat)).length ≤ sizeLine := by
    rw [List.length_map, List.length_range, sizeLine_eq]; omega
  have hv : Vals ((List.range j.toNat).map fun i => V.int (i : Nat)) acc.toList := by
    refine vals_of_at (by simp [hs]) fun i v u e1 e2 => ?_
    have hi : i < j.toNat := by
      have := (List.getElem?_eq_some_iff.mp e1).1
      simpa using this
    rw [List.getElem?_map, List.getElem?_range hi] at e1
    cases e1
    obtain ⟨t, rfl⟩ := hI i u (by simpa using e2)
    refine ⟨t, ?_⟩
    simp
  refine ⟨.ref s.heap.objs.size, upd H s.heap.objs.size (.lst ((List.range j.toNat).map fun i => V.int (i : Nat))), I.laid (t' := tk) hk (Nat.le_refl _) ⟨hz, acc.toList, c, hv, by simpa using hd⟩, rfl, q _ (I.hok.fresh (Nat.le_refl _))⟩
/-- 0, 1, .. below n -/
def upTo (n : Nat) : List D := (List.range n).map fun i => .int (i : Nat)
def qLRng (te : QTE) : QTE := fun σ P Q E => te σ P (fun x P1 => match x with
  | .int j => 0 ≤ j ∧ j ≤ 1000000 ∧ ∀ p, P1 p = none → Q (.ref p) (up P1 p (.lst (upTo j.toNat)))
  | _ => False) E
theorem reps_upTo {K : PySem.W.Frag} {H : Hp} (n : Nat) : Reps K H (upTo n) ((List.range n).map fun i => V.int (i : Nat)) := by
  unfold upTo
  induction (List.range n) with
  | nil => rfl
  | cons a l ih => exact ⟨_, _, rfl, rfl, ih⟩
theorem qe_listRange {e : Expr} {te : QTE} {p p2 pos pos2 : Pos} (hc : X.calm = true) (hm : X.mg "list" = none) (hm2 : X.mg "range" = none) (he : QE X W e te) (hg : Gl X "list" := by rfl) (hg2 : Gl X "range" := by rfl)
    (h1 : starEach [e] X.env = (false, eval e X.env) :: starEach [] X.env := by rfl) (h2 : (backTo pos2 (starEach [] X.env)).any (·.1) = false := by rfl)
    (h3 : starEach [.Call (.Name "range" p2) [e] [] pos2] X.env = (false, eval (.Call (.Name "range" p2) [e] [] pos2) X.env) :: starEach [] X.env := by rfl) (h4 : (backTo pos (starEach [] X.env)).any (·.1) = false := by rfl) :
    QE X W (.Call (.Name "list" p) [.Call (.Name "range" p2) [e] [] pos2] [] pos) (qLRng te) := by
  have r1 := pe_callTy (X := X) (p := p2) (pos := pos2) cr_range1 hg2 hm2 (by rfl) (pa_cons he pa_nil h1) (by decide) (by decide) h1 h2
  refine pe_of (pe_callTy (X := X) (p := p) (pos := pos) (cr_listRng hc) hg hm (by rfl) (pa_cons r1 pa_nil h3) (by decide) (by decide) h3 h4) fun σ H Q ⟨σp, P, Qp, Ep, rs, p, t, k⟩ => ?_
  refine ⟨σp, P, _, Ep, rs, p, t, ⟨fun d P1 v H1 q r p1 k1 => ?_, k.ex⟩⟩
  cases d with
  | int j =>
    rw [Rep] at r; subst r
    obtain ⟨h0, hj, q⟩ := q
    refine ⟨j, rfl, fun l hl => ⟨l, j, rfl, upd_same, h0, hj, fun l2 hl2 => ?_⟩⟩
    have k2 := TK.new (K := X.K) (o := .rng 0 j) hl
    have k3 := TK.new (K := X.K) (o := .lst ((List.range j.toNat).map fun i => V.int (i : Nat))) hl2
    have p2 : RepH (Cx.en X) (upd H1 l (.rng 0 j)) P1 := p1.hid hl
    exact k.ok _ _ _ _ (q l2 (p2.free hl2)) rfl (p2.new hl2 ⟨_, upd_same, reps_upTo _⟩) (k1.trans (k2.trans k3))
  | _ => exact q.elim
/-- str of a tuple: where no repr is under way -/
def qStrT : QC := q1 fun d P Q => match d with
  | .tup xs => pures xs = true ∧ (toPd (.tup xs)).showable = true ∧ deps xs < 60 ∧ (toPd (.tup xs)).shown.length ≤ sizeLine ∧ Q (.str (toPd (.tup xs)).shown) P
  | _ => False
theorem call_qstrT (hg : X.A.guards = some []) (hu : X.A.units + 64 < cLine) : CallR X (.type "str") (lfC (Cx.en X) qStrT) := by
  intro pins s σ H xs us Q I rv ⟨ds, P, Qp, r, p, t, k⟩
  obtain ⟨d, rfl, t⟩ := q1_inv t
  cases d with
  | tup ys =>
    obtain ⟨hp, hs, hd, hz, q⟩ := t
    obtain ⟨v, rfl, r1⟩ := reps1 r
    have hp' : pure1 (.tup ys) = true := by rw [pure1]; exact hp
    have hl := toPd_lay _ hp'
    obtain ⟨a, vs, rfl, sq, rr⟩ := id r1
    obtain ⟨u, rfl, ru⟩ := vals1 rv
    cases ru
    obtain ⟨as, rd⟩ := Dp.reads I (toPd (.tup ys)) (.ref a) (.ref a) (rep_dp _ _ hp' r1) rfl
    have hdep : (toPd (.tup ys)).depth < 61 := by rw [toPd_dep, dep]; omega
    refine str_of_reads rd hs (PyData.noDict_hsm (PyData.hasDict_of_canLay _ hl)) hg (by omega) (fun _ _ e => e) (fun h' u tk hk => ?_) hz
    exact ⟨.str _, H, I.kept hk, ⟨u, rfl⟩, k.ok _ _ _ _ q rfl p (TK.refl _ _)⟩
  | _ => exact t.elim
end
end PL
/-! defs that are called where no repr is under way -/
namespace PL
open PySem PySem.Spec L2
open PyProof.Rows (IntsAre AllBare envOfC)

structure FnG (P : Program) (w : World) (K : PySem.W.Frag) (mg : Str → Option Value) (base : Heap) (k : Nat) (f : Addr) (fd : FuncData) (ps : List Str) (sp : Sp) : Prop where
  len : ∀ vs H Q E, sp vs H Q E → vs.length = ps.length
  run : ∀ (A : Around) (outer : List Env) (s : Shared) (H : Hp) (args : Args) (us : List Value) (vs : List V) (Q : VK) (E : XK), A.guards = some [] → Room k A → Env0 P w K mg base A outer s H → BindsTo s fd args (ps.zip us) → Vals vs us → sp vs H Q E →
    codeAny (model P w) A (.call (.ref f) args) (CR (L2.CX P w) outer P w H s Q E) s
theorem FnG.of {P : Program} {w : World} {K : PySem.W.Frag} {mg : Str → Option Value} {base : Heap} {k : Nat} {f : Addr} {fd : FuncData} {ps : List Str} {sp : Sp} (F : FnOk P w K mg base (L2.CX P w) k f fd ps sp) : FnG P w K mg base k f fd ps sp :=
  ⟨F.len, fun A outer s H args us vs Q E _ => F.run A outer s H args us vs Q E⟩
theorem FnG.mono {P : Program} {w : World} {K : PySem.W.Frag} {mg : Str → Option Value} {base : Heap} {j k : Nat} {f : Addr} {fd : FuncData} {ps : List Str} {sp : Sp} (F : FnG P w K mg base j f fd ps sp) (h : j ≤ k) : FnG P w K mg base k f fd ps sp :=
  ⟨F.len, fun A outer s H args us vs Q E g r => F.run A outer s H args us vs Q E g (r.mono h)⟩
/-- the rule for a def, from its body -/
theorem fnG_of {P : Program} {w : World} {K : PySem.W.Frag} {mg : Str → Option Value} {base : Heap} {k : Nat} {x qual : Str} {st : Stmt} {f : Addr} {fd : FuncData} {N ps : List Str} {sp : Sp} (F : Fun K x qual st f fd) (S : FnScope N ps (defScope st))
    (len : ∀ vs H Q E, sp vs H Q E → vs.length = ps.length)
    (body : ∀ (cd : Value) (B : Around) (out : List Env) (s0 : Shared) (H0 : Hp) (ys : List V) (Q0 : VK) (E0 : XK), B.guards = some [] → Room k (B.deeper (envOfC qual (defScope st) s0.heap.objs.size f cd)) → sp ys H0 Q0 E0 →
      ∃ t, PSs (cxOf (L2.CX P w) P w K mg base N qual (defScope st) f cd B out s0 H0 E0) (defBody st) t ∧ t { nx := fun _ H' => Q0 .non H', rt := Q0 } (L2.start N ys) H0) : FnG P w K mg base (k + 1) f fd ps sp := by
  obtain ⟨o1, o2, o3, o4, o5, o6, cd, o7, o8, rfl, look, hcode⟩ := F.ex
  refine ⟨len, fun B out s0 H0 args zs ys Q0 E0 hgd hrm env hbi hva hw => ?_⟩
  have hlen := len _ _ _ _ hw
  have inK : K.In s0.heap := env.mod.kin.keeps fun b o e => (env.bs b o e).1
  have noL : s0.heap.NoLimit := env.mod.nolimit.keeps fun b o e => (env.bs b o e).1
  have kinds : ∀ y ∈ ps.zip zs, (defScope st).names.lookup y.1 = some .local ∨ ((defScope st).names.lookup y.1 = some .cell ∧ ((cellsFrom (s0.heap.objs.size + 1) (defScope st).names []).lookup y.1).isSome = true) := by
    rintro ⟨nm, v⟩ hy
    cases S.par nm (List.of_mem_zip hy).1 with
    | inl q => exact .inl q
    | inr q => exact .inr ⟨q, PySem.W.cellsFrom_some _ _ _ (.inl q)⟩
  refine codeAny_call_function hrm.depth (inK _ _ look) rfl S.co S.gen rfl (PySem.W.codeRec_of inK hcode) (hbi _ _ _ _ ?_)
  refine wpAny_newFunctionEnv_cells S.kind kinds fun env' he s1 ic => ?_
  subst he
  obtain ⟨t, ht, hq⟩ := body cd B out s0 H0 ys Q0 E0 hgd (hrm.deeper _) hw
  have J := inv_start (CX := L2.CX P w) (E := E0) S hrm.hd env hlen hva ic
  refine ⟨noL.keeps ic.toInCall.keep, codeAny_func (wpAny_mono (ht.run [] s1 (L2.start N ys) H0 _ J hq) (fun fl s2 hs => ?_) fun e s2 hs => hs)⟩
  cases fl with
  | brk => exact (let ⟨_, _, _, z⟩ := hs; z.elim)
  | cont => exact (let ⟨_, _, _, z⟩ := hs; z.elim)
  | ret u =>
    obtain ⟨v, σ1, H1, J1, rv, q⟩ := hs
    exact ⟨v, H1, J1.os, J1.bare, J1.base, J1.hok, rv, q⟩
  | next =>
    obtain ⟨σ1, H1, J1, q⟩ := hs
    exact ⟨.non, H1, J1.os, J1.bare, J1.base, J1.hok, rfl, q⟩
def DBodyG (G : En) (mg : Str → Option Value) (base : Heap) (N : List Str) (qual : Str) (st : Stmt) (k : Nat) (t : QTS) : Prop :=
  ∀ (f : Addr) (cdv : Value) (A : Around) (outer : List Env) (s : Shared) (H : Hp) (E : XK), (dX G mg base N qual st f cdv A outer s H E).A.guards = some [] → Room k (dX G mg base N qual st f cdv A outer s H E).A → Takes (dX G mg base N qual st f cdv A outer s H E) (dW E) →
    PassesOwn (model (dX G mg base N qual st f cdv A outer s H E).prog (dX G mg base N qual st f cdv A outer s H E).w) (dX G mg base N qual st f cdv A outer s H E).A (dX G mg base N qual st f cdv A outer s H E).env (dX G mg base N qual st f cdv A outer s H E).xe →
    QSs (dX G mg base N qual st f cdv A outer s H E) (dW E) (defBody st) t
theorem def_okG {G : En} {mg : Str → Option Value} {base : Heap} {x qual : Str} {st : Stmt} {f : Addr} {fd : FuncData} {N ps : List Str} {k : Nat} {sp : PSp} (F : Fun G.K x qual st f fd) (S : FnScope N ps (defScope st))
    (len : ∀ ds P Q E, sp ds P Q E → ds.length = ps.length) (read : ∀ ds P Q E, sp ds P Q E → ∃ t, DBodyG G mg base N qual st k t ∧ t (dEnds Q E) (startD N ds) P) :
    FnG G.P G.w G.K mg base (k + 1) f fd ps (lfSp G sp) := by
  refine fnG_of F S (fun vs H Q E h => ?_) (fun cdv A outer s H vs Q E hgd hr h => ?_)
  · obtain ⟨ds, P, Qp, Ep, r, p, h, ke⟩ := h
    rw [← r.length]
    exact len _ _ _ _ h
  · obtain ⟨ds, P, Qp, Ep, r, p, h, ke⟩ := h
    obtain ⟨t, b, q⟩ := read _ _ _ _ h
    refine ⟨_, b f cdv A outer s H E hgd hr (takes_of rfl rfl rfl rfl) (passes_of (K := fun e s'' => L2.CX G.P G.w outer H s E e s'') rfl), ?_⟩
    refine ⟨_, P, _, rst_start r, p, q, ⟨?_, ?_, ?_, fun _ _ _ _ z => z.elim, fun _ _ _ _ z => z.elim⟩⟩
    · rintro σp P' σ H' ⟨P0, l, q⟩ rs p' k'
      exact ke.ok _ _ _ _ q rfl (p'.le l) k'
    · rintro d P' v H' ⟨P0, l, q⟩ rd p' k'
      exact ke.ok _ _ _ _ q rd (p'.le l) k'
    · rintro C σp P' σ H' ⟨P0, l, q⟩ rs p' k'
      exact ke.ex _ _ _ q (p'.le l) k'
structure CalG (G : En) (mg : Str → Option Value) (base : Heap) (k : Nat) (x : Str) (sp : PSp) : Prop where
  ex : ∃ (f : Addr) (fd : FuncData) (ps : List Str), FnG G.P G.w G.K mg base k f fd ps (lfSp G sp) ∧ mg x = some (.ref f) ∧ PySem.W.keepIn G.K (.ref f) = true ∧ Binds G.K fd ps []
theorem CalG.mono {G : En} {mg : Str → Option Value} {base : Heap} {j k : Nat} {x : Str} {sp : PSp} (c : CalG G mg base j x sp) (h : j ≤ k) : CalG G mg base k x sp := let ⟨f, fd, ps, a, b, c, d⟩ := c.ex; ⟨f, fd, ps, a.mono h, b, c, d⟩
section
variable {X : Cx} {W : WX} {k : Nat} {x : Str} {sp : PSp} {p pos : Pos} {e : Expr} {es : List Expr} {t : QTA}
theorem qe_callG (hgd : X.A.guards = some []) (tk : Takes X W) (c : CalG (Cx.en X) X.mg X.base k x sp) (hr : Room k X.A) (ha : QA X W (e :: es) t) (hg : Gl X x := by rfl) (hdb : (x == ("__debug__" : Str)) = false := by decide) (he : starEach (e :: es) X.env = (false, eval e X.env) :: starEach es X.env := by rfl)
    (hpl : (backTo pos (starEach es X.env)).any (·.1) = false := by rfl) : QE X W (.Call (.Name x p) (e :: es) [] pos) (qCall sp t) := by
  obtain ⟨f, fd, ps, F, hm, hk, hb⟩ := c.ex
  refine ⟨fun pins s σ H Q I hw => ?_⟩
  obtain ⟨σp, P, Qp, Ep, rs, p, t, k⟩ := hw
  refine wpAny_Call_Name_kw (ld_glob I hg hm ?_ hdb)
  have hA : lfA (Cx.en X) W _ σ H _ := ⟨σp, P, _, Ep, rs, p, t, ⟨fun ds P1 vs H1 (q : sp ds P1 Qp Ep) r p1 k1 =>
    (show lfSp (Cx.en X) sp vs H1 Q (WE W σ) from ⟨ds, P1, Qp, Ep, r, p1, q, ⟨fun d P2 v H2 a b c e => k.ok d P2 v H2 a b c (k1.trans e), fun C P2 H2 a b c => k.ex C P2 H2 a b (k1.trans c)⟩⟩), k.ex⟩⟩
  refine PySem.W.callWith_K (h₀ := X.base) I.ok.mod.kin hk (thn (ha.run pos pins s σ H _ I hA) fun us s1 ⟨vs, H1, I1, rv, hsp⟩ => ⟨I1.kIn, ?_⟩) he hpl
  have hl : us.length = _ := rv.length.symm.trans (F.len _ _ _ _ hsp)
  have bnd := hb s1 us I1.kIn (by rw [List.append_nil]; exact hl)
  rw [List.append_nil] at bnd
  refine wpAny_call (codeAny_mono (F.run X.A X.stack s1 H1 ⟨us, []⟩ us vs Q _ hgd hr I1.env0 bnd rv hsp) fun r s2 hq => ?_)
  match r, hq with
  | .error e, hq => exact passAt tk σ pins H1 s1 e s2 I1 hq
  | .ok (.ret u), hq => exact I1.after hq
end
/-- a script that is one of the module's own objects -/
def NoList (K : PySem.W.Frag) : Prop := ∀ a o, K.lookup a = some o → o.cls ≠ .type "list"
def noListB (K : PySem.W.Frag) : Bool := K.all fun e => match e.2.cls with
  | .type t => t != "list"
  | _ => true
theorem noList_of {K : PySem.W.Frag} (h : noListB K = true) : NoList K := by
  intro a o e z
  have m : (a, o) ∈ K := PySem.W.mem_of_lookupK e
  have q := List.all_eq_true.mp h _ m
  simp only [z] at q
  exact absurd q (by decide)
/-- the law's call at the heap behind the top -/
theorem law_callG {P : Program} {w : World} {K : PySem.W.Frag} {mg mb : Str → Option Value} {k : Nat} {fa a : Addr} {fd : FuncData} {x : Str} {sp : PSp} {s1 : Shared} {vs : List Value} {ns : List Int} (hNL : NoList K)
    (inK : K.In s1.heap) (gl : s1.heap.Ns mainGlobals mg) (bn : s1.heap.Ns builtinsNs mb) (bo : ∀ x : Str, x ≠ "__name__" → mb x = bootBuiltins x) (nl : s1.heap.NoLimit) (hgens : s1.gens = #[])
    (ho : s1.heap.get? a = some { cls := .type "list", data := .seq vs.toArray }) (hi : IntsAre vs ns) (hsz : ns.length ≤ sizeLine) (hrm : Room k callerA)
    (F : ∀ base : Heap, K.In base → base.Ns mainGlobals mg → FnG P w K mg base k fa fd [x] (lfSp ⟨K, P, w⟩ sp)) (hbind : ∀ (s : Shared) (u : Value), BindsTo s fd ⟨[u], []⟩ [(x, u)])
    (hsp : ∀ P0 : PH, P0 a = some (.lsr (ns.map D.int)) → sp [.ref a] P0 (fun d _ => d = .bl true) fun _ _ => False) :
    codeAny (model P w) callerA (.call (.ref fa) ⟨[.ref a], []⟩) (fun r s' => r = .ok (.ret (.bool true)) ∧ OldK s1.heap s'.heap ∧ s'.os = s1.os ∧ AllBare s'.gens) s1 := by
  have rv := vals_ints hi
  have hKa : K.lookup a = none := by
    cases e : K.lookup a with
    | none => rfl
    | some o =>
      have e2 := inK a o e
      rw [ho] at e2
      cases e2
      exact absurd rfl (hNL a _ e)
  let lo : Obj := { cls := .type "list", data := .seq vs.toArray }
  let H : Hp := fun b => if b = a then some (.frz lo (.lst (ns.map V.int))) else none
  have Ha : H a = some (.frz lo (.lst (ns.map V.int))) := if_pos rfl
  have Hn : ∀ b, b ≠ a → H b = none := fun b hb => if_neg hb
  have lz : (ns.map V.int).length ≤ sizeLine := by rw [List.length_map]; exact hsz
  have hok : HOk P w H s1.heap := fun b u e => by
    by_cases hb : b = a
    · subst hb
      rw [Ha] at e; cases e
      exact ⟨ho, lz, vs, _, rv, ho⟩
    · rw [Hn b hb] at e; cases e
  have hid : ∀ {b : Addr} {o : Obj}, s1.heap.get? b = some o → H b = none → (hidT s1.heap H).get? b = some o := fun e n => hidT_get e n
  have dictNe : ∀ {b : Addr} {o : Obj} {es : Array DictEntry} {ep : Nat}, s1.heap.get? b = some o → o.data = .dict es ep → H b = none := fun {b o es ep} e d => Hn b fun z => by
    subst z
    rw [ho] at e; cases e
    have d' : Data.seq vs.toArray _ = Data.dict es ep := d
    cases d'
  have nsT : ∀ {b : Addr} {m : Str → Option Value}, s1.heap.Ns b m → (hidT s1.heap H).Ns b m := fun {b m} ⟨o, es, ep, e, d, r⟩ => ⟨o, es, ep, hid e (dictNe e d), d, r⟩
  have inB : K.In (hidT s1.heap H) := fun b o e => hid (inK b o e) (Hn b fun z => by rw [z, hKa] at e; cases e)
  have nlT : (hidT s1.heap H).NoLimit := let ⟨mc, h1, h2⟩ := nl; ⟨mc, nsT h1, h2⟩
  have md : Mod K mg (hidT s1.heap H) := ⟨inB, nsT gl, ⟨mb, nsT bn, bo⟩, nlT⟩
  have e0 : Env0 P w K mg (hidT s1.heap H) callerA [] s1 H := ⟨rfl, md, fun b o e => of_hidT e, Nat.le_of_eq (hidT_size _ _), trivial, fun b hb => (nomatch hb), hok, .of_eq hgens⟩
  have rep : RepH ⟨K, P, w⟩ H (up (fun _ => none) a (.lsr (ns.map D.int))) := fun b o e => by
    by_cases hb : b = a
    · subst hb
      rw [up_same] at e; cases e
      exact ⟨ns.map V.int, .inr ⟨lo, Ha⟩, ints_reps ns⟩
    · rw [up_ne hb] at e; cases e
  have want : lfSp ⟨K, P, w⟩ sp [.ref a] H (fun v _ => v = .bl true) (fun _ _ _ => False) :=
    ⟨[.ref a], _, _, _, ⟨_, _, rfl, rfl, rfl⟩, rep, hsp _ up_same, ⟨fun d P' v H' q r _ _ => by subst q; exact r, fun _ _ _ z _ _ => z⟩⟩
  refine codeAny_mono ((F _ inB (nsT gl)).run callerA [] s1 H ⟨[.ref a], []⟩ [.ref a] [.ref a] _ _ rfl hrm e0 (hbind s1 (.ref a)) (.cons rfl .nil) want) fun r s2 h => ?_
  match r, h with
  | .error e, h =>
    obtain ⟨_, _, _, _, _, _, _, _, _, _, _, _, z⟩ := h
    exact z.elim
  | .ok (.ret u), h =>
    obtain ⟨v, H2, os, bare, un, hok2, ru, q⟩ := h
    have q : v = .bl true := q
    subst q
    obtain rfl : u = Value.bool true := ru
    refine ⟨rfl, OldK.of_keep fun b o e => ?_, os, bare⟩
    by_cases hb : b = a
    · subst hb
      have z2 := un.frzs b lo _ Ha
      obtain ⟨e1, _⟩ := hok b _ Ha
      obtain ⟨e2, _⟩ := hok2 b _ z2
      rw [e] at e1; cases e1
      exact e2
    · exact un.keep b o e (Hn b hb) (fun z => nomatch z) (fun z => nomatch z)
/-- the end: the promise of the law's def, where no repr is under way -/
theorem walk_G {l : PySem.W.OpenLaw} {n k : Nat} {q : Program} {loose : List Str} {XP : (Str → Option Value) → Heap → Prop} {YP : World → Heap → Prop} {d : DefRec} {K : Params → PySem.W.Frag} {sp : PSp} {x : Str}
    (hn : l.most = some n) (hn2 : n ≤ sizeLine) (hdf : d.params.defaults = []) (hr : Room k callerA) (hY : ∀ (w : World) (h : Heap), YP w h → (K w.params).In h)
    (F : ∀ (w : World) (mg : Str → Option Value) (fa : Addr) (h : Heap), (K w.params).In h → h.Ns mainGlobals mg → mg d.name = some (.ref fa) → NoList (K w.params) ∧
      ∃ fd : FuncData, (∀ (s : Shared) (u : Value), BindsTo s fd ⟨[u], []⟩ [(x, u)]) ∧ ∀ base : Heap, (K w.params).In base → base.Ns mainGlobals mg → FnG l.prog w (K w.params) mg base k fa fd [x] (lfSp ⟨K w.params, l.prog, w⟩ sp))
    (hsp : ∀ (a : Addr) (ns : List Int) (P0 : PH), ns.length ≤ n → P0 a = some (.lsr (ns.map D.int)) → sp [.ref a] P0 (fun d _ => d = .bl true) fun _ _ => False) :
    PySem.W.WalkO q loose XP YP l.row.toRowW d [] (fun f vs => PySem.call f vs) := by
  refine Att.attach_call hn hdf fun w s0 s1 mg mb fa o pm cd doc a vs ns G Y ho hd hcd hmg hobj hints hlen hg => ?_
  have KX := hY w _ Y
  obtain ⟨nol, fd, hb, hF⟩ := F w mg fa _ KX G.T.g hmg
  exact law_callG nol KX G.T.g G.T.b G.T.builtins G.T.nolimit hg hobj hints (Nat.le_trans hlen hn2) hr hF hb fun P0 h0 => hsp a ns P0 hlen h0
/-- .. where the numbers' bits are counted -/
theorem walk_GB {l : PySem.W.OpenLaw} {n k : Nat} {q : Program} {loose : List Str} {XP : (Str → Option Value) → Heap → Prop} {YP : World → Heap → Prop} {d : DefRec} {K : Params → PySem.W.Frag} {sp : PSp} {x : Str}
    (hn : l.most = some n) (hn2 : n ≤ sizeLine) (hdf : d.params.defaults = []) (hr : Room k callerA) (hY : ∀ (w : World) (h : Heap), YP w h → (K w.params).In h)
    (F : ∀ (w : World) (mg : Str → Option Value) (fa : Addr) (h : Heap), (K w.params).In h → h.Ns mainGlobals mg → mg d.name = some (.ref fa) → NoList (K w.params) ∧
      ∃ fd : FuncData, (∀ (s : Shared) (u : Value), BindsTo s fd ⟨[u], []⟩ [(x, u)]) ∧ ∀ base : Heap, (K w.params).In base → base.Ns mainGlobals mg → FnG l.prog w (K w.params) mg base k fa fd [x] (lfSp ⟨K w.params, l.prog, w⟩ sp))
    (hsp : ∀ (a : Addr) (ns : List Int) (P0 : PH), ns.length ≤ n → (∀ i ∈ ns, Builtin.Int.intBits i ≤ 1048576) → P0 a = some (.lsr (ns.map D.int)) → sp [.ref a] P0 (fun d _ => d = .bl true) fun _ _ => False) :
    PySem.W.WalkO q loose XP YP l.row.toRowW d [] (fun f vs => PySem.call f vs) := by
  refine Att.attach_callB hn hdf fun w s0 s1 mg mb fa o pm cd doc a vs ns G Y ho hd hcd hmg hobj hints hlen hbits hg => ?_
  have KX := hY w _ Y
  obtain ⟨nol, fd, hb, hF⟩ := F w mg fa _ KX G.T.g hmg
  exact law_callG nol KX G.T.g G.T.b G.T.builtins G.T.nolimit hg hobj hints (Nat.le_trans hlen hn2) hr hF hb fun P0 h0 => hsp a ns P0 hlen hbits h0
end PL
/-! what a reading's step is, by the forms of the values -/
namespace PL
open PySem PySem.Spec L2
theorem slot_0 {d : D} {r : PSt} {k : D → Prop} : slot (some d :: r) 0 k = k d := rfl
theorem slot_s {x : Option D} {r : PSt} {n : Nat} {k : D → Prop} : slot (x :: r) (n + 1) k = slot r n k := rfl
theorem set_0 {x y : Option D} {r : PSt} : List.set (x :: r) 0 y = y :: r := rfl
theorem set_s {x y : Option D} {r : PSt} {n : Nat} : List.set (x :: r) (n + 1) y = x :: List.set r n y := rfl
theorem lenS {n : Nat} (h : n ≤ 1000) : n ≤ sizeLine := by rw [sizeLine_eq]; omega
theorem ln0 : (([] : List D).length ≤ sizeLine) = True := eq_true (lenS (by simp))
theorem ln1 {a : D} : ([a].length ≤ sizeLine) = True := eq_true (lenS (by simp))
theorem ln2 {a b : D} : ([a, b].length ≤ sizeLine) = True := eq_true (lenS (by simp))
theorem ln3 {a b c : D} : ([a, b, c].length ≤ sizeLine) = True := eq_true (lenS (by simp))
theorem ln4 {a b c d : D} : ([a, b, c, d].length ≤ sizeLine) = True := eq_true (lenS (by simp))
theorem ln5 {a b c d e : D} : ([a, b, c, d, e].length ≤ sizeLine) = True := eq_true (lenS (by simp))
section
variable {P : PH} {Q : PK} {xs : List D} {a : Addr} {i j k : Int} {x y : Str} {b c : Bool} {d e : D}
theorem s_len_t : qLen [.tup xs] P Q = Q (.int (xs.length : Nat)) P := rfl
theorem s_len_s : qLen [.str x] P Q = (x.length ≤ sizeLine ∧ Q (.int (x.length : Nat)) P) := rfl
theorem s_len_r : qLen [.ref a] P Q = ((∃ xs, RdL P a xs ∧ Q (.int (xs.length : Nat)) P) ∨ ∃ kvs, RdD P a kvs ∧ Q (.int (kvs.length : Nat)) P) := rfl
theorem s_list_t : qListOf [.tup xs] P Q = ∀ p, P p = none → Q (.ref p) (up P p (.lst xs)) := rfl
theorem s_list_r : qListOf [.ref a] P Q = ∃ xs, RdL P a xs ∧ ∀ p, P p = none → Q (.ref p) (up P p (.lst xs)) := rfl
theorem s_tup_t : qTupOf [.tup xs] P Q = Q (.tup xs) P := rfl
theorem s_tup_r : qTupOf [.ref a] P Q = ∃ xs, RdL P a xs ∧ Q (.tup xs) P := rfl
theorem s_int_i : qInt1 [.int i] P Q = Q (.int i) P := rfl
theorem s_int_b : qInt1 [.bl b] P Q = Q (.int (if b = true then 1 else 0)) P := rfl
theorem s_min2 : qMin2 [.int i, .int j] P Q = Q (.int (if j < i then j else i)) P := rfl
theorem s_max2 : qMax2 [.int i, .int j] P Q = Q (.int (if j > i then j else i)) P := rfl
theorem s_min3 : qMin3 [.int i, .int j, .int k] P Q = Q (.int (min (min i j) k)) P := rfl
theorem s_sum : qSum [.ref a] P Q = ∃ ns : List Int, RdL P a (ns.map D.int) ∧ Q (.int ns.sum) P := rfl
theorem s_str : qStrT [.tup xs] P Q = (pures xs = true ∧ (toPd (.tup xs)).showable = true ∧ deps xs < 60 ∧ (toPd (.tup xs)).shown.length ≤ sizeLine ∧ Q (.str (toPd (.tup xs)).shown) P) := rfl
theorem s_app : qAppend (.ref a) [d] P Q = ∃ xs, P a = some (.lst xs) ∧ xs.length < sizeLine ∧ Q .non (up P a (.lst (xs ++ [d]))) := rfl
theorem s_pop : qPop (.ref a) [] P Q = ∃ xs d, P a = some (.lst xs) ∧ xs[xs.length - 1]? = some d ∧ Q d (up P a (.lst xs.dropLast)) := rfl
theorem s_clr : qClear (.ref a) [] P Q = ∃ xs, P a = some (.lst xs) ∧ Q .non (up P a (.lst [])) := rfl
theorem s_dget1 : qDGet1 (.ref a) [d] P Q = ∃ kvs, RdD P a kvs ∧ KeyFor kvs d ∧ Q ((dLook kvs d).getD .non) P := rfl
theorem s_dget2 : qDGet2 (.ref a) [d, e] P Q = ∃ kvs, RdD P a kvs ∧ KeyFor kvs d ∧ Q ((dLook kvs d).getD e) P := rfl
theorem s_dpop : qDPop (.ref a) [d] P Q = ∃ kvs e, P a = some (.dct kvs) ∧ KeyFor kvs d ∧ dLook kvs d = some e ∧ Q e (up P a (.dct (dDel kvs d))) := rfl
theorem s_ty_l : tyD "list" (.ref a) P = (("list" = "list" ∧ ∃ xs, RdL P a xs) ∨ ("list" = "dict" ∧ ∃ kvs, RdD P a kvs)) := rfl
theorem s_ty_d : tyD "dict" (.ref a) P = (("dict" = "list" ∧ ∃ xs, RdL P a xs) ∨ ("dict" = "dict" ∧ ∃ kvs, RdD P a kvs)) := rfl
theorem s_ty_s : tyD "str" (.str x) P = True := eq_true rfl
theorem s_le : qLe (.int i) (.int j) P Q = Q (.bl (decide (i ≤ j))) P := rfl
theorem s_gt : qGt (.int i) (.int j) P Q = Q (.bl (decide (j < i))) P := rfl
theorem s_ge : qGe (.int i) (.int j) P Q = Q (.bl (decide (j ≤ i))) P := rfl
theorem s_sub : qSub (.int i) (.int j) P Q = Q (.int (i - j)) P := propext ⟨fun h => h.2, fun h => ⟨trivial, h⟩⟩
theorem s_mul : qMul (.int i) (.int j) P Q = (CMul i j ∧ Q (.int (i * j)) P) := rfl
theorem s_mod : qMod (.int i) (.int j) P Q = (0 < j ∧ Q (.int (i % j)) P) := rfl
theorem s_fdiv : qFdiv (.int i) (.int j) P Q = (CDiv i j ∧ Q (.int (i / j)) P) := rfl
theorem s_pow : qPow (.int i) (.int j) P Q = (CPow i j ∧ Q (.int (i ^ j.toNat)) P) := rfl
end
/-! ### branches stay closed until one is chosen -/
def brS (b : Bool) (t u : QTS) (D : PEnds) (σ : PSt) (P : PH) : Prop := if b = true then t D σ P else u D σ P
def brW (b : Bool) (t : QTS) (D' : PEnds) (N : PSt → PH → Prop) (σ : PSt) (P : PH) : Prop := if b = true then t D' σ P else N σ P
def brA (b : Bool) (u : QTT) (σ : PSt) (P : PH) (Q : Bool → PH → Prop) (E : PX) : Prop := if b = true then u σ P Q E else Q false P
def brO (b : Bool) (u : QTT) (σ : PSt) (P : PH) (Q : Bool → PH → Prop) (E : PX) : Prop := if b = true then Q true P else u σ P Q E
def brAV (b : Bool) (u : QTE) (σ : PSt) (P : PH) (Q : PK) (E : PX) : Prop := if b = true then u σ P Q E else Q (.bl false) P
def brOV (b : Bool) (u : QTE) (σ : PSt) (P : PH) (Q : PK) (E : PX) : Prop := if b = true then Q (.bl true) P else u σ P Q E
def brI (b : Bool) (t u : QTE) (σ : PSt) (P : PH) (Q : PK) (E : PX) : Prop := if b = true then t σ P Q E else u σ P Q E
section
variable {b : Bool} {p : Prop} [Decidable p] {t u : QTS} {D D' : PEnds} {N : PSt → PH → Prop} {σ : PSt} {P : PH} {c d : QTT} {Qb : Bool → PH → Prop} {E : PX} {ta tb : QTE} {Q : PK}
theorem s_if : qIfS c t u D σ P = c σ P (fun b P1 => brS b t u D σ P1) fun C P1 => D.ex C σ P1 := rfl
theorem s_and : qAnd c d σ P Qb E = c σ P (fun b P1 => brA b d σ P1 Qb E) E := rfl
theorem s_or : qOr c d σ P Qb E = c σ P (fun b P1 => brO b d σ P1 Qb E) E := rfl
theorem s_andV : qAndV ta tb σ P Q E = ta σ P (fun x P1 => match x with | .bl c => brAV c tb σ P1 Q E | _ => False) E := rfl
theorem s_orV : qOrV ta tb σ P Q E = ta σ P (fun x P1 => match x with | .bl c => brOV c tb σ P1 Q E | _ => False) E := rfl
theorem s_ifE : qIf c ta tb σ P Q E = c σ P (fun b P1 => brI b ta tb σ P1 Q E) E := rfl
theorem brS_t : brS true t u D σ P = t D σ P := rfl
theorem brS_f : brS false t u D σ P = u D σ P := rfl
theorem brW_t : brW true t D' N σ P = t D' σ P := rfl
theorem brW_f : brW false t D' N σ P = N σ P := rfl
theorem brA_t : brA true d σ P Qb E = d σ P Qb E := rfl
theorem brA_f : brA false d σ P Qb E = Qb false P := rfl
theorem brO_t : brO true d σ P Qb E = Qb true P := rfl
theorem brO_f : brO false d σ P Qb E = d σ P Qb E := rfl
theorem brAV_t : brAV true ta σ P Q E = ta σ P Q E := rfl
theorem brAV_f : brAV false ta σ P Q E = Q (.bl false) P := rfl
theorem brOV_t : brOV true ta σ P Q E = Q (.bl true) P := rfl
theorem brOV_f : brOV false ta σ P Q E = ta σ P Q E := rfl
theorem brI_t : brI true ta tb σ P Q E = ta σ P Q E := rfl
theorem brI_f : brI false ta tb σ P Q E = tb σ P Q E := rfl
theorem i_if (h1 : p → t D σ P) (h2 : ¬ p → u D σ P) : brS (decide p) t u D σ P := by
  by_cases h : p
  · rw [decide_eq_true h]; exact h1 h
  · rw [decide_eq_false h]; exact h2 h
theorem i_ifb (h1 : b = true → t D σ P) (h2 : b = false → u D σ P) : brS b t u D σ P := by
  cases b
  · exact h2 rfl
  · exact h1 rfl
theorem i_wh (h1 : p → t D' σ P) (h2 : ¬ p → N σ P) : brW (decide p) t D' N σ P := by
  by_cases h : p
  · rw [decide_eq_true h]; exact h1 h
  · rw [decide_eq_false h]; exact h2 h
theorem i_and (h1 : p → d σ P Qb E) (h2 : ¬ p → Qb false P) : brA (decide p) d σ P Qb E := by
  by_cases h : p
  · rw [decide_eq_true h]; exact h1 h
  · rw [decide_eq_false h]; exact h2 h
theorem i_or (h1 : p → Qb true P) (h2 : ¬ p → d σ P Qb E) : brO (decide p) d σ P Qb E := by
  by_cases h : p
  · rw [decide_eq_true h]; exact h1 h
  · rw [decide_eq_false h]; exact h2 h
end
/-! ### one step of what reads the heap -/
section
variable {P : PH} {Q : PK} {xs : List D} {kvs : List (D × D)} {a : Addr} {d e k : D}
theorem i_len (h : RdL P a xs) (q : Q (.int (xs.length : Nat)) P) : qLen [.ref a] P Q := .inl ⟨xs, h, q⟩
theorem i_lenD (h : RdD P a kvs) (q : Q (.int (kvs.length : Nat)) P) : qLen [.ref a] P Q := .inr ⟨kvs, h, q⟩
theorem i_lenS {x : Str} (h : x.length ≤ 1000000) (q : Q (.int (x.length : Nat)) P) : qLen [.str x] P Q := ⟨by rw [sizeLine_eq]; omega, q⟩
theorem i_list (h : RdL P a xs) (q : ∀ p, P p = none → Q (.ref p) (up P p (.lst xs))) : qListOf [.ref a] P Q := ⟨xs, h, q⟩
theorem i_tuple (h : RdL P a xs) (q : Q (.tup xs) P) : qTupOf [.ref a] P Q := ⟨xs, h, q⟩
theorem i_sum {ns : List Int} (h : RdL P a (ns.map D.int)) (q : Q (.int ns.sum) P) : qSum [.ref a] P Q := ⟨ns, h, q⟩
theorem i_tyL (h : RdL P a xs) : tyD "list" (.ref a) P := .inl ⟨rfl, xs, h⟩
theorem i_tyD (h : RdD P a kvs) : tyD "dict" (.ref a) P := .inr ⟨rfl, kvs, h⟩
theorem i_app (h : P a = some (.lst xs)) (hz : xs.length ≤ 1000000) (q : Q .non (up P a (.lst (xs ++ [d])))) : tyD "list" (.ref a) P ∧ qAppend (.ref a) [d] P Q := ⟨i_tyL (.inl h), xs, h, by rw [sizeLine_eq]; omega, q⟩
theorem i_app' (h : P a = some (.lst xs)) (hz : xs.length ≤ 1000000) (q : Q .non (up P a (.lst (xs ++ [d])))) : qAppend (.ref a) [d] P Q := ⟨xs, h, by rw [sizeLine_eq]; omega, q⟩
theorem i_pop (h : P a = some (.lst xs)) (hd : xs[xs.length - 1]? = some d) (q : Q d (up P a (.lst xs.dropLast))) : tyD "list" (.ref a) P ∧ qPop (.ref a) [] P Q := ⟨i_tyL (.inl h), xs, d, h, hd, q⟩
theorem i_get1 (h : RdD P a kvs) (kf : KeyFor kvs k) (q : Q ((dLook kvs k).getD .non) P) : tyD "dict" (.ref a) P ∧ qDGet1 (.ref a) [k] P Q := ⟨i_tyD h, kvs, h, kf, q⟩
theorem i_get2 (h : RdD P a kvs) (kf : KeyFor kvs k) (q : Q ((dLook kvs k).getD e) P) : tyD "dict" (.ref a) P ∧ qDGet2 (.ref a) [k, e] P Q := ⟨i_tyD h, kvs, h, kf, q⟩
theorem i_dpop (h : P a = some (.dct kvs)) (kf : KeyFor kvs k) (hl : dLook kvs k = some e) (q : Q e (up P a (.dct (dDel kvs k)))) : tyD "dict" (.ref a) P ∧ qDPop (.ref a) [k] P Q := ⟨i_tyD (.inl h), kvs, e, h, kf, hl, q⟩
theorem i_ix {i : Int} (h : RdL P a xs) (hi : atI xs i = some d) (q : Q d P) : qIx (.ref a) (.int i) P Q := .inl ⟨xs, i, d, h, rfl, hi, q⟩
theorem i_ixT {i : Int} (hi : atI xs i = some d) (q : Q d P) : qIx (.tup xs) (.int i) P Q := ⟨i, d, rfl, hi, q⟩
theorem i_ixS {x : Str} {i : Int} {c : Nat} (hz : x.length ≤ 1000000) (hi : atI x.cps.toList i = some c) (q : Q (.str ⟨#[c]⟩) P) : qIx (.str x) (.int i) P Q := ⟨i, c, rfl, by rw [sizeLine_eq]; omega, hi, q⟩
theorem i_ixD (h : RdD P a kvs) (kf : KeyFor kvs k) (hl : dLook kvs k = some d) (q : Q d P) : qIx (.ref a) k P Q := .inr ⟨kvs, d, h, kf, hl, q⟩
theorem i_setL {i : Int} {j : Nat} {Qh : PH → Prop} (h : P a = some (.lst xs)) (hj : ixN xs.length i = some j) (q : Qh (up P a (.lst (xs.set j d)))) : qSet (.ref a) (.int i) d P Qh := .inl ⟨xs, i, j, h, rfl, hj, q⟩
theorem i_setD {Qh : PH → Prop} (h : P a = some (.dct kvs)) (kf : KeyFor kvs k) (hz : kvs.length ≤ 1000000) (q : Qh (up P a (.dct (dPut kvs k d)))) : qSet (.ref a) k d P Qh := .inr ⟨kvs, h, kf, by rw [sizeLine_eq]; omega, q⟩
theorem i_inD {neg : Bool} (h : RdD P a kvs) (kf : KeyFor kvs k) (q : Q (.bl (if neg = true then !dHas kvs k else dHas kvs k)) P) : qIn neg k (.ref a) P Q := .inr ⟨kvs, h, kf, q⟩
theorem at_cons {x : D} : atI (x :: xs) 0 = some x := by
  unfold atI ixN
  simp
theorem at_nat {i : Nat} (h : xs[i]? = some d) : atI xs (i : Int) = some d := by
  have hi : i < xs.length := (List.getElem?_eq_some_iff.mp h).1
  unfold atI ixN
  have h1 : (0 : Int) ≤ (i : Int) := by omega
  have h2 : (i : Int) < (xs.length : Nat) := by omega
  simp [h1, h2, h]
theorem at_int {i : Int} (h0 : 0 ≤ i) (h : xs[i.toNat]? = some d) : atI xs i = some d := by
  obtain ⟨n, rfl⟩ := Int.eq_ofNat_of_zero_le h0
  exact at_nat (by simpa using h)
theorem at_last (h : xs[xs.length - 1]? = some d) : atI xs (-1) = some d := by
  have hi : xs.length - 1 < xs.length := (List.getElem?_eq_some_iff.mp h).1
  have h1 : ¬ ((0 : Int) ≤ -1) := by omega
  have h2 : -((xs.length : Nat) : Int) ≤ -1 := by omega
  have h3 : (-1 + ((xs.length : Nat) : Int)).toNat = xs.length - 1 := by omega
  have e : ixN xs.length (-1) = some (xs.length - 1) := by
    unfold ixN
    rw [if_neg h1, if_pos h2, h3]
  unfold atI
  rw [e]
  exact h
end
/-- a statement and what comes behind it -/
structure Sq (D D' : PEnds) (N : PSt → PH → Prop) : Prop where
  rt : D'.rt = D.rt
  ex : D'.ex = D.ex
  bk : D'.bk = D.bk
  ct : D'.ct = D.ct
  nx : ∀ σ P, N σ P → D'.nx σ P
theorem seq_intro {t u : QTS} {D : PEnds} {σ : PSt} {P : PH} (h : ∀ D', Sq D D' (u D) → t D' σ P) : qSeq t u D σ P := h _ ⟨rfl, rfl, rfl, rfl, fun _ _ q => q⟩
theorem fg_0 : Fg [] [] := rfl
theorem fg_s {d : Option D} {ds es : PSt} (h : Fg ds es) : Fg (d :: ds) (d :: es) := ⟨d, es, rfl, .inr rfl, h⟩
theorem fg_n {d : Option D} {ds es : PSt} (h : Fg ds es) : Fg (none :: ds) (d :: es) := ⟨d, es, rfl, .inl rfl, h⟩
theorem wk_of {Q : PK} {d : D} {P P0 : PH} (l : Le P0 P) (h : Q d P0) : wkK Q d P := ⟨P0, l, h⟩
theorem up_under {P : PH} {a b : Addr} {o o' u : O} (h : a ≠ b) : up (up (up P a o) b u) a o' = up (up P a o') b u := by rw [up_comm h, up_up]; exact (up_comm h).symm
theorem last_snoc {xs : List D} {d : D} : (xs ++ [d])[(xs ++ [d]).length - 1]? = some d := by simp
/-- a loop's ends, from within: N is what a turn is to reach -/
structure Lp (D D' : PEnds) (N : PSt → PH → Prop) : Prop where
  rt : D'.rt = D.rt
  ex : D'.ex = D.ex
  bk : D'.bk = D.nx
  nx : ∀ σ P, N σ P → D'.nx σ P
  ct : ∀ σ P, N σ P → D'.ct σ P
theorem lp_of (D : PEnds) (N : PSt → PH → Prop) : Lp D (LoopEnds D N) N := ⟨rfl, rfl, rfl, fun _ _ h => h, fun _ _ h => h⟩
theorem while_intro {c : QTT} {tb : QTS} {D : PEnds} {σ : PSt} {P : PH} (V : Nat → PSt → PH → Prop) (m0 : Nat) (h0 : V m0 σ P)
    (step : ∀ (m : Nat) (σ : PSt) (P : PH) (D' : PEnds), V m σ P → Lp D D' (fun σ' P' => ∃ m' σ0 P0, m' < m ∧ Fg σ0 σ' ∧ Le P0 P' ∧ V m' σ0 P0) → c σ P (fun b P1 => brW b tb D' D.nx σ P1) fun C P1 => D.ex C σ P1) : qWhile c tb D σ P :=
  ⟨V, ⟨m0, h0⟩, fun m σ P v => step m σ P _ v (lp_of _ _)⟩
def forK (xs : List D) (S : PH → Prop) (D : PEnds) (g : QTG) (tb : QTS) (σ : PSt) (P1 : PH) : Prop := ∃ V : Nat → PSt → PH → Prop, V 0 σ P1 ∧
  (∀ (i : Nat) x σ P, xs[i]? = some x → V i σ P → S P ∧ g x σ P fun σ2 P2 => tb (LoopEnds D fun σ' P' => ∃ σ0 P0, Fg σ0 σ' ∧ Le P0 P' ∧ V (i + 1) σ0 P0) σ2 P2) ∧ ∀ σ P, V xs.length σ P → S P ∧ D.nx σ P
theorem s_for {qi : QTI} {g : QTG} {tb : QTS} {D : PEnds} {σ : PSt} {P : PH} : qFor qi g tb D σ P = qi σ P (fun xs S P1 => forK xs S D g tb σ P1) fun C P1 => D.ex C σ P1 := rfl
theorem for_intro {xs : List D} {S : PH → Prop} {P1 : PH} {D : PEnds} {g : QTG} {tb : QTS} {σ : PSt} (V : Nat → PSt → PH → Prop) (h0 : V 0 σ P1)
    (step : ∀ (i : Nat) (x : PL.D) (σ : PSt) (P : PH) (D' : PEnds), xs[i]? = some x → V i σ P → Lp D D' (fun σ' P' => ∃ σ0 P0, Fg σ0 σ' ∧ Le P0 P' ∧ V (i + 1) σ0 P0) → S P ∧ g x σ P fun σ2 P2 => tb D' σ2 P2)
    (done : ∀ σ P, V xs.length σ P → S P ∧ D.nx σ P) : forK xs S D g tb σ P1 :=
  ⟨V, h0, fun i x σ P e v => step i x σ P _ e v (lp_of _ _), done⟩
/-- a comprehension's work -/
def lcK (xs : List D) (S : PH → Prop) (g : QTG) (tt : QTT) (te : QTE) (vs : List Nat) (σ : PSt) (Q : PK) (P1 : PH) : Prop := ∀ l, P1 l = none → ∃ V : Nat → List D → PH → Prop, V 0 [] (up P1 l (.lst [])) ∧
  (∀ i x acc P2, xs[i]? = some x → V i acc P2 → P2 l = some (.lst acc) → S P2 ∧ acc.length < sizeLine ∧ g x (wipeD σ vs) P2 fun σ3 P3 => tt σ3 P3 (fun b P4 => if b = true then te σ3 P4 (fun y P5 => P5 l = some (.lst acc) ∧ ∃ P0, Le P0 (up P5 l (.lst (acc ++ [y]))) ∧ P0 l = some (.lst (acc ++ [y])) ∧ V (i + 1) (acc ++ [y]) P0) X0
    else ∃ P0, Le P0 P4 ∧ P0 l = some (.lst acc) ∧ V (i + 1) acc P0) X0) ∧
  ∀ acc P2, V xs.length acc P2 → P2 l = some (.lst acc) → S P2 ∧ Q (.ref l) P2
theorem s_lc {qi : QTI} {g : QTG} {tt : QTT} {te : QTE} {vs : List Nat} {σ : PSt} {P : PH} {Q : PK} {E : PX} : qLc qi g tt te vs σ P Q E = qi σ P (fun xs S P1 => lcK xs S g tt te vs σ Q P1) E := rfl
def brL (b : Bool) (te : QTE) (N : PH → Prop) (K : PK) (σ : PSt) (P : PH) : Prop := if b = true then te σ P K X0 else N P
theorem brL_t {te : QTE} {N : PH → Prop} {K : PK} {σ : PSt} {P : PH} : brL true te N K σ P = te σ P K X0 := rfl
theorem brL_f {te : QTE} {N : PH → Prop} {K : PK} {σ : PSt} {P : PH} : brL false te N K σ P = N P := rfl
theorem i_lc {p : Prop} [Decidable p] {te : QTE} {N : PH → Prop} {K : PK} {σ : PSt} {P : PH} (h1 : p → te σ P K X0) (h2 : ¬ p → N P) : brL (decide p) te N K σ P := by
  by_cases h : p
  · rw [decide_eq_true h]; exact h1 h
  · rw [decide_eq_false h]; exact h2 h
/-- .. that changes nothing but what is new: f tells what each item gives -/
theorem lc_intro (f : D → Option D) {xs : List D} {S : PH → Prop} {g : QTG} {tt : QTT} {te : QTE} {vs : List Nat} {σ : PSt} {P1 : PH} {Q : PK} (hz : xs.length ≤ 1000000) (hS : ∀ P2, Le P1 P2 → S P2)
    (step : ∀ (i : Nat) (x : D) (P2 : PH) (K : D → PH → Prop) (N : PH → Prop), xs[i]? = some x → Le P1 P2 → (∀ y P5, Le P2 P5 → f x = some y → K y P5) → (∀ P5, Le P2 P5 → f x = none → N P5) →
      g x (wipeD σ vs) P2 fun σ3 P3 => tt σ3 P3 (fun b P4 => brL b te N K σ3 P4) X0)
    (hQ : ∀ l, P1 l = none → Q (.ref l) (up P1 l (.lst (xs.filterMap f)))) : lcK xs S g tt te vs σ Q P1 := lc_pure f (by rw [sizeLine_eq]; omega) hS step hQ
/-- .. each item of which may be one of several -/
theorem lc_any (C : Nat → D → D → Prop) {xs : List D} {S : PH → Prop} {g : QTG} {te : QTE} {vs : List Nat} {σ : PSt} {P1 : PH} {Q : PK} (hz : xs.length ≤ 1000000) (hS : ∀ P2, Le P1 P2 → S P2)
    (step : ∀ (i : Nat) (x : D) (P2 : PH) (K : D → PH → Prop), xs[i]? = some x → Le P1 P2 → (∀ y P5, Le P2 P5 → C i x y → K y P5) → g x (wipeD σ vs) P2 fun σ3 P3 => te σ3 P3 K X0)
    (hQ : ∀ l (ys : List D), P1 l = none → ys.length = xs.length → (∀ (i : Nat) x y, xs[i]? = some x → ys[i]? = some y → C i x y) → Q (.ref l) (up P1 l (.lst ys))) : lcK xs S g qYes te vs σ Q P1 := by
  intro l hl
  have n1 : ∀ o, Le P1 (up P1 l o) := fun o => Le.new hl
  refine ⟨fun i acc P2 => P2 = up P1 l (.lst acc) ∧ acc.length = i ∧ ∀ (j : Nat) x y, xs[j]? = some x → acc[j]? = some y → C j x y, ⟨rfl, rfl, fun j x y _ e => by simp at e⟩, ?_, ?_⟩
  · rintro i x acc P2 hx ⟨rfl, hlen, hC⟩ _
    have hi : i < xs.length := (List.getElem?_eq_some_iff.mp hx).1
    refine ⟨hS _ (n1 _), by rw [sizeLine_eq]; omega, ?_⟩
    refine step i x _ _ hx (n1 _) fun y P5 l5 hy => ?_
    refine ⟨l5 _ _ up_same, up P1 l (.lst (acc ++ [y])), ?_, up_same, rfl, by rw [List.length_append, hlen]; rfl, fun j x' y' e1 e2 => ?_⟩
    · intro b u e
      by_cases hb : b = l
      · subst hb
        rw [up_same] at e ⊢
        exact e
      · rw [up_ne hb] at e ⊢
        exact l5 b u (by rw [up_ne hb]; exact e)
    · by_cases hj : j < acc.length
      · rw [List.getElem?_append_left hj] at e2
        exact hC j x' y' e1 e2
      · rw [List.getElem?_append_right (by omega)] at e2
        have h0 : j - acc.length = 0 := by
          by_cases h0 : j - acc.length = 0
          · exact h0
          · rw [List.getElem?_eq_none (by simp; omega)] at e2
            cases e2
        rw [h0] at e2
        have hj2 : j = i := by omega
        subst hj2
        cases e2
        rw [hx] at e1
        cases e1
        exact hy
  · rintro acc P2 ⟨rfl, hlen, hC⟩ _
    exact ⟨hS _ (n1 _), hQ l acc hl hlen hC⟩
theorem s_wipe0 {σ : PSt} : wipeD σ [] = σ := rfl
theorem s_wipeS {σ : PSt} {v : Nat} {vs : List Nat} : wipeD σ (v :: vs) = (wipeD σ vs).set v none := rfl
theorem dE_nx {Q : PK} {E : PX} {σ : PSt} {P : PH} : (dEnds Q E).nx σ P = wkK Q .non P := rfl
theorem dE_rt {Q : PK} {E : PX} : (dEnds Q E).rt = wkK Q := rfl
theorem dE_ex {Q : PK} {E : PX} {C : Addr} {σ : PSt} {P : PH} : (dEnds Q E).ex C σ P = wkX E C P := rfl
theorem cal_of {G : En} {mg : Str → Option Value} {base : Heap} {x : Str} {st : Stmt} {f : Addr} {fd : FuncData} {N ps : List Str} {k : Nat} {sp : PSp} (F : Fun G.K x x st f fd) (hm : mg x = some (.ref f)) (b : Binds G.K fd ps []) (S : FnScope N ps (defScope st))
    (len : ∀ ds P Q E, sp ds P Q E → ds.length = ps.length) {t : QTS} (body : DBody G mg base N x st k t) (read : ∀ ds P Q E, sp ds P Q E → t (dEnds Q E) (startD N ds) P) : Cal G mg base (k + 1) x sp :=
  ⟨f, fd, ps, def_ok F S len fun ds P Q E h => ⟨t, body, read ds P Q E h⟩, hm, F.kp, b⟩
theorem calG_of {G : En} {mg : Str → Option Value} {base : Heap} {x : Str} {st : Stmt} {f : Addr} {fd : FuncData} {N ps : List Str} {k : Nat} {sp : PSp} (F : Fun G.K x x st f fd) (hm : mg x = some (.ref f)) (b : Binds G.K fd ps []) (S : FnScope N ps (defScope st))
    (len : ∀ ds P Q E, sp ds P Q E → ds.length = ps.length) {t : QTS} (body : DBodyG G mg base N x st k t) (read : ∀ ds P Q E, sp ds P Q E → t (dEnds Q E) (startD N ds) P) : CalG G mg base (k + 1) x sp :=
  ⟨f, fd, ps, def_okG F S len fun ds P Q E h => ⟨t, body, read ds P Q E h⟩, hm, F.kp, b⟩
/-- a def that is never called so -/
theorem cal_never {G : En} {mg : Str → Option Value} {base : Heap} {x : Str} {st : Stmt} {f : Addr} {fd : FuncData} {ps : List Str} {k : Nat} {sp : PSp} (F : Fun G.K x x st f fd) (hm : mg x = some (.ref f)) (b : Binds G.K fd ps []) (no : ∀ ds P Q E, ¬ sp ds P Q E) : Cal G mg base k x sp :=
  ⟨f, fd, ps, ⟨fun _ _ _ _ ⟨_, _, _, _, _, _, h, _⟩ => absurd h (no _ _ _ _), fun _ _ _ _ _ _ _ _ _ _ _ _ _ ⟨_, _, _, _, _, _, h, _⟩ => absurd h (no _ _ _ _)⟩, hm, F.kp, b⟩
theorem calG_never {G : En} {mg : Str → Option Value} {base : Heap} {x : Str} {st : Stmt} {f : Addr} {fd : FuncData} {ps : List Str} {k : Nat} {sp : PSp} (F : Fun G.K x x st f fd) (hm : mg x = some (.ref f)) (b : Binds G.K fd ps []) (no : ∀ ds P Q E, ¬ sp ds P Q E) : CalG G mg base k x sp :=
  ⟨f, fd, ps, ⟨fun _ _ _ _ ⟨_, _, _, _, _, _, h, _⟩ => absurd h (no _ _ _ _), fun _ _ _ _ _ _ _ _ _ _ _ _ _ _ ⟨_, _, _, _, _, _, h, _⟩ => absurd h (no _ _ _ _)⟩, hm, F.kp, b⟩
end PL
namespace K83
open PySem PL
/-- a grove: nothing, or a tree (its tag, its kids) ahead of a grove -/
inductive Gr where
  | nil
  | cons (t : Str) (k r : Gr)
def gD : Gr → List D
  | .nil => []
  | .cons t k r => .tup [.str t, .tup (gD k)] :: gD r
def Gr.size : Gr → Nat
  | .nil => 0
  | .cons _ k r => 1 + k.size + r.size
def Gr.len : Gr → Nat
  | .nil => 0
  | .cons _ _ r => 1 + r.len
def Gr.dep : Gr → Nat
  | .nil => 0
  | .cons _ k r => max (k.dep + 1) r.dep
def words : Gr → List Str
  | .nil => []
  | .cons t k r => t :: (words k ++ ("/" : Str) :: words r)
theorem words_len : ∀ g : Gr, (words g).length = 2 * g.size
  | .nil => rfl
  | .cons t k r => by
    have h1 := words_len k
    have h2 := words_len r
    show (words k ++ ("/" : Str) :: words r).length + 1 = 2 * (1 + k.size + r.size)
    rw [List.length_append, List.length_cons]
    omega
theorem gD_len : ∀ g : Gr, (gD g).length = g.len
  | .nil => rfl
  | .cons t k r => by
    show (gD r).length + 1 = 1 + r.len
    rw [gD_len r]; omega
theorem len_le : ∀ g : Gr, g.len ≤ g.size
  | .nil => Nat.le_refl _
  | .cons t k r => by
    have := len_le r
    show 1 + r.len ≤ 1 + k.size + r.size
    omega
/-- the distance, from the first trees on -/
def farC (t : Str) (sk sz : Nat) (fk fr : Gr → Nat) : Gr → Nat
  | .nil => sz
  | .cons u l s => min (min (1 + sk + fr (.cons u l s)) (1 + l.size + farC t sk sz fk fr s)) (fk l + fr s + if t = u then 0 else 1)
def far : Gr → Gr → Nat
  | .nil => Gr.size
  | .cons t k r => farC t k.size (1 + k.size + r.size) (far k) (far r)
theorem far_nil (h : Gr) : far .nil h = h.size := rfl
theorem far_nil' (g : Gr) : far g .nil = g.size := by cases g <;> rfl
theorem far_cons (t u : Str) (k r l s : Gr) : far (.cons t k r) (.cons u l s) = min (min (1 + k.size + far r (.cons u l s)) (1 + l.size + far (.cons t k r) s)) (far k l + far r s + if t = u then 0 else 1) := rfl
theorem far_comm : ∀ g h : Gr, far g h = far h g
  | .nil, h => by rw [far_nil, far_nil']
  | .cons t k r, .nil => by rw [far_nil, far_nil']
  | .cons t k r, .cons u l s => by
    have h1 := far_comm r (.cons u l s)
    have h2 := far_comm (.cons t k r) s
    have h3 := far_comm k l
    have h4 := far_comm r s
    rw [far_cons, far_cons, h1, h2, h3, h4]
    by_cases e : t = u
    · subst e
      simp only [if_true]
      omega
    · rw [if_neg e, if_neg fun z => e z.symm]
      omega
termination_by g h => g.size + h.size
decreasing_by
  all_goals simp only [Gr.size]
  all_goals omega
theorem far_self : ∀ g : Gr, far g g = 0
  | .nil => rfl
  | .cons t k r => by
    rw [far_cons, far_self k, far_self r, if_pos rfl]
    omega
theorem far_le : ∀ g h : Gr, far g h ≤ g.size + h.size
  | .nil, h => by rw [far_nil]; omega
  | .cons t k r, .nil => by rw [far_nil']; omega
  | .cons t k r, .cons u l s => by
    have h1 := far_le r (.cons u l s)
    rw [far_cons]
    simp only [Gr.size] at h1 ⊢
    omega

/-! ### the same by lines -/
section
variable {α β : Type} (del : α → Nat) (ins : β → Nat) (sub : α → β → Nat)
def sumI : List β → Nat
  | [] => 0
  | b :: bs => ins b + sumI bs
/-- from the first ones on -/
def backC (da : Nat) (sa : β → Nat) (z : Nat) (f : List β → Nat) : List β → Nat
  | [] => z
  | b :: bs => min (min (da + f (b :: bs)) (ins b + backC da sa z f bs)) (sa b + f bs)
def back : List α → List β → Nat
  | [], bs => sumI ins bs
  | a :: r, bs => backC ins (del a) (sub a) (sumI del (a :: r)) (back r) bs
theorem back_nil' (as : List α) : back del ins sub as [] = sumI del as := by cases as <;> rfl
theorem back_cons (a : α) (b : β) (as : List α) (bs : List β) : back del ins sub (a :: as) (b :: bs) = min (min (del a + back del ins sub as (b :: bs)) (ins b + back del ins sub (a :: as) bs)) (sub a b + back del ins sub as bs) := rfl
theorem back_del (a : α) (r : List α) (bs : List β) : back del ins sub (a :: r) bs ≤ del a + back del ins sub r bs := by
  cases bs with
  | nil => rw [back_nil', back_nil']; exact Nat.le_refl _
  | cons b bs => rw [back_cons]; omega
theorem back_put (as : List α) (b : β) (bs : List β) : back del ins sub as (b :: bs) ≤ ins b + back del ins sub as bs := by
  cases as with
  | nil => exact Nat.le_refl _
  | cons a r => rw [back_cons]; omega
theorem back_sub (a : α) (r : List α) (b : β) (bs : List β) : back del ins sub (a :: r) (b :: bs) ≤ sub a b + back del ins sub r bs := by
  rw [back_cons]; omega
variable (bs : List β)
/-- the next line: its j-th number -/
def nxt (a : α) (f : Nat → Nat) : Nat → Nat
  | 0 => f 0 + del a
  | j + 1 => match bs[j]? with
    | some b => min (min (f j + sub a b) (f (j + 1) + del a)) (nxt a f j + ins b)
    | none => 0
def fwd : List α → (Nat → Nat) → Nat → Nat
  | [], f => f
  | a :: r, f => fwd r (nxt del ins sub bs a f)
def first : Nat → Nat := fun j => sumI ins (bs.take j)
structure LineOk (f : Nat → Nat) (as : List α) (v : Nat) : Prop where
  up : ∀ j b, bs[j]? = some b → f (j + 1) ≤ f j + ins b
  le : ∀ j, j ≤ bs.length → v ≤ f j + back del ins sub as (bs.drop j)
  at_ : ∃ j, j ≤ bs.length ∧ v = f j + back del ins sub as (bs.drop j)
theorem drop_at {j : Nat} {b : β} (h : bs[j]? = some b) : bs.drop j = b :: bs.drop (j + 1) := by
  obtain ⟨hj, e⟩ := List.getElem?_eq_some_iff.mp h
  rw [List.drop_eq_getElem_cons hj, e]
theorem sumI_take {j : Nat} {b : β} (h : bs[j]? = some b) : sumI ins (bs.take (j + 1)) = sumI ins (bs.take j) + ins b := by
  have aux : ∀ (xs ys : List β), sumI ins (xs ++ ys) = sumI ins xs + sumI ins ys := fun xs ys => by
    induction xs with
    | nil => simp [sumI]
    | cons x xs ih => show ins x + sumI ins (xs ++ ys) = ins x + sumI ins xs + sumI ins ys; rw [ih]; omega
  rw [List.take_add_one, h, aux]
  show _ + (ins b + 0) = _
  omega
theorem first_ok (as : List α) : LineOk del ins sub bs (first ins bs) as (back del ins sub as bs) := by
  refine ⟨fun j b h => ?_, fun j hj => ?_, 0, Nat.zero_le _, ?_⟩
  · show sumI ins (bs.take (j + 1)) ≤ sumI ins (bs.take j) + ins b
    rw [sumI_take ins bs h]
    exact Nat.le_refl _
  · induction j with
    | zero => show _ ≤ 0 + back del ins sub as bs; omega
    | succ j ih =>
      have h := List.getElem?_eq_getElem (l := bs) (i := j) (by omega)
      have h1 := ih (by omega)
      have h2 := back_put del ins sub as bs[j] (bs.drop (j + 1))
      rw [drop_at bs h] at h1
      have h3 : first ins bs (j + 1) = first ins bs j + ins bs[j] := sumI_take ins bs h
      omega
  · show _ = 0 + back del ins sub as bs
    omega
theorem next_ok {f : Nat → Nat} {a : α} {as : List α} {v : Nat} (k : LineOk del ins sub bs f (a :: as) v) : LineOk del ins sub bs (nxt del ins sub bs a f) as v := by
  have n1 : ∀ j b, bs[j]? = some b → nxt del ins sub bs a f (j + 1) = min (min (f j + sub a b) (f (j + 1) + del a)) (nxt del ins sub bs a f j + ins b) := fun j b h => by
    show (match bs[j]? with | some b => _ | none => 0) = _
    rw [h]
  have hdel : ∀ j, j ≤ bs.length → nxt del ins sub bs a f j ≤ f j + del a := fun j hj => by
    cases j with
    | zero => exact Nat.le_refl _
    | succ j =>
      rw [n1 j _ (List.getElem?_eq_getElem (by omega))]
      omega
  refine ⟨fun j b h => ?_, fun j hj => ?_, ?_⟩
  · rw [n1 j b h]; omega
  · induction j with
    | zero =>
      have h1 := k.le 0 (Nat.zero_le _)
      have h2 := back_del del ins sub a as (bs.drop 0)
      show v ≤ f 0 + del a + _
      omega
    | succ j ih =>
      have h := List.getElem?_eq_getElem (l := bs) (i := j) (by omega)
      have e := drop_at bs h
      have i1 := ih (by omega)
      have k1 := k.le j (by omega)
      have k2 := k.le (j + 1) hj
      have b1 := back_put del ins sub as bs[j] (bs.drop (j + 1))
      have b2 := back_sub del ins sub a as bs[j] (bs.drop (j + 1))
      have b3 := back_del del ins sub a as (bs.drop (j + 1))
      rw [e] at i1 k1
      rw [n1 j _ h]
      omega
  · obtain ⟨j, hj, e⟩ := k.at_
    -- going on from j, along where the value comes from
    have go : ∀ n j, n = bs.length - j → j ≤ bs.length → v = f j + back del ins sub (a :: as) (bs.drop j) → ∃ j, j ≤ bs.length ∧ nxt del ins sub bs a f j + back del ins sub as (bs.drop j) ≤ v := by
      intro n
      induction n with
      | zero =>
        intro j hn hj e
        have ej : j = bs.length := by omega
        subst ej
        have h1 := hdel bs.length (Nat.le_refl _)
        rw [List.drop_length, back_nil'] at e
        refine ⟨_, Nat.le_refl _, ?_⟩
        rw [List.drop_length, back_nil']
        have h2 : sumI del (a :: as) = del a + sumI del as := rfl
        omega
      | succ n ih =>
        intro j hn hj e
        have hlt : j < bs.length := by omega
        have h := List.getElem?_eq_getElem (l := bs) (i := j) hlt
        have ed := drop_at bs h
        rw [ed, back_cons, ← ed] at e
        have h1 := hdel j hj
        have h2 := n1 j _ h
        have h3 := k.up j _ h
        have h4 := k.le (j + 1) (by omega)
        by_cases c1 : v = f j + (del a + back del ins sub as (bs.drop j))
        · exact ⟨j, hj, by omega⟩
        · by_cases c2 : v = f j + (ins bs[j] + back del ins sub (a :: as) (bs.drop (j + 1)))
          · exact ih (j + 1) (by omega) (by omega) (by omega)
          · refine ⟨j + 1, by omega, ?_⟩
            rw [h2]
            omega
    obtain ⟨j', hj', le⟩ := go _ j rfl hj e
    refine ⟨j', hj', Nat.le_antisymm ?_ le⟩
    -- the other way, as above
    have all : ∀ j, j ≤ bs.length → v ≤ nxt del ins sub bs a f j + back del ins sub as (bs.drop j) := by
      intro j hj
      induction j with
      | zero =>
        have h1 := k.le 0 (Nat.zero_le _)
        have h2 := back_del del ins sub a as (bs.drop 0)
        show v ≤ f 0 + del a + _
        omega
      | succ j ih =>
        have h := List.getElem?_eq_getElem (l := bs) (i := j) (by omega)
        have e := drop_at bs h
        have i1 := ih (by omega)
        have k1 := k.le j (by omega)
        have k2 := k.le (j + 1) hj
        have b1 := back_put del ins sub as bs[j] (bs.drop (j + 1))
        have b2 := back_sub del ins sub a as bs[j] (bs.drop (j + 1))
        have b3 := back_del del ins sub a as (bs.drop (j + 1))
        rw [e] at i1 k1
        rw [n1 j _ h]
        omega
    exact all j' hj'
theorem fwd_back (as : List α) : ∀ (f : Nat → Nat) (v : Nat), LineOk del ins sub bs f as v → fwd del ins sub bs as f bs.length = v := by
  induction as with
  | nil =>
    intro f v k
    refine Nat.le_antisymm ?_ ?_
    · obtain ⟨j, hj, e⟩ := k.at_
      have go : ∀ n j, n = bs.length - j → j ≤ bs.length → f bs.length ≤ f j + sumI ins (bs.drop j) := by
        intro n
        induction n with
        | zero =>
          intro j hn hj
          have ej : j = bs.length := by omega
          subst ej
          omega
        | succ n ih =>
          intro j hn hj
          have h := List.getElem?_eq_getElem (l := bs) (i := j) (by omega)
          have h1 := k.up j _ h
          have h2 := ih (j + 1) (by omega) (by omega)
          rw [drop_at bs h]
          show _ ≤ f j + (ins bs[j] + sumI ins (bs.drop (j + 1)))
          omega
      have := go _ j rfl hj
      have e' : v = f j + sumI ins (bs.drop j) := e
      show f bs.length ≤ v
      omega
    · have := k.le bs.length (Nat.le_refl _)
      rw [List.drop_length] at this
      exact this
  | cons a as ih =>
    intro f v k
    exact ih _ v (next_ok del ins sub bs k)
theorem fwd_is (as : List α) : fwd del ins sub bs as (first ins bs) bs.length = back del ins sub as bs := fwd_back del ins sub bs as _ _ (first_ok del ins sub bs as)
end
/-- a grove's trees -/
def trees : Gr → List (Str × Gr)
  | .nil => []
  | .cons t k r => (t, k) :: trees r
def dl (a : Str × Gr) : Nat := 1 + a.2.size
def sb (a b : Str × Gr) : Nat := (if a.1 = b.1 then 0 else 1) + far a.2 b.2
theorem sum_trees : ∀ g : Gr, sumI dl (trees g) = g.size
  | .nil => rfl
  | .cons t k r => by
    show dl (t, k) + sumI dl (trees r) = 1 + k.size + r.size
    rw [sum_trees r]; rfl
theorem far_back : ∀ g h : Gr, far g h = back dl dl sb (trees g) (trees h)
  | .nil, h => (sum_trees h).symm
  | .cons t k r, .nil => by rw [far_nil']; exact (sum_trees (.cons t k r)).symm
  | .cons t k r, .cons u l s => by
    have h1 := far_back r (.cons u l s)
    have h2 := far_back (.cons t k r) s
    have h3 := far_back r s
    have h4 : back dl dl sb (trees (.cons t k r)) (trees (.cons u l s)) = _ := back_cons dl dl sb (t, k) (u, l) (trees r) (trees s)
    rw [far_cons, h4]
    have e1 : trees (.cons u l s) = (u, l) :: trees s := rfl
    have e2 : trees (.cons t k r) = (t, k) :: trees r := rfl
    rw [e1] at h1
    rw [e2] at h2
    rw [h1, h2, h3]
    simp only [dl, sb]
    omega
termination_by g h => g.size + h.size
decreasing_by
  all_goals simp only [Gr.size]
  all_goals omega
end K83
namespace K83
open PySem PL
/-- one to eight small letters -/
def WordOk (w : Str) : Prop := 1 ≤ w.length ∧ w.length ≤ 8 ∧ ∀ c ∈ w.cps.toList, 97 ≤ c ∧ c ≤ 122
def GrOk : Gr → Prop
  | .nil => True
  | .cons t k r => WordOk t ∧ GrOk k ∧ GrOk r
def txts (ws : List Str) : List D := ws.map D.str
/-- all rests, of all rows -/
def subs : Gr → List Gr
  | .nil => [.nil]
  | .cons t k r => .cons t k r :: (subs k ++ subs r)
/-- what str tells of two groves -/
def keyOf (g h : Gr) : Str := (toPd (.tup [.tup (gD g), .tup (gD h)])).shown
structure KeptOk (g0 h0 : Gr) (kvs : List (D × D)) : Prop where
  key : ∀ e ∈ kvs, ∃ g h, g ∈ subs g0 ∧ h ∈ subs h0 ∧ e = (.str (keyOf g h), .int (far g h))
  nodup : (kvs.map fun e => toKey e.1).Nodup
def sp_words_of : PSp := fun ds P Q _ => ∃ g, ds = [.tup (gD g)] ∧ g.size ≤ 1000 ∧ ∀ l, P l = none → Q (.ref l) (up P l (.lst (txts (words g))))
def sp_size : PSp := fun ds P Q _ => ∃ g, ds = [.tup (gD g)] ∧ g.size ≤ 1000 ∧ Q (.int (g.size : Nat)) P
def sp_distance (n : Nat) : PSp := fun ds P Q _ => ∃ g h, ds = [.tup (gD g), .tup (gD h)] ∧ g.size ≤ 500 ∧ h.size ≤ 500 ∧ g.dep < n ∧ Q (.int (far g h : Nat)) P
def sp__law_cell_at : PSp := fun ds P Q _ => ∃ (a : Addr) (ns : List Int) (k : Int), ds = [.ref a, .int k] ∧ RdL P a (ns.map D.int) ∧ 0 ≤ k ∧ ∀ i, Q (.int i) P
def sp__law_word : PSp := fun ds P Q _ => ∃ c, ds = [.int c] ∧ ∀ w, WordOk w → Q (.str w) P
def sp__law_pool : PSp := fun ds P Q _ => ∃ (c m : Int), ds = [.int c, .int m] ∧ 0 ≤ m ∧ m ≤ 100 ∧ ∀ (l : Addr) (ws : List Str), P l = none → (ws.length : Int) = m → (∀ w ∈ ws, WordOk w) → Q (.ref l) (up P l (.lst (txts ws)))
def sp__law_grove : PSp := fun ds P Q _ => ∃ (a : Addr) (ns : List Int) (s m : Int) (b : Addr) (ws : List Str), ds = [.ref a, .int s, .int m, .ref b] ∧ RdL P a (ns.map D.int) ∧ RdL P b (txts ws) ∧ 0 ≤ s ∧ 0 ≤ m ∧ m ≤ 100 ∧ 1 ≤ ws.length ∧ ws.length ≤ 100 ∧ (∀ w ∈ ws, WordOk w) ∧ ∀ g, (g.size : Int) = m → GrOk g → Q (.tup (gD g)) P
def sp__law_size (n : Nat) : PSp := fun ds P Q _ => ∃ g, ds = [.tup (gD g)] ∧ g.size ≤ 1000 ∧ g.dep < n ∧ Q (.int (g.size : Nat)) P
def sp__law_far (n : Nat) : PSp := fun ds P Q _ => ∃ (g0 h0 : Gr) (a : Addr) (kvs : List (D × D)) (g h : Gr), ds = [.ref a, .tup (gD g), .tup (gD h)] ∧ P a = some (.dct kvs) ∧ KeptOk g0 h0 kvs ∧ g ∈ subs g0 ∧ h ∈ subs h0 ∧ g.size + h.size < n ∧ (g0.size ≤ 20 ∧ h0.size ≤ 20 ∧ GrOk g0 ∧ GrOk h0) ∧
  ∀ kvs', KeptOk g0 h0 kvs' → Q (.int (far g h : Nat)) (up P a (.dct kvs'))
def sp__law_flat_far : PSp := fun ds P Q _ => ∃ (a b : Addr) (ws us : List Str), ds = [.ref a, .ref b] ∧ RdL P a (txts ws) ∧ RdL P b (txts us) ∧ ws.length ≤ 100 ∧ us.length ≤ 100 ∧ Q (.int (back (fun _ => 1) (fun _ => 1) (fun (x y : Str) => if x = y then 0 else 1) ws us : Nat)) P
def sp__law_like : PSp := fun ds P Q _ => ∃ (g : Gr) (c : Int) (b : Addr) (ws : List Str), ds = [.tup (gD g), .int c, .ref b] ∧ g.size ≤ 100 ∧ GrOk g ∧ RdL P b (txts ws) ∧ ws.length = 4 ∧ (∀ w ∈ ws, WordOk w) ∧ ∀ h, h.size ≤ g.size + 1 → GrOk h → Q (.tup (gD h)) P
def sp__law_is : PSp := fun ds P Q _ => ∃ i j, ds = [.int i, .int j] ∧ Q (.bl (decide (i = j))) P
def sp_law : PSp := fun ds P Q _ => ∃ (a : Addr) (ns : List Int), ds = [.ref a] ∧ P a = some (.lsr (ns.map D.int)) ∧ ∀ P', Q (.bl true) P'
end K83
namespace K83
open PySem PL
open PySem.Builtin.Str (reprChar)
/-! ### the text of a grove, sign by sign -/
abbrev cs (x : Str) : List Nat := x.cps.toList
mutual
/-- ( its trees ) -/
def rowT : Gr → List Nat
  | .nil => [40, 41]
  | .cons t k r => 40 :: 40 :: 39 :: (cs t ++ 39 :: 44 :: 32 :: (rowT k ++ 41 :: tlT true r))
/-- what comes behind a tree; behind the first one by itself a comma stands -/
def tlT : Bool → Gr → List Nat
  | true, .nil => [44, 41]
  | false, .nil => [41]
  | _, .cons t k r => 44 :: 32 :: 40 :: 39 :: (cs t ++ 39 :: 44 :: 32 :: (rowT k ++ 41 :: tlT false r))
end
theorem cs_app (x y : Str) : cs (x ++ y) = cs x ++ cs y := by
  show (x.cps ++ y.cps).toList = _
  simp
theorem word_cut : ∀ {a b u v : List Nat}, (∀ c ∈ a, 97 ≤ c) → (∀ c ∈ b, 97 ≤ c) → a ++ 39 :: u = b ++ 39 :: v → a = b ∧ u = v
  | [], [], u, v, _, _, h => by simpa using h
  | [], d :: b, u, v, _, hb, h => by
    have := hb d List.mem_cons_self
    simp at h
    omega
  | c :: a, [], u, v, ha, _, h => by
    have := ha c List.mem_cons_self
    simp at h
    omega
  | c :: a, d :: b, u, v, ha, hb, h => by
    simp only [List.cons_append, List.cons.injEq] at h
    obtain ⟨e1, e2⟩ := word_cut (fun x hx => ha x (List.mem_cons_of_mem _ hx)) (fun x hx => hb x (List.mem_cons_of_mem _ hx)) h.2
    exact ⟨by rw [h.1, e1], e2⟩
theorem str_cs {a b : Str} (h : cs a = cs b) : a = b := Str.ext' (Array.toList_inj.mp h)
theorem low_ge {w : Str} (h : WordOk w) : ∀ c ∈ cs w, 97 ≤ c := fun c hc => (h.2.2 c hc).1
mutual
theorem rowT_inj : ∀ (g h : Gr) (u v : List Nat), GrOk g → GrOk h → rowT g ++ u = rowT h ++ v → g = h ∧ u = v
  | .nil, .nil, u, v, _, _, e => by simpa [rowT] using e
  | .nil, .cons t k r, u, v, _, _, e => by simp [rowT] at e
  | .cons t k r, .nil, u, v, _, _, e => by simp [rowT] at e
  | .cons t k r, .cons t' k' r', u, v, hg, hh, e => by
    rw [rowT, rowT] at e
    simp only [List.cons_append, List.append_assoc, List.cons.injEq, true_and] at e
    obtain ⟨e1, e2⟩ := word_cut (low_ge hg.1) (low_ge hh.1) e
    simp only [List.cons_append, List.append_assoc, List.cons.injEq, true_and] at e2
    obtain ⟨e3, e4⟩ := rowT_inj k k' _ _ hg.2.1 hh.2.1 e2
    simp only [List.cons_append, List.cons.injEq, true_and] at e4
    obtain ⟨e5, e6⟩ := tlT_inj true r r' _ _ hg.2.2 hh.2.2 e4
    exact ⟨by rw [str_cs e1, e3, e5], e6⟩
theorem tlT_inj : ∀ (b : Bool) (g h : Gr) (u v : List Nat), GrOk g → GrOk h → tlT b g ++ u = tlT b h ++ v → g = h ∧ u = v
  | true, .nil, .nil, u, v, _, _, e => by simpa [tlT] using e
  | false, .nil, .nil, u, v, _, _, e => by simpa [tlT] using e
  | true, .nil, .cons t k r, u, v, _, _, e => by simp [tlT] at e
  | false, .nil, .cons t k r, u, v, _, _, e => by simp [tlT] at e
  | true, .cons t k r, .nil, u, v, _, _, e => by simp [tlT] at e
  | false, .cons t k r, .nil, u, v, _, _, e => by simp [tlT] at e
  | b, .cons t k r, .cons t' k' r', u, v, hg, hh, e => by
    rw [tlT, tlT] at e
    simp only [List.cons_append, List.append_assoc, List.cons.injEq, true_and] at e
    obtain ⟨e1, e2⟩ := word_cut (low_ge hg.1) (low_ge hh.1) e
    simp only [List.cons_append, List.append_assoc, List.cons.injEq, true_and] at e2
    obtain ⟨e3, e4⟩ := rowT_inj k k' _ _ hg.2.1 hh.2.1 e2
    simp only [List.cons_append, List.cons.injEq, true_and] at e4
    obtain ⟨e5, e6⟩ := tlT_inj false r r' _ _ hg.2.2 hh.2.2 e4
    exact ⟨by rw [str_cs e1, e3, e5], e6⟩
end
mutual
theorem rowT_len : ∀ g : Gr, GrOk g → (rowT g).length ≤ 20 * g.size + 2
  | .nil, _ => by simp [rowT]
  | .cons t k r, h => by
    have h1 := rowT_len k h.2.1
    have h2 := tlT_len true r h.2.2
    have h3 : (cs t).length ≤ 8 := h.1.2.1
    rw [rowT]
    simp only [List.length_cons, List.length_append, Gr.size]
    omega
theorem tlT_len : ∀ (b : Bool) (g : Gr), GrOk g → (tlT b g).length ≤ 20 * g.size + 2
  | true, .nil, _ => by simp [tlT]
  | false, .nil, _ => by simp [tlT]
  | b, .cons t k r, h => by
    have h1 := rowT_len k h.2.1
    have h2 := tlT_len false r h.2.2
    have h3 : (cs t).length ≤ 8 := h.1.2.1
    rw [tlT]
    simp only [List.length_cons, List.length_append, Gr.size]
    omega
end
/-! ### that it is what str tells -/
theorem sign_low : ∀ c : Nat, c < 123 → 97 ≤ c → reprChar 39 c = [c] := by decide +kernel
theorem fold_low : ∀ (l : List Nat) (acc : Array Nat), (∀ c ∈ l, 97 ≤ c ∧ c ≤ 122) → (l.foldl (fun out c => out ++ (reprChar 39 c).toArray) acc).toList = acc.toList ++ l
  | [], acc, _ => by simp
  | c :: l, acc, h => by
    have hc := h c List.mem_cons_self
    rw [List.foldl_cons, fold_low l _ fun d hd => h d (List.mem_cons_of_mem _ hd), sign_low c (by omega) hc.1]
    simp
theorem repr_low {w : Str} (h : WordOk w) : cs (reprText w) = 39 :: (cs w ++ [39]) := by
  have hq : reprQuote w = 39 := by
    unfold reprQuote
    have : w.cps.contains 39 = false := by
      rw [Array.contains_eq_any_beq, Array.any_eq_false]
      intro i hi
      have := h.2.2 w.cps[i] (by simp)
      simp
      omega
    rw [this]
    rfl
  unfold reprText
  show (Array.push _ _).toList = _
  rw [Array.toList_push, ← Array.foldl_toList, hq, fold_low _ _ h.2.2]
  simp
/-- a tree's text -/
def treeT (t : Str) (k : Gr) : List Nat := 40 :: 39 :: (cs t ++ 39 :: 44 :: 32 :: (rowT k ++ [41]))
theorem rowT_cons (t : Str) (k r : Gr) : rowT (.cons t k r) = 40 :: (treeT t k ++ tlT true r) := by
  rw [rowT]
  simp [treeT]
theorem tlT_cons (b : Bool) (t : Str) (k r : Gr) : tlT b (.cons t k r) = 44 :: 32 :: (treeT t k ++ tlT false r) := by
  rw [tlT]
  simp [treeT]
def texts (g : Gr) : List Str := PyData.shownAll (toPds (gD g))
theorem texts_cons (t : Str) (k r : Gr) : texts (.cons t k r) = (toPd (.tup [.str t, .tup (gD k)])).shown :: texts r := by
  unfold texts
  rw [gD, toPds, PyData.shownAll]
theorem tup_text (ts : List Str) : cs (tupleText ts) = 40 :: (cs (Str.join ", " ts) ++ (if ts.length == 1 then [44, 41] else [41])) := by
  unfold tupleText
  rw [cs_app, cs_app]
  show [40] ++ _ ++ _ = _
  by_cases h : (ts.length == 1) = true
  · rw [if_pos h, if_pos h]; rfl
  · rw [if_neg h, if_neg h]; rfl
theorem join_cons2 (x y : Str) (l : List Str) : cs (Str.join ", " (x :: y :: l)) = cs x ++ 44 :: 32 :: cs (Str.join ", " (y :: l)) := by
  show cs (x ++ ", " ++ Str.join ", " (y :: l)) = _
  rw [cs_app, cs_app]
  show _ ++ [44, 32] ++ _ = _
  simp
theorem shown_tup (xs : List D) : (toPd (.tup xs)).shown = tupleText (PyData.shownAll (toPds xs)) := by rw [toPd, PyData.shown]
theorem tree_shown {t : Str} {k : Gr} (ht : WordOk t) (h : cs (toPd (.tup (gD k))).shown = rowT k) : cs (toPd (.tup [.str t, .tup (gD k)])).shown = treeT t k := by
  rw [shown_tup, toPds, toPds, toPds, PyData.shownAll, PyData.shownAll, PyData.shownAll, tup_text, join_cons2]
  show 40 :: (cs (toPd (.str t)).shown ++ 44 :: 32 :: cs (toPd (.tup (gD k))).shown ++ [41]) = _
  rw [h, toPd, PyData.shown, repr_low ht]
  unfold treeT
  simp
theorem both_shown : ∀ g : Gr, GrOk g → cs (toPd (.tup (gD g))).shown = rowT g ∧ (∀ t k r, g = .cons t k r → treeT t k ++ tlT false r = cs (Str.join ", " (texts g)) ++ [41])
  | .nil, _ => by
    refine ⟨?_, fun t k r e => nomatch e⟩
    rw [shown_tup, gD, toPds, PyData.shownAll, tup_text]
    rw [rowT]
    rfl
  | .cons t k .nil, h => by
    have ht := tree_shown h.1 (both_shown k h.2.1).1
    refine ⟨?_, fun t1 k1 r1 e => ?_⟩
    · rw [shown_tup, tup_text]
      show 40 :: (cs (Str.join ", " (texts (.cons t k .nil))) ++ (if (texts (.cons t k .nil)).length == 1 then [44, 41] else [41])) = _
      rw [texts_cons, rowT_cons]
      show 40 :: (cs (toPd (.tup [.str t, .tup (gD k)])).shown ++ [44, 41]) = _
      rw [ht, tlT]
    · cases e
      rw [texts_cons]
      show _ = cs (toPd (.tup [.str t, .tup (gD k)])).shown ++ [41]
      rw [ht, tlT]
  | .cons t k (.cons t' k' r'), h => by
    have ht := tree_shown h.1 (both_shown k h.2.1).1
    have hb := (both_shown (.cons t' k' r') h.2.2).2 _ _ _ rfl
    rw [texts_cons] at hb
    refine ⟨?_, fun t1 k1 r1 e => ?_⟩
    · rw [shown_tup, tup_text]
      show 40 :: (cs (Str.join ", " (texts (.cons t k (.cons t' k' r')))) ++ (if (texts (.cons t k (.cons t' k' r'))).length == 1 then [44, 41] else [41])) = _
      rw [texts_cons, rowT_cons, texts_cons]
      rw [join_cons2, ht]
      have e : (((toPd (.tup [.str t, .tup (gD k)])).shown :: (toPd (.tup [.str t', .tup (gD k')])).shown :: texts r').length == 1) = false := by simp
      rw [e, if_neg (by decide), tlT_cons, hb]
      simp
    · cases e
      rw [texts_cons, texts_cons, join_cons2, ht, tlT_cons, hb]
      simp
theorem row_shown (g : Gr) (h : GrOk g) : cs (toPd (.tup (gD g))).shown = rowT g := (both_shown g h).1
theorem key_cs {g h : Gr} (hg : GrOk g) (hh : GrOk h) : cs (keyOf g h) = 40 :: (rowT g ++ 44 :: 32 :: (rowT h ++ [41])) := by
  unfold keyOf
  rw [shown_tup, toPds, toPds, toPds, PyData.shownAll, PyData.shownAll, PyData.shownAll, tup_text, join_cons2]
  show 40 :: (cs (toPd (.tup (gD g))).shown ++ 44 :: 32 :: cs (toPd (.tup (gD h))).shown ++ [41]) = _
  rw [row_shown g hg, row_shown h hh]
  simp
theorem key_inj {g h g' h' : Gr} (hg : GrOk g) (hh : GrOk h) (hg' : GrOk g') (hh' : GrOk h') (e : keyOf g h = keyOf g' h') : g = g' ∧ h = h' := by
  have e1 : cs (keyOf g h) = cs (keyOf g' h') := by rw [e]
  rw [key_cs hg hh, key_cs hg' hh', List.cons.injEq] at e1
  obtain ⟨e2, e3⟩ := rowT_inj g g' _ _ hg hg' e1.2
  simp only [List.cons.injEq, true_and] at e3
  exact ⟨e2, (rowT_inj h h' _ _ hh hh' e3).1⟩
theorem key_len {g h : Gr} (hg : GrOk g) (hh : GrOk h) : (keyOf g h).length ≤ 20 * (g.size + h.size) + 20 := by
  have e : (keyOf g h).length = (cs (keyOf g h)).length := by show (keyOf g h).cps.size = _; simp
  have h1 := rowT_len g hg
  have h2 := rowT_len h hh
  rw [e, key_cs hg hh]
  simp only [List.length_cons, List.length_append, List.length_nil]
  omega
/-! ### pure, showable, not too deep -/
theorem word_strOk {w : Str} (h : WordOk w) : PyData.strOk w = true := by
  unfold PyData.strOk
  rw [Array.all_eq_true]
  intro i hi
  have := h.2.2 w.cps[i] (by simp)
  simp
  omega
theorem gD_pure : ∀ g : Gr, GrOk g → pures (gD g) = true
  | .nil, _ => by rw [gD, pures]
  | .cons t k r, h => by
    rw [gD, pures, pure1, pures, pures, pures, pure1, pure1, gD_pure k h.2.1, gD_pure r h.2.2, word_strOk h.1]
    rfl
theorem gD_show : ∀ g : Gr, PyData.showableAll (toPds (gD g)) = true
  | .nil => by rw [gD, toPds, PyData.showableAll]
  | .cons t k r => by
    have h1 := gD_show k
    have h2 := gD_show r
    rw [gD, toPds, PyData.showableAll, toPd, PyData.showable, toPds, toPds, toPds, PyData.showableAll, PyData.showableAll, PyData.showableAll, toPd, PyData.showable, toPd, PyData.showable, h1, h2]
    rfl
theorem gD_deps : ∀ g : Gr, deps (gD g) ≤ 2 * g.dep
  | .nil => by rw [gD, deps]; exact Nat.zero_le _
  | .cons t k r => by
    have h1 := gD_deps k
    have h2 := gD_deps r
    rw [gD, deps, dep, deps, deps, deps, dep]
    show max (max 0 (max (deps (gD k) + 1) 0) + 1) (deps (gD r)) ≤ 2 * max (k.dep + 1) r.dep
    omega
theorem dep_le : ∀ g : Gr, g.dep ≤ g.size
  | .nil => Nat.le_refl _
  | .cons t k r => by
    have h1 := dep_le k
    have h2 := dep_le r
    show max (k.dep + 1) r.dep ≤ 1 + k.size + r.size
    omega
end K83
namespace K83
open PySem PySem.Spec L2 PL
def top (i : Nat) : Stmt := PySem.Challenge.pw_formgrove_k83_distance_by_rests.main.body.getD i (.Pass ⟨0, 0, 0, 0⟩)
structure Txt (G : En) (mg : Str → Option Value) : Prop where
  c_END : MgS mg "END" "/"
  m_bool : mg "bool" = none
  m_int : mg "int" = none
  m_isinstance : mg "isinstance" = none
  m_len : mg "len" = none
  m_list : mg "list" = none
  m_max : mg "max" = none
  m_min : mg "min" = none
  m_range : mg "range" = none
  m_str : mg "str" = none
  m_sum : mg "sum" = none
  m_tuple : mg "tuple" = none
abbrev s_words_of : Stmt := (top 2)
abbrev n_words_of : List Str := ["grove", "words", "pile", "row", "at"]
theorem sc_words_of : FnScope n_words_of ["grove"] (defScope s_words_of) := ⟨rfl, rfl, rfl, by decide +kernel, rfl, by decide +kernel, by decide +kernel⟩
theorem st_words_of {d0 : D} : startD n_words_of [d0] = [some d0, none, none, none, none] := rfl
def t_words_of  : QTS :=
  (qSeq (qAsg (qLst qNil) (qgName 1))
  (qSeq (qAsg (qLst (qCons (qTup (qCons (qVar 0) (qCons (qC (.int 0)) qNil))) qNil)) (qgName 2))
  (qSeq (qWhile (qTest (qOp qGt (qCB qLen (qCons (qVar 2) qNil)) (qC (.int 0)))) (qSeq (qAsg (qBM "list" qPop (qVar 2) qNil) (qgTup 2 (qgCons (qgName 3) (qgCons (qgName 4) qgNil))))
  (qIfS (qTest (qOp qLt (qVar 4) (qCB qLen (qCons (qVar 3) qNil)))) (qSeq (qDrop (qBM "list" qAppend (qVar 2) (qCons (qTup (qCons (qVar 3) (qCons (qOp qAdd (qVar 4) (qC (.int 1))) qNil))) qNil)))
  (qSeq (qDrop (qBM "list" qAppend (qVar 1) (qCons (qOp qIx (qOp qIx (qVar 3) (qVar 4)) (qC (.int 0))) qNil)))
  (qDrop (qBM "list" qAppend (qVar 2) (qCons (qTup (qCons (qOp qIx (qOp qIx (qVar 3) (qVar 4)) (qC (.int 1))) (qCons (qC (.int 0)) qNil))) qNil))))) (qIfS (qTest (qOp qGt (qCB qLen (qCons (qVar 2) qNil)) (qC (.int 0)))) (qDrop (qBM "list" qAppend (qVar 1) (qCons (qC (.str "/")) qNil))) qNext))))
  (qRet (qVar 1)))))
theorem b_words_of {G : En} {mg : Str → Option Value} {base : Heap} {k : Nat}  (T : Txt G mg) : DBody G mg base n_words_of "words_of" s_words_of k (t_words_of ) := fun f cdv A outer s H E hr tk po =>
  have hu := hr.units
  (qss_cons (qs_set (i := 1) sc_words_of.nd (qe_lst qa_nil))
  (qss_cons (qs_set (i := 2) sc_words_of.nd (qe_lst (qa_cons (qe_tup (qa_cons (qv 0) (qa_cons qe_int qa_nil))) qa_nil)))
  (qss_cons (qs_while po (qt_cmp op_qgt (qe_callB call_qlen T.m_len (by rfl) (qa_cons (qv 2) qa_nil)) qe_int (nomark _)) (qss_cons (qs_asg (qe_pop (qv 2)) (qg_tup rfl (qgs_cons (qg_name (i := 3) sc_words_of.nd) (qgs_cons (qg_name (i := 4) sc_words_of.nd) qgs_nil))))
  (qss_one (qs_if (qt_cmp (op_qlt hu) (qv 4) (qe_callB call_qlen T.m_len (by rfl) (qa_cons (qv 3) qa_nil)) (nomark _)) (qss_cons (qs_expr (qe_append (qv 2) (qe_tup (qa_cons (qv 3) (qa_cons (qe_op op_qadd (qv 4) qe_int) qa_nil)))))
  (qss_cons (qs_expr (qe_append (qv 1) (qe_ix hu (qe_ix hu (qv 3) (qv 4)) qe_int)))
  (qss_one (qs_expr (qe_append (qv 2) (qe_tup (qa_cons (qe_ix hu (qe_ix hu (qv 3) (qv 4)) qe_int) (qa_cons qe_int qa_nil)))))))) (qss_one (qs_if (qt_cmp op_qgt (qe_callB call_qlen T.m_len (by rfl) (qa_cons (qv 2) qa_nil)) qe_int (nomark _)) (qss_one (qs_expr (qe_append (qv 1) (qe_globS T.c_END)))) qss_nil))))))
  (qss_one (qs_ret (qv 1))))))
abbrev s_size : Stmt := (top 3)
abbrev n_size : List Str := ["grove"]
theorem sc_size : FnScope n_size ["grove"] (defScope s_size) := ⟨rfl, rfl, rfl, by decide +kernel, rfl, by decide +kernel, by decide +kernel⟩
theorem st_size {d0 : D} : startD n_size [d0] = [some d0] := rfl
def t_size  : QTS :=
  (qRet (qOp qFdiv (qCB qLen (qCons (qCall sp_words_of (qCons (qVar 0) qNil)) qNil)) (qC (.int 2))))
theorem b_size {G : En} {mg : Str → Option Value} {base : Heap} {k : Nat}  (T : Txt G mg) (h_words_of : Cal G mg base k "words_of" sp_words_of) : DBody G mg base n_size "size" s_size k (t_size ) := fun f cdv A outer s H E hr tk po =>
  have hu := hr.units
  (qss_one (qs_ret (qe_op op_qfdiv (qe_callB call_qlen T.m_len (by rfl) (qa_cons (qe_call tk h_words_of hr (qa_cons (qv 0) qa_nil)) qa_nil)) qe_int)))
abbrev s_distance : Stmt := (top 5)
abbrev n_distance : List Str := ["one", "other", "puts", "tree", "line", "many", "tag", "kids", "cut", "below", "k", "kept"]
theorem sc_distance : FnScope n_distance ["one", "other"] (defScope s_distance) := ⟨rfl, rfl, rfl, by decide +kernel, rfl, by decide +kernel, by decide +kernel⟩
theorem st_distance {d0 d1 : D} : startD n_distance [d0, d1] = [some d0, some d1, none, none, none, none, none, none, none, none, none, none] := rfl
def t_distance (n : Nat) : QTS :=
  (qSeq (qAsg (qLc (qiVal (qVar 1)) (qgName 3) qYes (qCall sp_size (qCons (qTup (qCons (qVar 3) qNil)) qNil)) [3]) (qgName 2))
  (qSeq (qAsg (qLst (qCons (qC (.int 0)) qNil)) (qgName 4))
  (qSeq (qFor (qiVal (qVar 2)) (qgName 5) (qDrop (qBM "list" qAppend (qVar 4) (qCons (qOp qAdd (qOp qIx (qVar 4) (qUn qNeg (qC (.int 1)))) (qVar 5)) qNil))))
  (qSeq (qFor (qiVal (qVar 0)) (qgTup 2 (qgCons (qgName 6) (qgCons (qgName 7) qgNil))) (qSeq (qAsg (qOp qAdd (qC (.int 1)) (qCall sp_size (qCons (qVar 7) qNil))) (qgName 8))
  (qSeq (qAsg (qLst (qCons (qOp qAdd (qOp qIx (qVar 4) (qC (.int 0))) (qVar 8)) qNil)) (qgName 9))
  (qSeq (qFor (qiRng1 (qCons (qCB qLen (qCons (qVar 1) qNil)) qNil)) (qgName 10) (qSeq (qAsg (qOp qAdd (qOp qAdd (qOp qIx (qVar 4) (qVar 10)) (qCB qInt1 (qCons (qOp (qEq true) (qVar 6) (qOp qIx (qOp qIx (qVar 1) (qVar 10)) (qC (.int 0)))) qNil))) (qCall (sp_distance n) (qCons (qVar 7) (qCons (qOp qIx (qOp qIx (qVar 1) (qVar 10)) (qC (.int 1))) qNil)))) (qgName 11))
  (qDrop (qBM "list" qAppend (qVar 9) (qCons (qCB qMin3 (qCons (qVar 11) (qCons (qOp qAdd (qOp qIx (qVar 4) (qOp qAdd (qVar 10) (qC (.int 1)))) (qVar 8)) (qCons (qOp qAdd (qOp qIx (qVar 9) (qVar 10)) (qOp qIx (qVar 2) (qVar 10))) qNil)))) qNil)))))
  (qAsg (qVar 9) (qgName 4))))))
  (qRet (qOp qIx (qVar 4) (qUn qNeg (qC (.int 1)))))))))
theorem b_distance {G : En} {mg : Str → Option Value} {base : Heap} {k : Nat} (n : Nat) (T : Txt G mg) (h_size : Cal G mg base k "size" sp_size) (h_distance : Cal G mg base k "distance" (sp_distance n)) : DBody G mg base n_distance "distance" s_distance k (t_distance n) := fun f cdv A outer s H E hr tk po =>
  have hu := hr.units
  (qss_cons (qs_setLc (i := 2) rfl sc_distance.nd (qi_val (qv 1)) (blkOk_by (own := [("tree", 3)]) (by kernel_rfl)) (fun _ _ _ _ _ => (qgw_name (i := 3) sc_distance.nd)) (fun _ _ _ _ _ => qts_nil) (fun _ _ _ _ _ => (qe_call takes0 h_size hr (qa_cons (qe_tup (qa_cons (qv 3) qa_nil)) qa_nil))) (sw_true rfl rfl rfl (by kernel_rfl)))
  (qss_cons (qs_set (i := 4) sc_distance.nd (qe_lst (qa_cons qe_int qa_nil)))
  (qss_cons (qs_for po rfl (qi_val (qv 2)) (qg_name (i := 5) sc_distance.nd) (qss_one (qs_expr (qe_append (qv 4) (qe_op op_qadd (qe_ix hu (qv 4) (qe_un un_qneg qe_int)) (qv 5))))))
  (qss_cons (qs_for po rfl (qi_val (qv 0)) (qg_tup rfl (qgs_cons (qg_name (i := 6) sc_distance.nd) (qgs_cons (qg_name (i := 7) sc_distance.nd) qgs_nil))) (qss_cons (qs_set (i := 8) sc_distance.nd (qe_op op_qadd qe_int (qe_call tk h_size hr (qa_cons (qv 7) qa_nil))))
  (qss_cons (qs_set (i := 9) sc_distance.nd (qe_lst (qa_cons (qe_op op_qadd (qe_ix hu (qv 4) qe_int) (qv 8)) qa_nil)))
  (qss_cons (qs_for po rfl (qi_range1 T.m_range (qa_cons (qe_callB call_qlen T.m_len (by rfl) (qa_cons (qv 1) qa_nil)) qa_nil)) (qg_name (i := 10) sc_distance.nd) (qss_cons (qs_set (i := 11) sc_distance.nd (qe_op op_qadd (qe_op op_qadd (qe_ix hu (qv 4) (qv 10)) (qe_callTy call_qint T.m_int (by rfl) (qa_cons (qe_cmp (op_qne hu) (qv 6) (qe_ix hu (qe_ix hu (qv 1) (qv 10)) qe_int) (nomark _)) qa_nil))) (qe_call tk h_distance hr (qa_cons (qv 7) (qa_cons (qe_ix hu (qe_ix hu (qv 1) (qv 10)) qe_int) qa_nil)))))
  (qss_one (qs_expr (qe_append (qv 9) (qe_callB (call_qmin3 rfl) T.m_min (by rfl) (qa_cons (qv 11) (qa_cons (qe_op op_qadd (qe_ix hu (qv 4) (qe_op op_qadd (qv 10) qe_int)) (qv 8)) (qa_cons (qe_op op_qadd (qe_ix hu (qv 9) (qv 10)) (qe_ix hu (qv 2) (qv 10))) qa_nil)))))))))
  (qss_one (qs_set (i := 4) sc_distance.nd (qv 9)))))))
  (qss_one (qs_ret (qe_ix hu (qv 4) (qe_un un_qneg qe_int))))))))
abbrev s__law_cell_at : Stmt := (top 7)
abbrev n__law_cell_at : List Str := ["_law_script", "_law_k"]
theorem sc__law_cell_at : FnScope n__law_cell_at ["_law_script", "_law_k"] (defScope s__law_cell_at) := ⟨rfl, rfl, rfl, by decide +kernel, rfl, by decide +kernel, by decide +kernel⟩
theorem st__law_cell_at {d0 d1 : D} : startD n__law_cell_at [d0, d1] = [some d0, some d1] := rfl
def t__law_cell_at  : QTS :=
  (qSeq (qIfS (qTest (qOp qLt (qVar 1) (qCB qLen (qCons (qVar 0) qNil)))) (qRet (qOp qIx (qVar 0) (qVar 1))) qNext)
  (qRet (qC (.int 0))))
theorem b__law_cell_at {G : En} {mg : Str → Option Value} {base : Heap} {k : Nat}  (T : Txt G mg) : DBody G mg base n__law_cell_at "_law_cell_at" s__law_cell_at k (t__law_cell_at ) := fun f cdv A outer s H E hr tk po =>
  have hu := hr.units
  (qss_cons (qs_if (qt_cmp (op_qlt hu) (qv 1) (qe_callB call_qlen T.m_len (by rfl) (qa_cons (qv 0) qa_nil)) (nomark _)) (qss_one (qs_ret (qe_ix hu (qv 0) (qv 1)))) qss_nil)
  (qss_one (qs_ret qe_int)))
abbrev s__law_word : Stmt := (top 8)
abbrev n__law_word : List Str := ["_law_cell", "_law_word_here", "_law_k", "_law_number"]
theorem sc__law_word : FnScope n__law_word ["_law_cell"] (defScope s__law_word) := ⟨rfl, rfl, rfl, by decide +kernel, rfl, by decide +kernel, by decide +kernel⟩
theorem st__law_word {d0 : D} : startD n__law_word [d0] = [some d0, none, none, none] := rfl
def t__law_word  : QTS :=
  (qSeq (qAsg (qC (.str "")) (qgName 1))
  (qSeq (qFor (qiRng1 (qCons (qOp qAdd (qC (.int 1)) (qOp qMod (qVar 0) (qC (.int 8)))) qNil)) (qgName 2) (qSeq (qAsg (qOp qAdd (qOp qMul (qOp qFdiv (qOp qFdiv (qVar 0) (qC (.int 8))) (qOp qAdd (qVar 2) (qC (.int 1)))) (qC (.int 48271))) (qOp qMul (qC (.int 31)) (qVar 2))) (qgName 3))
  (qAsg (qOp qAdd (qVar 1) (qOp qIx (qC (.str "abcdefghijklmnopqrstuvwxyz")) (qOp qMod (qOp qMod (qVar 3) (qC (.int 65537))) (qC (.int 26))))) (qgName 1))))
  (qRet (qVar 1))))
theorem b__law_word {G : En} {mg : Str → Option Value} {base : Heap} {k : Nat}  (T : Txt G mg) : DBody G mg base n__law_word "_law_word" s__law_word k (t__law_word ) := fun f cdv A outer s H E hr tk po =>
  have hu := hr.units
  (qss_cons (qs_set (i := 1) sc__law_word.nd qe_str)
  (qss_cons (qs_for po rfl (qi_range1 T.m_range (qa_cons (qe_op op_qadd qe_int (qe_op op_qmod (qv 0) qe_int)) qa_nil)) (qg_name (i := 2) sc__law_word.nd) (qss_cons (qs_set (i := 3) sc__law_word.nd (qe_op op_qadd (qe_op op_qmul (qe_op op_qfdiv (qe_op op_qfdiv (qv 0) qe_int) (qe_op op_qadd (qv 2) qe_int)) qe_int) (qe_op op_qmul qe_int (qv 2))))
  (qss_one (qs_set (i := 1) sc__law_word.nd (qe_op op_qadd (qv 1) (qe_ix hu qe_str (qe_op op_qmod (qe_op op_qmod (qv 3) qe_int) qe_int)))))))
  (qss_one (qs_ret (qv 1)))))
abbrev s__law_pool : Stmt := (top 9)
abbrev n__law_pool : List Str := ["_law_cell", "_law_many", "_law_base", "_law_at", "_law_letters", "_law_k"]
theorem sc__law_pool : FnScope n__law_pool ["_law_cell", "_law_many"] (defScope s__law_pool) := ⟨rfl, rfl, rfl, by decide +kernel, rfl, by decide +kernel, by decide +kernel⟩
theorem st__law_pool {d0 d1 : D} : startD n__law_pool [d0, d1] = [some d0, some d1, none, none, none, none] := rfl
def t__law_pool  : QTS :=
  (qSeq (qAsg (qCall sp__law_word (qCons (qVar 0) qNil)) (qgName 2))
  (qSeq (qAsg (qOp qMod (qOp qFdiv (qVar 0) (qC (.int 64))) (qCB qLen (qCons (qVar 2) qNil))) (qgName 3))
  (qSeq (qAsg (qC (.str "abcdefghijklmnopqrstuvwxyz")) (qgName 4))
  (qRet (qLc (qiRng1 (qCons (qVar 1) qNil)) (qgName 5) qYes (qOp qAdd (qOp qAdd (qSl (qVar 2) qNoPart (qPart (qVar 3))) (qOp qIx (qVar 4) (qOp qMod (qOp qAdd (qOp qFdiv (qVar 0) (qC (.int 512))) (qOp qMul (qC (.int 5)) (qVar 5))) (qC (.int 26))))) (qSl (qVar 2) (qPart (qOp qAdd (qVar 3) (qC (.int 1)))) qNoPart)) [5])))))
theorem b__law_pool {G : En} {mg : Str → Option Value} {base : Heap} {k : Nat}  (T : Txt G mg) (h__law_word : Cal G mg base k "_law_word" sp__law_word) : DBody G mg base n__law_pool "_law_pool" s__law_pool k (t__law_pool ) := fun f cdv A outer s H E hr tk po =>
  have hu := hr.units
  (qss_cons (qs_set (i := 2) sc__law_pool.nd (qe_call tk h__law_word hr (qa_cons (qv 0) qa_nil)))
  (qss_cons (qs_set (i := 3) sc__law_pool.nd (qe_op op_qmod (qe_op op_qfdiv (qv 0) qe_int) (qe_callB call_qlen T.m_len (by rfl) (qa_cons (qv 2) qa_nil))))
  (qss_cons (qs_set (i := 4) sc__law_pool.nd qe_str)
  (qss_one (qs_ret (qe_lc rfl sc__law_pool.nd (qi_range1 T.m_range (qa_cons (qv 1) qa_nil)) (blkOk_by (own := [("_law_k", 5)]) (by kernel_rfl)) (fun _ _ _ _ _ => (qgw_name (i := 5) sc__law_pool.nd)) (fun _ _ _ _ _ => qts_nil) (fun _ _ _ _ _ => (qe_op op_qadd (qe_op op_qadd (qe_slice (qv 2) qo_none (qo_some (qv 3))) (qe_ix hu (qv 4) (qe_op op_qmod (qe_op op_qadd (qe_op op_qfdiv (qv 0) qe_int) (qe_op op_qmul qe_int (qv 5))) qe_int))) (qe_slice (qv 2) (qo_some (qe_op op_qadd (qv 3) qe_int)) qo_none)))))))))
abbrev s__law_grove : Stmt := (top 10)
abbrev n__law_grove : List Str := ["_law_script", "_law_start", "_law_many", "_law_tags", "_law_rows", "_law_opened", "_law_k", "_law_cell", "_law_number", "_law_j", "_law_kidrow"]
theorem sc__law_grove : FnScope n__law_grove ["_law_script", "_law_start", "_law_many", "_law_tags"] (defScope s__law_grove) := ⟨rfl, rfl, rfl, by decide +kernel, rfl, by decide +kernel, by decide +kernel⟩
theorem st__law_grove {d0 d1 d2 d3 : D} : startD n__law_grove [d0, d1, d2, d3] = [some d0, some d1, some d2, some d3, none, none, none, none, none, none, none] := rfl
def t__law_grove  : QTS :=
  (qSeq (qAsg (qLst (qCons (qLst qNil) qNil)) (qgName 4))
  (qSeq (qAsg (qLst qNil) (qgName 5))
  (qSeq (qFor (qiRng1 (qCons (qVar 2) qNil)) (qgName 6) (qSeq (qAsg (qCall sp__law_cell_at (qCons (qVar 0) (qCons (qOp qAdd (qVar 1) (qOp qMod (qVar 6) (qCB qMax2 (qCons (qC (.int 1)) (qCons (qOp qSub (qCB qLen (qCons (qVar 0) qNil)) (qVar 1)) qNil))))) qNil))) (qgName 7))
  (qSeq (qAsg (qOp qMod (qOp qAdd (qOp qMul (qVar 7) (qC (.int 48271))) (qOp qMul (qOp qMul (qVar 6) (qVar 6)) (qC (.int 69621)))) (qC (.int 1000003))) (qgName 8))
  (qSeq (qFor (qiRng1 (qCons (qCB qMin2 (qCons (qCB qLen (qCons (qVar 5) qNil)) (qCons (qOp qMod (qVar 8) (qC (.int 4))) qNil))) qNil)) (qgName 9) (qSeq (qAsg (qCB qTupOf (qCons (qBM "list" qPop (qVar 4) qNil) qNil)) (qgName 10))
  (qDrop (qBM "list" qAppend (qOp qIx (qVar 4) (qUn qNeg (qC (.int 1)))) (qCons (qTup (qCons (qBM "list" qPop (qVar 5) qNil) (qCons (qVar 10) qNil))) qNil)))))
  (qSeq (qDrop (qBM "list" qAppend (qVar 5) (qCons (qOp qIx (qVar 3) (qOp qMod (qOp qFdiv (qVar 8) (qC (.int 4))) (qCB qLen (qCons (qVar 3) qNil)))) qNil)))
  (qDrop (qBM "list" qAppend (qVar 4) (qCons (qLst qNil) qNil))))))))
  (qSeq (qWhile (qTest (qOp qGt (qCB qLen (qCons (qVar 5) qNil)) (qC (.int 0)))) (qSeq (qAsg (qCB qTupOf (qCons (qBM "list" qPop (qVar 4) qNil) qNil)) (qgName 10))
  (qDrop (qBM "list" qAppend (qOp qIx (qVar 4) (qUn qNeg (qC (.int 1)))) (qCons (qTup (qCons (qBM "list" qPop (qVar 5) qNil) (qCons (qVar 10) qNil))) qNil)))))
  (qRet (qCB qTupOf (qCons (qOp qIx (qVar 4) (qC (.int 0))) qNil)))))))
theorem b__law_grove {G : En} {mg : Str → Option Value} {base : Heap} {k : Nat}  (T : Txt G mg) (h__law_cell_at : Cal G mg base k "_law_cell_at" sp__law_cell_at) : DBody G mg base n__law_grove "_law_grove" s__law_grove k (t__law_grove ) := fun f cdv A outer s H E hr tk po =>
  have hu := hr.units
  (qss_cons (qs_set (i := 4) sc__law_grove.nd (qe_lst (qa_cons (qe_lst qa_nil) qa_nil)))
  (qss_cons (qs_set (i := 5) sc__law_grove.nd (qe_lst qa_nil))
  (qss_cons (qs_for po rfl (qi_range1 T.m_range (qa_cons (qv 2) qa_nil)) (qg_name (i := 6) sc__law_grove.nd) (qss_cons (qs_set (i := 7) sc__law_grove.nd (qe_call tk h__law_cell_at hr (qa_cons (qv 0) (qa_cons (qe_op op_qadd (qv 1) (qe_op op_qmod (qv 6) (qe_callB (call_qmax2 rfl) T.m_max (by rfl) (qa_cons qe_int (qa_cons (qe_op op_qsub (qe_callB call_qlen T.m_len (by rfl) (qa_cons (qv 0) qa_nil)) (qv 1)) qa_nil))))) qa_nil))))
  (qss_cons (qs_set (i := 8) sc__law_grove.nd (qe_op op_qmod (qe_op op_qadd (qe_op op_qmul (qv 7) qe_int) (qe_op op_qmul (qe_op op_qmul (qv 6) (qv 6)) qe_int)) qe_int))
  (qss_cons (qs_for po rfl (qi_range1 T.m_range (qa_cons (qe_callB (call_qmin2 rfl) T.m_min (by rfl) (qa_cons (qe_callB call_qlen T.m_len (by rfl) (qa_cons (qv 5) qa_nil)) (qa_cons (qe_op op_qmod (qv 8) qe_int) qa_nil))) qa_nil)) (qg_name (i := 9) sc__law_grove.nd) (qss_cons (qs_set (i := 10) sc__law_grove.nd (qe_callTy call_qtuple T.m_tuple (by rfl) (qa_cons (qe_pop (qv 4)) qa_nil)))
  (qss_one (qs_expr (qe_append (qe_ix hu (qv 4) (qe_un un_qneg qe_int)) (qe_tup (qa_cons (qe_pop (qv 5)) (qa_cons (qv 10) qa_nil))))))))
  (qss_cons (qs_expr (qe_append (qv 5) (qe_ix hu (qv 3) (qe_op op_qmod (qe_op op_qfdiv (qv 8) qe_int) (qe_callB call_qlen T.m_len (by rfl) (qa_cons (qv 3) qa_nil))))))
  (qss_one (qs_expr (qe_append (qv 4) (qe_lst qa_nil)))))))))
  (qss_cons (qs_while po (qt_cmp op_qgt (qe_callB call_qlen T.m_len (by rfl) (qa_cons (qv 5) qa_nil)) qe_int (nomark _)) (qss_cons (qs_set (i := 10) sc__law_grove.nd (qe_callTy call_qtuple T.m_tuple (by rfl) (qa_cons (qe_pop (qv 4)) qa_nil)))
  (qss_one (qs_expr (qe_append (qe_ix hu (qv 4) (qe_un un_qneg qe_int)) (qe_tup (qa_cons (qe_pop (qv 5)) (qa_cons (qv 10) qa_nil))))))))
  (qss_one (qs_ret (qe_callTy call_qtuple T.m_tuple (by rfl) (qa_cons (qe_ix hu (qv 4) qe_int) qa_nil))))))))
abbrev s__law_size : Stmt := (top 11)
abbrev n__law_size : List Str := ["_law_row", "_law_tag", "_law_kidrow"]
theorem sc__law_size : FnScope n__law_size ["_law_row"] (defScope s__law_size) := ⟨rfl, rfl, rfl, by decide +kernel, rfl, by decide +kernel, by decide +kernel⟩
theorem st__law_size {d0 : D} : startD n__law_size [d0] = [some d0, none, none] := rfl
def t__law_size (n : Nat) : QTS :=
  (qRet (qCB qSum (qCons (qLc (qiVal (qVar 0)) (qgTup 2 (qgCons (qgName 1) (qgCons (qgName 2) qgNil))) qYes (qOp qAdd (qC (.int 1)) (qCall (sp__law_size n) (qCons (qVar 2) qNil))) [1, 2]) qNil)))
theorem b__law_size {G : En} {mg : Str → Option Value} {base : Heap} {k : Nat} (n : Nat) (T : Txt G mg) (h__law_size : Cal G mg base k "_law_size" (sp__law_size n)) : DBody G mg base n__law_size "_law_size" s__law_size k (t__law_size n) := fun f cdv A outer s H E hr tk po =>
  have hu := hr.units
  (qss_one (qs_ret (qe_callB (call_qsum rfl) T.m_sum (by rfl) (qa_cons (qe_lc rfl sc__law_size.nd (qi_val (qv 0)) (blkOk_by (own := [("_law_tag", 1), ("_law_kidrow", 2)]) (by kernel_rfl)) (fun _ _ _ _ _ => (qgw_tup rfl (qgsw_cons (qgw_name (i := 1) sc__law_size.nd) (qgsw_cons (qgw_name (i := 2) sc__law_size.nd) qgsw_nil)))) (fun _ _ _ _ _ => qts_nil) (fun _ _ _ _ _ => (qe_op op_qadd qe_int (qe_call takes0 h__law_size hr (qa_cons (qv 2) qa_nil))))) qa_nil))))
abbrev s__law_far : Stmt := (top 12)
abbrev n__law_far : List Str := ["_law_kept", "_law_one", "_law_other", "_law_key", "_law_cut", "_law_put", "_law_stay"]
theorem sc__law_far : FnScope n__law_far ["_law_kept", "_law_one", "_law_other"] (defScope s__law_far) := ⟨rfl, rfl, rfl, by decide +kernel, rfl, by decide +kernel, by decide +kernel⟩
theorem st__law_far {d0 d1 d2 : D} : startD n__law_far [d0, d1, d2] = [some d0, some d1, some d2, none, none, none, none] := rfl
def t__law_far (n : Nat) : QTS :=
  (qSeq (qIfS (qOr (qTest (qOp (qEq false) (qVar 1) (qTup qNil))) (qTest (qOp (qEq false) (qVar 2) (qTup qNil)))) (qRet (qOp qAdd (qCall (sp__law_size 25) (qCons (qVar 1) qNil)) (qCall (sp__law_size 25) (qCons (qVar 2) qNil)))) qNext)
  (qSeq (qAsg (qCB qStrT (qCons (qTup (qCons (qVar 1) (qCons (qVar 2) qNil))) qNil)) (qgName 3))
  (qSeq (qIfS (qTest (qOp (qIn true) (qVar 3) (qVar 0))) (qSeq (qAsg (qOp qAdd (qOp qAdd (qC (.int 1)) (qCall (sp__law_size 25) (qCons (qOp qIx (qOp qIx (qVar 1) (qC (.int 0))) (qC (.int 1))) qNil))) (qCall (sp__law_far n) (qCons (qVar 0) (qCons (qSl (qVar 1) (qPart (qC (.int 1))) qNoPart) (qCons (qVar 2) qNil))))) (qgName 4))
  (qSeq (qAsg (qOp qAdd (qOp qAdd (qC (.int 1)) (qCall (sp__law_size 25) (qCons (qOp qIx (qOp qIx (qVar 2) (qC (.int 0))) (qC (.int 1))) qNil))) (qCall (sp__law_far n) (qCons (qVar 0) (qCons (qVar 1) (qCons (qSl (qVar 2) (qPart (qC (.int 1))) qNoPart) qNil))))) (qgName 5))
  (qSeq (qAsg (qOp qAdd (qCall (sp__law_far n) (qCons (qVar 0) (qCons (qOp qIx (qOp qIx (qVar 1) (qC (.int 0))) (qC (.int 1))) (qCons (qOp qIx (qOp qIx (qVar 2) (qC (.int 0))) (qC (.int 1))) qNil)))) (qCall (sp__law_far n) (qCons (qVar 0) (qCons (qSl (qVar 1) (qPart (qC (.int 1))) qNoPart) (qCons (qSl (qVar 2) (qPart (qC (.int 1))) qNoPart) qNil))))) (qgName 6))
  (qAsg (qCB qMin3 (qCons (qVar 4) (qCons (qVar 5) (qCons (qOp qAdd (qVar 6) (qCB qInt1 (qCons (qOp (qEq true) (qOp qIx (qOp qIx (qVar 1) (qC (.int 0))) (qC (.int 0))) (qOp qIx (qOp qIx (qVar 2) (qC (.int 0))) (qC (.int 0)))) qNil))) qNil)))) (qgSub (qVar 0) (qVar 3) qSet))))) qNext)
  (qRet (qOp qIx (qVar 0) (qVar 3))))))
theorem b__law_far {G : En} {mg : Str → Option Value} {base : Heap} {k : Nat} (n : Nat) (T : Txt G mg) (h__law_size : Cal G mg base k "_law_size" (sp__law_size 25)) (h__law_far : CalG G mg base k "_law_far" (sp__law_far n)) : DBodyG G mg base n__law_far "_law_far" s__law_far k (t__law_far n) := fun f cdv A outer s H E hgd hr tk po =>
  have hu := hr.units
  (qss_cons (qs_if (qt_w (qw_or (qt_cmp (op_qeq hu) (qv 1) (qe_tup qa_nil) (nomark _)) (qw_or1 (qt_cmp (op_qeq hu) (qv 2) (qe_tup qa_nil) (nomark _))))) (qss_one (qs_ret (qe_op op_qadd (qe_call tk h__law_size hr (qa_cons (qv 1) qa_nil)) (qe_call tk h__law_size hr (qa_cons (qv 2) qa_nil))))) qss_nil)
  (qss_cons (qs_set (i := 3) sc__law_far.nd (qe_callTy (call_qstrT hgd hu) T.m_str (by rfl) (qa_cons (qe_tup (qa_cons (qv 1) (qa_cons (qv 2) qa_nil))) qa_nil)))
  (qss_cons (qs_if (qt_cmp (op_qnotin hu) (qv 3) (qv 0) rfl) (qss_cons (qs_set (i := 4) sc__law_far.nd (qe_op op_qadd (qe_op op_qadd qe_int (qe_call tk h__law_size hr (qa_cons (qe_ix hu (qe_ix hu (qv 1) qe_int) qe_int) qa_nil))) (qe_callG hgd tk h__law_far hr (qa_cons (qv 0) (qa_cons (qe_slice (qv 1) (qo_some qe_int) qo_none) (qa_cons (qv 2) qa_nil))))))
  (qss_cons (qs_set (i := 5) sc__law_far.nd (qe_op op_qadd (qe_op op_qadd qe_int (qe_call tk h__law_size hr (qa_cons (qe_ix hu (qe_ix hu (qv 2) qe_int) qe_int) qa_nil))) (qe_callG hgd tk h__law_far hr (qa_cons (qv 0) (qa_cons (qv 1) (qa_cons (qe_slice (qv 2) (qo_some qe_int) qo_none) qa_nil))))))
  (qss_cons (qs_set (i := 6) sc__law_far.nd (qe_op op_qadd (qe_callG hgd tk h__law_far hr (qa_cons (qv 0) (qa_cons (qe_ix hu (qe_ix hu (qv 1) qe_int) qe_int) (qa_cons (qe_ix hu (qe_ix hu (qv 2) qe_int) qe_int) qa_nil)))) (qe_callG hgd tk h__law_far hr (qa_cons (qv 0) (qa_cons (qe_slice (qv 1) (qo_some qe_int) qo_none) (qa_cons (qe_slice (qv 2) (qo_some qe_int) qo_none) qa_nil))))))
  (qss_one (qs_asg (qe_callB (call_qmin3 rfl) T.m_min (by rfl) (qa_cons (qv 4) (qa_cons (qv 5) (qa_cons (qe_op op_qadd (qv 6) (qe_callTy call_qint T.m_int (by rfl) (qa_cons (qe_cmp (op_qne hu) (qe_ix hu (qe_ix hu (qv 1) qe_int) qe_int) (qe_ix hu (qe_ix hu (qv 2) qe_int) qe_int) (nomark _)) qa_nil))) qa_nil)))) (qg_sub (W := W0) (qv 0) (qv 3) (set_q hu))))))) qss_nil)
  (qss_one (qs_ret (qe_ix hu (qv 0) (qv 3)))))))
abbrev s__law_flat_far : Stmt := (top 13)
abbrev n__law_flat_far : List Str := ["_law_one", "_law_other", "_law_line", "_law_k", "_law_below", "_law_j"]
theorem sc__law_flat_far : FnScope n__law_flat_far ["_law_one", "_law_other"] (defScope s__law_flat_far) := ⟨rfl, rfl, rfl, by decide +kernel, rfl, by decide +kernel, by decide +kernel⟩
theorem st__law_flat_far {d0 d1 : D} : startD n__law_flat_far [d0, d1] = [some d0, some d1, none, none, none, none] := rfl
def t__law_flat_far  : QTS :=
  (qSeq (qAsg (qLRng (qOp qAdd (qCB qLen (qCons (qVar 1) qNil)) (qC (.int 1)))) (qgName 2))
  (qSeq (qFor (qiRng1 (qCons (qCB qLen (qCons (qVar 0) qNil)) qNil)) (qgName 3) (qSeq (qAsg (qLst (qCons (qOp qAdd (qVar 3) (qC (.int 1))) qNil)) (qgName 4))
  (qSeq (qFor (qiRng1 (qCons (qCB qLen (qCons (qVar 1) qNil)) qNil)) (qgName 5) (qDrop (qBM "list" qAppend (qVar 4) (qCons (qCB qMin3 (qCons (qOp qAdd (qOp qIx (qVar 2) (qVar 5)) (qCB qInt1 (qCons (qOp (qEq true) (qOp qIx (qVar 0) (qVar 3)) (qOp qIx (qVar 1) (qVar 5))) qNil))) (qCons (qOp qAdd (qOp qIx (qVar 2) (qOp qAdd (qVar 5) (qC (.int 1)))) (qC (.int 1))) (qCons (qOp qAdd (qOp qIx (qVar 4) (qVar 5)) (qC (.int 1))) qNil)))) qNil))))
  (qAsg (qVar 4) (qgName 2)))))
  (qRet (qOp qIx (qVar 2) (qUn qNeg (qC (.int 1)))))))
theorem b__law_flat_far {G : En} {mg : Str → Option Value} {base : Heap} {k : Nat}  (T : Txt G mg) : DBody G mg base n__law_flat_far "_law_flat_far" s__law_flat_far k (t__law_flat_far ) := fun f cdv A outer s H E hr tk po =>
  have hu := hr.units
  (qss_cons (qs_set (i := 2) sc__law_flat_far.nd (qe_listRange rfl T.m_list T.m_range (qe_op op_qadd (qe_callB call_qlen T.m_len (by rfl) (qa_cons (qv 1) qa_nil)) qe_int)))
  (qss_cons (qs_for po rfl (qi_range1 T.m_range (qa_cons (qe_callB call_qlen T.m_len (by rfl) (qa_cons (qv 0) qa_nil)) qa_nil)) (qg_name (i := 3) sc__law_flat_far.nd) (qss_cons (qs_set (i := 4) sc__law_flat_far.nd (qe_lst (qa_cons (qe_op op_qadd (qv 3) qe_int) qa_nil)))
  (qss_cons (qs_for po rfl (qi_range1 T.m_range (qa_cons (qe_callB call_qlen T.m_len (by rfl) (qa_cons (qv 1) qa_nil)) qa_nil)) (qg_name (i := 5) sc__law_flat_far.nd) (qss_one (qs_expr (qe_append (qv 4) (qe_callB (call_qmin3 rfl) T.m_min (by rfl) (qa_cons (qe_op op_qadd (qe_ix hu (qv 2) (qv 5)) (qe_callTy call_qint T.m_int (by rfl) (qa_cons (qe_cmp (op_qne hu) (qe_ix hu (qv 0) (qv 3)) (qe_ix hu (qv 1) (qv 5)) (nomark _)) qa_nil))) (qa_cons (qe_op op_qadd (qe_ix hu (qv 2) (qe_op op_qadd (qv 5) qe_int)) qe_int) (qa_cons (qe_op op_qadd (qe_ix hu (qv 4) (qv 5)) qe_int) qa_nil))))))))
  (qss_one (qs_set (i := 2) sc__law_flat_far.nd (qv 4))))))
  (qss_one (qs_ret (qe_ix hu (qv 2) (qe_un un_qneg qe_int))))))
abbrev s__law_like : Stmt := (top 14)
abbrev n__law_like : List Str := ["_law_one", "_law_cell", "_law_tags", "_law_at"]
theorem sc__law_like : FnScope n__law_like ["_law_one", "_law_cell", "_law_tags"] (defScope s__law_like) := ⟨rfl, rfl, rfl, by decide +kernel, rfl, by decide +kernel, by decide +kernel⟩
theorem st__law_like {d0 d1 d2 : D} : startD n__law_like [d0, d1, d2] = [some d0, some d1, some d2, none] := rfl
def t__law_like  : QTS :=
  (qSeq (qAsg (qOp qMod (qOp qFdiv (qVar 1) (qC (.int 4))) (qOp qAdd (qCB qLen (qCons (qVar 0) qNil)) (qC (.int 1)))) (qgName 3))
  (qSeq (qIfS (qOr (qTest (qOp (qEq false) (qOp qMod (qVar 1) (qC (.int 4))) (qC (.int 0)))) (qTest (qOp (qEq false) (qVar 0) (qTup qNil)))) (qRet (qOp qAdd (qOp qAdd (qSl (qVar 0) qNoPart (qPart (qVar 3))) (qTup (qCons (qTup (qCons (qOp qIx (qVar 2) (qOp qMod (qOp qFdiv (qVar 1) (qC (.int 64))) (qC (.int 4)))) (qCons (qTup qNil) qNil))) qNil))) (qSl (qVar 0) (qPart (qVar 3)) qNoPart))) qNext)
  (qSeq (qAsg (qOp qMod (qOp qFdiv (qVar 1) (qC (.int 4))) (qCB qLen (qCons (qVar 0) qNil))) (qgName 3))
  (qSeq (qIfS (qTest (qOp (qEq false) (qOp qMod (qVar 1) (qC (.int 4))) (qC (.int 1)))) (qRet (qOp qAdd (qSl (qVar 0) qNoPart (qPart (qVar 3))) (qSl (qVar 0) (qPart (qOp qAdd (qVar 3) (qC (.int 1)))) qNoPart))) qNext)
  (qSeq (qIfS (qTest (qOp (qEq false) (qOp qMod (qVar 1) (qC (.int 4))) (qC (.int 2)))) (qRet (qOp qAdd (qOp qAdd (qSl (qVar 0) qNoPart (qPart (qVar 3))) (qTup (qCons (qTup (qCons (qOp qIx (qVar 2) (qOp qMod (qOp qFdiv (qVar 1) (qC (.int 64))) (qC (.int 4)))) (qCons (qOp qIx (qOp qIx (qVar 0) (qVar 3)) (qC (.int 1))) qNil))) qNil))) (qSl (qVar 0) (qPart (qOp qAdd (qVar 3) (qC (.int 1)))) qNoPart))) qNext)
  (qRet (qOp qAdd (qTup (qCons (qTup (qCons (qOp qIx (qVar 2) (qOp qMod (qOp qFdiv (qVar 1) (qC (.int 64))) (qC (.int 4)))) (qCons (qSl (qVar 0) qNoPart (qPart (qOp qAdd (qVar 3) (qC (.int 1))))) qNil))) qNil)) (qSl (qVar 0) (qPart (qOp qAdd (qVar 3) (qC (.int 1)))) qNoPart))))))))
theorem b__law_like {G : En} {mg : Str → Option Value} {base : Heap} {k : Nat}  (T : Txt G mg) : DBody G mg base n__law_like "_law_like" s__law_like k (t__law_like ) := fun f cdv A outer s H E hr tk po =>
  have hu := hr.units
  (qss_cons (qs_set (i := 3) sc__law_like.nd (qe_op op_qmod (qe_op op_qfdiv (qv 1) qe_int) (qe_op op_qadd (qe_callB call_qlen T.m_len (by rfl) (qa_cons (qv 0) qa_nil)) qe_int)))
  (qss_cons (qs_if (qt_w (qw_or (qt_cmp (op_qeq hu) (qe_op op_qmod (qv 1) qe_int) qe_int (nomark _)) (qw_or1 (qt_cmp (op_qeq hu) (qv 0) (qe_tup qa_nil) (nomark _))))) (qss_one (qs_ret (qe_op op_qadd (qe_op op_qadd (qe_slice (qv 0) qo_none (qo_some (qv 3))) (qe_tup (qa_cons (qe_tup (qa_cons (qe_ix hu (qv 2) (qe_op op_qmod (qe_op op_qfdiv (qv 1) qe_int) qe_int)) (qa_cons (qe_tup qa_nil) qa_nil))) qa_nil))) (qe_slice (qv 0) (qo_some (qv 3)) qo_none)))) qss_nil)
  (qss_cons (qs_set (i := 3) sc__law_like.nd (qe_op op_qmod (qe_op op_qfdiv (qv 1) qe_int) (qe_callB call_qlen T.m_len (by rfl) (qa_cons (qv 0) qa_nil))))
  (qss_cons (qs_if (qt_cmp (op_qeq hu) (qe_op op_qmod (qv 1) qe_int) qe_int (nomark _)) (qss_one (qs_ret (qe_op op_qadd (qe_slice (qv 0) qo_none (qo_some (qv 3))) (qe_slice (qv 0) (qo_some (qe_op op_qadd (qv 3) qe_int)) qo_none)))) qss_nil)
  (qss_cons (qs_if (qt_cmp (op_qeq hu) (qe_op op_qmod (qv 1) qe_int) qe_int (nomark _)) (qss_one (qs_ret (qe_op op_qadd (qe_op op_qadd (qe_slice (qv 0) qo_none (qo_some (qv 3))) (qe_tup (qa_cons (qe_tup (qa_cons (qe_ix hu (qv 2) (qe_op op_qmod (qe_op op_qfdiv (qv 1) qe_int) qe_int)) (qa_cons (qe_ix hu (qe_ix hu (qv 0) (qv 3)) qe_int) qa_nil))) qa_nil))) (qe_slice (qv 0) (qo_some (qe_op op_qadd (qv 3) qe_int)) qo_none)))) qss_nil)
  (qss_one (qs_ret (qe_op op_qadd (qe_tup (qa_cons (qe_tup (qa_cons (qe_ix hu (qv 2) (qe_op op_qmod (qe_op op_qfdiv (qv 1) qe_int) qe_int)) (qa_cons (qe_slice (qv 0) qo_none (qo_some (qe_op op_qadd (qv 3) qe_int))) qa_nil))) qa_nil)) (qe_slice (qv 0) (qo_some (qe_op op_qadd (qv 3) qe_int)) qo_none)))))))))
abbrev s__law_is : Stmt := (top 15)
abbrev n__law_is : List Str := ["_law_told", "_law_due"]
theorem sc__law_is : FnScope n__law_is ["_law_told", "_law_due"] (defScope s__law_is) := ⟨rfl, rfl, rfl, by decide +kernel, rfl, by decide +kernel, by decide +kernel⟩
theorem st__law_is {d0 d1 : D} : startD n__law_is [d0, d1] = [some d0, some d1] := rfl
def t__law_is (K : PySem.W.Frag)  : QTS :=
  (qRet (qAndV (qCB (qIsi K) (qCons (qVar 0) (qCons (qC (.ty "int")) qNil))) (qAndV (qNotV (qCB (qIsi K) (qCons (qVar 0) (qCons (qC (.ty "bool")) qNil)))) (qOp (qEq false) (qVar 0) (qVar 1)))))
theorem b__law_is {G : En} {mg : Str → Option Value} {base : Heap} {k : Nat}  (T : Txt G mg) : DBody G mg base n__law_is "_law_is" s__law_is k (t__law_is G.K ) := fun f cdv A outer s H E hr tk po =>
  have hu := hr.units
  (qss_one (qs_ret (qe_and (qe_isi T.m_isinstance (qv 0) (qe_ty T.m_int (by rfl))) (qe_and (qe_not (qe_isi T.m_isinstance (qv 0) (qe_ty T.m_bool (by rfl)))) (qe_one (qe_cmp (op_qeq hu) (qv 0) (qv 1) (nomark _)))))))
abbrev s_law : Stmt := (top 16)
abbrev n_law : List Str := ["_law_script", "_law_first", "_law_second", "_law_tags", "_law_one", "_law_k", "_law_other", "_law_due", "_law_tag", "_law_kidrow"]
theorem sc_law : FnScope n_law ["_law_script"] (defScope s_law) := ⟨rfl, rfl, rfl, by decide +kernel, rfl, by decide +kernel, by decide +kernel⟩
theorem st_law {d0 : D} : startD n_law [d0] = [some d0, none, none, none, none, none, none, none, none, none] := rfl
def t_law  : QTS :=
  (qSeq (qAsg (qCall sp__law_cell_at (qCons (qVar 0) (qCons (qC (.int 0)) qNil))) (qgName 1))
  (qSeq (qAsg (qCall sp__law_cell_at (qCons (qVar 0) (qCons (qC (.int 1)) qNil))) (qgName 2))
  (qSeq (qAsg (qCall sp__law_pool (qCons (qCall sp__law_cell_at (qCons (qVar 0) (qCons (qC (.int 2)) qNil))) (qCons (qC (.int 4)) qNil))) (qgName 3))
  (qSeq (qIfS (qTest (qOp (qEq false) (qOp qMod (qVar 1) (qC (.int 9))) (qC (.int 4)))) (qSeq (qAsg (qCB qTupOf (qCons (qLc (qiRng1 (qCons (qOp qMod (qOp qFdiv (qVar 1) (qC (.int 9))) (qC (.int 41))) qNil)) (qgName 5) qYes (qTup (qCons (qOp qIx (qVar 3) (qOp qMod (qOp qFdiv (qCall sp__law_cell_at (qCons (qVar 0) (qCons (qOp qAdd (qC (.int 3)) (qOp qMod (qVar 5) (qC (.int 60)))) qNil))) (qOp qAdd (qC (.int 1)) (qVar 5))) (qC (.int 4)))) (qCons (qTup qNil) qNil))) [5]) qNil)) (qgName 4))
  (qSeq (qAsg (qCB qTupOf (qCons (qLc (qiRng1 (qCons (qOp qMod (qVar 2) (qC (.int 41))) qNil)) (qgName 5) qYes (qTup (qCons (qOp qIx (qVar 3) (qOp qMod (qOp qFdiv (qCall sp__law_cell_at (qCons (qVar 0) (qCons (qOp qAdd (qC (.int 5)) (qOp qMod (qVar 5) (qC (.int 58)))) qNil))) (qOp qAdd (qC (.int 2)) (qVar 5))) (qC (.int 4)))) (qCons (qTup qNil) qNil))) [5]) qNil)) (qgName 6))
  (qAsg (qCall sp__law_flat_far (qCons (qLc (qiVal (qVar 4)) (qgTup 2 (qgCons (qgName 8) (qgCons (qgName 9) qgNil))) qYes (qVar 8) [8, 9]) (qCons (qLc (qiVal (qVar 6)) (qgTup 2 (qgCons (qgName 8) (qgCons (qgName 9) qgNil))) qYes (qVar 8) [8, 9]) qNil))) (qgName 7)))) (qSeq (qAsg (qCall sp__law_grove (qCons (qVar 0) (qCons (qC (.int 3)) (qCons (qOp qMod (qOp qFdiv (qVar 1) (qC (.int 9))) (qC (.int 8))) (qCons (qVar 3) qNil))))) (qgName 4))
  (qSeq (qAsg (qCall sp__law_grove (qCons (qVar 0) (qCons (qC (.int 10)) (qCons (qOp qMod (qVar 2) (qC (.int 8))) (qCons (qVar 3) qNil))))) (qgName 6))
  (qSeq (qIfS (qTest (qOp (qEq false) (qOp qMod (qVar 1) (qC (.int 9))) (qC (.int 5)))) (qSeq (qAsg (qCall sp__law_grove (qCons (qVar 0) (qCons (qC (.int 3)) (qCons (qOp qAdd (qC (.int 8)) (qOp qMod (qOp qFdiv (qVar 1) (qC (.int 9))) (qC (.int 8)))) (qCons (qVar 3) qNil))))) (qgName 4))
  (qAsg (qCall sp__law_grove (qCons (qVar 0) (qCons (qC (.int 19)) (qCons (qOp qAdd (qC (.int 8)) (qOp qMod (qVar 2) (qC (.int 8)))) (qCons (qVar 3) qNil))))) (qgName 6))) qNext)
  (qSeq (qIfS (qTest (qOp qGt (qOp qMod (qVar 1) (qC (.int 9))) (qC (.int 5)))) (qAsg (qCall sp__law_like (qCons (qVar 4) (qCons (qVar 2) (qCons (qVar 3) qNil)))) (qgName 6)) qNext)
  (qAsg (qCall (sp__law_far 45) (qCons qDNew (qCons (qVar 4) (qCons (qVar 6) qNil)))) (qgName 7)))))))
  (qSeq (qIfS (qOr (qNot (qTest (qCall sp__law_is (qCons (qCall (sp_distance 45) (qCons (qVar 4) (qCons (qVar 6) qNil))) (qCons (qVar 7) qNil))))) (qNot (qTest (qCall sp__law_is (qCons (qCall (sp_distance 45) (qCons (qVar 6) (qCons (qVar 4) qNil))) (qCons (qVar 7) qNil)))))) (qRet (qC (.bl false))) qNext)
  (qRet (qAndV (qCall sp__law_is (qCons (qCall (sp_distance 45) (qCons (qVar 4) (qCons (qVar 4) qNil))) (qCons (qC (.int 0)) qNil))) (qCall sp__law_is (qCons (qCall (sp_distance 45) (qCons (qVar 4) (qCons (qVar 6) qNil))) (qCons (qVar 7) qNil))))))))))
theorem b_law {G : En} {mg : Str → Option Value} {base : Heap} {k : Nat}  (T : Txt G mg) (h__law_cell_at : Cal G mg base k "_law_cell_at" sp__law_cell_at) (h__law_pool : Cal G mg base k "_law_pool" sp__law_pool) (h__law_flat_far : Cal G mg base k "_law_flat_far" sp__law_flat_far) (h__law_grove : Cal G mg base k "_law_grove" sp__law_grove) (h__law_like : Cal G mg base k "_law_like" sp__law_like) (h__law_far : CalG G mg base k "_law_far" (sp__law_far 45)) (h_distance : Cal G mg base k "distance" (sp_distance 45)) (h__law_is : Cal G mg base k "_law_is" sp__law_is) : DBodyG G mg base n_law "law" s_law k (t_law ) := fun f cdv A outer s H E hgd hr tk po =>
  have hu := hr.units
  (qss_cons (qs_set (i := 1) sc_law.nd (qe_call tk h__law_cell_at hr (qa_cons (qv 0) (qa_cons qe_int qa_nil))))
  (qss_cons (qs_set (i := 2) sc_law.nd (qe_call tk h__law_cell_at hr (qa_cons (qv 0) (qa_cons qe_int qa_nil))))
  (qss_cons (qs_set (i := 3) sc_law.nd (qe_call tk h__law_pool hr (qa_cons (qe_call tk h__law_cell_at hr (qa_cons (qv 0) (qa_cons qe_int qa_nil))) (qa_cons qe_int qa_nil))))
  (qss_cons (qs_if (qt_cmp (op_qeq hu) (qe_op op_qmod (qv 1) qe_int) qe_int (nomark _)) (qss_cons (qs_set (i := 4) sc_law.nd (qe_callTy call_qtuple T.m_tuple (by rfl) (qa_cons (qe_lc rfl sc_law.nd (qi_range1 T.m_range (qa_cons (qe_op op_qmod (qe_op op_qfdiv (qv 1) qe_int) qe_int) qa_nil)) (blkOk_by (own := [("_law_k", 5)]) (by kernel_rfl)) (fun _ _ _ _ _ => (qgw_name (i := 5) sc_law.nd)) (fun _ _ _ _ _ => qts_nil) (fun _ _ _ _ _ => (qe_tup (qa_cons (qe_ix hu (qv 3) (qe_op op_qmod (qe_op op_qfdiv (qe_call takes0 h__law_cell_at hr (qa_cons (qv 0) (qa_cons (qe_op op_qadd qe_int (qe_op op_qmod (qv 5) qe_int)) qa_nil))) (qe_op op_qadd qe_int (qv 5))) qe_int)) (qa_cons (qe_tup qa_nil) qa_nil))))) qa_nil)))
  (qss_cons (qs_set (i := 6) sc_law.nd (qe_callTy call_qtuple T.m_tuple (by rfl) (qa_cons (qe_lc rfl sc_law.nd (qi_range1 T.m_range (qa_cons (qe_op op_qmod (qv 2) qe_int) qa_nil)) (blkOk_by (own := [("_law_k", 5)]) (by kernel_rfl)) (fun _ _ _ _ _ => (qgw_name (i := 5) sc_law.nd)) (fun _ _ _ _ _ => qts_nil) (fun _ _ _ _ _ => (qe_tup (qa_cons (qe_ix hu (qv 3) (qe_op op_qmod (qe_op op_qfdiv (qe_call takes0 h__law_cell_at hr (qa_cons (qv 0) (qa_cons (qe_op op_qadd qe_int (qe_op op_qmod (qv 5) qe_int)) qa_nil))) (qe_op op_qadd qe_int (qv 5))) qe_int)) (qa_cons (qe_tup qa_nil) qa_nil))))) qa_nil)))
  (qss_one (qs_set (i := 7) sc_law.nd (qe_call tk h__law_flat_far hr (qa_cons (qe_lc rfl sc_law.nd (qi_val (qv 4)) (blkOk_by (own := [("_law_tag", 8), ("_law_kidrow", 9)]) (by kernel_rfl)) (fun _ _ _ _ _ => (qgw_tup rfl (qgsw_cons (qgw_name (i := 8) sc_law.nd) (qgsw_cons (qgw_name (i := 9) sc_law.nd) qgsw_nil)))) (fun _ _ _ _ _ => qts_nil) (fun _ _ _ _ _ => (qv 8))) (qa_cons (qe_lc rfl sc_law.nd (qi_val (qv 6)) (blkOk_by (own := [("_law_tag", 8), ("_law_kidrow", 9)]) (by kernel_rfl)) (fun _ _ _ _ _ => (qgw_tup rfl (qgsw_cons (qgw_name (i := 8) sc_law.nd) (qgsw_cons (qgw_name (i := 9) sc_law.nd) qgsw_nil)))) (fun _ _ _ _ _ => qts_nil) (fun _ _ _ _ _ => (qv 8))) qa_nil))))))) (qss_cons (qs_set (i := 4) sc_law.nd (qe_call tk h__law_grove hr (qa_cons (qv 0) (qa_cons qe_int (qa_cons (qe_op op_qmod (qe_op op_qfdiv (qv 1) qe_int) qe_int) (qa_cons (qv 3) qa_nil))))))
  (qss_cons (qs_set (i := 6) sc_law.nd (qe_call tk h__law_grove hr (qa_cons (qv 0) (qa_cons qe_int (qa_cons (qe_op op_qmod (qv 2) qe_int) (qa_cons (qv 3) qa_nil))))))
  (qss_cons (qs_if (qt_cmp (op_qeq hu) (qe_op op_qmod (qv 1) qe_int) qe_int (nomark _)) (qss_cons (qs_set (i := 4) sc_law.nd (qe_call tk h__law_grove hr (qa_cons (qv 0) (qa_cons qe_int (qa_cons (qe_op op_qadd qe_int (qe_op op_qmod (qe_op op_qfdiv (qv 1) qe_int) qe_int)) (qa_cons (qv 3) qa_nil))))))
  (qss_one (qs_set (i := 6) sc_law.nd (qe_call tk h__law_grove hr (qa_cons (qv 0) (qa_cons qe_int (qa_cons (qe_op op_qadd qe_int (qe_op op_qmod (qv 2) qe_int)) (qa_cons (qv 3) qa_nil)))))))) qss_nil)
  (qss_cons (qs_if (qt_cmp op_qgt (qe_op op_qmod (qv 1) qe_int) qe_int (nomark _)) (qss_one (qs_set (i := 6) sc_law.nd (qe_call tk h__law_like hr (qa_cons (qv 4) (qa_cons (qv 2) (qa_cons (qv 3) qa_nil)))))) qss_nil)
  (qss_one (qs_set (i := 7) sc_law.nd (qe_callG hgd tk h__law_far hr (qa_cons qe_dnew (qa_cons (qv 4) (qa_cons (qv 6) qa_nil)))))))))))
  (qss_cons (qs_if (qt_w (qw_or (qt_not (qt_val (qe_call tk h__law_is hr (qa_cons (qe_call tk h_distance hr (qa_cons (qv 4) (qa_cons (qv 6) qa_nil))) (qa_cons (qv 7) qa_nil))))) (qw_or1 (qt_not (qt_val (qe_call tk h__law_is hr (qa_cons (qe_call tk h_distance hr (qa_cons (qv 6) (qa_cons (qv 4) qa_nil))) (qa_cons (qv 7) qa_nil)))))))) (qss_one (qs_ret qe_bl)) qss_nil)
  (qss_one (qs_ret (qe_and (qe_call tk h__law_is hr (qa_cons (qe_call tk h_distance hr (qa_cons (qv 4) (qa_cons (qv 4) qa_nil))) (qa_cons qe_int qa_nil))) (qe_one (qe_call tk h__law_is hr (qa_cons (qe_call tk h_distance hr (qa_cons (qv 4) (qa_cons (qv 6) qa_nil))) (qa_cons (qv 7) qa_nil))))))))))))
end K83
namespace K83
open PySem PySem.Spec L2 PL
/-! ### words_of -/
/-- a pile's item: the row, the place, what is left of it -/
abbrev Item := List D × Nat × Gr
def itemD (i : Item) : D := .tup [.tup i.1, .int (i.2.1 : Nat)]
def pileD : List Item → List D
  | [] => []
  | i :: r => pileD r ++ [itemD i]
def remW : List Item → List Str
  | [] => []
  | i :: [] => words i.2.2
  | i :: j :: r => words i.2.2 ++ ("/" : Str) :: remW (j :: r)
def pileM : List Item → Nat
  | [] => 0
  | i :: r => 2 * i.2.2.size + 1 + pileM r
theorem pileD_len : ∀ st : List Item, (pileD st).length = st.length
  | [] => rfl
  | i :: r => by show (pileD r ++ [itemD i]).length = _; rw [List.length_append, pileD_len r]; rfl
theorem pileM_len : ∀ st : List Item, st.length ≤ pileM st
  | [] => Nat.le_refl _
  | i :: r => by
    have := pileM_len r
    show r.length + 1 ≤ 2 * i.2.2.size + 1 + pileM r
    omega
def ItemOk (i : Item) : Prop := i.1.drop i.2.1 = gD i.2.2 ∧ i.2.1 ≤ i.1.length
theorem remW_cons (t : Str) (k r : Gr) (row : List D) (at_ : Nat) (below : List Item) : remW ((row, at_, .cons t k r) :: below) = t :: remW ((gD k, 0, k) :: (row, at_ + 1, r) :: below) := by
  cases below with
  | nil => rfl
  | cons j b =>
    show words (.cons t k r) ++ _ = t :: (words k ++ ("/" : Str) :: (words r ++ ("/" : Str) :: remW (j :: b)))
    simp [words]
theorem txts_app (a b : List Str) : txts (a ++ b) = txts a ++ txts b := List.map_append
theorem txts_len (a : List Str) : (txts a).length = a.length := List.length_map _
theorem r_words_of : ∀ ds P Q E, sp_words_of ds P Q E → t_words_of (dEnds Q E) (startD n_words_of ds) P := by
  rintro ds P Q E ⟨g, rfl, hg, k⟩
  rw [st_words_of]
  unfold t_words_of
  refine seq_intro fun D1 q1 => ?_
  (try simp only [s_for, s_lc, qiRng1, qiRng2, qiVal, brL_t, brL_f, qNext, qBreak, qCont, qDrop, qRet, qRetN, s_if, qgName, qgNil, qgCons, qgTup, qgSub, qAsg, qPar, qVar, qC, qOp, qUn, qTest, s_and, s_or, qNot, s_andV, s_orV, qNotV, s_ifE, qNil, qCons, qTup, qLst, qCB, qBM, qSl, qNoPart, qPart, qNeg, qAdd, qLt, qEq, qDNew, qFld, qFldS, qCall, qMeth, qMake, qRaise, qTry, qLRng, qYes, brS_t, brS_f, brW_t, brW_f, brA_t, brA_f, brO_t, brO_f, brAV_t, brAV_f, brOV_t, brOV_f, brI_t, brI_f, s_wipe0, s_wipeS, slot_0, slot_s, set_0, set_s, ln0, ln1, ln2, ln3, ln4, ln5, s_len_t, s_list_t, s_tup_t, s_int_i, s_int_b, s_min2, s_max2, s_min3, s_str, s_ty_s, s_le, s_gt, s_ge, s_sub, s_mul, s_mod, s_fdiv, s_pow, dE_nx, dE_rt, dE_ex, true_and, Bool.not_true, Bool.not_false, decide_true, if_true, if_false, Bool.false_eq_true])
  intro wl hwl
  refine q1.nx _ _ (seq_intro fun D2 q2 => ?_)
  (try simp only [s_for, s_lc, qiRng1, qiRng2, qiVal, brL_t, brL_f, qNext, qBreak, qCont, qDrop, qRet, qRetN, s_if, qgName, qgNil, qgCons, qgTup, qgSub, qAsg, qPar, qVar, qC, qOp, qUn, qTest, s_and, s_or, qNot, s_andV, s_orV, qNotV, s_ifE, qNil, qCons, qTup, qLst, qCB, qBM, qSl, qNoPart, qPart, qNeg, qAdd, qLt, qEq, qDNew, qFld, qFldS, qCall, qMeth, qMake, qRaise, qTry, qLRng, qYes, brS_t, brS_f, brW_t, brW_f, brA_t, brA_f, brO_t, brO_f, brAV_t, brAV_f, brOV_t, brOV_f, brI_t, brI_f, s_wipe0, s_wipeS, slot_0, slot_s, set_0, set_s, ln0, ln1, ln2, ln3, ln4, ln5, s_len_t, s_list_t, s_tup_t, s_int_i, s_int_b, s_min2, s_max2, s_min3, s_str, s_ty_s, s_le, s_gt, s_ge, s_sub, s_mul, s_mod, s_fdiv, s_pow, dE_nx, dE_rt, dE_ex, true_and, Bool.not_true, Bool.not_false, decide_true, if_true, if_false, Bool.false_eq_true])
  intro pl hpl
  obtain ⟨hne, hpl⟩ := up_none.mp hpl
  have hwne : wl ≠ pl := fun e => hne e.symm
  refine q2.nx _ _ (seq_intro fun D3 q3 => ?_)
  refine while_intro (fun m σ P' => ∃ (acc : List Str) (st : List Item), σ = [some (.tup (gD g)), some (.ref wl), some (.ref pl), none, none] ∧ P' = up (up P wl (.lst (txts acc))) pl (.lst (pileD st)) ∧ m = pileM st ∧ m ≤ 3000 ∧ acc ++ remW st = words g ∧ ∀ i ∈ st, ItemOk i)
    _ ⟨[], [(gD g, 0, g)], rfl, rfl, rfl, ?_, rfl, ?_⟩ ?_
  · show 2 * g.size + 1 + 0 ≤ 3000
    omega
  · intro i hi
    obtain rfl := List.mem_singleton.mp hi
    exact ⟨rfl, Nat.zero_le _⟩
  · rintro m σ P' D4 ⟨acc, st, rfl, rfl, rfl, hm, hw, hok⟩ lp
    have hacc : acc.length ≤ 2000 := by
      have := congrArg List.length hw
      rw [List.length_append, words_len] at this
      omega
    have hst := pileM_len st
    (try simp only [s_for, s_lc, qiRng1, qiRng2, qiVal, brL_t, brL_f, qNext, qBreak, qCont, qDrop, qRet, qRetN, s_if, qgName, qgNil, qgCons, qgTup, qgSub, qAsg, qPar, qVar, qC, qOp, qUn, qTest, s_and, s_or, qNot, s_andV, s_orV, qNotV, s_ifE, qNil, qCons, qTup, qLst, qCB, qBM, qSl, qNoPart, qPart, qNeg, qAdd, qLt, qEq, qDNew, qFld, qFldS, qCall, qMeth, qMake, qRaise, qTry, qLRng, qYes, brS_t, brS_f, brW_t, brW_f, brA_t, brA_f, brO_t, brO_f, brAV_t, brAV_f, brOV_t, brOV_f, brI_t, brI_f, s_wipe0, s_wipeS, slot_0, slot_s, set_0, set_s, ln0, ln1, ln2, ln3, ln4, ln5, s_len_t, s_list_t, s_tup_t, s_int_i, s_int_b, s_min2, s_max2, s_min3, s_str, s_ty_s, s_le, s_gt, s_ge, s_sub, s_mul, s_mod, s_fdiv, s_pow, dE_nx, dE_rt, dE_ex, true_and, Bool.not_true, Bool.not_false, decide_true, if_true, if_false, Bool.false_eq_true])
    refine i_len (.inl up_same) ?_
    (try simp only [s_for, s_lc, qiRng1, qiRng2, qiVal, brL_t, brL_f, qNext, qBreak, qCont, qDrop, qRet, qRetN, s_if, qgName, qgNil, qgCons, qgTup, qgSub, qAsg, qPar, qVar, qC, qOp, qUn, qTest, s_and, s_or, qNot, s_andV, s_orV, qNotV, s_ifE, qNil, qCons, qTup, qLst, qCB, qBM, qSl, qNoPart, qPart, qNeg, qAdd, qLt, qEq, qDNew, qFld, qFldS, qCall, qMeth, qMake, qRaise, qTry, qLRng, qYes, brS_t, brS_f, brW_t, brW_f, brA_t, brA_f, brO_t, brO_f, brAV_t, brAV_f, brOV_t, brOV_f, brI_t, brI_f, s_wipe0, s_wipeS, slot_0, slot_s, set_0, set_s, ln0, ln1, ln2, ln3, ln4, ln5, s_len_t, s_list_t, s_tup_t, s_int_i, s_int_b, s_min2, s_max2, s_min3, s_str, s_ty_s, s_le, s_gt, s_ge, s_sub, s_mul, s_mod, s_fdiv, s_pow, dE_nx, dE_rt, dE_ex, true_and, Bool.not_true, Bool.not_false, decide_true, if_true, if_false, Bool.false_eq_true])
    cases st with
    | nil =>
      rw [show decide ((0 : Int) < ((pileD []).length : Nat)) = false from rfl]
      (try simp only [s_for, s_lc, qiRng1, qiRng2, qiVal, brL_t, brL_f, qNext, qBreak, qCont, qDrop, qRet, qRetN, s_if, qgName, qgNil, qgCons, qgTup, qgSub, qAsg, qPar, qVar, qC, qOp, qUn, qTest, s_and, s_or, qNot, s_andV, s_orV, qNotV, s_ifE, qNil, qCons, qTup, qLst, qCB, qBM, qSl, qNoPart, qPart, qNeg, qAdd, qLt, qEq, qDNew, qFld, qFldS, qCall, qMeth, qMake, qRaise, qTry, qLRng, qYes, brS_t, brS_f, brW_t, brW_f, brA_t, brA_f, brO_t, brO_f, brAV_t, brAV_f, brOV_t, brOV_f, brI_t, brI_f, s_wipe0, s_wipeS, slot_0, slot_s, set_0, set_s, ln0, ln1, ln2, ln3, ln4, ln5, s_len_t, s_list_t, s_tup_t, s_int_i, s_int_b, s_min2, s_max2, s_min3, s_str, s_ty_s, s_le, s_gt, s_ge, s_sub, s_mul, s_mod, s_fdiv, s_pow, dE_nx, dE_rt, dE_ex, true_and, Bool.not_true, Bool.not_false, decide_true, if_true, if_false, Bool.false_eq_true])
      refine q3.nx _ _ ?_
      (try simp only [s_for, s_lc, qiRng1, qiRng2, qiVal, brL_t, brL_f, qNext, qBreak, qCont, qDrop, qRet, qRetN, s_if, qgName, qgNil, qgCons, qgTup, qgSub, qAsg, qPar, qVar, qC, qOp, qUn, qTest, s_and, s_or, qNot, s_andV, s_orV, qNotV, s_ifE, qNil, qCons, qTup, qLst, qCB, qBM, qSl, qNoPart, qPart, qNeg, qAdd, qLt, qEq, qDNew, qFld, qFldS, qCall, qMeth, qMake, qRaise, qTry, qLRng, qYes, brS_t, brS_f, brW_t, brW_f, brA_t, brA_f, brO_t, brO_f, brAV_t, brAV_f, brOV_t, brOV_f, brI_t, brI_f, s_wipe0, s_wipeS, slot_0, slot_s, set_0, set_s, ln0, ln1, ln2, ln3, ln4, ln5, s_len_t, s_list_t, s_tup_t, s_int_i, s_int_b, s_min2, s_max2, s_min3, s_str, s_ty_s, s_le, s_gt, s_ge, s_sub, s_mul, s_mod, s_fdiv, s_pow, dE_nx, dE_rt, dE_ex, true_and, Bool.not_true, Bool.not_false, decide_true, if_true, if_false, Bool.false_eq_true])
      refine wk_of ?_ (k wl hwl)
      rw [← hw]
      simp only [remW, List.append_nil]
      exact Le.new (by rw [up_ne hne]; exact hpl)
    | cons i below =>
      have hpos : decide ((0 : Int) < ((pileD (i :: below)).length : Nat)) = true := decide_eq_true (by rw [pileD_len]; simp)
      rw [hpos]
      (try simp only [s_for, s_lc, qiRng1, qiRng2, qiVal, brL_t, brL_f, qNext, qBreak, qCont, qDrop, qRet, qRetN, s_if, qgName, qgNil, qgCons, qgTup, qgSub, qAsg, qPar, qVar, qC, qOp, qUn, qTest, s_and, s_or, qNot, s_andV, s_orV, qNotV, s_ifE, qNil, qCons, qTup, qLst, qCB, qBM, qSl, qNoPart, qPart, qNeg, qAdd, qLt, qEq, qDNew, qFld, qFldS, qCall, qMeth, qMake, qRaise, qTry, qLRng, qYes, brS_t, brS_f, brW_t, brW_f, brA_t, brA_f, brO_t, brO_f, brAV_t, brAV_f, brOV_t, brOV_f, brI_t, brI_f, s_wipe0, s_wipeS, slot_0, slot_s, set_0, set_s, ln0, ln1, ln2, ln3, ln4, ln5, s_len_t, s_list_t, s_tup_t, s_int_i, s_int_b, s_min2, s_max2, s_min3, s_str, s_ty_s, s_le, s_gt, s_ge, s_sub, s_mul, s_mod, s_fdiv, s_pow, dE_nx, dE_rt, dE_ex, true_and, Bool.not_true, Bool.not_false, decide_true, if_true, if_false, Bool.false_eq_true])
      refine seq_intro fun D5 q5 => ?_
      (try simp only [s_for, s_lc, qiRng1, qiRng2, qiVal, brL_t, brL_f, qNext, qBreak, qCont, qDrop, qRet, qRetN, s_if, qgName, qgNil, qgCons, qgTup, qgSub, qAsg, qPar, qVar, qC, qOp, qUn, qTest, s_and, s_or, qNot, s_andV, s_orV, qNotV, s_ifE, qNil, qCons, qTup, qLst, qCB, qBM, qSl, qNoPart, qPart, qNeg, qAdd, qLt, qEq, qDNew, qFld, qFldS, qCall, qMeth, qMake, qRaise, qTry, qLRng, qYes, brS_t, brS_f, brW_t, brW_f, brA_t, brA_f, brO_t, brO_f, brAV_t, brAV_f, brOV_t, brOV_f, brI_t, brI_f, s_wipe0, s_wipeS, slot_0, slot_s, set_0, set_s, ln0, ln1, ln2, ln3, ln4, ln5, s_len_t, s_list_t, s_tup_t, s_int_i, s_int_b, s_min2, s_max2, s_min3, s_str, s_ty_s, s_le, s_gt, s_ge, s_sub, s_mul, s_mod, s_fdiv, s_pow, dE_nx, dE_rt, dE_ex, true_and, Bool.not_true, Bool.not_false, decide_true, if_true, if_false, Bool.false_eq_true])
      refine i_pop up_same last_snoc ?_
      have ed : (pileD (i :: below)).dropLast = pileD below := List.dropLast_concat
      rw [ed]
      unfold itemD
      (try simp only [s_for, s_lc, qiRng1, qiRng2, qiVal, brL_t, brL_f, qNext, qBreak, qCont, qDrop, qRet, qRetN, s_if, qgName, qgNil, qgCons, qgTup, qgSub, qAsg, qPar, qVar, qC, qOp, qUn, qTest, s_and, s_or, qNot, s_andV, s_orV, qNotV, s_ifE, qNil, qCons, qTup, qLst, qCB, qBM, qSl, qNoPart, qPart, qNeg, qAdd, qLt, qEq, qDNew, qFld, qFldS, qCall, qMeth, qMake, qRaise, qTry, qLRng, qYes, brS_t, brS_f, brW_t, brW_f, brA_t, brA_f, brO_t, brO_f, brAV_t, brAV_f, brOV_t, brOV_f, brI_t, brI_f, s_wipe0, s_wipeS, slot_0, slot_s, set_0, set_s, ln0, ln1, ln2, ln3, ln4, ln5, s_len_t, s_list_t, s_tup_t, s_int_i, s_int_b, s_min2, s_max2, s_min3, s_str, s_ty_s, s_le, s_gt, s_ge, s_sub, s_mul, s_mod, s_fdiv, s_pow, dE_nx, dE_rt, dE_ex, true_and, Bool.not_true, Bool.not_false, decide_true, if_true, if_false, Bool.false_eq_true])
      refine ⟨rfl, q5.nx _ _ ?_⟩
      obtain ⟨row, at_, gr⟩ := i
      obtain ⟨hdrop, hat⟩ := hok _ List.mem_cons_self
      have hokB : ∀ i ∈ below, ItemOk i := fun i hi => hok i (List.mem_cons_of_mem _ hi)
      simp only at hdrop hat ⊢
      rw [up_up]
      (try simp only [s_for, s_lc, qiRng1, qiRng2, qiVal, brL_t, brL_f, qNext, qBreak, qCont, qDrop, qRet, qRetN, s_if, qgName, qgNil, qgCons, qgTup, qgSub, qAsg, qPar, qVar, qC, qOp, qUn, qTest, s_and, s_or, qNot, s_andV, s_orV, qNotV, s_ifE, qNil, qCons, qTup, qLst, qCB, qBM, qSl, qNoPart, qPart, qNeg, qAdd, qLt, qEq, qDNew, qFld, qFldS, qCall, qMeth, qMake, qRaise, qTry, qLRng, qYes, brS_t, brS_f, brW_t, brW_f, brA_t, brA_f, brO_t, brO_f, brAV_t, brAV_f, brOV_t, brOV_f, brI_t, brI_f, s_wipe0, s_wipeS, slot_0, slot_s, set_0, set_s, ln0, ln1, ln2, ln3, ln4, ln5, s_len_t, s_list_t, s_tup_t, s_int_i, s_int_b, s_min2, s_max2, s_min3, s_str, s_ty_s, s_le, s_gt, s_ge, s_sub, s_mul, s_mod, s_fdiv, s_pow, dE_nx, dE_rt, dE_ex, true_and, Bool.not_true, Bool.not_false, decide_true, if_true, if_false, Bool.false_eq_true])
      cases gr with
      | nil =>
        have hlen : row.length = at_ := by
          have := congrArg List.length hdrop
          rw [List.length_drop] at this
          simp only [gD, List.length_nil] at this
          omega
        rw [show decide (((at_ : Nat) : Int) < ((row.length : Nat) : Int)) = false from decide_eq_false (by omega)]
        (try simp only [s_for, s_lc, qiRng1, qiRng2, qiVal, brL_t, brL_f, qNext, qBreak, qCont, qDrop, qRet, qRetN, s_if, qgName, qgNil, qgCons, qgTup, qgSub, qAsg, qPar, qVar, qC, qOp, qUn, qTest, s_and, s_or, qNot, s_andV, s_orV, qNotV, s_ifE, qNil, qCons, qTup, qLst, qCB, qBM, qSl, qNoPart, qPart, qNeg, qAdd, qLt, qEq, qDNew, qFld, qFldS, qCall, qMeth, qMake, qRaise, qTry, qLRng, qYes, brS_t, brS_f, brW_t, brW_f, brA_t, brA_f, brO_t, brO_f, brAV_t, brAV_f, brOV_t, brOV_f, brI_t, brI_f, s_wipe0, s_wipeS, slot_0, slot_s, set_0, set_s, ln0, ln1, ln2, ln3, ln4, ln5, s_len_t, s_list_t, s_tup_t, s_int_i, s_int_b, s_min2, s_max2, s_min3, s_str, s_ty_s, s_le, s_gt, s_ge, s_sub, s_mul, s_mod, s_fdiv, s_pow, dE_nx, dE_rt, dE_ex, true_and, Bool.not_true, Bool.not_false, decide_true, if_true, if_false, Bool.false_eq_true])
        refine i_len (.inl up_same) ?_
        (try simp only [s_for, s_lc, qiRng1, qiRng2, qiVal, brL_t, brL_f, qNext, qBreak, qCont, qDrop, qRet, qRetN, s_if, qgName, qgNil, qgCons, qgTup, qgSub, qAsg, qPar, qVar, qC, qOp, qUn, qTest, s_and, s_or, qNot, s_andV, s_orV, qNotV, s_ifE, qNil, qCons, qTup, qLst, qCB, qBM, qSl, qNoPart, qPart, qNeg, qAdd, qLt, qEq, qDNew, qFld, qFldS, qCall, qMeth, qMake, qRaise, qTry, qLRng, qYes, brS_t, brS_f, brW_t, brW_f, brA_t, brA_f, brO_t, brO_f, brAV_t, brAV_f, brOV_t, brOV_f, brI_t, brI_f, s_wipe0, s_wipeS, slot_0, slot_s, set_0, set_s, ln0, ln1, ln2, ln3, ln4, ln5, s_len_t, s_list_t, s_tup_t, s_int_i, s_int_b, s_min2, s_max2, s_min3, s_str, s_ty_s, s_le, s_gt, s_ge, s_sub, s_mul, s_mod, s_fdiv, s_pow, dE_nx, dE_rt, dE_ex, true_and, Bool.not_true, Bool.not_false, decide_true, if_true, if_false, Bool.false_eq_true])
        cases below with
        | nil =>
          rw [show decide ((0 : Int) < ((pileD []).length : Nat)) = false from rfl]
          (try simp only [s_for, s_lc, qiRng1, qiRng2, qiVal, brL_t, brL_f, qNext, qBreak, qCont, qDrop, qRet, qRetN, s_if, qgName, qgNil, qgCons, qgTup, qgSub, qAsg, qPar, qVar, qC, qOp, qUn, qTest, s_and, s_or, qNot, s_andV, s_orV, qNotV, s_ifE, qNil, qCons, qTup, qLst, qCB, qBM, qSl, qNoPart, qPart, qNeg, qAdd, qLt, qEq, qDNew, qFld, qFldS, qCall, qMeth, qMake, qRaise, qTry, qLRng, qYes, brS_t, brS_f, brW_t, brW_f, brA_t, brA_f, brO_t, brO_f, brAV_t, brAV_f, brOV_t, brOV_f, brI_t, brI_f, s_wipe0, s_wipeS, slot_0, slot_s, set_0, set_s, ln0, ln1, ln2, ln3, ln4, ln5, s_len_t, s_list_t, s_tup_t, s_int_i, s_int_b, s_min2, s_max2, s_min3, s_str, s_ty_s, s_le, s_gt, s_ge, s_sub, s_mul, s_mod, s_fdiv, s_pow, dE_nx, dE_rt, dE_ex, true_and, Bool.not_true, Bool.not_false, decide_true, if_true, if_false, Bool.false_eq_true])
          refine lp.nx _ _ ⟨0, _, _, ?_, ?_, Le.refl _, acc, [], rfl, rfl, rfl, by decide, by simpa [remW, words] using hw, fun _ h => nomatch h⟩
          · show 0 < 2 * Gr.size .nil + 1 + 0
            omega
          · (repeat' first | exact fg_0 | refine fg_s ?_ | refine fg_n ?_)
        | cons j b =>
          rw [show decide ((0 : Int) < ((pileD (j :: b)).length : Nat)) = true from decide_eq_true (by rw [pileD_len]; simp)]
          (try simp only [s_for, s_lc, qiRng1, qiRng2, qiVal, brL_t, brL_f, qNext, qBreak, qCont, qDrop, qRet, qRetN, s_if, qgName, qgNil, qgCons, qgTup, qgSub, qAsg, qPar, qVar, qC, qOp, qUn, qTest, s_and, s_or, qNot, s_andV, s_orV, qNotV, s_ifE, qNil, qCons, qTup, qLst, qCB, qBM, qSl, qNoPart, qPart, qNeg, qAdd, qLt, qEq, qDNew, qFld, qFldS, qCall, qMeth, qMake, qRaise, qTry, qLRng, qYes, brS_t, brS_f, brW_t, brW_f, brA_t, brA_f, brO_t, brO_f, brAV_t, brAV_f, brOV_t, brOV_f, brI_t, brI_f, s_wipe0, s_wipeS, slot_0, slot_s, set_0, set_s, ln0, ln1, ln2, ln3, ln4, ln5, s_len_t, s_list_t, s_tup_t, s_int_i, s_int_b, s_min2, s_max2, s_min3, s_str, s_ty_s, s_le, s_gt, s_ge, s_sub, s_mul, s_mod, s_fdiv, s_pow, dE_nx, dE_rt, dE_ex, true_and, Bool.not_true, Bool.not_false, decide_true, if_true, if_false, Bool.false_eq_true])
          refine i_app (by rw [up_ne hwne, up_same]) (by rw [txts_len]; omega) ?_
          (try simp only [s_for, s_lc, qiRng1, qiRng2, qiVal, brL_t, brL_f, qNext, qBreak, qCont, qDrop, qRet, qRetN, s_if, qgName, qgNil, qgCons, qgTup, qgSub, qAsg, qPar, qVar, qC, qOp, qUn, qTest, s_and, s_or, qNot, s_andV, s_orV, qNotV, s_ifE, qNil, qCons, qTup, qLst, qCB, qBM, qSl, qNoPart, qPart, qNeg, qAdd, qLt, qEq, qDNew, qFld, qFldS, qCall, qMeth, qMake, qRaise, qTry, qLRng, qYes, brS_t, brS_f, brW_t, brW_f, brA_t, brA_f, brO_t, brO_f, brAV_t, brAV_f, brOV_t, brOV_f, brI_t, brI_f, s_wipe0, s_wipeS, slot_0, slot_s, set_0, set_s, ln0, ln1, ln2, ln3, ln4, ln5, s_len_t, s_list_t, s_tup_t, s_int_i, s_int_b, s_min2, s_max2, s_min3, s_str, s_ty_s, s_le, s_gt, s_ge, s_sub, s_mul, s_mod, s_fdiv, s_pow, dE_nx, dE_rt, dE_ex, true_and, Bool.not_true, Bool.not_false, decide_true, if_true, if_false, Bool.false_eq_true])
          rw [up_under hwne]
          refine lp.nx _ _ ⟨_, _, _, ?_, ?_, Le.refl _, acc ++ [("/" : Str)], j :: b, rfl, ?_, rfl, ?_, ?_, hokB⟩
          · show pileM (j :: b) < 2 * Gr.size .nil + 1 + pileM (j :: b)
            omega
          · (repeat' first | exact fg_0 | refine fg_s ?_ | refine fg_n ?_)
          · rw [txts_app]; rfl
          · have : pileM ((row, at_, Gr.nil) :: j :: b) = 2 * Gr.size .nil + 1 + pileM (j :: b) := rfl
            omega
          · rw [← hw, List.append_assoc]; rfl
      | cons t kk r =>
        have hg2 : row[at_]? = some (.tup [.str t, .tup (gD kk)]) := by
          have := congrArg List.head? hdrop
          rw [List.head?_drop] at this
          exact this
        have hlt : at_ < row.length := (List.getElem?_eq_some_iff.mp hg2).1
        rw [show decide (((at_ : Nat) : Int) < ((row.length : Nat) : Int)) = true from decide_eq_true (by omega)]
        have hM : pileM ((row, at_, Gr.cons t kk r) :: below) = 2 * (1 + kk.size + r.size) + 1 + pileM below := rfl
        have hbl := pileM_len below
        (try simp only [s_for, s_lc, qiRng1, qiRng2, qiVal, brL_t, brL_f, qNext, qBreak, qCont, qDrop, qRet, qRetN, s_if, qgName, qgNil, qgCons, qgTup, qgSub, qAsg, qPar, qVar, qC, qOp, qUn, qTest, s_and, s_or, qNot, s_andV, s_orV, qNotV, s_ifE, qNil, qCons, qTup, qLst, qCB, qBM, qSl, qNoPart, qPart, qNeg, qAdd, qLt, qEq, qDNew, qFld, qFldS, qCall, qMeth, qMake, qRaise, qTry, qLRng, qYes, brS_t, brS_f, brW_t, brW_f, brA_t, brA_f, brO_t, brO_f, brAV_t, brAV_f, brOV_t, brOV_f, brI_t, brI_f, s_wipe0, s_wipeS, slot_0, slot_s, set_0, set_s, ln0, ln1, ln2, ln3, ln4, ln5, s_len_t, s_list_t, s_tup_t, s_int_i, s_int_b, s_min2, s_max2, s_min3, s_str, s_ty_s, s_le, s_gt, s_ge, s_sub, s_mul, s_mod, s_fdiv, s_pow, dE_nx, dE_rt, dE_ex, true_and, Bool.not_true, Bool.not_false, decide_true, if_true, if_false, Bool.false_eq_true])
        refine seq_intro fun D6 q6 => ?_
        (try simp only [s_for, s_lc, qiRng1, qiRng2, qiVal, brL_t, brL_f, qNext, qBreak, qCont, qDrop, qRet, qRetN, s_if, qgName, qgNil, qgCons, qgTup, qgSub, qAsg, qPar, qVar, qC, qOp, qUn, qTest, s_and, s_or, qNot, s_andV, s_orV, qNotV, s_ifE, qNil, qCons, qTup, qLst, qCB, qBM, qSl, qNoPart, qPart, qNeg, qAdd, qLt, qEq, qDNew, qFld, qFldS, qCall, qMeth, qMake, qRaise, qTry, qLRng, qYes, brS_t, brS_f, brW_t, brW_f, brA_t, brA_f, brO_t, brO_f, brAV_t, brAV_f, brOV_t, brOV_f, brI_t, brI_f, s_wipe0, s_wipeS, slot_0, slot_s, set_0, set_s, ln0, ln1, ln2, ln3, ln4, ln5, s_len_t, s_list_t, s_tup_t, s_int_i, s_int_b, s_min2, s_max2, s_min3, s_str, s_ty_s, s_le, s_gt, s_ge, s_sub, s_mul, s_mod, s_fdiv, s_pow, dE_nx, dE_rt, dE_ex, true_and, Bool.not_true, Bool.not_false, decide_true, if_true, if_false, Bool.false_eq_true])
        refine i_app up_same (by rw [pileD_len]; omega) ?_
        (try simp only [s_for, s_lc, qiRng1, qiRng2, qiVal, brL_t, brL_f, qNext, qBreak, qCont, qDrop, qRet, qRetN, s_if, qgName, qgNil, qgCons, qgTup, qgSub, qAsg, qPar, qVar, qC, qOp, qUn, qTest, s_and, s_or, qNot, s_andV, s_orV, qNotV, s_ifE, qNil, qCons, qTup, qLst, qCB, qBM, qSl, qNoPart, qPart, qNeg, qAdd, qLt, qEq, qDNew, qFld, qFldS, qCall, qMeth, qMake, qRaise, qTry, qLRng, qYes, brS_t, brS_f, brW_t, brW_f, brA_t, brA_f, brO_t, brO_f, brAV_t, brAV_f, brOV_t, brOV_f, brI_t, brI_f, s_wipe0, s_wipeS, slot_0, slot_s, set_0, set_s, ln0, ln1, ln2, ln3, ln4, ln5, s_len_t, s_list_t, s_tup_t, s_int_i, s_int_b, s_min2, s_max2, s_min3, s_str, s_ty_s, s_le, s_gt, s_ge, s_sub, s_mul, s_mod, s_fdiv, s_pow, dE_nx, dE_rt, dE_ex, true_and, Bool.not_true, Bool.not_false, decide_true, if_true, if_false, Bool.false_eq_true])
        refine q6.nx _ _ (seq_intro fun D7 q7 => ?_)
        (try simp only [s_for, s_lc, qiRng1, qiRng2, qiVal, brL_t, brL_f, qNext, qBreak, qCont, qDrop, qRet, qRetN, s_if, qgName, qgNil, qgCons, qgTup, qgSub, qAsg, qPar, qVar, qC, qOp, qUn, qTest, s_and, s_or, qNot, s_andV, s_orV, qNotV, s_ifE, qNil, qCons, qTup, qLst, qCB, qBM, qSl, qNoPart, qPart, qNeg, qAdd, qLt, qEq, qDNew, qFld, qFldS, qCall, qMeth, qMake, qRaise, qTry, qLRng, qYes, brS_t, brS_f, brW_t, brW_f, brA_t, brA_f, brO_t, brO_f, brAV_t, brAV_f, brOV_t, brOV_f, brI_t, brI_f, s_wipe0, s_wipeS, slot_0, slot_s, set_0, set_s, ln0, ln1, ln2, ln3, ln4, ln5, s_len_t, s_list_t, s_tup_t, s_int_i, s_int_b, s_min2, s_max2, s_min3, s_str, s_ty_s, s_le, s_gt, s_ge, s_sub, s_mul, s_mod, s_fdiv, s_pow, dE_nx, dE_rt, dE_ex, true_and, Bool.not_true, Bool.not_false, decide_true, if_true, if_false, Bool.false_eq_true])
        refine ⟨i_tyL (.inl (by rw [up_up, up_ne hwne, up_same])), ?_⟩
        refine i_ixT (at_nat hg2) (i_ixT at_cons ?_)
        refine i_app' (by rw [up_up, up_ne hwne, up_same]) (by rw [txts_len]; omega) ?_
        (try simp only [s_for, s_lc, qiRng1, qiRng2, qiVal, brL_t, brL_f, qNext, qBreak, qCont, qDrop, qRet, qRetN, s_if, qgName, qgNil, qgCons, qgTup, qgSub, qAsg, qPar, qVar, qC, qOp, qUn, qTest, s_and, s_or, qNot, s_andV, s_orV, qNotV, s_ifE, qNil, qCons, qTup, qLst, qCB, qBM, qSl, qNoPart, qPart, qNeg, qAdd, qLt, qEq, qDNew, qFld, qFldS, qCall, qMeth, qMake, qRaise, qTry, qLRng, qYes, brS_t, brS_f, brW_t, brW_f, brA_t, brA_f, brO_t, brO_f, brAV_t, brAV_f, brOV_t, brOV_f, brI_t, brI_f, s_wipe0, s_wipeS, slot_0, slot_s, set_0, set_s, ln0, ln1, ln2, ln3, ln4, ln5, s_len_t, s_list_t, s_tup_t, s_int_i, s_int_b, s_min2, s_max2, s_min3, s_str, s_ty_s, s_le, s_gt, s_ge, s_sub, s_mul, s_mod, s_fdiv, s_pow, dE_nx, dE_rt, dE_ex, true_and, Bool.not_true, Bool.not_false, decide_true, if_true, if_false, Bool.false_eq_true])
        refine q7.nx _ _ ?_
        (try simp only [s_for, s_lc, qiRng1, qiRng2, qiVal, brL_t, brL_f, qNext, qBreak, qCont, qDrop, qRet, qRetN, s_if, qgName, qgNil, qgCons, qgTup, qgSub, qAsg, qPar, qVar, qC, qOp, qUn, qTest, s_and, s_or, qNot, s_andV, s_orV, qNotV, s_ifE, qNil, qCons, qTup, qLst, qCB, qBM, qSl, qNoPart, qPart, qNeg, qAdd, qLt, qEq, qDNew, qFld, qFldS, qCall, qMeth, qMake, qRaise, qTry, qLRng, qYes, brS_t, brS_f, brW_t, brW_f, brA_t, brA_f, brO_t, brO_f, brAV_t, brAV_f, brOV_t, brOV_f, brI_t, brI_f, s_wipe0, s_wipeS, slot_0, slot_s, set_0, set_s, ln0, ln1, ln2, ln3, ln4, ln5, s_len_t, s_list_t, s_tup_t, s_int_i, s_int_b, s_min2, s_max2, s_min3, s_str, s_ty_s, s_le, s_gt, s_ge, s_sub, s_mul, s_mod, s_fdiv, s_pow, dE_nx, dE_rt, dE_ex, true_and, Bool.not_true, Bool.not_false, decide_true, if_true, if_false, Bool.false_eq_true])
        rw [up_up, up_under hwne]
        refine ⟨i_tyL (.inl up_same), i_ixT (at_nat hg2) (i_ixT (at_nat (i := 1) rfl) ?_)⟩
        (try simp only [s_for, s_lc, qiRng1, qiRng2, qiVal, brL_t, brL_f, qNext, qBreak, qCont, qDrop, qRet, qRetN, s_if, qgName, qgNil, qgCons, qgTup, qgSub, qAsg, qPar, qVar, qC, qOp, qUn, qTest, s_and, s_or, qNot, s_andV, s_orV, qNotV, s_ifE, qNil, qCons, qTup, qLst, qCB, qBM, qSl, qNoPart, qPart, qNeg, qAdd, qLt, qEq, qDNew, qFld, qFldS, qCall, qMeth, qMake, qRaise, qTry, qLRng, qYes, brS_t, brS_f, brW_t, brW_f, brA_t, brA_f, brO_t, brO_f, brAV_t, brAV_f, brOV_t, brOV_f, brI_t, brI_f, s_wipe0, s_wipeS, slot_0, slot_s, set_0, set_s, ln0, ln1, ln2, ln3, ln4, ln5, s_len_t, s_list_t, s_tup_t, s_int_i, s_int_b, s_min2, s_max2, s_min3, s_str, s_ty_s, s_le, s_gt, s_ge, s_sub, s_mul, s_mod, s_fdiv, s_pow, dE_nx, dE_rt, dE_ex, true_and, Bool.not_true, Bool.not_false, decide_true, if_true, if_false, Bool.false_eq_true])
        refine i_app' up_same (by rw [List.length_append, pileD_len]; simp; omega) ?_
        (try simp only [s_for, s_lc, qiRng1, qiRng2, qiVal, brL_t, brL_f, qNext, qBreak, qCont, qDrop, qRet, qRetN, s_if, qgName, qgNil, qgCons, qgTup, qgSub, qAsg, qPar, qVar, qC, qOp, qUn, qTest, s_and, s_or, qNot, s_andV, s_orV, qNotV, s_ifE, qNil, qCons, qTup, qLst, qCB, qBM, qSl, qNoPart, qPart, qNeg, qAdd, qLt, qEq, qDNew, qFld, qFldS, qCall, qMeth, qMake, qRaise, qTry, qLRng, qYes, brS_t, brS_f, brW_t, brW_f, brA_t, brA_f, brO_t, brO_f, brAV_t, brAV_f, brOV_t, brOV_f, brI_t, brI_f, s_wipe0, s_wipeS, slot_0, slot_s, set_0, set_s, ln0, ln1, ln2, ln3, ln4, ln5, s_len_t, s_list_t, s_tup_t, s_int_i, s_int_b, s_min2, s_max2, s_min3, s_str, s_ty_s, s_le, s_gt, s_ge, s_sub, s_mul, s_mod, s_fdiv, s_pow, dE_nx, dE_rt, dE_ex, true_and, Bool.not_true, Bool.not_false, decide_true, if_true, if_false, Bool.false_eq_true])
        rw [up_up]
        refine lp.nx _ _ ⟨pileM ((gD kk, 0, kk) :: (row, at_ + 1, r) :: below), _, _, ?_, ?_, Le.refl _, acc ++ [t], (gD kk, 0, kk) :: (row, at_ + 1, r) :: below, rfl, ?_, rfl, ?_, ?_, ?_⟩
        · rw [hM]
          show 2 * kk.size + 1 + (2 * r.size + 1 + pileM below) < _
          omega
        · (repeat' first | exact fg_0 | refine fg_s ?_ | refine fg_n ?_)
        · rw [txts_app]
          simp [pileD, itemD, txts]
        · show 2 * kk.size + 1 + (2 * r.size + 1 + pileM below) ≤ 3000
          rw [hM] at hm
          omega
        · rw [← hw, remW_cons, List.append_assoc]
          rfl
        · intro i hi
          rcases List.mem_cons.mp hi with rfl | hi
          · exact ⟨rfl, Nat.zero_le _⟩
          · rcases List.mem_cons.mp hi with rfl | hi
            · refine ⟨?_, by show at_ + 1 ≤ row.length; omega⟩
              show row.drop (at_ + 1) = gD r
              rw [← List.drop_drop, hdrop]
              rfl
            · exact hokB i hi
end K83
namespace K83
open PySem PySem.Spec L2 PL
theorem txtB_len (a : List Str) : (txts a).length = a.length := List.length_map _
theorem r_size : ∀ ds P Q E, sp_size ds P Q E → t_size (dEnds Q E) (startD n_size ds) P := by
  rintro ds P Q E ⟨g, rfl, hg, k⟩
  rw [st_size]
  unfold t_size
  (try simp only [s_for, s_lc, qiRng1, qiRng2, qiVal, brL_t, brL_f, qNext, qBreak, qCont, qDrop, qRet, qRetN, s_if, qgName, qgNil, qgCons, qgTup, qgSub, qAsg, qPar, qVar, qC, qOp, qUn, qTest, s_and, s_or, qNot, s_andV, s_orV, qNotV, s_ifE, qNil, qCons, qTup, qLst, qCB, qBM, qSl, qNoPart, qPart, qNeg, qAdd, qLt, qEq, qDNew, qFld, qFldS, qCall, qMeth, qMake, qRaise, qTry, qLRng, qYes, brS_t, brS_f, brW_t, brW_f, brA_t, brA_f, brO_t, brO_f, brAV_t, brAV_f, brOV_t, brOV_f, brI_t, brI_f, s_wipe0, s_wipeS, slot_0, slot_s, set_0, set_s, ln0, ln1, ln2, ln3, ln4, ln5, s_len_t, s_list_t, s_tup_t, s_int_i, s_int_b, s_min2, s_max2, s_min3, s_str, s_ty_s, s_le, s_gt, s_ge, s_sub, s_mul, s_mod, s_fdiv, s_pow, dE_nx, dE_rt, dE_ex, true_and, Bool.not_true, Bool.not_false, decide_true, if_true, if_false, Bool.false_eq_true])
  refine ⟨g, rfl, hg, fun l hl => ?_⟩
  refine i_len (.inl up_same) ?_
  (try simp only [s_for, s_lc, qiRng1, qiRng2, qiVal, brL_t, brL_f, qNext, qBreak, qCont, qDrop, qRet, qRetN, s_if, qgName, qgNil, qgCons, qgTup, qgSub, qAsg, qPar, qVar, qC, qOp, qUn, qTest, s_and, s_or, qNot, s_andV, s_orV, qNotV, s_ifE, qNil, qCons, qTup, qLst, qCB, qBM, qSl, qNoPart, qPart, qNeg, qAdd, qLt, qEq, qDNew, qFld, qFldS, qCall, qMeth, qMake, qRaise, qTry, qLRng, qYes, brS_t, brS_f, brW_t, brW_f, brA_t, brA_f, brO_t, brO_f, brAV_t, brAV_f, brOV_t, brOV_f, brI_t, brI_f, s_wipe0, s_wipeS, slot_0, slot_s, set_0, set_s, ln0, ln1, ln2, ln3, ln4, ln5, s_len_t, s_list_t, s_tup_t, s_int_i, s_int_b, s_min2, s_max2, s_min3, s_str, s_ty_s, s_le, s_gt, s_ge, s_sub, s_mul, s_mod, s_fdiv, s_pow, dE_nx, dE_rt, dE_ex, true_and, Bool.not_true, Bool.not_false, decide_true, if_true, if_false, Bool.false_eq_true])
  refine ⟨by unfold CDiv; decide, wk_of (Le.new hl) ?_⟩
  have e : ((txts (words g)).length : Int) / 2 = (g.size : Int) := by rw [txtB_len, words_len]; omega
  rw [e]
  exact k
theorem r_cell_at : ∀ ds P Q E, sp__law_cell_at ds P Q E → t__law_cell_at (dEnds Q E) (startD n__law_cell_at ds) P := by
  rintro ds P Q E ⟨a, ns, k, rfl, ha, hk, q⟩
  rw [st__law_cell_at]
  unfold t__law_cell_at
  refine seq_intro fun D1 q1 => ?_
  (try simp only [s_for, s_lc, qiRng1, qiRng2, qiVal, brL_t, brL_f, qNext, qBreak, qCont, qDrop, qRet, qRetN, s_if, qgName, qgNil, qgCons, qgTup, qgSub, qAsg, qPar, qVar, qC, qOp, qUn, qTest, s_and, s_or, qNot, s_andV, s_orV, qNotV, s_ifE, qNil, qCons, qTup, qLst, qCB, qBM, qSl, qNoPart, qPart, qNeg, qAdd, qLt, qEq, qDNew, qFld, qFldS, qCall, qMeth, qMake, qRaise, qTry, qLRng, qYes, brS_t, brS_f, brW_t, brW_f, brA_t, brA_f, brO_t, brO_f, brAV_t, brAV_f, brOV_t, brOV_f, brI_t, brI_f, s_wipe0, s_wipeS, slot_0, slot_s, set_0, set_s, ln0, ln1, ln2, ln3, ln4, ln5, s_len_t, s_list_t, s_tup_t, s_int_i, s_int_b, s_min2, s_max2, s_min3, s_str, s_ty_s, s_le, s_gt, s_ge, s_sub, s_mul, s_mod, s_fdiv, s_pow, dE_nx, dE_rt, dE_ex, true_and, Bool.not_true, Bool.not_false, decide_true, if_true, if_false, Bool.false_eq_true])
  refine i_len ha ?_
  refine i_if (fun h => ?_) fun h => ?_
  · (try simp only [s_for, s_lc, qiRng1, qiRng2, qiVal, brL_t, brL_f, qNext, qBreak, qCont, qDrop, qRet, qRetN, s_if, qgName, qgNil, qgCons, qgTup, qgSub, qAsg, qPar, qVar, qC, qOp, qUn, qTest, s_and, s_or, qNot, s_andV, s_orV, qNotV, s_ifE, qNil, qCons, qTup, qLst, qCB, qBM, qSl, qNoPart, qPart, qNeg, qAdd, qLt, qEq, qDNew, qFld, qFldS, qCall, qMeth, qMake, qRaise, qTry, qLRng, qYes, brS_t, brS_f, brW_t, brW_f, brA_t, brA_f, brO_t, brO_f, brAV_t, brAV_f, brOV_t, brOV_f, brI_t, brI_f, s_wipe0, s_wipeS, slot_0, slot_s, set_0, set_s, ln0, ln1, ln2, ln3, ln4, ln5, s_len_t, s_list_t, s_tup_t, s_int_i, s_int_b, s_min2, s_max2, s_min3, s_str, s_ty_s, s_le, s_gt, s_ge, s_sub, s_mul, s_mod, s_fdiv, s_pow, dE_nx, dE_rt, dE_ex, true_and, Bool.not_true, Bool.not_false, decide_true, if_true, if_false, Bool.false_eq_true])
    have hk2 : k.toNat < ns.length := by
      rw [List.length_map] at h
      omega
    refine i_ix ha (at_int hk (d := .int ns[k.toNat]) (by rw [List.getElem?_map, List.getElem?_eq_getElem hk2]; rfl)) ?_
    rw [q1.rt, dE_rt]
    exact wk_of (Le.refl _) (q _)
  · (try simp only [s_for, s_lc, qiRng1, qiRng2, qiVal, brL_t, brL_f, qNext, qBreak, qCont, qDrop, qRet, qRetN, s_if, qgName, qgNil, qgCons, qgTup, qgSub, qAsg, qPar, qVar, qC, qOp, qUn, qTest, s_and, s_or, qNot, s_andV, s_orV, qNotV, s_ifE, qNil, qCons, qTup, qLst, qCB, qBM, qSl, qNoPart, qPart, qNeg, qAdd, qLt, qEq, qDNew, qFld, qFldS, qCall, qMeth, qMake, qRaise, qTry, qLRng, qYes, brS_t, brS_f, brW_t, brW_f, brA_t, brA_f, brO_t, brO_f, brAV_t, brAV_f, brOV_t, brOV_f, brI_t, brI_f, s_wipe0, s_wipeS, slot_0, slot_s, set_0, set_s, ln0, ln1, ln2, ln3, ln4, ln5, s_len_t, s_list_t, s_tup_t, s_int_i, s_int_b, s_min2, s_max2, s_min3, s_str, s_ty_s, s_le, s_gt, s_ge, s_sub, s_mul, s_mod, s_fdiv, s_pow, dE_nx, dE_rt, dE_ex, true_and, Bool.not_true, Bool.not_false, decide_true, if_true, if_false, Bool.false_eq_true])
    refine q1.nx _ _ ?_
    (try simp only [s_for, s_lc, qiRng1, qiRng2, qiVal, brL_t, brL_f, qNext, qBreak, qCont, qDrop, qRet, qRetN, s_if, qgName, qgNil, qgCons, qgTup, qgSub, qAsg, qPar, qVar, qC, qOp, qUn, qTest, s_and, s_or, qNot, s_andV, s_orV, qNotV, s_ifE, qNil, qCons, qTup, qLst, qCB, qBM, qSl, qNoPart, qPart, qNeg, qAdd, qLt, qEq, qDNew, qFld, qFldS, qCall, qMeth, qMake, qRaise, qTry, qLRng, qYes, brS_t, brS_f, brW_t, brW_f, brA_t, brA_f, brO_t, brO_f, brAV_t, brAV_f, brOV_t, brOV_f, brI_t, brI_f, s_wipe0, s_wipeS, slot_0, slot_s, set_0, set_s, ln0, ln1, ln2, ln3, ln4, ln5, s_len_t, s_list_t, s_tup_t, s_int_i, s_int_b, s_min2, s_max2, s_min3, s_str, s_ty_s, s_le, s_gt, s_ge, s_sub, s_mul, s_mod, s_fdiv, s_pow, dE_nx, dE_rt, dE_ex, true_and, Bool.not_true, Bool.not_false, decide_true, if_true, if_false, Bool.false_eq_true])
    exact wk_of (Le.refl _) (q _)
theorem alpha_all : ∀ n : Nat, n < 26 → ∃ c, ("abcdefghijklmnopqrstuvwxyz" : Str).cps.toList[n]? = some c ∧ 97 ≤ c ∧ c ≤ 122 := by decide +kernel
theorem alpha_len : ("abcdefghijklmnopqrstuvwxyz" : Str).cps.toList.length = 26 := by decide +kernel
theorem alpha_at {i : Int} (h0 : 0 ≤ i) (h1 : i < 26) : ∃ c, atI ("abcdefghijklmnopqrstuvwxyz" : Str).cps.toList i = some c ∧ 97 ≤ c ∧ c ≤ 122 := by
  obtain ⟨n, rfl⟩ := Int.eq_ofNat_of_zero_le h0
  obtain ⟨c, e, h⟩ := alpha_all n (by omega)
  refine ⟨c, ?_, h⟩
  have h2 : ((n : Nat) : Int) < (26 : Nat) := by omega
  have e2 : ixN 26 ((n : Nat) : Int) = some n := by
    unfold ixN
    rw [if_pos (by omega), if_pos h2]
    rfl
  unfold atI
  rw [alpha_len, e2]
  exact e
theorem alpha_len2 : ("abcdefghijklmnopqrstuvwxyz" : Str).length ≤ 1000000 := by decide +kernel
theorem str_app_len (a b : Str) : (a ++ b).length = a.length + b.length := by
  show (a.cps ++ b.cps).size = a.cps.size + b.cps.size
  exact Array.size_append
theorem str_app_mem {a b : Str} {c : Nat} (h : c ∈ (a ++ b).cps.toList) : c ∈ a.cps.toList ∨ c ∈ b.cps.toList := by
  have e : (a ++ b).cps.toList = a.cps.toList ++ b.cps.toList := by
    show (a.cps ++ b.cps).toList = _
    simp
  rw [e] at h
  exact List.mem_append.mp h
def Low (w : Str) : Prop := ∀ c ∈ w.cps.toList, 97 ≤ c ∧ c ≤ 122
theorem low_app {a b : Str} (ha : Low a) (hb : Low b) : Low (a ++ b) := fun c hc => (str_app_mem hc).elim (ha c) (hb c)
theorem low_one {c : Nat} (h : 97 ≤ c ∧ c ≤ 122) : Low (⟨#[c]⟩ : Str) := fun d hd => by
  have : d = c := by simpa using hd
  rw [this]; exact h
theorem r_word : ∀ ds P Q E, sp__law_word ds P Q E → t__law_word (dEnds Q E) (startD n__law_word ds) P := by
  rintro ds P Q E ⟨c, rfl, q⟩
  rw [st__law_word]
  unfold t__law_word
  refine seq_intro fun D1 q1 => ?_
  (try simp only [s_for, s_lc, qiRng1, qiRng2, qiVal, brL_t, brL_f, qNext, qBreak, qCont, qDrop, qRet, qRetN, s_if, qgName, qgNil, qgCons, qgTup, qgSub, qAsg, qPar, qVar, qC, qOp, qUn, qTest, s_and, s_or, qNot, s_andV, s_orV, qNotV, s_ifE, qNil, qCons, qTup, qLst, qCB, qBM, qSl, qNoPart, qPart, qNeg, qAdd, qLt, qEq, qDNew, qFld, qFldS, qCall, qMeth, qMake, qRaise, qTry, qLRng, qYes, brS_t, brS_f, brW_t, brW_f, brA_t, brA_f, brO_t, brO_f, brAV_t, brAV_f, brOV_t, brOV_f, brI_t, brI_f, s_wipe0, s_wipeS, slot_0, slot_s, set_0, set_s, ln0, ln1, ln2, ln3, ln4, ln5, s_len_t, s_list_t, s_tup_t, s_int_i, s_int_b, s_min2, s_max2, s_min3, s_str, s_ty_s, s_le, s_gt, s_ge, s_sub, s_mul, s_mod, s_fdiv, s_pow, dE_nx, dE_rt, dE_ex, true_and, Bool.not_true, Bool.not_false, decide_true, if_true, if_false, Bool.false_eq_true])
  refine q1.nx _ _ (seq_intro fun D2 q2 => ?_)
  (try simp only [s_for, s_lc, qiRng1, qiRng2, qiVal, brL_t, brL_f, qNext, qBreak, qCont, qDrop, qRet, qRetN, s_if, qgName, qgNil, qgCons, qgTup, qgSub, qAsg, qPar, qVar, qC, qOp, qUn, qTest, s_and, s_or, qNot, s_andV, s_orV, qNotV, s_ifE, qNil, qCons, qTup, qLst, qCB, qBM, qSl, qNoPart, qPart, qNeg, qAdd, qLt, qEq, qDNew, qFld, qFldS, qCall, qMeth, qMake, qRaise, qTry, qLRng, qYes, brS_t, brS_f, brW_t, brW_f, brA_t, brA_f, brO_t, brO_f, brAV_t, brAV_f, brOV_t, brOV_f, brI_t, brI_f, s_wipe0, s_wipeS, slot_0, slot_s, set_0, set_s, ln0, ln1, ln2, ln3, ln4, ln5, s_len_t, s_list_t, s_tup_t, s_int_i, s_int_b, s_min2, s_max2, s_min3, s_str, s_ty_s, s_le, s_gt, s_ge, s_sub, s_mul, s_mod, s_fdiv, s_pow, dE_nx, dE_rt, dE_ex, true_and, Bool.not_true, Bool.not_false, decide_true, if_true, if_false, Bool.false_eq_true])
  refine ⟨by decide, by omega, ?_⟩
  refine for_intro (fun i σ P' => ∃ w : Str, σ = [some (.int c), some (.str w), none, none] ∧ P' = P ∧ w.length = i ∧ Low w) ⟨"", rfl, rfl, rfl, fun d hd => nomatch (show d ∈ ([] : List Nat) from hd)⟩ ?_ ?_
  · rintro i x σ P' D3 hx ⟨w, rfl, rfl, hw, hl⟩ lp
    have hi : i < (1 + c % 8).toNat := by
      have := (List.getElem?_eq_some_iff.mp hx).1
      rw [rgD_length] at this
      omega
    rw [rgD_get (by omega)] at hx
    cases hx
    refine ⟨trivial, ?_⟩
    (try simp only [s_for, s_lc, qiRng1, qiRng2, qiVal, brL_t, brL_f, qNext, qBreak, qCont, qDrop, qRet, qRetN, s_if, qgName, qgNil, qgCons, qgTup, qgSub, qAsg, qPar, qVar, qC, qOp, qUn, qTest, s_and, s_or, qNot, s_andV, s_orV, qNotV, s_ifE, qNil, qCons, qTup, qLst, qCB, qBM, qSl, qNoPart, qPart, qNeg, qAdd, qLt, qEq, qDNew, qFld, qFldS, qCall, qMeth, qMake, qRaise, qTry, qLRng, qYes, brS_t, brS_f, brW_t, brW_f, brA_t, brA_f, brO_t, brO_f, brAV_t, brAV_f, brOV_t, brOV_f, brI_t, brI_f, s_wipe0, s_wipeS, slot_0, slot_s, set_0, set_s, ln0, ln1, ln2, ln3, ln4, ln5, s_len_t, s_list_t, s_tup_t, s_int_i, s_int_b, s_min2, s_max2, s_min3, s_str, s_ty_s, s_le, s_gt, s_ge, s_sub, s_mul, s_mod, s_fdiv, s_pow, dE_nx, dE_rt, dE_ex, true_and, Bool.not_true, Bool.not_false, decide_true, if_true, if_false, Bool.false_eq_true])
    refine seq_intro fun D4 q4 => ?_
    (try simp only [s_for, s_lc, qiRng1, qiRng2, qiVal, brL_t, brL_f, qNext, qBreak, qCont, qDrop, qRet, qRetN, s_if, qgName, qgNil, qgCons, qgTup, qgSub, qAsg, qPar, qVar, qC, qOp, qUn, qTest, s_and, s_or, qNot, s_andV, s_orV, qNotV, s_ifE, qNil, qCons, qTup, qLst, qCB, qBM, qSl, qNoPart, qPart, qNeg, qAdd, qLt, qEq, qDNew, qFld, qFldS, qCall, qMeth, qMake, qRaise, qTry, qLRng, qYes, brS_t, brS_f, brW_t, brW_f, brA_t, brA_f, brO_t, brO_f, brAV_t, brAV_f, brOV_t, brOV_f, brI_t, brI_f, s_wipe0, s_wipeS, slot_0, slot_s, set_0, set_s, ln0, ln1, ln2, ln3, ln4, ln5, s_len_t, s_list_t, s_tup_t, s_int_i, s_int_b, s_min2, s_max2, s_min3, s_str, s_ty_s, s_le, s_gt, s_ge, s_sub, s_mul, s_mod, s_fdiv, s_pow, dE_nx, dE_rt, dE_ex, true_and, Bool.not_true, Bool.not_false, decide_true, if_true, if_false, Bool.false_eq_true])
    refine ⟨by unfold CDiv; omega, by unfold CDiv; omega, .inr (by decide), .inl (by decide), ?_⟩
    refine q4.nx _ _ ?_
    (try simp only [s_for, s_lc, qiRng1, qiRng2, qiVal, brL_t, brL_f, qNext, qBreak, qCont, qDrop, qRet, qRetN, s_if, qgName, qgNil, qgCons, qgTup, qgSub, qAsg, qPar, qVar, qC, qOp, qUn, qTest, s_and, s_or, qNot, s_andV, s_orV, qNotV, s_ifE, qNil, qCons, qTup, qLst, qCB, qBM, qSl, qNoPart, qPart, qNeg, qAdd, qLt, qEq, qDNew, qFld, qFldS, qCall, qMeth, qMake, qRaise, qTry, qLRng, qYes, brS_t, brS_f, brW_t, brW_f, brA_t, brA_f, brO_t, brO_f, brAV_t, brAV_f, brOV_t, brOV_f, brI_t, brI_f, s_wipe0, s_wipeS, slot_0, slot_s, set_0, set_s, ln0, ln1, ln2, ln3, ln4, ln5, s_len_t, s_list_t, s_tup_t, s_int_i, s_int_b, s_min2, s_max2, s_min3, s_str, s_ty_s, s_le, s_gt, s_ge, s_sub, s_mul, s_mod, s_fdiv, s_pow, dE_nx, dE_rt, dE_ex, true_and, Bool.not_true, Bool.not_false, decide_true, if_true, if_false, Bool.false_eq_true])
    refine ⟨by decide, by decide, ?_⟩
    obtain ⟨ch, e, hc⟩ := alpha_at (i := (c / 8 / (0 + (i : Int) + 1) * 48271 + 31 * (0 + (i : Int))) % 65537 % 26) (by omega) (by omega)
    refine i_ixS alpha_len2 e ?_
    (try simp only [s_for, s_lc, qiRng1, qiRng2, qiVal, brL_t, brL_f, qNext, qBreak, qCont, qDrop, qRet, qRetN, s_if, qgName, qgNil, qgCons, qgTup, qgSub, qAsg, qPar, qVar, qC, qOp, qUn, qTest, s_and, s_or, qNot, s_andV, s_orV, qNotV, s_ifE, qNil, qCons, qTup, qLst, qCB, qBM, qSl, qNoPart, qPart, qNeg, qAdd, qLt, qEq, qDNew, qFld, qFldS, qCall, qMeth, qMake, qRaise, qTry, qLRng, qYes, brS_t, brS_f, brW_t, brW_f, brA_t, brA_f, brO_t, brO_f, brAV_t, brAV_f, brOV_t, brOV_f, brI_t, brI_f, s_wipe0, s_wipeS, slot_0, slot_s, set_0, set_s, ln0, ln1, ln2, ln3, ln4, ln5, s_len_t, s_list_t, s_tup_t, s_int_i, s_int_b, s_min2, s_max2, s_min3, s_str, s_ty_s, s_le, s_gt, s_ge, s_sub, s_mul, s_mod, s_fdiv, s_pow, dE_nx, dE_rt, dE_ex, true_and, Bool.not_true, Bool.not_false, decide_true, if_true, if_false, Bool.false_eq_true])
    refine ⟨?_, lp.nx _ _ ⟨_, _, ?_, Le.refl _, w ++ ⟨#[ch]⟩, rfl, rfl, ?_, low_app hl (low_one hc)⟩⟩
    · rw [hw]
      show i + 1 ≤ _
      rw [sizeLine_eq]; omega
    · (repeat' first | exact fg_0 | refine fg_s ?_ | refine fg_n ?_)
    · rw [str_app_len, hw]; rfl
  · rintro σ P' ⟨w, rfl, rfl, hw, hl⟩
    refine ⟨trivial, q2.nx _ _ ?_⟩
    (try simp only [s_for, s_lc, qiRng1, qiRng2, qiVal, brL_t, brL_f, qNext, qBreak, qCont, qDrop, qRet, qRetN, s_if, qgName, qgNil, qgCons, qgTup, qgSub, qAsg, qPar, qVar, qC, qOp, qUn, qTest, s_and, s_or, qNot, s_andV, s_orV, qNotV, s_ifE, qNil, qCons, qTup, qLst, qCB, qBM, qSl, qNoPart, qPart, qNeg, qAdd, qLt, qEq, qDNew, qFld, qFldS, qCall, qMeth, qMake, qRaise, qTry, qLRng, qYes, brS_t, brS_f, brW_t, brW_f, brA_t, brA_f, brO_t, brO_f, brAV_t, brAV_f, brOV_t, brOV_f, brI_t, brI_f, s_wipe0, s_wipeS, slot_0, slot_s, set_0, set_s, ln0, ln1, ln2, ln3, ln4, ln5, s_len_t, s_list_t, s_tup_t, s_int_i, s_int_b, s_min2, s_max2, s_min3, s_str, s_ty_s, s_le, s_gt, s_ge, s_sub, s_mul, s_mod, s_fdiv, s_pow, dE_nx, dE_rt, dE_ex, true_and, Bool.not_true, Bool.not_false, decide_true, if_true, if_false, Bool.false_eq_true])
    refine wk_of (Le.refl _) (q w ⟨?_, ?_, hl⟩)
    · rw [hw, rgD_length]; omega
    · rw [hw, rgD_length]; omega
theorem low_cut {z : Str} (h : Low z) (lo hi : Option Int) : Low (cutS z lo hi) := fun c hc => by
  have hc : c ∈ ((z.cps.toList.drop (HT.sIx z.length 0 lo)).take (HT.sIx z.length z.length hi - HT.sIx z.length 0 lo)).toArray.toList := hc
  rw [List.toList_toArray] at hc
  exact h c (List.mem_of_mem_drop (List.mem_of_mem_take hc))
theorem cut_to {z : Str} {n : Nat} (h : n ≤ z.length) : (cutS z none (some (n : Int))).length = n := by
  show (((z.cps.toList.drop (HT.sIx z.length 0 none)).take (HT.sIx z.length z.length (some (n : Int)) - HT.sIx z.length 0 none)).toArray).size = n
  have h' : n ≤ z.cps.size := h
  rw [List.size_toArray, List.length_take, List.length_drop, Array.length_toList, HT.sIx_none, HT.sIx_nat]
  show min (min n z.cps.size - 0) (z.cps.size - 0) = n
  omega
theorem cut_from {z : Str} {n : Nat} (h : n ≤ z.length) : (cutS z (some (n : Int)) none).length = z.length - n := by
  show (((z.cps.toList.drop (HT.sIx z.length 0 (some (n : Int)))).take (HT.sIx z.length z.length none - HT.sIx z.length 0 (some (n : Int)))).toArray).size = z.cps.size - n
  have h' : n ≤ z.cps.size := h
  rw [List.size_toArray, List.length_take, List.length_drop, Array.length_toList, HT.sIx_none, HT.sIx_nat]
  show min (z.cps.size - min n z.cps.size) (z.cps.size - min n z.cps.size) = z.cps.size - n
  omega
theorem list_words : ∀ {ys : List D}, (∀ y ∈ ys, ∃ w, y = .str w ∧ WordOk w) → ∃ ws : List Str, ys = txts ws ∧ ∀ w ∈ ws, WordOk w
  | [], _ => ⟨[], rfl, fun _ h => nomatch h⟩
  | y :: ys, h => by
    obtain ⟨w, rfl, hw⟩ := h y List.mem_cons_self
    obtain ⟨ws, rfl, hws⟩ := list_words (ys := ys) fun z hz => h z (List.mem_cons_of_mem _ hz)
    refine ⟨w :: ws, rfl, fun v hv => ?_⟩
    rcases List.mem_cons.mp hv with rfl | hv
    · exact hw
    · exact hws v hv
theorem r_pool : ∀ ds P Q E, sp__law_pool ds P Q E → t__law_pool (dEnds Q E) (startD n__law_pool ds) P := by
  rintro ds P Q E ⟨c, m, rfl, hm0, hm, q⟩
  rw [st__law_pool]
  unfold t__law_pool
  refine seq_intro fun D1 q1 => ?_
  (try simp only [s_for, s_lc, qiRng1, qiRng2, qiVal, brL_t, brL_f, qNext, qBreak, qCont, qDrop, qRet, qRetN, s_if, qgName, qgNil, qgCons, qgTup, qgSub, qAsg, qPar, qVar, qC, qOp, qUn, qTest, s_and, s_or, qNot, s_andV, s_orV, qNotV, s_ifE, qNil, qCons, qTup, qLst, qCB, qBM, qSl, qNoPart, qPart, qNeg, qAdd, qLt, qEq, qDNew, qFld, qFldS, qCall, qMeth, qMake, qRaise, qTry, qLRng, qYes, brS_t, brS_f, brW_t, brW_f, brA_t, brA_f, brO_t, brO_f, brAV_t, brAV_f, brOV_t, brOV_f, brI_t, brI_f, s_wipe0, s_wipeS, slot_0, slot_s, set_0, set_s, ln0, ln1, ln2, ln3, ln4, ln5, s_len_t, s_list_t, s_tup_t, s_int_i, s_int_b, s_min2, s_max2, s_min3, s_str, s_ty_s, s_le, s_gt, s_ge, s_sub, s_mul, s_mod, s_fdiv, s_pow, dE_nx, dE_rt, dE_ex, true_and, Bool.not_true, Bool.not_false, decide_true, if_true, if_false, Bool.false_eq_true])
  refine ⟨c, rfl, fun base hb => ?_⟩
  (try simp only [s_for, s_lc, qiRng1, qiRng2, qiVal, brL_t, brL_f, qNext, qBreak, qCont, qDrop, qRet, qRetN, s_if, qgName, qgNil, qgCons, qgTup, qgSub, qAsg, qPar, qVar, qC, qOp, qUn, qTest, s_and, s_or, qNot, s_andV, s_orV, qNotV, s_ifE, qNil, qCons, qTup, qLst, qCB, qBM, qSl, qNoPart, qPart, qNeg, qAdd, qLt, qEq, qDNew, qFld, qFldS, qCall, qMeth, qMake, qRaise, qTry, qLRng, qYes, brS_t, brS_f, brW_t, brW_f, brA_t, brA_f, brO_t, brO_f, brAV_t, brAV_f, brOV_t, brOV_f, brI_t, brI_f, s_wipe0, s_wipeS, slot_0, slot_s, set_0, set_s, ln0, ln1, ln2, ln3, ln4, ln5, s_len_t, s_list_t, s_tup_t, s_int_i, s_int_b, s_min2, s_max2, s_min3, s_str, s_ty_s, s_le, s_gt, s_ge, s_sub, s_mul, s_mod, s_fdiv, s_pow, dE_nx, dE_rt, dE_ex, true_and, Bool.not_true, Bool.not_false, decide_true, if_true, if_false, Bool.false_eq_true])
  refine q1.nx _ _ (seq_intro fun D2 q2 => ?_)
  (try simp only [s_for, s_lc, qiRng1, qiRng2, qiVal, brL_t, brL_f, qNext, qBreak, qCont, qDrop, qRet, qRetN, s_if, qgName, qgNil, qgCons, qgTup, qgSub, qAsg, qPar, qVar, qC, qOp, qUn, qTest, s_and, s_or, qNot, s_andV, s_orV, qNotV, s_ifE, qNil, qCons, qTup, qLst, qCB, qBM, qSl, qNoPart, qPart, qNeg, qAdd, qLt, qEq, qDNew, qFld, qFldS, qCall, qMeth, qMake, qRaise, qTry, qLRng, qYes, brS_t, brS_f, brW_t, brW_f, brA_t, brA_f, brO_t, brO_f, brAV_t, brAV_f, brOV_t, brOV_f, brI_t, brI_f, s_wipe0, s_wipeS, slot_0, slot_s, set_0, set_s, ln0, ln1, ln2, ln3, ln4, ln5, s_len_t, s_list_t, s_tup_t, s_int_i, s_int_b, s_min2, s_max2, s_min3, s_str, s_ty_s, s_le, s_gt, s_ge, s_sub, s_mul, s_mod, s_fdiv, s_pow, dE_nx, dE_rt, dE_ex, true_and, Bool.not_true, Bool.not_false, decide_true, if_true, if_false, Bool.false_eq_true])
  have hbl := hb.2.1
  have hb0 := hb.1
  refine ⟨by unfold CDiv; decide, i_lenS (by omega) ?_⟩
  (try simp only [s_for, s_lc, qiRng1, qiRng2, qiVal, brL_t, brL_f, qNext, qBreak, qCont, qDrop, qRet, qRetN, s_if, qgName, qgNil, qgCons, qgTup, qgSub, qAsg, qPar, qVar, qC, qOp, qUn, qTest, s_and, s_or, qNot, s_andV, s_orV, qNotV, s_ifE, qNil, qCons, qTup, qLst, qCB, qBM, qSl, qNoPart, qPart, qNeg, qAdd, qLt, qEq, qDNew, qFld, qFldS, qCall, qMeth, qMake, qRaise, qTry, qLRng, qYes, brS_t, brS_f, brW_t, brW_f, brA_t, brA_f, brO_t, brO_f, brAV_t, brAV_f, brOV_t, brOV_f, brI_t, brI_f, s_wipe0, s_wipeS, slot_0, slot_s, set_0, set_s, ln0, ln1, ln2, ln3, ln4, ln5, s_len_t, s_list_t, s_tup_t, s_int_i, s_int_b, s_min2, s_max2, s_min3, s_str, s_ty_s, s_le, s_gt, s_ge, s_sub, s_mul, s_mod, s_fdiv, s_pow, dE_nx, dE_rt, dE_ex, true_and, Bool.not_true, Bool.not_false, decide_true, if_true, if_false, Bool.false_eq_true])
  refine ⟨by omega, q2.nx _ _ (seq_intro fun D3 q3 => ?_)⟩
  (try simp only [s_for, s_lc, qiRng1, qiRng2, qiVal, brL_t, brL_f, qNext, qBreak, qCont, qDrop, qRet, qRetN, s_if, qgName, qgNil, qgCons, qgTup, qgSub, qAsg, qPar, qVar, qC, qOp, qUn, qTest, s_and, s_or, qNot, s_andV, s_orV, qNotV, s_ifE, qNil, qCons, qTup, qLst, qCB, qBM, qSl, qNoPart, qPart, qNeg, qAdd, qLt, qEq, qDNew, qFld, qFldS, qCall, qMeth, qMake, qRaise, qTry, qLRng, qYes, brS_t, brS_f, brW_t, brW_f, brA_t, brA_f, brO_t, brO_f, brAV_t, brAV_f, brOV_t, brOV_f, brI_t, brI_f, s_wipe0, s_wipeS, slot_0, slot_s, set_0, set_s, ln0, ln1, ln2, ln3, ln4, ln5, s_len_t, s_list_t, s_tup_t, s_int_i, s_int_b, s_min2, s_max2, s_min3, s_str, s_ty_s, s_le, s_gt, s_ge, s_sub, s_mul, s_mod, s_fdiv, s_pow, dE_nx, dE_rt, dE_ex, true_and, Bool.not_true, Bool.not_false, decide_true, if_true, if_false, Bool.false_eq_true])
  refine q3.nx _ _ ?_
  (try simp only [s_for, s_lc, qiRng1, qiRng2, qiVal, brL_t, brL_f, qNext, qBreak, qCont, qDrop, qRet, qRetN, s_if, qgName, qgNil, qgCons, qgTup, qgSub, qAsg, qPar, qVar, qC, qOp, qUn, qTest, s_and, s_or, qNot, s_andV, s_orV, qNotV, s_ifE, qNil, qCons, qTup, qLst, qCB, qBM, qSl, qNoPart, qPart, qNeg, qAdd, qLt, qEq, qDNew, qFld, qFldS, qCall, qMeth, qMake, qRaise, qTry, qLRng, qYes, brS_t, brS_f, brW_t, brW_f, brA_t, brA_f, brO_t, brO_f, brAV_t, brAV_f, brOV_t, brOV_f, brI_t, brI_f, s_wipe0, s_wipeS, slot_0, slot_s, set_0, set_s, ln0, ln1, ln2, ln3, ln4, ln5, s_len_t, s_list_t, s_tup_t, s_int_i, s_int_b, s_min2, s_max2, s_min3, s_str, s_ty_s, s_le, s_gt, s_ge, s_sub, s_mul, s_mod, s_fdiv, s_pow, dE_nx, dE_rt, dE_ex, true_and, Bool.not_true, Bool.not_false, decide_true, if_true, if_false, Bool.false_eq_true])
  refine ⟨by omega, ?_⟩
  obtain ⟨n, hn⟩ := Int.eq_ofNat_of_zero_le (a := c / 64 % (base.length : Int)) (Int.emod_nonneg _ (by omega))
  have hnl : n < base.length := by
    have := Int.emod_lt_of_pos (c / 64) (b := (base.length : Int)) (by omega)
    omega
  rw [hn]
  refine lc_any (fun _ _ y => ∃ w, y = .str w ∧ WordOk w) (by rw [rgD_length]; omega) (fun _ _ => trivial) ?_ ?_
  · intro i x P2 K hx hP hK
    have hi : i < m.toNat := by
      have := (List.getElem?_eq_some_iff.mp hx).1
      rw [rgD_length] at this
      omega
    rw [rgD_get hi] at hx
    cases hx
    (try simp only [s_for, s_lc, qiRng1, qiRng2, qiVal, brL_t, brL_f, qNext, qBreak, qCont, qDrop, qRet, qRetN, s_if, qgName, qgNil, qgCons, qgTup, qgSub, qAsg, qPar, qVar, qC, qOp, qUn, qTest, s_and, s_or, qNot, s_andV, s_orV, qNotV, s_ifE, qNil, qCons, qTup, qLst, qCB, qBM, qSl, qNoPart, qPart, qNeg, qAdd, qLt, qEq, qDNew, qFld, qFldS, qCall, qMeth, qMake, qRaise, qTry, qLRng, qYes, brS_t, brS_f, brW_t, brW_f, brA_t, brA_f, brO_t, brO_f, brAV_t, brAV_f, brOV_t, brOV_f, brI_t, brI_f, s_wipe0, s_wipeS, slot_0, slot_s, set_0, set_s, ln0, ln1, ln2, ln3, ln4, ln5, s_len_t, s_list_t, s_tup_t, s_int_i, s_int_b, s_min2, s_max2, s_min3, s_str, s_ty_s, s_le, s_gt, s_ge, s_sub, s_mul, s_mod, s_fdiv, s_pow, dE_nx, dE_rt, dE_ex, true_and, Bool.not_true, Bool.not_false, decide_true, if_true, if_false, Bool.false_eq_true])
    refine ⟨by rw [sizeLine_eq]; omega, by unfold CDiv; decide, .inl (by decide), by decide, ?_⟩
    obtain ⟨ch, e, hc⟩ := alpha_at (i := (c / 512 + 5 * (0 + (i : Int))) % 26) (by omega) (by omega)
    refine i_ixS alpha_len2 e ?_
    (try simp only [s_for, s_lc, qiRng1, qiRng2, qiVal, brL_t, brL_f, qNext, qBreak, qCont, qDrop, qRet, qRetN, s_if, qgName, qgNil, qgCons, qgTup, qgSub, qAsg, qPar, qVar, qC, qOp, qUn, qTest, s_and, s_or, qNot, s_andV, s_orV, qNotV, s_ifE, qNil, qCons, qTup, qLst, qCB, qBM, qSl, qNoPart, qPart, qNeg, qAdd, qLt, qEq, qDNew, qFld, qFldS, qCall, qMeth, qMake, qRaise, qTry, qLRng, qYes, brS_t, brS_f, brW_t, brW_f, brA_t, brA_f, brO_t, brO_f, brAV_t, brAV_f, brOV_t, brOV_f, brI_t, brI_f, s_wipe0, s_wipeS, slot_0, slot_s, set_0, set_s, ln0, ln1, ln2, ln3, ln4, ln5, s_len_t, s_list_t, s_tup_t, s_int_i, s_int_b, s_min2, s_max2, s_min3, s_str, s_ty_s, s_le, s_gt, s_ge, s_sub, s_mul, s_mod, s_fdiv, s_pow, dE_nx, dE_rt, dE_ex, true_and, Bool.not_true, Bool.not_false, decide_true, if_true, if_false, Bool.false_eq_true])
    have l1 := cut_to (z := base) (n := n) (by omega)
    have l2 := cut_from (z := base) (n := n + 1) (by omega)
    have l3 : (⟨#[ch]⟩ : Str).length = 1 := rfl
    have e1 : ((n : Nat) : Int) + 1 = ((n + 1 : Nat) : Int) := by omega
    have l4 := str_app_len (cutS base none (some (n : Int))) ⟨#[ch]⟩
    have hz : ∀ j, j ≤ 100 → j ≤ sizeLine := fun j h => by rw [sizeLine_eq]; omega
    rw [e1]
    refine ⟨hz _ (by omega), hz _ (by omega), hz _ (by omega), hK _ _ (Le.refl _) ⟨_, rfl, ?_, ?_, ?_⟩⟩
    · rw [str_app_len]; omega
    · rw [str_app_len]; omega
    · exact low_app (low_app (low_cut hb.2.2 _ _) (low_one hc)) (low_cut hb.2.2 _ _)
  · intro l ys hl hlen hC
    obtain ⟨ws, rfl, hws⟩ := list_words (ys := ys) fun y hy => by
      obtain ⟨j, hj, rfl⟩ := List.getElem_of_mem hy
      exact hC j ((rgD 0 m.toNat)[j]'(by omega)) _ (List.getElem?_eq_getElem _) (List.getElem?_eq_getElem hj)
    rw [txtB_len, rgD_length] at hlen
    exact wk_of (Le.refl _) (q l ws hl (by omega) hws)
end K83
namespace K83
open PySem PySem.Spec L2 PL
theorem r_is (K : PySem.W.Frag) : ∀ ds P Q E, sp__law_is ds P Q E → t__law_is K (dEnds Q E) (startD n__law_is ds) P := by
  rintro ds P Q E ⟨i, j, rfl, q⟩
  rw [st__law_is]
  unfold t__law_is
  (try simp only [s_for, s_lc, qiRng1, qiRng2, qiVal, brL_t, brL_f, qNext, qBreak, qCont, qDrop, qRet, qRetN, s_if, qgName, qgNil, qgCons, qgTup, qgSub, qAsg, qPar, qVar, qC, qOp, qUn, qTest, s_and, s_or, qNot, s_andV, s_orV, qNotV, s_ifE, qNil, qCons, qTup, qLst, qCB, qBM, qSl, qNoPart, qPart, qNeg, qAdd, qLt, qEq, qDNew, qFld, qFldS, qCall, qMeth, qMake, qRaise, qTry, qLRng, qYes, brS_t, brS_f, brW_t, brW_f, brA_t, brA_f, brO_t, brO_f, brAV_t, brAV_f, brOV_t, brOV_f, brI_t, brI_f, s_wipe0, s_wipeS, slot_0, slot_s, set_0, set_s, ln0, ln1, ln2, ln3, ln4, ln5, s_len_t, s_list_t, s_tup_t, s_int_i, s_int_b, s_min2, s_max2, s_min3, s_str, s_ty_s, s_le, s_gt, s_ge, s_sub, s_mul, s_mod, s_fdiv, s_pow, dE_nx, dE_rt, dE_ex, true_and, Bool.not_true, Bool.not_false, decide_true, if_true, if_false, Bool.false_eq_true])
  refine ⟨"int", true, .inl rfl, kit_ty (by decide +kernel), ?_⟩
  (try simp only [s_for, s_lc, qiRng1, qiRng2, qiVal, brL_t, brL_f, qNext, qBreak, qCont, qDrop, qRet, qRetN, s_if, qgName, qgNil, qgCons, qgTup, qgSub, qAsg, qPar, qVar, qC, qOp, qUn, qTest, s_and, s_or, qNot, s_andV, s_orV, qNotV, s_ifE, qNil, qCons, qTup, qLst, qCB, qBM, qSl, qNoPart, qPart, qNeg, qAdd, qLt, qEq, qDNew, qFld, qFldS, qCall, qMeth, qMake, qRaise, qTry, qLRng, qYes, brS_t, brS_f, brW_t, brW_f, brA_t, brA_f, brO_t, brO_f, brAV_t, brAV_f, brOV_t, brOV_f, brI_t, brI_f, s_wipe0, s_wipeS, slot_0, slot_s, set_0, set_s, ln0, ln1, ln2, ln3, ln4, ln5, s_len_t, s_list_t, s_tup_t, s_int_i, s_int_b, s_min2, s_max2, s_min3, s_str, s_ty_s, s_le, s_gt, s_ge, s_sub, s_mul, s_mod, s_fdiv, s_pow, dE_nx, dE_rt, dE_ex, true_and, Bool.not_true, Bool.not_false, decide_true, if_true, if_false, Bool.false_eq_true])
  refine ⟨"int", false, .inl rfl, kit_ty (by decide +kernel), ?_⟩
  (try simp only [s_for, s_lc, qiRng1, qiRng2, qiVal, brL_t, brL_f, qNext, qBreak, qCont, qDrop, qRet, qRetN, s_if, qgName, qgNil, qgCons, qgTup, qgSub, qAsg, qPar, qVar, qC, qOp, qUn, qTest, s_and, s_or, qNot, s_andV, s_orV, qNotV, s_ifE, qNil, qCons, qTup, qLst, qCB, qBM, qSl, qNoPart, qPart, qNeg, qAdd, qLt, qEq, qDNew, qFld, qFldS, qCall, qMeth, qMake, qRaise, qTry, qLRng, qYes, brS_t, brS_f, brW_t, brW_f, brA_t, brA_f, brO_t, brO_f, brAV_t, brAV_f, brOV_t, brOV_f, brI_t, brI_f, s_wipe0, s_wipeS, slot_0, slot_s, set_0, set_s, ln0, ln1, ln2, ln3, ln4, ln5, s_len_t, s_list_t, s_tup_t, s_int_i, s_int_b, s_min2, s_max2, s_min3, s_str, s_ty_s, s_le, s_gt, s_ge, s_sub, s_mul, s_mod, s_fdiv, s_pow, dE_nx, dE_rt, dE_ex, true_and, Bool.not_true, Bool.not_false, decide_true, if_true, if_false, Bool.false_eq_true])
  exact wk_of (Le.refl _) q
/-- the trees, each a tuple -/
theorem gD_at : ∀ {g : Gr} {i : Nat} {x : D}, (gD g)[i]? = some x → ∃ t k, (trees g)[i]? = some (t, k) ∧ x = .tup [.str t, .tup (gD k)]
  | .cons t k r, 0, x, h => by
    cases h
    exact ⟨t, k, rfl, rfl⟩
  | .cons t k r, i + 1, x, h => gD_at (g := r) (i := i) h
  | .nil, i, x, h => by simp [gD] at h
theorem tree_le : ∀ {g : Gr} {i : Nat} {t : Str} {k : Gr}, (trees g)[i]? = some (t, k) → k.size + 1 ≤ g.size ∧ k.dep + 1 ≤ g.dep
  | .cons t k r, 0, _, _, h => by
    cases h
    show k.size + 1 ≤ 1 + k.size + r.size ∧ k.dep + 1 ≤ max (k.dep + 1) r.dep
    omega
  | .cons t k r, i + 1, u, l, h => by
    have := tree_le (g := r) (i := i) h
    show _ ≤ 1 + k.size + r.size ∧ _ ≤ max (k.dep + 1) r.dep
    omega
  | .nil, i, _, _, h => by simp [trees] at h
theorem trees_len : ∀ g : Gr, (trees g).length = (gD g).length
  | .nil => rfl
  | .cons t k r => by show (trees r).length + 1 = (gD r).length + 1; rw [trees_len r]
def kidSize : D → Nat
  | .tup [_, .tup xs] => szs xs
  | _ => 0
where szs : List D → Nat := fun _ => 0
/-- 1 + the size of each tree's kids -/
def sizes : Gr → List Int
  | .nil => []
  | .cons _ k r => (1 + (k.size : Int)) :: sizes r
theorem sizes_sum : ∀ g : Gr, (sizes g).sum = (g.size : Int)
  | .nil => rfl
  | .cons t k r => by
    show (1 + (k.size : Int)) + (sizes r).sum = ((1 + k.size + r.size : Nat) : Int)
    rw [sizes_sum r]; omega
theorem sizes_at : ∀ {g : Gr} {i : Nat} {t : Str} {k : Gr}, (trees g)[i]? = some (t, k) → (sizes g)[i]? = some (1 + (k.size : Int))
  | .cons t k r, 0, _, _, h => by cases h; rfl
  | .cons t k r, i + 1, u, l, h => sizes_at (g := r) (i := i) h
  | .nil, i, _, _, h => by simp [trees] at h
theorem sizes_len : ∀ g : Gr, (sizes g).length = (gD g).length
  | .nil => rfl
  | .cons t k r => by show (sizes r).length + 1 = (gD r).length + 1; rw [sizes_len r]
theorem ys_is {ys : List D} {ns : List Int} (hl : ys.length = ns.length) (h : ∀ (i : Nat) y, ys[i]? = some y → ∃ n, ns[i]? = some n ∧ y = .int n) : ys = ns.map D.int := by
  refine List.ext_getElem? fun i => ?_
  by_cases hi : i < ys.length
  · obtain ⟨n, e, e2⟩ := h i _ (List.getElem?_eq_getElem hi)
    rw [List.getElem?_map, e, List.getElem?_eq_getElem hi, e2]
    rfl
  · rw [List.getElem?_eq_none (by omega), List.getElem?_eq_none (by rw [List.length_map]; omega)]
theorem r_law_size (n : Nat) : ∀ ds P Q E, sp__law_size (n + 1) ds P Q E → t__law_size n (dEnds Q E) (startD n__law_size ds) P := by
  rintro ds P Q E ⟨g, rfl, hg, hd, q⟩
  rw [st__law_size]
  unfold t__law_size
  (try simp only [s_for, s_lc, qiRng1, qiRng2, qiVal, brL_t, brL_f, qNext, qBreak, qCont, qDrop, qRet, qRetN, s_if, qgName, qgNil, qgCons, qgTup, qgSub, qAsg, qPar, qVar, qC, qOp, qUn, qTest, s_and, s_or, qNot, s_andV, s_orV, qNotV, s_ifE, qNil, qCons, qTup, qLst, qCB, qBM, qSl, qNoPart, qPart, qNeg, qAdd, qLt, qEq, qDNew, qFld, qFldS, qCall, qMeth, qMake, qRaise, qTry, qLRng, qYes, brS_t, brS_f, brW_t, brW_f, brA_t, brA_f, brO_t, brO_f, brAV_t, brAV_f, brOV_t, brOV_f, brI_t, brI_f, s_wipe0, s_wipeS, slot_0, slot_s, set_0, set_s, ln0, ln1, ln2, ln3, ln4, ln5, s_len_t, s_list_t, s_tup_t, s_int_i, s_int_b, s_min2, s_max2, s_min3, s_str, s_ty_s, s_le, s_gt, s_ge, s_sub, s_mul, s_mod, s_fdiv, s_pow, dE_nx, dE_rt, dE_ex, true_and, Bool.not_true, Bool.not_false, decide_true, if_true, if_false, Bool.false_eq_true])
  have hl := len_le g
  refine lc_any (fun i x y => ∃ t k, (trees g)[i]? = some (t, k) ∧ y = .int (1 + (k.size : Int))) (by rw [gD_len]; omega) (fun _ _ => trivial) ?_ ?_
  · intro i x P2 K hx hP hK
    obtain ⟨t, k, ht, rfl⟩ := gD_at hx
    obtain ⟨h1, h2⟩ := tree_le ht
    (try simp only [s_for, s_lc, qiRng1, qiRng2, qiVal, brL_t, brL_f, qNext, qBreak, qCont, qDrop, qRet, qRetN, s_if, qgName, qgNil, qgCons, qgTup, qgSub, qAsg, qPar, qVar, qC, qOp, qUn, qTest, s_and, s_or, qNot, s_andV, s_orV, qNotV, s_ifE, qNil, qCons, qTup, qLst, qCB, qBM, qSl, qNoPart, qPart, qNeg, qAdd, qLt, qEq, qDNew, qFld, qFldS, qCall, qMeth, qMake, qRaise, qTry, qLRng, qYes, brS_t, brS_f, brW_t, brW_f, brA_t, brA_f, brO_t, brO_f, brAV_t, brAV_f, brOV_t, brOV_f, brI_t, brI_f, s_wipe0, s_wipeS, slot_0, slot_s, set_0, set_s, ln0, ln1, ln2, ln3, ln4, ln5, s_len_t, s_list_t, s_tup_t, s_int_i, s_int_b, s_min2, s_max2, s_min3, s_str, s_ty_s, s_le, s_gt, s_ge, s_sub, s_mul, s_mod, s_fdiv, s_pow, dE_nx, dE_rt, dE_ex, true_and, Bool.not_true, Bool.not_false, decide_true, if_true, if_false, Bool.false_eq_true])
    refine ⟨rfl, k, rfl, by omega, by omega, ?_⟩
    (try simp only [s_for, s_lc, qiRng1, qiRng2, qiVal, brL_t, brL_f, qNext, qBreak, qCont, qDrop, qRet, qRetN, s_if, qgName, qgNil, qgCons, qgTup, qgSub, qAsg, qPar, qVar, qC, qOp, qUn, qTest, s_and, s_or, qNot, s_andV, s_orV, qNotV, s_ifE, qNil, qCons, qTup, qLst, qCB, qBM, qSl, qNoPart, qPart, qNeg, qAdd, qLt, qEq, qDNew, qFld, qFldS, qCall, qMeth, qMake, qRaise, qTry, qLRng, qYes, brS_t, brS_f, brW_t, brW_f, brA_t, brA_f, brO_t, brO_f, brAV_t, brAV_f, brOV_t, brOV_f, brI_t, brI_f, s_wipe0, s_wipeS, slot_0, slot_s, set_0, set_s, ln0, ln1, ln2, ln3, ln4, ln5, s_len_t, s_list_t, s_tup_t, s_int_i, s_int_b, s_min2, s_max2, s_min3, s_str, s_ty_s, s_le, s_gt, s_ge, s_sub, s_mul, s_mod, s_fdiv, s_pow, dE_nx, dE_rt, dE_ex, true_and, Bool.not_true, Bool.not_false, decide_true, if_true, if_false, Bool.false_eq_true])
    exact hK _ _ (Le.refl _) ⟨t, k, ht, rfl⟩
  · intro l ys hl' hlen hC
    have e : ys = (sizes g).map D.int := ys_is (by rw [hlen, sizes_len]) fun i y hy => by
      have hi : i < (gD g).length := by
        have := (List.getElem?_eq_some_iff.mp hy).1
        omega
      obtain ⟨t, k, ht, rfl⟩ := hC i _ y (List.getElem?_eq_getElem hi) hy
      exact ⟨_, sizes_at ht, rfl⟩
    subst e
    refine i_sum (.inl up_same) ?_
    rw [sizes_sum]
    exact wk_of (Le.new hl') q
end K83
namespace K83
open PySem PySem.Spec L2 PL
def Gr.snoc : Gr → Str → Gr → Gr
  | .nil, w, k => .cons w k .nil
  | .cons t l r, w, k => .cons t l (r.snoc w k)
theorem gD_snoc (w : Str) (k : Gr) : ∀ g : Gr, gD (g.snoc w k) = gD g ++ [.tup [.str w, .tup (gD k)]]
  | .nil => rfl
  | .cons t l r => by show _ :: gD (r.snoc w k) = _ :: (gD r ++ _); rw [gD_snoc w k r]
theorem size_snoc (w : Str) (k : Gr) : ∀ g : Gr, (g.snoc w k).size = g.size + 1 + k.size
  | .nil => by show 1 + k.size + 0 = 0 + 1 + k.size; omega
  | .cons t l r => by show 1 + l.size + (r.snoc w k).size = 1 + l.size + r.size + 1 + k.size; rw [size_snoc w k r]; omega
theorem ok_snoc {w : Str} {k : Gr} (hw : WordOk w) (hk : GrOk k) : ∀ {g : Gr}, GrOk g → GrOk (g.snoc w k)
  | .nil, _ => ⟨hw, hk, trivial⟩
  | .cons t l r, h => ⟨h.1, h.2.1, ok_snoc hw hk h.2.2⟩
abbrev Row := Addr × Gr
def refs (rs : List Row) : List D := (rs.map fun p => D.ref p.1).reverse
def total : List Row → Nat
  | [] => 0
  | p :: r => p.2.size + total r
/-- rows under way: the last one first -/
structure GI (P P' : PH) (R O : Addr) (rs : List Row) (ws : List Str) : Prop where
  le : Le P P'
  hR : P' R = some (.lst (refs rs))
  hO : P' O = some (.lst (txts ws.reverse))
  hr : ∀ p ∈ rs, P' p.1 = some (.lst (gD p.2)) ∧ P p.1 = none ∧ p.1 ≠ R ∧ p.1 ≠ O
  nd : (rs.map (·.1)).Nodup
  RO : R ≠ O
  nR : P R = none
  nO : P O = none
  len : rs.length = ws.length + 1
  ok : (∀ p ∈ rs, GrOk p.2) ∧ ∀ w ∈ ws, WordOk w
theorem refs_cons (p : Row) (r : List Row) : refs (p :: r) = refs r ++ [.ref p.1] := by
  unfold refs
  simp
theorem txts_rev (w : Str) (ws : List Str) : txts (w :: ws).reverse = txts ws.reverse ++ [.str w] := by
  unfold txts
  simp
theorem txd_len (a : List Str) : (txts a).length = a.length := List.length_map _
theorem refs_len (rs : List Row) : (refs rs).length = rs.length := by unfold refs; simp
/-- a row is closed: it becomes the kids of the last name, behind the row below -/
theorem GI.close {P P' : PH} {R O a b : Addr} {k g : Gr} {rs : List Row} {w : Str} {ws : List Str} (h : GI P P' R O ((a, k) :: (b, g) :: rs) (w :: ws)) :
    GI P (up (up (up P' R (.lst (refs ((b, g) :: rs)))) O (.lst (txts ws.reverse))) b (.lst (gD (g.snoc w k)))) R O ((b, g.snoc w k) :: rs) ws := by
  obtain ⟨hb1, hb2, hb3, hb4⟩ := h.hr (b, g) (by simp)
  have nd := h.nd
  simp only [List.map_cons, List.nodup_cons] at nd
  refine ⟨((h.le.newR h.nR).newR h.nO).newR hb2, ?_, ?_, fun p hp => ?_, ?_, h.RO, h.nR, h.nO, ?_, fun p hp => ?_, fun v hv => h.ok.2 v (List.mem_cons_of_mem _ hv)⟩
  · rw [up_ne hb3.symm, up_ne h.RO, up_same]
    rw [refs_cons, refs_cons]
  · rw [up_ne hb4.symm, up_same]
  · rcases List.mem_cons.mp hp with rfl | hp
    · exact ⟨up_same, hb2, hb3, hb4⟩
    · obtain ⟨h1, h2, h3, h4⟩ := h.hr p (by simp [hp])
      have hne : p.1 ≠ b := fun e => nd.2.1 (e ▸ List.mem_map_of_mem hp)
      exact ⟨by rw [up_ne hne, up_ne h4, up_ne h3]; exact h1, h2, h3, h4⟩
  · simp only [List.map_cons, List.nodup_cons]
    exact nd.2
  · have := h.len
    simp only [List.length_cons] at this ⊢
    omega
  · rcases List.mem_cons.mp hp with rfl | hp
    · exact ok_snoc (h.ok.2 w List.mem_cons_self) (h.ok.1 (a, k) (by simp)) (h.ok.1 (b, g) (by simp))
    · exact h.ok.1 p (by simp [hp])
/-- a name is opened, a row laid -/
theorem GI.open_ {P P' : PH} {R O l : Addr} {rs : List Row} {w : Str} {ws : List Str} (h : GI P P' R O rs ws) (hw : WordOk w) (hl : up P' O (.lst (txts ws.reverse ++ [.str w])) l = none) :
    GI P (up (up (up P' O (.lst (txts (w :: ws).reverse))) l (.lst [])) R (.lst (refs rs ++ [.ref l]))) R O ((l, .nil) :: rs) (w :: ws) := by
  obtain ⟨hlO, hl⟩ := up_none.mp hl
  have hlR : l ≠ R := fun e => by rw [e, h.hR] at hl; cases hl
  have hPl : P l = none := h.le.none hl
  refine ⟨((h.le.newR h.nO).newR hPl).newR h.nR, ?_, ?_, fun p hp => ?_, ?_, h.RO, h.nR, h.nO, ?_, fun p hp => ?_, fun v hv => ?_⟩
  · rw [up_same, refs_cons]
  · rw [up_ne h.RO.symm, up_ne hlO.symm, up_same]
  · rcases List.mem_cons.mp hp with rfl | hp
    · exact ⟨by rw [up_ne hlR, up_same]; rfl, hPl, hlR, hlO⟩
    · obtain ⟨h1, h2, h3, h4⟩ := h.hr p hp
      have hne : p.1 ≠ l := fun e => by rw [e, hl] at h1; cases h1
      exact ⟨by rw [up_ne h3, up_ne hne, up_ne h4]; exact h1, h2, h3, h4⟩
  · simp only [List.map_cons, List.nodup_cons]
    refine ⟨fun hm => ?_, h.nd⟩
    obtain ⟨p, hp, e⟩ := List.mem_map.mp hm
    have := (h.hr p hp).1
    rw [e, hl] at this
    cases this
  · have := h.len
    simp only [List.length_cons]
    omega
  · rcases List.mem_cons.mp hp with rfl | hp
    · trivial
    · exact h.ok.1 p hp
  · rcases List.mem_cons.mp hv with rfl | hv
    · exact hw
    · exact h.ok.2 v hv
/-- the block that closes a row -/
def t_close : QTS := qSeq (qAsg (qCB qTupOf (qCons (qBM "list" qPop (qVar 4) qNil) qNil)) (qgName 10))
  (qDrop (qBM "list" qAppend (qOp qIx (qVar 4) (qUn qNeg (qC (.int 1)))) (qCons (qTup (qCons (qBM "list" qPop (qVar 5) qNil) (qCons (qVar 10) qNil))) qNil)))
theorem r_close {D : PEnds} {s0 s1 s2 s3 s6 s7 s8 s9 s10 : Option PL.D} {P P' : PH} {R O a b : Addr} {k g : Gr} {rs : List Row} {w : Str} {ws : List Str} (h : GI P P' R O ((a, k) :: (b, g) :: rs) (w :: ws)) (hz : g.len ≤ 1000)
    (q : ∀ P2, GI P P2 R O ((b, g.snoc w k) :: rs) ws → D.nx [s0, s1, s2, s3, some (.ref R), some (.ref O), s6, s7, s8, s9, some (.tup (gD k))] P2) :
    t_close D [s0, s1, s2, s3, some (.ref R), some (.ref O), s6, s7, s8, s9, s10] P' := by
  obtain ⟨ha1, ha2, ha3, ha4⟩ := h.hr (a, k) (by simp)
  obtain ⟨hb1, hb2, hb3, hb4⟩ := h.hr (b, g) (by simp)
  have nd := h.nd
  simp only [List.map_cons, List.nodup_cons] at nd
  have hab : a ≠ b := fun e => nd.1 (by simp [e])
  unfold t_close
  refine seq_intro fun D1 q1 => ?_
  (try simp only [s_for, s_lc, qiRng1, qiRng2, qiVal, brL_t, brL_f, qNext, qBreak, qCont, qDrop, qRet, qRetN, s_if, qgName, qgNil, qgCons, qgTup, qgSub, qAsg, qPar, qVar, qC, qOp, qUn, qTest, s_and, s_or, qNot, s_andV, s_orV, qNotV, s_ifE, qNil, qCons, qTup, qLst, qCB, qBM, qSl, qNoPart, qPart, qNeg, qAdd, qLt, qEq, qDNew, qFld, qFldS, qCall, qMeth, qMake, qRaise, qTry, qLRng, qYes, brS_t, brS_f, brW_t, brW_f, brA_t, brA_f, brO_t, brO_f, brAV_t, brAV_f, brOV_t, brOV_f, brI_t, brI_f, s_wipe0, s_wipeS, slot_0, slot_s, set_0, set_s, ln0, ln1, ln2, ln3, ln4, ln5, s_len_t, s_list_t, s_tup_t, s_int_i, s_int_b, s_min2, s_max2, s_min3, s_str, s_ty_s, s_le, s_gt, s_ge, s_sub, s_mul, s_mod, s_fdiv, s_pow, dE_nx, dE_rt, dE_ex, true_and, Bool.not_true, Bool.not_false, decide_true, if_true, if_false, Bool.false_eq_true])
  have hR := h.hR
  rw [refs_cons] at hR
  refine i_pop hR last_snoc ?_
  rw [List.dropLast_concat]
  refine i_tuple (.inl (by rw [up_ne ha3]; exact ha1)) ?_
  refine q1.nx _ _ ?_
  (try simp only [s_for, s_lc, qiRng1, qiRng2, qiVal, brL_t, brL_f, qNext, qBreak, qCont, qDrop, qRet, qRetN, s_if, qgName, qgNil, qgCons, qgTup, qgSub, qAsg, qPar, qVar, qC, qOp, qUn, qTest, s_and, s_or, qNot, s_andV, s_orV, qNotV, s_ifE, qNil, qCons, qTup, qLst, qCB, qBM, qSl, qNoPart, qPart, qNeg, qAdd, qLt, qEq, qDNew, qFld, qFldS, qCall, qMeth, qMake, qRaise, qTry, qLRng, qYes, brS_t, brS_f, brW_t, brW_f, brA_t, brA_f, brO_t, brO_f, brAV_t, brAV_f, brOV_t, brOV_f, brI_t, brI_f, s_wipe0, s_wipeS, slot_0, slot_s, set_0, set_s, ln0, ln1, ln2, ln3, ln4, ln5, s_len_t, s_list_t, s_tup_t, s_int_i, s_int_b, s_min2, s_max2, s_min3, s_str, s_ty_s, s_le, s_gt, s_ge, s_sub, s_mul, s_mod, s_fdiv, s_pow, dE_nx, dE_rt, dE_ex, true_and, Bool.not_true, Bool.not_false, decide_true, if_true, if_false, Bool.false_eq_true])
  refine i_ix (.inl up_same) (at_last (d := .ref b) (by rw [refs_cons]; exact last_snoc)) ?_
  refine ⟨i_tyL (.inl (by rw [up_ne hb3]; exact hb1)), ?_⟩
  have hO := h.hO
  rw [txts_rev] at hO
  refine i_pop (by rw [up_ne h.RO.symm]; exact hO) last_snoc ?_
  rw [List.dropLast_concat]
  refine i_app' (by rw [up_ne hb4, up_ne hb3]; exact hb1) (by rw [gD_len]; show g.len ≤ _; omega) ?_
  have z := h.close
  rw [gD_snoc] at z
  exact q _ z
theorem gi_shape {P P' : PH} {R O : Addr} {rs : List Row} {w : Str} {ws : List Str} (h : GI P P' R O rs (w :: ws)) : ∃ a k b g r, rs = (a, k) :: (b, g) :: r := by
  have := h.len
  match rs, this with
  | (a, k) :: (b, g) :: r, _ => exact ⟨a, k, b, g, r, rfl⟩
  | [p], e => simp at e
  | [], e => simp at e
theorem total_close (a b : Addr) (k g : Gr) (w : Str) (r : List Row) : total ((b, g.snoc w k) :: r) = total ((a, k) :: (b, g) :: r) + 1 := by
  show (g.snoc w k).size + total r = k.size + (g.size + total r) + 1
  rw [size_snoc]; omega
theorem total_mem {p : Row} : ∀ {rs : List Row}, p ∈ rs → p.2.size ≤ total rs
  | q :: r, h => by
    rcases List.mem_cons.mp h with rfl | h
    · show p.2.size ≤ p.2.size + total r
      omega
    · have := total_mem h
      show p.2.size ≤ q.2.size + total r
      omega
theorem txts_getD {ws : List Str} {i : Nat} (h : i < ws.length) : (txts ws)[i]? = some (.str ws[i]) := by
  unfold txts
  rw [List.getElem?_map, List.getElem?_eq_getElem h]
  rfl
theorem r_grove : ∀ ds P Q E, sp__law_grove ds P Q E → t__law_grove (dEnds Q E) (startD n__law_grove ds) P := by
  rintro ds P Q E ⟨sc, ns, s, m, tg, ws0, rfl, hsc, htg, hs, hm0, hm, hw1, hw2, hwo, q⟩
  rw [st__law_grove]
  unfold t__law_grove
  refine seq_intro fun D1 q1 => ?_
  (try simp only [s_for, s_lc, qiRng1, qiRng2, qiVal, brL_t, brL_f, qNext, qBreak, qCont, qDrop, qRet, qRetN, s_if, qgName, qgNil, qgCons, qgTup, qgSub, qAsg, qPar, qVar, qC, qOp, qUn, qTest, s_and, s_or, qNot, s_andV, s_orV, qNotV, s_ifE, qNil, qCons, qTup, qLst, qCB, qBM, qSl, qNoPart, qPart, qNeg, qAdd, qLt, qEq, qDNew, qFld, qFldS, qCall, qMeth, qMake, qRaise, qTry, qLRng, qYes, brS_t, brS_f, brW_t, brW_f, brA_t, brA_f, brO_t, brO_f, brAV_t, brAV_f, brOV_t, brOV_f, brI_t, brI_f, s_wipe0, s_wipeS, slot_0, slot_s, set_0, set_s, ln0, ln1, ln2, ln3, ln4, ln5, s_len_t, s_list_t, s_tup_t, s_int_i, s_int_b, s_min2, s_max2, s_min3, s_str, s_ty_s, s_le, s_gt, s_ge, s_sub, s_mul, s_mod, s_fdiv, s_pow, dE_nx, dE_rt, dE_ex, true_and, Bool.not_true, Bool.not_false, decide_true, if_true, if_false, Bool.false_eq_true])
  intro r0 hr0 R hR
  obtain ⟨hRr, hR⟩ := up_none.mp hR
  refine q1.nx _ _ (seq_intro fun D2 q2 => ?_)
  (try simp only [s_for, s_lc, qiRng1, qiRng2, qiVal, brL_t, brL_f, qNext, qBreak, qCont, qDrop, qRet, qRetN, s_if, qgName, qgNil, qgCons, qgTup, qgSub, qAsg, qPar, qVar, qC, qOp, qUn, qTest, s_and, s_or, qNot, s_andV, s_orV, qNotV, s_ifE, qNil, qCons, qTup, qLst, qCB, qBM, qSl, qNoPart, qPart, qNeg, qAdd, qLt, qEq, qDNew, qFld, qFldS, qCall, qMeth, qMake, qRaise, qTry, qLRng, qYes, brS_t, brS_f, brW_t, brW_f, brA_t, brA_f, brO_t, brO_f, brAV_t, brAV_f, brOV_t, brOV_f, brI_t, brI_f, s_wipe0, s_wipeS, slot_0, slot_s, set_0, set_s, ln0, ln1, ln2, ln3, ln4, ln5, s_len_t, s_list_t, s_tup_t, s_int_i, s_int_b, s_min2, s_max2, s_min3, s_str, s_ty_s, s_le, s_gt, s_ge, s_sub, s_mul, s_mod, s_fdiv, s_pow, dE_nx, dE_rt, dE_ex, true_and, Bool.not_true, Bool.not_false, decide_true, if_true, if_false, Bool.false_eq_true])
  intro O hO
  obtain ⟨hOR, hO⟩ := up_none.mp hO
  obtain ⟨hOr, hO⟩ := up_none.mp hO
  have g0 : GI P (up (up (up P r0 (.lst [])) R (.lst [.ref r0])) O (.lst [])) R O [(r0, .nil)] [] :=
    ⟨((Le.new hr0).newR hR).newR hO, by rw [up_ne hOR.symm, up_same]; rfl, up_same, fun p hp => by
      obtain rfl := List.mem_singleton.mp hp
      exact ⟨by rw [up_ne hOr.symm, up_ne hRr.symm, up_same]; rfl, hr0, hRr.symm, hOr.symm⟩, by simp, hOR.symm, hR, hO, rfl, fun p hp => by
      obtain rfl := List.mem_singleton.mp hp
      trivial, fun _ h => nomatch h⟩
  refine q2.nx _ _ (seq_intro fun D3 q3 => ?_)
  (try simp only [s_for, s_lc, qiRng1, qiRng2, qiVal, brL_t, brL_f, qNext, qBreak, qCont, qDrop, qRet, qRetN, s_if, qgName, qgNil, qgCons, qgTup, qgSub, qAsg, qPar, qVar, qC, qOp, qUn, qTest, s_and, s_or, qNot, s_andV, s_orV, qNotV, s_ifE, qNil, qCons, qTup, qLst, qCB, qBM, qSl, qNoPart, qPart, qNeg, qAdd, qLt, qEq, qDNew, qFld, qFldS, qCall, qMeth, qMake, qRaise, qTry, qLRng, qYes, brS_t, brS_f, brW_t, brW_f, brA_t, brA_f, brO_t, brO_f, brAV_t, brAV_f, brOV_t, brOV_f, brI_t, brI_f, s_wipe0, s_wipeS, slot_0, slot_s, set_0, set_s, ln0, ln1, ln2, ln3, ln4, ln5, s_len_t, s_list_t, s_tup_t, s_int_i, s_int_b, s_min2, s_max2, s_min3, s_str, s_ty_s, s_le, s_gt, s_ge, s_sub, s_mul, s_mod, s_fdiv, s_pow, dE_nx, dE_rt, dE_ex, true_and, Bool.not_true, Bool.not_false, decide_true, if_true, if_false, Bool.false_eq_true])
  refine ⟨by omega, ?_⟩
  refine for_intro (fun i σ P' => ∃ rs ws x6 x7 x8 x9 x10, σ = [some (.ref sc), some (.int s), some (.int m), some (.ref tg), some (.ref R), some (.ref O), x6, x7, x8, x9, x10] ∧ GI P P' R O rs ws ∧ total rs + ws.length = i) ⟨_, _, _, _, _, _, _, rfl, g0, rfl⟩ ?_ ?_
  · rintro i x σ P' D4 hx ⟨rs, ws, x6, x7, x8, x9, x10, rfl, gi, ht⟩ lp
    have hi : i < m.toNat := by
      have := (List.getElem?_eq_some_iff.mp hx).1
      rw [rgD_length] at this
      omega
    rw [rgD_get hi] at hx
    cases hx
    refine ⟨trivial, ?_⟩
    (try simp only [s_for, s_lc, qiRng1, qiRng2, qiVal, brL_t, brL_f, qNext, qBreak, qCont, qDrop, qRet, qRetN, s_if, qgName, qgNil, qgCons, qgTup, qgSub, qAsg, qPar, qVar, qC, qOp, qUn, qTest, s_and, s_or, qNot, s_andV, s_orV, qNotV, s_ifE, qNil, qCons, qTup, qLst, qCB, qBM, qSl, qNoPart, qPart, qNeg, qAdd, qLt, qEq, qDNew, qFld, qFldS, qCall, qMeth, qMake, qRaise, qTry, qLRng, qYes, brS_t, brS_f, brW_t, brW_f, brA_t, brA_f, brO_t, brO_f, brAV_t, brAV_f, brOV_t, brOV_f, brI_t, brI_f, s_wipe0, s_wipeS, slot_0, slot_s, set_0, set_s, ln0, ln1, ln2, ln3, ln4, ln5, s_len_t, s_list_t, s_tup_t, s_int_i, s_int_b, s_min2, s_max2, s_min3, s_str, s_ty_s, s_le, s_gt, s_ge, s_sub, s_mul, s_mod, s_fdiv, s_pow, dE_nx, dE_rt, dE_ex, true_and, Bool.not_true, Bool.not_false, decide_true, if_true, if_false, Bool.false_eq_true])
    refine seq_intro fun D5 q5 => ?_
    (try simp only [s_for, s_lc, qiRng1, qiRng2, qiVal, brL_t, brL_f, qNext, qBreak, qCont, qDrop, qRet, qRetN, s_if, qgName, qgNil, qgCons, qgTup, qgSub, qAsg, qPar, qVar, qC, qOp, qUn, qTest, s_and, s_or, qNot, s_andV, s_orV, qNotV, s_ifE, qNil, qCons, qTup, qLst, qCB, qBM, qSl, qNoPart, qPart, qNeg, qAdd, qLt, qEq, qDNew, qFld, qFldS, qCall, qMeth, qMake, qRaise, qTry, qLRng, qYes, brS_t, brS_f, brW_t, brW_f, brA_t, brA_f, brO_t, brO_f, brAV_t, brAV_f, brOV_t, brOV_f, brI_t, brI_f, s_wipe0, s_wipeS, slot_0, slot_s, set_0, set_s, ln0, ln1, ln2, ln3, ln4, ln5, s_len_t, s_list_t, s_tup_t, s_int_i, s_int_b, s_min2, s_max2, s_min3, s_str, s_ty_s, s_le, s_gt, s_ge, s_sub, s_mul, s_mod, s_fdiv, s_pow, dE_nx, dE_rt, dE_ex, true_and, Bool.not_true, Bool.not_false, decide_true, if_true, if_false, Bool.false_eq_true])
    refine i_len (xs := ns.map D.int) (hsc.imp (gi.le _ _) (gi.le _ _)) ?_
    (try simp only [s_for, s_lc, qiRng1, qiRng2, qiVal, brL_t, brL_f, qNext, qBreak, qCont, qDrop, qRet, qRetN, s_if, qgName, qgNil, qgCons, qgTup, qgSub, qAsg, qPar, qVar, qC, qOp, qUn, qTest, s_and, s_or, qNot, s_andV, s_orV, qNotV, s_ifE, qNil, qCons, qTup, qLst, qCB, qBM, qSl, qNoPart, qPart, qNeg, qAdd, qLt, qEq, qDNew, qFld, qFldS, qCall, qMeth, qMake, qRaise, qTry, qLRng, qYes, brS_t, brS_f, brW_t, brW_f, brA_t, brA_f, brO_t, brO_f, brAV_t, brAV_f, brOV_t, brOV_f, brI_t, brI_f, s_wipe0, s_wipeS, slot_0, slot_s, set_0, set_s, ln0, ln1, ln2, ln3, ln4, ln5, s_len_t, s_list_t, s_tup_t, s_int_i, s_int_b, s_min2, s_max2, s_min3, s_str, s_ty_s, s_le, s_gt, s_ge, s_sub, s_mul, s_mod, s_fdiv, s_pow, dE_nx, dE_rt, dE_ex, true_and, Bool.not_true, Bool.not_false, decide_true, if_true, if_false, Bool.false_eq_true])
    refine ⟨by split <;> omega, sc, ns, _, rfl, hsc.imp (gi.le _ _) (gi.le _ _), ?_, fun c => ?_⟩
    · have := Int.emod_nonneg (0 + (i : Int)) (b := if ((ns.map D.int).length : Int) - s > 1 then ((ns.map D.int).length : Int) - s else 1) (by split <;> omega)
      omega
    refine q5.nx _ _ (seq_intro fun D6 q6 => ?_)
    (try simp only [s_for, s_lc, qiRng1, qiRng2, qiVal, brL_t, brL_f, qNext, qBreak, qCont, qDrop, qRet, qRetN, s_if, qgName, qgNil, qgCons, qgTup, qgSub, qAsg, qPar, qVar, qC, qOp, qUn, qTest, s_and, s_or, qNot, s_andV, s_orV, qNotV, s_ifE, qNil, qCons, qTup, qLst, qCB, qBM, qSl, qNoPart, qPart, qNeg, qAdd, qLt, qEq, qDNew, qFld, qFldS, qCall, qMeth, qMake, qRaise, qTry, qLRng, qYes, brS_t, brS_f, brW_t, brW_f, brA_t, brA_f, brO_t, brO_f, brAV_t, brAV_f, brOV_t, brOV_f, brI_t, brI_f, s_wipe0, s_wipeS, slot_0, slot_s, set_0, set_s, ln0, ln1, ln2, ln3, ln4, ln5, s_len_t, s_list_t, s_tup_t, s_int_i, s_int_b, s_min2, s_max2, s_min3, s_str, s_ty_s, s_le, s_gt, s_ge, s_sub, s_mul, s_mod, s_fdiv, s_pow, dE_nx, dE_rt, dE_ex, true_and, Bool.not_true, Bool.not_false, decide_true, if_true, if_false, Bool.false_eq_true])
    refine ⟨.inr (by decide), .inr (by omega), .inr (by decide), by decide, ?_⟩
    refine q6.nx _ _ (seq_intro fun D7 q7 => ?_)
    (try simp only [s_for, s_lc, qiRng1, qiRng2, qiVal, brL_t, brL_f, qNext, qBreak, qCont, qDrop, qRet, qRetN, s_if, qgName, qgNil, qgCons, qgTup, qgSub, qAsg, qPar, qVar, qC, qOp, qUn, qTest, s_and, s_or, qNot, s_andV, s_orV, qNotV, s_ifE, qNil, qCons, qTup, qLst, qCB, qBM, qSl, qNoPart, qPart, qNeg, qAdd, qLt, qEq, qDNew, qFld, qFldS, qCall, qMeth, qMake, qRaise, qTry, qLRng, qYes, brS_t, brS_f, brW_t, brW_f, brA_t, brA_f, brO_t, brO_f, brAV_t, brAV_f, brOV_t, brOV_f, brI_t, brI_f, s_wipe0, s_wipeS, slot_0, slot_s, set_0, set_s, ln0, ln1, ln2, ln3, ln4, ln5, s_len_t, s_list_t, s_tup_t, s_int_i, s_int_b, s_min2, s_max2, s_min3, s_str, s_ty_s, s_le, s_gt, s_ge, s_sub, s_mul, s_mod, s_fdiv, s_pow, dE_nx, dE_rt, dE_ex, true_and, Bool.not_true, Bool.not_false, decide_true, if_true, if_false, Bool.false_eq_true])
    refine i_len (.inl gi.hO) ?_
    (try simp only [s_for, s_lc, qiRng1, qiRng2, qiVal, brL_t, brL_f, qNext, qBreak, qCont, qDrop, qRet, qRetN, s_if, qgName, qgNil, qgCons, qgTup, qgSub, qAsg, qPar, qVar, qC, qOp, qUn, qTest, s_and, s_or, qNot, s_andV, s_orV, qNotV, s_ifE, qNil, qCons, qTup, qLst, qCB, qBM, qSl, qNoPart, qPart, qNeg, qAdd, qLt, qEq, qDNew, qFld, qFldS, qCall, qMeth, qMake, qRaise, qTry, qLRng, qYes, brS_t, brS_f, brW_t, brW_f, brA_t, brA_f, brO_t, brO_f, brAV_t, brAV_f, brOV_t, brOV_f, brI_t, brI_f, s_wipe0, s_wipeS, slot_0, slot_s, set_0, set_s, ln0, ln1, ln2, ln3, ln4, ln5, s_len_t, s_list_t, s_tup_t, s_int_i, s_int_b, s_min2, s_max2, s_min3, s_str, s_ty_s, s_le, s_gt, s_ge, s_sub, s_mul, s_mod, s_fdiv, s_pow, dE_nx, dE_rt, dE_ex, true_and, Bool.not_true, Bool.not_false, decide_true, if_true, if_false, Bool.false_eq_true])
    rw [txd_len, List.length_reverse]
    generalize hcnt : (if (c * 48271 + (0 + (i : Int)) * (0 + (i : Int)) * 69621) % 1000003 % 4 < ((ws.length : Nat) : Int) then (c * 48271 + (0 + (i : Int)) * (0 + (i : Int)) * 69621) % 1000003 % 4 else ((ws.length : Nat) : Int)) = cnt
    have hc0 : 0 ≤ cnt := by rw [← hcnt]; split <;> omega
    have hc1 : cnt ≤ (ws.length : Nat) := by rw [← hcnt]; split <;> omega
    have hc2 : cnt < 4 := by rw [← hcnt]; split <;> omega
    refine ⟨by omega, by omega, ?_⟩
    refine for_intro (fun j σ P' => ∃ rs ws' x9 x10, σ = [some (.ref sc), some (.int s), some (.int m), some (.ref tg), some (.ref R), some (.ref O), some (.int (0 + (i : Int))), some (.int c), some (.int ((c * 48271 + (0 + (i : Int)) * (0 + (i : Int)) * 69621) % 1000003)), x9, x10] ∧ GI P P' R O rs ws' ∧ total rs + ws'.length = i ∧ j + ws'.length = ws.length)
      ⟨_, _, _, _, rfl, gi, ht, by omega⟩ ?_ ?_
    · rintro j x σ P2 D8 hx ⟨rs', ws', y9, y10, rfl, gi', ht', hj⟩ lp2
      have hj2 : j < cnt.toNat := by
        have := (List.getElem?_eq_some_iff.mp hx).1
        rw [rgD_length] at this
        omega
      refine ⟨trivial, ?_⟩
      (try simp only [s_for, s_lc, qiRng1, qiRng2, qiVal, brL_t, brL_f, qNext, qBreak, qCont, qDrop, qRet, qRetN, s_if, qgName, qgNil, qgCons, qgTup, qgSub, qAsg, qPar, qVar, qC, qOp, qUn, qTest, s_and, s_or, qNot, s_andV, s_orV, qNotV, s_ifE, qNil, qCons, qTup, qLst, qCB, qBM, qSl, qNoPart, qPart, qNeg, qAdd, qLt, qEq, qDNew, qFld, qFldS, qCall, qMeth, qMake, qRaise, qTry, qLRng, qYes, brS_t, brS_f, brW_t, brW_f, brA_t, brA_f, brO_t, brO_f, brAV_t, brAV_f, brOV_t, brOV_f, brI_t, brI_f, s_wipe0, s_wipeS, slot_0, slot_s, set_0, set_s, ln0, ln1, ln2, ln3, ln4, ln5, s_len_t, s_list_t, s_tup_t, s_int_i, s_int_b, s_min2, s_max2, s_min3, s_str, s_ty_s, s_le, s_gt, s_ge, s_sub, s_mul, s_mod, s_fdiv, s_pow, dE_nx, dE_rt, dE_ex, true_and, Bool.not_true, Bool.not_false, decide_true, if_true, if_false, Bool.false_eq_true])
      cases ws' with
      | nil => simp only [List.length_nil] at hj; omega
      | cons w ws' =>
        obtain ⟨a, k, b, g, r, rfl⟩ := gi_shape gi'
        have hgl := total_mem (rs := (a, k) :: (b, g) :: r) (p := (b, g)) (by simp)
        have hlg := len_le g
        simp only [List.length_cons] at ht' hj
        have hgl : g.size ≤ total ((a, k) :: (b, g) :: r) := hgl
        refine r_close gi' (by omega) fun P3 gi3 => lp2.nx _ _ ⟨_, _, ?_, Le.refl _, _, _, some x, some (.tup (gD k)), rfl, gi3, ?_, by omega⟩
        · (repeat' first | exact fg_0 | refine fg_s ?_ | refine fg_n ?_)
        · rw [total_close a]; omega
    · rintro σ P2 ⟨rs', ws', y9, y10, rfl, gi', ht', hj⟩
      refine ⟨trivial, q7.nx _ _ (seq_intro fun D8 q8 => ?_)⟩
      (try simp only [s_for, s_lc, qiRng1, qiRng2, qiVal, brL_t, brL_f, qNext, qBreak, qCont, qDrop, qRet, qRetN, s_if, qgName, qgNil, qgCons, qgTup, qgSub, qAsg, qPar, qVar, qC, qOp, qUn, qTest, s_and, s_or, qNot, s_andV, s_orV, qNotV, s_ifE, qNil, qCons, qTup, qLst, qCB, qBM, qSl, qNoPart, qPart, qNeg, qAdd, qLt, qEq, qDNew, qFld, qFldS, qCall, qMeth, qMake, qRaise, qTry, qLRng, qYes, brS_t, brS_f, brW_t, brW_f, brA_t, brA_f, brO_t, brO_f, brAV_t, brAV_f, brOV_t, brOV_f, brI_t, brI_f, s_wipe0, s_wipeS, slot_0, slot_s, set_0, set_s, ln0, ln1, ln2, ln3, ln4, ln5, s_len_t, s_list_t, s_tup_t, s_int_i, s_int_b, s_min2, s_max2, s_min3, s_str, s_ty_s, s_le, s_gt, s_ge, s_sub, s_mul, s_mod, s_fdiv, s_pow, dE_nx, dE_rt, dE_ex, true_and, Bool.not_true, Bool.not_false, decide_true, if_true, if_false, Bool.false_eq_true])
      refine ⟨i_tyL (.inl gi'.hO), ?_⟩
      have htg2 : RdL P2 tg (txts ws0) := htg.imp (gi'.le _ _) (gi'.le _ _)
      refine ⟨by unfold CDiv; decide, ?_⟩
      refine i_len htg2 ?_
      (try simp only [s_for, s_lc, qiRng1, qiRng2, qiVal, brL_t, brL_f, qNext, qBreak, qCont, qDrop, qRet, qRetN, s_if, qgName, qgNil, qgCons, qgTup, qgSub, qAsg, qPar, qVar, qC, qOp, qUn, qTest, s_and, s_or, qNot, s_andV, s_orV, qNotV, s_ifE, qNil, qCons, qTup, qLst, qCB, qBM, qSl, qNoPart, qPart, qNeg, qAdd, qLt, qEq, qDNew, qFld, qFldS, qCall, qMeth, qMake, qRaise, qTry, qLRng, qYes, brS_t, brS_f, brW_t, brW_f, brA_t, brA_f, brO_t, brO_f, brAV_t, brAV_f, brOV_t, brOV_f, brI_t, brI_f, s_wipe0, s_wipeS, slot_0, slot_s, set_0, set_s, ln0, ln1, ln2, ln3, ln4, ln5, s_len_t, s_list_t, s_tup_t, s_int_i, s_int_b, s_min2, s_max2, s_min3, s_str, s_ty_s, s_le, s_gt, s_ge, s_sub, s_mul, s_mod, s_fdiv, s_pow, dE_nx, dE_rt, dE_ex, true_and, Bool.not_true, Bool.not_false, decide_true, if_true, if_false, Bool.false_eq_true])
      rw [txd_len]
      refine ⟨by omega, ?_⟩
      obtain ⟨n, hn⟩ := Int.eq_ofNat_of_zero_le (a := (c * 48271 + (0 + (i : Int)) * (0 + (i : Int)) * 69621) % 1000003 / 4 % (ws0.length : Int)) (Int.emod_nonneg _ (by omega))
      have hnl : n < ws0.length := by
        have := Int.emod_lt_of_pos ((c * 48271 + (0 + (i : Int)) * (0 + (i : Int)) * 69621) % 1000003 / 4) (b := (ws0.length : Int)) (by omega)
        omega
      rw [hn]
      refine i_ix htg2 (at_nat (txts_getD hnl)) ?_
      refine i_app' gi'.hO (by rw [txd_len, List.length_reverse]; omega) ?_
      (try simp only [s_for, s_lc, qiRng1, qiRng2, qiVal, brL_t, brL_f, qNext, qBreak, qCont, qDrop, qRet, qRetN, s_if, qgName, qgNil, qgCons, qgTup, qgSub, qAsg, qPar, qVar, qC, qOp, qUn, qTest, s_and, s_or, qNot, s_andV, s_orV, qNotV, s_ifE, qNil, qCons, qTup, qLst, qCB, qBM, qSl, qNoPart, qPart, qNeg, qAdd, qLt, qEq, qDNew, qFld, qFldS, qCall, qMeth, qMake, qRaise, qTry, qLRng, qYes, brS_t, brS_f, brW_t, brW_f, brA_t, brA_f, brO_t, brO_f, brAV_t, brAV_f, brOV_t, brOV_f, brI_t, brI_f, s_wipe0, s_wipeS, slot_0, slot_s, set_0, set_s, ln0, ln1, ln2, ln3, ln4, ln5, s_len_t, s_list_t, s_tup_t, s_int_i, s_int_b, s_min2, s_max2, s_min3, s_str, s_ty_s, s_le, s_gt, s_ge, s_sub, s_mul, s_mod, s_fdiv, s_pow, dE_nx, dE_rt, dE_ex, true_and, Bool.not_true, Bool.not_false, decide_true, if_true, if_false, Bool.false_eq_true])
      refine q8.nx _ _ ?_
      (try simp only [s_for, s_lc, qiRng1, qiRng2, qiVal, brL_t, brL_f, qNext, qBreak, qCont, qDrop, qRet, qRetN, s_if, qgName, qgNil, qgCons, qgTup, qgSub, qAsg, qPar, qVar, qC, qOp, qUn, qTest, s_and, s_or, qNot, s_andV, s_orV, qNotV, s_ifE, qNil, qCons, qTup, qLst, qCB, qBM, qSl, qNoPart, qPart, qNeg, qAdd, qLt, qEq, qDNew, qFld, qFldS, qCall, qMeth, qMake, qRaise, qTry, qLRng, qYes, brS_t, brS_f, brW_t, brW_f, brA_t, brA_f, brO_t, brO_f, brAV_t, brAV_f, brOV_t, brOV_f, brI_t, brI_f, s_wipe0, s_wipeS, slot_0, slot_s, set_0, set_s, ln0, ln1, ln2, ln3, ln4, ln5, s_len_t, s_list_t, s_tup_t, s_int_i, s_int_b, s_min2, s_max2, s_min3, s_str, s_ty_s, s_le, s_gt, s_ge, s_sub, s_mul, s_mod, s_fdiv, s_pow, dE_nx, dE_rt, dE_ex, true_and, Bool.not_true, Bool.not_false, decide_true, if_true, if_false, Bool.false_eq_true])
      refine ⟨i_tyL (.inl (by rw [up_ne gi'.RO]; exact gi'.hR)), fun l hl => ?_⟩
      have hlR : l ≠ R := fun e => by
        rw [e, up_ne gi'.RO, gi'.hR] at hl
        cases hl
      refine i_app' (by rw [up_ne hlR.symm, up_ne gi'.RO]; exact gi'.hR) (by rw [refs_len, gi'.len]; omega) ?_
      have z := gi'.open_ (w := ws0[n]) (hwo _ (List.getElem_mem _)) hl
      rw [txts_rev] at z
      refine lp.nx _ _ ⟨_, _, ?_, Le.refl _, _, _, some (.int (0 + (i : Int))), some (.int c), some (.int ((c * 48271 + (0 + (i : Int)) * (0 + (i : Int)) * 69621) % 1000003)), y9, y10, rfl, z, ?_⟩
      · (repeat' first | exact fg_0 | refine fg_s ?_ | refine fg_n ?_)
      · show 0 + total rs' + (ws'.length + 1) = i + 1
        omega
  · rintro σ P' ⟨rs, ws, x6, x7, x8, x9, x10, rfl, gi, ht⟩
    rw [rgD_length] at ht
    refine ⟨trivial, q3.nx _ _ (seq_intro fun D4 q4 => ?_)⟩
    refine while_intro (fun n σ P' => ∃ rs ws x10, σ = [some (.ref sc), some (.int s), some (.int m), some (.ref tg), some (.ref R), some (.ref O), x6, x7, x8, x9, x10] ∧ GI P P' R O rs ws ∧ total rs + ws.length = m.toNat ∧ ws.length = n) ws.length ⟨rs, ws, x10, rfl, gi, ht, rfl⟩ ?_
    rintro n σ P2 D5 ⟨rs, ws, x10, rfl, gi, ht, rfl⟩ lp
    (try simp only [s_for, s_lc, qiRng1, qiRng2, qiVal, brL_t, brL_f, qNext, qBreak, qCont, qDrop, qRet, qRetN, s_if, qgName, qgNil, qgCons, qgTup, qgSub, qAsg, qPar, qVar, qC, qOp, qUn, qTest, s_and, s_or, qNot, s_andV, s_orV, qNotV, s_ifE, qNil, qCons, qTup, qLst, qCB, qBM, qSl, qNoPart, qPart, qNeg, qAdd, qLt, qEq, qDNew, qFld, qFldS, qCall, qMeth, qMake, qRaise, qTry, qLRng, qYes, brS_t, brS_f, brW_t, brW_f, brA_t, brA_f, brO_t, brO_f, brAV_t, brAV_f, brOV_t, brOV_f, brI_t, brI_f, s_wipe0, s_wipeS, slot_0, slot_s, set_0, set_s, ln0, ln1, ln2, ln3, ln4, ln5, s_len_t, s_list_t, s_tup_t, s_int_i, s_int_b, s_min2, s_max2, s_min3, s_str, s_ty_s, s_le, s_gt, s_ge, s_sub, s_mul, s_mod, s_fdiv, s_pow, dE_nx, dE_rt, dE_ex, true_and, Bool.not_true, Bool.not_false, decide_true, if_true, if_false, Bool.false_eq_true])
    refine i_len (.inl gi.hO) ?_
    (try simp only [s_for, s_lc, qiRng1, qiRng2, qiVal, brL_t, brL_f, qNext, qBreak, qCont, qDrop, qRet, qRetN, s_if, qgName, qgNil, qgCons, qgTup, qgSub, qAsg, qPar, qVar, qC, qOp, qUn, qTest, s_and, s_or, qNot, s_andV, s_orV, qNotV, s_ifE, qNil, qCons, qTup, qLst, qCB, qBM, qSl, qNoPart, qPart, qNeg, qAdd, qLt, qEq, qDNew, qFld, qFldS, qCall, qMeth, qMake, qRaise, qTry, qLRng, qYes, brS_t, brS_f, brW_t, brW_f, brA_t, brA_f, brO_t, brO_f, brAV_t, brAV_f, brOV_t, brOV_f, brI_t, brI_f, s_wipe0, s_wipeS, slot_0, slot_s, set_0, set_s, ln0, ln1, ln2, ln3, ln4, ln5, s_len_t, s_list_t, s_tup_t, s_int_i, s_int_b, s_min2, s_max2, s_min3, s_str, s_ty_s, s_le, s_gt, s_ge, s_sub, s_mul, s_mod, s_fdiv, s_pow, dE_nx, dE_rt, dE_ex, true_and, Bool.not_true, Bool.not_false, decide_true, if_true, if_false, Bool.false_eq_true])
    rw [txd_len, List.length_reverse]
    cases ws with
    | nil =>
      refine i_wh (fun h => by simp at h) fun _ => q4.nx _ _ ?_
      (try simp only [s_for, s_lc, qiRng1, qiRng2, qiVal, brL_t, brL_f, qNext, qBreak, qCont, qDrop, qRet, qRetN, s_if, qgName, qgNil, qgCons, qgTup, qgSub, qAsg, qPar, qVar, qC, qOp, qUn, qTest, s_and, s_or, qNot, s_andV, s_orV, qNotV, s_ifE, qNil, qCons, qTup, qLst, qCB, qBM, qSl, qNoPart, qPart, qNeg, qAdd, qLt, qEq, qDNew, qFld, qFldS, qCall, qMeth, qMake, qRaise, qTry, qLRng, qYes, brS_t, brS_f, brW_t, brW_f, brA_t, brA_f, brO_t, brO_f, brAV_t, brAV_f, brOV_t, brOV_f, brI_t, brI_f, s_wipe0, s_wipeS, slot_0, slot_s, set_0, set_s, ln0, ln1, ln2, ln3, ln4, ln5, s_len_t, s_list_t, s_tup_t, s_int_i, s_int_b, s_min2, s_max2, s_min3, s_str, s_ty_s, s_le, s_gt, s_ge, s_sub, s_mul, s_mod, s_fdiv, s_pow, dE_nx, dE_rt, dE_ex, true_and, Bool.not_true, Bool.not_false, decide_true, if_true, if_false, Bool.false_eq_true])
      have hl := gi.len
      obtain ⟨p, rfl⟩ : ∃ p, rs = [p] := by
        match rs, hl with
        | [p], _ => exact ⟨p, rfl⟩
      refine i_ix (.inl gi.hR) (at_cons (x := .ref p.1)) ?_
      refine i_tuple (.inl (gi.hr p (by simp)).1) ?_
      refine wk_of gi.le (q p.2 ?_ (gi.ok.1 p (by simp)))
      have ht : p.2.size + 0 + 0 = m.toNat := ht
      omega
    | cons w ws =>
      refine i_wh (fun _ => ?_) fun h => absurd (by simp) h
      obtain ⟨a, k, b, g, r, rfl⟩ := gi_shape gi
      have hgl : g.size ≤ total ((a, k) :: (b, g) :: r) := total_mem (rs := (a, k) :: (b, g) :: r) (p := (b, g)) (by simp)
      have hlg := len_le g
      simp only [List.length_cons] at ht
      refine r_close gi (by omega) fun P3 gi3 => lp.nx _ _ ⟨_, _, _, Nat.lt_succ_self _, ?_, Le.refl _, _, ws, some (.tup (gD k)), rfl, gi3, ?_, rfl⟩
      · (repeat' first | exact fg_0 | refine fg_s ?_ | refine fg_n ?_)
      · rw [total_close a]; omega
end K83
namespace K83
open PySem PySem.Spec L2 PL
/-- a line's first n numbers -/
def lineD (f : Nat → Nat) (n : Nat) : List D := (List.range n).map fun j => .int (f j : Nat)
theorem lineD_len (f : Nat → Nat) (n : Nat) : (lineD f n).length = n := by unfold lineD; simp
theorem lineD_at {f : Nat → Nat} {n j : Nat} (h : j < n) : (lineD f n)[j]? = some (.int (f j : Nat)) := by
  unfold lineD
  rw [List.getElem?_map, List.getElem?_range h]
  rfl
theorem lineD_snoc (f : Nat → Nat) (n : Nat) : lineD f (n + 1) = lineD f n ++ [.int (f n : Nat)] := by
  unfold lineD
  rw [List.range_succ, List.map_append]
  rfl
theorem lineD_last {f : Nat → Nat} {n : Nat} : (lineD f (n + 1))[(lineD f (n + 1)).length - 1]? = some (.int (f n : Nat)) := by
  rw [lineD_len]
  exact lineD_at (Nat.lt_succ_self n)
section
variable {α β : Type} (del : α → Nat) (ins : β → Nat) (sub : α → β → Nat) (bs : List β)
theorem nxt_at {a : α} {f : Nat → Nat} {j : Nat} {b : β} (h : bs[j]? = some b) : nxt del ins sub bs a f (j + 1) = min (min (f j + sub a b) (f (j + 1) + del a)) (nxt del ins sub bs a f j + ins b) := by
  show (match bs[j]? with | some b => _ | none => 0) = _
  rw [h]
theorem fwd_snoc (as : List α) : ∀ (f : Nat → Nat) {i : Nat} {a : α}, as[i]? = some a → fwd del ins sub bs (as.take (i + 1)) f = nxt del ins sub bs a (fwd del ins sub bs (as.take i) f) := by
  induction as with
  | nil => intro f i a h; simp at h
  | cons x r ih =>
    intro f i a h
    cases i with
    | zero => cases h; rfl
    | succ i =>
      show fwd del ins sub bs (r.take (i + 1)) _ = nxt del ins sub bs a (fwd del ins sub bs (r.take i) _)
      exact ih _ (by simpa using h)
end
theorem first_at {h : Gr} {i : Nat} {b : Str × Gr} (e : (trees h)[i]? = some b) : first dl (trees h) (i + 1) = first dl (trees h) i + dl b := sumI_take dl (trees h) e
/-- what the trees put in cost -/
def putsD (h : Gr) : List D := (trees h).map fun b => .int (dl b : Nat)
theorem putsD_len (h : Gr) : (putsD h).length = (trees h).length := List.length_map _
theorem putsD_at {h : Gr} {i : Nat} {b : Str × Gr} (e : (trees h)[i]? = some b) : (putsD h)[i]? = some (.int (dl b : Nat)) := by
  unfold putsD
  rw [List.getElem?_map, e]
  rfl
theorem putsD_inv {h : Gr} {i : Nat} {x : D} (e : (putsD h)[i]? = some x) : ∃ b, (trees h)[i]? = some b ∧ x = .int (dl b : Nat) := by
  unfold putsD at e
  rw [List.getElem?_map] at e
  cases e2 : (trees h)[i]? with
  | none => rw [e2] at e; cases e
  | some b => rw [e2] at e; cases e; exact ⟨b, rfl, rfl⟩
theorem gD_of {h : Gr} {i : Nat} {t : Str} {k : Gr} (e : (trees h)[i]? = some (t, k)) : (gD h)[i]? = some (.tup [.str t, .tup (gD k)]) := by
  have hi : i < (gD h).length := by
    have := (List.getElem?_eq_some_iff.mp e).1
    rw [trees_len] at this
    exact this
  obtain ⟨t', k', e', e2⟩ := gD_at (List.getElem?_eq_getElem hi)
  rw [e] at e'
  cases e'
  rw [List.getElem?_eq_getElem hi, e2]
theorem r_distance (n : Nat) : ∀ ds P Q E, sp_distance (n + 1) ds P Q E → t_distance n (dEnds Q E) (startD n_distance ds) P := by
  rintro ds P Q E ⟨g, h, rfl, hg, hh, hd, q⟩
  rw [st_distance]
  unfold t_distance
  have hgl := len_le g
  have hhl := len_le h
  have hgt := trees_len g
  have hht := trees_len h
  have hgg := gD_len h
  rw [gD_len] at hgt hht
  refine seq_intro fun D1 q1 => ?_
  (try simp only [s_for, s_lc, qiRng1, qiRng2, qiVal, brL_t, brL_f, qNext, qBreak, qCont, qDrop, qRet, qRetN, s_if, qgName, qgNil, qgCons, qgTup, qgSub, qAsg, qPar, qVar, qC, qOp, qUn, qTest, s_and, s_or, qNot, s_andV, s_orV, qNotV, s_ifE, qNil, qCons, qTup, qLst, qCB, qBM, qSl, qNoPart, qPart, qNeg, qAdd, qLt, qEq, qDNew, qFld, qFldS, qCall, qMeth, qMake, qRaise, qTry, qLRng, qYes, brS_t, brS_f, brW_t, brW_f, brA_t, brA_f, brO_t, brO_f, brAV_t, brAV_f, brOV_t, brOV_f, brI_t, brI_f, s_wipe0, s_wipeS, slot_0, slot_s, set_0, set_s, ln0, ln1, ln2, ln3, ln4, ln5, s_len_t, s_list_t, s_tup_t, s_int_i, s_int_b, s_min2, s_max2, s_min3, s_str, s_ty_s, s_le, s_gt, s_ge, s_sub, s_mul, s_mod, s_fdiv, s_pow, dE_nx, dE_rt, dE_ex, true_and, Bool.not_true, Bool.not_false, decide_true, if_true, if_false, Bool.false_eq_true])
  refine lc_any (fun i x y => ∃ b, (trees h)[i]? = some b ∧ y = .int (dl b : Nat)) (by rw [gD_len]; omega) (fun _ _ => trivial) ?_ ?_
  · intro i x P2 K hx hP hK
    obtain ⟨t, k, ht, rfl⟩ := gD_at hx
    obtain ⟨h1, h2⟩ := tree_le ht
    (try simp only [s_for, s_lc, qiRng1, qiRng2, qiVal, brL_t, brL_f, qNext, qBreak, qCont, qDrop, qRet, qRetN, s_if, qgName, qgNil, qgCons, qgTup, qgSub, qAsg, qPar, qVar, qC, qOp, qUn, qTest, s_and, s_or, qNot, s_andV, s_orV, qNotV, s_ifE, qNil, qCons, qTup, qLst, qCB, qBM, qSl, qNoPart, qPart, qNeg, qAdd, qLt, qEq, qDNew, qFld, qFldS, qCall, qMeth, qMake, qRaise, qTry, qLRng, qYes, brS_t, brS_f, brW_t, brW_f, brA_t, brA_f, brO_t, brO_f, brAV_t, brAV_f, brOV_t, brOV_f, brI_t, brI_f, s_wipe0, s_wipeS, slot_0, slot_s, set_0, set_s, ln0, ln1, ln2, ln3, ln4, ln5, s_len_t, s_list_t, s_tup_t, s_int_i, s_int_b, s_min2, s_max2, s_min3, s_str, s_ty_s, s_le, s_gt, s_ge, s_sub, s_mul, s_mod, s_fdiv, s_pow, dE_nx, dE_rt, dE_ex, true_and, Bool.not_true, Bool.not_false, decide_true, if_true, if_false, Bool.false_eq_true])
    refine ⟨.cons t k .nil, rfl, by show 1 + k.size + 0 ≤ 1000; omega, hK _ _ (Le.refl _) ⟨_, ht, ?_⟩⟩
    show D.int ((1 + k.size + 0 : Nat) : Int) = D.int ((1 + k.size : Nat) : Int)
    rfl
  intro pl ys hpl hlen hC
  have ey : ys = putsD h := List.ext_getElem? fun i => by
    by_cases hi : i < ys.length
    · obtain ⟨b, e, e2⟩ := hC i _ _ (List.getElem?_eq_getElem (by omega)) (List.getElem?_eq_getElem hi)
      rw [putsD_at e, List.getElem?_eq_getElem hi, e2]
    · rw [List.getElem?_eq_none (by omega), List.getElem?_eq_none (by rw [putsD_len, trees_len]; omega)]
  subst ey
  clear hC hlen
  refine q1.nx _ _ (seq_intro fun D2 q2 => ?_)
  (try simp only [s_for, s_lc, qiRng1, qiRng2, qiVal, brL_t, brL_f, qNext, qBreak, qCont, qDrop, qRet, qRetN, s_if, qgName, qgNil, qgCons, qgTup, qgSub, qAsg, qPar, qVar, qC, qOp, qUn, qTest, s_and, s_or, qNot, s_andV, s_orV, qNotV, s_ifE, qNil, qCons, qTup, qLst, qCB, qBM, qSl, qNoPart, qPart, qNeg, qAdd, qLt, qEq, qDNew, qFld, qFldS, qCall, qMeth, qMake, qRaise, qTry, qLRng, qYes, brS_t, brS_f, brW_t, brW_f, brA_t, brA_f, brO_t, brO_f, brAV_t, brAV_f, brOV_t, brOV_f, brI_t, brI_f, s_wipe0, s_wipeS, slot_0, slot_s, set_0, set_s, ln0, ln1, ln2, ln3, ln4, ln5, s_len_t, s_list_t, s_tup_t, s_int_i, s_int_b, s_min2, s_max2, s_min3, s_str, s_ty_s, s_le, s_gt, s_ge, s_sub, s_mul, s_mod, s_fdiv, s_pow, dE_nx, dE_rt, dE_ex, true_and, Bool.not_true, Bool.not_false, decide_true, if_true, if_false, Bool.false_eq_true])
  intro ll hll
  obtain ⟨hlp, hll⟩ := up_none.mp hll
  refine q2.nx _ _ (seq_intro fun D3 q3 => ?_)
  (try simp only [s_for, s_lc, qiRng1, qiRng2, qiVal, brL_t, brL_f, qNext, qBreak, qCont, qDrop, qRet, qRetN, s_if, qgName, qgNil, qgCons, qgTup, qgSub, qAsg, qPar, qVar, qC, qOp, qUn, qTest, s_and, s_or, qNot, s_andV, s_orV, qNotV, s_ifE, qNil, qCons, qTup, qLst, qCB, qBM, qSl, qNoPart, qPart, qNeg, qAdd, qLt, qEq, qDNew, qFld, qFldS, qCall, qMeth, qMake, qRaise, qTry, qLRng, qYes, brS_t, brS_f, brW_t, brW_f, brA_t, brA_f, brO_t, brO_f, brAV_t, brAV_f, brOV_t, brOV_f, brI_t, brI_f, s_wipe0, s_wipeS, slot_0, slot_s, set_0, set_s, ln0, ln1, ln2, ln3, ln4, ln5, s_len_t, s_list_t, s_tup_t, s_int_i, s_int_b, s_min2, s_max2, s_min3, s_str, s_ty_s, s_le, s_gt, s_ge, s_sub, s_mul, s_mod, s_fdiv, s_pow, dE_nx, dE_rt, dE_ex, true_and, Bool.not_true, Bool.not_false, decide_true, if_true, if_false, Bool.false_eq_true])
  have S0 : RdL (up (up P pl (.lst (putsD h))) ll (.lst [.int 0])) pl (putsD h) := .inl (by rw [up_ne hlp.symm, up_same])
  refine ⟨putsD h, S0, ?_⟩
  refine for_intro (fun i σ P' => ∃ x5, σ = [some (.tup (gD g)), some (.tup (gD h)), some (.ref pl), none, some (.ref ll), x5, none, none, none, none, none, none] ∧ P' = up (up P pl (.lst (putsD h))) ll (.lst (lineD (first dl (trees h)) (i + 1))))
    ⟨_, rfl, rfl⟩ ?_ ?_
  · rintro i x σ P' D4 hx ⟨x5, rfl, rfl⟩ lp
    obtain ⟨b, hb, rfl⟩ := putsD_inv hx
    refine ⟨.inl (by rw [up_ne hlp.symm, up_same]), ?_⟩
    (try simp only [s_for, s_lc, qiRng1, qiRng2, qiVal, brL_t, brL_f, qNext, qBreak, qCont, qDrop, qRet, qRetN, s_if, qgName, qgNil, qgCons, qgTup, qgSub, qAsg, qPar, qVar, qC, qOp, qUn, qTest, s_and, s_or, qNot, s_andV, s_orV, qNotV, s_ifE, qNil, qCons, qTup, qLst, qCB, qBM, qSl, qNoPart, qPart, qNeg, qAdd, qLt, qEq, qDNew, qFld, qFldS, qCall, qMeth, qMake, qRaise, qTry, qLRng, qYes, brS_t, brS_f, brW_t, brW_f, brA_t, brA_f, brO_t, brO_f, brAV_t, brAV_f, brOV_t, brOV_f, brI_t, brI_f, s_wipe0, s_wipeS, slot_0, slot_s, set_0, set_s, ln0, ln1, ln2, ln3, ln4, ln5, s_len_t, s_list_t, s_tup_t, s_int_i, s_int_b, s_min2, s_max2, s_min3, s_str, s_ty_s, s_le, s_gt, s_ge, s_sub, s_mul, s_mod, s_fdiv, s_pow, dE_nx, dE_rt, dE_ex, true_and, Bool.not_true, Bool.not_false, decide_true, if_true, if_false, Bool.false_eq_true])
    refine ⟨i_tyL (.inl up_same), ?_⟩
    refine i_ix (.inl up_same) (at_last lineD_last) ?_
    (try simp only [s_for, s_lc, qiRng1, qiRng2, qiVal, brL_t, brL_f, qNext, qBreak, qCont, qDrop, qRet, qRetN, s_if, qgName, qgNil, qgCons, qgTup, qgSub, qAsg, qPar, qVar, qC, qOp, qUn, qTest, s_and, s_or, qNot, s_andV, s_orV, qNotV, s_ifE, qNil, qCons, qTup, qLst, qCB, qBM, qSl, qNoPart, qPart, qNeg, qAdd, qLt, qEq, qDNew, qFld, qFldS, qCall, qMeth, qMake, qRaise, qTry, qLRng, qYes, brS_t, brS_f, brW_t, brW_f, brA_t, brA_f, brO_t, brO_f, brAV_t, brAV_f, brOV_t, brOV_f, brI_t, brI_f, s_wipe0, s_wipeS, slot_0, slot_s, set_0, set_s, ln0, ln1, ln2, ln3, ln4, ln5, s_len_t, s_list_t, s_tup_t, s_int_i, s_int_b, s_min2, s_max2, s_min3, s_str, s_ty_s, s_le, s_gt, s_ge, s_sub, s_mul, s_mod, s_fdiv, s_pow, dE_nx, dE_rt, dE_ex, true_and, Bool.not_true, Bool.not_false, decide_true, if_true, if_false, Bool.false_eq_true])
    have hib : i < (trees h).length := (List.getElem?_eq_some_iff.mp hb).1
    refine i_app' up_same (by rw [lineD_len]; omega) ?_
    (try simp only [s_for, s_lc, qiRng1, qiRng2, qiVal, brL_t, brL_f, qNext, qBreak, qCont, qDrop, qRet, qRetN, s_if, qgName, qgNil, qgCons, qgTup, qgSub, qAsg, qPar, qVar, qC, qOp, qUn, qTest, s_and, s_or, qNot, s_andV, s_orV, qNotV, s_ifE, qNil, qCons, qTup, qLst, qCB, qBM, qSl, qNoPart, qPart, qNeg, qAdd, qLt, qEq, qDNew, qFld, qFldS, qCall, qMeth, qMake, qRaise, qTry, qLRng, qYes, brS_t, brS_f, brW_t, brW_f, brA_t, brA_f, brO_t, brO_f, brAV_t, brAV_f, brOV_t, brOV_f, brI_t, brI_f, s_wipe0, s_wipeS, slot_0, slot_s, set_0, set_s, ln0, ln1, ln2, ln3, ln4, ln5, s_len_t, s_list_t, s_tup_t, s_int_i, s_int_b, s_min2, s_max2, s_min3, s_str, s_ty_s, s_le, s_gt, s_ge, s_sub, s_mul, s_mod, s_fdiv, s_pow, dE_nx, dE_rt, dE_ex, true_and, Bool.not_true, Bool.not_false, decide_true, if_true, if_false, Bool.false_eq_true])
    rw [up_up]
    refine lp.nx _ _ ⟨_, _, ?_, Le.refl _, some (.int (dl b : Nat)), rfl, ?_⟩
    · (repeat' first | exact fg_0 | refine fg_s ?_ | refine fg_n ?_)
    · rw [lineD_snoc _ (i + 1), first_at hb]
      rfl
  rintro σ P' ⟨x5, rfl, rfl⟩
  rw [putsD_len]
  refine ⟨.inl (by rw [up_ne hlp.symm, up_same]), q3.nx _ _ (seq_intro fun D4 q4 => ?_)⟩
  (try simp only [s_for, s_lc, qiRng1, qiRng2, qiVal, brL_t, brL_f, qNext, qBreak, qCont, qDrop, qRet, qRetN, s_if, qgName, qgNil, qgCons, qgTup, qgSub, qAsg, qPar, qVar, qC, qOp, qUn, qTest, s_and, s_or, qNot, s_andV, s_orV, qNotV, s_ifE, qNil, qCons, qTup, qLst, qCB, qBM, qSl, qNoPart, qPart, qNeg, qAdd, qLt, qEq, qDNew, qFld, qFldS, qCall, qMeth, qMake, qRaise, qTry, qLRng, qYes, brS_t, brS_f, brW_t, brW_f, brA_t, brA_f, brO_t, brO_f, brAV_t, brAV_f, brOV_t, brOV_f, brI_t, brI_f, s_wipe0, s_wipeS, slot_0, slot_s, set_0, set_s, ln0, ln1, ln2, ln3, ln4, ln5, s_len_t, s_list_t, s_tup_t, s_int_i, s_int_b, s_min2, s_max2, s_min3, s_str, s_ty_s, s_le, s_gt, s_ge, s_sub, s_mul, s_mod, s_fdiv, s_pow, dE_nx, dE_rt, dE_ex, true_and, Bool.not_true, Bool.not_false, decide_true, if_true, if_false, Bool.false_eq_true])
  refine for_intro (fun i σ P' => ∃ lr x3 x5 x6 x7 x8 x9 x10 x11, σ = [some (.tup (gD g)), some (.tup (gD h)), some (.ref pl), x3, some (.ref lr), x5, x6, x7, x8, x9, x10, x11] ∧ Le P P' ∧ P' pl = some (.lst (putsD h)) ∧ P' lr = some (.lst (lineD (fwd dl dl sb (trees h) ((trees g).take i) (first dl (trees h))) ((trees h).length + 1))))
    ⟨ll, _, _, _, _, _, _, _, _, rfl, (Le.new hpl).newR hll, by rw [up_ne hlp.symm, up_same], up_same⟩ ?_ ?_
  · rintro i x σ P' D5 hx ⟨lr, x3, x5, x6, x7, x8, x9, x10, x11, rfl, le1, hp1, hl1⟩ lp
    obtain ⟨t, k, ht, rfl⟩ := gD_at hx
    obtain ⟨h1, h2⟩ := tree_le ht
    refine ⟨trivial, ?_⟩
    (try simp only [s_for, s_lc, qiRng1, qiRng2, qiVal, brL_t, brL_f, qNext, qBreak, qCont, qDrop, qRet, qRetN, s_if, qgName, qgNil, qgCons, qgTup, qgSub, qAsg, qPar, qVar, qC, qOp, qUn, qTest, s_and, s_or, qNot, s_andV, s_orV, qNotV, s_ifE, qNil, qCons, qTup, qLst, qCB, qBM, qSl, qNoPart, qPart, qNeg, qAdd, qLt, qEq, qDNew, qFld, qFldS, qCall, qMeth, qMake, qRaise, qTry, qLRng, qYes, brS_t, brS_f, brW_t, brW_f, brA_t, brA_f, brO_t, brO_f, brAV_t, brAV_f, brOV_t, brOV_f, brI_t, brI_f, s_wipe0, s_wipeS, slot_0, slot_s, set_0, set_s, ln0, ln1, ln2, ln3, ln4, ln5, s_len_t, s_list_t, s_tup_t, s_int_i, s_int_b, s_min2, s_max2, s_min3, s_str, s_ty_s, s_le, s_gt, s_ge, s_sub, s_mul, s_mod, s_fdiv, s_pow, dE_nx, dE_rt, dE_ex, true_and, Bool.not_true, Bool.not_false, decide_true, if_true, if_false, Bool.false_eq_true])
    refine ⟨rfl, seq_intro fun D6 q6 => ?_⟩
    (try simp only [s_for, s_lc, qiRng1, qiRng2, qiVal, brL_t, brL_f, qNext, qBreak, qCont, qDrop, qRet, qRetN, s_if, qgName, qgNil, qgCons, qgTup, qgSub, qAsg, qPar, qVar, qC, qOp, qUn, qTest, s_and, s_or, qNot, s_andV, s_orV, qNotV, s_ifE, qNil, qCons, qTup, qLst, qCB, qBM, qSl, qNoPart, qPart, qNeg, qAdd, qLt, qEq, qDNew, qFld, qFldS, qCall, qMeth, qMake, qRaise, qTry, qLRng, qYes, brS_t, brS_f, brW_t, brW_f, brA_t, brA_f, brO_t, brO_f, brAV_t, brAV_f, brOV_t, brOV_f, brI_t, brI_f, s_wipe0, s_wipeS, slot_0, slot_s, set_0, set_s, ln0, ln1, ln2, ln3, ln4, ln5, s_len_t, s_list_t, s_tup_t, s_int_i, s_int_b, s_min2, s_max2, s_min3, s_str, s_ty_s, s_le, s_gt, s_ge, s_sub, s_mul, s_mod, s_fdiv, s_pow, dE_nx, dE_rt, dE_ex, true_and, Bool.not_true, Bool.not_false, decide_true, if_true, if_false, Bool.false_eq_true])
    refine ⟨k, rfl, by omega, ?_⟩
    (try simp only [s_for, s_lc, qiRng1, qiRng2, qiVal, brL_t, brL_f, qNext, qBreak, qCont, qDrop, qRet, qRetN, s_if, qgName, qgNil, qgCons, qgTup, qgSub, qAsg, qPar, qVar, qC, qOp, qUn, qTest, s_and, s_or, qNot, s_andV, s_orV, qNotV, s_ifE, qNil, qCons, qTup, qLst, qCB, qBM, qSl, qNoPart, qPart, qNeg, qAdd, qLt, qEq, qDNew, qFld, qFldS, qCall, qMeth, qMake, qRaise, qTry, qLRng, qYes, brS_t, brS_f, brW_t, brW_f, brA_t, brA_f, brO_t, brO_f, brAV_t, brAV_f, brOV_t, brOV_f, brI_t, brI_f, s_wipe0, s_wipeS, slot_0, slot_s, set_0, set_s, ln0, ln1, ln2, ln3, ln4, ln5, s_len_t, s_list_t, s_tup_t, s_int_i, s_int_b, s_min2, s_max2, s_min3, s_str, s_ty_s, s_le, s_gt, s_ge, s_sub, s_mul, s_mod, s_fdiv, s_pow, dE_nx, dE_rt, dE_ex, true_and, Bool.not_true, Bool.not_false, decide_true, if_true, if_false, Bool.false_eq_true])
    refine q6.nx _ _ (seq_intro fun D7 q7 => ?_)
    (try simp only [s_for, s_lc, qiRng1, qiRng2, qiVal, brL_t, brL_f, qNext, qBreak, qCont, qDrop, qRet, qRetN, s_if, qgName, qgNil, qgCons, qgTup, qgSub, qAsg, qPar, qVar, qC, qOp, qUn, qTest, s_and, s_or, qNot, s_andV, s_orV, qNotV, s_ifE, qNil, qCons, qTup, qLst, qCB, qBM, qSl, qNoPart, qPart, qNeg, qAdd, qLt, qEq, qDNew, qFld, qFldS, qCall, qMeth, qMake, qRaise, qTry, qLRng, qYes, brS_t, brS_f, brW_t, brW_f, brA_t, brA_f, brO_t, brO_f, brAV_t, brAV_f, brOV_t, brOV_f, brI_t, brI_f, s_wipe0, s_wipeS, slot_0, slot_s, set_0, set_s, ln0, ln1, ln2, ln3, ln4, ln5, s_len_t, s_list_t, s_tup_t, s_int_i, s_int_b, s_min2, s_max2, s_min3, s_str, s_ty_s, s_le, s_gt, s_ge, s_sub, s_mul, s_mod, s_fdiv, s_pow, dE_nx, dE_rt, dE_ex, true_and, Bool.not_true, Bool.not_false, decide_true, if_true, if_false, Bool.false_eq_true])
    generalize hf : fwd dl dl sb (trees h) ((trees g).take i) (first dl (trees h)) = f at hl1
    refine i_ix (.inl hl1) (at_int (by decide) (lineD_at (by show (0 : Int).toNat < _; simp))) ?_
    (try simp only [s_for, s_lc, qiRng1, qiRng2, qiVal, brL_t, brL_f, qNext, qBreak, qCont, qDrop, qRet, qRetN, s_if, qgName, qgNil, qgCons, qgTup, qgSub, qAsg, qPar, qVar, qC, qOp, qUn, qTest, s_and, s_or, qNot, s_andV, s_orV, qNotV, s_ifE, qNil, qCons, qTup, qLst, qCB, qBM, qSl, qNoPart, qPart, qNeg, qAdd, qLt, qEq, qDNew, qFld, qFldS, qCall, qMeth, qMake, qRaise, qTry, qLRng, qYes, brS_t, brS_f, brW_t, brW_f, brA_t, brA_f, brO_t, brO_f, brAV_t, brAV_f, brOV_t, brOV_f, brI_t, brI_f, s_wipe0, s_wipeS, slot_0, slot_s, set_0, set_s, ln0, ln1, ln2, ln3, ln4, ln5, s_len_t, s_list_t, s_tup_t, s_int_i, s_int_b, s_min2, s_max2, s_min3, s_str, s_ty_s, s_le, s_gt, s_ge, s_sub, s_mul, s_mod, s_fdiv, s_pow, dE_nx, dE_rt, dE_ex, true_and, Bool.not_true, Bool.not_false, decide_true, if_true, if_false, Bool.false_eq_true])
    intro br hbr
    have hbp : br ≠ pl := fun e => by rw [e, hp1] at hbr; cases hbr
    have hbl : br ≠ lr := fun e => by rw [e, hl1] at hbr; cases hbr
    have hbP : P br = none := le1.none hbr
    refine q7.nx _ _ (seq_intro fun D8 q8 => ?_)
    (try simp only [s_for, s_lc, qiRng1, qiRng2, qiVal, brL_t, brL_f, qNext, qBreak, qCont, qDrop, qRet, qRetN, s_if, qgName, qgNil, qgCons, qgTup, qgSub, qAsg, qPar, qVar, qC, qOp, qUn, qTest, s_and, s_or, qNot, s_andV, s_orV, qNotV, s_ifE, qNil, qCons, qTup, qLst, qCB, qBM, qSl, qNoPart, qPart, qNeg, qAdd, qLt, qEq, qDNew, qFld, qFldS, qCall, qMeth, qMake, qRaise, qTry, qLRng, qYes, brS_t, brS_f, brW_t, brW_f, brA_t, brA_f, brO_t, brO_f, brAV_t, brAV_f, brOV_t, brOV_f, brI_t, brI_f, s_wipe0, s_wipeS, slot_0, slot_s, set_0, set_s, ln0, ln1, ln2, ln3, ln4, ln5, s_len_t, s_list_t, s_tup_t, s_int_i, s_int_b, s_min2, s_max2, s_min3, s_str, s_ty_s, s_le, s_gt, s_ge, s_sub, s_mul, s_mod, s_fdiv, s_pow, dE_nx, dE_rt, dE_ex, true_and, Bool.not_true, Bool.not_false, decide_true, if_true, if_false, Bool.false_eq_true])
    refine ⟨by omega, ?_⟩
    refine for_intro (fun j σ P' => ∃ x10 x11, σ = [some (.tup (gD g)), some (.tup (gD h)), some (.ref pl), x3, some (.ref lr), x5, some (.str t), some (.tup (gD k)), some (.int (1 + (k.size : Int))), some (.ref br), x10, x11] ∧ Le P P' ∧ P' pl = some (.lst (putsD h)) ∧ P' lr = some (.lst (lineD f ((trees h).length + 1))) ∧ P' br = some (.lst (lineD (nxt dl dl sb (trees h) (t, k) f) (j + 1))))
      ⟨_, _, rfl, le1.newR hbP, by rw [up_ne hbp.symm]; exact hp1, by rw [up_ne hbl.symm]; exact hl1, ?_⟩ ?_ ?_
    · rw [up_same]
      show some (O.lst [D.int ((f 0 : Nat) + (1 + (k.size : Int)))]) = some (O.lst [D.int ((f 0 + (1 + k.size) : Nat) : Int)])
      rw [show (((f 0 + (1 + k.size) : Nat)) : Int) = (f 0 : Nat) + (1 + (k.size : Int)) by omega]
    · rintro j x σ P2 D9 hx2 ⟨x10, x11, rfl, le2, hp2, hl2, hb2⟩ lp2
      have hj : j < (gD h).length := by
        have := (List.getElem?_eq_some_iff.mp hx2).1
        rw [rgD_length] at this
        omega
      rw [rgD_get (by omega)] at hx2
      cases hx2
      obtain ⟨u, l, hu, hgx⟩ := gD_at (List.getElem?_eq_getElem hj)
      have hgo := gD_of hu
      obtain ⟨h3, h4⟩ := tree_le hu
      have hj2 : j < (trees h).length := by rw [trees_len]; exact hj
      refine ⟨trivial, ?_⟩
      (try simp only [s_for, s_lc, qiRng1, qiRng2, qiVal, brL_t, brL_f, qNext, qBreak, qCont, qDrop, qRet, qRetN, s_if, qgName, qgNil, qgCons, qgTup, qgSub, qAsg, qPar, qVar, qC, qOp, qUn, qTest, s_and, s_or, qNot, s_andV, s_orV, qNotV, s_ifE, qNil, qCons, qTup, qLst, qCB, qBM, qSl, qNoPart, qPart, qNeg, qAdd, qLt, qEq, qDNew, qFld, qFldS, qCall, qMeth, qMake, qRaise, qTry, qLRng, qYes, brS_t, brS_f, brW_t, brW_f, brA_t, brA_f, brO_t, brO_f, brAV_t, brAV_f, brOV_t, brOV_f, brI_t, brI_f, s_wipe0, s_wipeS, slot_0, slot_s, set_0, set_s, ln0, ln1, ln2, ln3, ln4, ln5, s_len_t, s_list_t, s_tup_t, s_int_i, s_int_b, s_min2, s_max2, s_min3, s_str, s_ty_s, s_le, s_gt, s_ge, s_sub, s_mul, s_mod, s_fdiv, s_pow, dE_nx, dE_rt, dE_ex, true_and, Bool.not_true, Bool.not_false, decide_true, if_true, if_false, Bool.false_eq_true])
      refine seq_intro fun D10 q10 => ?_
      (try simp only [s_for, s_lc, qiRng1, qiRng2, qiVal, brL_t, brL_f, qNext, qBreak, qCont, qDrop, qRet, qRetN, s_if, qgName, qgNil, qgCons, qgTup, qgSub, qAsg, qPar, qVar, qC, qOp, qUn, qTest, s_and, s_or, qNot, s_andV, s_orV, qNotV, s_ifE, qNil, qCons, qTup, qLst, qCB, qBM, qSl, qNoPart, qPart, qNeg, qAdd, qLt, qEq, qDNew, qFld, qFldS, qCall, qMeth, qMake, qRaise, qTry, qLRng, qYes, brS_t, brS_f, brW_t, brW_f, brA_t, brA_f, brO_t, brO_f, brAV_t, brAV_f, brOV_t, brOV_f, brI_t, brI_f, s_wipe0, s_wipeS, slot_0, slot_s, set_0, set_s, ln0, ln1, ln2, ln3, ln4, ln5, s_len_t, s_list_t, s_tup_t, s_int_i, s_int_b, s_min2, s_max2, s_min3, s_str, s_ty_s, s_le, s_gt, s_ge, s_sub, s_mul, s_mod, s_fdiv, s_pow, dE_nx, dE_rt, dE_ex, true_and, Bool.not_true, Bool.not_false, decide_true, if_true, if_false, Bool.false_eq_true])
      rw [Int.zero_add]
      refine i_ix (.inl hl2) (at_nat (lineD_at (by omega))) ?_
      refine i_ixT (at_nat hgo) (i_ixT at_cons ?_)
      (try simp only [s_for, s_lc, qiRng1, qiRng2, qiVal, brL_t, brL_f, qNext, qBreak, qCont, qDrop, qRet, qRetN, s_if, qgName, qgNil, qgCons, qgTup, qgSub, qAsg, qPar, qVar, qC, qOp, qUn, qTest, s_and, s_or, qNot, s_andV, s_orV, qNotV, s_ifE, qNil, qCons, qTup, qLst, qCB, qBM, qSl, qNoPart, qPart, qNeg, qAdd, qLt, qEq, qDNew, qFld, qFldS, qCall, qMeth, qMake, qRaise, qTry, qLRng, qYes, brS_t, brS_f, brW_t, brW_f, brA_t, brA_f, brO_t, brO_f, brAV_t, brAV_f, brOV_t, brOV_f, brI_t, brI_f, s_wipe0, s_wipeS, slot_0, slot_s, set_0, set_s, ln0, ln1, ln2, ln3, ln4, ln5, s_len_t, s_list_t, s_tup_t, s_int_i, s_int_b, s_min2, s_max2, s_min3, s_str, s_ty_s, s_le, s_gt, s_ge, s_sub, s_mul, s_mod, s_fdiv, s_pow, dE_nx, dE_rt, dE_ex, true_and, Bool.not_true, Bool.not_false, decide_true, if_true, if_false, Bool.false_eq_true])
      refine i_ixT (at_nat hgo) (i_ixT (at_nat (i := 1) rfl) ?_)
      refine ⟨k, l, rfl, by omega, by omega, by omega, ?_⟩
      (try simp only [s_for, s_lc, qiRng1, qiRng2, qiVal, brL_t, brL_f, qNext, qBreak, qCont, qDrop, qRet, qRetN, s_if, qgName, qgNil, qgCons, qgTup, qgSub, qAsg, qPar, qVar, qC, qOp, qUn, qTest, s_and, s_or, qNot, s_andV, s_orV, qNotV, s_ifE, qNil, qCons, qTup, qLst, qCB, qBM, qSl, qNoPart, qPart, qNeg, qAdd, qLt, qEq, qDNew, qFld, qFldS, qCall, qMeth, qMake, qRaise, qTry, qLRng, qYes, brS_t, brS_f, brW_t, brW_f, brA_t, brA_f, brO_t, brO_f, brAV_t, brAV_f, brOV_t, brOV_f, brI_t, brI_f, s_wipe0, s_wipeS, slot_0, slot_s, set_0, set_s, ln0, ln1, ln2, ln3, ln4, ln5, s_len_t, s_list_t, s_tup_t, s_int_i, s_int_b, s_min2, s_max2, s_min3, s_str, s_ty_s, s_le, s_gt, s_ge, s_sub, s_mul, s_mod, s_fdiv, s_pow, dE_nx, dE_rt, dE_ex, true_and, Bool.not_true, Bool.not_false, decide_true, if_true, if_false, Bool.false_eq_true])
      refine q10.nx _ _ ?_
      (try simp only [s_for, s_lc, qiRng1, qiRng2, qiVal, brL_t, brL_f, qNext, qBreak, qCont, qDrop, qRet, qRetN, s_if, qgName, qgNil, qgCons, qgTup, qgSub, qAsg, qPar, qVar, qC, qOp, qUn, qTest, s_and, s_or, qNot, s_andV, s_orV, qNotV, s_ifE, qNil, qCons, qTup, qLst, qCB, qBM, qSl, qNoPart, qPart, qNeg, qAdd, qLt, qEq, qDNew, qFld, qFldS, qCall, qMeth, qMake, qRaise, qTry, qLRng, qYes, brS_t, brS_f, brW_t, brW_f, brA_t, brA_f, brO_t, brO_f, brAV_t, brAV_f, brOV_t, brOV_f, brI_t, brI_f, s_wipe0, s_wipeS, slot_0, slot_s, set_0, set_s, ln0, ln1, ln2, ln3, ln4, ln5, s_len_t, s_list_t, s_tup_t, s_int_i, s_int_b, s_min2, s_max2, s_min3, s_str, s_ty_s, s_le, s_gt, s_ge, s_sub, s_mul, s_mod, s_fdiv, s_pow, dE_nx, dE_rt, dE_ex, true_and, Bool.not_true, Bool.not_false, decide_true, if_true, if_false, Bool.false_eq_true])
      refine ⟨i_tyL (.inl hb2), ?_⟩
      refine i_ix (.inl hl2) (at_nat (i := j + 1) (lineD_at (by omega))) ?_
      (try simp only [s_for, s_lc, qiRng1, qiRng2, qiVal, brL_t, brL_f, qNext, qBreak, qCont, qDrop, qRet, qRetN, s_if, qgName, qgNil, qgCons, qgTup, qgSub, qAsg, qPar, qVar, qC, qOp, qUn, qTest, s_and, s_or, qNot, s_andV, s_orV, qNotV, s_ifE, qNil, qCons, qTup, qLst, qCB, qBM, qSl, qNoPart, qPart, qNeg, qAdd, qLt, qEq, qDNew, qFld, qFldS, qCall, qMeth, qMake, qRaise, qTry, qLRng, qYes, brS_t, brS_f, brW_t, brW_f, brA_t, brA_f, brO_t, brO_f, brAV_t, brAV_f, brOV_t, brOV_f, brI_t, brI_f, s_wipe0, s_wipeS, slot_0, slot_s, set_0, set_s, ln0, ln1, ln2, ln3, ln4, ln5, s_len_t, s_list_t, s_tup_t, s_int_i, s_int_b, s_min2, s_max2, s_min3, s_str, s_ty_s, s_le, s_gt, s_ge, s_sub, s_mul, s_mod, s_fdiv, s_pow, dE_nx, dE_rt, dE_ex, true_and, Bool.not_true, Bool.not_false, decide_true, if_true, if_false, Bool.false_eq_true])
      refine i_ix (.inl hb2) (at_nat (lineD_at (by omega))) (i_ix (.inl hp2) (at_nat (putsD_at hu)) ?_)
      (try simp only [s_for, s_lc, qiRng1, qiRng2, qiVal, brL_t, brL_f, qNext, qBreak, qCont, qDrop, qRet, qRetN, s_if, qgName, qgNil, qgCons, qgTup, qgSub, qAsg, qPar, qVar, qC, qOp, qUn, qTest, s_and, s_or, qNot, s_andV, s_orV, qNotV, s_ifE, qNil, qCons, qTup, qLst, qCB, qBM, qSl, qNoPart, qPart, qNeg, qAdd, qLt, qEq, qDNew, qFld, qFldS, qCall, qMeth, qMake, qRaise, qTry, qLRng, qYes, brS_t, brS_f, brW_t, brW_f, brA_t, brA_f, brO_t, brO_f, brAV_t, brAV_f, brOV_t, brOV_f, brI_t, brI_f, s_wipe0, s_wipeS, slot_0, slot_s, set_0, set_s, ln0, ln1, ln2, ln3, ln4, ln5, s_len_t, s_list_t, s_tup_t, s_int_i, s_int_b, s_min2, s_max2, s_min3, s_str, s_ty_s, s_le, s_gt, s_ge, s_sub, s_mul, s_mod, s_fdiv, s_pow, dE_nx, dE_rt, dE_ex, true_and, Bool.not_true, Bool.not_false, decide_true, if_true, if_false, Bool.false_eq_true])
      refine i_app' hb2 (by rw [lineD_len]; omega) ?_
      refine lp2.nx _ _ ⟨_, _, ?_, Le.refl _, some (.int (j : Int)), none, rfl, le2.newR hbP, by rw [up_ne hbp.symm]; exact hp2, by rw [up_ne hbl.symm]; exact hl2, ?_⟩
      · (repeat' first | exact fg_0 | refine fg_s ?_ | refine fg_n ?_)
      · rw [up_same, lineD_snoc _ (j + 1), nxt_at dl dl sb (trees h) hu]
        congr 4
        simp only [sb, dl]
        by_cases e : t = u
        · simp [e]
          omega
        · simp [e]
          omega
    · rintro σ P2 ⟨x10, x11, rfl, le2, hp2, hl2, hb2⟩
      refine ⟨trivial, q8.nx _ _ ?_⟩
      (try simp only [s_for, s_lc, qiRng1, qiRng2, qiVal, brL_t, brL_f, qNext, qBreak, qCont, qDrop, qRet, qRetN, s_if, qgName, qgNil, qgCons, qgTup, qgSub, qAsg, qPar, qVar, qC, qOp, qUn, qTest, s_and, s_or, qNot, s_andV, s_orV, qNotV, s_ifE, qNil, qCons, qTup, qLst, qCB, qBM, qSl, qNoPart, qPart, qNeg, qAdd, qLt, qEq, qDNew, qFld, qFldS, qCall, qMeth, qMake, qRaise, qTry, qLRng, qYes, brS_t, brS_f, brW_t, brW_f, brA_t, brA_f, brO_t, brO_f, brAV_t, brAV_f, brOV_t, brOV_f, brI_t, brI_f, s_wipe0, s_wipeS, slot_0, slot_s, set_0, set_s, ln0, ln1, ln2, ln3, ln4, ln5, s_len_t, s_list_t, s_tup_t, s_int_i, s_int_b, s_min2, s_max2, s_min3, s_str, s_ty_s, s_le, s_gt, s_ge, s_sub, s_mul, s_mod, s_fdiv, s_pow, dE_nx, dE_rt, dE_ex, true_and, Bool.not_true, Bool.not_false, decide_true, if_true, if_false, Bool.false_eq_true])
      refine lp.nx _ _ ⟨_, _, ?_, Le.refl _, br, x3, x5, some (.str t), some (.tup (gD k)), some (.int (1 + (k.size : Int))), some (.ref br), x10, x11, rfl, le2, hp2, ?_⟩
      · (repeat' first | exact fg_0 | refine fg_s ?_ | refine fg_n ?_)
      · rw [hb2, rgD_length, fwd_snoc dl dl sb (trees h) (trees g) _ ht, hf]
        congr 3
        rw [Int.toNat_natCast, trees_len]
  · rintro σ P' ⟨lr, x3, x5, x6, x7, x8, x9, x10, x11, rfl, le1, hp1, hl1⟩
    refine ⟨trivial, q4.nx _ _ ?_⟩
    (try simp only [s_for, s_lc, qiRng1, qiRng2, qiVal, brL_t, brL_f, qNext, qBreak, qCont, qDrop, qRet, qRetN, s_if, qgName, qgNil, qgCons, qgTup, qgSub, qAsg, qPar, qVar, qC, qOp, qUn, qTest, s_and, s_or, qNot, s_andV, s_orV, qNotV, s_ifE, qNil, qCons, qTup, qLst, qCB, qBM, qSl, qNoPart, qPart, qNeg, qAdd, qLt, qEq, qDNew, qFld, qFldS, qCall, qMeth, qMake, qRaise, qTry, qLRng, qYes, brS_t, brS_f, brW_t, brW_f, brA_t, brA_f, brO_t, brO_f, brAV_t, brAV_f, brOV_t, brOV_f, brI_t, brI_f, s_wipe0, s_wipeS, slot_0, slot_s, set_0, set_s, ln0, ln1, ln2, ln3, ln4, ln5, s_len_t, s_list_t, s_tup_t, s_int_i, s_int_b, s_min2, s_max2, s_min3, s_str, s_ty_s, s_le, s_gt, s_ge, s_sub, s_mul, s_mod, s_fdiv, s_pow, dE_nx, dE_rt, dE_ex, true_and, Bool.not_true, Bool.not_false, decide_true, if_true, if_false, Bool.false_eq_true])
    refine i_ix (.inl hl1) (at_last lineD_last) ?_
    refine wk_of le1 ?_
    rw [gD_len, ← hgt, List.take_length, fwd_is, ← far_back]
    exact q
end K83
namespace K83
open PySem PySem.Spec L2 PL
abbrev one1 {α : Type} : α → Nat := fun _ => 1
abbrev ne1 : Str → Str → Nat := fun x y => if x = y then 0 else 1
theorem sum_one (l : List Str) : sumI one1 l = l.length := by
  induction l with
  | nil => rfl
  | cons x r ih => show 1 + sumI one1 r = r.length + 1; rw [ih]; omega
theorem first_one {us : List Str} {j : Nat} (h : j ≤ us.length) : first one1 us j = j := by
  show sumI one1 (us.take j) = j
  rw [sum_one, List.length_take]
  omega
theorem upTo_line (us : List Str) : PL.upTo (us.length + 1) = lineD (first one1 us) (us.length + 1) := by
  unfold PL.upTo lineD
  refine List.map_congr_left fun j hj => ?_
  rw [first_one (by have := List.mem_range.mp hj; omega)]
theorem fwd_zero (us ws : List Str) : ∀ i, i ≤ ws.length → fwd one1 one1 ne1 us (ws.take i) (first one1 us) 0 = i := by
  intro i
  induction i with
  | zero => intro _; exact first_one (Nat.zero_le _)
  | succ i ih =>
    intro h
    rw [fwd_snoc one1 one1 ne1 us ws _ (List.getElem?_eq_getElem (by omega))]
    show _ + 1 = _
    rw [ih (by omega)]
theorem txts_at {ws : List Str} {i : Nat} {w : Str} (h : ws[i]? = some w) : (txts ws)[i]? = some (.str w) := by
  unfold txts
  rw [List.getElem?_map, h]
  rfl
theorem txf_len (a : List Str) : (txts a).length = a.length := List.length_map _
theorem r_flat_far : ∀ ds P Q E, sp__law_flat_far ds P Q E → t__law_flat_far (dEnds Q E) (startD n__law_flat_far ds) P := by
  rintro ds P Q E ⟨a, b, ws, us, rfl, ha, hb, hw, hu, q⟩
  rw [st__law_flat_far]
  unfold t__law_flat_far
  refine seq_intro fun D1 q1 => ?_
  (try simp only [s_for, s_lc, qiRng1, qiRng2, qiVal, brL_t, brL_f, qNext, qBreak, qCont, qDrop, qRet, qRetN, s_if, qgName, qgNil, qgCons, qgTup, qgSub, qAsg, qPar, qVar, qC, qOp, qUn, qTest, s_and, s_or, qNot, s_andV, s_orV, qNotV, s_ifE, qNil, qCons, qTup, qLst, qCB, qBM, qSl, qNoPart, qPart, qNeg, qAdd, qLt, qEq, qDNew, qFld, qFldS, qCall, qMeth, qMake, qRaise, qTry, qLRng, qYes, brS_t, brS_f, brW_t, brW_f, brA_t, brA_f, brO_t, brO_f, brAV_t, brAV_f, brOV_t, brOV_f, brI_t, brI_f, s_wipe0, s_wipeS, slot_0, slot_s, set_0, set_s, ln0, ln1, ln2, ln3, ln4, ln5, s_len_t, s_list_t, s_tup_t, s_int_i, s_int_b, s_min2, s_max2, s_min3, s_str, s_ty_s, s_le, s_gt, s_ge, s_sub, s_mul, s_mod, s_fdiv, s_pow, dE_nx, dE_rt, dE_ex, true_and, Bool.not_true, Bool.not_false, decide_true, if_true, if_false, Bool.false_eq_true])
  refine i_len hb ?_
  (try simp only [s_for, s_lc, qiRng1, qiRng2, qiVal, brL_t, brL_f, qNext, qBreak, qCont, qDrop, qRet, qRetN, s_if, qgName, qgNil, qgCons, qgTup, qgSub, qAsg, qPar, qVar, qC, qOp, qUn, qTest, s_and, s_or, qNot, s_andV, s_orV, qNotV, s_ifE, qNil, qCons, qTup, qLst, qCB, qBM, qSl, qNoPart, qPart, qNeg, qAdd, qLt, qEq, qDNew, qFld, qFldS, qCall, qMeth, qMake, qRaise, qTry, qLRng, qYes, brS_t, brS_f, brW_t, brW_f, brA_t, brA_f, brO_t, brO_f, brAV_t, brAV_f, brOV_t, brOV_f, brI_t, brI_f, s_wipe0, s_wipeS, slot_0, slot_s, set_0, set_s, ln0, ln1, ln2, ln3, ln4, ln5, s_len_t, s_list_t, s_tup_t, s_int_i, s_int_b, s_min2, s_max2, s_min3, s_str, s_ty_s, s_le, s_gt, s_ge, s_sub, s_mul, s_mod, s_fdiv, s_pow, dE_nx, dE_rt, dE_ex, true_and, Bool.not_true, Bool.not_false, decide_true, if_true, if_false, Bool.false_eq_true])
  rw [txf_len]
  refine ⟨by omega, by omega, fun ll hll => ?_⟩
  refine q1.nx _ _ (seq_intro fun D2 q2 => ?_)
  (try simp only [s_for, s_lc, qiRng1, qiRng2, qiVal, brL_t, brL_f, qNext, qBreak, qCont, qDrop, qRet, qRetN, s_if, qgName, qgNil, qgCons, qgTup, qgSub, qAsg, qPar, qVar, qC, qOp, qUn, qTest, s_and, s_or, qNot, s_andV, s_orV, qNotV, s_ifE, qNil, qCons, qTup, qLst, qCB, qBM, qSl, qNoPart, qPart, qNeg, qAdd, qLt, qEq, qDNew, qFld, qFldS, qCall, qMeth, qMake, qRaise, qTry, qLRng, qYes, brS_t, brS_f, brW_t, brW_f, brA_t, brA_f, brO_t, brO_f, brAV_t, brAV_f, brOV_t, brOV_f, brI_t, brI_f, s_wipe0, s_wipeS, slot_0, slot_s, set_0, set_s, ln0, ln1, ln2, ln3, ln4, ln5, s_len_t, s_list_t, s_tup_t, s_int_i, s_int_b, s_min2, s_max2, s_min3, s_str, s_ty_s, s_le, s_gt, s_ge, s_sub, s_mul, s_mod, s_fdiv, s_pow, dE_nx, dE_rt, dE_ex, true_and, Bool.not_true, Bool.not_false, decide_true, if_true, if_false, Bool.false_eq_true])
  have ha1 : RdL (up P ll (.lst (PL.upTo (((us.length : Nat) : Int) + 1).toNat))) a (txts ws) := ha.imp (Le.new hll _ _) (Le.new hll _ _)
  refine i_len ha1 ?_
  (try simp only [s_for, s_lc, qiRng1, qiRng2, qiVal, brL_t, brL_f, qNext, qBreak, qCont, qDrop, qRet, qRetN, s_if, qgName, qgNil, qgCons, qgTup, qgSub, qAsg, qPar, qVar, qC, qOp, qUn, qTest, s_and, s_or, qNot, s_andV, s_orV, qNotV, s_ifE, qNil, qCons, qTup, qLst, qCB, qBM, qSl, qNoPart, qPart, qNeg, qAdd, qLt, qEq, qDNew, qFld, qFldS, qCall, qMeth, qMake, qRaise, qTry, qLRng, qYes, brS_t, brS_f, brW_t, brW_f, brA_t, brA_f, brO_t, brO_f, brAV_t, brAV_f, brOV_t, brOV_f, brI_t, brI_f, s_wipe0, s_wipeS, slot_0, slot_s, set_0, set_s, ln0, ln1, ln2, ln3, ln4, ln5, s_len_t, s_list_t, s_tup_t, s_int_i, s_int_b, s_min2, s_max2, s_min3, s_str, s_ty_s, s_le, s_gt, s_ge, s_sub, s_mul, s_mod, s_fdiv, s_pow, dE_nx, dE_rt, dE_ex, true_and, Bool.not_true, Bool.not_false, decide_true, if_true, if_false, Bool.false_eq_true])
  rw [txf_len]
  refine ⟨by omega, ?_⟩
  refine for_intro (fun i σ P' => ∃ lr x3 x4 x5, σ = [some (.ref a), some (.ref b), some (.ref lr), x3, x4, x5] ∧ Le P P' ∧ P' lr = some (.lst (lineD (fwd one1 one1 ne1 us (ws.take i) (first one1 us)) (us.length + 1))))
    ⟨ll, _, _, _, rfl, Le.new hll, ?_⟩ ?_ ?_
  · rw [up_same, show (((us.length : Nat) : Int) + 1).toNat = us.length + 1 by omega, upTo_line]
    rfl
  · rintro i x σ P' D3 hx ⟨lr, x3, x4, x5, rfl, le1, hl1⟩ lp
    have hi : i < ws.length := by
      have := (List.getElem?_eq_some_iff.mp hx).1
      rw [rgD_length] at this
      omega
    rw [rgD_get (by omega)] at hx
    cases hx
    have hwi := List.getElem?_eq_getElem hi
    have f0 := fwd_zero us ws i (by omega)
    generalize hf : fwd one1 one1 ne1 us (ws.take i) (first one1 us) = f at hl1 f0
    refine ⟨trivial, ?_⟩
    (try simp only [s_for, s_lc, qiRng1, qiRng2, qiVal, brL_t, brL_f, qNext, qBreak, qCont, qDrop, qRet, qRetN, s_if, qgName, qgNil, qgCons, qgTup, qgSub, qAsg, qPar, qVar, qC, qOp, qUn, qTest, s_and, s_or, qNot, s_andV, s_orV, qNotV, s_ifE, qNil, qCons, qTup, qLst, qCB, qBM, qSl, qNoPart, qPart, qNeg, qAdd, qLt, qEq, qDNew, qFld, qFldS, qCall, qMeth, qMake, qRaise, qTry, qLRng, qYes, brS_t, brS_f, brW_t, brW_f, brA_t, brA_f, brO_t, brO_f, brAV_t, brAV_f, brOV_t, brOV_f, brI_t, brI_f, s_wipe0, s_wipeS, slot_0, slot_s, set_0, set_s, ln0, ln1, ln2, ln3, ln4, ln5, s_len_t, s_list_t, s_tup_t, s_int_i, s_int_b, s_min2, s_max2, s_min3, s_str, s_ty_s, s_le, s_gt, s_ge, s_sub, s_mul, s_mod, s_fdiv, s_pow, dE_nx, dE_rt, dE_ex, true_and, Bool.not_true, Bool.not_false, decide_true, if_true, if_false, Bool.false_eq_true])
    refine seq_intro fun D4 q4 => ?_
    (try simp only [s_for, s_lc, qiRng1, qiRng2, qiVal, brL_t, brL_f, qNext, qBreak, qCont, qDrop, qRet, qRetN, s_if, qgName, qgNil, qgCons, qgTup, qgSub, qAsg, qPar, qVar, qC, qOp, qUn, qTest, s_and, s_or, qNot, s_andV, s_orV, qNotV, s_ifE, qNil, qCons, qTup, qLst, qCB, qBM, qSl, qNoPart, qPart, qNeg, qAdd, qLt, qEq, qDNew, qFld, qFldS, qCall, qMeth, qMake, qRaise, qTry, qLRng, qYes, brS_t, brS_f, brW_t, brW_f, brA_t, brA_f, brO_t, brO_f, brAV_t, brAV_f, brOV_t, brOV_f, brI_t, brI_f, s_wipe0, s_wipeS, slot_0, slot_s, set_0, set_s, ln0, ln1, ln2, ln3, ln4, ln5, s_len_t, s_list_t, s_tup_t, s_int_i, s_int_b, s_min2, s_max2, s_min3, s_str, s_ty_s, s_le, s_gt, s_ge, s_sub, s_mul, s_mod, s_fdiv, s_pow, dE_nx, dE_rt, dE_ex, true_and, Bool.not_true, Bool.not_false, decide_true, if_true, if_false, Bool.false_eq_true])
    intro br hbr
    have hbl : br ≠ lr := fun e => by rw [e, hl1] at hbr; cases hbr
    have hbP : P br = none := le1.none hbr
    refine q4.nx _ _ (seq_intro fun D5 q5 => ?_)
    (try simp only [s_for, s_lc, qiRng1, qiRng2, qiVal, brL_t, brL_f, qNext, qBreak, qCont, qDrop, qRet, qRetN, s_if, qgName, qgNil, qgCons, qgTup, qgSub, qAsg, qPar, qVar, qC, qOp, qUn, qTest, s_and, s_or, qNot, s_andV, s_orV, qNotV, s_ifE, qNil, qCons, qTup, qLst, qCB, qBM, qSl, qNoPart, qPart, qNeg, qAdd, qLt, qEq, qDNew, qFld, qFldS, qCall, qMeth, qMake, qRaise, qTry, qLRng, qYes, brS_t, brS_f, brW_t, brW_f, brA_t, brA_f, brO_t, brO_f, brAV_t, brAV_f, brOV_t, brOV_f, brI_t, brI_f, s_wipe0, s_wipeS, slot_0, slot_s, set_0, set_s, ln0, ln1, ln2, ln3, ln4, ln5, s_len_t, s_list_t, s_tup_t, s_int_i, s_int_b, s_min2, s_max2, s_min3, s_str, s_ty_s, s_le, s_gt, s_ge, s_sub, s_mul, s_mod, s_fdiv, s_pow, dE_nx, dE_rt, dE_ex, true_and, Bool.not_true, Bool.not_false, decide_true, if_true, if_false, Bool.false_eq_true])
    have hb1 : RdL (up P' br (.lst [.int (0 + (i : Int) + 1)])) b (txts us) := hb.imp (le1.newR hbP _ _) (le1.newR hbP _ _)
    refine i_len hb1 ?_
    (try simp only [s_for, s_lc, qiRng1, qiRng2, qiVal, brL_t, brL_f, qNext, qBreak, qCont, qDrop, qRet, qRetN, s_if, qgName, qgNil, qgCons, qgTup, qgSub, qAsg, qPar, qVar, qC, qOp, qUn, qTest, s_and, s_or, qNot, s_andV, s_orV, qNotV, s_ifE, qNil, qCons, qTup, qLst, qCB, qBM, qSl, qNoPart, qPart, qNeg, qAdd, qLt, qEq, qDNew, qFld, qFldS, qCall, qMeth, qMake, qRaise, qTry, qLRng, qYes, brS_t, brS_f, brW_t, brW_f, brA_t, brA_f, brO_t, brO_f, brAV_t, brAV_f, brOV_t, brOV_f, brI_t, brI_f, s_wipe0, s_wipeS, slot_0, slot_s, set_0, set_s, ln0, ln1, ln2, ln3, ln4, ln5, s_len_t, s_list_t, s_tup_t, s_int_i, s_int_b, s_min2, s_max2, s_min3, s_str, s_ty_s, s_le, s_gt, s_ge, s_sub, s_mul, s_mod, s_fdiv, s_pow, dE_nx, dE_rt, dE_ex, true_and, Bool.not_true, Bool.not_false, decide_true, if_true, if_false, Bool.false_eq_true])
    rw [txf_len]
    refine ⟨by omega, ?_⟩
    refine for_intro (fun j σ P' => ∃ x5, σ = [some (.ref a), some (.ref b), some (.ref lr), some (.int (0 + (i : Int))), some (.ref br), x5] ∧ Le P P' ∧ P' lr = some (.lst (lineD f (us.length + 1))) ∧ P' br = some (.lst (lineD (nxt one1 one1 ne1 us ws[i] f) (j + 1))))
      ⟨_, rfl, le1.newR hbP, by rw [up_ne hbl.symm]; exact hl1, ?_⟩ ?_ ?_
    · rw [up_same]
      show some (O.lst [D.int (0 + (i : Int) + 1)]) = some (O.lst [D.int ((f 0 + 1 : Nat) : Int)])
      rw [f0, show 0 + (i : Int) + 1 = ((i + 1 : Nat) : Int) by omega]
    · rintro j x σ P2 D6 hx2 ⟨x5, rfl, le2, hl2, hb2⟩ lp2
      have hj : j < us.length := by
        have := (List.getElem?_eq_some_iff.mp hx2).1
        rw [rgD_length] at this
        omega
      rw [rgD_get (by omega)] at hx2
      cases hx2
      have huj := List.getElem?_eq_getElem hj
      refine ⟨trivial, ?_⟩
      (try simp only [s_for, s_lc, qiRng1, qiRng2, qiVal, brL_t, brL_f, qNext, qBreak, qCont, qDrop, qRet, qRetN, s_if, qgName, qgNil, qgCons, qgTup, qgSub, qAsg, qPar, qVar, qC, qOp, qUn, qTest, s_and, s_or, qNot, s_andV, s_orV, qNotV, s_ifE, qNil, qCons, qTup, qLst, qCB, qBM, qSl, qNoPart, qPart, qNeg, qAdd, qLt, qEq, qDNew, qFld, qFldS, qCall, qMeth, qMake, qRaise, qTry, qLRng, qYes, brS_t, brS_f, brW_t, brW_f, brA_t, brA_f, brO_t, brO_f, brAV_t, brAV_f, brOV_t, brOV_f, brI_t, brI_f, s_wipe0, s_wipeS, slot_0, slot_s, set_0, set_s, ln0, ln1, ln2, ln3, ln4, ln5, s_len_t, s_list_t, s_tup_t, s_int_i, s_int_b, s_min2, s_max2, s_min3, s_str, s_ty_s, s_le, s_gt, s_ge, s_sub, s_mul, s_mod, s_fdiv, s_pow, dE_nx, dE_rt, dE_ex, true_and, Bool.not_true, Bool.not_false, decide_true, if_true, if_false, Bool.false_eq_true])
      rw [Int.zero_add, Int.zero_add]
      refine ⟨i_tyL (.inl hb2), ?_⟩
      refine i_ix (.inl hl2) (at_nat (lineD_at (by omega))) ?_
      refine i_ix (ha.imp (le2 _ _) (le2 _ _)) (at_nat (txts_at hwi)) (i_ix (hb.imp (le2 _ _) (le2 _ _)) (at_nat (txts_at huj)) ?_)
      (try simp only [s_for, s_lc, qiRng1, qiRng2, qiVal, brL_t, brL_f, qNext, qBreak, qCont, qDrop, qRet, qRetN, s_if, qgName, qgNil, qgCons, qgTup, qgSub, qAsg, qPar, qVar, qC, qOp, qUn, qTest, s_and, s_or, qNot, s_andV, s_orV, qNotV, s_ifE, qNil, qCons, qTup, qLst, qCB, qBM, qSl, qNoPart, qPart, qNeg, qAdd, qLt, qEq, qDNew, qFld, qFldS, qCall, qMeth, qMake, qRaise, qTry, qLRng, qYes, brS_t, brS_f, brW_t, brW_f, brA_t, brA_f, brO_t, brO_f, brAV_t, brAV_f, brOV_t, brOV_f, brI_t, brI_f, s_wipe0, s_wipeS, slot_0, slot_s, set_0, set_s, ln0, ln1, ln2, ln3, ln4, ln5, s_len_t, s_list_t, s_tup_t, s_int_i, s_int_b, s_min2, s_max2, s_min3, s_str, s_ty_s, s_le, s_gt, s_ge, s_sub, s_mul, s_mod, s_fdiv, s_pow, dE_nx, dE_rt, dE_ex, true_and, Bool.not_true, Bool.not_false, decide_true, if_true, if_false, Bool.false_eq_true])
      refine i_ix (.inl hl2) (at_nat (i := j + 1) (lineD_at (by omega))) ?_
      (try simp only [s_for, s_lc, qiRng1, qiRng2, qiVal, brL_t, brL_f, qNext, qBreak, qCont, qDrop, qRet, qRetN, s_if, qgName, qgNil, qgCons, qgTup, qgSub, qAsg, qPar, qVar, qC, qOp, qUn, qTest, s_and, s_or, qNot, s_andV, s_orV, qNotV, s_ifE, qNil, qCons, qTup, qLst, qCB, qBM, qSl, qNoPart, qPart, qNeg, qAdd, qLt, qEq, qDNew, qFld, qFldS, qCall, qMeth, qMake, qRaise, qTry, qLRng, qYes, brS_t, brS_f, brW_t, brW_f, brA_t, brA_f, brO_t, brO_f, brAV_t, brAV_f, brOV_t, brOV_f, brI_t, brI_f, s_wipe0, s_wipeS, slot_0, slot_s, set_0, set_s, ln0, ln1, ln2, ln3, ln4, ln5, s_len_t, s_list_t, s_tup_t, s_int_i, s_int_b, s_min2, s_max2, s_min3, s_str, s_ty_s, s_le, s_gt, s_ge, s_sub, s_mul, s_mod, s_fdiv, s_pow, dE_nx, dE_rt, dE_ex, true_and, Bool.not_true, Bool.not_false, decide_true, if_true, if_false, Bool.false_eq_true])
      refine i_ix (.inl hb2) (at_nat (lineD_at (by omega))) ?_
      (try simp only [s_for, s_lc, qiRng1, qiRng2, qiVal, brL_t, brL_f, qNext, qBreak, qCont, qDrop, qRet, qRetN, s_if, qgName, qgNil, qgCons, qgTup, qgSub, qAsg, qPar, qVar, qC, qOp, qUn, qTest, s_and, s_or, qNot, s_andV, s_orV, qNotV, s_ifE, qNil, qCons, qTup, qLst, qCB, qBM, qSl, qNoPart, qPart, qNeg, qAdd, qLt, qEq, qDNew, qFld, qFldS, qCall, qMeth, qMake, qRaise, qTry, qLRng, qYes, brS_t, brS_f, brW_t, brW_f, brA_t, brA_f, brO_t, brO_f, brAV_t, brAV_f, brOV_t, brOV_f, brI_t, brI_f, s_wipe0, s_wipeS, slot_0, slot_s, set_0, set_s, ln0, ln1, ln2, ln3, ln4, ln5, s_len_t, s_list_t, s_tup_t, s_int_i, s_int_b, s_min2, s_max2, s_min3, s_str, s_ty_s, s_le, s_gt, s_ge, s_sub, s_mul, s_mod, s_fdiv, s_pow, dE_nx, dE_rt, dE_ex, true_and, Bool.not_true, Bool.not_false, decide_true, if_true, if_false, Bool.false_eq_true])
      refine i_app' hb2 (by rw [lineD_len]; omega) ?_
      refine lp2.nx _ _ ⟨_, _, ?_, Le.refl _, some (.int (j : Int)), rfl, le2.newR hbP, by rw [up_ne hbl.symm]; exact hl2, ?_⟩
      · rw [Int.zero_add]
        (repeat' first | exact fg_0 | refine fg_s ?_ | refine fg_n ?_)
      · rw [up_same, lineD_snoc _ (j + 1), nxt_at one1 one1 ne1 us huj]
        congr 4
        simp only [ne1, one1]
        by_cases e : ws[i] = us[j]
        · simp [e]
          omega
        · simp [e]
          omega
    · rintro σ P2 ⟨x5, rfl, le2, hl2, hb2⟩
      refine ⟨trivial, q5.nx _ _ ?_⟩
      (try simp only [s_for, s_lc, qiRng1, qiRng2, qiVal, brL_t, brL_f, qNext, qBreak, qCont, qDrop, qRet, qRetN, s_if, qgName, qgNil, qgCons, qgTup, qgSub, qAsg, qPar, qVar, qC, qOp, qUn, qTest, s_and, s_or, qNot, s_andV, s_orV, qNotV, s_ifE, qNil, qCons, qTup, qLst, qCB, qBM, qSl, qNoPart, qPart, qNeg, qAdd, qLt, qEq, qDNew, qFld, qFldS, qCall, qMeth, qMake, qRaise, qTry, qLRng, qYes, brS_t, brS_f, brW_t, brW_f, brA_t, brA_f, brO_t, brO_f, brAV_t, brAV_f, brOV_t, brOV_f, brI_t, brI_f, s_wipe0, s_wipeS, slot_0, slot_s, set_0, set_s, ln0, ln1, ln2, ln3, ln4, ln5, s_len_t, s_list_t, s_tup_t, s_int_i, s_int_b, s_min2, s_max2, s_min3, s_str, s_ty_s, s_le, s_gt, s_ge, s_sub, s_mul, s_mod, s_fdiv, s_pow, dE_nx, dE_rt, dE_ex, true_and, Bool.not_true, Bool.not_false, decide_true, if_true, if_false, Bool.false_eq_true])
      refine lp.nx _ _ ⟨_, _, ?_, Le.refl _, br, some (.int (0 + (i : Int))), some (.ref br), x5, rfl, le2, ?_⟩
      · (repeat' first | exact fg_0 | refine fg_s ?_ | refine fg_n ?_)
      · rw [hb2, rgD_length, fwd_snoc one1 one1 ne1 us ws _ hwi, hf]
        rfl
  · rintro σ P' ⟨lr, x3, x4, x5, rfl, le1, hl1⟩
    refine ⟨trivial, q2.nx _ _ ?_⟩
    (try simp only [s_for, s_lc, qiRng1, qiRng2, qiVal, brL_t, brL_f, qNext, qBreak, qCont, qDrop, qRet, qRetN, s_if, qgName, qgNil, qgCons, qgTup, qgSub, qAsg, qPar, qVar, qC, qOp, qUn, qTest, s_and, s_or, qNot, s_andV, s_orV, qNotV, s_ifE, qNil, qCons, qTup, qLst, qCB, qBM, qSl, qNoPart, qPart, qNeg, qAdd, qLt, qEq, qDNew, qFld, qFldS, qCall, qMeth, qMake, qRaise, qTry, qLRng, qYes, brS_t, brS_f, brW_t, brW_f, brA_t, brA_f, brO_t, brO_f, brAV_t, brAV_f, brOV_t, brOV_f, brI_t, brI_f, s_wipe0, s_wipeS, slot_0, slot_s, set_0, set_s, ln0, ln1, ln2, ln3, ln4, ln5, s_len_t, s_list_t, s_tup_t, s_int_i, s_int_b, s_min2, s_max2, s_min3, s_str, s_ty_s, s_le, s_gt, s_ge, s_sub, s_mul, s_mod, s_fdiv, s_pow, dE_nx, dE_rt, dE_ex, true_and, Bool.not_true, Bool.not_false, decide_true, if_true, if_false, Bool.false_eq_true])
    refine i_ix (.inl hl1) (at_last lineD_last) ?_
    refine wk_of le1 ?_
    rw [rgD_length, Int.toNat_natCast, List.take_length, fwd_is]
    exact q
end K83
namespace K83
open PySem PySem.Spec L2 PL
theorem cut_toD {xs : List D} {n : Nat} (h : n ≤ xs.length) : cutD xs none (some (n : Int)) = xs.take n := by
  unfold cutD
  rw [HT.sIx_none, HT.sIx_nat]
  simp
theorem cut_fromD {xs : List D} {n : Nat} (h : n ≤ xs.length) : cutD xs (some (n : Int)) none = xs.drop n := by
  unfold cutD
  rw [HT.sIx_none, HT.sIx_nat, Nat.min_eq_left h, List.take_of_length_le (by simp)]
def Gr.take : Nat → Gr → Gr
  | 0, _ => .nil
  | _ + 1, .nil => .nil
  | n + 1, .cons t k r => .cons t k (r.take n)
def Gr.drop : Nat → Gr → Gr
  | 0, g => g
  | _ + 1, .nil => .nil
  | n + 1, .cons _ _ r => r.drop n
def Gr.app : Gr → Gr → Gr
  | .nil, h => h
  | .cons t k r, h => .cons t k (r.app h)
theorem gD_take : ∀ (n : Nat) (g : Gr), (gD g).take n = gD (g.take n)
  | 0, _ => by simp [Gr.take, gD]
  | n + 1, .nil => rfl
  | n + 1, .cons t k r => by show _ :: (gD r).take n = _ :: gD (r.take n); rw [gD_take n r]
theorem gD_drop : ∀ (n : Nat) (g : Gr), (gD g).drop n = gD (g.drop n)
  | 0, _ => by simp [Gr.drop]
  | n + 1, .nil => rfl
  | n + 1, .cons t k r => by show (gD r).drop n = gD (r.drop n); rw [gD_drop n r]
theorem gD_app (h : Gr) : ∀ g : Gr, gD (g.app h) = gD g ++ gD h
  | .nil => rfl
  | .cons t k r => by show _ :: gD (r.app h) = _ :: (gD r ++ gD h); rw [gD_app h r]
theorem size_app (h : Gr) : ∀ g : Gr, (g.app h).size = g.size + h.size
  | .nil => by show h.size = 0 + h.size; omega
  | .cons t k r => by show 1 + k.size + (r.app h).size = 1 + k.size + r.size + h.size; rw [size_app h r]; omega
theorem size_cut : ∀ (n : Nat) (g : Gr), (g.take n).size + (g.drop n).size = g.size
  | 0, g => by show 0 + g.size = g.size; omega
  | n + 1, .nil => rfl
  | n + 1, .cons t k r => by
    have := size_cut n r
    show 1 + k.size + (r.take n).size + (r.drop n).size = 1 + k.size + r.size
    omega
theorem ok_take : ∀ (n : Nat) {g : Gr}, GrOk g → GrOk (g.take n)
  | 0, _, _ => trivial
  | n + 1, .nil, _ => trivial
  | n + 1, .cons t k r, h => ⟨h.1, h.2.1, ok_take n h.2.2⟩
theorem ok_drop : ∀ (n : Nat) {g : Gr}, GrOk g → GrOk (g.drop n)
  | 0, _, h => h
  | n + 1, .nil, _ => trivial
  | n + 1, .cons t k r, h => ok_drop n h.2.2
theorem ok_app {h : Gr} (hh : GrOk h) : ∀ {g : Gr}, GrOk g → GrOk (g.app h)
  | .nil, _ => hh
  | .cons t k r, hg => ⟨hg.1, hg.2.1, ok_app hh hg.2.2⟩
theorem drop_le : ∀ (n : Nat) (g : Gr), (g.drop (n + 1)).size ≤ (g.drop n).size
  | 0, .nil => Nat.le_refl _
  | 0, .cons t k r => by show r.size ≤ 1 + k.size + r.size; omega
  | n + 1, .nil => Nat.le_refl _
  | n + 1, .cons t k r => drop_le n r
/-- the tree at a place -/
theorem tree_at : ∀ (n : Nat) (g : Gr), n < g.len → ∃ t k, (gD g)[n]? = some (.tup [.str t, .tup (gD k)]) ∧ (g.take n).size + 1 + k.size + (g.drop (n + 1)).size = g.size ∧ (GrOk g → GrOk k)
  | 0, .cons t k r, _ => ⟨t, k, rfl, by show 0 + 1 + k.size + r.size = 1 + k.size + r.size; omega, fun h => h.2.1⟩
  | n + 1, .cons t k r, h => by
    have h' : n < r.len := by
      have : n + 1 < 1 + r.len := h
      omega
    obtain ⟨u, l, e1, e2, e3⟩ := tree_at n r h'
    refine ⟨u, l, e1, ?_, fun q => e3 q.2.2⟩
    show 1 + k.size + (r.take n).size + 1 + l.size + (r.drop (n + 1)).size = 1 + k.size + r.size
    omega
  | _, .nil, h => by
    have : _ < 0 := h
    omega
theorem eq_nilG {g : Gr} : decide (D.tup (gD g) = D.tup []) = true ↔ g = .nil := by
  rw [decide_eq_true_eq]
  cases g with
  | nil => simp [gD]
  | cons t k r => simp [gD]
theorem i_eqNil {g : Gr} {P : PH} {Q : PL.PK} (hg : GrOk g) (q : Q (.bl (decide (D.tup (gD g) = D.tup []))) P) : qEqG false (.tup (gD g)) (.tup []) P Q :=
  qEqG_pure (by rw [pure1]; exact gD_pure g hg) (by rw [pure1, pures]) (by
    have : dep (.tup []) ≤ 64 := by rw [dep, deps]; omega
    omega) q
theorem txg_at {ws : List Str} {i : Nat} (h : i < ws.length) : (txts ws)[i]? = some (.str ws[i]) := by
  unfold txts
  rw [List.getElem?_map, List.getElem?_eq_getElem h]
  rfl
theorem r_like : ∀ ds P Q E, sp__law_like ds P Q E → t__law_like (dEnds Q E) (startD n__law_like ds) P := by
  rintro ds P Q E ⟨g, c, b, ws, rfl, hgs, hg, hb, hws, hwo, q⟩
  rw [st__law_like]
  unfold t__law_like
  have hgl := len_le g
  have hgd := gD_len g
  have zz : ∀ j : Nat, j ≤ 1000 → j ≤ sizeLine := fun j h => by rw [sizeLine_eq]; omega
  refine seq_intro fun D1 q1 => ?_
  (try simp only [s_for, s_lc, qiRng1, qiRng2, qiVal, brL_t, brL_f, qNext, qBreak, qCont, qDrop, qRet, qRetN, s_if, qgName, qgNil, qgCons, qgTup, qgSub, qAsg, qPar, qVar, qC, qOp, qUn, qTest, s_and, s_or, qNot, s_andV, s_orV, qNotV, s_ifE, qNil, qCons, qTup, qLst, qCB, qBM, qSl, qNoPart, qPart, qNeg, qAdd, qLt, qEq, qDNew, qFld, qFldS, qCall, qMeth, qMake, qRaise, qTry, qLRng, qYes, brS_t, brS_f, brW_t, brW_f, brA_t, brA_f, brO_t, brO_f, brAV_t, brAV_f, brOV_t, brOV_f, brI_t, brI_f, s_wipe0, s_wipeS, slot_0, slot_s, set_0, set_s, ln0, ln1, ln2, ln3, ln4, ln5, s_len_t, s_list_t, s_tup_t, s_int_i, s_int_b, s_min2, s_max2, s_min3, s_str, s_ty_s, s_le, s_gt, s_ge, s_sub, s_mul, s_mod, s_fdiv, s_pow, dE_nx, dE_rt, dE_ex, true_and, Bool.not_true, Bool.not_false, decide_true, if_true, if_false, Bool.false_eq_true])
  refine ⟨by unfold CDiv; decide, by omega, q1.nx _ _ (seq_intro fun D2 q2 => ?_)⟩
  (try simp only [s_for, s_lc, qiRng1, qiRng2, qiVal, brL_t, brL_f, qNext, qBreak, qCont, qDrop, qRet, qRetN, s_if, qgName, qgNil, qgCons, qgTup, qgSub, qAsg, qPar, qVar, qC, qOp, qUn, qTest, s_and, s_or, qNot, s_andV, s_orV, qNotV, s_ifE, qNil, qCons, qTup, qLst, qCB, qBM, qSl, qNoPart, qPart, qNeg, qAdd, qLt, qEq, qDNew, qFld, qFldS, qCall, qMeth, qMake, qRaise, qTry, qLRng, qYes, brS_t, brS_f, brW_t, brW_f, brA_t, brA_f, brO_t, brO_f, brAV_t, brAV_f, brOV_t, brOV_f, brI_t, brI_f, s_wipe0, s_wipeS, slot_0, slot_s, set_0, set_s, ln0, ln1, ln2, ln3, ln4, ln5, s_len_t, s_list_t, s_tup_t, s_int_i, s_int_b, s_min2, s_max2, s_min3, s_str, s_ty_s, s_le, s_gt, s_ge, s_sub, s_mul, s_mod, s_fdiv, s_pow, dE_nx, dE_rt, dE_ex, true_and, Bool.not_true, Bool.not_false, decide_true, if_true, if_false, Bool.false_eq_true])
  obtain ⟨n, hn⟩ := Int.eq_ofNat_of_zero_le (a := c / 4 % (((gD g).length : Nat) + 1 : Int)) (Int.emod_nonneg _ (by omega))
  have hnl : n ≤ (gD g).length := by
    have := Int.emod_lt_of_pos (c / 4) (b := (((gD g).length : Nat) + 1 : Int)) (by omega)
    omega
  rw [hn]
  obtain ⟨j, hj⟩ := Int.eq_ofNat_of_zero_le (a := c / 64 % 4) (by omega)
  have hj4 : j < ws.length := by omega
  -- the answer where a tree is put in
  have A : wkK Q (.tup ((gD g).take n ++ [.tup [.str ws[j], .tup []]] ++ (gD g).drop n)) P := by
    rw [gD_take, gD_drop]
    have := q ((g.take n).app (.cons ws[j] .nil (g.drop n))) (by
      have := size_cut n g
      rw [size_app]
      show (g.take n).size + (1 + 0 + (g.drop n).size) ≤ _
      omega) (ok_app (h := .cons ws[j] .nil (g.drop n)) (show WordOk ws[j] ∧ GrOk .nil ∧ GrOk (g.drop n) from ⟨hwo _ (List.getElem_mem _), trivial, ok_drop n hg⟩) (ok_take n hg))
    rw [gD_app] at this
    refine wk_of (Le.refl _) ?_
    rw [List.append_assoc]
    exact this
  refine ⟨by decide, i_or (fun _ => ?_) fun h0 => ?_⟩
  · (try simp only [s_for, s_lc, qiRng1, qiRng2, qiVal, brL_t, brL_f, qNext, qBreak, qCont, qDrop, qRet, qRetN, s_if, qgName, qgNil, qgCons, qgTup, qgSub, qAsg, qPar, qVar, qC, qOp, qUn, qTest, s_and, s_or, qNot, s_andV, s_orV, qNotV, s_ifE, qNil, qCons, qTup, qLst, qCB, qBM, qSl, qNoPart, qPart, qNeg, qAdd, qLt, qEq, qDNew, qFld, qFldS, qCall, qMeth, qMake, qRaise, qTry, qLRng, qYes, brS_t, brS_f, brW_t, brW_f, brA_t, brA_f, brO_t, brO_f, brAV_t, brAV_f, brOV_t, brOV_f, brI_t, brI_f, s_wipe0, s_wipeS, slot_0, slot_s, set_0, set_s, ln0, ln1, ln2, ln3, ln4, ln5, s_len_t, s_list_t, s_tup_t, s_int_i, s_int_b, s_min2, s_max2, s_min3, s_str, s_ty_s, s_le, s_gt, s_ge, s_sub, s_mul, s_mod, s_fdiv, s_pow, dE_nx, dE_rt, dE_ex, true_and, Bool.not_true, Bool.not_false, decide_true, if_true, if_false, Bool.false_eq_true])
    refine ⟨by unfold CDiv; decide, by decide, ?_⟩
    rw [hj]
    refine i_ix hb (at_nat (txg_at hj4)) ?_
    (try simp only [s_for, s_lc, qiRng1, qiRng2, qiVal, brL_t, brL_f, qNext, qBreak, qCont, qDrop, qRet, qRetN, s_if, qgName, qgNil, qgCons, qgTup, qgSub, qAsg, qPar, qVar, qC, qOp, qUn, qTest, s_and, s_or, qNot, s_andV, s_orV, qNotV, s_ifE, qNil, qCons, qTup, qLst, qCB, qBM, qSl, qNoPart, qPart, qNeg, qAdd, qLt, qEq, qDNew, qFld, qFldS, qCall, qMeth, qMake, qRaise, qTry, qLRng, qYes, brS_t, brS_f, brW_t, brW_f, brA_t, brA_f, brO_t, brO_f, brAV_t, brAV_f, brOV_t, brOV_f, brI_t, brI_f, s_wipe0, s_wipeS, slot_0, slot_s, set_0, set_s, ln0, ln1, ln2, ln3, ln4, ln5, s_len_t, s_list_t, s_tup_t, s_int_i, s_int_b, s_min2, s_max2, s_min3, s_str, s_ty_s, s_le, s_gt, s_ge, s_sub, s_mul, s_mod, s_fdiv, s_pow, dE_nx, dE_rt, dE_ex, true_and, Bool.not_true, Bool.not_false, decide_true, if_true, if_false, Bool.false_eq_true])
    rw [cut_toD hnl, cut_fromD hnl]
    refine ⟨zz _ (by simp; omega), zz _ (by simp; omega), ?_⟩
    rw [q2.rt, dE_rt]
    exact A
  (try simp only [s_for, s_lc, qiRng1, qiRng2, qiVal, brL_t, brL_f, qNext, qBreak, qCont, qDrop, qRet, qRetN, s_if, qgName, qgNil, qgCons, qgTup, qgSub, qAsg, qPar, qVar, qC, qOp, qUn, qTest, s_and, s_or, qNot, s_andV, s_orV, qNotV, s_ifE, qNil, qCons, qTup, qLst, qCB, qBM, qSl, qNoPart, qPart, qNeg, qAdd, qLt, qEq, qDNew, qFld, qFldS, qCall, qMeth, qMake, qRaise, qTry, qLRng, qYes, brS_t, brS_f, brW_t, brW_f, brA_t, brA_f, brO_t, brO_f, brAV_t, brAV_f, brOV_t, brOV_f, brI_t, brI_f, s_wipe0, s_wipeS, slot_0, slot_s, set_0, set_s, ln0, ln1, ln2, ln3, ln4, ln5, s_len_t, s_list_t, s_tup_t, s_int_i, s_int_b, s_min2, s_max2, s_min3, s_str, s_ty_s, s_le, s_gt, s_ge, s_sub, s_mul, s_mod, s_fdiv, s_pow, dE_nx, dE_rt, dE_ex, true_and, Bool.not_true, Bool.not_false, decide_true, if_true, if_false, Bool.false_eq_true])
  refine i_eqNil hg ?_
  (try simp only [s_for, s_lc, qiRng1, qiRng2, qiVal, brL_t, brL_f, qNext, qBreak, qCont, qDrop, qRet, qRetN, s_if, qgName, qgNil, qgCons, qgTup, qgSub, qAsg, qPar, qVar, qC, qOp, qUn, qTest, s_and, s_or, qNot, s_andV, s_orV, qNotV, s_ifE, qNil, qCons, qTup, qLst, qCB, qBM, qSl, qNoPart, qPart, qNeg, qAdd, qLt, qEq, qDNew, qFld, qFldS, qCall, qMeth, qMake, qRaise, qTry, qLRng, qYes, brS_t, brS_f, brW_t, brW_f, brA_t, brA_f, brO_t, brO_f, brAV_t, brAV_f, brOV_t, brOV_f, brI_t, brI_f, s_wipe0, s_wipeS, slot_0, slot_s, set_0, set_s, ln0, ln1, ln2, ln3, ln4, ln5, s_len_t, s_list_t, s_tup_t, s_int_i, s_int_b, s_min2, s_max2, s_min3, s_str, s_ty_s, s_le, s_gt, s_ge, s_sub, s_mul, s_mod, s_fdiv, s_pow, dE_nx, dE_rt, dE_ex, true_and, Bool.not_true, Bool.not_false, decide_true, if_true, if_false, Bool.false_eq_true])
  refine i_if (fun _ => ?_) fun hne => ?_
  · (try simp only [s_for, s_lc, qiRng1, qiRng2, qiVal, brL_t, brL_f, qNext, qBreak, qCont, qDrop, qRet, qRetN, s_if, qgName, qgNil, qgCons, qgTup, qgSub, qAsg, qPar, qVar, qC, qOp, qUn, qTest, s_and, s_or, qNot, s_andV, s_orV, qNotV, s_ifE, qNil, qCons, qTup, qLst, qCB, qBM, qSl, qNoPart, qPart, qNeg, qAdd, qLt, qEq, qDNew, qFld, qFldS, qCall, qMeth, qMake, qRaise, qTry, qLRng, qYes, brS_t, brS_f, brW_t, brW_f, brA_t, brA_f, brO_t, brO_f, brAV_t, brAV_f, brOV_t, brOV_f, brI_t, brI_f, s_wipe0, s_wipeS, slot_0, slot_s, set_0, set_s, ln0, ln1, ln2, ln3, ln4, ln5, s_len_t, s_list_t, s_tup_t, s_int_i, s_int_b, s_min2, s_max2, s_min3, s_str, s_ty_s, s_le, s_gt, s_ge, s_sub, s_mul, s_mod, s_fdiv, s_pow, dE_nx, dE_rt, dE_ex, true_and, Bool.not_true, Bool.not_false, decide_true, if_true, if_false, Bool.false_eq_true])
    refine ⟨by unfold CDiv; decide, by decide, ?_⟩
    rw [hj]
    refine i_ix hb (at_nat (txg_at hj4)) ?_
    (try simp only [s_for, s_lc, qiRng1, qiRng2, qiVal, brL_t, brL_f, qNext, qBreak, qCont, qDrop, qRet, qRetN, s_if, qgName, qgNil, qgCons, qgTup, qgSub, qAsg, qPar, qVar, qC, qOp, qUn, qTest, s_and, s_or, qNot, s_andV, s_orV, qNotV, s_ifE, qNil, qCons, qTup, qLst, qCB, qBM, qSl, qNoPart, qPart, qNeg, qAdd, qLt, qEq, qDNew, qFld, qFldS, qCall, qMeth, qMake, qRaise, qTry, qLRng, qYes, brS_t, brS_f, brW_t, brW_f, brA_t, brA_f, brO_t, brO_f, brAV_t, brAV_f, brOV_t, brOV_f, brI_t, brI_f, s_wipe0, s_wipeS, slot_0, slot_s, set_0, set_s, ln0, ln1, ln2, ln3, ln4, ln5, s_len_t, s_list_t, s_tup_t, s_int_i, s_int_b, s_min2, s_max2, s_min3, s_str, s_ty_s, s_le, s_gt, s_ge, s_sub, s_mul, s_mod, s_fdiv, s_pow, dE_nx, dE_rt, dE_ex, true_and, Bool.not_true, Bool.not_false, decide_true, if_true, if_false, Bool.false_eq_true])
    rw [cut_toD hnl, cut_fromD hnl]
    refine ⟨zz _ (by simp; omega), zz _ (by simp; omega), ?_⟩
    rw [q2.rt, dE_rt]
    exact A
  (try simp only [s_for, s_lc, qiRng1, qiRng2, qiVal, brL_t, brL_f, qNext, qBreak, qCont, qDrop, qRet, qRetN, s_if, qgName, qgNil, qgCons, qgTup, qgSub, qAsg, qPar, qVar, qC, qOp, qUn, qTest, s_and, s_or, qNot, s_andV, s_orV, qNotV, s_ifE, qNil, qCons, qTup, qLst, qCB, qBM, qSl, qNoPart, qPart, qNeg, qAdd, qLt, qEq, qDNew, qFld, qFldS, qCall, qMeth, qMake, qRaise, qTry, qLRng, qYes, brS_t, brS_f, brW_t, brW_f, brA_t, brA_f, brO_t, brO_f, brAV_t, brAV_f, brOV_t, brOV_f, brI_t, brI_f, s_wipe0, s_wipeS, slot_0, slot_s, set_0, set_s, ln0, ln1, ln2, ln3, ln4, ln5, s_len_t, s_list_t, s_tup_t, s_int_i, s_int_b, s_min2, s_max2, s_min3, s_str, s_ty_s, s_le, s_gt, s_ge, s_sub, s_mul, s_mod, s_fdiv, s_pow, dE_nx, dE_rt, dE_ex, true_and, Bool.not_true, Bool.not_false, decide_true, if_true, if_false, Bool.false_eq_true])
  have hg0 : 0 < g.len := by
    cases g with
    | nil => exact absurd rfl hne
    | cons t k r => show 0 < 1 + r.len; omega
  clear A hn hnl
  refine q2.nx _ _ (seq_intro fun D3 q3 => ?_)
  (try simp only [s_for, s_lc, qiRng1, qiRng2, qiVal, brL_t, brL_f, qNext, qBreak, qCont, qDrop, qRet, qRetN, s_if, qgName, qgNil, qgCons, qgTup, qgSub, qAsg, qPar, qVar, qC, qOp, qUn, qTest, s_and, s_or, qNot, s_andV, s_orV, qNotV, s_ifE, qNil, qCons, qTup, qLst, qCB, qBM, qSl, qNoPart, qPart, qNeg, qAdd, qLt, qEq, qDNew, qFld, qFldS, qCall, qMeth, qMake, qRaise, qTry, qLRng, qYes, brS_t, brS_f, brW_t, brW_f, brA_t, brA_f, brO_t, brO_f, brAV_t, brAV_f, brOV_t, brOV_f, brI_t, brI_f, s_wipe0, s_wipeS, slot_0, slot_s, set_0, set_s, ln0, ln1, ln2, ln3, ln4, ln5, s_len_t, s_list_t, s_tup_t, s_int_i, s_int_b, s_min2, s_max2, s_min3, s_str, s_ty_s, s_le, s_gt, s_ge, s_sub, s_mul, s_mod, s_fdiv, s_pow, dE_nx, dE_rt, dE_ex, true_and, Bool.not_true, Bool.not_false, decide_true, if_true, if_false, Bool.false_eq_true])
  refine ⟨by unfold CDiv; decide, by omega, q3.nx _ _ (seq_intro fun D4 q4 => ?_)⟩
  obtain ⟨m, hm⟩ := Int.eq_ofNat_of_zero_le (a := c / 4 % ((gD g).length : Int)) (Int.emod_nonneg _ (by omega))
  have hml : m < g.len := by
    have := Int.emod_lt_of_pos (c / 4) (b := ((gD g).length : Int)) (by omega)
    omega
  rw [hm]
  have e1 : ((m : Nat) : Int) + 1 = ((m + 1 : Nat) : Int) := by omega
  obtain ⟨t, k, ht, hsz, hk⟩ := tree_at m g hml
  have hcut := size_cut (m + 1) g
  (try simp only [s_for, s_lc, qiRng1, qiRng2, qiVal, brL_t, brL_f, qNext, qBreak, qCont, qDrop, qRet, qRetN, s_if, qgName, qgNil, qgCons, qgTup, qgSub, qAsg, qPar, qVar, qC, qOp, qUn, qTest, s_and, s_or, qNot, s_andV, s_orV, qNotV, s_ifE, qNil, qCons, qTup, qLst, qCB, qBM, qSl, qNoPart, qPart, qNeg, qAdd, qLt, qEq, qDNew, qFld, qFldS, qCall, qMeth, qMake, qRaise, qTry, qLRng, qYes, brS_t, brS_f, brW_t, brW_f, brA_t, brA_f, brO_t, brO_f, brAV_t, brAV_f, brOV_t, brOV_f, brI_t, brI_f, s_wipe0, s_wipeS, slot_0, slot_s, set_0, set_s, ln0, ln1, ln2, ln3, ln4, ln5, s_len_t, s_list_t, s_tup_t, s_int_i, s_int_b, s_min2, s_max2, s_min3, s_str, s_ty_s, s_le, s_gt, s_ge, s_sub, s_mul, s_mod, s_fdiv, s_pow, dE_nx, dE_rt, dE_ex, true_and, Bool.not_true, Bool.not_false, decide_true, if_true, if_false, Bool.false_eq_true])
  refine ⟨by decide, i_if (fun h1 => ?_) fun h1 => ?_⟩
  · (try simp only [s_for, s_lc, qiRng1, qiRng2, qiVal, brL_t, brL_f, qNext, qBreak, qCont, qDrop, qRet, qRetN, s_if, qgName, qgNil, qgCons, qgTup, qgSub, qAsg, qPar, qVar, qC, qOp, qUn, qTest, s_and, s_or, qNot, s_andV, s_orV, qNotV, s_ifE, qNil, qCons, qTup, qLst, qCB, qBM, qSl, qNoPart, qPart, qNeg, qAdd, qLt, qEq, qDNew, qFld, qFldS, qCall, qMeth, qMake, qRaise, qTry, qLRng, qYes, brS_t, brS_f, brW_t, brW_f, brA_t, brA_f, brO_t, brO_f, brAV_t, brAV_f, brOV_t, brOV_f, brI_t, brI_f, s_wipe0, s_wipeS, slot_0, slot_s, set_0, set_s, ln0, ln1, ln2, ln3, ln4, ln5, s_len_t, s_list_t, s_tup_t, s_int_i, s_int_b, s_min2, s_max2, s_min3, s_str, s_ty_s, s_le, s_gt, s_ge, s_sub, s_mul, s_mod, s_fdiv, s_pow, dE_nx, dE_rt, dE_ex, true_and, Bool.not_true, Bool.not_false, decide_true, if_true, if_false, Bool.false_eq_true])
    rw [e1, cut_toD (by omega), cut_fromD (by omega)]
    refine ⟨zz _ (by simp; omega), ?_⟩
    rw [q4.rt, dE_rt, gD_take, gD_drop, ← gD_app]
    exact wk_of (Le.refl _) (q _ (by rw [size_app]; omega) (ok_app (ok_drop _ hg) (ok_take _ hg)))
  (try simp only [s_for, s_lc, qiRng1, qiRng2, qiVal, brL_t, brL_f, qNext, qBreak, qCont, qDrop, qRet, qRetN, s_if, qgName, qgNil, qgCons, qgTup, qgSub, qAsg, qPar, qVar, qC, qOp, qUn, qTest, s_and, s_or, qNot, s_andV, s_orV, qNotV, s_ifE, qNil, qCons, qTup, qLst, qCB, qBM, qSl, qNoPart, qPart, qNeg, qAdd, qLt, qEq, qDNew, qFld, qFldS, qCall, qMeth, qMake, qRaise, qTry, qLRng, qYes, brS_t, brS_f, brW_t, brW_f, brA_t, brA_f, brO_t, brO_f, brAV_t, brAV_f, brOV_t, brOV_f, brI_t, brI_f, s_wipe0, s_wipeS, slot_0, slot_s, set_0, set_s, ln0, ln1, ln2, ln3, ln4, ln5, s_len_t, s_list_t, s_tup_t, s_int_i, s_int_b, s_min2, s_max2, s_min3, s_str, s_ty_s, s_le, s_gt, s_ge, s_sub, s_mul, s_mod, s_fdiv, s_pow, dE_nx, dE_rt, dE_ex, true_and, Bool.not_true, Bool.not_false, decide_true, if_true, if_false, Bool.false_eq_true])
  refine q4.nx _ _ (seq_intro fun D5 q5 => ?_)
  (try simp only [s_for, s_lc, qiRng1, qiRng2, qiVal, brL_t, brL_f, qNext, qBreak, qCont, qDrop, qRet, qRetN, s_if, qgName, qgNil, qgCons, qgTup, qgSub, qAsg, qPar, qVar, qC, qOp, qUn, qTest, s_and, s_or, qNot, s_andV, s_orV, qNotV, s_ifE, qNil, qCons, qTup, qLst, qCB, qBM, qSl, qNoPart, qPart, qNeg, qAdd, qLt, qEq, qDNew, qFld, qFldS, qCall, qMeth, qMake, qRaise, qTry, qLRng, qYes, brS_t, brS_f, brW_t, brW_f, brA_t, brA_f, brO_t, brO_f, brAV_t, brAV_f, brOV_t, brOV_f, brI_t, brI_f, s_wipe0, s_wipeS, slot_0, slot_s, set_0, set_s, ln0, ln1, ln2, ln3, ln4, ln5, s_len_t, s_list_t, s_tup_t, s_int_i, s_int_b, s_min2, s_max2, s_min3, s_str, s_ty_s, s_le, s_gt, s_ge, s_sub, s_mul, s_mod, s_fdiv, s_pow, dE_nx, dE_rt, dE_ex, true_and, Bool.not_true, Bool.not_false, decide_true, if_true, if_false, Bool.false_eq_true])
  refine ⟨by decide, i_if (fun h2 => ?_) fun h2 => ?_⟩
  · (try simp only [s_for, s_lc, qiRng1, qiRng2, qiVal, brL_t, brL_f, qNext, qBreak, qCont, qDrop, qRet, qRetN, s_if, qgName, qgNil, qgCons, qgTup, qgSub, qAsg, qPar, qVar, qC, qOp, qUn, qTest, s_and, s_or, qNot, s_andV, s_orV, qNotV, s_ifE, qNil, qCons, qTup, qLst, qCB, qBM, qSl, qNoPart, qPart, qNeg, qAdd, qLt, qEq, qDNew, qFld, qFldS, qCall, qMeth, qMake, qRaise, qTry, qLRng, qYes, brS_t, brS_f, brW_t, brW_f, brA_t, brA_f, brO_t, brO_f, brAV_t, brAV_f, brOV_t, brOV_f, brI_t, brI_f, s_wipe0, s_wipeS, slot_0, slot_s, set_0, set_s, ln0, ln1, ln2, ln3, ln4, ln5, s_len_t, s_list_t, s_tup_t, s_int_i, s_int_b, s_min2, s_max2, s_min3, s_str, s_ty_s, s_le, s_gt, s_ge, s_sub, s_mul, s_mod, s_fdiv, s_pow, dE_nx, dE_rt, dE_ex, true_and, Bool.not_true, Bool.not_false, decide_true, if_true, if_false, Bool.false_eq_true])
    refine ⟨by unfold CDiv; decide, by decide, ?_⟩
    rw [hj]
    refine i_ix hb (at_nat (txg_at hj4)) (i_ixT (at_nat ht) (i_ixT (at_nat (i := 1) rfl) ?_))
    (try simp only [s_for, s_lc, qiRng1, qiRng2, qiVal, brL_t, brL_f, qNext, qBreak, qCont, qDrop, qRet, qRetN, s_if, qgName, qgNil, qgCons, qgTup, qgSub, qAsg, qPar, qVar, qC, qOp, qUn, qTest, s_and, s_or, qNot, s_andV, s_orV, qNotV, s_ifE, qNil, qCons, qTup, qLst, qCB, qBM, qSl, qNoPart, qPart, qNeg, qAdd, qLt, qEq, qDNew, qFld, qFldS, qCall, qMeth, qMake, qRaise, qTry, qLRng, qYes, brS_t, brS_f, brW_t, brW_f, brA_t, brA_f, brO_t, brO_f, brAV_t, brAV_f, brOV_t, brOV_f, brI_t, brI_f, s_wipe0, s_wipeS, slot_0, slot_s, set_0, set_s, ln0, ln1, ln2, ln3, ln4, ln5, s_len_t, s_list_t, s_tup_t, s_int_i, s_int_b, s_min2, s_max2, s_min3, s_str, s_ty_s, s_le, s_gt, s_ge, s_sub, s_mul, s_mod, s_fdiv, s_pow, dE_nx, dE_rt, dE_ex, true_and, Bool.not_true, Bool.not_false, decide_true, if_true, if_false, Bool.false_eq_true])
    rw [e1, cut_toD (by omega), cut_fromD (by omega)]
    refine ⟨zz _ (by simp; omega), zz _ (by simp; omega), ?_⟩
    rw [q5.rt, dE_rt, gD_take, gD_drop, List.append_assoc]
    have := q ((g.take m).app (.cons ws[j] k (g.drop (m + 1)))) (by
      rw [size_app]
      show (g.take m).size + (1 + k.size + (g.drop (m + 1)).size) ≤ _
      omega) (ok_app (h := .cons ws[j] k (g.drop (m + 1))) (show WordOk ws[j] ∧ GrOk k ∧ GrOk (g.drop (m + 1)) from ⟨hwo _ (List.getElem_mem _), hk hg, ok_drop _ hg⟩) (ok_take m hg))
    rw [gD_app] at this
    exact wk_of (Le.refl _) this
  (try simp only [s_for, s_lc, qiRng1, qiRng2, qiVal, brL_t, brL_f, qNext, qBreak, qCont, qDrop, qRet, qRetN, s_if, qgName, qgNil, qgCons, qgTup, qgSub, qAsg, qPar, qVar, qC, qOp, qUn, qTest, s_and, s_or, qNot, s_andV, s_orV, qNotV, s_ifE, qNil, qCons, qTup, qLst, qCB, qBM, qSl, qNoPart, qPart, qNeg, qAdd, qLt, qEq, qDNew, qFld, qFldS, qCall, qMeth, qMake, qRaise, qTry, qLRng, qYes, brS_t, brS_f, brW_t, brW_f, brA_t, brA_f, brO_t, brO_f, brAV_t, brAV_f, brOV_t, brOV_f, brI_t, brI_f, s_wipe0, s_wipeS, slot_0, slot_s, set_0, set_s, ln0, ln1, ln2, ln3, ln4, ln5, s_len_t, s_list_t, s_tup_t, s_int_i, s_int_b, s_min2, s_max2, s_min3, s_str, s_ty_s, s_le, s_gt, s_ge, s_sub, s_mul, s_mod, s_fdiv, s_pow, dE_nx, dE_rt, dE_ex, true_and, Bool.not_true, Bool.not_false, decide_true, if_true, if_false, Bool.false_eq_true])
  refine q5.nx _ _ ?_
  (try simp only [s_for, s_lc, qiRng1, qiRng2, qiVal, brL_t, brL_f, qNext, qBreak, qCont, qDrop, qRet, qRetN, s_if, qgName, qgNil, qgCons, qgTup, qgSub, qAsg, qPar, qVar, qC, qOp, qUn, qTest, s_and, s_or, qNot, s_andV, s_orV, qNotV, s_ifE, qNil, qCons, qTup, qLst, qCB, qBM, qSl, qNoPart, qPart, qNeg, qAdd, qLt, qEq, qDNew, qFld, qFldS, qCall, qMeth, qMake, qRaise, qTry, qLRng, qYes, brS_t, brS_f, brW_t, brW_f, brA_t, brA_f, brO_t, brO_f, brAV_t, brAV_f, brOV_t, brOV_f, brI_t, brI_f, s_wipe0, s_wipeS, slot_0, slot_s, set_0, set_s, ln0, ln1, ln2, ln3, ln4, ln5, s_len_t, s_list_t, s_tup_t, s_int_i, s_int_b, s_min2, s_max2, s_min3, s_str, s_ty_s, s_le, s_gt, s_ge, s_sub, s_mul, s_mod, s_fdiv, s_pow, dE_nx, dE_rt, dE_ex, true_and, Bool.not_true, Bool.not_false, decide_true, if_true, if_false, Bool.false_eq_true])
  refine ⟨by unfold CDiv; decide, by decide, ?_⟩
  rw [hj]
  refine i_ix hb (at_nat (txg_at hj4)) ?_
  (try simp only [s_for, s_lc, qiRng1, qiRng2, qiVal, brL_t, brL_f, qNext, qBreak, qCont, qDrop, qRet, qRetN, s_if, qgName, qgNil, qgCons, qgTup, qgSub, qAsg, qPar, qVar, qC, qOp, qUn, qTest, s_and, s_or, qNot, s_andV, s_orV, qNotV, s_ifE, qNil, qCons, qTup, qLst, qCB, qBM, qSl, qNoPart, qPart, qNeg, qAdd, qLt, qEq, qDNew, qFld, qFldS, qCall, qMeth, qMake, qRaise, qTry, qLRng, qYes, brS_t, brS_f, brW_t, brW_f, brA_t, brA_f, brO_t, brO_f, brAV_t, brAV_f, brOV_t, brOV_f, brI_t, brI_f, s_wipe0, s_wipeS, slot_0, slot_s, set_0, set_s, ln0, ln1, ln2, ln3, ln4, ln5, s_len_t, s_list_t, s_tup_t, s_int_i, s_int_b, s_min2, s_max2, s_min3, s_str, s_ty_s, s_le, s_gt, s_ge, s_sub, s_mul, s_mod, s_fdiv, s_pow, dE_nx, dE_rt, dE_ex, true_and, Bool.not_true, Bool.not_false, decide_true, if_true, if_false, Bool.false_eq_true])
  rw [e1, cut_toD (by omega), cut_fromD (by omega)]
  refine ⟨zz _ (by simp; omega), ?_⟩
  rw [gD_take, gD_drop]
  have := q (.cons ws[j] (g.take (m + 1)) (g.drop (m + 1))) (by
    show 1 + (g.take (m + 1)).size + (g.drop (m + 1)).size ≤ _
    omega) (show WordOk ws[j] ∧ GrOk (g.take (m + 1)) ∧ GrOk (g.drop (m + 1)) from ⟨hwo _ (List.getElem_mem _), ok_take _ hg, ok_drop _ hg⟩)
  exact wk_of (Le.refl _) this
end K83
namespace K83
open PySem PySem.Spec L2 PL
theorem subs_self (g : Gr) : g ∈ subs g := by
  cases g with
  | nil => exact List.mem_cons_self
  | cons t k r => rw [subs]; exact List.mem_cons_self
theorem subs_step : ∀ {g0 : Gr} {t : Str} {k r : Gr}, Gr.cons t k r ∈ subs g0 → k ∈ subs g0 ∧ r ∈ subs g0
  | .nil, t, k, r, h => by simp [subs] at h
  | .cons t' k' r', t, k, r, h => by
    rw [subs] at h ⊢
    rcases List.mem_cons.mp h with e | h
    · cases e
      exact ⟨List.mem_cons_of_mem _ (List.mem_append_left _ (subs_self _)), List.mem_cons_of_mem _ (List.mem_append_right _ (subs_self _))⟩
    · rcases List.mem_append.mp h with h | h
      · obtain ⟨h1, h2⟩ := subs_step h
        exact ⟨List.mem_cons_of_mem _ (List.mem_append_left _ h1), List.mem_cons_of_mem _ (List.mem_append_left _ h2)⟩
      · obtain ⟨h1, h2⟩ := subs_step h
        exact ⟨List.mem_cons_of_mem _ (List.mem_append_right _ h1), List.mem_cons_of_mem _ (List.mem_append_right _ h2)⟩
theorem subs_ok : ∀ {g0 g : Gr}, GrOk g0 → g ∈ subs g0 → GrOk g ∧ g.size ≤ g0.size
  | .nil, g, h, m => by
    obtain rfl := List.mem_singleton.mp m
    exact ⟨trivial, Nat.le_refl _⟩
  | .cons t k r, g, h, m => by
    rw [subs] at m
    have e : (Gr.cons t k r).size = 1 + k.size + r.size := rfl
    rcases List.mem_cons.mp m with rfl | m
    · exact ⟨h, Nat.le_refl _⟩
    · rcases List.mem_append.mp m with m | m
      · obtain ⟨h1, h2⟩ := subs_ok h.2.1 m
        exact ⟨h1, by omega⟩
      · obtain ⟨h1, h2⟩ := subs_ok h.2.2 m
        exact ⟨h1, by omega⟩
theorem subs_len : ∀ g : Gr, (subs g).length = 2 * g.size + 1
  | .nil => rfl
  | .cons t k r => by
    rw [subs]
    simp only [List.length_cons, List.length_append, Gr.size]
    rw [subs_len k, subs_len r]
    omega
theorem nodup_len {α : Type} [DecidableEq α] : ∀ {l m : List α}, l.Nodup → (∀ x ∈ l, x ∈ m) → l.length ≤ m.length
  | [], m, _, _ => Nat.zero_le _
  | x :: l, m, nd, h => by
    have hx := h x List.mem_cons_self
    have nd' := List.nodup_cons.mp nd
    have := nodup_len (l := l) (m := m.erase x) nd'.2 fun y hy => by
      have : y ≠ x := fun e => nd'.1 (e ▸ hy)
      exact (List.mem_erase_of_ne this).mpr (h y (List.mem_cons_of_mem _ hy))
    rw [List.length_erase_of_mem hx] at this
    have hpos : 0 < m.length := List.length_pos_of_mem hx
    simp only [List.length_cons]
    omega
theorem kept_len {g0 h0 : Gr} {kvs : List (D × D)} (k : KeptOk g0 h0 kvs) (hs : g0.size ≤ 20 ∧ h0.size ≤ 20) : kvs.length ≤ 2000 := by
  classical
  let m : List NestedKey := (subs g0).flatMap fun g => (subs h0).map fun h => toKey (.str (keyOf g h))
  have hm : m.length = (2 * g0.size + 1) * (2 * h0.size + 1) := by
    show ((subs g0).flatMap fun g => (subs h0).map fun h => toKey (.str (keyOf g h))).length = _
    rw [List.length_flatMap]
    simp only [List.length_map, subs_len]
    rw [List.map_const', List.sum_replicate_nat, subs_len]
  have := nodup_len (m := m) k.nodup fun x hx => by
    obtain ⟨e, he, rfl⟩ := List.mem_map.mp hx
    obtain ⟨g, h, hg, hh, rfl⟩ := k.key e he
    exact List.mem_flatMap.mpr ⟨g, hg, List.mem_map.mpr ⟨h, hh, rfl⟩⟩
  rw [List.length_map, hm] at this
  refine Nat.le_trans this (Nat.le_trans (Nat.mul_le_mul (show 2 * g0.size + 1 ≤ 41 by omega) (show 2 * h0.size + 1 ≤ 41 by omega)) (by decide))
theorem keq_str (x y : Str) : keq (.str x) (.str y) = decide (x = y) := by
  unfold keq
  rw [toKey, toKey]
  simp
section
variable {g0 h0 g h : Gr} {kvs : List (D × D)} (k : KeptOk g0 h0 kvs) (og : GrOk g0) (oh : GrOk h0)
include k
theorem kept_for (x : Str) : KeyFor kvs (.str x) := .inl ⟨rfl, fun e he => by
  obtain ⟨g, h, _, _, rfl⟩ := k.key e he
  rfl⟩
include og oh
theorem kept_look (hg : g ∈ subs g0) (hh : h ∈ subs h0) (hd : dHas kvs (.str (keyOf g h)) = true) : dLook kvs (.str (keyOf g h)) = some (.int (far g h : Nat)) := by
  rw [dHas_look] at hd
  cases e : dLook kvs (.str (keyOf g h)) with
  | none => rw [e] at hd; cases hd
  | some v =>
    unfold dLook at e
    cases e2 : kvs.find? (fun e => keq e.1 (.str (keyOf g h))) with
    | none => rw [e2] at e; cases e
    | some p =>
      rw [e2] at e
      have hp := List.find?_some e2
      obtain ⟨g', h', hg', hh', rfl⟩ := k.key p (List.mem_of_find?_eq_some e2)
      have hp : keq (.str (keyOf g' h')) (.str (keyOf g h)) = true := hp
      rw [keq_str, decide_eq_true_eq] at hp
      obtain ⟨rfl, rfl⟩ := key_inj (subs_ok og hg').1 (subs_ok oh hh').1 (subs_ok og hg).1 (subs_ok oh hh).1 hp
      exact e.symm
theorem kept_put (hg : g ∈ subs g0) (hh : h ∈ subs h0) : KeptOk g0 h0 (dPut kvs (.str (keyOf g h)) (.int (far g h : Nat))) := by
  unfold dPut
  by_cases c : dHas kvs (.str (keyOf g h)) = true
  · rw [if_pos c]
    refine ⟨fun e he => ?_, ?_⟩
    · obtain ⟨p, hp, rfl⟩ := List.mem_map.mp he
      obtain ⟨g', h', hg', hh', rfl⟩ := k.key p hp
      by_cases c2 : keq (.str (keyOf g' h')) (.str (keyOf g h)) = true
      · refine ⟨g, h, hg, hh, ?_⟩
        show (if keq (.str (keyOf g' h')) (.str (keyOf g h)) = true then _ else _) = _
        rw [if_pos c2]
        rw [keq_str, decide_eq_true_eq] at c2
        rw [c2]
      · refine ⟨g', h', hg', hh', ?_⟩
        show (if keq (.str (keyOf g' h')) (.str (keyOf g h)) = true then _ else _) = _
        rw [if_neg c2]
    · rw [List.map_map]
      have : ((fun e : D × D => toKey e.1) ∘ fun e => if keq e.1 (.str (keyOf g h)) = true then (e.1, D.int (far g h : Nat)) else e) = fun e => toKey e.1 := by
        funext e
        show toKey (if keq e.1 (.str (keyOf g h)) = true then (e.1, D.int (far g h : Nat)) else e).1 = toKey e.1
        split <;> rfl
      rw [this]
      exact k.nodup
  · rw [if_neg c]
    refine ⟨fun e he => ?_, ?_⟩
    · rcases List.mem_append.mp he with he | he
      · exact k.key e he
      · obtain rfl := List.mem_singleton.mp he
        exact ⟨g, h, hg, hh, rfl⟩
    · rw [List.map_append, List.nodup_append]
      refine ⟨k.nodup, by simp, fun a ha b hb e => c ?_⟩
      obtain ⟨p, hp, rfl⟩ := List.mem_map.mp ha
      have hb : b = toKey (.str (keyOf g h)) := by simpa using hb
      unfold dHas
      rw [List.any_eq_true]
      refine ⟨p, hp, ?_⟩
      unfold keq
      rw [decide_eq_true_eq, ← hb]
      exact e
end
theorem has_put (kvs : List (D × D)) (x : Str) (v : D) : dHas (dPut kvs (.str x) v) (.str x) = true := by
  unfold dPut
  by_cases c : dHas kvs (.str x) = true
  · rw [if_pos c]
    unfold dHas at c ⊢
    rw [List.any_eq_true] at c ⊢
    obtain ⟨e, he, hk⟩ := c
    refine ⟨_, List.mem_map.mpr ⟨e, he, rfl⟩, ?_⟩
    rw [if_pos hk]
    exact hk
  · rw [if_neg c]
    unfold dHas
    rw [List.any_append]
    simp [keq_str]
theorem cut_one {t : Str} {k r : Gr} : cutD (gD (.cons t k r)) (some 1) none = gD r := by
  have := cut_fromD (xs := gD (.cons t k r)) (n := 1) (by show 1 ≤ (gD r).length + 1; omega)
  rw [show ((1 : Nat) : Int) = 1 from rfl] at this
  rw [this]
  rfl
theorem r_law_far (n : Nat) : ∀ ds P Q E, sp__law_far (n + 1) ds P Q E → t__law_far n (dEnds Q E) (startD n__law_far ds) P := by
  rintro ds P Q E ⟨g0, h0, a, kvs, g, h, rfl, ha, hk, hg, hh, hn, ⟨z1, z2, o1, o2⟩, q⟩
  rw [st__law_far]
  unfold t__law_far
  obtain ⟨og, sg⟩ := subs_ok o1 hg
  obtain ⟨oh, sh⟩ := subs_ok o2 hh
  have dg := dep_le g
  have dh := dep_le h
  refine seq_intro fun D1 q1 => ?_
  (try simp only [s_for, s_lc, qiRng1, qiRng2, qiVal, brL_t, brL_f, qNext, qBreak, qCont, qDrop, qRet, qRetN, s_if, qgName, qgNil, qgCons, qgTup, qgSub, qAsg, qPar, qVar, qC, qOp, qUn, qTest, s_and, s_or, qNot, s_andV, s_orV, qNotV, s_ifE, qNil, qCons, qTup, qLst, qCB, qBM, qSl, qNoPart, qPart, qNeg, qAdd, qLt, qEq, qDNew, qFld, qFldS, qCall, qMeth, qMake, qRaise, qTry, qLRng, qYes, brS_t, brS_f, brW_t, brW_f, brA_t, brA_f, brO_t, brO_f, brAV_t, brAV_f, brOV_t, brOV_f, brI_t, brI_f, s_wipe0, s_wipeS, slot_0, slot_s, set_0, set_s, ln0, ln1, ln2, ln3, ln4, ln5, s_len_t, s_list_t, s_tup_t, s_int_i, s_int_b, s_min2, s_max2, s_min3, s_str, s_ty_s, s_le, s_gt, s_ge, s_sub, s_mul, s_mod, s_fdiv, s_pow, dE_nx, dE_rt, dE_ex, true_and, Bool.not_true, Bool.not_false, decide_true, if_true, if_false, Bool.false_eq_true])
  have fin : far g h = g.size + h.size → wkK Q (.int ((g.size : Nat) + (h.size : Nat) : Int)) P := fun e => by
    have := q kvs hk
    rw [up_id ha, e] at this
    exact wk_of (Le.refl _) (by rw [show ((g.size + h.size : Nat) : Int) = (g.size : Int) + (h.size : Int) by omega] at this; exact this)
  refine i_eqNil og ?_
  (try simp only [s_for, s_lc, qiRng1, qiRng2, qiVal, brL_t, brL_f, qNext, qBreak, qCont, qDrop, qRet, qRetN, s_if, qgName, qgNil, qgCons, qgTup, qgSub, qAsg, qPar, qVar, qC, qOp, qUn, qTest, s_and, s_or, qNot, s_andV, s_orV, qNotV, s_ifE, qNil, qCons, qTup, qLst, qCB, qBM, qSl, qNoPart, qPart, qNeg, qAdd, qLt, qEq, qDNew, qFld, qFldS, qCall, qMeth, qMake, qRaise, qTry, qLRng, qYes, brS_t, brS_f, brW_t, brW_f, brA_t, brA_f, brO_t, brO_f, brAV_t, brAV_f, brOV_t, brOV_f, brI_t, brI_f, s_wipe0, s_wipeS, slot_0, slot_s, set_0, set_s, ln0, ln1, ln2, ln3, ln4, ln5, s_len_t, s_list_t, s_tup_t, s_int_i, s_int_b, s_min2, s_max2, s_min3, s_str, s_ty_s, s_le, s_gt, s_ge, s_sub, s_mul, s_mod, s_fdiv, s_pow, dE_nx, dE_rt, dE_ex, true_and, Bool.not_true, Bool.not_false, decide_true, if_true, if_false, Bool.false_eq_true])
  refine i_or (fun e => ?_) fun e1 => ?_
  · (try simp only [s_for, s_lc, qiRng1, qiRng2, qiVal, brL_t, brL_f, qNext, qBreak, qCont, qDrop, qRet, qRetN, s_if, qgName, qgNil, qgCons, qgTup, qgSub, qAsg, qPar, qVar, qC, qOp, qUn, qTest, s_and, s_or, qNot, s_andV, s_orV, qNotV, s_ifE, qNil, qCons, qTup, qLst, qCB, qBM, qSl, qNoPart, qPart, qNeg, qAdd, qLt, qEq, qDNew, qFld, qFldS, qCall, qMeth, qMake, qRaise, qTry, qLRng, qYes, brS_t, brS_f, brW_t, brW_f, brA_t, brA_f, brO_t, brO_f, brAV_t, brAV_f, brOV_t, brOV_f, brI_t, brI_f, s_wipe0, s_wipeS, slot_0, slot_s, set_0, set_s, ln0, ln1, ln2, ln3, ln4, ln5, s_len_t, s_list_t, s_tup_t, s_int_i, s_int_b, s_min2, s_max2, s_min3, s_str, s_ty_s, s_le, s_gt, s_ge, s_sub, s_mul, s_mod, s_fdiv, s_pow, dE_nx, dE_rt, dE_ex, true_and, Bool.not_true, Bool.not_false, decide_true, if_true, if_false, Bool.false_eq_true])
    refine ⟨g, rfl, by omega, by omega, ⟨h, rfl, by omega, by omega, ?_⟩⟩
    (try simp only [s_for, s_lc, qiRng1, qiRng2, qiVal, brL_t, brL_f, qNext, qBreak, qCont, qDrop, qRet, qRetN, s_if, qgName, qgNil, qgCons, qgTup, qgSub, qAsg, qPar, qVar, qC, qOp, qUn, qTest, s_and, s_or, qNot, s_andV, s_orV, qNotV, s_ifE, qNil, qCons, qTup, qLst, qCB, qBM, qSl, qNoPart, qPart, qNeg, qAdd, qLt, qEq, qDNew, qFld, qFldS, qCall, qMeth, qMake, qRaise, qTry, qLRng, qYes, brS_t, brS_f, brW_t, brW_f, brA_t, brA_f, brO_t, brO_f, brAV_t, brAV_f, brOV_t, brOV_f, brI_t, brI_f, s_wipe0, s_wipeS, slot_0, slot_s, set_0, set_s, ln0, ln1, ln2, ln3, ln4, ln5, s_len_t, s_list_t, s_tup_t, s_int_i, s_int_b, s_min2, s_max2, s_min3, s_str, s_ty_s, s_le, s_gt, s_ge, s_sub, s_mul, s_mod, s_fdiv, s_pow, dE_nx, dE_rt, dE_ex, true_and, Bool.not_true, Bool.not_false, decide_true, if_true, if_false, Bool.false_eq_true])
    rw [q1.rt, dE_rt]
    obtain rfl := eq_nilG.mp (decide_eq_true e)
    exact fin (by rw [far_nil]; show h.size = 0 + h.size; omega)
  (try simp only [s_for, s_lc, qiRng1, qiRng2, qiVal, brL_t, brL_f, qNext, qBreak, qCont, qDrop, qRet, qRetN, s_if, qgName, qgNil, qgCons, qgTup, qgSub, qAsg, qPar, qVar, qC, qOp, qUn, qTest, s_and, s_or, qNot, s_andV, s_orV, qNotV, s_ifE, qNil, qCons, qTup, qLst, qCB, qBM, qSl, qNoPart, qPart, qNeg, qAdd, qLt, qEq, qDNew, qFld, qFldS, qCall, qMeth, qMake, qRaise, qTry, qLRng, qYes, brS_t, brS_f, brW_t, brW_f, brA_t, brA_f, brO_t, brO_f, brAV_t, brAV_f, brOV_t, brOV_f, brI_t, brI_f, s_wipe0, s_wipeS, slot_0, slot_s, set_0, set_s, ln0, ln1, ln2, ln3, ln4, ln5, s_len_t, s_list_t, s_tup_t, s_int_i, s_int_b, s_min2, s_max2, s_min3, s_str, s_ty_s, s_le, s_gt, s_ge, s_sub, s_mul, s_mod, s_fdiv, s_pow, dE_nx, dE_rt, dE_ex, true_and, Bool.not_true, Bool.not_false, decide_true, if_true, if_false, Bool.false_eq_true])
  refine i_eqNil oh ?_
  (try simp only [s_for, s_lc, qiRng1, qiRng2, qiVal, brL_t, brL_f, qNext, qBreak, qCont, qDrop, qRet, qRetN, s_if, qgName, qgNil, qgCons, qgTup, qgSub, qAsg, qPar, qVar, qC, qOp, qUn, qTest, s_and, s_or, qNot, s_andV, s_orV, qNotV, s_ifE, qNil, qCons, qTup, qLst, qCB, qBM, qSl, qNoPart, qPart, qNeg, qAdd, qLt, qEq, qDNew, qFld, qFldS, qCall, qMeth, qMake, qRaise, qTry, qLRng, qYes, brS_t, brS_f, brW_t, brW_f, brA_t, brA_f, brO_t, brO_f, brAV_t, brAV_f, brOV_t, brOV_f, brI_t, brI_f, s_wipe0, s_wipeS, slot_0, slot_s, set_0, set_s, ln0, ln1, ln2, ln3, ln4, ln5, s_len_t, s_list_t, s_tup_t, s_int_i, s_int_b, s_min2, s_max2, s_min3, s_str, s_ty_s, s_le, s_gt, s_ge, s_sub, s_mul, s_mod, s_fdiv, s_pow, dE_nx, dE_rt, dE_ex, true_and, Bool.not_true, Bool.not_false, decide_true, if_true, if_false, Bool.false_eq_true])
  refine i_if (fun e => ?_) fun e2 => ?_
  · (try simp only [s_for, s_lc, qiRng1, qiRng2, qiVal, brL_t, brL_f, qNext, qBreak, qCont, qDrop, qRet, qRetN, s_if, qgName, qgNil, qgCons, qgTup, qgSub, qAsg, qPar, qVar, qC, qOp, qUn, qTest, s_and, s_or, qNot, s_andV, s_orV, qNotV, s_ifE, qNil, qCons, qTup, qLst, qCB, qBM, qSl, qNoPart, qPart, qNeg, qAdd, qLt, qEq, qDNew, qFld, qFldS, qCall, qMeth, qMake, qRaise, qTry, qLRng, qYes, brS_t, brS_f, brW_t, brW_f, brA_t, brA_f, brO_t, brO_f, brAV_t, brAV_f, brOV_t, brOV_f, brI_t, brI_f, s_wipe0, s_wipeS, slot_0, slot_s, set_0, set_s, ln0, ln1, ln2, ln3, ln4, ln5, s_len_t, s_list_t, s_tup_t, s_int_i, s_int_b, s_min2, s_max2, s_min3, s_str, s_ty_s, s_le, s_gt, s_ge, s_sub, s_mul, s_mod, s_fdiv, s_pow, dE_nx, dE_rt, dE_ex, true_and, Bool.not_true, Bool.not_false, decide_true, if_true, if_false, Bool.false_eq_true])
    refine ⟨g, rfl, by omega, by omega, ⟨h, rfl, by omega, by omega, ?_⟩⟩
    (try simp only [s_for, s_lc, qiRng1, qiRng2, qiVal, brL_t, brL_f, qNext, qBreak, qCont, qDrop, qRet, qRetN, s_if, qgName, qgNil, qgCons, qgTup, qgSub, qAsg, qPar, qVar, qC, qOp, qUn, qTest, s_and, s_or, qNot, s_andV, s_orV, qNotV, s_ifE, qNil, qCons, qTup, qLst, qCB, qBM, qSl, qNoPart, qPart, qNeg, qAdd, qLt, qEq, qDNew, qFld, qFldS, qCall, qMeth, qMake, qRaise, qTry, qLRng, qYes, brS_t, brS_f, brW_t, brW_f, brA_t, brA_f, brO_t, brO_f, brAV_t, brAV_f, brOV_t, brOV_f, brI_t, brI_f, s_wipe0, s_wipeS, slot_0, slot_s, set_0, set_s, ln0, ln1, ln2, ln3, ln4, ln5, s_len_t, s_list_t, s_tup_t, s_int_i, s_int_b, s_min2, s_max2, s_min3, s_str, s_ty_s, s_le, s_gt, s_ge, s_sub, s_mul, s_mod, s_fdiv, s_pow, dE_nx, dE_rt, dE_ex, true_and, Bool.not_true, Bool.not_false, decide_true, if_true, if_false, Bool.false_eq_true])
    rw [q1.rt, dE_rt]
    obtain rfl := eq_nilG.mp (decide_eq_true e)
    exact fin (by rw [far_nil']; show g.size = g.size + 0; omega)
  (try simp only [s_for, s_lc, qiRng1, qiRng2, qiVal, brL_t, brL_f, qNext, qBreak, qCont, qDrop, qRet, qRetN, s_if, qgName, qgNil, qgCons, qgTup, qgSub, qAsg, qPar, qVar, qC, qOp, qUn, qTest, s_and, s_or, qNot, s_andV, s_orV, qNotV, s_ifE, qNil, qCons, qTup, qLst, qCB, qBM, qSl, qNoPart, qPart, qNeg, qAdd, qLt, qEq, qDNew, qFld, qFldS, qCall, qMeth, qMake, qRaise, qTry, qLRng, qYes, brS_t, brS_f, brW_t, brW_f, brA_t, brA_f, brO_t, brO_f, brAV_t, brAV_f, brOV_t, brOV_f, brI_t, brI_f, s_wipe0, s_wipeS, slot_0, slot_s, set_0, set_s, ln0, ln1, ln2, ln3, ln4, ln5, s_len_t, s_list_t, s_tup_t, s_int_i, s_int_b, s_min2, s_max2, s_min3, s_str, s_ty_s, s_le, s_gt, s_ge, s_sub, s_mul, s_mod, s_fdiv, s_pow, dE_nx, dE_rt, dE_ex, true_and, Bool.not_true, Bool.not_false, decide_true, if_true, if_false, Bool.false_eq_true])
  refine q1.nx _ _ (seq_intro fun D2 q2 => ?_)
  (try simp only [s_for, s_lc, qiRng1, qiRng2, qiVal, brL_t, brL_f, qNext, qBreak, qCont, qDrop, qRet, qRetN, s_if, qgName, qgNil, qgCons, qgTup, qgSub, qAsg, qPar, qVar, qC, qOp, qUn, qTest, s_and, s_or, qNot, s_andV, s_orV, qNotV, s_ifE, qNil, qCons, qTup, qLst, qCB, qBM, qSl, qNoPart, qPart, qNeg, qAdd, qLt, qEq, qDNew, qFld, qFldS, qCall, qMeth, qMake, qRaise, qTry, qLRng, qYes, brS_t, brS_f, brW_t, brW_f, brA_t, brA_f, brO_t, brO_f, brAV_t, brAV_f, brOV_t, brOV_f, brI_t, brI_f, s_wipe0, s_wipeS, slot_0, slot_s, set_0, set_s, ln0, ln1, ln2, ln3, ln4, ln5, s_len_t, s_list_t, s_tup_t, s_int_i, s_int_b, s_min2, s_max2, s_min3, s_str, s_ty_s, s_le, s_gt, s_ge, s_sub, s_mul, s_mod, s_fdiv, s_pow, dE_nx, dE_rt, dE_ex, true_and, Bool.not_true, Bool.not_false, decide_true, if_true, if_false, Bool.false_eq_true])
  have gp := gD_pure g og
  have hp := gD_pure h oh
  have gs := gD_show g
  have hs := gD_show h
  have gd := gD_deps g
  have hd := gD_deps h
  have kl := key_len og oh
  refine ⟨by rw [pures, pures, pures, pure1, pure1, gp, hp]; rfl, ?_, ?_, by rw [sizeLine_eq]; exact Nat.le_trans kl (by omega), q2.nx _ _ (seq_intro fun D3 q3 => ?_)⟩
  · rw [toPd, PyData.showable, toPds, toPds, toPds, PyData.showableAll, PyData.showableAll, PyData.showableAll, toPd, PyData.showable, toPd, PyData.showable, gs, hs]
    rfl
  · rw [deps, deps, deps, dep, dep]
    omega
  -- the answer, once the key stands
  have ans : ∀ {D : PEnds} {kvs1 : List (PL.D × PL.D)} {x4 x5 x6 : Option PL.D}, KeptOk g0 h0 kvs1 → dHas kvs1 (.str (keyOf g h)) = true →
      (qRet (qOp qIx (qVar 0) (qVar 3))) (dEnds Q E) [some (.ref a), some (.tup (gD g)), some (.tup (gD h)), some (.str (keyOf g h)), x4, x5, x6] (up P a (.dct kvs1)) := fun {D kvs1 x4 x5 x6} k1 h1 => by
    (try simp only [s_for, s_lc, qiRng1, qiRng2, qiVal, brL_t, brL_f, qNext, qBreak, qCont, qDrop, qRet, qRetN, s_if, qgName, qgNil, qgCons, qgTup, qgSub, qAsg, qPar, qVar, qC, qOp, qUn, qTest, s_and, s_or, qNot, s_andV, s_orV, qNotV, s_ifE, qNil, qCons, qTup, qLst, qCB, qBM, qSl, qNoPart, qPart, qNeg, qAdd, qLt, qEq, qDNew, qFld, qFldS, qCall, qMeth, qMake, qRaise, qTry, qLRng, qYes, brS_t, brS_f, brW_t, brW_f, brA_t, brA_f, brO_t, brO_f, brAV_t, brAV_f, brOV_t, brOV_f, brI_t, brI_f, s_wipe0, s_wipeS, slot_0, slot_s, set_0, set_s, ln0, ln1, ln2, ln3, ln4, ln5, s_len_t, s_list_t, s_tup_t, s_int_i, s_int_b, s_min2, s_max2, s_min3, s_str, s_ty_s, s_le, s_gt, s_ge, s_sub, s_mul, s_mod, s_fdiv, s_pow, dE_nx, dE_rt, dE_ex, true_and, Bool.not_true, Bool.not_false, decide_true, if_true, if_false, Bool.false_eq_true])
    exact i_ixD (.inl up_same) (kept_for k1 _) (kept_look k1 o1 o2 hg hh h1) (wk_of (Le.refl _) (q kvs1 k1))
  show qIfS _ _ _ D3 [some (.ref a), some (.tup (gD g)), some (.tup (gD h)), some (.str (keyOf g h)), none, none, none] P
  (try simp only [s_for, s_lc, qiRng1, qiRng2, qiVal, brL_t, brL_f, qNext, qBreak, qCont, qDrop, qRet, qRetN, s_if, qgName, qgNil, qgCons, qgTup, qgSub, qAsg, qPar, qVar, qC, qOp, qUn, qTest, s_and, s_or, qNot, s_andV, s_orV, qNotV, s_ifE, qNil, qCons, qTup, qLst, qCB, qBM, qSl, qNoPart, qPart, qNeg, qAdd, qLt, qEq, qDNew, qFld, qFldS, qCall, qMeth, qMake, qRaise, qTry, qLRng, qYes, brS_t, brS_f, brW_t, brW_f, brA_t, brA_f, brO_t, brO_f, brAV_t, brAV_f, brOV_t, brOV_f, brI_t, brI_f, s_wipe0, s_wipeS, slot_0, slot_s, set_0, set_s, ln0, ln1, ln2, ln3, ln4, ln5, s_len_t, s_list_t, s_tup_t, s_int_i, s_int_b, s_min2, s_max2, s_min3, s_str, s_ty_s, s_le, s_gt, s_ge, s_sub, s_mul, s_mod, s_fdiv, s_pow, dE_nx, dE_rt, dE_ex, true_and, Bool.not_true, Bool.not_false, decide_true, if_true, if_false, Bool.false_eq_true])
  refine i_inD (.inl ha) (kept_for hk _) ?_
  (try simp only [s_for, s_lc, qiRng1, qiRng2, qiVal, brL_t, brL_f, qNext, qBreak, qCont, qDrop, qRet, qRetN, s_if, qgName, qgNil, qgCons, qgTup, qgSub, qAsg, qPar, qVar, qC, qOp, qUn, qTest, s_and, s_or, qNot, s_andV, s_orV, qNotV, s_ifE, qNil, qCons, qTup, qLst, qCB, qBM, qSl, qNoPart, qPart, qNeg, qAdd, qLt, qEq, qDNew, qFld, qFldS, qCall, qMeth, qMake, qRaise, qTry, qLRng, qYes, brS_t, brS_f, brW_t, brW_f, brA_t, brA_f, brO_t, brO_f, brAV_t, brAV_f, brOV_t, brOV_f, brI_t, brI_f, s_wipe0, s_wipeS, slot_0, slot_s, set_0, set_s, ln0, ln1, ln2, ln3, ln4, ln5, s_len_t, s_list_t, s_tup_t, s_int_i, s_int_b, s_min2, s_max2, s_min3, s_str, s_ty_s, s_le, s_gt, s_ge, s_sub, s_mul, s_mod, s_fdiv, s_pow, dE_nx, dE_rt, dE_ex, true_and, Bool.not_true, Bool.not_false, decide_true, if_true, if_false, Bool.false_eq_true])
  cases hd0 : dHas kvs (.str (keyOf g h)) with
  | true =>
    refine i_ifb (fun z => by cases z) fun _ => ?_
    (try simp only [s_for, s_lc, qiRng1, qiRng2, qiVal, brL_t, brL_f, qNext, qBreak, qCont, qDrop, qRet, qRetN, s_if, qgName, qgNil, qgCons, qgTup, qgSub, qAsg, qPar, qVar, qC, qOp, qUn, qTest, s_and, s_or, qNot, s_andV, s_orV, qNotV, s_ifE, qNil, qCons, qTup, qLst, qCB, qBM, qSl, qNoPart, qPart, qNeg, qAdd, qLt, qEq, qDNew, qFld, qFldS, qCall, qMeth, qMake, qRaise, qTry, qLRng, qYes, brS_t, brS_f, brW_t, brW_f, brA_t, brA_f, brO_t, brO_f, brAV_t, brAV_f, brOV_t, brOV_f, brI_t, brI_f, s_wipe0, s_wipeS, slot_0, slot_s, set_0, set_s, ln0, ln1, ln2, ln3, ln4, ln5, s_len_t, s_list_t, s_tup_t, s_int_i, s_int_b, s_min2, s_max2, s_min3, s_str, s_ty_s, s_le, s_gt, s_ge, s_sub, s_mul, s_mod, s_fdiv, s_pow, dE_nx, dE_rt, dE_ex, true_and, Bool.not_true, Bool.not_false, decide_true, if_true, if_false, Bool.false_eq_true])
    refine q3.nx _ _ ?_
    have := ans (D := D3) hk hd0 (x4 := none) (x5 := none) (x6 := none)
    rw [up_id ha] at this
    exact this
  | false =>
    refine i_ifb (fun _ => ?_) fun z => by cases z
    obtain ⟨t, k, r, rfl⟩ : ∃ t k r, g = .cons t k r := by
      cases g with
      | nil => exact absurd rfl e1
      | cons t k r => exact ⟨t, k, r, rfl⟩
    obtain ⟨u, l, s, rfl⟩ : ∃ t k r, h = .cons t k r := by
      cases h with
      | nil => exact absurd rfl e2
      | cons t k r => exact ⟨t, k, r, rfl⟩
    obtain ⟨gk, gr⟩ := subs_step hg
    obtain ⟨hl, hs'⟩ := subs_step hh
    have eg : (Gr.cons t k r).size = 1 + k.size + r.size := rfl
    have eh : (Gr.cons u l s).size = 1 + l.size + s.size := rfl
    have dk := dep_le k
    have dl' := dep_le l
    have zz : g0.size ≤ 20 ∧ h0.size ≤ 20 ∧ GrOk g0 ∧ GrOk h0 := ⟨z1, z2, o1, o2⟩
    refine seq_intro fun D4 q4 => ?_
    (try simp only [s_for, s_lc, qiRng1, qiRng2, qiVal, brL_t, brL_f, qNext, qBreak, qCont, qDrop, qRet, qRetN, s_if, qgName, qgNil, qgCons, qgTup, qgSub, qAsg, qPar, qVar, qC, qOp, qUn, qTest, s_and, s_or, qNot, s_andV, s_orV, qNotV, s_ifE, qNil, qCons, qTup, qLst, qCB, qBM, qSl, qNoPart, qPart, qNeg, qAdd, qLt, qEq, qDNew, qFld, qFldS, qCall, qMeth, qMake, qRaise, qTry, qLRng, qYes, brS_t, brS_f, brW_t, brW_f, brA_t, brA_f, brO_t, brO_f, brAV_t, brAV_f, brOV_t, brOV_f, brI_t, brI_f, s_wipe0, s_wipeS, slot_0, slot_s, set_0, set_s, ln0, ln1, ln2, ln3, ln4, ln5, s_len_t, s_list_t, s_tup_t, s_int_i, s_int_b, s_min2, s_max2, s_min3, s_str, s_ty_s, s_le, s_gt, s_ge, s_sub, s_mul, s_mod, s_fdiv, s_pow, dE_nx, dE_rt, dE_ex, true_and, Bool.not_true, Bool.not_false, decide_true, if_true, if_false, Bool.false_eq_true])
    refine i_ixT (at_cons (x := .tup [.str t, .tup (gD k)])) (i_ixT (at_nat (i := 1) rfl) ⟨k, rfl, by omega, by omega, ?_⟩)
    (try simp only [s_for, s_lc, qiRng1, qiRng2, qiVal, brL_t, brL_f, qNext, qBreak, qCont, qDrop, qRet, qRetN, s_if, qgName, qgNil, qgCons, qgTup, qgSub, qAsg, qPar, qVar, qC, qOp, qUn, qTest, s_and, s_or, qNot, s_andV, s_orV, qNotV, s_ifE, qNil, qCons, qTup, qLst, qCB, qBM, qSl, qNoPart, qPart, qNeg, qAdd, qLt, qEq, qDNew, qFld, qFldS, qCall, qMeth, qMake, qRaise, qTry, qLRng, qYes, brS_t, brS_f, brW_t, brW_f, brA_t, brA_f, brO_t, brO_f, brAV_t, brAV_f, brOV_t, brOV_f, brI_t, brI_f, s_wipe0, s_wipeS, slot_0, slot_s, set_0, set_s, ln0, ln1, ln2, ln3, ln4, ln5, s_len_t, s_list_t, s_tup_t, s_int_i, s_int_b, s_min2, s_max2, s_min3, s_str, s_ty_s, s_le, s_gt, s_ge, s_sub, s_mul, s_mod, s_fdiv, s_pow, dE_nx, dE_rt, dE_ex, true_and, Bool.not_true, Bool.not_false, decide_true, if_true, if_false, Bool.false_eq_true])
    rw [cut_one]
    refine ⟨g0, h0, a, kvs, r, .cons u l s, rfl, ha, hk, gr, hh, by omega, zz, fun kvs1 k1 => ?_⟩
    (try simp only [s_for, s_lc, qiRng1, qiRng2, qiVal, brL_t, brL_f, qNext, qBreak, qCont, qDrop, qRet, qRetN, s_if, qgName, qgNil, qgCons, qgTup, qgSub, qAsg, qPar, qVar, qC, qOp, qUn, qTest, s_and, s_or, qNot, s_andV, s_orV, qNotV, s_ifE, qNil, qCons, qTup, qLst, qCB, qBM, qSl, qNoPart, qPart, qNeg, qAdd, qLt, qEq, qDNew, qFld, qFldS, qCall, qMeth, qMake, qRaise, qTry, qLRng, qYes, brS_t, brS_f, brW_t, brW_f, brA_t, brA_f, brO_t, brO_f, brAV_t, brAV_f, brOV_t, brOV_f, brI_t, brI_f, s_wipe0, s_wipeS, slot_0, slot_s, set_0, set_s, ln0, ln1, ln2, ln3, ln4, ln5, s_len_t, s_list_t, s_tup_t, s_int_i, s_int_b, s_min2, s_max2, s_min3, s_str, s_ty_s, s_le, s_gt, s_ge, s_sub, s_mul, s_mod, s_fdiv, s_pow, dE_nx, dE_rt, dE_ex, true_and, Bool.not_true, Bool.not_false, decide_true, if_true, if_false, Bool.false_eq_true])
    refine q4.nx _ _ (seq_intro fun D5 q5 => ?_)
    (try simp only [s_for, s_lc, qiRng1, qiRng2, qiVal, brL_t, brL_f, qNext, qBreak, qCont, qDrop, qRet, qRetN, s_if, qgName, qgNil, qgCons, qgTup, qgSub, qAsg, qPar, qVar, qC, qOp, qUn, qTest, s_and, s_or, qNot, s_andV, s_orV, qNotV, s_ifE, qNil, qCons, qTup, qLst, qCB, qBM, qSl, qNoPart, qPart, qNeg, qAdd, qLt, qEq, qDNew, qFld, qFldS, qCall, qMeth, qMake, qRaise, qTry, qLRng, qYes, brS_t, brS_f, brW_t, brW_f, brA_t, brA_f, brO_t, brO_f, brAV_t, brAV_f, brOV_t, brOV_f, brI_t, brI_f, s_wipe0, s_wipeS, slot_0, slot_s, set_0, set_s, ln0, ln1, ln2, ln3, ln4, ln5, s_len_t, s_list_t, s_tup_t, s_int_i, s_int_b, s_min2, s_max2, s_min3, s_str, s_ty_s, s_le, s_gt, s_ge, s_sub, s_mul, s_mod, s_fdiv, s_pow, dE_nx, dE_rt, dE_ex, true_and, Bool.not_true, Bool.not_false, decide_true, if_true, if_false, Bool.false_eq_true])
    refine i_ixT (at_cons (x := .tup [.str u, .tup (gD l)])) (i_ixT (at_nat (i := 1) rfl) ⟨l, rfl, by omega, by omega, ?_⟩)
    (try simp only [s_for, s_lc, qiRng1, qiRng2, qiVal, brL_t, brL_f, qNext, qBreak, qCont, qDrop, qRet, qRetN, s_if, qgName, qgNil, qgCons, qgTup, qgSub, qAsg, qPar, qVar, qC, qOp, qUn, qTest, s_and, s_or, qNot, s_andV, s_orV, qNotV, s_ifE, qNil, qCons, qTup, qLst, qCB, qBM, qSl, qNoPart, qPart, qNeg, qAdd, qLt, qEq, qDNew, qFld, qFldS, qCall, qMeth, qMake, qRaise, qTry, qLRng, qYes, brS_t, brS_f, brW_t, brW_f, brA_t, brA_f, brO_t, brO_f, brAV_t, brAV_f, brOV_t, brOV_f, brI_t, brI_f, s_wipe0, s_wipeS, slot_0, slot_s, set_0, set_s, ln0, ln1, ln2, ln3, ln4, ln5, s_len_t, s_list_t, s_tup_t, s_int_i, s_int_b, s_min2, s_max2, s_min3, s_str, s_ty_s, s_le, s_gt, s_ge, s_sub, s_mul, s_mod, s_fdiv, s_pow, dE_nx, dE_rt, dE_ex, true_and, Bool.not_true, Bool.not_false, decide_true, if_true, if_false, Bool.false_eq_true])
    rw [cut_one]
    refine ⟨g0, h0, a, kvs1, .cons t k r, s, rfl, up_same, k1, hg, hs', by omega, zz, fun kvs2 k2 => ?_⟩
    (try simp only [s_for, s_lc, qiRng1, qiRng2, qiVal, brL_t, brL_f, qNext, qBreak, qCont, qDrop, qRet, qRetN, s_if, qgName, qgNil, qgCons, qgTup, qgSub, qAsg, qPar, qVar, qC, qOp, qUn, qTest, s_and, s_or, qNot, s_andV, s_orV, qNotV, s_ifE, qNil, qCons, qTup, qLst, qCB, qBM, qSl, qNoPart, qPart, qNeg, qAdd, qLt, qEq, qDNew, qFld, qFldS, qCall, qMeth, qMake, qRaise, qTry, qLRng, qYes, brS_t, brS_f, brW_t, brW_f, brA_t, brA_f, brO_t, brO_f, brAV_t, brAV_f, brOV_t, brOV_f, brI_t, brI_f, s_wipe0, s_wipeS, slot_0, slot_s, set_0, set_s, ln0, ln1, ln2, ln3, ln4, ln5, s_len_t, s_list_t, s_tup_t, s_int_i, s_int_b, s_min2, s_max2, s_min3, s_str, s_ty_s, s_le, s_gt, s_ge, s_sub, s_mul, s_mod, s_fdiv, s_pow, dE_nx, dE_rt, dE_ex, true_and, Bool.not_true, Bool.not_false, decide_true, if_true, if_false, Bool.false_eq_true])
    rw [up_up]
    refine q5.nx _ _ (seq_intro fun D6 q6 => ?_)
    (try simp only [s_for, s_lc, qiRng1, qiRng2, qiVal, brL_t, brL_f, qNext, qBreak, qCont, qDrop, qRet, qRetN, s_if, qgName, qgNil, qgCons, qgTup, qgSub, qAsg, qPar, qVar, qC, qOp, qUn, qTest, s_and, s_or, qNot, s_andV, s_orV, qNotV, s_ifE, qNil, qCons, qTup, qLst, qCB, qBM, qSl, qNoPart, qPart, qNeg, qAdd, qLt, qEq, qDNew, qFld, qFldS, qCall, qMeth, qMake, qRaise, qTry, qLRng, qYes, brS_t, brS_f, brW_t, brW_f, brA_t, brA_f, brO_t, brO_f, brAV_t, brAV_f, brOV_t, brOV_f, brI_t, brI_f, s_wipe0, s_wipeS, slot_0, slot_s, set_0, set_s, ln0, ln1, ln2, ln3, ln4, ln5, s_len_t, s_list_t, s_tup_t, s_int_i, s_int_b, s_min2, s_max2, s_min3, s_str, s_ty_s, s_le, s_gt, s_ge, s_sub, s_mul, s_mod, s_fdiv, s_pow, dE_nx, dE_rt, dE_ex, true_and, Bool.not_true, Bool.not_false, decide_true, if_true, if_false, Bool.false_eq_true])
    refine i_ixT (at_cons (x := .tup [.str t, .tup (gD k)])) (i_ixT (at_nat (i := 1) rfl) (i_ixT (at_cons (x := .tup [.str u, .tup (gD l)])) (i_ixT (at_nat (i := 1) rfl) ?_)))
    refine ⟨g0, h0, a, kvs2, k, l, rfl, up_same, k2, gk, hl, by omega, zz, fun kvs3 k3 => ?_⟩
    (try simp only [s_for, s_lc, qiRng1, qiRng2, qiVal, brL_t, brL_f, qNext, qBreak, qCont, qDrop, qRet, qRetN, s_if, qgName, qgNil, qgCons, qgTup, qgSub, qAsg, qPar, qVar, qC, qOp, qUn, qTest, s_and, s_or, qNot, s_andV, s_orV, qNotV, s_ifE, qNil, qCons, qTup, qLst, qCB, qBM, qSl, qNoPart, qPart, qNeg, qAdd, qLt, qEq, qDNew, qFld, qFldS, qCall, qMeth, qMake, qRaise, qTry, qLRng, qYes, brS_t, brS_f, brW_t, brW_f, brA_t, brA_f, brO_t, brO_f, brAV_t, brAV_f, brOV_t, brOV_f, brI_t, brI_f, s_wipe0, s_wipeS, slot_0, slot_s, set_0, set_s, ln0, ln1, ln2, ln3, ln4, ln5, s_len_t, s_list_t, s_tup_t, s_int_i, s_int_b, s_min2, s_max2, s_min3, s_str, s_ty_s, s_le, s_gt, s_ge, s_sub, s_mul, s_mod, s_fdiv, s_pow, dE_nx, dE_rt, dE_ex, true_and, Bool.not_true, Bool.not_false, decide_true, if_true, if_false, Bool.false_eq_true])
    rw [up_up, cut_one, cut_one]
    refine ⟨g0, h0, a, kvs3, r, s, rfl, up_same, k3, gr, hs', by omega, zz, fun kvs4 k4 => ?_⟩
    (try simp only [s_for, s_lc, qiRng1, qiRng2, qiVal, brL_t, brL_f, qNext, qBreak, qCont, qDrop, qRet, qRetN, s_if, qgName, qgNil, qgCons, qgTup, qgSub, qAsg, qPar, qVar, qC, qOp, qUn, qTest, s_and, s_or, qNot, s_andV, s_orV, qNotV, s_ifE, qNil, qCons, qTup, qLst, qCB, qBM, qSl, qNoPart, qPart, qNeg, qAdd, qLt, qEq, qDNew, qFld, qFldS, qCall, qMeth, qMake, qRaise, qTry, qLRng, qYes, brS_t, brS_f, brW_t, brW_f, brA_t, brA_f, brO_t, brO_f, brAV_t, brAV_f, brOV_t, brOV_f, brI_t, brI_f, s_wipe0, s_wipeS, slot_0, slot_s, set_0, set_s, ln0, ln1, ln2, ln3, ln4, ln5, s_len_t, s_list_t, s_tup_t, s_int_i, s_int_b, s_min2, s_max2, s_min3, s_str, s_ty_s, s_le, s_gt, s_ge, s_sub, s_mul, s_mod, s_fdiv, s_pow, dE_nx, dE_rt, dE_ex, true_and, Bool.not_true, Bool.not_false, decide_true, if_true, if_false, Bool.false_eq_true])
    rw [up_up]
    refine q6.nx _ _ ?_
    (try simp only [s_for, s_lc, qiRng1, qiRng2, qiVal, brL_t, brL_f, qNext, qBreak, qCont, qDrop, qRet, qRetN, s_if, qgName, qgNil, qgCons, qgTup, qgSub, qAsg, qPar, qVar, qC, qOp, qUn, qTest, s_and, s_or, qNot, s_andV, s_orV, qNotV, s_ifE, qNil, qCons, qTup, qLst, qCB, qBM, qSl, qNoPart, qPart, qNeg, qAdd, qLt, qEq, qDNew, qFld, qFldS, qCall, qMeth, qMake, qRaise, qTry, qLRng, qYes, brS_t, brS_f, brW_t, brW_f, brA_t, brA_f, brO_t, brO_f, brAV_t, brAV_f, brOV_t, brOV_f, brI_t, brI_f, s_wipe0, s_wipeS, slot_0, slot_s, set_0, set_s, ln0, ln1, ln2, ln3, ln4, ln5, s_len_t, s_list_t, s_tup_t, s_int_i, s_int_b, s_min2, s_max2, s_min3, s_str, s_ty_s, s_le, s_gt, s_ge, s_sub, s_mul, s_mod, s_fdiv, s_pow, dE_nx, dE_rt, dE_ex, true_and, Bool.not_true, Bool.not_false, decide_true, if_true, if_false, Bool.false_eq_true])
    refine i_ixT (at_cons (x := .tup [.str t, .tup (gD k)])) (i_ixT at_cons (i_ixT (at_cons (x := .tup [.str u, .tup (gD l)])) (i_ixT at_cons ?_)))
    (try simp only [s_for, s_lc, qiRng1, qiRng2, qiVal, brL_t, brL_f, qNext, qBreak, qCont, qDrop, qRet, qRetN, s_if, qgName, qgNil, qgCons, qgTup, qgSub, qAsg, qPar, qVar, qC, qOp, qUn, qTest, s_and, s_or, qNot, s_andV, s_orV, qNotV, s_ifE, qNil, qCons, qTup, qLst, qCB, qBM, qSl, qNoPart, qPart, qNeg, qAdd, qLt, qEq, qDNew, qFld, qFldS, qCall, qMeth, qMake, qRaise, qTry, qLRng, qYes, brS_t, brS_f, brW_t, brW_f, brA_t, brA_f, brO_t, brO_f, brAV_t, brAV_f, brOV_t, brOV_f, brI_t, brI_f, s_wipe0, s_wipeS, slot_0, slot_s, set_0, set_s, ln0, ln1, ln2, ln3, ln4, ln5, s_len_t, s_list_t, s_tup_t, s_int_i, s_int_b, s_min2, s_max2, s_min3, s_str, s_ty_s, s_le, s_gt, s_ge, s_sub, s_mul, s_mod, s_fdiv, s_pow, dE_nx, dE_rt, dE_ex, true_and, Bool.not_true, Bool.not_false, decide_true, if_true, if_false, Bool.false_eq_true])
    have ev : (min (min (1 + (k.size : Int) + (far r (.cons u l s) : Nat)) (1 + (l.size : Int) + (far (.cons t k r) s : Nat))) ((far k l : Nat) + (far r s : Nat) + (if (!decide (t = u)) = true then (1 : Int) else 0))) = ((far (.cons t k r) (.cons u l s) : Nat) : Int) := by
      rw [far_cons]
      by_cases e : t = u
      · simp [e]
        omega
      · simp [e]
        omega
    rw [ev]
    refine i_setD up_same (kept_for k4 _) (Nat.le_trans (kept_len k4 ⟨z1, z2⟩) (by decide)) ?_
    rw [up_up]
    refine q3.nx _ _ ?_
    exact ans (D := D3) (kept_put k4 o1 o2 hg hh) (has_put _ _ _)
end K83
namespace K83
open PySem PySem.Spec L2 PL
def flat : List Str → Gr
  | [] => .nil
  | w :: r => .cons w .nil (flat r)
theorem flat_size : ∀ ws : List Str, (flat ws).size = ws.length
  | [] => rfl
  | w :: r => by show 1 + 0 + (flat r).size = r.length + 1; rw [flat_size r]; omega
theorem flat_dep : ∀ ws : List Str, (flat ws).dep ≤ 1
  | [] => Nat.zero_le _
  | w :: r => by
    have := flat_dep r
    show max (0 + 1) (flat r).dep ≤ 1
    omega
theorem far_flat : ∀ a b : List Str, far (flat a) (flat b) = back one1 one1 ne1 a b
  | [], b => by
    show (flat b).size = sumI one1 b
    rw [flat_size, sum_one]
  | x :: a, [] => by
    rw [back_nil', sum_one]
    show (flat (x :: a)).size = _
    exact flat_size _
  | x :: a, y :: b => by
    have h1 := far_flat a (y :: b)
    have h2 := far_flat (x :: a) b
    have h3 := far_flat a b
    have e := back_cons one1 one1 ne1 x y a b
    have f : far (flat (x :: a)) (flat (y :: b)) = _ := far_cons x y .nil (flat a) .nil (flat b)
    have f1 : Gr.cons y .nil (flat b) = flat (y :: b) := rfl
    have f2 : Gr.cons x .nil (flat a) = flat (x :: a) := rfl
    have f3 : far .nil .nil = 0 := rfl
    have f4 : Gr.nil.size = 0 := rfl
    rw [f1, f2, h1, h2, h3, f3, f4] at f
    rw [f, e]
    simp only [one1, ne1]
    omega
termination_by a b => a.length + b.length
theorem flat_list : ∀ {ys : List D}, (∀ y ∈ ys, ∃ w, y = .tup [.str w, .tup []]) → ∃ ws : List Str, ys = gD (flat ws)
  | [], _ => ⟨[], rfl⟩
  | y :: ys, h => by
    obtain ⟨w, rfl⟩ := h y List.mem_cons_self
    obtain ⟨ws, rfl⟩ := flat_list (ys := ys) fun z hz => h z (List.mem_cons_of_mem _ hz)
    exact ⟨w :: ws, rfl⟩
theorem flat_at : ∀ {ws : List Str} {i : Nat} {x : D}, (gD (flat ws))[i]? = some x → ∃ w, ws[i]? = some w ∧ x = .tup [.str w, .tup []]
  | w :: r, 0, x, h => by cases h; exact ⟨w, rfl, rfl⟩
  | w :: r, i + 1, x, h => flat_at (ws := r) (i := i) h
  | [], i, x, h => by simp [flat, gD] at h
theorem flat_len (ws : List Str) : (gD (flat ws)).length = ws.length := by
  induction ws with
  | nil => rfl
  | cons w r ih => show (gD (flat r)).length + 1 = r.length + 1; rw [ih]
/-- what is asked at the end -/
theorem tail_ok {P : PH} {Q : PL.PK} {E : PX} {g h : Gr} {s0 s1 s2 s3 s5 s8 s9 : Option PL.D} (hg : g.size ≤ 50) (hh : h.size ≤ 50) (dg : g.dep < 45) (dh : h.dep < 45) (q : ∀ P', Q (.bl true) P') :
    qSeq (qIfS (qOr (qNot (qTest (qCall sp__law_is (qCons (qCall (sp_distance 45) (qCons (qVar 4) (qCons (qVar 6) qNil))) (qCons (qVar 7) qNil))))) (qNot (qTest (qCall sp__law_is (qCons (qCall (sp_distance 45) (qCons (qVar 6) (qCons (qVar 4) qNil))) (qCons (qVar 7) qNil)))))) (qRet (qC (.bl false))) qNext)
      (qRet (qAndV (qCall sp__law_is (qCons (qCall (sp_distance 45) (qCons (qVar 4) (qCons (qVar 4) qNil))) (qCons (qC (.int 0)) qNil))) (qCall sp__law_is (qCons (qCall (sp_distance 45) (qCons (qVar 4) (qCons (qVar 6) qNil))) (qCons (qVar 7) qNil)))))
      (dEnds Q E) [s0, s1, s2, s3, some (.tup (gD g)), s5, some (.tup (gD h)), some (.int (far g h : Nat)), s8, s9] P := by
  refine seq_intro fun D1 q1 => ?_
  (try simp only [s_for, s_lc, qiRng1, qiRng2, qiVal, brL_t, brL_f, qNext, qBreak, qCont, qDrop, qRet, qRetN, s_if, qgName, qgNil, qgCons, qgTup, qgSub, qAsg, qPar, qVar, qC, qOp, qUn, qTest, s_and, s_or, qNot, s_andV, s_orV, qNotV, s_ifE, qNil, qCons, qTup, qLst, qCB, qBM, qSl, qNoPart, qPart, qNeg, qAdd, qLt, qEq, qDNew, qFld, qFldS, qCall, qMeth, qMake, qRaise, qTry, qLRng, qYes, brS_t, brS_f, brW_t, brW_f, brA_t, brA_f, brO_t, brO_f, brAV_t, brAV_f, brOV_t, brOV_f, brI_t, brI_f, s_wipe0, s_wipeS, slot_0, slot_s, set_0, set_s, ln0, ln1, ln2, ln3, ln4, ln5, s_len_t, s_list_t, s_tup_t, s_int_i, s_int_b, s_min2, s_max2, s_min3, s_str, s_ty_s, s_le, s_gt, s_ge, s_sub, s_mul, s_mod, s_fdiv, s_pow, dE_nx, dE_rt, dE_ex, true_and, Bool.not_true, Bool.not_false, decide_true, if_true, if_false, Bool.false_eq_true])
  refine ⟨g, h, rfl, by omega, by omega, dg, ⟨_, _, rfl, ?_⟩⟩
  rw [decide_eq_true rfl]
  (try simp only [s_for, s_lc, qiRng1, qiRng2, qiVal, brL_t, brL_f, qNext, qBreak, qCont, qDrop, qRet, qRetN, s_if, qgName, qgNil, qgCons, qgTup, qgSub, qAsg, qPar, qVar, qC, qOp, qUn, qTest, s_and, s_or, qNot, s_andV, s_orV, qNotV, s_ifE, qNil, qCons, qTup, qLst, qCB, qBM, qSl, qNoPart, qPart, qNeg, qAdd, qLt, qEq, qDNew, qFld, qFldS, qCall, qMeth, qMake, qRaise, qTry, qLRng, qYes, brS_t, brS_f, brW_t, brW_f, brA_t, brA_f, brO_t, brO_f, brAV_t, brAV_f, brOV_t, brOV_f, brI_t, brI_f, s_wipe0, s_wipeS, slot_0, slot_s, set_0, set_s, ln0, ln1, ln2, ln3, ln4, ln5, s_len_t, s_list_t, s_tup_t, s_int_i, s_int_b, s_min2, s_max2, s_min3, s_str, s_ty_s, s_le, s_gt, s_ge, s_sub, s_mul, s_mod, s_fdiv, s_pow, dE_nx, dE_rt, dE_ex, true_and, Bool.not_true, Bool.not_false, decide_true, if_true, if_false, Bool.false_eq_true])
  refine ⟨h, g, rfl, by omega, by omega, dh, ⟨_, _, rfl, ?_⟩⟩
  rw [far_comm h g, decide_eq_true rfl]
  (try simp only [s_for, s_lc, qiRng1, qiRng2, qiVal, brL_t, brL_f, qNext, qBreak, qCont, qDrop, qRet, qRetN, s_if, qgName, qgNil, qgCons, qgTup, qgSub, qAsg, qPar, qVar, qC, qOp, qUn, qTest, s_and, s_or, qNot, s_andV, s_orV, qNotV, s_ifE, qNil, qCons, qTup, qLst, qCB, qBM, qSl, qNoPart, qPart, qNeg, qAdd, qLt, qEq, qDNew, qFld, qFldS, qCall, qMeth, qMake, qRaise, qTry, qLRng, qYes, brS_t, brS_f, brW_t, brW_f, brA_t, brA_f, brO_t, brO_f, brAV_t, brAV_f, brOV_t, brOV_f, brI_t, brI_f, s_wipe0, s_wipeS, slot_0, slot_s, set_0, set_s, ln0, ln1, ln2, ln3, ln4, ln5, s_len_t, s_list_t, s_tup_t, s_int_i, s_int_b, s_min2, s_max2, s_min3, s_str, s_ty_s, s_le, s_gt, s_ge, s_sub, s_mul, s_mod, s_fdiv, s_pow, dE_nx, dE_rt, dE_ex, true_and, Bool.not_true, Bool.not_false, decide_true, if_true, if_false, Bool.false_eq_true])
  refine q1.nx _ _ ?_
  (try simp only [s_for, s_lc, qiRng1, qiRng2, qiVal, brL_t, brL_f, qNext, qBreak, qCont, qDrop, qRet, qRetN, s_if, qgName, qgNil, qgCons, qgTup, qgSub, qAsg, qPar, qVar, qC, qOp, qUn, qTest, s_and, s_or, qNot, s_andV, s_orV, qNotV, s_ifE, qNil, qCons, qTup, qLst, qCB, qBM, qSl, qNoPart, qPart, qNeg, qAdd, qLt, qEq, qDNew, qFld, qFldS, qCall, qMeth, qMake, qRaise, qTry, qLRng, qYes, brS_t, brS_f, brW_t, brW_f, brA_t, brA_f, brO_t, brO_f, brAV_t, brAV_f, brOV_t, brOV_f, brI_t, brI_f, s_wipe0, s_wipeS, slot_0, slot_s, set_0, set_s, ln0, ln1, ln2, ln3, ln4, ln5, s_len_t, s_list_t, s_tup_t, s_int_i, s_int_b, s_min2, s_max2, s_min3, s_str, s_ty_s, s_le, s_gt, s_ge, s_sub, s_mul, s_mod, s_fdiv, s_pow, dE_nx, dE_rt, dE_ex, true_and, Bool.not_true, Bool.not_false, decide_true, if_true, if_false, Bool.false_eq_true])
  refine ⟨g, g, rfl, by omega, by omega, dg, ⟨_, _, rfl, ?_⟩⟩
  rw [far_self, show decide (((0 : Nat) : Int) = 0) = true from by decide]
  (try simp only [s_for, s_lc, qiRng1, qiRng2, qiVal, brL_t, brL_f, qNext, qBreak, qCont, qDrop, qRet, qRetN, s_if, qgName, qgNil, qgCons, qgTup, qgSub, qAsg, qPar, qVar, qC, qOp, qUn, qTest, s_and, s_or, qNot, s_andV, s_orV, qNotV, s_ifE, qNil, qCons, qTup, qLst, qCB, qBM, qSl, qNoPart, qPart, qNeg, qAdd, qLt, qEq, qDNew, qFld, qFldS, qCall, qMeth, qMake, qRaise, qTry, qLRng, qYes, brS_t, brS_f, brW_t, brW_f, brA_t, brA_f, brO_t, brO_f, brAV_t, brAV_f, brOV_t, brOV_f, brI_t, brI_f, s_wipe0, s_wipeS, slot_0, slot_s, set_0, set_s, ln0, ln1, ln2, ln3, ln4, ln5, s_len_t, s_list_t, s_tup_t, s_int_i, s_int_b, s_min2, s_max2, s_min3, s_str, s_ty_s, s_le, s_gt, s_ge, s_sub, s_mul, s_mod, s_fdiv, s_pow, dE_nx, dE_rt, dE_ex, true_and, Bool.not_true, Bool.not_false, decide_true, if_true, if_false, Bool.false_eq_true])
  refine ⟨g, h, rfl, by omega, by omega, dg, ⟨_, _, rfl, ?_⟩⟩
  rw [decide_eq_true rfl]
  exact wk_of (Le.refl _) (q _)
theorem txi_at {ws : List Str} {i : Nat} (h : i < ws.length) : (txts ws)[i]? = some (.str ws[i]) := by
  unfold txts
  rw [List.getElem?_map, List.getElem?_eq_getElem h]
  rfl
theorem kept_nil (g h : Gr) : KeptOk g h [] := ⟨fun _ h => absurd h (by simp), by simp⟩
theorem r_law : ∀ ds P Q E, sp_law ds P Q E → t_law (dEnds Q E) (startD n_law ds) P := by
  rintro ds P Q E ⟨a, ns, rfl, ha, q⟩
  rw [st_law]
  unfold t_law
  refine seq_intro fun D1 q1 => ?_
  (try simp only [s_for, s_lc, qiRng1, qiRng2, qiVal, brL_t, brL_f, qNext, qBreak, qCont, qDrop, qRet, qRetN, s_if, qgName, qgNil, qgCons, qgTup, qgSub, qAsg, qPar, qVar, qC, qOp, qUn, qTest, s_and, s_or, qNot, s_andV, s_orV, qNotV, s_ifE, qNil, qCons, qTup, qLst, qCB, qBM, qSl, qNoPart, qPart, qNeg, qAdd, qLt, qEq, qDNew, qFld, qFldS, qCall, qMeth, qMake, qRaise, qTry, qLRng, qYes, brS_t, brS_f, brW_t, brW_f, brA_t, brA_f, brO_t, brO_f, brAV_t, brAV_f, brOV_t, brOV_f, brI_t, brI_f, s_wipe0, s_wipeS, slot_0, slot_s, set_0, set_s, ln0, ln1, ln2, ln3, ln4, ln5, s_len_t, s_list_t, s_tup_t, s_int_i, s_int_b, s_min2, s_max2, s_min3, s_str, s_ty_s, s_le, s_gt, s_ge, s_sub, s_mul, s_mod, s_fdiv, s_pow, dE_nx, dE_rt, dE_ex, true_and, Bool.not_true, Bool.not_false, decide_true, if_true, if_false, Bool.false_eq_true])
  refine ⟨a, ns, 0, rfl, .inr ha, by omega, fun c1 => ?_⟩
  refine q1.nx _ _ (seq_intro fun D2 q2 => ?_)
  (try simp only [s_for, s_lc, qiRng1, qiRng2, qiVal, brL_t, brL_f, qNext, qBreak, qCont, qDrop, qRet, qRetN, s_if, qgName, qgNil, qgCons, qgTup, qgSub, qAsg, qPar, qVar, qC, qOp, qUn, qTest, s_and, s_or, qNot, s_andV, s_orV, qNotV, s_ifE, qNil, qCons, qTup, qLst, qCB, qBM, qSl, qNoPart, qPart, qNeg, qAdd, qLt, qEq, qDNew, qFld, qFldS, qCall, qMeth, qMake, qRaise, qTry, qLRng, qYes, brS_t, brS_f, brW_t, brW_f, brA_t, brA_f, brO_t, brO_f, brAV_t, brAV_f, brOV_t, brOV_f, brI_t, brI_f, s_wipe0, s_wipeS, slot_0, slot_s, set_0, set_s, ln0, ln1, ln2, ln3, ln4, ln5, s_len_t, s_list_t, s_tup_t, s_int_i, s_int_b, s_min2, s_max2, s_min3, s_str, s_ty_s, s_le, s_gt, s_ge, s_sub, s_mul, s_mod, s_fdiv, s_pow, dE_nx, dE_rt, dE_ex, true_and, Bool.not_true, Bool.not_false, decide_true, if_true, if_false, Bool.false_eq_true])
  refine ⟨a, ns, 1, rfl, .inr ha, by omega, fun c2 => ?_⟩
  refine q2.nx _ _ (seq_intro fun D3 q3 => ?_)
  (try simp only [s_for, s_lc, qiRng1, qiRng2, qiVal, brL_t, brL_f, qNext, qBreak, qCont, qDrop, qRet, qRetN, s_if, qgName, qgNil, qgCons, qgTup, qgSub, qAsg, qPar, qVar, qC, qOp, qUn, qTest, s_and, s_or, qNot, s_andV, s_orV, qNotV, s_ifE, qNil, qCons, qTup, qLst, qCB, qBM, qSl, qNoPart, qPart, qNeg, qAdd, qLt, qEq, qDNew, qFld, qFldS, qCall, qMeth, qMake, qRaise, qTry, qLRng, qYes, brS_t, brS_f, brW_t, brW_f, brA_t, brA_f, brO_t, brO_f, brAV_t, brAV_f, brOV_t, brOV_f, brI_t, brI_f, s_wipe0, s_wipeS, slot_0, slot_s, set_0, set_s, ln0, ln1, ln2, ln3, ln4, ln5, s_len_t, s_list_t, s_tup_t, s_int_i, s_int_b, s_min2, s_max2, s_min3, s_str, s_ty_s, s_le, s_gt, s_ge, s_sub, s_mul, s_mod, s_fdiv, s_pow, dE_nx, dE_rt, dE_ex, true_and, Bool.not_true, Bool.not_false, decide_true, if_true, if_false, Bool.false_eq_true])
  refine ⟨a, ns, 2, rfl, .inr ha, by omega, fun c3 => ?_⟩
  refine ⟨c3, 4, rfl, by decide, by decide, fun tl ws htl hwl hwo => ?_⟩
  have hat : a ≠ tl := fun e => by rw [e, htl] at ha; cases ha
  have ha2 : up P tl (.lst (txts ws)) a = some (.lsr (ns.map D.int)) := by rw [up_ne hat]; exact ha
  have ht2 : up P tl (.lst (txts ws)) tl = some (.lst (txts ws)) := up_same
  generalize hP1 : up P tl (.lst (txts ws)) = P1 at ha2 ht2
  refine q3.nx _ _ (seq_intro fun D4 q4 => ?_)
  have fin : ∀ {P2 : PH} {g h : Gr} {x5 x8 x9 : Option PL.D}, g.size ≤ 50 → h.size ≤ 50 → g.dep < 45 → h.dep < 45 →
      D4.nx [some (.ref a), some (.int c1), some (.int c2), some (.ref tl), some (.tup (gD g)), x5, some (.tup (gD h)), some (.int (far g h : Nat)), x8, x9] P2 :=
    fun h1 h2 h3 h4 => q4.nx _ _ (tail_ok h1 h2 h3 h4 q)
  (try simp only [s_for, s_lc, qiRng1, qiRng2, qiVal, brL_t, brL_f, qNext, qBreak, qCont, qDrop, qRet, qRetN, s_if, qgName, qgNil, qgCons, qgTup, qgSub, qAsg, qPar, qVar, qC, qOp, qUn, qTest, s_and, s_or, qNot, s_andV, s_orV, qNotV, s_ifE, qNil, qCons, qTup, qLst, qCB, qBM, qSl, qNoPart, qPart, qNeg, qAdd, qLt, qEq, qDNew, qFld, qFldS, qCall, qMeth, qMake, qRaise, qTry, qLRng, qYes, brS_t, brS_f, brW_t, brW_f, brA_t, brA_f, brO_t, brO_f, brAV_t, brAV_f, brOV_t, brOV_f, brI_t, brI_f, s_wipe0, s_wipeS, slot_0, slot_s, set_0, set_s, ln0, ln1, ln2, ln3, ln4, ln5, s_len_t, s_list_t, s_tup_t, s_int_i, s_int_b, s_min2, s_max2, s_min3, s_str, s_ty_s, s_le, s_gt, s_ge, s_sub, s_mul, s_mod, s_fdiv, s_pow, dE_nx, dE_rt, dE_ex, true_and, Bool.not_true, Bool.not_false, decide_true, if_true, if_false, Bool.false_eq_true])
  refine ⟨by decide, i_if (fun e => ?_) fun e => ?_⟩
  · refine seq_intro fun D5 q5 => ?_
    (try simp only [s_for, s_lc, qiRng1, qiRng2, qiVal, brL_t, brL_f, qNext, qBreak, qCont, qDrop, qRet, qRetN, s_if, qgName, qgNil, qgCons, qgTup, qgSub, qAsg, qPar, qVar, qC, qOp, qUn, qTest, s_and, s_or, qNot, s_andV, s_orV, qNotV, s_ifE, qNil, qCons, qTup, qLst, qCB, qBM, qSl, qNoPart, qPart, qNeg, qAdd, qLt, qEq, qDNew, qFld, qFldS, qCall, qMeth, qMake, qRaise, qTry, qLRng, qYes, brS_t, brS_f, brW_t, brW_f, brA_t, brA_f, brO_t, brO_f, brAV_t, brAV_f, brOV_t, brOV_f, brI_t, brI_f, s_wipe0, s_wipeS, slot_0, slot_s, set_0, set_s, ln0, ln1, ln2, ln3, ln4, ln5, s_len_t, s_list_t, s_tup_t, s_int_i, s_int_b, s_min2, s_max2, s_min3, s_str, s_ty_s, s_le, s_gt, s_ge, s_sub, s_mul, s_mod, s_fdiv, s_pow, dE_nx, dE_rt, dE_ex, true_and, Bool.not_true, Bool.not_false, decide_true, if_true, if_false, Bool.false_eq_true])
    refine ⟨by unfold CDiv; decide, by decide, by omega, ?_⟩
    have comp : ∀ {P2 : PH} {i : Nat} {s4 s5 s6 s7 s8 s9 : Option PL.D} {K : PL.D → PH → Prop} {b0 b1 b2 : Int}, Le P1 P2 → 0 ≤ b0 → 0 < b1 → 0 < b2 → b2 + i < 1000 → (∀ y P5, Le P2 P5 → (∃ w, y = .tup [.str w, .tup []]) → K y P5) →
        (qTup (qCons (qOp qIx (qVar 3) (qOp qMod (qOp qFdiv (qCall sp__law_cell_at (qCons (qVar 0) (qCons (qOp qAdd (qC (.int b0)) (qOp qMod (qVar 5) (qC (.int b1)))) qNil))) (qOp qAdd (qC (.int b2)) (qVar 5))) (qC (.int 4)))) (qCons (qTup qNil) qNil)))
          [some (.ref a), some (.int c1), some (.int c2), some (.ref tl), s4, some (.int (0 + (i : Int))), s6, s7, s8, s9] P2 K X0 := by
      intro P2 i s4 s5 s6 s7 s8 s9 K b0 b1 b2 le h0 h1 h2 h3 hK
      (try simp only [s_for, s_lc, qiRng1, qiRng2, qiVal, brL_t, brL_f, qNext, qBreak, qCont, qDrop, qRet, qRetN, s_if, qgName, qgNil, qgCons, qgTup, qgSub, qAsg, qPar, qVar, qC, qOp, qUn, qTest, s_and, s_or, qNot, s_andV, s_orV, qNotV, s_ifE, qNil, qCons, qTup, qLst, qCB, qBM, qSl, qNoPart, qPart, qNeg, qAdd, qLt, qEq, qDNew, qFld, qFldS, qCall, qMeth, qMake, qRaise, qTry, qLRng, qYes, brS_t, brS_f, brW_t, brW_f, brA_t, brA_f, brO_t, brO_f, brAV_t, brAV_f, brOV_t, brOV_f, brI_t, brI_f, s_wipe0, s_wipeS, slot_0, slot_s, set_0, set_s, ln0, ln1, ln2, ln3, ln4, ln5, s_len_t, s_list_t, s_tup_t, s_int_i, s_int_b, s_min2, s_max2, s_min3, s_str, s_ty_s, s_le, s_gt, s_ge, s_sub, s_mul, s_mod, s_fdiv, s_pow, dE_nx, dE_rt, dE_ex, true_and, Bool.not_true, Bool.not_false, decide_true, if_true, if_false, Bool.false_eq_true])
      refine ⟨h1, a, ns, _, rfl, .inr (le _ _ ha2), ?_, fun c => ?_⟩
      · have := Int.emod_nonneg (0 + (i : Int)) (b := b1) (by omega)
        omega
      (try simp only [s_for, s_lc, qiRng1, qiRng2, qiVal, brL_t, brL_f, qNext, qBreak, qCont, qDrop, qRet, qRetN, s_if, qgName, qgNil, qgCons, qgTup, qgSub, qAsg, qPar, qVar, qC, qOp, qUn, qTest, s_and, s_or, qNot, s_andV, s_orV, qNotV, s_ifE, qNil, qCons, qTup, qLst, qCB, qBM, qSl, qNoPart, qPart, qNeg, qAdd, qLt, qEq, qDNew, qFld, qFldS, qCall, qMeth, qMake, qRaise, qTry, qLRng, qYes, brS_t, brS_f, brW_t, brW_f, brA_t, brA_f, brO_t, brO_f, brAV_t, brAV_f, brOV_t, brOV_f, brI_t, brI_f, s_wipe0, s_wipeS, slot_0, slot_s, set_0, set_s, ln0, ln1, ln2, ln3, ln4, ln5, s_len_t, s_list_t, s_tup_t, s_int_i, s_int_b, s_min2, s_max2, s_min3, s_str, s_ty_s, s_le, s_gt, s_ge, s_sub, s_mul, s_mod, s_fdiv, s_pow, dE_nx, dE_rt, dE_ex, true_and, Bool.not_true, Bool.not_false, decide_true, if_true, if_false, Bool.false_eq_true])
      refine ⟨by unfold CDiv; omega, by decide, ?_⟩
      obtain ⟨j, hj⟩ := Int.eq_ofNat_of_zero_le (a := c / (b2 + (0 + (i : Int))) % 4) (by omega)
      have hj4 : j < ws.length := by omega
      rw [hj]
      refine i_ix (.inl (le _ _ ht2)) (at_nat (txi_at hj4)) ?_
      (try simp only [s_for, s_lc, qiRng1, qiRng2, qiVal, brL_t, brL_f, qNext, qBreak, qCont, qDrop, qRet, qRetN, s_if, qgName, qgNil, qgCons, qgTup, qgSub, qAsg, qPar, qVar, qC, qOp, qUn, qTest, s_and, s_or, qNot, s_andV, s_orV, qNotV, s_ifE, qNil, qCons, qTup, qLst, qCB, qBM, qSl, qNoPart, qPart, qNeg, qAdd, qLt, qEq, qDNew, qFld, qFldS, qCall, qMeth, qMake, qRaise, qTry, qLRng, qYes, brS_t, brS_f, brW_t, brW_f, brA_t, brA_f, brO_t, brO_f, brAV_t, brAV_f, brOV_t, brOV_f, brI_t, brI_f, s_wipe0, s_wipeS, slot_0, slot_s, set_0, set_s, ln0, ln1, ln2, ln3, ln4, ln5, s_len_t, s_list_t, s_tup_t, s_int_i, s_int_b, s_min2, s_max2, s_min3, s_str, s_ty_s, s_le, s_gt, s_ge, s_sub, s_mul, s_mod, s_fdiv, s_pow, dE_nx, dE_rt, dE_ex, true_and, Bool.not_true, Bool.not_false, decide_true, if_true, if_false, Bool.false_eq_true])
      exact hK _ _ (Le.refl _) ⟨_, rfl⟩
    refine lc_any (fun _ _ y => ∃ w, y = .tup [.str w, .tup []]) (by rw [rgD_length]; omega) (fun _ _ => trivial) ?_ ?_
    · intro i x P2 K hx hP hK
      have hi : i < (c1 / 9 % 41).toNat := by
        have := (List.getElem?_eq_some_iff.mp hx).1
        rw [rgD_length] at this
        omega
      rw [rgD_get hi] at hx
      cases hx
      show qTup _ [some (.ref a), some (.int c1), some (.int c2), some (.ref tl), none, some (.int (0 + (i : Int))), none, none, none, none] P2 K X0
      exact comp (s5 := none) hP (by decide) (by decide) (by decide) (by omega) hK
    intro l1 ys1 hl1 hlen1 hC1
    obtain ⟨ws1, rfl⟩ := flat_list (ys := ys1) fun y hy => by
      obtain ⟨j, hj, rfl⟩ := List.getElem_of_mem hy
      exact hC1 j ((rgD 0 (c1 / 9 % 41).toNat)[j]'(by omega)) _ (List.getElem?_eq_getElem _) (List.getElem?_eq_getElem hj)
    rw [flat_len, rgD_length] at hlen1
    refine i_tuple (.inl up_same) ?_
    refine q5.nx _ _ (seq_intro fun D6 q6 => ?_)
    (try simp only [s_for, s_lc, qiRng1, qiRng2, qiVal, brL_t, brL_f, qNext, qBreak, qCont, qDrop, qRet, qRetN, s_if, qgName, qgNil, qgCons, qgTup, qgSub, qAsg, qPar, qVar, qC, qOp, qUn, qTest, s_and, s_or, qNot, s_andV, s_orV, qNotV, s_ifE, qNil, qCons, qTup, qLst, qCB, qBM, qSl, qNoPart, qPart, qNeg, qAdd, qLt, qEq, qDNew, qFld, qFldS, qCall, qMeth, qMake, qRaise, qTry, qLRng, qYes, brS_t, brS_f, brW_t, brW_f, brA_t, brA_f, brO_t, brO_f, brAV_t, brAV_f, brOV_t, brOV_f, brI_t, brI_f, s_wipe0, s_wipeS, slot_0, slot_s, set_0, set_s, ln0, ln1, ln2, ln3, ln4, ln5, s_len_t, s_list_t, s_tup_t, s_int_i, s_int_b, s_min2, s_max2, s_min3, s_str, s_ty_s, s_le, s_gt, s_ge, s_sub, s_mul, s_mod, s_fdiv, s_pow, dE_nx, dE_rt, dE_ex, true_and, Bool.not_true, Bool.not_false, decide_true, if_true, if_false, Bool.false_eq_true])
    have le1 : Le P1 (up P1 l1 (.lst (gD (flat ws1)))) := Le.new hl1
    refine ⟨by decide, by omega, ?_⟩
    refine lc_any (fun _ _ y => ∃ w, y = .tup [.str w, .tup []]) (by rw [rgD_length]; omega) (fun _ _ => trivial) ?_ ?_
    · intro i x P2 K hx hP hK
      have hi : i < (c2 % 41).toNat := by
        have := (List.getElem?_eq_some_iff.mp hx).1
        rw [rgD_length] at this
        omega
      rw [rgD_get hi] at hx
      cases hx
      show qTup _ [some (.ref a), some (.int c1), some (.int c2), some (.ref tl), some (.tup (gD (flat ws1))), some (.int (0 + (i : Int))), none, none, none, none] P2 K X0
      exact comp (s5 := none) (le1.trans hP) (by decide) (by decide) (by decide) (by omega) hK
    intro l2 ys2 hl2 hlen2 hC2
    obtain ⟨ws2, rfl⟩ := flat_list (ys := ys2) fun y hy => by
      obtain ⟨j, hj, rfl⟩ := List.getElem_of_mem hy
      exact hC2 j ((rgD 0 (c2 % 41).toNat)[j]'(by omega)) _ (List.getElem?_eq_getElem _) (List.getElem?_eq_getElem hj)
    rw [flat_len, rgD_length] at hlen2
    refine i_tuple (.inl up_same) ?_
    refine q6.nx _ _ ?_
    (try simp only [s_for, s_lc, qiRng1, qiRng2, qiVal, brL_t, brL_f, qNext, qBreak, qCont, qDrop, qRet, qRetN, s_if, qgName, qgNil, qgCons, qgTup, qgSub, qAsg, qPar, qVar, qC, qOp, qUn, qTest, s_and, s_or, qNot, s_andV, s_orV, qNotV, s_ifE, qNil, qCons, qTup, qLst, qCB, qBM, qSl, qNoPart, qPart, qNeg, qAdd, qLt, qEq, qDNew, qFld, qFldS, qCall, qMeth, qMake, qRaise, qTry, qLRng, qYes, brS_t, brS_f, brW_t, brW_f, brA_t, brA_f, brO_t, brO_f, brAV_t, brAV_f, brOV_t, brOV_f, brI_t, brI_f, s_wipe0, s_wipeS, slot_0, slot_s, set_0, set_s, ln0, ln1, ln2, ln3, ln4, ln5, s_len_t, s_list_t, s_tup_t, s_int_i, s_int_b, s_min2, s_max2, s_min3, s_str, s_ty_s, s_le, s_gt, s_ge, s_sub, s_mul, s_mod, s_fdiv, s_pow, dE_nx, dE_rt, dE_ex, true_and, Bool.not_true, Bool.not_false, decide_true, if_true, if_false, Bool.false_eq_true])
    have tagsOf : ∀ {P2 : PH} {zs : List Str} {i : Nat} {x : PL.D} {K : PL.D → PH → Prop} {s0 s1 s2 s3 s4 s5 s6 s7 : Option PL.D}, (gD (flat zs))[i]? = some x → (∀ y P5, Le P2 P5 → (∃ w, zs[i]? = some w ∧ y = .str w) → K y P5) →
        qgTup 2 (qgCons (qgName 8) (qgCons (qgName 9) qgNil)) x [s0, s1, s2, s3, s4, s5, s6, s7, none, none] P2 fun σ3 P3 => qVar 8 σ3 P3 K X0 := by
      intro P2 zs i x K s0 s1 s2 s3 s4 s5 s6 s7 hx hK
      obtain ⟨w, hw, rfl⟩ := flat_at hx
      (try simp only [s_for, s_lc, qiRng1, qiRng2, qiVal, brL_t, brL_f, qNext, qBreak, qCont, qDrop, qRet, qRetN, s_if, qgName, qgNil, qgCons, qgTup, qgSub, qAsg, qPar, qVar, qC, qOp, qUn, qTest, s_and, s_or, qNot, s_andV, s_orV, qNotV, s_ifE, qNil, qCons, qTup, qLst, qCB, qBM, qSl, qNoPart, qPart, qNeg, qAdd, qLt, qEq, qDNew, qFld, qFldS, qCall, qMeth, qMake, qRaise, qTry, qLRng, qYes, brS_t, brS_f, brW_t, brW_f, brA_t, brA_f, brO_t, brO_f, brAV_t, brAV_f, brOV_t, brOV_f, brI_t, brI_f, s_wipe0, s_wipeS, slot_0, slot_s, set_0, set_s, ln0, ln1, ln2, ln3, ln4, ln5, s_len_t, s_list_t, s_tup_t, s_int_i, s_int_b, s_min2, s_max2, s_min3, s_str, s_ty_s, s_le, s_gt, s_ge, s_sub, s_mul, s_mod, s_fdiv, s_pow, dE_nx, dE_rt, dE_ex, true_and, Bool.not_true, Bool.not_false, decide_true, if_true, if_false, Bool.false_eq_true])
      exact ⟨rfl, hK _ _ (Le.refl _) ⟨w, hw, rfl⟩⟩
    have listOf : ∀ {zs : List Str} {ys : List PL.D}, ys.length = (gD (flat zs)).length → (∀ (i : Nat) x y, (gD (flat zs))[i]? = some x → ys[i]? = some y → ∃ w, zs[i]? = some w ∧ y = .str w) → ys = txts zs := by
      intro zs ys hl hC
      refine List.ext_getElem? fun i => ?_
      by_cases hi : i < ys.length
      · obtain ⟨w, e1, e2⟩ := hC i _ _ (List.getElem?_eq_getElem (by omega)) (List.getElem?_eq_getElem hi)
        rw [txts_at e1, List.getElem?_eq_getElem hi, e2]
      · rw [List.getElem?_eq_none (by omega), List.getElem?_eq_none (by rw [txf_len]; rw [flat_len] at hl; omega)]
    refine lc_any (fun i _ y => ∃ w, ws1[i]? = some w ∧ y = .str w) (by rw [flat_len]; omega) (fun _ _ => trivial) (fun i x P2 K hx hP hK => tagsOf hx hK) ?_
    intro l3 ys3 hl3 hlen3 hC3
    obtain rfl := listOf hlen3 hC3
    refine lc_any (fun i _ y => ∃ w, ws2[i]? = some w ∧ y = .str w) (by rw [flat_len]; omega) (fun _ _ => trivial) (fun i x P2 K hx hP hK => tagsOf hx hK) ?_
    intro l4 ys4 hl4 hlen4 hC4
    obtain rfl := listOf hlen4 hC4
    obtain ⟨hne, _⟩ := up_none.mp hl4
    refine ⟨l3, l4, ws1, ws2, rfl, .inl (by rw [up_ne hne.symm, up_same]), .inl up_same, by omega, by omega, ?_⟩
    have d1 := flat_dep ws1
    have d2 := flat_dep ws2
    have z1 := flat_size ws1
    have z2 := flat_size ws2
    have := fin (P2 := up (up (up (up P1 l1 (.lst (gD (flat ws1)))) l2 (.lst (gD (flat ws2)))) l3 (.lst (txts ws1))) l4 (.lst (txts ws2))) (g := flat ws1) (h := flat ws2) (x5 := none) (x8 := none) (x9 := none) (by omega) (by omega) (by omega) (by omega)
    rw [far_flat] at this
    exact this
  · have grv : ∀ {P2 : PH} {s m : Int} {Q2 : PL.D → PH → Prop} {E2 : PX}, Le P1 P2 → 0 ≤ s → 0 ≤ m → m ≤ 16 → (∀ g : Gr, (g.size : Int) = m → GrOk g → Q2 (.tup (gD g)) P2) → sp__law_grove [.ref a, .int s, .int m, .ref tl] P2 Q2 E2 :=
      fun {P2 s m Q2 E2} le h0 h1 h2 k => ⟨a, ns, s, m, tl, ws, rfl, .inr (le _ _ ha2), .inl (le _ _ ht2), h0, h1, by omega, by omega, by omega, hwo, k⟩
    refine seq_intro fun D5 q5 => ?_
    (try simp only [s_for, s_lc, qiRng1, qiRng2, qiVal, brL_t, brL_f, qNext, qBreak, qCont, qDrop, qRet, qRetN, s_if, qgName, qgNil, qgCons, qgTup, qgSub, qAsg, qPar, qVar, qC, qOp, qUn, qTest, s_and, s_or, qNot, s_andV, s_orV, qNotV, s_ifE, qNil, qCons, qTup, qLst, qCB, qBM, qSl, qNoPart, qPart, qNeg, qAdd, qLt, qEq, qDNew, qFld, qFldS, qCall, qMeth, qMake, qRaise, qTry, qLRng, qYes, brS_t, brS_f, brW_t, brW_f, brA_t, brA_f, brO_t, brO_f, brAV_t, brAV_f, brOV_t, brOV_f, brI_t, brI_f, s_wipe0, s_wipeS, slot_0, slot_s, set_0, set_s, ln0, ln1, ln2, ln3, ln4, ln5, s_len_t, s_list_t, s_tup_t, s_int_i, s_int_b, s_min2, s_max2, s_min3, s_str, s_ty_s, s_le, s_gt, s_ge, s_sub, s_mul, s_mod, s_fdiv, s_pow, dE_nx, dE_rt, dE_ex, true_and, Bool.not_true, Bool.not_false, decide_true, if_true, if_false, Bool.false_eq_true])
    refine ⟨by unfold CDiv; decide, by decide, grv (Le.refl _) (by omega) (by omega) (by omega) fun g1 hg1 og1 => ?_⟩
    refine q5.nx _ _ (seq_intro fun D6 q6 => ?_)
    (try simp only [s_for, s_lc, qiRng1, qiRng2, qiVal, brL_t, brL_f, qNext, qBreak, qCont, qDrop, qRet, qRetN, s_if, qgName, qgNil, qgCons, qgTup, qgSub, qAsg, qPar, qVar, qC, qOp, qUn, qTest, s_and, s_or, qNot, s_andV, s_orV, qNotV, s_ifE, qNil, qCons, qTup, qLst, qCB, qBM, qSl, qNoPart, qPart, qNeg, qAdd, qLt, qEq, qDNew, qFld, qFldS, qCall, qMeth, qMake, qRaise, qTry, qLRng, qYes, brS_t, brS_f, brW_t, brW_f, brA_t, brA_f, brO_t, brO_f, brAV_t, brAV_f, brOV_t, brOV_f, brI_t, brI_f, s_wipe0, s_wipeS, slot_0, slot_s, set_0, set_s, ln0, ln1, ln2, ln3, ln4, ln5, s_len_t, s_list_t, s_tup_t, s_int_i, s_int_b, s_min2, s_max2, s_min3, s_str, s_ty_s, s_le, s_gt, s_ge, s_sub, s_mul, s_mod, s_fdiv, s_pow, dE_nx, dE_rt, dE_ex, true_and, Bool.not_true, Bool.not_false, decide_true, if_true, if_false, Bool.false_eq_true])
    refine ⟨by decide, grv (Le.refl _) (by omega) (by omega) (by omega) fun g2 hg2 og2 => ?_⟩
    refine q6.nx _ _ (seq_intro fun D7 q7 => ?_)
    -- the last two statements
    have last : ∀ {g h : Gr} {x5 x8 x9 : Option PL.D}, GrOk g → GrOk h → g.size ≤ 20 → h.size ≤ 20 →
        qAsg (qCall (sp__law_far 45) (qCons qDNew (qCons (qVar 4) (qCons (qVar 6) qNil)))) (qgName 7) D4 [some (.ref a), some (.int c1), some (.int c2), some (.ref tl), some (.tup (gD g)), x5, some (.tup (gD h)), none, x8, x9] P1 := by
      intro g h x5 x8 x9 og oh zg zh
      have d1 := dep_le g
      have d2 := dep_le h
      (try simp only [s_for, s_lc, qiRng1, qiRng2, qiVal, brL_t, brL_f, qNext, qBreak, qCont, qDrop, qRet, qRetN, s_if, qgName, qgNil, qgCons, qgTup, qgSub, qAsg, qPar, qVar, qC, qOp, qUn, qTest, s_and, s_or, qNot, s_andV, s_orV, qNotV, s_ifE, qNil, qCons, qTup, qLst, qCB, qBM, qSl, qNoPart, qPart, qNeg, qAdd, qLt, qEq, qDNew, qFld, qFldS, qCall, qMeth, qMake, qRaise, qTry, qLRng, qYes, brS_t, brS_f, brW_t, brW_f, brA_t, brA_f, brO_t, brO_f, brAV_t, brAV_f, brOV_t, brOV_f, brI_t, brI_f, s_wipe0, s_wipeS, slot_0, slot_s, set_0, set_s, ln0, ln1, ln2, ln3, ln4, ln5, s_len_t, s_list_t, s_tup_t, s_int_i, s_int_b, s_min2, s_max2, s_min3, s_str, s_ty_s, s_le, s_gt, s_ge, s_sub, s_mul, s_mod, s_fdiv, s_pow, dE_nx, dE_rt, dE_ex, true_and, Bool.not_true, Bool.not_false, decide_true, if_true, if_false, Bool.false_eq_true])
      intro p hp
      refine ⟨g, h, p, [], g, h, rfl, up_same, kept_nil g h, subs_self g, subs_self h, by omega, ⟨zg, zh, og, oh⟩, fun kvs' _ => ?_⟩
      exact fin (by omega) (by omega) (by omega) (by omega)
    -- .. behind the choice of greater groves
    have mid : ∀ {g h : Gr} , GrOk g → GrOk h → g.size ≤ 16 → h.size ≤ 16 → D7.nx [some (.ref a), some (.int c1), some (.int c2), some (.ref tl), some (.tup (gD g)), none, some (.tup (gD h)), none, none, none] P1 := by
      intro g h og oh zg zh
      refine q7.nx _ _ (seq_intro fun D8 q8 => ?_)
      (try simp only [s_for, s_lc, qiRng1, qiRng2, qiVal, brL_t, brL_f, qNext, qBreak, qCont, qDrop, qRet, qRetN, s_if, qgName, qgNil, qgCons, qgTup, qgSub, qAsg, qPar, qVar, qC, qOp, qUn, qTest, s_and, s_or, qNot, s_andV, s_orV, qNotV, s_ifE, qNil, qCons, qTup, qLst, qCB, qBM, qSl, qNoPart, qPart, qNeg, qAdd, qLt, qEq, qDNew, qFld, qFldS, qCall, qMeth, qMake, qRaise, qTry, qLRng, qYes, brS_t, brS_f, brW_t, brW_f, brA_t, brA_f, brO_t, brO_f, brAV_t, brAV_f, brOV_t, brOV_f, brI_t, brI_f, s_wipe0, s_wipeS, slot_0, slot_s, set_0, set_s, ln0, ln1, ln2, ln3, ln4, ln5, s_len_t, s_list_t, s_tup_t, s_int_i, s_int_b, s_min2, s_max2, s_min3, s_str, s_ty_s, s_le, s_gt, s_ge, s_sub, s_mul, s_mod, s_fdiv, s_pow, dE_nx, dE_rt, dE_ex, true_and, Bool.not_true, Bool.not_false, decide_true, if_true, if_false, Bool.false_eq_true])
      refine ⟨by decide, i_if (fun e2 => ?_) fun e2 => ?_⟩
      · (try simp only [s_for, s_lc, qiRng1, qiRng2, qiVal, brL_t, brL_f, qNext, qBreak, qCont, qDrop, qRet, qRetN, s_if, qgName, qgNil, qgCons, qgTup, qgSub, qAsg, qPar, qVar, qC, qOp, qUn, qTest, s_and, s_or, qNot, s_andV, s_orV, qNotV, s_ifE, qNil, qCons, qTup, qLst, qCB, qBM, qSl, qNoPart, qPart, qNeg, qAdd, qLt, qEq, qDNew, qFld, qFldS, qCall, qMeth, qMake, qRaise, qTry, qLRng, qYes, brS_t, brS_f, brW_t, brW_f, brA_t, brA_f, brO_t, brO_f, brAV_t, brAV_f, brOV_t, brOV_f, brI_t, brI_f, s_wipe0, s_wipeS, slot_0, slot_s, set_0, set_s, ln0, ln1, ln2, ln3, ln4, ln5, s_len_t, s_list_t, s_tup_t, s_int_i, s_int_b, s_min2, s_max2, s_min3, s_str, s_ty_s, s_le, s_gt, s_ge, s_sub, s_mul, s_mod, s_fdiv, s_pow, dE_nx, dE_rt, dE_ex, true_and, Bool.not_true, Bool.not_false, decide_true, if_true, if_false, Bool.false_eq_true])
        refine ⟨g, c2, tl, ws, rfl, by omega, og, .inl ht2, by omega, hwo, fun h2 z2 o2 => ?_⟩
        exact q8.nx _ _ (last og o2 (by omega) (by omega))
      · (try simp only [s_for, s_lc, qiRng1, qiRng2, qiVal, brL_t, brL_f, qNext, qBreak, qCont, qDrop, qRet, qRetN, s_if, qgName, qgNil, qgCons, qgTup, qgSub, qAsg, qPar, qVar, qC, qOp, qUn, qTest, s_and, s_or, qNot, s_andV, s_orV, qNotV, s_ifE, qNil, qCons, qTup, qLst, qCB, qBM, qSl, qNoPart, qPart, qNeg, qAdd, qLt, qEq, qDNew, qFld, qFldS, qCall, qMeth, qMake, qRaise, qTry, qLRng, qYes, brS_t, brS_f, brW_t, brW_f, brA_t, brA_f, brO_t, brO_f, brAV_t, brAV_f, brOV_t, brOV_f, brI_t, brI_f, s_wipe0, s_wipeS, slot_0, slot_s, set_0, set_s, ln0, ln1, ln2, ln3, ln4, ln5, s_len_t, s_list_t, s_tup_t, s_int_i, s_int_b, s_min2, s_max2, s_min3, s_str, s_ty_s, s_le, s_gt, s_ge, s_sub, s_mul, s_mod, s_fdiv, s_pow, dE_nx, dE_rt, dE_ex, true_and, Bool.not_true, Bool.not_false, decide_true, if_true, if_false, Bool.false_eq_true])
        exact q8.nx _ _ (last og oh (by omega) (by omega))
    (try simp only [s_for, s_lc, qiRng1, qiRng2, qiVal, brL_t, brL_f, qNext, qBreak, qCont, qDrop, qRet, qRetN, s_if, qgName, qgNil, qgCons, qgTup, qgSub, qAsg, qPar, qVar, qC, qOp, qUn, qTest, s_and, s_or, qNot, s_andV, s_orV, qNotV, s_ifE, qNil, qCons, qTup, qLst, qCB, qBM, qSl, qNoPart, qPart, qNeg, qAdd, qLt, qEq, qDNew, qFld, qFldS, qCall, qMeth, qMake, qRaise, qTry, qLRng, qYes, brS_t, brS_f, brW_t, brW_f, brA_t, brA_f, brO_t, brO_f, brAV_t, brAV_f, brOV_t, brOV_f, brI_t, brI_f, s_wipe0, s_wipeS, slot_0, slot_s, set_0, set_s, ln0, ln1, ln2, ln3, ln4, ln5, s_len_t, s_list_t, s_tup_t, s_int_i, s_int_b, s_min2, s_max2, s_min3, s_str, s_ty_s, s_le, s_gt, s_ge, s_sub, s_mul, s_mod, s_fdiv, s_pow, dE_nx, dE_rt, dE_ex, true_and, Bool.not_true, Bool.not_false, decide_true, if_true, if_false, Bool.false_eq_true])
    refine ⟨by decide, i_if (fun e2 => ?_) fun e2 => ?_⟩
    · refine seq_intro fun D8 q8 => ?_
      (try simp only [s_for, s_lc, qiRng1, qiRng2, qiVal, brL_t, brL_f, qNext, qBreak, qCont, qDrop, qRet, qRetN, s_if, qgName, qgNil, qgCons, qgTup, qgSub, qAsg, qPar, qVar, qC, qOp, qUn, qTest, s_and, s_or, qNot, s_andV, s_orV, qNotV, s_ifE, qNil, qCons, qTup, qLst, qCB, qBM, qSl, qNoPart, qPart, qNeg, qAdd, qLt, qEq, qDNew, qFld, qFldS, qCall, qMeth, qMake, qRaise, qTry, qLRng, qYes, brS_t, brS_f, brW_t, brW_f, brA_t, brA_f, brO_t, brO_f, brAV_t, brAV_f, brOV_t, brOV_f, brI_t, brI_f, s_wipe0, s_wipeS, slot_0, slot_s, set_0, set_s, ln0, ln1, ln2, ln3, ln4, ln5, s_len_t, s_list_t, s_tup_t, s_int_i, s_int_b, s_min2, s_max2, s_min3, s_str, s_ty_s, s_le, s_gt, s_ge, s_sub, s_mul, s_mod, s_fdiv, s_pow, dE_nx, dE_rt, dE_ex, true_and, Bool.not_true, Bool.not_false, decide_true, if_true, if_false, Bool.false_eq_true])
      refine ⟨by unfold CDiv; decide, by decide, grv (Le.refl _) (by omega) (by omega) (by omega) fun g3 hg3 og3 => ?_⟩
      refine q8.nx _ _ ?_
      (try simp only [s_for, s_lc, qiRng1, qiRng2, qiVal, brL_t, brL_f, qNext, qBreak, qCont, qDrop, qRet, qRetN, s_if, qgName, qgNil, qgCons, qgTup, qgSub, qAsg, qPar, qVar, qC, qOp, qUn, qTest, s_and, s_or, qNot, s_andV, s_orV, qNotV, s_ifE, qNil, qCons, qTup, qLst, qCB, qBM, qSl, qNoPart, qPart, qNeg, qAdd, qLt, qEq, qDNew, qFld, qFldS, qCall, qMeth, qMake, qRaise, qTry, qLRng, qYes, brS_t, brS_f, brW_t, brW_f, brA_t, brA_f, brO_t, brO_f, brAV_t, brAV_f, brOV_t, brOV_f, brI_t, brI_f, s_wipe0, s_wipeS, slot_0, slot_s, set_0, set_s, ln0, ln1, ln2, ln3, ln4, ln5, s_len_t, s_list_t, s_tup_t, s_int_i, s_int_b, s_min2, s_max2, s_min3, s_str, s_ty_s, s_le, s_gt, s_ge, s_sub, s_mul, s_mod, s_fdiv, s_pow, dE_nx, dE_rt, dE_ex, true_and, Bool.not_true, Bool.not_false, decide_true, if_true, if_false, Bool.false_eq_true])
      refine ⟨by decide, grv (Le.refl _) (by omega) (by omega) (by omega) fun g4 hg4 og4 => ?_⟩
      exact mid og3 og4 (by omega) (by omega)
    · (try simp only [s_for, s_lc, qiRng1, qiRng2, qiVal, brL_t, brL_f, qNext, qBreak, qCont, qDrop, qRet, qRetN, s_if, qgName, qgNil, qgCons, qgTup, qgSub, qAsg, qPar, qVar, qC, qOp, qUn, qTest, s_and, s_or, qNot, s_andV, s_orV, qNotV, s_ifE, qNil, qCons, qTup, qLst, qCB, qBM, qSl, qNoPart, qPart, qNeg, qAdd, qLt, qEq, qDNew, qFld, qFldS, qCall, qMeth, qMake, qRaise, qTry, qLRng, qYes, brS_t, brS_f, brW_t, brW_f, brA_t, brA_f, brO_t, brO_f, brAV_t, brAV_f, brOV_t, brOV_f, brI_t, brI_f, s_wipe0, s_wipeS, slot_0, slot_s, set_0, set_s, ln0, ln1, ln2, ln3, ln4, ln5, s_len_t, s_list_t, s_tup_t, s_int_i, s_int_b, s_min2, s_max2, s_min3, s_str, s_ty_s, s_le, s_gt, s_ge, s_sub, s_mul, s_mod, s_fdiv, s_pow, dE_nx, dE_rt, dE_ex, true_and, Bool.not_true, Bool.not_false, decide_true, if_true, if_false, Bool.false_eq_true])
      exact mid og1 og2 (by omega) (by omega)
end K83
namespace K83
open PySem PySem.Spec L2 PL
theorem len_words_of : ∀ ds P Q E, sp_words_of ds P Q E → ds.length = 1 := by
  rintro ds P Q E h
  obtain ⟨_, rfl, _⟩ := h
  rfl
theorem len_size : ∀ ds P Q E, sp_size ds P Q E → ds.length = 1 := by
  rintro ds P Q E h
  obtain ⟨_, rfl, _⟩ := h
  rfl
theorem len_distance (n : Nat) : ∀ ds P Q E, (sp_distance n) ds P Q E → ds.length = 2 := by
  rintro ds P Q E h
  obtain ⟨_, _, rfl, _⟩ := h
  rfl
theorem len__law_cell_at : ∀ ds P Q E, sp__law_cell_at ds P Q E → ds.length = 2 := by
  rintro ds P Q E h
  obtain ⟨_, _, _, rfl, _⟩ := h
  rfl
theorem len__law_word : ∀ ds P Q E, sp__law_word ds P Q E → ds.length = 1 := by
  rintro ds P Q E h
  obtain ⟨_, rfl, _⟩ := h
  rfl
theorem len__law_pool : ∀ ds P Q E, sp__law_pool ds P Q E → ds.length = 2 := by
  rintro ds P Q E h
  obtain ⟨_, _, rfl, _⟩ := h
  rfl
theorem len__law_grove : ∀ ds P Q E, sp__law_grove ds P Q E → ds.length = 4 := by
  rintro ds P Q E h
  obtain ⟨_, _, _, _, _, _, rfl, _⟩ := h
  rfl
theorem len__law_size (n : Nat) : ∀ ds P Q E, (sp__law_size n) ds P Q E → ds.length = 1 := by
  rintro ds P Q E h
  obtain ⟨_, rfl, _⟩ := h
  rfl
theorem len__law_far (n : Nat) : ∀ ds P Q E, (sp__law_far n) ds P Q E → ds.length = 3 := by
  rintro ds P Q E h
  obtain ⟨_, _, _, _, _, _, rfl, _⟩ := h
  rfl
theorem len__law_flat_far : ∀ ds P Q E, sp__law_flat_far ds P Q E → ds.length = 2 := by
  rintro ds P Q E h
  obtain ⟨_, _, _, _, rfl, _⟩ := h
  rfl
theorem len__law_like : ∀ ds P Q E, sp__law_like ds P Q E → ds.length = 3 := by
  rintro ds P Q E h
  obtain ⟨_, _, _, _, rfl, _⟩ := h
  rfl
theorem len__law_is : ∀ ds P Q E, sp__law_is ds P Q E → ds.length = 2 := by
  rintro ds P Q E h
  obtain ⟨_, _, rfl, _⟩ := h
  rfl
theorem len_law : ∀ ds P Q E, sp_law ds P Q E → ds.length = 1 := by
  rintro ds P Q E h
  obtain ⟨_, _, rfl, _⟩ := h
  rfl
theorem all_mk {P : Program} {w : World} {K : PySem.W.Frag} {h : Heap} {mg : Str → Option Value} {fa : Addr} (X : K.In h) (G : h.Ns mainGlobals mg) (hfa : mg "law" = some (.ref fa))
    {od0 an0 : Option Addr} {sl0 : Array (Option Value)} {f0 : Addr} {oc0 kV0 dc0 pm0 cd0 ct0 : Value} (a0 : PySem.W.nsIn K mainGlobals "words_of" = some (some (.ref f0))) (l0 : K.lookup f0 = some ⟨oc0, od0, .func (PySem.W.fnOf "words_of" "words_of" (defArgs s_words_of) (defBody s_words_of) (defScope s_words_of) .none kV0 dc0 pm0 an0 cd0 ct0), sl0⟩) (c0 : PySem.W.codeIn K cd0 "words_of" = true) (k0 : PySem.W.keepIn K (.ref f0) = true)
    {od1 an1 : Option Addr} {sl1 : Array (Option Value)} {f1 : Addr} {oc1 kV1 dc1 pm1 cd1 ct1 : Value} (a1 : PySem.W.nsIn K mainGlobals "size" = some (some (.ref f1))) (l1 : K.lookup f1 = some ⟨oc1, od1, .func (PySem.W.fnOf "size" "size" (defArgs s_size) (defBody s_size) (defScope s_size) .none kV1 dc1 pm1 an1 cd1 ct1), sl1⟩) (c1 : PySem.W.codeIn K cd1 "size" = true) (k1 : PySem.W.keepIn K (.ref f1) = true)
    {od2 an2 : Option Addr} {sl2 : Array (Option Value)} {f2 : Addr} {oc2 kV2 dc2 pm2 cd2 ct2 : Value} (a2 : PySem.W.nsIn K mainGlobals "distance" = some (some (.ref f2))) (l2 : K.lookup f2 = some ⟨oc2, od2, .func (PySem.W.fnOf "distance" "distance" (defArgs s_distance) (defBody s_distance) (defScope s_distance) .none kV2 dc2 pm2 an2 cd2 ct2), sl2⟩) (c2 : PySem.W.codeIn K cd2 "distance" = true) (k2 : PySem.W.keepIn K (.ref f2) = true)
    {od3 an3 : Option Addr} {sl3 : Array (Option Value)} {f3 : Addr} {oc3 kV3 dc3 pm3 cd3 ct3 : Value} (a3 : PySem.W.nsIn K mainGlobals "_law_cell_at" = some (some (.ref f3))) (l3 : K.lookup f3 = some ⟨oc3, od3, .func (PySem.W.fnOf "_law_cell_at" "_law_cell_at" (defArgs s__law_cell_at) (defBody s__law_cell_at) (defScope s__law_cell_at) .none kV3 dc3 pm3 an3 cd3 ct3), sl3⟩) (c3 : PySem.W.codeIn K cd3 "_law_cell_at" = true) (k3 : PySem.W.keepIn K (.ref f3) = true)
    {od4 an4 : Option Addr} {sl4 : Array (Option Value)} {f4 : Addr} {oc4 kV4 dc4 pm4 cd4 ct4 : Value} (a4 : PySem.W.nsIn K mainGlobals "_law_word" = some (some (.ref f4))) (l4 : K.lookup f4 = some ⟨oc4, od4, .func (PySem.W.fnOf "_law_word" "_law_word" (defArgs s__law_word) (defBody s__law_word) (defScope s__law_word) .none kV4 dc4 pm4 an4 cd4 ct4), sl4⟩) (c4 : PySem.W.codeIn K cd4 "_law_word" = true) (k4 : PySem.W.keepIn K (.ref f4) = true)
    {od5 an5 : Option Addr} {sl5 : Array (Option Value)} {f5 : Addr} {oc5 kV5 dc5 pm5 cd5 ct5 : Value} (a5 : PySem.W.nsIn K mainGlobals "_law_pool" = some (some (.ref f5))) (l5 : K.lookup f5 = some ⟨oc5, od5, .func (PySem.W.fnOf "_law_pool" "_law_pool" (defArgs s__law_pool) (defBody s__law_pool) (defScope s__law_pool) .none kV5 dc5 pm5 an5 cd5 ct5), sl5⟩) (c5 : PySem.W.codeIn K cd5 "_law_pool" = true) (k5 : PySem.W.keepIn K (.ref f5) = true)
    {od6 an6 : Option Addr} {sl6 : Array (Option Value)} {f6 : Addr} {oc6 kV6 dc6 pm6 cd6 ct6 : Value} (a6 : PySem.W.nsIn K mainGlobals "_law_grove" = some (some (.ref f6))) (l6 : K.lookup f6 = some ⟨oc6, od6, .func (PySem.W.fnOf "_law_grove" "_law_grove" (defArgs s__law_grove) (defBody s__law_grove) (defScope s__law_grove) .none kV6 dc6 pm6 an6 cd6 ct6), sl6⟩) (c6 : PySem.W.codeIn K cd6 "_law_grove" = true) (k6 : PySem.W.keepIn K (.ref f6) = true)
    {od7 an7 : Option Addr} {sl7 : Array (Option Value)} {f7 : Addr} {oc7 kV7 dc7 pm7 cd7 ct7 : Value} (a7 : PySem.W.nsIn K mainGlobals "_law_size" = some (some (.ref f7))) (l7 : K.lookup f7 = some ⟨oc7, od7, .func (PySem.W.fnOf "_law_size" "_law_size" (defArgs s__law_size) (defBody s__law_size) (defScope s__law_size) .none kV7 dc7 pm7 an7 cd7 ct7), sl7⟩) (c7 : PySem.W.codeIn K cd7 "_law_size" = true) (k7 : PySem.W.keepIn K (.ref f7) = true)
    {od8 an8 : Option Addr} {sl8 : Array (Option Value)} {f8 : Addr} {oc8 kV8 dc8 pm8 cd8 ct8 : Value} (a8 : PySem.W.nsIn K mainGlobals "_law_far" = some (some (.ref f8))) (l8 : K.lookup f8 = some ⟨oc8, od8, .func (PySem.W.fnOf "_law_far" "_law_far" (defArgs s__law_far) (defBody s__law_far) (defScope s__law_far) .none kV8 dc8 pm8 an8 cd8 ct8), sl8⟩) (c8 : PySem.W.codeIn K cd8 "_law_far" = true) (k8 : PySem.W.keepIn K (.ref f8) = true)
    {od9 an9 : Option Addr} {sl9 : Array (Option Value)} {f9 : Addr} {oc9 kV9 dc9 pm9 cd9 ct9 : Value} (a9 : PySem.W.nsIn K mainGlobals "_law_flat_far" = some (some (.ref f9))) (l9 : K.lookup f9 = some ⟨oc9, od9, .func (PySem.W.fnOf "_law_flat_far" "_law_flat_far" (defArgs s__law_flat_far) (defBody s__law_flat_far) (defScope s__law_flat_far) .none kV9 dc9 pm9 an9 cd9 ct9), sl9⟩) (c9 : PySem.W.codeIn K cd9 "_law_flat_far" = true) (k9 : PySem.W.keepIn K (.ref f9) = true)
    {od10 an10 : Option Addr} {sl10 : Array (Option Value)} {f10 : Addr} {oc10 kV10 dc10 pm10 cd10 ct10 : Value} (a10 : PySem.W.nsIn K mainGlobals "_law_like" = some (some (.ref f10))) (l10 : K.lookup f10 = some ⟨oc10, od10, .func (PySem.W.fnOf "_law_like" "_law_like" (defArgs s__law_like) (defBody s__law_like) (defScope s__law_like) .none kV10 dc10 pm10 an10 cd10 ct10), sl10⟩) (c10 : PySem.W.codeIn K cd10 "_law_like" = true) (k10 : PySem.W.keepIn K (.ref f10) = true)
    {od11 an11 : Option Addr} {sl11 : Array (Option Value)} {f11 : Addr} {oc11 kV11 dc11 pm11 cd11 ct11 : Value} (a11 : PySem.W.nsIn K mainGlobals "_law_is" = some (some (.ref f11))) (l11 : K.lookup f11 = some ⟨oc11, od11, .func (PySem.W.fnOf "_law_is" "_law_is" (defArgs s__law_is) (defBody s__law_is) (defScope s__law_is) .none kV11 dc11 pm11 an11 cd11 ct11), sl11⟩) (c11 : PySem.W.codeIn K cd11 "_law_is" = true) (k11 : PySem.W.keepIn K (.ref f11) = true)
    {od12 an12 : Option Addr} {sl12 : Array (Option Value)} {f12 : Addr} {oc12 kV12 dc12 pm12 cd12 ct12 : Value} (a12 : PySem.W.nsIn K mainGlobals "law" = some (some (.ref f12))) (l12 : K.lookup f12 = some ⟨oc12, od12, .func (PySem.W.fnOf "law" "law" (defArgs s_law) (defBody s_law) (defScope s_law) .none kV12 dc12 pm12 an12 cd12 ct12), sl12⟩) (c12 : PySem.W.codeIn K cd12 "law" = true) (k12 : PySem.W.keepIn K (.ref f12) = true)
    {tE : Tok} (cE : PySem.W.nsIn K mainGlobals "END" = some (some (.str "/" tE)))
    (z_bool : PySem.W.nsIn K mainGlobals "bool" = some none) (z_int : PySem.W.nsIn K mainGlobals "int" = some none) (z_isinstance : PySem.W.nsIn K mainGlobals "isinstance" = some none) (z_len : PySem.W.nsIn K mainGlobals "len" = some none) (z_list : PySem.W.nsIn K mainGlobals "list" = some none) (z_max : PySem.W.nsIn K mainGlobals "max" = some none) (z_min : PySem.W.nsIn K mainGlobals "min" = some none) (z_range : PySem.W.nsIn K mainGlobals "range" = some none) (z_str : PySem.W.nsIn K mainGlobals "str" = some none) (z_sum : PySem.W.nsIn K mainGlobals "sum" = some none) (z_tuple : PySem.W.nsIn K mainGlobals "tuple" = some none) (nl : noListB K = true) :
    NoList K ∧ ∃ fd : FuncData, (∀ (s : Shared) (v : Value), BindsTo s fd ⟨[v], []⟩ [("_law_script", v)]) ∧ ∀ base : Heap, K.In base → base.Ns mainGlobals mg → FnG P w K mg base 81 fa fd ["_law_script"] (lfSp ⟨K, P, w⟩ sp_law) := by
  have e := hfa.symm.trans (PySem.W.mg_of X G a12)
  cases e
  have T : Txt ⟨K, P, w⟩ mg := ⟨⟨_, PySem.W.mg_of X G cE⟩, PySem.W.mg_none_of X G z_bool, PySem.W.mg_none_of X G z_int, PySem.W.mg_none_of X G z_isinstance, PySem.W.mg_none_of X G z_len, PySem.W.mg_none_of X G z_list, PySem.W.mg_none_of X G z_max, PySem.W.mg_none_of X G z_min, PySem.W.mg_none_of X G z_range, PySem.W.mg_none_of X G z_str, PySem.W.mg_none_of X G z_sum, PySem.W.mg_none_of X G z_tuple⟩
  have F0 := fun_mk (st := s_words_of) l0 c0 k0
  have B0 := F0.binds (ps := ["grove"]) fun _ _ _ _ _ _ us hl => match us, hl with | [_], _ => rfl
  have F1 := fun_mk (st := s_size) l1 c1 k1
  have B1 := F1.binds (ps := ["grove"]) fun _ _ _ _ _ _ us hl => match us, hl with | [_], _ => rfl
  have F2 := fun_mk (st := s_distance) l2 c2 k2
  have B2 := F2.binds (ps := ["one", "other"]) fun _ _ _ _ _ _ us hl => match us, hl with | [_, _], _ => rfl
  have F3 := fun_mk (st := s__law_cell_at) l3 c3 k3
  have B3 := F3.binds (ps := ["_law_script", "_law_k"]) fun _ _ _ _ _ _ us hl => match us, hl with | [_, _], _ => rfl
  have F4 := fun_mk (st := s__law_word) l4 c4 k4
  have B4 := F4.binds (ps := ["_law_cell"]) fun _ _ _ _ _ _ us hl => match us, hl with | [_], _ => rfl
  have F5 := fun_mk (st := s__law_pool) l5 c5 k5
  have B5 := F5.binds (ps := ["_law_cell", "_law_many"]) fun _ _ _ _ _ _ us hl => match us, hl with | [_, _], _ => rfl
  have F6 := fun_mk (st := s__law_grove) l6 c6 k6
  have B6 := F6.binds (ps := ["_law_script", "_law_start", "_law_many", "_law_tags"]) fun _ _ _ _ _ _ us hl => match us, hl with | [_, _, _, _], _ => rfl
  have F7 := fun_mk (st := s__law_size) l7 c7 k7
  have B7 := F7.binds (ps := ["_law_row"]) fun _ _ _ _ _ _ us hl => match us, hl with | [_], _ => rfl
  have F8 := fun_mk (st := s__law_far) l8 c8 k8
  have B8 := F8.binds (ps := ["_law_kept", "_law_one", "_law_other"]) fun _ _ _ _ _ _ us hl => match us, hl with | [_, _, _], _ => rfl
  have F9 := fun_mk (st := s__law_flat_far) l9 c9 k9
  have B9 := F9.binds (ps := ["_law_one", "_law_other"]) fun _ _ _ _ _ _ us hl => match us, hl with | [_, _], _ => rfl
  have F10 := fun_mk (st := s__law_like) l10 c10 k10
  have B10 := F10.binds (ps := ["_law_one", "_law_cell", "_law_tags"]) fun _ _ _ _ _ _ us hl => match us, hl with | [_, _, _], _ => rfl
  have F11 := fun_mk (st := s__law_is) l11 c11 k11
  have B11 := F11.binds (ps := ["_law_told", "_law_due"]) fun _ _ _ _ _ _ us hl => match us, hl with | [_, _], _ => rfl
  have F12 := fun_mk (st := s_law) l12 c12 k12
  have B12 := F12.binds (ps := ["_law_script"]) fun _ _ _ _ _ _ us hl => match us, hl with | [_], _ => rfl
  refine ⟨noList_of nl, PySem.W.fnOf "law" "law" (defArgs s_law) (defBody s_law) (defScope s_law) .none kV12 dc12 pm12 an12 cd12 ct12, fun s v => .of_eq rfl, fun base _ _ => ?_⟩
  have C0 : Cal ⟨K, P, w⟩ mg base 1 "words_of" sp_words_of := cal_of F0 (PySem.W.mg_of X G a0) B0 sc_words_of len_words_of (b_words_of T) r_words_of
  have C1 : Cal ⟨K, P, w⟩ mg base 2 "size" sp_size := cal_of F1 (PySem.W.mg_of X G a1) B1 sc_size len_size (b_size T C0) r_size
  have C2 : ∀ n, Cal ⟨K, P, w⟩ mg base (n + 3) "distance" (sp_distance n) := fun n => by
    induction n with
    | zero => exact cal_never F2 (PySem.W.mg_of X G a2) B2 (by rintro ds P Q E ⟨g, h, _, _, _, z, _⟩; omega)
    | succ n ih => exact cal_of F2 (PySem.W.mg_of X G a2) B2 sc_distance (len_distance _) (b_distance n T (C1.mono (by omega)) ih) (r_distance n)
  have C3 : Cal ⟨K, P, w⟩ mg base 1 "_law_cell_at" sp__law_cell_at := cal_of F3 (PySem.W.mg_of X G a3) B3 sc__law_cell_at len__law_cell_at (b__law_cell_at T) r_cell_at
  have C4 : Cal ⟨K, P, w⟩ mg base 1 "_law_word" sp__law_word := cal_of F4 (PySem.W.mg_of X G a4) B4 sc__law_word len__law_word (b__law_word T) r_word
  have C5 : Cal ⟨K, P, w⟩ mg base 2 "_law_pool" sp__law_pool := cal_of F5 (PySem.W.mg_of X G a5) B5 sc__law_pool len__law_pool (b__law_pool T C4) r_pool
  have C6 : Cal ⟨K, P, w⟩ mg base 2 "_law_grove" sp__law_grove := cal_of F6 (PySem.W.mg_of X G a6) B6 sc__law_grove len__law_grove (b__law_grove T C3) r_grove
  have C7 : ∀ n, Cal ⟨K, P, w⟩ mg base (n + 1) "_law_size" (sp__law_size n) := fun n => by
    induction n with
    | zero => exact cal_never F7 (PySem.W.mg_of X G a7) B7 (by rintro ds P Q E ⟨g, _, _, z, _⟩; omega)
    | succ n ih => exact cal_of F7 (PySem.W.mg_of X G a7) B7 sc__law_size (len__law_size _) (b__law_size n T ih) (r_law_size n)
  have C8 : ∀ n, CalG ⟨K, P, w⟩ mg base (n + 30) "_law_far" (sp__law_far n) := fun n => by
    induction n with
    | zero => exact calG_never F8 (PySem.W.mg_of X G a8) B8 (by rintro ds P Q E ⟨g0, h0, a, kvs, g, h, _, _, _, _, _, z, _⟩; omega)
    | succ n ih => exact calG_of F8 (PySem.W.mg_of X G a8) B8 sc__law_far (len__law_far _) (b__law_far n T ((C7 25).mono (by omega)) ih) (r_law_far n)
  have C9 : Cal ⟨K, P, w⟩ mg base 1 "_law_flat_far" sp__law_flat_far := cal_of F9 (PySem.W.mg_of X G a9) B9 sc__law_flat_far len__law_flat_far (b__law_flat_far T) r_flat_far
  have C10 : Cal ⟨K, P, w⟩ mg base 1 "_law_like" sp__law_like := cal_of F10 (PySem.W.mg_of X G a10) B10 sc__law_like len__law_like (b__law_like T) r_like
  have C11 : Cal ⟨K, P, w⟩ mg base 1 "_law_is" sp__law_is := cal_of F11 (PySem.W.mg_of X G a11) B11 sc__law_is len__law_is (b__law_is T) (r_is K)
  exact def_okG F12 sc_law len_law fun ds P' Q E hs => ⟨_, b_law T (C3.mono (by decide)) (C5.mono (by decide)) (C9.mono (by decide)) (C6.mono (by decide)) (C10.mono (by decide)) ((C8 45).mono (by decide)) ((C2 45).mono (by decide)) (C11.mono (by decide)), r_law ds P' Q E hs⟩
end K83

open PySem PySem.W PyProof.Rows in
set_option maxRecDepth 100000 in
set_option maxHeartbeats 0 in
theorem PySem.Challenge.cw_formgrove_k83_distance_by_rests_holds : PySem.Challenge.rw_formgrove_k83_distance_by_rests.Holds := by
  w_on; o_law; k_head; (case hw => w_witness2)
  k_fill
  refine PL.walk_G (l := PySem.Challenge.rw_formgrove_k83_distance_by_rests) rfl (by decide +kernel) rfl ⟨rfl, by decide, by decide⟩ (k := 81) (sp := K83.sp_law) (x := "_law_script") (fun w h Y => PySem.W.kIn_of Y) ?F ?S
  case S =>
    intro a ns P0 hl h0
    exact ⟨a, ns, rfl, h0, fun _ => rfl⟩
  case F =>
    intro w mg fa h KX G hmg
    refine' K83.all_mk KX G hmg ?a0 ?l0 ?c0 ?k0 ?a1 ?l1 ?c1 ?k1 ?a2 ?l2 ?c2 ?k2 ?a3 ?l3 ?c3 ?k3 ?a4 ?l4 ?c4 ?k4 ?a5 ?l5 ?c5 ?k5 ?a6 ?l6 ?c6 ?k6 ?a7 ?l7 ?c7 ?k7 ?a8 ?l8 ?c8 ?k8 ?a9 ?l9 ?c9 ?k9 ?a10 ?l10 ?c10 ?k10 ?a11 ?l11 ?c11 ?k11 ?a12 ?l12 ?c12 ?k12 ?cE ?z_bool ?z_int ?z_isinstance ?z_len ?z_list ?z_max ?z_min ?z_range ?z_str ?z_sum ?z_tuple ?nl
    (case a0 => k_is)
    (case l0 => k_is)
    (case c0 => k_is)
    (case k0 => k_is)
    (case a1 => k_is)
    (case l1 => k_is)
    (case c1 => k_is)
    (case k1 => k_is)
    (case a2 => k_is)
    (case l2 => k_is)
    (case c2 => k_is)
    (case k2 => k_is)
    (case a3 => k_is)
    (case l3 => k_is)
    (case c3 => k_is)
    (case k3 => k_is)
    (case a4 => k_is)
    (case l4 => k_is)
    (case c4 => k_is)
    (case k4 => k_is)
    (case a5 => k_is)
    (case l5 => k_is)
    (case c5 => k_is)
    (case k5 => k_is)
    (case a6 => k_is)
    (case l6 => k_is)
    (case c6 => k_is)
    (case k6 => k_is)
    (case a7 => k_is)
    (case l7 => k_is)
    (case c7 => k_is)
    (case k7 => k_is)
    (case a8 => k_is)
    (case l8 => k_is)
    (case c8 => k_is)
    (case k8 => k_is)
    (case a9 => k_is)
    (case l9 => k_is)
    (case c9 => k_is)
    (case k9 => k_is)
    (case a10 => k_is)
    (case l10 => k_is)
    (case c10 => k_is)
    (case k10 => k_is)
    (case a11 => k_is)
    (case l11 => k_is)
    (case c11 => k_is)
    (case k11 => k_is)
    (case a12 => k_is)
    (case l12 => k_is)
    (case c12 => k_is)
    (case k12 => k_is)
    (case cE => k_is)
    (case z_bool => k_is)
    (case z_int => k_is)
    (case z_isinstance => k_is)
    (case z_len => k_is)
    (case z_list => k_is)
    (case z_max => k_is)
    (case z_min => k_is)
    (case z_range => k_is)
    (case z_str => k_is)
    (case z_sum => k_is)
    (case z_tuple => k_is)
    (case nl => first | with_unfolding_all rfl | kernel_rfl)
